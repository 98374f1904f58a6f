import PyProof.Rows.All
import Wide.All
import OpenK.AllK
import Wide.FinOn
import HandS.ForMost
import HandS.ForExc
import HandS.Wide
import HandS.TupAny
import HandS.IsInst
import HandS.ExcField
import HandS.Walk
import HandS.More
import HandS.ExcInit
import HandS.Nested
import KE.KExcSuper
import HandS.ExcIs
import KE.KExcIs
import HandS.TryOnly
import HandS.WordsExc
import HandS.TupLe
import HandS.Property
import HandS.Defaults
import HandS.MakeKwOnly
import HandS.SlotsOwn
import KE.KOpsOwn
import HandS.CallSlots
import HandS.Comp
import HandS.Iter
import HandS.Text
import HandS.FStr
import HandS.Zip
import KE.GoesMore
import HandS.TupMul
import KE.KIntText
import PySem.Challenge.RW_mixpace_k13_empty_standing_and_beat
set_option Elab.async false
set_option linter.all false
set_option maxRecDepth 100000
set_option maxHeartbeats 4000000
/-! Dv: a layer of deep values over HandS: data, slots, what a def's body does as a function of its slots. -/
namespace Dv
open PySem PySem.Spec L2
open PyProof.Rows hiding St

/-- deep values: tuples, lists, instances by what they hold -/
inductive D where
  | non | bl (b : Bool) | int (i : Int) | str (x : Str) | ty (n : String) | ob (a : Addr)
  | tup (xs : List D) | lst (xs : List D) | ins (C : Addr) (fn : List Str) (ds : List D)
  /-- a cell of the store -/
  | rf (n : Nat)

mutual
/-- no list within -/
def flat : D → Bool
  | .lst _ => false
  | .tup xs => flats xs
  | .ins _ _ ds => flats ds
  | .non => true | .bl _ => true | .int _ => true | .str _ => true | .ty _ => true | .ob _ => true | .rf _ => false
def flats : List D → Bool
  | [] => true
  | d :: ds => flat d && flats ds
end

/-- an exception: its class, its fields -/
structure Exn where
  C : Addr
  fn : List Str
  ds : List D
inductive Res (α : Type) where
  | ok (a : α) | exc (x : Exn) | stuck
namespace Res
def bind {α β : Type} (r : Res α) (f : α → Res β) : Res β := match r with
  | .ok a => f a
  | .exc x => .exc x
  | .stuck => .stuck
@[simp] theorem bind_ok {α β : Type} (a : α) (f : α → Res β) : bind (.ok a) f = f a := rfl
@[simp] theorem bind_exc {α β : Type} (x : Exn) (f : α → Res β) : bind (.exc x) f = .exc x := rfl
@[simp] theorem bind_stuck {α β : Type} (f : α → Res β) : bind (.stuck : Res α) f = .stuck := rfl
end Res

section
variable (K : PySem.W.Frag)
mutual
/-- v stands for d in H. s: every list within is tracked as it is and not among N; instances are never among M -/
def Rep (H : Hp) (N M : Addr → Prop) (ι : List Addr) (s : Bool) : V → D → Prop
  | v, .non => v = .non
  | v, .bl b => v = .bl b
  | v, .int i => v = .int i
  | v, .str x => v = .str x
  | v, .ty n => v = .ty n
  | v, .ob a => v = .ref a
  | v, .tup ds => ∃ a vs, v = .ref a ∧ SqT K H a vs ∧ Reps H N M ι s vs ds
  | v, .lst ds => ∃ a vs, v = .ref a ∧ (s = true → H a = some (.lst vs) ∧ ¬ N a) ∧ SqL K H a vs ∧ Reps H N M ι s vs ds
  | v, .ins C fn ds => ∃ a dx fs, v = .ref a ∧ ¬ M a ∧ H a = some (.ins C dx fs) ∧ fs.map (·.1) = fn ∧ Reps H N M ι s (fs.map (·.2)) ds
  | v, .rf n => ∃ a, ι[n]? = some a ∧ v = .ref a
def Reps (H : Hp) (N M : Addr → Prop) (ι : List Addr) (s : Bool) : List V → List D → Prop
  | vs, [] => vs = []
  | vs, d :: ds => ∃ v r, vs = v :: r ∧ Rep H N M ι s v d ∧ Reps H N M ι s r ds
end
end

section
variable {K : PySem.W.Frag} {H H' : Hp} {N M N' M' : Addr → Prop} {ι ι' : List Addr} {s s' : Bool}
theorem Reps.length : ∀ {ds : List D} {vs : List V}, Reps K H N M ι s vs ds → vs.length = ds.length
  | [], vs, h => by
    have e : vs = [] := h
    rw [e]; rfl
  | d :: ds, vs, h => by
    obtain ⟨v, r, rfl, _, h⟩ := h
    show r.length + 1 = ds.length + 1
    rw [Reps.length h]
theorem Reps.get : ∀ {ds : List D} {vs : List V} {i : Nat} {d : D}, Reps K H N M ι s vs ds → ds[i]? = some d → ∃ v, vs[i]? = some v ∧ Rep K H N M ι s v d
  | [], _, _, _, _, e => by simp at e
  | d :: ds, vs, 0, d', h, e => by
    obtain ⟨v, r, rfl, h1, _⟩ := h
    have e' : d = d' := by simpa using e
    subst e'
    exact ⟨v, rfl, h1⟩
  | d :: ds, vs, i + 1, d', h, e => by
    obtain ⟨v, r, rfl, _, h2⟩ := h
    obtain ⟨u, e1, h3⟩ := Reps.get (i := i) (d := d') h2 (by simpa using e)
    exact ⟨u, by simpa using e1, h3⟩
theorem Reps.at' : ∀ {ds : List D} {vs : List V} {i : Nat} {v : V}, Reps K H N M ι s vs ds → vs[i]? = some v → ∃ d, ds[i]? = some d ∧ Rep K H N M ι s v d := fun {ds vs i v} h e => by
  have hl := h.length
  have hi : i < ds.length := by
    rw [← hl]; exact (List.getElem?_eq_some_iff.mp e).1
  obtain ⟨u, e1, h1⟩ := h.get (i := i) (d := ds[i]) (List.getElem?_eq_getElem hi)
  rw [e] at e1; cases e1
  exact ⟨_, List.getElem?_eq_getElem hi, h1⟩
theorem Reps.append : ∀ {ds es : List D} {vs ws : List V}, Reps K H N M ι s vs ds → Reps K H N M ι s ws es → Reps K H N M ι s (vs ++ ws) (ds ++ es)
  | [], es, vs, ws, h, h' => by
    have e : vs = [] := h
    rw [e]; exact h'
  | d :: ds, es, vs, ws, h, h' => by
    obtain ⟨v, r, rfl, h1, h2⟩ := h
    exact ⟨v, r ++ ws, rfl, h1, Reps.append h2 h'⟩
theorem Reps.take : ∀ {ds : List D} {vs : List V} (n : Nat), Reps K H N M ι s vs ds → Reps K H N M ι s (vs.take n) (ds.take n)
  | _, _, 0, _ => by simp [Reps]
  | [], vs, n + 1, h => by
    have e : vs = [] := h
    rw [e]; exact rfl
  | d :: ds, vs, n + 1, h => by
    obtain ⟨v, r, rfl, h1, h2⟩ := h
    exact ⟨v, r.take n, rfl, h1, Reps.take n h2⟩
theorem Reps.drop : ∀ {ds : List D} {vs : List V} (n : Nat), Reps K H N M ι s vs ds → Reps K H N M ι s (vs.drop n) (ds.drop n)
  | _, _, 0, h => h
  | [], vs, n + 1, h => by
    have e : vs = [] := h
    rw [e]; exact rfl
  | d :: ds, vs, n + 1, h => by
    obtain ⟨v, r, rfl, h1, h2⟩ := h
    exact Reps.drop n h2
theorem Reps.set : ∀ {ds : List D} {vs : List V} (n : Nat) {v : V} {d : D}, Reps K H N M ι s vs ds → Rep K H N M ι s v d → Reps K H N M ι s (vs.set n v) (ds.set n d)
  | [], vs, n, v, d, h, _ => by
    have e : vs = [] := h
    rw [e]; exact rfl
  | _ :: _, _, 0, v, d, h, h' => by
    obtain ⟨v, r, rfl, h1, h2⟩ := h
    exact ⟨_, r, rfl, h', h2⟩
  | _ :: _, _, n + 1, v, d, h, h' => by
    obtain ⟨v, r, rfl, h1, h2⟩ := h
    exact ⟨v, _, rfl, h1, Reps.set n h2 h'⟩
theorem Reps.rep {v : V} {d : D} (h : Rep K H N M ι s v d) : ∀ n : Nat, Reps K H N M ι s (List.replicate n v) (List.replicate n d)
  | 0 => rfl
  | n + 1 => ⟨v, _, rfl, h, Reps.rep h n⟩

mutual
theorem Rep.map (hT : ∀ a xs, SqT K H a xs → SqT K H' a xs)
    (hL : ∀ a xs, (s = true → H a = some (.lst xs) ∧ ¬ N a) → SqL K H a xs → (s' = true → H' a = some (.lst xs) ∧ ¬ N' a) ∧ SqL K H' a xs)
    (hI : ∀ a C dx fs, ¬ M a → H a = some (.ins C dx fs) → ¬ M' a ∧ H' a = some (.ins C dx fs)) (hR : ∀ (n : Nat) (a : Addr), ι[n]? = some a → ι'[n]? = some a := by exact fun _ _ z => z) :
    ∀ (d : D) (v : V), Rep K H N M ι s v d → Rep K H' N' M' ι' s' v d
  | .non, _, h => h
  | .bl _, _, h => h
  | .int _, _, h => h
  | .str _, _, h => h
  | .ty _, _, h => h
  | .ob _, _, h => h
  | .tup ds, v, h => by
    obtain ⟨a, vs, e, h1, h2⟩ := h
    exact ⟨a, vs, e, hT a vs h1, Reps.map hT hL hI hR ds vs h2⟩
  | .lst ds, v, h => by
    obtain ⟨a, vs, e, h1, h2, h3⟩ := h
    obtain ⟨q1, q2⟩ := hL a vs h1 h2
    exact ⟨a, vs, e, q1, q2, Reps.map hT hL hI hR ds vs h3⟩
  | .ins C fn ds, v, h => by
    obtain ⟨a, dx, fs, e, h1, h2, h3, h4⟩ := h
    obtain ⟨q1, q2⟩ := hI a C dx fs h1 h2
    exact ⟨a, dx, fs, e, q1, q2, h3, Reps.map hT hL hI hR ds _ h4⟩
  | .rf n, v, h => by
    obtain ⟨a, h1, h2⟩ := h
    exact ⟨a, hR n a h1, h2⟩
theorem Reps.map (hT : ∀ a xs, SqT K H a xs → SqT K H' a xs)
    (hL : ∀ a xs, (s = true → H a = some (.lst xs) ∧ ¬ N a) → SqL K H a xs → (s' = true → H' a = some (.lst xs) ∧ ¬ N' a) ∧ SqL K H' a xs)
    (hI : ∀ a C dx fs, ¬ M a → H a = some (.ins C dx fs) → ¬ M' a ∧ H' a = some (.ins C dx fs)) (hR : ∀ (n : Nat) (a : Addr), ι[n]? = some a → ι'[n]? = some a := by exact fun _ _ z => z) :
    ∀ (ds : List D) (vs : List V), Reps K H N M ι s vs ds → Reps K H' N' M' ι' s' vs ds
  | [], _, h => h
  | d :: ds, vs, h => by
    obtain ⟨v, r, e, h1, h2⟩ := h
    exact ⟨v, r, e, Rep.map hT hL hI hR d v h1, Reps.map hT hL hI hR ds r h2⟩
end
theorem sqT_same (e : Same H H') {a : Addr} {xs : List V} (h : SqT K H a xs) : SqT K H' a xs := by
  rcases h with (h | ⟨o, h⟩) | h
  · exact .inl (.inl (e _ _ h))
  · exact .inl (.inr ⟨o, e _ _ h⟩)
  · exact .inr h
theorem Rep.same (e : Same H H') {d : D} {v : V} (h : Rep K H N M ι s v d) : Rep K H' N M ι s v d :=
  Rep.map (fun _ _ q => sqT_same e q) (fun a xs h1 h2 => ⟨fun z => ⟨e _ _ (h1 z).1, (h1 z).2⟩, e.seq h2⟩) (fun a C dx fs h1 h2 => ⟨h1, e _ _ h2⟩) (fun _ _ z => z) d v h
theorem Reps.same (e : Same H H') {ds : List D} {vs : List V} (h : Reps K H N M ι s vs ds) : Reps K H' N M ι s vs ds :=
  Reps.map (fun _ _ q => sqT_same e q) (fun a xs h1 h2 => ⟨fun z => ⟨e _ _ (h1 z).1, (h1 z).2⟩, e.seq h2⟩) (fun a C dx fs h1 h2 => ⟨h1, e _ _ h2⟩) (fun _ _ z => z) ds vs h
theorem Rep.relax {d : D} {v : V} (h : Rep K H N M ι true v d) : Rep K H N M ι false v d :=
  Rep.map (s' := false) (fun _ _ q => q) (fun a xs h1 h2 => ⟨fun z => (nomatch z), h2⟩) (fun a C dx fs h1 h2 => ⟨h1, h2⟩) (fun _ _ z => z) d v h
theorem Reps.relax {ds : List D} {vs : List V} (h : Reps K H N M ι true vs ds) : Reps K H N M ι false vs ds :=
  Reps.map (s' := false) (fun _ _ q => q) (fun a xs h1 h2 => ⟨fun z => (nomatch z), h2⟩) (fun a C dx fs h1 h2 => ⟨h1, h2⟩) (fun _ _ z => z) ds vs h
theorem Rep.to (h : Rep K H N M ι true v d) : Rep K H N M ι s v d := by
  cases s with
  | true => exact h
  | false => exact h.relax
theorem Reps.to {vs : List V} {ds : List D} (h : Reps K H N M ι true vs ds) : Reps K H N M ι s vs ds := by
  cases s with
  | true => exact h
  | false => exact h.relax
theorem Rep.any (h : Rep K H N M ι s v d) : Rep K H N M ι false v d := by
  cases s with
  | true => exact h.relax
  | false => exact h
theorem Reps.any {vs : List V} {ds : List D} (h : Reps K H N M ι s vs ds) : Reps K H N M ι false vs ds := by
  cases s with
  | true => exact h.relax
  | false => exact h
theorem Rep.weak (hN : ∀ a, N' a → N a) (hM : ∀ a, M' a → M a) (hR : ∀ (n : Nat) (a : Addr), ι[n]? = some a → ι'[n]? = some a := by exact fun _ _ z => z) {d : D} {v : V} (h : Rep K H N M ι s v d) : Rep K H N' M' ι' s v d :=
  Rep.map (fun _ _ q => q) (fun a xs h1 h2 => ⟨fun z => ⟨(h1 z).1, fun q => (h1 z).2 (hN a q)⟩, h2⟩) (fun a C dx fs h1 h2 => ⟨fun q => h1 (hM a q), h2⟩) hR d v h
theorem Reps.weak (hN : ∀ a, N' a → N a) (hM : ∀ a, M' a → M a) (hR : ∀ (n : Nat) (a : Addr), ι[n]? = some a → ι'[n]? = some a := by exact fun _ _ z => z) {ds : List D} {vs : List V} (h : Reps K H N M ι s vs ds) : Reps K H N' M' ι' s vs ds :=
  Reps.map (fun _ _ q => q) (fun a xs h1 h2 => ⟨fun z => ⟨(h1 z).1, fun q => (h1 z).2 (hN a q)⟩, h2⟩) (fun a C dx fs h1 h2 => ⟨fun q => h1 (hM a q), h2⟩) hR ds vs h
/-- relaxed: N does not matter -/
theorem Rep.anyN {d : D} {v : V} (h : Rep K H N M ι false v d) : Rep K H N' M ι false v d :=
  Rep.map (s' := false) (fun _ _ q => q) (fun a xs h1 h2 => ⟨fun z => (nomatch z), h2⟩) (fun a C dx fs h1 h2 => ⟨h1, h2⟩) (fun _ _ z => z) d v h
theorem Reps.anyN {ds : List D} {vs : List V} (h : Reps K H N M ι false vs ds) : Reps K H N' M ι false vs ds :=
  Reps.map (s' := false) (fun _ _ q => q) (fun a xs h1 h2 => ⟨fun z => (nomatch z), h2⟩) (fun a C dx fs h1 h2 => ⟨h1, h2⟩) (fun _ _ z => z) ds vs h
mutual
theorem Rep.flat : ∀ (d : D) (v : V), Dv.flat d = true → Rep K H N M ι s v d → Rep K H N' M ι' s' v d
  | .non, _, _, h => h
  | .bl _, _, _, h => h
  | .int _, _, _, h => h
  | .str _, _, _, h => h
  | .ty _, _, _, h => h
  | .ob _, _, _, h => h
  | .tup ds, v, f, h => by
    obtain ⟨a, vs, e, h1, h2⟩ := h
    exact ⟨a, vs, e, h1, Reps.flat ds vs f h2⟩
  | .lst ds, v, f, h => (by cases f)
  | .ins C fn ds, v, f, h => by
    obtain ⟨a, dx, fs, e, h1, h2, h3, h4⟩ := h
    exact ⟨a, dx, fs, e, h1, h2, h3, Reps.flat ds _ f h4⟩
  | .rf n, v, f, h => (by cases f)
theorem Reps.flat : ∀ (ds : List D) (vs : List V), Dv.flats ds = true → Reps K H N M ι s vs ds → Reps K H N' M ι' s' vs ds
  | [], _, _, h => h
  | d :: ds, vs, f, h => by
    obtain ⟨v, r, e, h1, h2⟩ := h
    have f' : (Dv.flat d && Dv.flats ds) = true := f
    obtain ⟨f1, f2⟩ := Bool.and_eq_true_iff.mp f'
    exact ⟨v, r, e, Rep.flat d v f1 h1, Reps.flat ds r f2 h2⟩
end
end

/-! ### slots -/
/-- what a cell of the store holds -/
inductive Ce where
  | lst (ds : List D) | ins (C : Addr) (fn : List Str) (ds : List D) | gone
inductive Sl where
  | no
  /-- shared data; a parameter that may hold lists of the caller's -/
  | sh (d : D) | bo (d : D)
  /-- a list of one's own; an instance of one's own -/
  | ow (ds : List D) | oi (C : Addr) (fn : List Str) (ds : List D)
  /-- the caught exception -/
  | xv (x : Exn)
/-- the names' slots; the store, if the def has one -/
structure Rho where
  sl : List Sl
  st : Option (List Ce)
def Rho.set (ρ : Rho) (i : Nat) (x : Sl) : Rho := ⟨ρ.sl.set i x, ρ.st⟩
@[simp] theorem Rho.set_mk (l : List Sl) (S : Option (List Ce)) (i : Nat) (x : Sl) : (Rho.mk l S).set i x = ⟨l.set i x, S⟩ := rfl
/-- the entry's heap; the instance that the def may change (self); instances that no datum may hold; lists that no result may hold -/
structure Sg where
  H0 : Hp
  IO : Addr → Prop
  Mx : Addr → Prop
  Z : Addr → Prop
  /-- the cells at entry; whether the def has a store; the cells that it may change -/
  i0 : List Addr
  cells : Bool
  c0 : List Addr
  /-- values that are kept besides -/
  gh : List (V × D)
  /-- the exception that is handled: where, its class, its own dict -/
  ea : Option (Addr × Value × Option Addr) := none
def Sg.add (G : Sg) (g : List (V × D)) : Sg := { G with gh := g ++ G.gh }
/-- where the lists of the slots are; where the cells are -/
structure Pl where
  o : Nat → Option Addr
  c : List Addr
instance : CoeFun Pl (fun _ => Nat → Option Addr) := ⟨Pl.o⟩
def Pl.own (P : Pl) (a : Addr) : Prop := (∃ i, P.o i = some a) ∨ a ∈ P.c
def Sg.N (G : Sg) (P : Pl) : Addr → Prop := fun a => G.Z a ∨ P.own a
def Sg.M (G : Sg) (P : Pl) : Addr → Prop := fun a => G.Mx a ∨ P.own a

def XRep (K : PySem.W.Frag) (N M : Addr → Prop) (ι : List Addr) (H : Hp) (cls : Value) (od : Option Addr) (x : Exn) : Prop :=
  cls = .ref x.C ∧ match od with
    | none => x.fn = [] ∧ x.ds = []
    | some dd => ∃ fs, H dd = some (.xd fs) ∧ fs.map (·.1) = x.fn ∧ Reps K H N M ι true (fs.map (·.2)) x.ds
theorem XRep.weak {K : PySem.W.Frag} {N M N' M' : Addr → Prop} {ι ι' : List Addr} {H : Hp} {cls : Value} {od : Option Addr} {x : Exn} (hN : ∀ a, N' a → N a) (hM : ∀ a, M' a → M a) (h : XRep K N M ι H cls od x)
    (hR : ∀ (n : Nat) (a : Addr), ι[n]? = some a → ι'[n]? = some a := by exact fun _ _ z => z) : XRep K N' M' ι' H cls od x := by
  obtain ⟨h1, h2⟩ := h
  refine ⟨h1, ?_⟩
  cases od with
  | none => exact h2
  | some dd => obtain ⟨fs, q1, q2, q3⟩ := h2; exact ⟨fs, q1, q2, q3.weak hN hM hR⟩
theorem XRep.same {K : PySem.W.Frag} {N M : Addr → Prop} {ι : List Addr} {H H' : Hp} {cls : Value} {od : Option Addr} {x : Exn} (e : Same H H') (h : XRep K N M ι H cls od x) : XRep K N M ι H' cls od x := by
  obtain ⟨h1, h2⟩ := h
  refine ⟨h1, ?_⟩
  cases od with
  | none => exact h2
  | some dd => obtain ⟨fs, q1, q2, q3⟩ := h2; exact ⟨fs, e _ _ q1, q2, q3.same e⟩
def SlOk (K : PySem.W.Frag) (G : Sg) (P : Pl) (σ : St) (H : Hp) (i : Nat) : Sl → Prop
  | .no => P i = none
  | .sh d => P i = none ∧ ∃ v, σ[i]? = some (some v) ∧ Rep K H (G.N P) (G.M P) P.c true v d
  | .bo d => P i = none ∧ ∃ v, σ[i]? = some (some v) ∧ Rep K G.H0 (fun _ => False) (fun a => G.Mx a ∨ G.IO a) G.i0 false v d
  | .ow ds => ∃ p vs, P i = some p ∧ σ[i]? = some (some (.ref p)) ∧ H p = some (.lst vs) ∧ Reps K H (G.N P) (G.M P) P.c true vs ds
  | .oi C fn ds => ∃ p dx fs, (P i = some p ∧ G.IO p) ∧ σ[i]? = some (some (.ref p)) ∧ H p = some (.ins C dx fs) ∧ fs.map (·.1) = fn ∧ Reps K H (G.N P) (G.M P) P.c true (fs.map (·.2)) ds
  | .xv x => P i = none ∧ ∃ a cls od, G.ea = some (a, cls, od) ∧ σ[i]? = some (some (.ref a)) ∧ XRep K (G.N P) (G.M P) P.c H cls od x
def CeOk (K : PySem.W.Frag) (G : Sg) (P : Pl) (H : Hp) (a : Addr) : Ce → Prop
  | .lst ds => ∃ vs, H a = some (.lst vs) ∧ Reps K H (G.N P) (G.M P) P.c true vs ds
  | .ins C fn ds => ∃ dx fs, H a = some (.ins C dx fs) ∧ fs.map (·.1) = fn ∧ Reps K H (G.N P) (G.M P) P.c true (fs.map (·.2)) ds
  | .gone => True
/-- the store's cells -/
def StOk (K : PySem.W.Frag) (G : Sg) (P : Pl) (H : Hp) (S : List Ce) : Prop := G.cells = true ∧ S.length = P.c.length ∧ (∀ a, a ∈ G.i0 → a ∈ G.c0) ∧
  ∀ (n : Nat) (c : Ce) (a : Addr), S[n]? = some c → P.c[n]? = some a → CeOk K G P H a c

structure Sim (K : PySem.W.Frag) (G : Sg) (P : Pl) (ρ : Rho) (σ : St) (H : Hp) : Prop where
  base : ∀ a o, G.H0 a = some o → ¬ G.IO a → a ∉ G.c0 → H a = some o
  io : ∀ a, G.IO a → ∃ C dx fs, G.H0 a = some (.ins C dx fs)
  iot : ∀ a, G.IO a → ∃ C dx fs, H a = some (.ins C dx fs)
  mx : ∀ a, G.Mx a → (H a).isSome = true
  zx : ∀ a, G.Z a → (H a).isSome = true
  inj : ∀ i j a, P i = some a → P j = some a → i = j
  ic : ∀ i a, P i = some a → a ∉ P.c
  zo : ∀ i a, P i = some a → ¬ G.Z a
  nd : P.c.Nodup
  cx : ∀ a, a ∈ P.c → (H a).isSome = true
  pre : ∀ (n : Nat) (a : Addr), G.i0[n]? = some a → P.c[n]? = some a
  pc : G.cells = false → P.c = G.i0 ∧ G.c0 = []
  nw : ∀ a, a ∈ P.c → (G.H0 a).isSome = true → a ∈ G.i0
  im : ∀ a, a ∈ G.i0 → G.Mx a
  c0c : ∀ a, a ∈ G.c0 → a ∈ P.c
  own : ∀ i a, P i = some a → (G.H0 a).isSome = true → G.IO a
  ioc : ∀ a, G.IO a → a ∉ G.c0
  out : ∀ i, ρ.sl.length ≤ i → P i = none
  len : ρ.sl.length = σ.length
  sl : ∀ i x, ρ.sl[i]? = some x → SlOk K G P σ H i x
  nb : G.c0 ≠ [] → ∀ (i : Nat) (d : D), ρ.sl[i]? ≠ some (.bo d)
  st : ∀ S, ρ.st = some S → StOk K G P H S
  gs : ∀ p, p ∈ G.gh → Rep K H (G.N P) (G.M P) P.c true p.1 p.2

section
variable {K : PySem.W.Frag} {G : Sg} {P : Pl} {ρ : Rho} {σ : St} {H H' : Hp}
theorem SlOk.same (e : Same H H') {i : Nat} {x : Sl} (h : SlOk K G P σ H i x) : SlOk K G P σ H' i x := by
  cases x with
  | no => exact h
  | sh d => obtain ⟨h1, v, h2, h3⟩ := h; exact ⟨h1, v, h2, h3.same e⟩
  | bo d => exact h
  | ow ds => obtain ⟨p, vs, h1, h2, h3, h4⟩ := h; exact ⟨p, vs, h1, h2, e _ _ h3, h4.same e⟩
  | oi C fn ds => obtain ⟨p, dx, fs, h1, h2, h3, h4, h5⟩ := h; exact ⟨p, dx, fs, h1, h2, e _ _ h3, h4, h5.same e⟩
  | xv x => obtain ⟨h1, a, cls, od, h2, h3, h4⟩ := h; exact ⟨h1, a, cls, od, h2, h3, h4.same e⟩
theorem CeOk.same (e : Same H H') {a : Addr} {c : Ce} (h : CeOk K G P H a c) : CeOk K G P H' a c := by
  cases c with
  | lst ds => obtain ⟨vs, h1, h2⟩ := h; exact ⟨vs, e _ _ h1, h2.same e⟩
  | ins C fn ds => obtain ⟨dx, fs, h1, h2, h3⟩ := h; exact ⟨dx, fs, e _ _ h1, h2, h3.same e⟩
  | gone => trivial
theorem StOk.same (e : Same H H') {S : List Ce} (h : StOk K G P H S) : StOk K G P H' S :=
  ⟨h.1, h.2.1, h.2.2.1, fun n c a h1 h2 => (h.2.2.2 n c a h1 h2).same e⟩
theorem some_same {a : Addr} (e : Same H H') (h : (H a).isSome = true) : (H' a).isSome = true := by
  obtain ⟨o, q⟩ := Option.isSome_iff_exists.mp h
  rw [e a o q]; rfl
theorem Sim.same (S : Sim K G P ρ σ H) (e : Same H H') : Sim K G P ρ σ H' where
  base a o h1 h2 h3 := e _ _ (S.base a o h1 h2 h3)
  io := S.io
  iot a h := let ⟨C, dx, fs, q⟩ := S.iot a h; ⟨C, dx, fs, e _ _ q⟩
  mx a h := some_same e (S.mx a h)
  zx a h := some_same e (S.zx a h)
  inj := S.inj
  ic := S.ic
  zo := S.zo
  nd := S.nd
  cx a h := some_same e (S.cx a h)
  pre := S.pre
  pc := S.pc
  nw := S.nw
  im := S.im
  c0c := S.c0c
  own := S.own
  ioc := S.ioc
  out := S.out
  len := S.len
  sl i x h := (S.sl i x h).same e
  nb := S.nb
  st Q h := (S.st Q h).same e
  gs p h := (S.gs p h).same e
/-- what is owned is tracked -/
theorem Sim.there (S : Sim K G P ρ σ H) {i : Nat} {a : Addr} (h : P i = some a) : ∃ o, H a = some o := by
  by_cases hi : i < ρ.sl.length
  · have q := S.sl i _ (List.getElem?_eq_getElem hi)
    cases e : ρ.sl[i] with
    | no => rw [e] at q; have q' : P i = none := q; rw [h] at q'; cases q'
    | sh d => rw [e] at q; have q' : P i = none := q.1; rw [h] at q'; cases q'
    | bo d => rw [e] at q; have q' : P i = none := q.1; rw [h] at q'; cases q'
    | ow ds => rw [e] at q; obtain ⟨p, vs, h1, h2, h3, h4⟩ := q; rw [h] at h1; cases h1; exact ⟨_, h3⟩
    | oi C fn ds => rw [e] at q; obtain ⟨p, dx, fs, ⟨h1, _⟩, h2, h3, h4⟩ := q; rw [h] at h1; cases h1; exact ⟨_, h3⟩
    | xv x => rw [e] at q; have q' : P i = none := q.1; rw [h] at q'; cases q'
  · have q := S.out i (by omega)
    rw [h] at q; cases q
theorem Sim.ownThere (S : Sim K G P ρ σ H) {a : Addr} (h : P.own a) : (H a).isSome = true := by
  rcases h with ⟨i, h⟩ | h
  · obtain ⟨o, q⟩ := S.there h
    rw [q]; rfl
  · exact S.cx a h
/-- a new address is not among N, nor M -/
theorem Sim.newO (S : Sim K G P ρ σ H) {a : Addr} (h : H a = none) : ¬ P.own a := fun z => by
  have := S.ownThere z
  rw [h] at this; cases this
theorem Sim.newN (S : Sim K G P ρ σ H) {a : Addr} (h : H a = none) : ¬ G.N P a := by
  rintro (z | z)
  · have := S.zx a z
    rw [h] at this; cases this
  · exact S.newO h z
theorem Sim.newM (S : Sim K G P ρ σ H) {a : Addr} (h : H a = none) : ¬ G.M P a := by
  rintro (z | z)
  · have := S.mx a z
    rw [h] at this; cases this
  · exact S.newO h z
/-- what stood at entry stands -/
theorem Sim.dom0 (S : Sim K G P ρ σ H) {a : Addr} (h : (G.H0 a).isSome = true) : (H a).isSome = true := by
  by_cases hi : G.IO a
  · obtain ⟨C, dx, fs, q⟩ := S.iot a hi
    rw [q]; rfl
  · by_cases hc : a ∈ G.c0
    · exact S.cx a (S.c0c a hc)
    · obtain ⟨o, q⟩ := Option.isSome_iff_exists.mp h
      rw [S.base a o q hi hc]; rfl
theorem Sim.c0_bo (S : Sim K G P ρ σ H) {i : Nat} {d : D} (h : ρ.sl[i]? = some (.bo d)) : G.c0 = [] := by
  by_cases hc : G.c0 = []
  · exact hc
  · exact absurd h (S.nb hc i d)
theorem Sim.keep (S : Sim K G P ρ σ H) (hc : G.c0 = []) : ∀ a o, G.H0 a = some o → (∀ C dx fs, o ≠ .ins C dx fs) → H a = some o := fun a o e ne => by
  refine S.base a o e (fun z => ?_) (by rw [hc]; exact List.not_mem_nil)
  obtain ⟨C, dx, fs, q⟩ := S.io a z
  rw [e] at q
  exact ne C dx fs (Option.some.inj q)
theorem Sim.keepT (S : Sim K G P ρ σ H) (hc : G.c0 = []) {a : Addr} {xs : List V} (h : SqT K G.H0 a xs) : SqT K H a xs := by
  have kp := S.keep hc
  rcases h with (q | ⟨o, q⟩) | q
  · exact .inl (.inl (kp _ _ q fun _ _ _ z => by cases z))
  · exact .inl (.inr ⟨o, kp _ _ q fun _ _ _ z => by cases z⟩)
  · exact .inr q
theorem Sim.keepL (S : Sim K G P ρ σ H) (hc : G.c0 = []) {a : Addr} {xs : List V} (h : SqL K G.H0 a xs) : SqL K H a xs := by
  have kp := S.keep hc
  rcases h with (q | ⟨o, q⟩) | q
  · exact .inl (.inl (kp _ _ q fun _ _ _ z => by cases z))
  · exact .inl (.inr ⟨o, kp _ _ q fun _ _ _ z => by cases z⟩)
  · exact .inr q
/-- what an entry's datum is now -/
theorem Sim.ofBo (S : Sim K G P ρ σ H) (hc : G.c0 = []) {d : D} {v : V} (h : Rep K G.H0 (fun _ => False) (fun a => G.Mx a ∨ G.IO a) G.i0 false v d) : Rep K H (G.N P) (G.M P) P.c false v d := by
  refine Rep.map (s' := false) (fun a xs q => S.keepT hc q) (fun a xs _ q => ⟨fun z => (nomatch z), S.keepL hc q⟩) (fun a C dx fs h1 h2 => ⟨?_, S.base a _ h2 (fun z => h1 (.inr z)) (by rw [hc]; exact List.not_mem_nil)⟩) S.pre d v h
  rintro (z | ⟨i, z⟩ | z)
  · exact h1 (.inl z)
  · exact h1 (.inr (S.own i a z (by rw [h2]; rfl)))
  · exact h1 (.inl (S.im a (S.nw a z (by rw [h2]; rfl))))
end

/-! ### the canonical readings -/
/-- what is wanted of an outcome: okP of a value and the heap behind it, W of an exception -/
def PostG {α : Type} (K : PySem.W.Frag) (N M : Addr → Prop) (ι : List Addr) (W : WX) (σ : L2.St) (H : Hp) (okP : α → Hp → Prop) : Res α → Prop
  | .ok a => ∀ H', Same H H' → okP a H'
  | .exc x => ∀ cls od H', Same H H' → XRep K N M ι H' cls od x → W cls od σ H'
  | .stuck => False
theorem PostG.grow {α : Type} {K : PySem.W.Frag} {N M : Addr → Prop} {ι : List Addr} {W : WX} {σ : L2.St} {H H1 : Hp} {okP : α → Hp → Prop} {r : Res α} (e : Same H H1) (h : PostG K N M ι W σ H okP r) : PostG K N M ι W σ H1 okP r := by
  cases r with
  | ok a => exact fun H' e' => h H' (e.trans e')
  | exc x => exact fun cls od H' e' q => h cls od H' (e.trans e') q
  | stuck => exact h
theorem PostG.bind {α β : Type} {K : PySem.W.Frag} {N M : Addr → Prop} {ι : List Addr} {W : WX} {σ : L2.St} {H : Hp} {okP : β → Hp → Prop} {r : Res α} {k : α → Res β} (h : PostG K N M ι W σ H okP (r.bind k)) :
    PostG K N M ι W σ H (fun a H1 => PostG K N M ι W σ H1 okP (k a)) r := by
  cases r with
  | ok a => exact fun H' e => PostG.grow e h
  | exc x => exact h
  | stuck => exact h
theorem PostG.imp {α : Type} {K : PySem.W.Frag} {N M : Addr → Prop} {ι : List Addr} {W : WX} {σ : L2.St} {H : Hp} {okP okP' : α → Hp → Prop} {r : Res α} (h : PostG K N M ι W σ H okP r) (i : ∀ a H', Same H H' → okP a H' → okP' a H') : PostG K N M ι W σ H okP' r := by
  cases r with
  | ok a => exact fun H' e => i a H' e (h H' e)
  | exc x => exact h
  | stuck => exact h
theorem PostG.now {α : Type} {K : PySem.W.Frag} {N M : Addr → Prop} {ι : List Addr} {W : WX} {σ : L2.St} {H : Hp} {okP : α → Hp → Prop} {a : α} (h : PostG K N M ι W σ H okP (.ok a)) : okP a H := h H (Same.refl H)
abbrev PostE (K : PySem.W.Frag) (G : Sg) (P : Pl) (W : WX) (s : Bool) (σ : L2.St) (H : Hp) (Q : VK) : Res D → Prop :=
  PostG K (G.N P) (G.M P) P.c W σ H fun d H' => ∀ v, Rep K H' (G.N P) (G.M P) P.c s v d → Q v H'
abbrev PostA (K : PySem.W.Frag) (G : Sg) (P : Pl) (W : WX) (s : Bool) (σ : L2.St) (H : Hp) (Q : List V → Hp → Prop) : Res (List D) → Prop :=
  PostG K (G.N P) (G.M P) P.c W σ H fun ds H' => ∀ vs, Reps K H' (G.N P) (G.M P) P.c s vs ds → Q vs H'
abbrev PostT (K : PySem.W.Frag) (G : Sg) (P : Pl) (W : WX) (σ : L2.St) (H : Hp) (Q : Bool → Hp → Prop) : Res Bool → Prop :=
  PostG K (G.N P) (G.M P) P.c W σ H Q
/-- a new list -/
abbrev PostN (K : PySem.W.Frag) (G : Sg) (P : Pl) (W : WX) (σ : L2.St) (H : Hp) (Q : VK) : Res (List D) → Prop :=
  PostG K (G.N P) (G.M P) P.c W σ H fun ds H' => ∀ p vs, H p = none → H' p = some (.lst vs) → Reps K H' (fun a => G.N P a ∨ a = p) (G.M P) P.c true vs ds → Q (.ref p) H'
def tE (K : PySem.W.Frag) (G : Sg) (W : WX) (s : Bool) (f : Rho → Res D) : TE := fun σ H Q => ∃ P ρ, Sim K G P ρ σ H ∧ PostE K G P W s σ H Q (f ρ)
def tA (K : PySem.W.Frag) (G : Sg) (W : WX) (s : Bool) (f : Rho → Res (List D)) : TA := fun σ H Q => ∃ P ρ, Sim K G P ρ σ H ∧ PostA K G P W s σ H Q (f ρ)
def tT (K : PySem.W.Frag) (G : Sg) (W : WX) (f : Rho → Res Bool) : TT := fun σ H Q => ∃ P ρ, Sim K G P ρ σ H ∧ PostT K G P W σ H Q (f ρ)
def tN (K : PySem.W.Frag) (G : Sg) (W : WX) (f : Rho → Res (List D)) : TE := fun σ H Q => ∃ P ρ, Sim K G P ρ σ H ∧ PostN K G P W σ H Q (f ρ)
/-- e is what f says; s: strictly -/
def JE (X : Cx) (G : Sg) (W : WX) (s : Bool) (e : Expr) (f : Rho → Res D) : Prop := PE X e (tE X.K G W s f)
def JA (X : Cx) (G : Sg) (W : WX) (s : Bool) (es : List Expr) (f : Rho → Res (List D)) : Prop := PA X es (tA X.K G W s f)
def JT (X : Cx) (G : Sg) (W : WX) (e : Expr) (f : Rho → Res Bool) : Prop := PT X e (tT X.K G W f)
def JN (X : Cx) (G : Sg) (W : WX) (e : Expr) (f : Rho → Res (List D)) : Prop := PE X e (tN X.K G W f)

theorem PE.imp {X : Cx} {e : Expr} {t t' : TE} (h : PE X e t) (i : ∀ σ H Q, t' σ H Q → t σ H Q) : PE X e t' := ⟨fun pins s σ H Q I hw => h.run pins s σ H Q I (i σ H Q hw)⟩
theorem PT.imp {X : Cx} {e : Expr} {t t' : TT} (h : PT X e t) (i : ∀ σ H Q, t' σ H Q → t σ H Q) : PT X e t' := ⟨fun pins s σ H Q I hw => h.run pins s σ H Q I (i σ H Q hw)⟩
theorem PA.imp {X : Cx} {es : List Expr} {t t' : TA} (h : PA X es t) (i : ∀ σ H Q, t' σ H Q → t σ H Q) : PA X es t' := ⟨fun pos pins s σ H Q I hw => h.run pos pins s σ H Q I (i σ H Q hw)⟩
theorem PS.imp {X : Cx} {st : Stmt} {t t' : TS} (h : PS X st t) (i : ∀ D σ H, t' D σ H → t D σ H) : PS X st t' := ⟨fun pins s σ H D I hw => h.run pins s σ H D I (i D σ H hw)⟩
theorem PSs.imp {X : Cx} {st : List Stmt} {t t' : TS} (h : PSs X st t) (i : ∀ D σ H, t' D σ H → t D σ H) : PSs X st t' := ⟨fun pins s σ H D I hw => h.run pins s σ H D I (i D σ H hw)⟩

end Dv

set_option Elab.async false
set_option linter.all false
set_option maxRecDepth 100000
set_option maxHeartbeats 4000000
namespace Dv
open PySem PySem.Spec L2
open PyProof.Rows hiding St

/-! ### what the operators do -/
def asBl : D → Res Bool
  | .bl b => .ok b
  | _ => .stuck
def asInt : D → Res Int
  | .int i => .ok i
  | _ => .stuck
def asLst : D → Res (List D)
  | .lst ds => .ok ds
  | _ => .stuck
def line : Nat := 16777216
theorem line_eq : line = sizeLine := by rw [sizeLine_eq]; rfl
def ckLen {α : Type} (n : Nat) (r : Res α) : Res α := if n ≤ line then r else .stuck
def addD : D → D → Res D
  | .int i, .int j => .ok (.int (i + j))
  | .str x, .str y => if x.length + y.length ≤ line then .ok (.str (x ++ y)) else .stuck
  | .tup xs, .tup ys => if xs.length + ys.length ≤ line then .ok (.tup (xs ++ ys)) else .stuck
  | _, _ => .stuck
def subD : D → D → Res D
  | .int i, .int j => .ok (.int (i - j))
  | _, _ => .stuck
def MulOk (i j : Int) : Prop := i.natAbs < 2 ^ 64 ∨ j.natAbs < 2 ^ 64 ∨ i.natAbs.log2 + j.natAbs.log2 < 1000000
instance (i j : Int) : Decidable (MulOk i j) := by unfold MulOk; infer_instance
theorem MulOk.ok {i j : Int} (h : MulOk i j) : CMul i j ∨ CMulW i j := by
  rcases h with h | h | h
  · exact .inl (.inl (by omega))
  · exact .inl (.inr (by omega))
  · exact .inr h
def mulD : D → D → Res D
  | .int i, .int j => if MulOk i j then .ok (.int (i * j)) else .stuck
  | _, _ => .stuck
def fdivD : D → D → Res D
  | .int i, .int j => if 0 < j ∧ j.natAbs.log2 < 9000 then .ok (.int (i / j)) else .stuck
  | _, _ => .stuck
def modD : D → D → Res D
  | .int i, .int j => if 0 < j then .ok (.int (i % j)) else .stuck
  | _, _ => .stuck
def powD : D → D → Res D
  | .int i, .int j => if 0 ≤ j ∧ j ≤ 1000000 ∧ i.natAbs < 2 ^ 64 then .ok (.int (i ^ j.toNat)) else .stuck
  | _, _ => .stuck
def negD : D → Res D
  | .int i => .ok (.int (-i))
  | _ => .stuck
def ltB : D → D → Res Bool
  | .int i, .int j => .ok (decide (i < j))
  | _, _ => .stuck
def leB : D → D → Res Bool
  | .int i, .int j => .ok (decide (i ≤ j))
  | _, _ => .stuck
def gtB : D → D → Res Bool
  | .int i, .int j => .ok (decide (j < i))
  | _, _ => .stuck
def geB : D → D → Res Bool
  | .int i, .int j => .ok (decide (j ≤ i))
  | _, _ => .stuck
mutual
/-- as data of the model's own -/
def toPy : D → Option PyData
  | .non => some .none
  | .bl b => some (.bool b)
  | .int i => some (.int i)
  | .str x => some (.str x)
  | .tup ds => (toPys ds).map .tuple
  | .lst ds => (toPys ds).map .list
  | .ty _ => none | .ob _ => none | .ins _ _ _ => none | .rf _ => none
def toPys : List D → Option (List PyData)
  | [] => some []
  | d :: ds => (toPy d).bind fun x => (toPys ds).map fun xs => x :: xs
end
def eqDeep (x y : D) : Res Bool := match toPy x, toPy y with
  | some a, some b => if SeqAt.shaped a = true ∧ SeqAt.shaped b = true then .ok (PyData.eqv a b) else .stuck
  | _, _ => .stuck
def eqB : D → D → Res Bool
  | .int i, .int j => .ok (decide (i = j))
  | .str i, .str j => .ok (decide (i = j))
  | .bl i, .bl j => .ok (decide (i = j))
  | x, y => eqDeep x y
def neB (x y : D) : Res Bool := (eqB x y).bind fun b => .ok (!b)

section
variable {K : PySem.W.Frag} {H : Hp} {N M : Addr → Prop} {ι : List Addr} {s : Bool}
mutual
theorem Rep.dp : ∀ (d : D) (v : V) (p : PyData), toPy d = some p → Rep K H N M ι s v d → Dp K H v p
  | .non, v, p, e, h => by cases e; cases (show v = .non from h); exact .non
  | .bl b, v, p, e, h => by cases e; cases (show v = .bl b from h); exact .bl b
  | .int i, v, p, e, h => by cases e; cases (show v = .int i from h); exact .int i
  | .str x, v, p, e, h => by cases e; cases (show v = .str x from h); exact .str x
  | .tup ds, v, p, e, h => by
    obtain ⟨a, vs, rfl, h1, h2⟩ := h
    have e' : (toPys ds).map PyData.tuple = some p := e
    cases q : toPys ds with
    | none => rw [q] at e'; cases e'
    | some ps =>
      rw [q] at e'; cases e'
      exact .tup h1 (Reps.dp ds vs ps q h2)
  | .lst ds, v, p, e, h => by
    obtain ⟨a, vs, rfl, _, h1, h2⟩ := h
    have e' : (toPys ds).map PyData.list = some p := e
    cases q : toPys ds with
    | none => rw [q] at e'; cases e'
    | some ps =>
      rw [q] at e'; cases e'
      exact .lst h1 (Reps.dp ds vs ps q h2)
  | .ty _, _, _, e, _ => by cases e
  | .ob _, _, _, e, _ => by cases e
  | .ins _ _ _, _, _, e, _ => by cases e
  | .rf _, _, _, e, _ => by cases e
theorem Reps.dp : ∀ (ds : List D) (vs : List V) (ps : List PyData), toPys ds = some ps → Reps K H N M ι s vs ds → DpAll K H vs ps
  | [], vs, ps, e, h => by cases e; cases (show vs = [] from h); exact .nil
  | d :: ds, vs, ps, e, h => by
    obtain ⟨v, r, rfl, h1, h2⟩ := h
    have e' : ((toPy d).bind fun x => (toPys ds).map fun xs => x :: xs) = some ps := e
    cases q1 : toPy d with
    | none => rw [q1] at e'; cases e'
    | some x =>
      cases q2 : toPys ds with
      | none => rw [q1, q2] at e'; cases e'
      | some xs =>
        rw [q1, q2] at e'; cases e'
        exact .cons (Rep.dp d v x q1 h1) (Reps.dp ds r xs q2 h2)
end
end

/-! ### rules of two values -/
def OpS (K : PySem.W.Frag) (s s' : Bool) (r : R2) (f : D → D → Res D) : Prop :=
  ∀ (N M : Addr → Prop) (ι : List Addr) (W : WX) (σ : L2.St) (H : Hp) (v u : V) (x y : D) (Q : VK), Rep K H N M ι s v x → Rep K H N M ι s u y → PostG K N M ι W σ H (fun d H' => ∀ w, Rep K H' N M ι s' w d → Q w H') (f x y) → r v u H Q
def CmS (K : PySem.W.Frag) (r : R2) (f : D → D → Res Bool) : Prop :=
  ∀ (N M : Addr → Prop) (ι : List Addr) (W : WX) (σ : L2.St) (H : Hp) (v u : V) (x y : D) (Q : VK) , Rep K H N M ι false v x → Rep K H N M ι false u y → PostG K N M ι W σ H (fun b H' => Q (.bl b) H') (f x y) → r v u H Q
def e2 {α : Type} (f g : Rho → Res D) (k : D → D → Res α) : Rho → Res α := fun ρ => (f ρ).bind fun x => (g ρ).bind fun y => k x y
def e1 {α β : Type} (f : Rho → Res α) (k : α → Res β) : Rho → Res β := fun ρ => (f ρ).bind k

section
variable {X : Cx} {G : Sg} {W : WX} {s s' : Bool} {a b c : Expr} {f g h : Rho → Res D} {pos : Pos}
theorem JE.to (h : JE X G W true a f) : JE X G W s a f := PE.imp h fun σ H Q ⟨P, ρ, S, q⟩ => ⟨P, ρ, S, q.imp fun d H' e k v r => k v r.to⟩
theorem JE.relax (h : JE X G W s a f) : JE X G W false a f := by
  cases s with
  | true => exact h.to
  | false => exact h
/-- no list within: strict -/
def ckFlat (d : D) : Res D := if flat d = true then .ok d else .stuck
theorem JE.up (h : JE X G W s a f) : JE X G W s' a (e1 f ckFlat) := PE.imp h fun σ H Q ⟨P, ρ, S, q⟩ => ⟨P, ρ, S, (PostG.bind q).imp fun d H' e k v r => by
  unfold ckFlat at k
  by_cases hf : flat d = true
  · rw [if_pos hf] at k
    exact k.now v (Rep.flat d v hf r)
  · rw [if_neg hf] at k
    exact False.elim k⟩
/-! names -/
def vS (i : Nat) : Rho → Res D := fun ρ => match ρ.sl[i]? with
  | some (.sh d) => .ok d
  | _ => .stuck
def vB (i : Nat) : Rho → Res D := fun ρ => match ρ.sl[i]? with
  | some (.sh d) => .ok d
  | some (.bo d) => .ok d
  | some (.ow ds) => .ok (.lst ds)
  | _ => .stuck
theorem je_var {x : Str} (i : Nat) (h : PE X (.Name x pos) (tVar i)) : JE X G W true (.Name x pos) (vS i) := PE.imp h fun σ H Q ⟨P, ρ, S, q⟩ => by
  unfold vS at q
  cases e : ρ.sl[i]? with
  | none => rw [e] at q; exact False.elim q
  | some x =>
    rw [e] at q
    have k := S.sl i x e
    cases x with
    | sh d => obtain ⟨_, v, h1, h2⟩ := k; exact ⟨v, h1, q.now v h2⟩
    | no => exact False.elim q
    | bo d => exact False.elim q
    | ow ds => exact False.elim q
    | oi C fn ds => exact False.elim q
    | xv x => exact False.elim q
theorem je_varB {x : Str} (i : Nat) (h : PE X (.Name x pos) (tVar i)) : JE X G W false (.Name x pos) (vB i) := PE.imp h fun σ H Q ⟨P, ρ, S, q⟩ => by
  unfold vB at q
  cases e : ρ.sl[i]? with
  | none => rw [e] at q; exact False.elim q
  | some x =>
    rw [e] at q
    have k := S.sl i x e
    cases x with
    | sh d => obtain ⟨_, v, h1, h2⟩ := k; exact ⟨v, h1, q.now v h2.relax⟩
    | no => exact False.elim q
    | bo d => obtain ⟨_, v, h1, h2⟩ := k; exact ⟨v, h1, q.now v (S.ofBo (S.c0_bo e) h2)⟩
    | ow ds => obtain ⟨p, vs, h1, h2, h3, h4⟩ := k; exact ⟨.ref p, h2, q.now _ ⟨p, vs, rfl, fun z => (by cases z), SqL.of h3, h4.relax⟩⟩
    | oi C fn ds => exact False.elim q
    | xv x => exact False.elim q
/-! constants -/
def cD (d : D) : Rho → Res D := fun _ => .ok d
theorem je_int {i j pos} : JE X G W s (.Constant (.int i) j pos) (cD (.int i)) := PE.imp pe_int fun σ H Q ⟨P, ρ, S, q⟩ => q.now _ rfl
theorem je_bl {i j pos} : JE X G W s (.Constant (.bool i) j pos) (cD (.bl i)) := PE.imp pe_bl fun σ H Q ⟨P, ρ, S, q⟩ => q.now _ rfl
theorem je_non {j pos} : JE X G W s (.Constant .none j pos) (cD .non) := PE.imp pe_non fun σ H Q ⟨P, ρ, S, q⟩ => q.now _ rfl
theorem je_str {x j pos} : JE X G W s (.Constant (.str x) j pos) (cD (.str x)) := PE.imp pe_str fun σ H Q ⟨P, ρ, S, q⟩ => q.now _ rfl
/-- a constant of the module -/
theorem je_glob {x : Str} {v : V} {u : Value} {d : D} (hg : Gl X x) (hm : X.mg x = some u) (r : RelV v u) (hd : ∀ H N M ι, Rep X.K H N M ι s v d) (hdb : (x == ("__debug__" : Str)) = false := by decide) : JE X G W s (.Name x pos) (cD d) :=
  PE.imp (pe_glob hg hm r hdb) fun σ H Q ⟨P, ρ, S, q⟩ => q.now _ (hd _ _ _ _)

theorem je_bin {op : Operator} {r : R2} {k : D → D → Res D} (ho : OpR X (binaryOp op) r) (sem : OpS X.K s s' r k) (ha : JE X G W s a f) (hb : JE X G W s b g) : JE X G W s' (.BinOp a op b pos) (e2 f g k) :=
  PE.imp (pe_op ho ha hb) fun σ H Q ⟨P, ρ, S, q⟩ => ⟨P, ρ, S, (PostG.bind q).imp fun x H1 e1 q1 v r1 => ⟨P, ρ, S.same e1, (PostG.bind q1).imp fun y H2 e2 q2 u r2 => sem _ _ _ W σ H2 v u x y Q (r1.same e2) r2 q2⟩⟩
theorem je_un {op : UnaryOp} {r : V → Hp → VK → Prop} {k : D → Res D} (ho : UnR X (unaryOp op) r)
    (sem : ∀ (N M : Addr → Prop) (ι : List Addr) (W : WX) (σ : L2.St) (H : Hp) (v : V) (x : D) (Q : VK), Rep X.K H N M ι s v x → PostG X.K N M ι W σ H (fun d H' => ∀ w, Rep X.K H' N M ι s' w d → Q w H') (k x) → r v H Q)
    (ha : JE X G W s a f) : JE X G W s' (.UnaryOp op a pos) (e1 f k) :=
  PE.imp (pe_un ho ha) fun σ H Q ⟨P, ρ, S, q⟩ => ⟨P, ρ, S, (PostG.bind q).imp fun x H1 e1 q1 v r1 => sem _ _ _ W σ H1 v x Q r1 q1⟩
theorem je_neg (ha : JE X G W s a f) : JE X G W s' (.UnaryOp .USub a pos) (e1 f negD) := je_un un_neg (fun N M ι W σ H v x Q r q => by
  cases x with
  | int i => exact ⟨i, r, q.now _ rfl⟩
  | _ => exact False.elim q) ha
/-- comparisons, as a value, as a test -/
theorem je_cmp {s2 : Bool} {op : CmpOp} {r : R2} {k : D → D → Res Bool} (ho : OpR X (compareOp op) r) (sem : CmS X.K r k) (hm : behindInMarks op b = false) (ha : JE X G W s a f) (hb : JE X G W s' b g) :
    JE X G W s2 (.Compare a [op] [b] pos) (e1 (e2 f g k) fun b => .ok (.bl b)) :=
  PE.imp (pe_cmpR ho ha hb hm) fun σ H Q ⟨P, ρ, S, q⟩ => ⟨P, ρ, S, (PostG.bind (PostG.bind q)).imp fun x H1 e1 q1 v r1 => ⟨P, ρ, S.same e1, (PostG.bind q1).imp fun y H2 e2 q2 u r2 =>
    sem _ _ _ W σ H2 v u x y Q (r1.any.same e2) r2.any (q2.imp fun b H3 e3 q3 => q3.now _ rfl)⟩⟩
theorem jt_cmp {op : CmpOp} {r : R2} {k : D → D → Res Bool} (ho : OpR X (compareOp op) r) (sem : CmS X.K r k) (hm : behindInMarks op b = false) (ha : JE X G W s a f) (hb : JE X G W s' b g) : JT X G W (.Compare a [op] [b] pos) (e2 f g k) :=
  PT.imp (pt_cmpR ho ha hb hm) fun σ H Q ⟨P, ρ, S, q⟩ => ⟨P, ρ, S, (PostG.bind q).imp fun x H1 e1 q1 v r1 => ⟨P, ρ, S.same e1, (PostG.bind q1).imp fun y H2 e2 q2 u r2 =>
    sem _ _ _ W σ H2 v u x y _ (r1.any.same e2) r2.any (q2.imp fun b H3 e3 q3 => ⟨b, rfl, q3⟩)⟩⟩
def e3c (f g h : Rho → Res D) (k k' : D → D → Res Bool) : Rho → Res Bool := fun ρ => (f ρ).bind fun x => (g ρ).bind fun y => (k x y).bind fun t => if t = true then (h ρ).bind fun z => k' y z else .ok false
theorem jt_chain {op op' : CmpOp} {r r' : R2} {k k' : D → D → Res Bool} {s1 s2 s3 : Bool} (ho : OpR X (compareOp op) r) (ho' : OpR X (compareOp op') r') (sem : CmS X.K r k) (sem' : CmS X.K r' k') (ha : JE X G W s1 a f) (hb : JE X G W s2 b g) (hc : JE X G W s3 c h)
    (hm : lastMarks [op, op'] [b, c] = false := by with_unfolding_all rfl) : JT X G W (.Compare a [op, op'] [b, c] pos) (e3c f g h k k') :=
  PT.imp (pt_chain ho ho' ha hb hc hm) fun σ H Q ⟨P, ρ, S, q⟩ => ⟨P, ρ, S, (PostG.bind q).imp fun x H1 e1 q1 v r1 => ⟨P, ρ, S.same e1, (PostG.bind q1).imp fun y H2 e2 q2 u r2 =>
    sem _ _ _ W σ H2 v u x y _ (r1.any.same e2) r2.any ((PostG.bind q2).imp fun t H3 e3 q3 => ⟨t, rfl, by
      cases t with
      | true => exact ⟨P, ρ, S.same ((e1.trans e2).trans e3), (PostG.bind q3).imp fun z H4 e4 q4 w r4 => sem' _ _ _ W σ H4 u w y z _ (r2.any.same (e3.trans e4)) r4.any (q4.imp fun b H5 e5 q5 => ⟨b, rfl, q5⟩)⟩
      | false => exact ⟨false, rfl, q3.now⟩⟩)⟩⟩
/-! and, or, not -/
def JW (X : Cx) (G : Sg) (W : WX) (e : Expr) (f : Rho → Res Bool) : Prop := PW X e (tT X.K G W f)
def eAnd (f g : Rho → Res Bool) : Rho → Res Bool := fun ρ => (f ρ).bind fun t => if t = true then g ρ else .ok false
def eOr (f g : Rho → Res Bool) : Rho → Res Bool := fun ρ => (f ρ).bind fun t => if t = true then .ok true else g ρ
def eNot (f : Rho → Res Bool) : Rho → Res Bool := fun ρ => (f ρ).bind fun t => .ok (!t)
theorem PW.imp {X : Cx} {e : Expr} {t t' : TT} (h : PW X e t) (i : ∀ σ H Q, t' σ H Q → t σ H Q) : PW X e t' := ⟨fun whole pins s σ H Q I hw => h.run whole pins s σ H Q I (i σ H Q hw)⟩
variable {p q : Rho → Res Bool} {rest : List Expr}
theorem jt_w (h : JW X G W a p) : JT X G W a p := PW.pt h
theorem jw_and1 (h : JT X G W a p) : JW X G W (.BoolOp .And [a] pos) p := pw_and1 h
theorem jw_or1 (h : JT X G W a p) : JW X G W (.BoolOp .Or [a] pos) p := pw_or1 h
theorem jw_and (ha : JT X G W a p) (hb : JW X G W (.BoolOp .And (b :: rest) pos) q) : JW X G W (.BoolOp .And (a :: b :: rest) pos) (eAnd p q) :=
  PW.imp (pw_and ha hb) fun σ H Q ⟨P, ρ, S, h⟩ => ⟨P, ρ, S, (PostG.bind h).imp fun t H1 e1 h1 => by
    cases t with
    | true => exact ⟨P, ρ, S.same e1, h1⟩
    | false => exact h1.now⟩
theorem jw_or (ha : JT X G W a p) (hb : JW X G W (.BoolOp .Or (b :: rest) pos) q) : JW X G W (.BoolOp .Or (a :: b :: rest) pos) (eOr p q) :=
  PW.imp (pw_or ha hb) fun σ H Q ⟨P, ρ, S, h⟩ => ⟨P, ρ, S, (PostG.bind h).imp fun t H1 e1 h1 => by
    cases t with
    | true => exact h1.now
    | false => exact ⟨P, ρ, S.same e1, h1⟩⟩
theorem jt_not (ha : JT X G W a p) : JT X G W (.UnaryOp .Not a pos) (eNot p) := PT.imp (pt_not ha) fun σ H Q ⟨P, ρ, S, h⟩ => ⟨P, ρ, S, (PostG.bind h).imp fun t H1 e1 h1 => h1.now⟩
theorem jt_val (ha : JE X G W s a f) (he : ∀ whole, isTrue a X.env whole = (do let v ← whole; standAt a.pos; holding [v] (truthy v)) := by intro _; rfl) : JT X G W a (e1 f asBl) :=
  PT.imp (pt_val ha he) fun σ H Q ⟨P, ρ, S, h⟩ => ⟨P, ρ, S, (PostG.bind h).imp fun x H1 e1 h1 v r => by
    cases x with
    | bl b => exact ⟨b, r, h1.now⟩
    | _ => exact False.elim h1⟩
def vAnd (f g : Rho → Res D) : Rho → Res D := fun ρ => ((f ρ).bind asBl).bind fun t => if t = true then g ρ else .ok (.bl false)
def vOr (f g : Rho → Res D) : Rho → Res D := fun ρ => ((f ρ).bind asBl).bind fun t => if t = true then .ok (.bl true) else g ρ
def vNot (f : Rho → Res D) : Rho → Res D := fun ρ => ((f ρ).bind asBl).bind fun t => .ok (.bl (!t))
theorem je_one {op} (h : JE X G W s a f) : JE X G W s (.BoolOp op [a] pos) f := pe_one h
theorem je_and (ha : JE X G W s' a f) (hb : JE X G W s (.BoolOp .And (b :: rest) pos) g) : JE X G W s (.BoolOp .And (a :: b :: rest) pos) (vAnd f g) :=
  PE.imp (pe_and ha hb) fun σ H Q ⟨P, ρ, S, h⟩ => ⟨P, ρ, S, (PostG.bind (PostG.bind h)).imp fun x H1 e1 h1 v r => by
    cases x with
    | bl t =>
      refine ⟨t, r, ?_⟩
      have h2 := h1.now
      cases t with
      | true => exact ⟨P, ρ, S.same e1, h2⟩
      | false => exact h2.now _ rfl
    | _ => exact False.elim h1⟩
theorem je_or (ha : JE X G W s' a f) (hb : JE X G W s (.BoolOp .Or (b :: rest) pos) g) : JE X G W s (.BoolOp .Or (a :: b :: rest) pos) (vOr f g) :=
  PE.imp (pe_or ha hb) fun σ H Q ⟨P, ρ, S, h⟩ => ⟨P, ρ, S, (PostG.bind (PostG.bind h)).imp fun x H1 e1 h1 v r => by
    cases x with
    | bl t =>
      refine ⟨t, r, ?_⟩
      have h2 := h1.now
      cases t with
      | true => exact h2.now _ rfl
      | false => exact ⟨P, ρ, S.same e1, h2⟩
    | _ => exact False.elim h1⟩
theorem je_not (ha : JE X G W s' a f) : JE X G W s (.UnaryOp .Not a pos) (vNot f) :=
  PE.imp (pe_not ha) fun σ H Q ⟨P, ρ, S, h⟩ => ⟨P, ρ, S, (PostG.bind (PostG.bind h)).imp fun x H1 e1 h1 v r => by
    cases x with
    | bl t => exact ⟨t, r, h1.now.now _ rfl⟩
    | _ => exact False.elim h1⟩
def eIf (p : Rho → Res Bool) (f g : Rho → Res D) : Rho → Res D := fun ρ => (p ρ).bind fun t => if t = true then f ρ else g ρ
theorem je_ifExp (hc : JT X G W c p) (ha : JE X G W s a f) (hb : JE X G W s b g) : JE X G W s (.IfExp c a b pos) (eIf p f g) :=
  PE.imp (pe_ifExp hc ha hb) fun σ H Q ⟨P, ρ, S, h⟩ => ⟨P, ρ, S, (PostG.bind h).imp fun t H1 e1 h1 => by
    cases t with
    | true => exact ⟨P, ρ, S.same e1, h1⟩
    | false => exact ⟨P, ρ, S.same e1, h1⟩⟩
/-! argument lists, displays -/
variable {es : List Expr} {fs : Rho → Res (List D)}
def aNil : Rho → Res (List D) := fun _ => .ok []
def aCons (f : Rho → Res D) (fs : Rho → Res (List D)) : Rho → Res (List D) := fun ρ => (f ρ).bind fun x => (fs ρ).bind fun xs => .ok (x :: xs)
theorem ja_nil : JA X G W s [] aNil := PA.imp pa_nil fun σ H Q ⟨P, ρ, S, h⟩ => h.now _ rfl
theorem ja_cons (ha : JE X G W s a f) (hr : JA X G W s es fs) (hs : starEach (a :: es) X.env = (false, eval a X.env) :: starEach es X.env := by rfl) : JA X G W s (a :: es) (aCons f fs) :=
  PA.imp (pa_cons ha hr hs) fun σ H Q ⟨P, ρ, S, h⟩ => ⟨P, ρ, S, (PostG.bind h).imp fun x H1 e1 h1 v r => ⟨P, ρ, S.same e1, (PostG.bind h1).imp fun xs H2 e2 h2 vs rs => h2.now _ ⟨v, vs, rfl, r.same e2, rs⟩⟩⟩
def eTup (fs : Rho → Res (List D)) : Rho → Res D := fun ρ => (fs ρ).bind fun ds => ckLen ds.length (.ok (.tup ds))
theorem same_new {H : Hp} {p : Addr} {o : HO} (h : H p = none) : Same H (upd H p o) := fun a u e => by
  rw [upd_ne (ne_of_none e h)]
  exact e
theorem je_tup {x1} (h : JA X G W s es fs) : JE X G W s (.Tuple es x1 pos) (eTup fs) := PE.imp (pe_tup h) fun σ H Q ⟨P, ρ, S, q⟩ => ⟨P, ρ, S, (PostG.bind q).imp fun ds H1 e1 q1 vs rs => by
  unfold ckLen at q1
  by_cases hl : ds.length ≤ line
  · rw [if_pos hl] at q1
    refine ⟨by rw [rs.length, ← line_eq]; exact hl, fun p hp => ?_⟩
    exact q1 _ (same_new hp) _ ⟨p, vs, rfl, SqT.of upd_same, rs.same (same_new hp)⟩
  · rw [if_neg hl] at q1
    exact False.elim q1⟩
/-- what is tracked is not at a new address -/
theorem Reps.apart {K : PySem.W.Frag} {H : Hp} {N M : Addr → Prop} {ι : List Addr} {p : Addr} (hp : H p = none) {ds : List D} {vs : List V} (h : Reps K H N M ι true vs ds) : Reps K H (fun a => N a ∨ a = p) M ι true vs ds :=
  Reps.map (fun _ _ q => q) (fun a xs h1 h2 => ⟨fun z => ⟨(h1 z).1, fun q => q.elim (h1 z).2 fun e => by rw [e, hp] at h1; cases (h1 rfl).1⟩, h2⟩) (fun a C dx fs h1 h2 => ⟨h1, h2⟩) (fun _ _ z => z) ds vs h
def eLst (fs : Rho → Res (List D)) : Rho → Res (List D) := fun ρ => (fs ρ).bind fun ds => ckLen ds.length (.ok ds)
theorem jn_lst (h : JA X G W true es fs) : JN X G W (.List es pos) (eLst fs) := PE.imp (pe_lst h) fun σ H Q ⟨P, ρ, S, q⟩ => ⟨P, ρ, S, (PostG.bind q).imp fun ds H1 e1 q1 vs rs => by
  unfold ckLen at q1
  by_cases hl : ds.length ≤ line
  · rw [if_pos hl] at q1
    refine ⟨by rw [rs.length, ← line_eq]; exact hl, fun p hp => ?_⟩
    exact q1 _ (same_new hp) p vs (e1.free hp) upd_same ((Reps.apart hp rs).same (same_new hp))
  · rw [if_neg hl] at q1
    exact False.elim q1⟩
def toL (f : Rho → Res (List D)) : Rho → Res D := fun ρ => (f ρ).bind fun ds => .ok (.lst ds)
theorem je_ofN {f : Rho → Res (List D)} (h : JN X G W a f) : JE X G W s a (toL f) := PE.imp h fun σ H Q ⟨P, ρ, S, q⟩ => ⟨P, ρ, S, (PostG.bind q).imp fun ds H1 e1 q1 p vs hp hl rs =>
  q1.now _ (Rep.to ⟨p, vs, rfl, fun _ => ⟨hl, S.newN hp⟩, SqL.of hl, rs.weak (fun a z => .inl z) fun a z => z⟩)⟩
end
end Dv

set_option Elab.async false
set_option linter.all false
set_option maxRecDepth 100000
set_option maxHeartbeats 4000000
namespace Dv
open PySem PySem.Spec L2
open PyProof.Rows hiding St

/-! ### the operators' sense -/
section
variable {K : PySem.W.Frag} {s : Bool}
def rAddA (K : PySem.W.Frag) : R2 := fun x y H Q => (rI0 fun i j => .int (i + j)) x y H Q ∨ (∃ i j, x = .str i ∧ y = .str j ∧ i.length + j.length ≤ sizeLine ∧ Q (.str (i ++ j)) H) ∨ rCatA K x y H Q
theorem op_addA {X : Cx} : OpR X (binaryOp .Add) (rAddA X.K) := op_add.or (op_add_str.or op_catA)
theorem Reps.nil_of {H : Hp} {N M : Addr → Prop} {ι : List Addr} {ds : List D} (h : Reps K H N M ι s [] ds) : ds = [] := by
  have e := h.length
  cases ds with
  | nil => rfl
  | cons _ _ => cases e
theorem ops_add : OpS K s s (rAddA K) addD := by
  intro N M ι W σ H v u x y Q rx ry q
  cases x with
  | int i =>
    cases y with
    | int j => exact .inl ⟨i, j, rx, ry, q.now _ rfl⟩
    | _ => exact False.elim q
  | str x =>
    cases y with
    | str y =>
      have q' : PostG K N M ι W σ H (fun d H' => ∀ w, Rep K H' N M ι s w d → Q w H') (if x.length + y.length ≤ line then .ok (.str (x ++ y)) else .stuck) := q
      by_cases hl : x.length + y.length ≤ line
      · rw [if_pos hl] at q'
        exact .inr (.inl ⟨x, y, rx, ry, by rw [← line_eq]; exact hl, q'.now _ rfl⟩)
      · rw [if_neg hl] at q'; exact False.elim q'
    | _ => exact False.elim q
  | tup xs =>
    cases y with
    | tup ys =>
      have q' : PostG K N M ι W σ H (fun d H' => ∀ w, Rep K H' N M ι s w d → Q w H') (if xs.length + ys.length ≤ line then .ok (.tup (xs ++ ys)) else .stuck) := q
      by_cases hl : xs.length + ys.length ≤ line
      · rw [if_pos hl] at q'
        obtain ⟨a, vs, ea, ha, ra⟩ := rx
        obtain ⟨b, ws, eb, hb, rb⟩ := ry
        refine .inr (.inr ⟨a, b, vs, ws, ea, eb, ha, hb, by rw [ra.length, rb.length, ← line_eq]; exact hl, fun e => ?_, fun _ e => ?_, fun _ _ p hp => ?_⟩)
        · subst e
          have := ra.nil_of
          subst this
          exact q'.now _ ⟨b, ws, rfl, hb, rb⟩
        · subst e
          have := rb.nil_of
          subst this
          exact q'.now _ ⟨a, vs, rfl, ha, by rw [List.append_nil]; exact ra⟩
        · exact q' _ (same_new hp) _ ⟨p, vs ++ ws, rfl, SqT.of upd_same, (ra.append rb).same (same_new hp)⟩
      · rw [if_neg hl] at q'; exact False.elim q'
    | _ => exact False.elim q
  | _ => exact False.elim q
theorem ops_int2 {g : Int → Int → Int} {C : Int → Int → Prop} [∀ i j, Decidable (C i j)] {f : D → D → Res D} {s' : Bool} (h1 : ∀ i j, f (.int i) (.int j) = if C i j then .ok (.int (g i j)) else .stuck)
    (h2 : ∀ x y, (∀ i j, ¬ (x = .int i ∧ y = .int j)) → f x y = .stuck) : OpS K s s' (rI C fun i j => .int (g i j)) f := by
  intro N M ι W σ H v u x y Q rx ry q
  by_cases h : ∃ i j, x = .int i ∧ y = .int j
  · obtain ⟨i, j, rfl, rfl⟩ := h
    rw [h1] at q
    by_cases hc : C i j
    · rw [if_pos hc] at q
      exact ⟨i, j, rx, ry, hc, q.now _ rfl⟩
    · rw [if_neg hc] at q; exact False.elim q
  · rw [h2 x y fun i j z => h ⟨i, j, z⟩] at q; exact False.elim q
theorem ops_sub {s' : Bool} : OpS K s s' (rI0 fun i j => .int (i - j)) subD := by
  intro N M ι W σ H v u x y Q rx ry q
  cases x with
  | int i =>
    cases y with
    | int j => exact ⟨i, j, rx, ry, q.now _ rfl⟩
    | _ => exact False.elim q
  | _ => exact False.elim q
instance (i j : Int) : Decidable (CMulW i j) := by unfold CMulW; infer_instance
instance (i j : Int) : Decidable (CDivW i j) := by unfold CDivW; infer_instance
instance (i j : Int) : Decidable (CPow i j) := by unfold CPow; infer_instance
theorem op_mulA {X : Cx} : OpR X (binaryOp .Mult) (rI MulOk fun i j => .int (i * j)) := opI fun _ _ _ _ _ _ _ hc q => mul_int q (hc.ok.elim (fun z => z.ok) fun z => z.ok)
theorem ops_mul {s' : Bool} : OpS K s s' (rI MulOk fun i j => .int (i * j)) mulD := ops_int2 (fun i j => by unfold mulD; rfl) fun x y h => by
  cases x <;> cases y <;> first | rfl | exact absurd ⟨rfl, rfl⟩ (h _ _)
theorem ops_fdiv {s' : Bool} : OpS K s s' (rI CDivW fun i j => .int (i / j)) fdivD := ops_int2 (fun i j => by unfold fdivD CDivW; rfl) fun x y h => by
  cases x <;> cases y <;> first | rfl | exact absurd ⟨rfl, rfl⟩ (h _ _)
theorem ops_mod {s' : Bool} : OpS K s s' (rI (fun _ j => 0 < j) fun i j => .int (i % j)) modD := ops_int2 (fun i j => by unfold modD; rfl) fun x y h => by
  cases x <;> cases y <;> first | rfl | exact absurd ⟨rfl, rfl⟩ (h _ _)
theorem ops_pow {s' : Bool} : OpS K s s' (rI CPow fun i j => .int (i ^ j.toNat)) powD := ops_int2 (fun i j => by unfold powD CPow; rfl) fun x y h => by
  cases x <;> cases y <;> first | rfl | exact absurd ⟨rfl, rfl⟩ (h _ _)
theorem cms_int {g : Int → Int → Bool} {f : D → D → Res Bool} (h1 : ∀ i j, f (.int i) (.int j) = .ok (g i j)) (h2 : ∀ x y, (∀ i j, ¬ (x = .int i ∧ y = .int j)) → f x y = .stuck) : CmS K (rI0 fun i j => .bl (g i j)) f := by
  intro N M ι W σ H v u x y Q rx ry q
  by_cases h : ∃ i j, x = .int i ∧ y = .int j
  · obtain ⟨i, j, rfl, rfl⟩ := h
    rw [h1] at q
    exact ⟨i, j, rx, ry, q.now⟩
  · rw [h2 x y fun i j z => h ⟨i, j, z⟩] at q; exact False.elim q
theorem cms_lt : CmS K (rI0 fun i j => .bl (decide (i < j))) ltB := cms_int (fun i j => rfl) fun x y h => by cases x <;> cases y <;> first | rfl | exact absurd ⟨rfl, rfl⟩ (h _ _)
theorem cms_le : CmS K (rI0 fun i j => .bl (decide (i ≤ j))) leB := cms_int (fun i j => rfl) fun x y h => by cases x <;> cases y <;> first | rfl | exact absurd ⟨rfl, rfl⟩ (h _ _)
theorem cms_gt : CmS K (rI0 fun i j => .bl (decide (j < i))) gtB := cms_int (fun i j => rfl) fun x y h => by cases x <;> cases y <;> first | rfl | exact absurd ⟨rfl, rfl⟩ (h _ _)
theorem cms_ge : CmS K (rI0 fun i j => .bl (decide (j ≤ i))) geB := cms_int (fun i j => rfl) fun x y h => by cases x <;> cases y <;> first | rfl | exact absurd ⟨rfl, rfl⟩ (h _ _)
def rEqA (K : PySem.W.Frag) : R2 := fun x y H Q => rEq x y H Q ∨ rEqD K x y H Q
def rNeA (K : PySem.W.Frag) : R2 := fun x y H Q => rNe x y H Q ∨ rNeD K x y H Q
theorem op_eqA {X : Cx} (hu : X.A.units + 64 < cLine) : OpR X (compareOp .Eq) (rEqA X.K) := op_eq.or (op_eqD hu)
theorem op_neA {X : Cx} (hu : X.A.units + 64 < cLine) : OpR X (compareOp .NotEq) (rNeA X.K) := op_ne.or (op_neD hu)
theorem eqDeep_of {H : Hp} {N M : Addr → Prop} {ι : List Addr} {W : WX} {σ : L2.St} {v u : V} {x y : D} {okP : Bool → Hp → Prop} (rx : Rep K H N M ι s v x) (ry : Rep K H N M ι s u y) (q : PostG K N M ι W σ H okP (eqDeep x y)) :
    ∃ d e, Dp K H v d ∧ Dp K H u e ∧ SeqAt.shaped d = true ∧ SeqAt.shaped e = true ∧ okP (PyData.eqv d e) H := by
  unfold eqDeep at q
  cases e1 : toPy x with
  | none => rw [e1] at q; exact False.elim q
  | some a =>
    cases e2 : toPy y with
    | none => rw [e1, e2] at q; exact False.elim q
    | some b =>
      rw [e1, e2] at q
      dsimp only at q
      by_cases hc : SeqAt.shaped a = true ∧ SeqAt.shaped b = true
      · rw [if_pos hc] at q
        exact ⟨a, b, Rep.dp x v a e1 rx, Rep.dp y u b e2 ry, hc.1, hc.2, q.now⟩
      · rw [if_neg hc] at q; exact False.elim q
theorem cms_eqneg {neg : Bool} {r : R2} {rD : R2} (h1 : ∀ v u H Q, scal v u = true → Q (.bl (if neg then !decide (v = u) else decide (v = u))) H → r v u H Q)
    (h2 : ∀ v u H Q d e, Dp K H v d → Dp K H u e → SeqAt.shaped d = true → SeqAt.shaped e = true → Q (.bl (if neg then !PyData.eqv d e else PyData.eqv d e)) H → rD v u H Q) :
    ∀ (N M : Addr → Prop) (ι : List Addr) (W : WX) (σ : L2.St) (H : Hp) (v u : V) (x y : D) (Q : VK) , Rep K H N M ι false v x → Rep K H N M ι false u y → PostG K N M ι W σ H (fun b H' => Q (.bl (if neg then !b else b)) H') (eqB x y) → r v u H Q ∨ rD v u H Q := by
  intro N M ι W σ H v u x y Q rx ry q
  have deep : eqB x y = eqDeep x y → r v u H Q ∨ rD v u H Q := fun e => by
    rw [e] at q
    obtain ⟨d, e, d1, d2, s1, s2, q'⟩ := eqDeep_of rx ry q
    exact .inr (h2 v u H Q d e d1 d2 s1 s2 q')
  cases x with
  | int i =>
    cases y with
    | int j =>
      cases (show v = .int i from rx)
      cases (show u = .int j from ry)
      refine .inl (h1 _ _ H Q rfl ?_)
      have e : decide (V.int i = V.int j) = decide (i = j) := by simp
      rw [e]; exact q.now
    | _ => exact deep rfl
  | str i =>
    cases y with
    | str j =>
      cases (show v = .str i from rx)
      cases (show u = .str j from ry)
      refine .inl (h1 _ _ H Q rfl ?_)
      have e : decide (V.str i = V.str j) = decide (i = j) := by simp
      rw [e]; exact q.now
    | _ => exact deep rfl
  | bl i =>
    cases y with
    | bl j =>
      cases (show v = .bl i from rx)
      cases (show u = .bl j from ry)
      refine .inl (h1 _ _ H Q rfl ?_)
      have e : decide (V.bl i = V.bl j) = decide (i = j) := by simp
      rw [e]; exact q.now
    | _ => exact deep rfl
  | _ => exact deep rfl
theorem cms_eq : CmS K (rEqA K) eqB := fun N M ι W σ H v u x y Q rx ry q =>
  cms_eqneg (neg := false) (r := rEq) (rD := rEqD K) (fun v u H Q h q => ⟨h, q⟩) (fun v u H Q d e d1 d2 s1 s2 q => ⟨d, e, d1, d2, s1, s2, q⟩) N M ι W σ H v u x y Q rx ry q
theorem cms_ne : CmS K (rNeA K) neB := fun N M ι W σ H v u x y Q rx ry q =>
  cms_eqneg (neg := true) (r := rNe) (rD := rNeD K) (fun v u H Q h q => ⟨h, q⟩) (fun v u H Q d e d1 d2 s1 s2 q => ⟨d, e, d1, d2, s1, s2, q⟩) N M ι W σ H v u x y Q rx ry ((PostG.bind q).imp fun b H' e q' => q'.now)
/-- is None -/
def isNB : D → Res Bool
  | .non => .ok true
  | _ => .ok false
theorem isN_dec {H : Hp} {N M : Addr → Prop} {ι : List Addr} {v : V} {x : D} (r : Rep K H N M ι s v x) : isNB x = .ok (decide (v = .non)) := by
  cases x with
  | non => cases (show v = .non from r); rfl
  | bl b => cases (show v = .bl b from r); rfl
  | int b => cases (show v = .int b from r); rfl
  | str b => cases (show v = .str b from r); rfl
  | ty b => cases (show v = .ty b from r); rfl
  | ob b => cases (show v = .ref b from r); rfl
  | tup ds => obtain ⟨a, vs, rfl, _⟩ := r; rfl
  | lst ds => obtain ⟨a, vs, rfl, _⟩ := r; rfl
  | ins C fn ds => obtain ⟨a, dx, fs, rfl, _⟩ := r; rfl
  | rf n => obtain ⟨a, _, rfl⟩ := r; rfl
end

section
variable {X : Cx} {G : Sg} {W : WX} {s s' : Bool} {a b c : Expr} {f g h : Rho → Res D} {pos : Pos}
theorem je_isN {j pos'} {s2 : Bool} (ha : JE X G W s a f) : JE X G W s2 (.Compare a [.Is] [.Constant .none j pos'] pos) (e1 (e1 f isNB) fun b => .ok (.bl b)) :=
  PE.imp (pe_cmp (pc_isN ha) rfl) fun σ H Q ⟨P, ρ, S, q⟩ => ⟨P, ρ, S, (PostG.bind (PostG.bind q)).imp fun x H1 e1 q1 v r1 => by
    rw [isN_dec r1] at q1
    exact q1.now.now _ rfl⟩
theorem je_isNot {j pos'} {s2 : Bool} (ha : JE X G W s a f) : JE X G W s2 (.Compare a [.IsNot] [.Constant .none j pos'] pos) (e1 (e1 f isNB) fun b => .ok (.bl !b)) :=
  PE.imp (pe_cmp (pc_notN ha) rfl) fun σ H Q ⟨P, ρ, S, q⟩ => ⟨P, ρ, S, (PostG.bind (PostG.bind q)).imp fun x H1 e1 q1 v r1 => by
    rw [isN_dec r1] at q1
    exact q1.now.now _ rfl⟩
/-! ### items -/
def ixD : D → D → Res D
  | .lst ds, .int i => match atI ds i with
    | some d => .ok d
    | none => .stuck
  | .tup ds, .int i => match atI ds i with
    | some d => .ok d
    | none => .stuck
  | .str x, .int i => if x.length ≤ line then match atI x.cps.toList i with
      | some c => .ok (.str ⟨#[c]⟩)
      | none => .stuck
    else .stuck
  | _, _ => .stuck
theorem Reps.atI {K : PySem.W.Frag} {H : Hp} {N M : Addr → Prop} {ι : List Addr} {s : Bool} {ds : List D} {vs : List V} {i : Int} {d : D} (r : Reps K H N M ι s vs ds) (e : atI ds i = some d) : ∃ v, L2.atI vs i = some v ∧ Rep K H N M ι s v d := by
  unfold L2.atI at e ⊢
  rw [r.length]
  cases q : ixN ds.length i with
  | none => rw [q] at e; cases e
  | some j =>
    rw [q] at e
    exact r.get e
theorem je_ix (ha : JE X G W s a f) (hb : JE X G W s' b g) (hs : PlainIx b := by intro _ _; rfl) : JE X G W s (.Subscript a b pos) (e2 f g ixD) :=
  PE.imp (pe_ix ix_seq ha hb hs) fun σ H Q ⟨P, ρ, S, q⟩ => ⟨P, ρ, S, (PostG.bind q).imp fun x H1 e1 q1 v r1 => ⟨P, ρ, S.same e1, (PostG.bind q1).imp fun y H2 e2 q2 u r2 => by
    cases y with
    | int i =>
      cases x with
      | lst ds =>
        obtain ⟨p, vs, rfl, h1, h2, h3⟩ := r1.same e2
        have q2' : PostG X.K (G.N P) (G.M P) P.c W σ H2 (fun d H' => ∀ v, Rep X.K H' (G.N P) (G.M P) P.c s v d → Q v H') (match atI ds i with | some d => .ok d | none => .stuck) := q2
        cases e : atI ds i with
        | none => rw [e] at q2'; exact False.elim q2'
        | some d =>
          rw [e] at q2'
          obtain ⟨w, hw, rw'⟩ := h3.atI e
          exact .inl ⟨p, vs, i, w, rfl, r2, h2, hw, q2'.now _ rw'⟩
      | tup ds =>
        obtain ⟨p, vs, rfl, h2, h3⟩ := r1.same e2
        have q2' : PostG X.K (G.N P) (G.M P) P.c W σ H2 (fun d H' => ∀ v, Rep X.K H' (G.N P) (G.M P) P.c s v d → Q v H') (match atI ds i with | some d => .ok d | none => .stuck) := q2
        cases e : atI ds i with
        | none => rw [e] at q2'; exact False.elim q2'
        | some d =>
          rw [e] at q2'
          obtain ⟨w, hw, rw'⟩ := h3.atI e
          exact .inr (.inl ⟨p, vs, i, w, rfl, r2, h2, hw, q2'.now _ rw'⟩)
      | str x =>
        have q2' : PostG X.K (G.N P) (G.M P) P.c W σ H2 (fun d H' => ∀ v, Rep X.K H' (G.N P) (G.M P) P.c s v d → Q v H') (if x.length ≤ line then match atI x.cps.toList i with | some c => .ok (.str ⟨#[c]⟩) | none => .stuck else .stuck) := q2
        by_cases hl : x.length ≤ line
        · rw [if_pos hl] at q2'
          cases e : atI x.cps.toList i with
          | none => rw [e] at q2'; exact False.elim q2'
          | some c =>
            rw [e] at q2'
            exact .inr (.inr ⟨x, i, c, r1, r2, by rw [← line_eq]; exact hl, e, q2'.now _ rfl⟩)
        · rw [if_neg hl] at q2'; exact False.elim q2'
      | _ => exact False.elim q2
    | _ => cases x <;> exact False.elim q2⟩⟩
/-! slices -/
def JO (X : Cx) (G : Sg) (W : WX) (e : Option Expr) (f : Rho → Res (Option Int)) : Prop := PO X e fun σ H Q => ∃ P ρ, Sim X.K G P ρ σ H ∧ PostG X.K (G.N P) (G.M P) P.c W σ H Q (f ρ)
theorem PO.imp {X : Cx} {e : Option Expr} {t t' : TO} (h : PO X e t) (i : ∀ σ H Q, t' σ H Q → t σ H Q) : PO X e t' := ⟨fun pins s σ H Q I hw => h.run pins s σ H Q I (i σ H Q hw)⟩
theorem jo_none : JO X G W none fun _ => .ok none := PO.imp po_none fun σ H Q ⟨P, ρ, S, q⟩ => q.now
theorem jo_some (h : JE X G W s a f) : JO X G W (some a) (e1 (e1 f asInt) fun i => .ok (some i)) := PO.imp (po_some h) fun σ H Q ⟨P, ρ, S, q⟩ => ⟨P, ρ, S, (PostG.bind (PostG.bind q)).imp fun x H1 e1 q1 v r => by
  cases x with
  | int i => exact ⟨i, r, q1.now.now⟩
  | _ => exact False.elim q1⟩
def cutL {α : Type} (xs : List α) (lo hi : Option Int) : List α := (xs.drop (HT.sIx xs.length 0 lo)).take (HT.sIx xs.length xs.length hi - HT.sIx xs.length 0 lo)
theorem Reps.cut {K : PySem.W.Frag} {H : Hp} {N M : Addr → Prop} {ι : List Addr} {s : Bool} {ds : List D} {vs : List V} (r : Reps K H N M ι s vs ds) (lo hi : Option Int) : Reps K H N M ι s (cutV vs lo hi) (cutL ds lo hi) := by
  unfold cutV cutL
  rw [r.length]
  exact (r.drop _).take _
def slTup (lo hi : Option Int) : D → Res D
  | .tup ds => .ok (.tup (cutL ds lo hi))
  | _ => .stuck
def eSl {α : Type} (f : Rho → Res D) (l u : Rho → Res (Option Int)) (k : Option Int → Option Int → D → Res α) : Rho → Res α := fun ρ => (f ρ).bind fun x => (l ρ).bind fun lo => (u ρ).bind fun hi => k lo hi x
variable {l u : Rho → Res (Option Int)} {lo hi : Option Expr} {p2 : Pos}
theorem cut_whole {α : Type} (xs : List α) (lo hi : Option Int) (h : HT.sIx xs.length 0 lo = 0 ∧ HT.sIx xs.length xs.length hi = xs.length) : cutL xs lo hi = xs := by
  unfold cutL
  rw [h.1, h.2]
  simp
theorem je_slT (ha : JE X G W s a f) (hl : JO X G W lo l) (hu : JO X G W hi u) : JE X G W s (.Subscript a (.Slice lo hi none p2) pos) (eSl f l u slTup) :=
  PE.imp (pe_slice sl_tupA ha hl hu) fun σ H Q ⟨P, ρ, S, q⟩ => ⟨P, ρ, S, (PostG.bind q).imp fun x H1 e1 q1 v r1 => ⟨P, ρ, S.same e1, (PostG.bind q1).imp fun lo H2 e2 q2 => ⟨P, ρ, S.same (e1.trans e2), (PostG.bind q2).imp fun hi H3 e3 q3 => by
    cases x with
    | tup ds =>
      obtain ⟨p, vs, rfl, h2, h3⟩ := r1.same (e2.trans e3)
      refine ⟨p, vs, rfl, h2, fun hw => ?_, fun hw t ht => ?_⟩
      · refine q3.now _ ⟨p, vs, rfl, h2, ?_⟩
        rw [h3.length] at hw
        rw [cut_whole ds lo hi hw]; exact h3
      · exact q3 _ (same_new ht) _ ⟨t, _, rfl, SqT.of upd_same, (h3.cut lo hi).same (same_new ht)⟩
    | _ => exact False.elim q3⟩⟩⟩
def slLst (lo hi : Option Int) : D → Res (List D)
  | .lst ds => .ok (cutL ds lo hi)
  | _ => .stuck
theorem jn_slL (ha : JE X G W true a f) (hl : JO X G W lo l) (hu : JO X G W hi u) : JN X G W (.Subscript a (.Slice lo hi none p2) pos) (eSl f l u slLst) :=
  PE.imp (pe_slice sl_list ha hl hu) fun σ H Q ⟨P, ρ, S, q⟩ => ⟨P, ρ, S, (PostG.bind q).imp fun x H1 e1 q1 v r1 => ⟨P, ρ, S.same e1, (PostG.bind q1).imp fun lo H2 e2 q2 => ⟨P, ρ, S.same (e1.trans e2), (PostG.bind q2).imp fun hi H3 e3 q3 => by
    cases x with
    | lst ds =>
      obtain ⟨p, vs, rfl, h1, h2, h3⟩ := r1.same (e2.trans e3)
      exact ⟨p, vs, rfl, h2, fun t ht => q3 _ (same_new ht) _ _ ((e1.trans (e2.trans e3)).free ht) upd_same ((Reps.apart ht (h3.cut lo hi)).same (same_new ht))⟩
    | _ => exact False.elim q3⟩⟩⟩
/-! ### built-ins by their names -/
def CaS (K : PySem.W.Frag) (s s' : Bool) (r : List V → Hp → VK → Prop) (k : List D → Res D) : Prop :=
  ∀ (N M : Addr → Prop) (ι : List Addr) (W : WX) (σ : L2.St) (H : Hp) (vs : List V) (ds : List D) (Q : VK), Reps K H N M ι s vs ds → PostG K N M ι W σ H (fun d H' => ∀ w, Rep K H' N M ι s' w d → Q w H') (k ds) → r vs H Q
variable {es : List Expr} {fs : Rho → Res (List D)} {x : Str} {p : Pos} {id T : String} {r : List V → Hp → VK → Prop} {k : List D → Res D}
theorem je_callB (hc : CallR X (.builtin id) r) (sem : CaS X.K s s' r k) (hg : Gl X x) (hm : X.mg x = none) (hv : bootBuiltins x = some (.builtin id)) (ha : JA X G W s (a :: es) fs) (hn : x ≠ "__name__" := by decide) (hdb : (x == ("__debug__" : Str)) = false := by decide)
    (he : starEach (a :: es) X.env = (false, eval a X.env) :: starEach es X.env := by rfl) (hpl : (backTo pos (starEach es X.env)).any (·.1) = false := by rfl) : JE X G W s' (.Call (.Name x p) (a :: es) [] pos) (e1 fs k) :=
  PE.imp (pe_callB hc hg hm hv ha hn hdb he hpl) fun σ H Q ⟨P, ρ, S, q⟩ => ⟨P, ρ, S, (PostG.bind q).imp fun ds H1 e1 q1 vs rs => sem _ _ _ W σ H1 vs ds Q rs q1⟩
theorem je_callTy (hc : CallR X (.type T) r) (sem : CaS X.K s s' r k) (hg : Gl X x) (hm : X.mg x = none) (hv : bootBuiltins x = some (.type T)) (ha : JA X G W s (a :: es) fs) (hn : x ≠ "__name__" := by decide) (hdb : (x == ("__debug__" : Str)) = false := by decide)
    (he : starEach (a :: es) X.env = (false, eval a X.env) :: starEach es X.env := by rfl) (hpl : (backTo pos (starEach es X.env)).any (·.1) = false := by rfl) : JE X G W s' (.Call (.Name x p) (a :: es) [] pos) (e1 fs k) :=
  PE.imp (pe_callTy hc hg hm hv ha hn hdb he hpl) fun σ H Q ⟨P, ρ, S, q⟩ => ⟨P, ρ, S, (PostG.bind q).imp fun ds H1 e1 q1 vs rs => sem _ _ _ W σ H1 vs ds Q rs q1⟩
theorem je_bltn {x : Str} {T : String} (hg : Gl X x) (hm : X.mg x = none) (hv : bootBuiltins x = some (.type T)) (hn : x ≠ "__name__" := by decide) (hdb : (x == ("__debug__" : Str)) = false := by decide) : JE X G W s (.Name x pos) (cD (.ty T)) :=
  PE.imp (pe_bltn (v := .ty T) hg hm hv rfl hn hdb) fun σ H Q ⟨P, ρ, S, q⟩ => q.now _ rfl
end
section
variable {K : PySem.W.Frag} {s s' : Bool}
def lenK : List D → Res D
  | [.lst ds] => .ok (.int ds.length)
  | [.tup ds] => .ok (.int ds.length)
  | [.str x] => if x.length ≤ line then .ok (.int x.length) else .stuck
  | _ => .stuck
theorem Reps.one {H : Hp} {N M : Addr → Prop} {ι : List Addr} {vs : List V} {d : D} (h : Reps K H N M ι s vs [d]) : ∃ v, vs = [v] ∧ Rep K H N M ι s v d := by
  obtain ⟨v, r, rfl, h1, h2⟩ := h
  cases (show r = [] from h2)
  exact ⟨v, rfl, h1⟩
theorem Reps.two {H : Hp} {N M : Addr → Prop} {ι : List Addr} {vs : List V} {d e : D} (h : Reps K H N M ι s vs [d, e]) : ∃ v u, vs = [v, u] ∧ Rep K H N M ι s v d ∧ Rep K H N M ι s u e := by
  obtain ⟨v, r, rfl, h1, h2⟩ := h
  obtain ⟨u, rfl, h3⟩ := Reps.one h2
  exact ⟨v, u, rfl, h1, h3⟩
theorem cas_len : CaS K s s' (fun xs H Q => ∃ x n, xs = [x] ∧ LenV K x H n ∧ Q (.int n) H) lenK := by
  intro N M ι W σ H vs ds Q r q
  cases ds with
  | nil => exact False.elim q
  | cons d ds =>
    cases ds with
    | cons _ _ => cases d <;> exact False.elim q
    | nil =>
      obtain ⟨v, ev, r0⟩ := r.one
      subst ev
      clear r
      cases d with
      | lst ds =>
        obtain ⟨p, vs, rfl, _, h2, h3⟩ := r0
        exact ⟨_, ds.length, rfl, .inl ⟨vs, h2, h3.length.symm⟩, q.now _ rfl⟩
      | tup ds =>
        obtain ⟨p, vs, rfl, h2, h3⟩ := r0
        exact ⟨_, ds.length, rfl, .inr ⟨vs, h2, h3.length.symm⟩, q.now _ rfl⟩
      | str x =>
        have q' : PostG K N M ι W σ H (fun d H' => ∀ w, Rep K H' N M ι s' w d → Q w H') (if x.length ≤ line then .ok (.int x.length) else .stuck) := q
        by_cases hl : x.length ≤ line
        · rw [if_pos hl] at q'
          cases (show v = .str x from r0)
          exact ⟨_, x.length, rfl, ⟨by rw [← line_eq]; exact hl, rfl⟩, q'.now _ rfl⟩
        · rw [if_neg hl] at q'; exact False.elim q'
      | _ => exact False.elim q
def intK : List D → Res D
  | [.int i] => .ok (.int i)
  | [.bl k] => .ok (.int (if k then 1 else 0))
  | _ => .stuck
theorem cas_int : CaS K s s' (fun xs H Q => (∃ i, xs = [.int i] ∧ Q (.int i) H) ∨ ∃ k, xs = [.bl k] ∧ Q (.int (if k then 1 else 0)) H) intK := by
  intro N M ι W σ H vs ds Q r q
  cases ds with
  | nil => exact False.elim q
  | cons d ds =>
    cases ds with
    | cons _ _ => cases d <;> exact False.elim q
    | nil =>
      obtain ⟨v, ev, r0⟩ := r.one
      subst ev
      clear r
      cases d with
      | int i => cases (show v = .int i from r0); exact .inl ⟨i, rfl, q.now _ rfl⟩
      | bl i => cases (show v = .bl i from r0); exact .inr ⟨i, rfl, q.now _ rfl⟩
      | _ => exact False.elim q
def absK : List D → Res D
  | [.int i] => .ok (.int (if i < 0 then -i else i))
  | _ => .stuck
theorem cas_abs : CaS K s s' (fun xs H Q => ∃ i, xs = [.int i] ∧ Q (.int (if i < 0 then -i else i)) H) absK := by
  intro N M ι W σ H vs ds Q r q
  cases ds with
  | nil => exact False.elim q
  | cons d ds =>
    cases ds with
    | cons _ _ => cases d <;> exact False.elim q
    | nil =>
      obtain ⟨v, ev, r0⟩ := r.one
      subst ev
      clear r
      cases d with
      | int i => cases (show v = .int i from r0); exact ⟨i, rfl, q.now _ rfl⟩
      | _ => exact False.elim q
def tyOf : D → Option String
  | .non => some "NoneType" | .bl _ => some "bool" | .int _ => some "int" | .str _ => some "str" | .tup _ => some "tuple" | .lst _ => some "list"
  | .ty _ => none | .ob _ => none | .ins _ _ _ => none | .rf _ => none
theorem Rep.tyX {H : Hp} {N M : Addr → Prop} {ι : List Addr} {v : V} {d : D} {t : String} (e : tyOf d = some t) (r : Rep K H N M ι s v d) : TyX K H v (.type t) := by
  cases d with
  | non => cases e; cases (show v = .non from r); exact .base .non
  | bl b => cases e; cases (show v = .bl b from r); exact .base (.bl b)
  | int b => cases e; cases (show v = .int b from r); exact .base (.int b)
  | str b => cases e; cases (show v = .str b from r); exact .base (.str b)
  | tup ds =>
    cases e
    obtain ⟨p, vs, rfl, h2, h3⟩ := r
    rcases h2 with (h | ⟨o, h⟩) | ⟨o, its, n, h1, h2, _⟩
    · exact .base (.tup h)
    · exact .fTuple h
    · exact .kTuple h1 h2
  | lst ds =>
    cases e
    obtain ⟨p, vs, rfl, _, h2, h3⟩ := r
    rcases h2 with (h | ⟨o, h⟩) | ⟨o, its, n, h1, h2, _⟩
    · exact .base (.lst h)
    · exact .base (.frz h)
    · exact .kList h1 h2
  | _ => cases e
def isiK : List D → Res D
  | [x, .ty T] => match tyOf x with
    | some t => match kitB t T with
      | some b => .ok (.bl b)
      | none => .stuck
    | none => .stuck
  | _ => .stuck
theorem cas_isi : CaS K s s' (rIsi K) isiK := by
  intro N M ι W σ H vs ds Q r q
  cases ds with
  | nil => exact False.elim q
  | cons d ds =>
    cases ds with
    | nil => exact False.elim q
    | cons e ds =>
      cases ds with
      | cons _ _ => cases e <;> exact False.elim q
      | nil =>
        cases e with
        | ty T =>
          obtain ⟨v, u, rfl, r1, r2⟩ := r.two
          have q' : PostG K N M ι W σ H (fun d H' => ∀ w, Rep K H' N M ι s' w d → Q w H') (match tyOf d with | some t => (match kitB t T with | some b => .ok (.bl b) | none => .stuck) | none => .stuck) := q
          cases e1 : tyOf d with
          | none => rw [e1] at q'; exact False.elim q'
          | some t =>
            rw [e1] at q'
            dsimp only at q'
            cases e2 : kitB t T with
            | none => rw [e2] at q'; exact False.elim q'
            | some b =>
              rw [e2] at q'
              cases (show u = .ty T from r2)
              exact ⟨v, _, _, _, b, rfl, .ty T, r1.tyX e1, kit_ty e2, q'.now _ rfl⟩
        | _ => exact False.elim q
end
end Dv

set_option Elab.async false
set_option linter.all false
set_option maxRecDepth 100000
set_option maxHeartbeats 4000000
namespace Dv
open PySem PySem.Spec L2
open PyProof.Rows hiding St

/-! ### what a statement does -/
inductive Out where
  | nx (ρ : Rho) | rt (d : D) (ρ : Rho) | bk (ρ : Rho) | ct (ρ : Rho) | ex (x : Exn) (ρ : Rho) | stuck
/-- a value handed back: a list is a new one -/
def RetV (K : PySem.W.Frag) (D0 N M : Addr → Prop) (ι : List Addr) (H : Hp) (v : V) : D → Prop
  | .lst ds => ∃ p vs, v = .ref p ∧ ¬ D0 p ∧ H p = some (.lst vs) ∧ Reps K H (fun a => N a ∨ a = p) M ι true vs ds
  | d => Rep K H N M ι true v d
def Sg.N0 (G : Sg) : Addr → Prop := fun a => (G.H0 a).isSome = true
def PostS (K : PySem.W.Frag) (G : Sg) (W : WX) (Q : Ends) : Out → Prop
  | .nx ρ => ∀ P σ H, Sim K G P ρ σ H → Q.nx σ H
  | .rt d ρ => ∀ P σ H v, Sim K G P ρ σ H → RetV K G.N0 G.Z G.Mx P.c H v d → Q.rt v H
  | .bk ρ => ∀ P σ H, Sim K G P ρ σ H → Q.bk σ H
  | .ct ρ => ∀ P σ H, Sim K G P ρ σ H → Q.ct σ H
  | .ex x ρ => ∀ P σ H cls od, Sim K G P ρ σ H → XRep K (G.N P) (G.M P) P.c H cls od x → W cls od σ H
  | .stuck => False
def tS (K : PySem.W.Frag) (G : Sg) (W : WX) (g : Rho → Out) : TS := fun Q σ H => ∃ P ρ, Sim K G P ρ σ H ∧ PostS K G W Q (g ρ)
def JS (X : Cx) (G : Sg) (W : WX) (st : Stmt) (g : Rho → Out) : Prop := PS X st (tS X.K G W g)
def JB (X : Cx) (G : Sg) (W : WX) (st : List Stmt) (g : Rho → Out) : Prop := PSs X st (tS X.K G W g)
/-- an expression's outcome, then k -/
def andThen {α : Type} (ρ : Rho) (r : Res α) (k : α → Out) : Out := match r with
  | .ok a => k a
  | .exc x => .ex x ρ
  | .stuck => .stuck
@[simp] theorem andThen_ok {α : Type} (ρ : Rho) (a : α) (k : α → Out) : andThen ρ (.ok a) k = k a := rfl
@[simp] theorem andThen_exc {α : Type} (ρ : Rho) (x : Exn) (k : α → Out) : andThen ρ (.exc x) k = .ex x ρ := rfl
theorem andThen_post {α : Type} {K : PySem.W.Frag} {G : Sg} {W : WX} {Q : Ends} {P : Pl} {ρ : Rho} {σ : L2.St} {H : Hp} {r : Res α} {k : α → Out} (S : Sim K G P ρ σ H) (h : PostS K G W Q (andThen ρ r k)) :
    PostG K (G.N P) (G.M P) P.c W σ H (fun a _ => PostS K G W Q (k a)) r := by
  cases r with
  | ok a => exact fun _ _ => h
  | exc x => exact fun cls od H' e q => h P σ H' cls od (S.same e) q
  | stuck => exact h
/-- a statement, then g -/
def andS (o : Out) (g : Rho → Out) : Out := match o with
  | .nx ρ => g ρ
  | o => o
def sSeq (f g : Rho → Out) : Rho → Out := fun ρ => andS (f ρ) g
@[simp] theorem andS_nx (ρ : Rho) (g : Rho → Out) : andS (.nx ρ) g = g ρ := rfl
@[simp] theorem andS_rt (d : D) (ρ : Rho) (g : Rho → Out) : andS (.rt d ρ) g = .rt d ρ := rfl
@[simp] theorem andS_ex (x : Exn) (ρ : Rho) (g : Rho → Out) : andS (.ex x ρ) g = .ex x ρ := rfl
@[simp] theorem andS_bk (ρ : Rho) (g : Rho → Out) : andS (.bk ρ) g = .bk ρ := rfl
@[simp] theorem andS_ct (ρ : Rho) (g : Rho → Out) : andS (.ct ρ) g = .ct ρ := rfl
def sNil : Rho → Out := .nx

section
variable {X : Cx} {G : Sg} {W : WX} {s s' : Bool} {st : Stmt} {rest : List Stmt} {e : Expr} {f : Rho → Res D} {g h : Rho → Out} {pos : Pos}
theorem jb_nil : JB X G W [] sNil := PSs.imp pss_nil fun Q σ H ⟨P, ρ, S, q⟩ => q P σ H S
theorem jb_one (h1 : JS X G W st g) : JB X G W [st] g := pss_one h1
theorem jb_cons (h1 : JS X G W st g) (h2 : JB X G W rest h) : JB X G W (st :: rest) (sSeq g h) := PSs.imp (pss_cons h1 h2) fun Q σ H ⟨P, ρ, S, q⟩ => by
  refine ⟨P, ρ, S, ?_⟩
  have q' : PostS X.K G W Q (andS (g ρ) h) := q
  cases e : g ρ with
  | nx ρ' => rw [e] at q'; exact fun P' σ' H' S' => ⟨P', ρ', S', q'⟩
  | rt d ρ' => rw [e] at q'; exact q'
  | bk ρ' => rw [e] at q'; exact q'
  | ct ρ' => rw [e] at q'; exact q'
  | ex x ρ' => rw [e] at q'; exact q'
  | stuck => rw [e] at q'; exact q'
theorem js_pass : JS X G W (.Pass pos) .nx := PS.imp ps_pass fun Q σ H ⟨P, ρ, S, q⟩ => q P σ H S
theorem js_break : JS X G W (.Break pos) .bk := PS.imp ps_break fun Q σ H ⟨P, ρ, S, q⟩ => q P σ H S
theorem js_continue : JS X G W (.Continue pos) .ct := PS.imp ps_continue fun Q σ H ⟨P, ρ, S, q⟩ => q P σ H S
/-- never reached -/
def sNever : Rho → Out := fun _ => .stuck
theorem js_never : JS X G W st sNever := PS.imp ps_never fun Q σ H ⟨P, ρ, S, q⟩ => False.elim q
theorem jb_never {sts : List Stmt} : JB X G W sts sNever := PSs.imp pss_never fun Q σ H ⟨P, ρ, S, q⟩ => False.elim q
def sExpr {α : Type} (f : Rho → Res α) : Rho → Out := fun ρ => andThen ρ (f ρ) fun _ => .nx ρ
theorem js_expr (he : JE X G W s e f) (hs : swapsWith e none pos.line X.env = pure false := by rfl) : JS X G W (.Expr e pos) (sExpr f) := PS.imp (ps_expr he hs) fun Q σ H ⟨P, ρ, S, q⟩ =>
  ⟨P, ρ, S, (andThen_post S q).imp fun a H' e q v r => q P σ H' (S.same e)⟩
def isLst : D → Bool
  | .lst _ => true
  | _ => false
def sRet (f : Rho → Res D) : Rho → Out := fun ρ => andThen ρ (f ρ) fun d => if isLst d = true then .stuck else .rt d ρ
theorem RetV.of {K : PySem.W.Frag} {D0 N M : Addr → Prop} {ι : List Addr} {H : Hp} {v : V} {d : D} (h : isLst d = false) (r : Rep K H N M ι true v d) : RetV K D0 N M ι H v d := by
  cases d with
  | lst ds => cases h
  | _ => exact r
theorem js_ret (he : JE X G W true e f) : JS X G W (.Return (some e) pos) (sRet f) := PS.imp (ps_ret he) fun Q σ H ⟨P, ρ, S, q⟩ =>
  ⟨P, ρ, S, (andThen_post S q).imp fun d H' e q v r => by
    cases hd : isLst d with
    | true => rw [if_pos hd] at q; exact False.elim q
    | false =>
      rw [if_neg (by rw [hd]; exact Bool.false_ne_true)] at q
      exact q P σ H' v (S.same e) (.of hd (r.weak (fun a z => .inl z) fun a z => .inl z))⟩
def sRetN (f : Rho → Res (List D)) : Rho → Out := fun ρ => andThen ρ (f ρ) fun ds => .rt (.lst ds) ρ
theorem Sim.newN0 {K : PySem.W.Frag} {P : Pl} {ρ : Rho} {σ : L2.St} {H : Hp} (S : Sim K G P ρ σ H) {a : Addr} (h : H a = none) : ¬ G.N0 a := fun z => by
  have := S.dom0 z
  rw [h] at this; cases this
theorem js_retN {f : Rho → Res (List D)} (he : JN X G W e f) : JS X G W (.Return (some e) pos) (sRetN f) := PS.imp (ps_ret he) fun Q σ H ⟨P, ρ, S, q⟩ =>
  ⟨P, ρ, S, (andThen_post S q).imp fun ds H' e q p vs hp hl rs => q P σ H' _ (S.same e) ⟨p, vs, rfl, S.newN0 hp, hl, rs.weak (fun a z => z.elim (fun z => .inl (.inl z)) .inr) fun a z => .inl z⟩⟩
/-- return of a list of one's own -/
def sRetO (i : Nat) : Rho → Out := fun ρ => match ρ.sl[i]? with
  | some (.ow ds) => .rt (.lst ds) ρ
  | _ => .stuck
theorem js_retO {x : Str} (i : Nat) {p2 : Pos} (h : PE X (.Name x p2) (tVar i)) : JS X G W (.Return (some (.Name x p2)) pos) (sRetO i) := PS.imp (ps_ret h) fun Q σ H ⟨P, ρ, S, q⟩ => by
  unfold sRetO at q
  cases e : ρ.sl[i]? with
  | none => rw [e] at q; exact False.elim q
  | some x =>
    rw [e] at q
    have k := S.sl i x e
    cases x with
    | ow ds =>
      obtain ⟨p, vs, h1, h2, h3, h4⟩ := k
      refine ⟨_, h2, q P σ H _ S ⟨p, vs, rfl, fun z => ?_, h3, h4.weak (fun a z => z.elim .inl fun z => .inr (.inl ⟨i, by rw [z]; exact h1⟩)) fun a z => .inl z⟩⟩
      have io := S.own i p h1 z
      obtain ⟨C, dx, fs, e0⟩ := S.iot p io
      rw [h3] at e0; cases e0
    | no => exact False.elim q
    | sh d => exact False.elim q
    | bo d => exact False.elim q
    | oi C fn ds => exact False.elim q
    | xv x => exact False.elim q

def sRetNone : Rho → Out := fun ρ => .rt .non ρ
theorem js_retNone : JS X G W (.Return none pos) sRetNone := PS.imp ps_retN fun Q σ H ⟨P, ρ, S, q⟩ => q P σ H _ S rfl
def sIf (p : Rho → Res Bool) (g h : Rho → Out) : Rho → Out := fun ρ => andThen ρ (p ρ) fun t => if t = true then g ρ else h ρ
theorem js_if {c : Expr} {a b : List Stmt} {p : Rho → Res Bool} (hc : JT X G W c p) (ha : JB X G W a g) (hb : JB X G W b h) : JS X G W (.If c a b pos) (sIf p g h) := PS.imp (ps_if hc ha hb) fun Q σ H ⟨P, ρ, S, q⟩ =>
  ⟨P, ρ, S, (andThen_post S q).imp fun t H' e q => by
    cases t with
    | true => exact ⟨P, ρ, S.same e, q⟩
    | false => exact ⟨P, ρ, S.same e, q⟩⟩
end

/-! ### slots are stored -/
section
variable {K : PySem.W.Frag} {G : Sg} {P P' : Pl} {ρ : Rho} {σ σ' : L2.St} {H H' : Hp} {N M N' M' : Addr → Prop} {ι ι' : List Addr}
/-- what is tracked at H, at a heap that grew, under other sets that say the same of what was tracked -/
theorem Rep.moved (e : Same H H') (hN : ∀ a, (H a).isSome = true → N' a → N a) (hM : ∀ a, (H a).isSome = true → M' a → M a) {d : D} {v : V} (h : Rep K H N M ι true v d)
    (hR : ∀ (n : Nat) (a : Addr), ι[n]? = some a → ι'[n]? = some a := by exact fun _ _ z => z) : Rep K H' N' M' ι' true v d :=
  Rep.map (fun _ _ q => sqT_same e q) (fun a xs h1 h2 => ⟨fun z => ⟨e _ _ (h1 z).1, fun q => (h1 z).2 (hN a (by rw [(h1 z).1]; rfl) q)⟩, e.seq h2⟩) (fun a C dx fs h1 h2 => ⟨fun q => h1 (hM a (by rw [h2]; rfl) q), e _ _ h2⟩) hR d v h
theorem Reps.moved (e : Same H H') (hN : ∀ a, (H a).isSome = true → N' a → N a) (hM : ∀ a, (H a).isSome = true → M' a → M a) {ds : List D} {vs : List V} (h : Reps K H N M ι true vs ds)
    (hR : ∀ (n : Nat) (a : Addr), ι[n]? = some a → ι'[n]? = some a := by exact fun _ _ z => z) : Reps K H' N' M' ι' true vs ds :=
  Reps.map (fun _ _ q => sqT_same e q) (fun a xs h1 h2 => ⟨fun z => ⟨e _ _ (h1 z).1, fun q => (h1 z).2 (hN a (by rw [(h1 z).1]; rfl) q)⟩, e.seq h2⟩) (fun a C dx fs h1 h2 => ⟨fun q => h1 (hM a (by rw [h2]; rfl) q), e _ _ h2⟩) hR ds vs h
theorem XRep.moved (e : Same H H') (hN : ∀ a, (H a).isSome = true → N' a → N a) (hM : ∀ a, (H a).isSome = true → M' a → M a) {cls : Value} {od : Option Addr} {x : Exn} (h : XRep K N M ι H cls od x)
    (hR : ∀ (n : Nat) (a : Addr), ι[n]? = some a → ι'[n]? = some a := by exact fun _ _ z => z) : XRep K N' M' ι' H' cls od x := by
  obtain ⟨h1, h2⟩ := h
  refine ⟨h1, ?_⟩
  cases od with
  | none => exact h2
  | some dd => obtain ⟨fs, q1, q2, q3⟩ := h2; exact ⟨fs, e _ _ q1, q2, q3.moved e hN hM hR⟩
/-- P' owns no more of what was tracked, and has the cells of P, perhaps more -/
structure Pl.Le (H : Hp) (P' P : Pl) : Prop where
  o : ∀ a, (H a).isSome = true → P'.own a → P.own a
  c : ∀ (n : Nat) (a : Addr), P.c[n]? = some a → P'.c[n]? = some a
theorem Pl.Le.nn (h : Pl.Le H P' P) : ∀ a, (H a).isSome = true → G.N P' a → G.N P a := fun a t z => z.elim .inl fun z => .inr (h.o a t z)
theorem Pl.Le.mm (h : Pl.Le H P' P) : ∀ a, (H a).isSome = true → G.M P' a → G.M P a := fun a t z => z.elim .inl fun z => .inr (h.o a t z)
theorem SlOk.moved (e : Same H H') (hO : Pl.Le H P' P) {i : Nat} (hi : P' i = P i) (hs : σ'[i]? = σ[i]?) {x : Sl} (h : SlOk K G P σ H i x) : SlOk K G P' σ' H' i x := by
  have hN := hO.nn (G := G)
  have hM := hO.mm (G := G)
  cases x with
  | no => exact hi.trans h
  | sh d => obtain ⟨h1, v, h2, h3⟩ := h; exact ⟨hi.trans h1, v, hs.trans h2, h3.moved e hN hM hO.c⟩
  | bo d => obtain ⟨h1, v, h2, h3⟩ := h; exact ⟨hi.trans h1, v, hs.trans h2, h3⟩
  | ow ds => obtain ⟨p, vs, h1, h2, h3, h4⟩ := h; exact ⟨p, vs, hi.trans h1, hs.trans h2, e _ _ h3, h4.moved e hN hM hO.c⟩
  | oi C fn ds => obtain ⟨p, dx, fs, h1, h2, h3, h4, h5⟩ := h; exact ⟨p, dx, fs, ⟨hi.trans h1.1, h1.2⟩, hs.trans h2, e _ _ h3, h4, h5.moved e hN hM hO.c⟩
  | xv x => obtain ⟨h1, a, cls, od, h2, h3, h4⟩ := h; exact ⟨hi.trans h1, a, cls, od, h2, hs.trans h3, h4.moved e hN hM hO.c⟩
theorem CeOk.moved (e : Same H H') (hO : Pl.Le H P' P) {a : Addr} {c : Ce} (h : CeOk K G P H a c) : CeOk K G P' H' a c := by
  cases c with
  | lst ds => obtain ⟨vs, h1, h2⟩ := h; exact ⟨vs, e _ _ h1, h2.moved e (hO.nn (G := G)) (hO.mm (G := G)) hO.c⟩
  | ins C fn ds => obtain ⟨dx, fs, h1, h2, h3⟩ := h; exact ⟨dx, fs, e _ _ h1, h2, h3.moved e (hO.nn (G := G)) (hO.mm (G := G)) hO.c⟩
  | gone => trivial
theorem StOk.moved (e : Same H H') (hO : Pl.Le H P' P) (hc : P'.c = P.c) {S : List Ce} (h : StOk K G P H S) : StOk K G P' H' S :=
  ⟨h.1, by rw [hc]; exact h.2.1, h.2.2.1, fun n c a h1 h2 => (h.2.2.2 n c a h1 (by rw [← hc]; exact h2)).moved e hO⟩
theorem get_set {α : Type} {l : List α} {i j : Nat} {a b : α} (h : (l.set i a)[j]? = some b) : (j = i ∧ i < l.length ∧ b = a) ∨ (j ≠ i ∧ l[j]? = some b) := by
  by_cases hj : j = i
  · subst hj
    by_cases hl : j < l.length
    · rw [List.getElem?_set_self hl] at h; exact .inl ⟨rfl, hl, (Option.some.inj h).symm⟩
    · rw [List.getElem?_eq_none (by simpa using hl)] at h; cases h
  · rw [List.getElem?_set_ne (Ne.symm hj)] at h; exact .inr ⟨hj, h⟩
theorem set_other {α : Type} {l : List α} {i j : Nat} {a : α} (h : j ≠ i) : (l.set i a)[j]? = l[j]? := List.getElem?_set_ne (Ne.symm h)
theorem set_big {α : Type} {l : List α} {i : Nat} {a : α} (h : l.length ≤ i) : l.set i a = l := List.set_eq_of_length_le h
def Pl.put (P : Pl) (i : Nat) (o : Option Addr) : Pl := ⟨fun j => if j = i then o else P j, P.c⟩
theorem Pl.put_self {P : Pl} {i : Nat} {o : Option Addr} : P.put i o i = o := if_pos rfl
theorem Pl.put_ne {P : Pl} {i j : Nat} {o : Option Addr} (h : j ≠ i) : P.put i o j = P j := if_neg h
theorem Pl.put_none {H : Hp} {P : Pl} {i : Nat} : Pl.Le H (P.put i none) P := ⟨fun a _ z => by
  rcases z with ⟨j, z⟩ | z
  · by_cases hj : j = i
    · have z' : P.put i none j = some a := z
      rw [hj, Pl.put_self] at z'; cases z'
    · have z' : P.put i none j = some a := z
      rw [Pl.put_ne hj] at z'; exact .inl ⟨j, z'⟩
  · exact .inr z, fun _ _ z => z⟩
theorem Pl.put_new {H : Hp} {P : Pl} {i : Nat} {p : Addr} (hp : H p = none) : Pl.Le H (P.put i (some p)) P := ⟨fun a t z => by
  rcases z with ⟨j, z⟩ | z
  · have z' : P.put i (some p) j = some a := z
    by_cases hj : j = i
    · rw [hj, Pl.put_self] at z'; cases z'; rw [hp] at t; cases t
    · rw [Pl.put_ne hj] at z'; exact .inl ⟨j, z'⟩
  · exact .inr z, fun _ _ z => z⟩
/-- a slot is left, or takes what owns nothing -/
theorem Sim.setX (S : Sim K G P ρ σ H) {i : Nat} (hi : i < ρ.sl.length) {x : Sl} {o : Option V} (hb : ∀ d, x ≠ .bo d) (hx : SlOk K G (P.put i none) (σ.set i o) H i x) : Sim K G (P.put i none) (ρ.set i x) (σ.set i o) H where
  base := S.base
  io := S.io
  iot := S.iot
  mx := S.mx
  zx := S.zx
  inj j k a h1 h2 := by
    by_cases e1 : j = i
    · rw [e1, Pl.put_self] at h1; cases h1
    · by_cases e2 : k = i
      · rw [e2, Pl.put_self] at h2; cases h2
      · rw [Pl.put_ne e1] at h1; rw [Pl.put_ne e2] at h2; exact S.inj j k a h1 h2
  ic j a h1 := by
    by_cases e1 : j = i
    · rw [e1, Pl.put_self] at h1; cases h1
    · rw [Pl.put_ne e1] at h1; exact S.ic j a h1
  zo j a h1 := by
    by_cases e1 : j = i
    · rw [e1, Pl.put_self] at h1; cases h1
    · rw [Pl.put_ne e1] at h1; exact S.zo j a h1
  nd := S.nd
  cx := S.cx
  pre := S.pre
  pc := S.pc
  nw := S.nw
  im := S.im
  c0c := S.c0c
  own j a h1 h2 := by
    by_cases e1 : j = i
    · rw [e1, Pl.put_self] at h1; cases h1
    · rw [Pl.put_ne e1] at h1; exact S.own j a h1 h2
  ioc := S.ioc
  out j hj := by
    by_cases e1 : j = i
    · rw [e1, Pl.put_self]
    · rw [Pl.put_ne e1]; exact S.out j (by simpa [Rho.set] using hj)
  len := by simpa [Rho.set] using S.len
  sl j y hy := by
    rcases get_set hy with ⟨e1, e2, e3⟩ | ⟨e1, e2⟩
    · subst e1 e3; exact hx
    · exact (S.sl j y e2).moved (Same.refl H) Pl.put_none (Pl.put_ne e1) (set_other e1)
  nb hc j d h := by
    rcases get_set h with ⟨e1, e2, e3⟩ | ⟨e1, e2⟩
    · exact hb d e3.symm
    · exact S.nb hc j d e2
  st Q h := (S.st Q h).moved (Same.refl H) Pl.put_none rfl
  gs p hp := (S.gs p hp).moved (Same.refl H) (Pl.put_none.nn (G := G)) (Pl.put_none.mm (G := G))
theorem Rep.putN {i : Nat} {d : D} {v : V} (r : Rep K H (G.N P) (G.M P) P.c true v d) : Rep K H (G.N (P.put i none)) (G.M (P.put i none)) P.c true v d := r.moved (Same.refl H) (Pl.put_none.nn (G := G)) (Pl.put_none.mm (G := G))
theorem Reps.putN {i : Nat} {d : List D} {v : List V} (r : Reps K H (G.N P) (G.M P) P.c true v d) : Reps K H (G.N (P.put i none)) (G.M (P.put i none)) P.c true v d := r.moved (Same.refl H) (Pl.put_none.nn (G := G)) (Pl.put_none.mm (G := G))
theorem Rho.set_big {i : Nat} {x : Sl} (h : ρ.sl.length ≤ i) : ρ.set i x = ρ := by
  unfold Rho.set
  rw [Dv.set_big h]
/-- a name is stored -/
theorem Sim.setSh (S : Sim K G P ρ σ H) (i : Nat) {d : D} {v : V} (r : Rep K H (G.N P) (G.M P) P.c true v d) : ∃ P', Sim K G P' (ρ.set i (.sh d)) (σ.set i (some v)) H ∧ P'.c = P.c := by
  by_cases hi : i < ρ.sl.length
  · exact ⟨P.put i none, S.setX hi (fun d z => by cases z) ⟨Pl.put_self, v, List.getElem?_set_self (by rw [← S.len]; exact hi), r.putN⟩, rfl⟩
  · have h1 : ρ.sl.length ≤ i := by omega
    rw [Rho.set_big h1, Dv.set_big (by rw [← S.len]; exact h1)]
    exact ⟨P, S, rfl⟩
/-- a new list of one's own -/
theorem Sim.setOw (S : Sim K G P ρ σ H) (e : Same H H') {i : Nat} (hi : i < ρ.sl.length) {p : Addr} {ds : List D} {vs : List V} (hp : H p = none) (hl : H' p = some (.lst vs)) (r : Reps K H' (fun a => G.N P a ∨ a = p) (G.M P) P.c true vs ds) :
    ∃ P', Sim K G P' (ρ.set i (.ow ds)) (σ.set i (some (.ref p))) H' := by
  have np : ∀ j, P j ≠ some p := fun j z => by
    obtain ⟨o, q⟩ := S.there z
    rw [hp] at q; cases q
  have hO : Pl.Le H (P.put i (some p)) P := Pl.put_new hp
  exact ⟨P.put i (some p), {
    base := fun a o h1 h2 h3 => e _ _ (S.base a o h1 h2 h3)
    io := S.io
    iot := fun a h => (let ⟨C, dx, fs, q⟩ := S.iot a h; ⟨C, dx, fs, e _ _ q⟩)
    mx := fun a h => some_same e (S.mx a h)
    zx := fun a h => some_same e (S.zx a h)
    inj := fun j k a h1 h2 => by
      by_cases e1 : j = i
      · by_cases e2 : k = i
        · rw [e1, e2]
        · rw [e1, Pl.put_self] at h1; cases h1; rw [Pl.put_ne e2] at h2; exact absurd h2 (np k)
      · by_cases e2 : k = i
        · rw [e2, Pl.put_self] at h2; cases h2; rw [Pl.put_ne e1] at h1; exact absurd h1 (np j)
        · rw [Pl.put_ne e1] at h1; rw [Pl.put_ne e2] at h2; exact S.inj j k a h1 h2
    ic := fun j a h1 => by
      by_cases e1 : j = i
      · rw [e1, Pl.put_self] at h1; cases h1
        exact fun z => by
          have := S.cx _ z
          rw [hp] at this; cases this
      · rw [Pl.put_ne e1] at h1; exact S.ic j a h1
    zo := fun j a h1 => by
      by_cases e1 : j = i
      · rw [e1, Pl.put_self] at h1; cases h1
        exact fun z => by
          have := S.zx _ z
          rw [hp] at this; cases this
      · rw [Pl.put_ne e1] at h1; exact S.zo j a h1
    nd := S.nd
    cx := fun a h => some_same e (S.cx a h)
    pre := S.pre
    pc := S.pc
    nw := S.nw
    im := S.im
    c0c := S.c0c
    own := fun j a h1 h2 => by
      by_cases e1 : j = i
      · rw [e1, Pl.put_self] at h1; cases h1
        have := S.dom0 h2
        rw [hp] at this; cases this
      · rw [Pl.put_ne e1] at h1; exact S.own j a h1 h2
    ioc := S.ioc
    out := fun j hj => by
      have hj' : ρ.sl.length ≤ j := by simpa [Rho.set] using hj
      have e1 : j ≠ i := by omega
      rw [Pl.put_ne e1]; exact S.out j hj'
    len := by simpa [Rho.set] using S.len
    sl := fun j x hx => by
      rcases get_set hx with ⟨e1, e2, e3⟩ | ⟨e1, e2⟩
      · subst e1 e3
        refine ⟨p, vs, Pl.put_self, List.getElem?_set_self (by rw [← S.len]; exact e2), hl, Reps.map (fun _ _ q => q) (fun a xs h1 h2 => ⟨fun z => ⟨(h1 z).1, fun q => (h1 z).2 ?_⟩, h2⟩) (fun a C dx fs h1 h2 => ⟨fun q => h1 ?_, h2⟩) (fun _ _ z => z) ds vs r⟩
        · rcases q with q | ⟨k, q⟩ | q
          · exact .inl (.inl q)
          · have q' : P.put j (some p) k = some a := q
            by_cases hk : k = j
            · rw [hk, Pl.put_self] at q'; cases q'; exact .inr rfl
            · rw [Pl.put_ne hk] at q'; exact .inl (.inr (.inl ⟨k, q'⟩))
          · exact .inl (.inr (.inr q))
        · rcases q with q | ⟨k, q⟩ | q
          · exact .inl q
          · have q' : P.put j (some p) k = some a := q
            by_cases hk : k = j
            · rw [hk, Pl.put_self] at q'; cases q'; rw [h2] at hl; cases hl
            · rw [Pl.put_ne hk] at q'; exact .inr (.inl ⟨k, q'⟩)
          · exact .inr (.inr q)
      · exact (S.sl j x e2).moved e hO (Pl.put_ne e1) (set_other e1)
    nb := fun hc j d h => by
      rcases get_set h with ⟨e1, e2, e3⟩ | ⟨e1, e2⟩
      · cases e3
      · exact S.nb hc j d e2
    st := fun Q h => (S.st Q h).moved e hO rfl
    gs := fun q hq => (S.gs q hq).moved e (hO.nn (G := G)) (hO.mm (G := G)) }⟩
/-- what is owned may change -/
theorem Rep.updP {p : Addr} {o : HO} (hN : N p) (hM : M p) (ho : ∃ u, H p = some u ∧ ((∃ xs, u = .lst xs) ∨ ∃ C dx fs, u = .ins C dx fs)) {d : D} {v : V} (h : Rep K H N M ι true v d) : Rep K (upd H p o) N M ι true v d := by
  obtain ⟨u, e, hu⟩ := ho
  refine Rep.map (fun a xs q => ?_) (fun a xs h1 h2 => ?_) (fun a C dx fs h1 h2 => ⟨h1, ?_⟩) (fun _ _ z => z) d v h
  · rcases q with (q | ⟨o', q⟩) | q
    · refine .inl (.inl ?_)
      rw [upd_ne]; exact q
      rintro rfl; rw [q] at e; cases e
      rcases hu with ⟨xs, z⟩ | ⟨C, dx, fs, z⟩ <;> cases z
    · refine .inl (.inr ⟨o', ?_⟩)
      rw [upd_ne]; exact q
      rintro rfl; rw [q] at e; cases e
      rcases hu with ⟨xs, z⟩ | ⟨C, dx, fs, z⟩ <;> cases z
    · exact .inr q
  · obtain ⟨q1, q2⟩ := h1 rfl
    have ne : a ≠ p := fun z => q2 (by rw [z]; exact hN)
    exact ⟨fun _ => ⟨by rw [upd_ne ne]; exact q1, q2⟩, SqL.of (by rw [upd_ne ne]; exact q1)⟩
  · rw [upd_ne fun z => h1 (by rw [z]; exact hM)]; exact h2
theorem Reps.updP {p : Addr} {o : HO} (hN : N p) (hM : M p) (ho : ∃ u, H p = some u ∧ ((∃ xs, u = .lst xs) ∨ ∃ C dx fs, u = .ins C dx fs)) : ∀ {ds : List D} {vs : List V}, Reps K H N M ι true vs ds → Reps K (upd H p o) N M ι true vs ds
  | [], _, h => h
  | _ :: _, _, h => by
    obtain ⟨v, r, e, h1, h2⟩ := h
    exact ⟨v, r, e, Rep.updP hN hM ho h1, Reps.updP hN hM ho h2⟩
theorem XRep.updP {p : Addr} {o : HO} (hN : N p) (hM : M p) (ho : ∃ u, H p = some u ∧ ((∃ xs, u = .lst xs) ∨ ∃ C dx fs, u = .ins C dx fs)) {cls : Value} {od : Option Addr} {x : Exn} (h : XRep K N M ι H cls od x) : XRep K N M ι (upd H p o) cls od x := by
  obtain ⟨h4, h5⟩ := h
  refine ⟨h4, ?_⟩
  cases od with
  | none => exact h5
  | some dd =>
    obtain ⟨fs, q1, q2, q3⟩ := h5
    have q3' := q3.updP (o := o) hN hM ho
    obtain ⟨u, e, hu⟩ := ho
    refine ⟨fs, ?_, q2, q3'⟩
    rw [upd_ne]; exact q1
    rintro rfl; rw [q1] at e; cases e
    rcases hu with ⟨xs, z⟩ | ⟨C, dx, fs, z⟩ <;> cases z
theorem SlOk.updP {p : Addr} {o : HO} {i : Nat} (hp : P.own p) (hi : P i ≠ some p) (ho : ∃ u, H p = some u ∧ ((∃ xs, u = .lst xs) ∨ ∃ C dx fs, u = .ins C dx fs)) {x : Sl} (h : SlOk K G P σ H i x) : SlOk K G P σ (upd H p o) i x := by
  have hN : G.N P p := .inr hp
  have hM : G.M P p := .inr hp
  cases x with
  | no => exact h
  | sh d => obtain ⟨h1, v, h2, h3⟩ := h; exact ⟨h1, v, h2, h3.updP hN hM ho⟩
  | bo d => exact h
  | ow ds => obtain ⟨q, vs, h1, h2, h3, h4⟩ := h; exact ⟨q, vs, h1, h2, by rw [upd_ne fun z => hi (by rw [← z]; exact h1)]; exact h3, h4.updP hN hM ho⟩
  | oi C fn ds => obtain ⟨q, dx, fs, h1, h2, h3, h4, h5⟩ := h; exact ⟨q, dx, fs, h1, h2, by rw [upd_ne fun z => hi (by rw [← z]; exact h1.1)]; exact h3, h4, h5.updP hN hM ho⟩
  | xv x =>
    obtain ⟨h1, a, cls, od, h2, h3, h4⟩ := h
    exact ⟨h1, a, cls, od, h2, h3, h4.updP hN hM ho⟩
theorem CeOk.updP {p a : Addr} {o : HO} (hp : P.own p) (hi : a ≠ p) (ho : ∃ u, H p = some u ∧ ((∃ xs, u = .lst xs) ∨ ∃ C dx fs, u = .ins C dx fs)) {c : Ce} (h : CeOk K G P H a c) : CeOk K G P (upd H p o) a c := by
  have hN : G.N P p := .inr hp
  have hM : G.M P p := .inr hp
  cases c with
  | lst ds => obtain ⟨vs, h1, h2⟩ := h; exact ⟨vs, by rw [upd_ne hi]; exact h1, h2.updP hN hM ho⟩
  | ins C fn ds => obtain ⟨dx, fs, h1, h2, h3⟩ := h; exact ⟨dx, fs, by rw [upd_ne hi]; exact h1, h2, h3.updP hN hM ho⟩
  | gone => trivial
theorem upd_some {a p : Addr} {o : HO} (h : (H a).isSome = true) : (upd H p o a).isSome = true := by
  by_cases e : a = p
  · rw [e, upd_same]; rfl
  · rw [upd_ne e]; exact h
/-- what slot i owns is changed -/
theorem Sim.updO (S : Sim K G P ρ σ H) {i : Nat} {p : Addr} {u o : HO} {x : Sl} (hP : P i = some p) (hl : H p = some u) (hu : (∃ xs, u = .lst xs) ∨ ∃ C dx fs, u = .ins C dx fs) (hio : G.IO p → ∃ C dx fs, o = .ins C dx fs) (hb : ∀ d, x ≠ .bo d)
    (hx : SlOk K G P σ (upd H p o) i x) : Sim K G P (ρ.set i x) σ (upd H p o) := by
  have ho : ∃ u, H p = some u ∧ ((∃ xs, u = .lst xs) ∨ ∃ C dx fs, u = .ins C dx fs) := ⟨_, hl, hu⟩
  have hp : P.own p := .inl ⟨i, hP⟩
  exact {
    base := fun a v h1 h2 h3 => by
      rw [upd_ne]; exact S.base a v h1 h2 h3
      rintro rfl
      exact h2 (S.own i a hP (by rw [h1]; rfl))
    io := S.io
    iot := fun a h => by
      by_cases e : a = p
      · subst e
        obtain ⟨C, dx, fs, rfl⟩ := hio h
        exact ⟨C, dx, fs, upd_same⟩
      · obtain ⟨C, dx, fs, q⟩ := S.iot a h
        exact ⟨C, dx, fs, by rw [upd_ne e]; exact q⟩
    mx := fun a h => upd_some (S.mx a h)
    zx := fun a h => upd_some (S.zx a h)
    inj := S.inj
    ic := S.ic
    zo := S.zo
    nd := S.nd
    cx := fun a h => upd_some (S.cx a h)
    pre := S.pre
    pc := S.pc
    nw := S.nw
    im := S.im
    c0c := S.c0c
    own := S.own
    ioc := S.ioc
    out := fun j hj => S.out j (by simpa [Rho.set] using hj)
    len := by simpa [Rho.set] using S.len
    sl := fun j y hy => by
      rcases get_set hy with ⟨e1, e2, e3⟩ | ⟨e1, e2⟩
      · subst e1 e3; exact hx
      · exact SlOk.updP hp (fun z => e1 (S.inj j i p z hP)) ho (S.sl j y e2)
    nb := fun hc j d h => by
      rcases get_set h with ⟨e1, e2, e3⟩ | ⟨e1, e2⟩
      · exact hb d e3.symm
      · exact S.nb hc j d e2
    st := fun Q h => by
      obtain ⟨h1, h2, h3, h4⟩ := S.st Q h
      exact ⟨h1, h2, h3, fun n c a e1 e2 => (h4 n c a e1 e2).updP hp (fun z => S.ic i p hP (by rw [← z]; exact List.mem_of_getElem? e2)) ho⟩
    gs := fun q hq => (S.gs q hq).updP (.inr hp) (.inr hp) ho }
/-- the list of slot i is changed -/
theorem Sim.updOw (S : Sim K G P ρ σ H) {i : Nat} {p : Addr} {ds : List D} {ws : List V} {xs : List V} (hi : ∃ y, ρ.sl[i]? = some (.ow y)) (hP : P i = some p) (hl : H p = some (.lst xs)) (r : Reps K H (G.N P) (G.M P) P.c true ws ds) (hs : σ[i]? = some (some (.ref p))) :
    Sim K G P (ρ.set i (.ow ds)) σ (upd H p (.lst ws)) :=
  S.updO hP hl (.inl ⟨_, rfl⟩) (fun z => by
    obtain ⟨C, dx, fs, q⟩ := S.iot p z
    rw [hl] at q; cases q) (fun d z => by cases z) ⟨p, ws, hP, hs, upd_same, Reps.updP (.inr (.inl ⟨i, hP⟩)) (.inr (.inl ⟨i, hP⟩)) ⟨_, hl, .inl ⟨_, rfl⟩⟩ r⟩
end
end Dv

set_option Elab.async false
set_option linter.all false
set_option maxRecDepth 100000
set_option maxHeartbeats 4000000
namespace Dv
open PySem PySem.Spec L2
open PyProof.Rows hiding St

section
variable {X : Cx} {G : Sg} {W : WX} {s s' : Bool} {st : Stmt} {rest : List Stmt} {e : Expr} {f : Rho → Res D} {fl : Rho → Res (List D)} {g h : Rho → Out} {pos : Pos} {x : Str} {i : Nat} {pos' : Pos}
/-! ### name = e -/
def sSet (i : Nat) (f : Rho → Res D) : Rho → Out := fun ρ => andThen ρ (f ρ) fun d => .nx (ρ.set i (.sh d))
theorem js_set (hN : X.N.Nodup) (hi : X.N[i]? = some x) (hx : Loc X.env.scope x) (he : JE X G W true e f) (hs : swapsWith e (some (.Name x pos')) pos.line X.env = pure false := by rfl) (hf : X.fn x = true ∨ X.env.scope.names.lookup x = some .local := by first | exact .inl rfl | exact .inr rfl | assumption) :
    JS X G W (.Assign [.Name x pos'] e pos) (sSet i f) := PS.imp (ps_set hN hi hx he hs hf) fun Q σ H ⟨P, ρ, S, q⟩ =>
  ⟨P, ρ, S, (andThen_post S q).imp fun d H' e q v r => by
    obtain ⟨P', S', _⟩ := (S.same e).setSh i r
    exact q P' _ H' S'⟩
def sSetN (i : Nat) (f : Rho → Res (List D)) : Rho → Out := fun ρ => andThen ρ (f ρ) fun ds => if i < ρ.sl.length then .nx (ρ.set i (.ow ds)) else .stuck
theorem js_setN (hN : X.N.Nodup) (hi : X.N[i]? = some x) (hx : Loc X.env.scope x) (he : JN X G W e fl) (hs : swapsWith e (some (.Name x pos')) pos.line X.env = pure false := by rfl) (hf : X.fn x = true ∨ X.env.scope.names.lookup x = some .local := by first | exact .inl rfl | exact .inr rfl | assumption) :
    JS X G W (.Assign [.Name x pos'] e pos) (sSetN i fl) := PS.imp (ps_set hN hi hx he hs hf) fun Q σ H ⟨P, ρ, S, q⟩ =>
  ⟨P, ρ, S, (andThen_post S q).imp fun d H' e q p vs hp hl r => by
    by_cases hil : i < ρ.sl.length
    · rw [if_pos hil] at q
      obtain ⟨P', S'⟩ := S.setOw e hil hp hl r
      exact q P' _ H' S'
    · rw [if_neg hil] at q; exact False.elim q⟩
/-- a list of one's own is given up to be shared -/
theorem Sim.freeze {K : PySem.W.Frag} {P : Pl} {ρ : Rho} {σ : L2.St} {H : Hp} (S : Sim K G P ρ σ H) {i : Nat} {ds : List D} (e : ρ.sl[i]? = some (.ow ds)) : ∃ P', Sim K G P' (ρ.set i (.sh (.lst ds))) σ H := by
  obtain ⟨p, vs, h1, h2, h3, h4⟩ := S.sl i _ e
  have hi : i < ρ.sl.length := (List.getElem?_eq_some_iff.mp e).1
  have hs : σ.set i (some (.ref p)) = σ := by
    apply List.ext_getElem?
    intro j
    by_cases hj : i = j
    · subst hj
      rw [List.getElem?_set_self (by rw [← S.len]; exact hi), h2]
    · rw [List.getElem?_set_ne hj]
  refine ⟨P.put i none, ?_⟩
  have := S.setX (o := some (.ref p)) hi (x := .sh (.lst ds)) (fun d z => by cases z) (by
    rw [hs]
    refine ⟨Pl.put_self, _, h2, p, vs, rfl, fun _ => ⟨h3, ?_⟩, SqL.of h3, h4.putN⟩
    rintro (z | ⟨k, z⟩ | z)
    · exact S.zo i p h1 z
    · have z' : P.put i none k = some p := z
      by_cases hk : k = i
      · rw [hk, Pl.put_self] at z'; cases z'
      · rw [Pl.put_ne hk] at z'; exact hk (S.inj k i p z' h1)
    · exact S.ic i p h1 z)
  rwa [hs] at this
def frz (i : Nat) (g : Rho → Out) : Rho → Out := fun ρ => match ρ.sl[i]? with
  | some (.ow ds) => g (ρ.set i (.sh (.lst ds)))
  | _ => g ρ
theorem js_frz (i : Nat) (h : JS X G W st g) : JS X G W st (frz i g) := PS.imp h fun Q σ H ⟨P, ρ, S, q⟩ => by
  unfold frz at q
  cases e : ρ.sl[i]? with
  | none => rw [e] at q; exact ⟨P, ρ, S, q⟩
  | some x =>
    rw [e] at q
    cases x with
    | ow ds =>
      obtain ⟨P', S'⟩ := S.freeze e
      exact ⟨P', _, S', q⟩
    | _ => exact ⟨P, ρ, S, q⟩
/-! ### lists of one's own are changed -/
/-- a method of a list that changes it; k: what of its items and the arguments -/
def MtS (K : PySem.W.Frag) (r : V → List V → Hp → VK → Prop) (k : List D → List D → Res (List D)) : Prop :=
  ∀ (N M : Addr → Prop) (ι : List Addr) (W : WX) (σ : L2.St) (H : Hp) (p : Addr) (vs as : List V) (ds es : List D) (Q : VK), H p = some (.lst vs) → Reps K H N M ι true vs ds → Reps K H N M ι true as es →
    PostG K N M ι W σ H (fun ds' _ => ∀ ws, Reps K H N M ι true ws ds' → Q .non (upd H p (.lst ws))) (k ds es) → r (.ref p) as H Q
def sMut (i : Nat) (fs : Rho → Res (List D)) (k : List D → List D → Res (List D)) : Rho → Out := fun ρ => match ρ.sl[i]? with
  | some (.ow ds) => andThen ρ ((fs ρ).bind (k ds)) fun ds' => .nx (ρ.set i (.ow ds'))
  | _ => .stuck
theorem mut_core {K : PySem.W.Frag} {P : Pl} {ρ : Rho} {σ : L2.St} {H H1 : Hp} {ds : List D} {p : Addr} {vs as : List V} {es : List D} {r : V → List V → Hp → VK → Prop} {k : List D → List D → Res (List D)} {Q : Ends}
    (S : Sim K G P ρ σ H) (e1 : Same H H1) (hm : MtS K r k) (e : ρ.sl[i]? = some (.ow ds)) (h1 : P i = some p) (h2 : σ[i]? = some (some (.ref p))) (h3 : H p = some (.lst vs)) (h4 : Reps K H (G.N P) (G.M P) P.c true vs ds)
    (ra : Reps K H1 (G.N P) (G.M P) P.c true as es) (q : PostG K (G.N P) (G.M P) P.c W σ H1 (fun ds' _ => PostS K G W Q (.nx (ρ.set i (.ow ds')))) (k ds es)) : r (.ref p) as H1 fun _ H2 => Q.nx σ H2 :=
  hm _ _ _ W σ H1 p vs as ds es _ (e1 _ _ h3) (h4.same e1) ra (q.imp fun ds' H2 e2 q2 ws rw => q2 P σ _ ((S.same e1).updOw ⟨ds, e⟩ h1 (e1 _ _ h3) rw h2))
theorem js_mut0 {m : Str} {apos cpos : Pos} {r : V → List V → Hp → VK → Prop} {k : List D → List D → Res (List D)}
    (hr : ∀ to : TE, PE X (.Name x pos') to → PE X (.Call (.Attribute (.Name x pos') m apos) [] [] cpos) (tBM0 X.K "list" r to)) (hm : MtS X.K r k)
    (i : Nat) (hx : PE X (.Name x pos') (tVar i)) (hs : swapsWith (.Call (.Attribute (.Name x pos') m apos) [] [] cpos) none pos.line X.env = pure false := by rfl) :
    JS X G W (.Expr (.Call (.Attribute (.Name x pos') m apos) [] [] cpos) pos) (sMut i aNil k) := PS.imp (ps_expr (hr _ hx) hs) fun Q σ H ⟨P, ρ, S, q⟩ => by
  unfold sMut at q
  cases e : ρ.sl[i]? with
  | none => rw [e] at q; exact False.elim q
  | some z =>
    rw [e] at q
    cases z with
    | ow ds =>
      obtain ⟨p, vs, h1, h2, h3, h4⟩ := S.sl i _ e
      exact ⟨_, h2, .inl ⟨rfl, vs, SqL.of h3⟩, mut_core (es := []) (as := []) S (Same.refl H) hm e h1 h2 h3 h4 rfl (andThen_post S q)⟩
    | _ => exact False.elim q
theorem js_mut {a : Expr} {es : List Expr} {fs : Rho → Res (List D)} {m : Str} {apos cpos : Pos} {r : V → List V → Hp → VK → Prop} {k : List D → List D → Res (List D)}
    (hr : ∀ (to : TE) (ta : TA), PE X (.Name x pos') to → PA X (a :: es) ta → PE X (.Call (.Attribute (.Name x pos') m apos) (a :: es) [] cpos) (tBM X.K "list" r to ta)) (hm : MtS X.K r k)
    (i : Nat) (hx : PE X (.Name x pos') (tVar i)) (ha : JA X G W true (a :: es) fs) (hs : swapsWith (.Call (.Attribute (.Name x pos') m apos) (a :: es) [] cpos) none pos.line X.env = pure false := by rfl) :
    JS X G W (.Expr (.Call (.Attribute (.Name x pos') m apos) (a :: es) [] cpos) pos) (sMut i fs k) := PS.imp (ps_expr (hr _ _ hx ha) hs) fun Q σ H ⟨P, ρ, S, q⟩ => by
  unfold sMut at q
  cases e : ρ.sl[i]? with
  | none => rw [e] at q; exact False.elim q
  | some z =>
    rw [e] at q
    cases z with
    | ow ds =>
      obtain ⟨p, vs, h1, h2, h3, h4⟩ := S.sl i _ e
      exact ⟨_, h2, .inl ⟨rfl, vs, SqL.of h3⟩, P, ρ, S, (PostG.bind (andThen_post S q)).imp fun es H1 e1 q1 as ra => mut_core S e1 hm e h1 h2 h3 h4 ra q1⟩
    | _ => exact False.elim q
def appK : List D → List D → Res (List D)
  | ds, [d] => if ds.length < line then .ok (ds ++ [d]) else .stuck
  | _, _ => .stuck
theorem mts_append {K : PySem.W.Frag} : MtS K rAppend appK := by
  intro N M ι W σ H p vs as ds es Q hp r ra q
  cases es with
  | nil => exact False.elim q
  | cons d es =>
    cases es with
    | cons _ _ => exact False.elim q
    | nil =>
      obtain ⟨v, ev, rv⟩ := ra.one
      subst ev
      have q' : PostG K N M ι W σ H (fun ds' _ => ∀ ws, Reps K H N M ι true ws ds' → Q .non (upd H p (.lst ws))) (if ds.length < line then .ok (ds ++ [d]) else .stuck) := q
      by_cases hl : ds.length < line
      · rw [if_pos hl] at q'
        exact ⟨p, vs, v, rfl, rfl, hp, by rw [r.length, ← line_eq]; exact hl, q'.now _ (r.append ⟨v, [], rfl, rv, rfl⟩)⟩
      · rw [if_neg hl] at q'; exact False.elim q'
def clrK : List D → List D → Res (List D)
  | _, [] => .ok []
  | _, _ => .stuck
theorem mts_clear {K : PySem.W.Frag} : MtS K (fun x vs H Q => vs = [] ∧ rClear x [] H Q) clrK := by
  intro N M ι W σ H p vs as ds es Q hp r ra q
  cases es with
  | nil => exact ⟨ra, p, vs, rfl, rfl, hp, q.now _ rfl⟩
  | cons _ _ => exact False.elim q
/-- xs[i] = e -/
def putAt (ρ : Rho) (i : Nat) (ds : List D) (d : D) : D → Res Rho
  | .int k => match ixN ds.length k with
    | some j => .ok (ρ.set i (.ow (ds.set j d)))
    | none => .stuck
  | _ => .stuck
def sPut (i : Nat) (f g : Rho → Res D) : Rho → Out := fun ρ => match ρ.sl[i]? with
  | some (.ow ds) => andThen ρ ((f ρ).bind fun d => (g ρ).bind fun k => putAt ρ i ds d k) .nx
  | _ => .stuck
theorem js_put {ix : Expr} {gi : Rho → Res D} {ap : Pos} (i : Nat) (hx : PE X (.Name x pos') (tVar i)) (hi : JE X G W s ix gi) (he : JE X G W true e f)
    (ha : ∀ v, assign (.Subscript (.Name x pos') ix ap) X.env v = (do
      let ov ← holding [v] (eval (.Name x pos') X.env)
      let iv ← holding [v, ov] (eval ix X.env)
      standAt ap
      holding [v, ov, iv] (setItem ov iv v)
      release [v, ov, iv] []) := by intro _; rfl)
    (hs : swapsWithSole [.Subscript (.Name x pos') ix ap] e pos.line X.env = pure false := by rfl) (hw : swappedStores [.Subscript (.Name x pos') ix ap] e X.env = pure none := by rfl)
    (h1 : (assignEach [.Subscript (.Name x pos') ix ap] X.env).map (·.2) = [assign (.Subscript (.Name x pos') ix ap) X.env] := by rfl) :
    JS X G W (.Assign [.Subscript (.Name x pos') ix ap] e pos) (sPut i f gi) := PS.imp (ps_asg he (pg_sub hx hi set_list ha) hs hw h1) fun Q σ H ⟨P, ρ, S, q⟩ => by
  unfold sPut at q
  cases e : ρ.sl[i]? with
  | none => rw [e] at q; exact False.elim q
  | some z =>
    rw [e] at q
    cases z with
    | ow ds =>
      obtain ⟨p, vs, h1, h2, h3, h4⟩ := S.sl i _ e
      refine ⟨P, ρ, S, (PostG.bind (andThen_post S q)).imp fun d H1 e1 q1 v rv => ⟨_, h2, P, ρ, S.same e1, (PostG.bind q1).imp fun k H2 e2 q2 u ru => ?_⟩⟩
      cases k with
      | int k =>
        have q2' : PostG X.K (G.N P) (G.M P) P.c W σ H2 (fun a _ => PostS X.K G W Q (.nx a)) (match ixN ds.length k with | some j => .ok (ρ.set i (.ow (ds.set j d))) | none => .stuck) := q2
        cases ej : ixN ds.length k with
        | none => rw [ej] at q2'; exact False.elim q2'
        | some j =>
          rw [ej] at q2'
          have e12 := e1.trans e2
          exact ⟨p, vs, k, j, rfl, ru, e12 _ _ h3, by rw [h4.length]; exact ej, q2'.now P σ _ ((S.same e12).updOw ⟨ds, e⟩ h1 (e12 _ _ h3) ((h4.same e12).set j (rv.same e2)) h2)⟩
      | _ => exact False.elim q2
    | _ => exact False.elim q
end
end Dv

set_option Elab.async false
set_option linter.all false
set_option maxRecDepth 100000
set_option maxHeartbeats 4000000
namespace Dv
open PySem PySem.Spec L2
open PyProof.Rows hiding St

/-! ### while -/
def loopO (o : Out) (again : Rho → Out) : Out := match o with
  | .nx ρ => again ρ
  | .ct ρ => again ρ
  | .bk ρ => .nx ρ
  | .rt d ρ => .rt d ρ
  | .ex x ρ => .ex x ρ
  | .stuck => .stuck
@[simp] theorem loopO_nx (ρ : Rho) (k : Rho → Out) : loopO (.nx ρ) k = k ρ := rfl
@[simp] theorem loopO_ct (ρ : Rho) (k : Rho → Out) : loopO (.ct ρ) k = k ρ := rfl
@[simp] theorem loopO_bk (ρ : Rho) (k : Rho → Out) : loopO (.bk ρ) k = .nx ρ := rfl
@[simp] theorem loopO_rt (d : D) (ρ : Rho) (k : Rho → Out) : loopO (.rt d ρ) k = .rt d ρ := rfl
@[simp] theorem loopO_ex (x : Exn) (ρ : Rho) (k : Rho → Out) : loopO (.ex x ρ) k = .ex x ρ := rfl
def whileN : Nat → (Rho → Res Bool) → (Rho → Out) → Rho → Out
  | 0, _, _, _ => .stuck
  | n + 1, c, b, ρ => andThen ρ (c ρ) fun t => if t = true then loopO (b ρ) (whileN n c b) else .nx ρ
theorem loop_post {K : PySem.W.Frag} {G : Sg} {W : WX} {Q : Ends} {o : Out} {k : Rho → Out} {N : L2.St → Hp → Prop} (h : PostS K G W Q (loopO o k)) (hN : ∀ P ρ σ H, Sim K G P ρ σ H → PostS K G W Q (k ρ) → N σ H) :
    PostS K G W { Q with nx := N, ct := N, bk := Q.nx } o := by
  cases o with
  | nx ρ => exact fun P σ H S => hN P ρ σ H S h
  | ct ρ => exact fun P σ H S => hN P ρ σ H S h
  | bk ρ => exact h
  | rt d ρ => exact h
  | ex x ρ => exact h
  | stuck => exact h
section
variable {X : Cx} {G : Sg} {W : WX} {s s' : Bool} {e a b : Expr} {f : Rho → Res D} {g h : Rho → Out} {pos : Pos} {x : Str} {i : Nat} {pos' : Pos}
theorem js_while (n : Nat) {c : Expr} {body : List Stmt} {p : Rho → Res Bool} (hp : PassesOwn (model X.prog X.w) X.A X.env X.xe) (hc : JT X G W c p) (hb : JB X G W body g) : JS X G W (.While c body [] pos) (whileN n p g) :=
  PS.imp (ps_while hp hc hb) fun Q σ H ⟨P, ρ, S, q⟩ => by
  refine ⟨fun m σ H => ∃ P ρ, Sim X.K G P ρ σ H ∧ PostS X.K G W Q (whileN m p g ρ), ⟨n, P, ρ, S, q⟩, ?_⟩
  rintro m σ1 H1 ⟨P1, ρ1, S1, q1⟩
  cases m with
  | zero => exact False.elim q1
  | succ m =>
    refine ⟨P1, ρ1, S1, (andThen_post S1 q1).imp fun t H2 e2 q2 => ?_⟩
    cases t with
    | true =>
      rw [if_pos rfl] at q2 ⊢
      exact ⟨fun σ H => ∃ P ρ, Sim X.K G P ρ σ H ∧ PostS X.K G W Q (whileN m p g ρ), fun σ' H' z => ⟨m, Nat.lt_succ_self m, z⟩, P1, ρ1, S1.same e2, loop_post q2 fun P ρ σ H S z => ⟨P, ρ, S, z⟩⟩
    | false =>
      rw [if_neg Bool.false_ne_true] at q2 ⊢
      exact q2 P1 σ1 H2 (S1.same e2)
/-! ### targets -/
def tG (K : PySem.W.Frag) (G : Sg) (f : D → Rho → Option Rho) : TG := fun v σ H Q => ∃ P ρ d ρ', Sim K G P ρ σ H ∧ Rep K H (G.N P) (G.M P) P.c true v d ∧ f d ρ = some ρ' ∧ ∀ P' σ' H', Sim K G P' ρ' σ' H' → Q σ' H'
def tGs (K : PySem.W.Frag) (G : Sg) (f : List D → Rho → Option Rho) : TGs := fun vs σ H Q => ∃ P ρ ds ρ', Sim K G P ρ σ H ∧ Reps K H (G.N P) (G.M P) P.c true vs ds ∧ f ds ρ = some ρ' ∧ ∀ P' σ' H', Sim K G P' ρ' σ' H' → Q σ' H'
def JG (X : Cx) (G : Sg) (e : Expr) (f : D → Rho → Option Rho) : Prop := PG X e (tG X.K G f)
def JGs (X : Cx) (G : Sg) (es : List Expr) (f : List D → Rho → Option Rho) : Prop := PGs X es (tGs X.K G f)
theorem PG.imp {X : Cx} {e : Expr} {t t' : TG} (h : PG X e t) (i : ∀ v σ H Q, t' v σ H Q → t v σ H Q) : PG X e t' := ⟨fun pins s σ H v u Q I r hw => h.run pins s σ H v u Q I r (i v σ H Q hw)⟩
theorem PGs.imp {X : Cx} {es : List Expr} {t t' : TGs} (h : PGs X es t) (i : ∀ v σ H Q, t' v σ H Q → t v σ H Q) : PGs X es t' := ⟨fun pins s σ H v u Q I r hw => h.run pins s σ H v u Q I r (i v σ H Q hw)⟩
theorem Sim.add {K : PySem.W.Frag} {P : Pl} {ρ : Rho} {σ : L2.St} {H : Hp} (S : Sim K G P ρ σ H) {gh : List (V × D)} (h : ∀ p, p ∈ gh → Rep K H (G.N P) (G.M P) P.c true p.1 p.2) : Sim K (G.add gh) P ρ σ H :=
  { base := S.base, io := S.io, iot := S.iot, mx := S.mx, zx := S.zx, inj := S.inj, ic := S.ic, zo := S.zo, nd := S.nd, cx := S.cx, pre := S.pre, pc := S.pc, nw := S.nw, im := S.im, c0c := S.c0c, own := S.own, ioc := S.ioc, out := S.out, len := S.len, nb := S.nb,
    sl := fun i x e => by
      have z := S.sl i x e
      cases x <;> exact z
    st := fun Q e => by
      obtain ⟨h1, h2, h3, h4⟩ := S.st Q e
      exact ⟨h1, h2, h3, fun n c a e1 e2 => by
        have z := h4 n c a e1 e2
        cases c <;> exact z⟩
    gs := fun p hp => (List.mem_append.mp hp).elim (h p) (S.gs p) }
theorem Sim.drop {K : PySem.W.Frag} {P : Pl} {ρ : Rho} {σ : L2.St} {H : Hp} {gh : List (V × D)} (S : Sim K (G.add gh) P ρ σ H) : Sim K G P ρ σ H :=
  { base := S.base, io := S.io, iot := S.iot, mx := S.mx, zx := S.zx, inj := S.inj, ic := S.ic, zo := S.zo, nd := S.nd, cx := S.cx, pre := S.pre, pc := S.pc, nw := S.nw, im := S.im, c0c := S.c0c, own := S.own, ioc := S.ioc, out := S.out, len := S.len, nb := S.nb,
    sl := fun i x e => by
      have z := S.sl i x e
      cases x <;> exact z
    st := fun Q e => by
      obtain ⟨h1, h2, h3, h4⟩ := S.st Q e
      exact ⟨h1, h2, h3, fun n c a e1 e2 => by
        have z := h4 n c a e1 e2
        cases c <;> exact z⟩
    gs := fun p hp => S.gs p (List.mem_append_right _ hp) }
theorem Sim.ghost {K : PySem.W.Frag} {P : Pl} {ρ : Rho} {σ : L2.St} {H : Hp} {gh : List (V × D)} (S : Sim K (G.add gh) P ρ σ H) {p : V × D} (hp : p ∈ gh) : Rep K H (G.N P) (G.M P) P.c true p.1 p.2 := S.gs p (List.mem_append_left _ hp)
def gN (i : Nat) : D → Rho → Option Rho := fun d ρ => some (ρ.set i (.sh d))
theorem jg_name (hN : X.N.Nodup) (hi : X.N[i]? = some x) (hx : Loc X.env.scope x) (hf : X.fn x = true ∨ X.env.scope.names.lookup x = some .local := by first | exact .inl rfl | exact .inr rfl | assumption) : JG X G (.Name x pos) (gN i) :=
  PG.imp (pg_name hN hi hx hf) fun v σ H Q ⟨P, ρ, d, ρ', S, r, e, q⟩ => by
    obtain ⟨P', S', _⟩ := S.setSh i r
    cases e
    exact q P' _ H S'
def gsN : List D → Rho → Option Rho
  | [], ρ => some ρ
  | _ :: _, _ => none
theorem jgs_nil : JGs X G [] gsN := PGs.imp pgs_nil fun vs σ H Q ⟨P, ρ, ds, ρ', S, r, e, q⟩ => by
  cases ds with
  | nil => cases e; exact ⟨r, q P σ H S⟩
  | cons _ _ => cases e
def gsC (f : D → Rho → Option Rho) (fs : List D → Rho → Option Rho) : List D → Rho → Option Rho
  | [], _ => none
  | d :: ds, ρ => (f d ρ).bind (fs ds)
theorem Reps.zip {K : PySem.W.Frag} {H : Hp} {N M : Addr → Prop} {ι : List Addr} {s : Bool} : ∀ {ds : List D} {vs : List V}, Reps K H N M ι s vs ds → ∀ p, p ∈ vs.zip ds → Rep K H N M ι s p.1 p.2
  | [], _, h, p, hp => by
    cases (show _ = [] from h)
    cases hp
  | d :: ds, _, h, p, hp => by
    obtain ⟨v, r, rfl, h1, h2⟩ := h
    rcases List.mem_cons.mp hp with e | hp
    · subst e; exact h1
    · exact Reps.zip h2 p hp
theorem Reps.unzip {K : PySem.W.Frag} {H : Hp} {N M : Addr → Prop} {ι : List Addr} {s : Bool} : ∀ {ds : List D} {vs : List V}, vs.length = ds.length → (∀ p, p ∈ vs.zip ds → Rep K H N M ι s p.1 p.2) → Reps K H N M ι s vs ds
  | [], vs, hl, _ => List.length_eq_zero_iff.mp hl
  | d :: ds, [], hl, _ => by cases hl
  | d :: ds, v :: vs, hl, h => ⟨v, vs, rfl, h (v, d) List.mem_cons_self, Reps.unzip (by simpa using hl) fun p hp => h p (List.mem_cons_of_mem _ hp)⟩
theorem jgs_cons {es : List Expr} {f : D → Rho → Option Rho} {fs : List D → Rho → Option Rho} (h1 : ∀ gh, JG X (G.add gh) e f) (h2 : JGs X G es fs) (hs : (assignEach (e :: es) X.env).map (·.2) = assign e X.env :: (assignEach es X.env).map (·.2) := by rfl) : JGs X G (e :: es) (gsC f fs) := by
  have h1' : PG X e fun v σ H Q => ∃ gh, tG X.K (G.add gh) f v σ H Q := ⟨fun pins s σ H v u Q I r ⟨gh, hw⟩ => (h1 gh).run pins s σ H v u Q I r hw⟩
  refine PGs.imp (pgs_cons h1' h2 hs) fun vs σ H Q ⟨P, ρ, ds, ρ', S, r, e, q⟩ => ?_
  cases ds with
  | nil => cases e
  | cons d ds =>
    obtain ⟨v, rv, rfl, r1, r2⟩ := r
    have e' : (f d ρ).bind (fs ds) = some ρ' := e
    cases ef : f d ρ with
    | none => rw [ef] at e'; cases e'
    | some ρ1 =>
      rw [ef] at e'
      refine ⟨v, rv, rfl, rv.zip ds, P, ρ, d, ρ1, S.add r2.zip, r1, ef, fun P' σ' H' S' => ?_⟩
      exact ⟨P', ρ1, ds, ρ', S'.drop, Reps.unzip r2.length fun p hp => S'.ghost hp, e', q⟩
def gT (n : Nat) (fs : List D → Rho → Option Rho) : D → Rho → Option Rho
  | .tup ds, ρ => if ds.length = n then fs ds ρ else none
  | _, _ => none
theorem jg_tup {es : List Expr} {k : Nat} {n : Nat} {fs : List D → Rho → Option Rho} (hc : X.calm = true) (h : JGs X G es fs)
    (hn : (assignEach es X.env).length = n := by rfl) (hst : (assignEach es X.env).findIdx? (·.1) = none := by rfl) : JG X G (.Tuple es k pos) (gT n fs) := PG.imp (pg_tup hc h hn hst) fun v σ H Q ⟨P, ρ, d, ρ', S, r, e, q⟩ => by
  cases d with
  | tup ds =>
    obtain ⟨a, vs, rfl, h1, h2⟩ := r
    have e' : (if ds.length = n then fs ds ρ else none) = some ρ' := e
    by_cases hl : ds.length = n
    · rw [if_pos hl] at e'
      exact ⟨a, vs, rfl, h1, h2.length.trans hl, P, ρ, ds, ρ', S, h2, e', q⟩
    · rw [if_neg hl] at e'; cases e'
  | _ => cases e
/-- a, b = e -/
def sTgt (f : Rho → Res D) (t : D → Rho → Option Rho) : Rho → Out := fun ρ => andThen ρ (f ρ) fun d => match t d ρ with
  | some ρ' => .nx ρ'
  | none => .stuck
theorem js_tgt {tg : Expr} {t : D → Rho → Option Rho} (he : JE X G W true e f) (hg : JG X G tg t) (hs : swapsWithSole [tg] e pos.line X.env = pure false := by rfl) (hw : swappedStores [tg] e X.env = pure none := by rfl)
    (h1 : (assignEach [tg] X.env).map (·.2) = [assign tg X.env] := by rfl) : JS X G W (.Assign [tg] e pos) (sTgt f t) := PS.imp (ps_asg he hg hs hw h1) fun Q σ H ⟨P, ρ, S, q⟩ =>
  ⟨P, ρ, S, (andThen_post S q).imp fun d H' e q v r => by
    cases et : t d ρ with
    | none => rw [et] at q; exact False.elim q
    | some ρ' => rw [et] at q; exact ⟨P, ρ, d, ρ', S.same e, r, et, q⟩⟩
/-- a, b = x, y -/
def sPar (i j : Nat) (f g : Rho → Res D) : Rho → Out := fun ρ => andThen ρ ((f ρ).bind fun x => (g ρ).bind fun y => .ok (x, y)) fun p => .nx ((ρ.set i (.sh p.1)).set j (.sh p.2))
theorem js_par {j : Nat} {y : Str} {gb : Rho → Res D} {px py pt : Pos} {kt k2 pt2} (hc : X.calm = true) (hN : X.N.Nodup) (hi : X.N[i]? = some x) (hj : X.N[j]? = some y) (hij : i ≠ j)
    (hx : X.env.scope.names.lookup x = some .local) (hy : X.env.scope.names.lookup y = some .local) (ha : JE X G W true a f) (hb : JE X G W true b gb)
    (hst : starEach [a, b] X.env = (false, eval a X.env) :: starEach [b] X.env := by rfl) (hst2 : starEach [b] X.env = (false, eval b X.env) :: starEach [] X.env := by rfl)
    (hw : swappedStores [.Tuple [.Name x px, .Name y py] kt pt] (.Tuple [a, b] k2 pt2) X.env = pure (some [x, y]) := by rfl)
    (hs : swapsWithSole [.Tuple [.Name x px, .Name y py] kt pt] (.Tuple [a, b] k2 pt2) pos.line X.env = pure false := by rfl) :
    JS X G W (.Assign [.Tuple [.Name x px, .Name y py] kt pt] (.Tuple [a, b] k2 pt2) pos) (sPar i j f gb) :=
  PS.imp (ps_par hc hN hi hj hij hx hy (pa_cons ha (pa_cons hb pa_nil hst2) hst) hw hs) fun Q σ H ⟨P, ρ, S, q⟩ =>
  ⟨P, ρ, S, (PostG.bind (andThen_post S q)).imp fun d H1 e1 q1 v r => ⟨P, ρ, S.same e1, (PostG.bind q1).imp fun d2 H2 e2 q2 v2 r2 => by
    refine ⟨v, v2, rfl, ?_⟩
    have S2 := (S.same (e1.trans e2)).add (gh := [(v2, d2)]) fun p hp => by
      have : p = (v2, d2) := by simpa using hp
      subst this; exact r2
    obtain ⟨P1, S3, _⟩ := S2.setSh i (r.same e2)
    obtain ⟨P2, S4, _⟩ := S3.drop.setSh j (S3.ghost (p := (v2, d2)) (by simp))
    exact q2.now P2 _ H2 S4⟩⟩
/-- name op= e -/
def sAug (i : Nat) (f : Rho → Res D) (k : D → D → Res D) : Rho → Out := fun ρ => match ρ.sl[i]? with
  | some (.sh x) => andThen ρ ((f ρ).bind (k x)) fun d => .nx (ρ.set i (.sh d))
  | _ => .stuck
theorem js_aug {op : Operator} {r : R2} {k : D → D → Res D} (ho : OpR X (inplaceOp op) r) (sem : OpS X.K true true r k) (hN : X.N.Nodup) (hi : X.N[i]? = some x) (hx : Loc X.env.scope x) (he : JE X G W true e f)
    (hf : X.fn x = true ∨ X.env.scope.names.lookup x = some .local := by first | exact .inl rfl | exact .inr rfl | assumption) : JS X G W (.AugAssign (.Name x pos') op e pos) (sAug i f k) := PS.imp (ps_aug hN hi hx he ho hf) fun Q σ H ⟨P, ρ, S, q⟩ => by
  unfold sAug at q
  cases e : ρ.sl[i]? with
  | none => rw [e] at q; exact False.elim q
  | some z =>
    rw [e] at q
    cases z with
    | sh x =>
      obtain ⟨_, v, h1, h2⟩ := S.sl i _ e
      refine ⟨v, h1, P, ρ, S, (PostG.bind (andThen_post S q)).imp fun y H1 e1 q1 u ru => sem _ _ _ W σ H1 v u x y _ (h2.same e1) ru (q1.imp fun d H2 e2 q2 w rw => ?_)⟩
      obtain ⟨P', S', _⟩ := (S.same (e1.trans e2)).setSh i rw
      exact q2 P' _ H2 S'
    | _ => exact False.elim q
/-! ### what a for walks -/
def Sg.zz (G : Sg) (Z : Addr → Prop) : Sg := { G with Z := Z }
def ItOk (K : PySem.W.Frag) (G : Sg) (gh : List (V × D)) (s : Bool) (J : It) (ds : List D) : Prop := ∀ Z P ρ σ H, Sim K ((G.zz Z).add gh) P ρ σ H →
  (∀ i d, ds[i]? = some d → J.go i H ∧ ∀ x H', J.yld i H x H' → Same H H' ∧ Rep K H' ((G.zz Z).N P) (G.M P) P.c s x d) ∧ J.stop ds.length H
def tI (K : PySem.W.Frag) (G : Sg) (W : WX) (s : Bool) (f : Rho → Res (List D)) : TI := fun σ H R => ∃ P ρ, Sim K G P ρ σ H ∧
  PostG K (G.N P) (G.M P) P.c W σ H (fun ds H' => ∀ J gh, (∀ p, p ∈ gh → Rep K H' (G.N P) (G.M P) P.c true p.1 p.2) → ItOk K G gh s J ds → R J H') (f ρ)
def JI (X : Cx) (G : Sg) (W : WX) (s : Bool) (tg it : Expr) (f : Rho → Res (List D)) : Prop := PI X tg it (tI X.K G W s f)
theorem PI.imp {X : Cx} {tg e : Expr} {t t' : TI} (h : PI X tg e t) (i : ∀ σ H R, t' σ H R → t σ H R) : PI X tg e t' := ⟨fun pins s σ H R I hw => h.run pins s σ H R I (i σ H R hw)⟩
def forL (b : D → Rho → Out) : List D → Rho → Out
  | [], ρ => .nx ρ
  | d :: ds, ρ => loopO (b d ρ) (forL b ds)
def atT (t : D → Rho → Option Rho) (g : Rho → Out) : D → Rho → Out := fun d ρ => match t d ρ with
  | some ρ' => g ρ'
  | none => .stuck
def sFor (f : Rho → Res (List D)) (t : D → Rho → Option Rho) (g : Rho → Out) : Rho → Out := fun ρ => andThen ρ (f ρ) fun ds => forL (atT t g) ds ρ
theorem PostS.add {K : PySem.W.Frag} {gh : List (V × D)} {Q : Ends} {o : Out} (h : PostS K G W Q o) : PostS K (G.add gh) W Q o := by
  cases o with
  | nx ρ => exact fun P σ H S => h P σ H S.drop
  | ct ρ => exact fun P σ H S => h P σ H S.drop
  | bk ρ => exact fun P σ H S => h P σ H S.drop
  | rt d ρ => exact fun P σ H v S r => h P σ H v S.drop r
  | ex x ρ => exact fun P σ H cls od S r => h P σ H cls od S.drop r
  | stuck => exact h
theorem loop_postG {K : PySem.W.Frag} {gh : List (V × D)} {Q : Ends} {o : Out} {k : Rho → Out} {N : L2.St → Hp → Prop} (h : PostS K G W Q (loopO o k)) (hN : ∀ P ρ σ H, Sim K (G.add gh) P ρ σ H → PostS K G W Q (k ρ) → N σ H) :
    PostS K (G.add gh) W { Q with nx := N, ct := N, bk := Q.nx } o := by
  cases o with
  | nx ρ => exact fun P σ H S => hN P ρ σ H S h
  | ct ρ => exact fun P σ H S => hN P ρ σ H S h
  | bk ρ => exact fun P σ H S => h P σ H S.drop
  | rt d ρ => exact fun P σ H v S r => h P σ H v S.drop r
  | ex x ρ => exact fun P σ H cls od S r => h P σ H cls od S.drop r
  | stuck => exact h
theorem js_for {tg it : Expr} {body : List Stmt} {fi : Rho → Res (List D)} {t : D → Rho → Option Rho} (hp : PassesOwn (model X.prog X.w) X.A X.env X.xe) (hc : X.calm = true) (hi : JI X G W true tg it fi) (hg : ∀ gh, JG X (G.add gh) tg t)
    (hb : ∀ gh, JB X (G.add gh) W body g) (hs : ∀ x, foldedSetIterable it X.env x = pure x := by intro _; rfl) : JS X G W (.For tg it body [] pos) (sFor fi t g) := by
  have hg' : PG X tg fun v σ H Q => ∃ gh, tG X.K (G.add gh) t v σ H Q := ⟨fun pins s σ H v u Q I r ⟨gh, hw⟩ => (hg gh).run pins s σ H v u Q I r hw⟩
  have hb' : PSs X body fun Q σ H => ∃ gh, tS X.K (G.add gh) W g Q σ H := ⟨fun pins s σ H Q I ⟨gh, hw⟩ => (hb gh).run pins s σ H Q I hw⟩
  refine PS.imp (ps_for hp hc hi hg' hb' hs) fun Q σ H ⟨P, ρ, S, q⟩ => ⟨P, ρ, S, (andThen_post S q).imp fun ds H1 e1 q1 J gh hgh hJ => ?_⟩
  refine ⟨fun i m σ H => ∃ P ρ, Sim X.K (G.add gh) P ρ σ H ∧ m = ds.length - i ∧ i ≤ ds.length ∧ PostS X.K G W Q (forL (atT t g) (ds.drop i) ρ), ⟨ds.length, P, ρ, (S.same e1).add hgh, rfl, Nat.zero_le _, q1⟩, ?_⟩
  rintro i m σ2 H2 ⟨P2, ρ2, S2, rfl, hle, q2⟩
  obtain ⟨hgo, hstop⟩ := hJ G.Z P2 ρ2 σ2 H2 S2
  by_cases hlt : i < ds.length
  · obtain ⟨go, yld⟩ := hgo i ds[i] (List.getElem?_eq_getElem hlt)
    refine .inr ⟨go, fun σ H => ∃ P ρ, Sim X.K (G.add gh) P ρ σ H ∧ PostS X.K G W Q (forL (atT t g) (ds.drop (i + 1)) ρ), fun σ' H' ⟨P', ρ', S', q'⟩ => ⟨ds.length - (i + 1), by omega, P', ρ', S', rfl, hlt, q'⟩, fun x H3 y => ?_⟩
    obtain ⟨e3, r3⟩ := yld x H3 y
    rw [List.drop_eq_getElem_cons hlt] at q2
    have q3 : PostS X.K G W Q (loopO (atT t g ds[i] ρ2) (forL (atT t g) (ds.drop (i + 1)))) := q2
    unfold atT at q3
    cases et : t ds[i] ρ2 with
    | none => rw [et] at q3; exact False.elim q3
    | some ρ3 =>
      rw [et] at q3
      refine ⟨gh, P2, ρ2, ds[i], ρ3, S2.same e3, r3, et, fun P4 σ4 H4 S4 => ⟨gh, P4, ρ3, S4, ?_⟩⟩
      exact loop_postG q3 fun P ρ σ H S z => ⟨P, ρ, S, z⟩
  · have hi : i = ds.length := by omega
    subst hi
    rw [List.drop_length] at q2
    exact .inl ⟨hstop, q2 P2 σ2 H2 S2.drop⟩
/-! what is walked: lists, tuples, ranges -/
def seqItems : D → Res (List D)
  | .lst ds => .ok ds
  | .tup ds => .ok ds
  | _ => .stuck
theorem itl_ok {K : PySem.W.Frag} {a : Addr} {ds : List D} : ItOk K G [(V.ref a, .lst ds)] true (Itl K a) ds := fun Z P ρ σ H S => by
  obtain ⟨p, vs, ep, h1, h2, h3⟩ := S.ghost (p := (V.ref a, D.lst ds)) (by simp)
  cases ep
  refine ⟨fun i d hd => ?_, ⟨vs, h2, by rw [h3.length]; exact Nat.le_refl _⟩⟩
  obtain ⟨v, hv, rv⟩ := h3.get hd
  refine ⟨⟨vs, v, h2, hv⟩, fun x H' y => ?_⟩
  obtain ⟨rfl, y⟩ := y
  have := y vs h2
  rw [hv] at this; cases this
  exact ⟨Same.refl _, rv⟩
theorem itt_ok {K : PySem.W.Frag} {a : Addr} {ds : List D} : ItOk K G [(V.ref a, .tup ds)] true (Itt K a) ds := fun Z P ρ σ H S => by
  obtain ⟨p, vs, ep, h2, h3⟩ := S.ghost (p := (V.ref a, D.tup ds)) (by simp)
  cases ep
  refine ⟨fun i d hd => ?_, ⟨vs, h2, by rw [h3.length]; exact Nat.le_refl _⟩⟩
  obtain ⟨v, hv, rv⟩ := h3.get hd
  refine ⟨⟨vs, v, h2, hv⟩, fun x H' y => ?_⟩
  obtain ⟨rfl, y⟩ := y
  have := y vs h2
  rw [hv] at this; cases this
  exact ⟨Same.refl _, rv⟩
theorem ji_lst {tg : Expr} (h : JE X G W true a f) : JI X G W true tg a (e1 f asLst) := PI.imp (pi_list h) fun σ H R ⟨P, ρ, S, q⟩ => ⟨P, ρ, S, (PostG.bind q).imp fun d H1 e1 q1 v r => by
  cases d with
  | lst ds =>
    obtain ⟨p, vs, rfl, h1, h2, h3⟩ := id r
    exact ⟨p, rfl, ⟨vs, h2⟩, q1.now _ [(V.ref p, .lst ds)] (fun z hz => by
      have : z = (V.ref p, D.lst ds) := by simpa using hz
      subst this; exact r) itl_ok⟩
  | _ => exact False.elim q1⟩
def asTup : D → Res (List D)
  | .tup ds => .ok ds
  | _ => .stuck
theorem ji_tup {tg : Expr} (h : JE X G W true a f) : JI X G W true tg a (e1 f asTup) := PI.imp (pi_tup h) fun σ H R ⟨P, ρ, S, q⟩ => ⟨P, ρ, S, (PostG.bind q).imp fun d H1 e1 q1 v r => by
  cases d with
  | tup ds =>
    obtain ⟨p, vs, rfl, h2, h3⟩ := id r
    exact ⟨p, rfl, ⟨vs, h2⟩, q1.now _ [(V.ref p, .tup ds)] (fun z hz => by
      have : z = (V.ref p, D.tup ds) := by simpa using hz
      subst this; exact r) itt_ok⟩
  | _ => exact False.elim q1⟩
/-- a list or a tuple -/
def iSeq (K : PySem.W.Frag) (tl : TE) : TI := fun σ H R => tl σ H fun x H1 => ∃ a, x = .ref a ∧ (((∃ xs, SqL K H1 a xs) ∧ R (Itl K a) H1) ∨ ((∃ xs, SqT K H1 a xs) ∧ R (Itt K a) H1))
theorem pi_seq {tg l : Expr} {tl : TE} (hl : PE X l tl) : PI X tg l (iSeq X.K tl) := by
  refine ⟨fun pins s σ H R I h => ?_⟩
  refine thn (hl.run pins s σ H _ I h) fun v s1 ⟨x, H1, I1, r1, q1⟩ => ?_
  obtain ⟨a, e, q1⟩ := q1
  subst e
  cases r1
  rcases q1 with ⟨⟨xs, hq⟩, q⟩ | ⟨⟨xs, hq⟩, q⟩
  · obtain ⟨its, rv, p, hz⟩ := I1.list hq
    refine wpAny_pyIter_list p.isList ?_
    refine ⟨s1.heap.objs.size, [s1.heap.objs.size], _, _, H1, rfl, I1.kept (t' := s1.toks) fun b o e => Heap.get?_push_of_some _ e, turn_list a _, ⟨_, Heap.get?_push_size _ rfl, rfl, rfl⟩, fun b hb => ?_, q⟩
    have e : b = s1.heap.objs.size := by simpa using hb
    subst e
    exact I1.fpOk (Nat.le_refl _) (I1.hok.fresh (Nat.le_refl _))
  · obtain ⟨its, rv, p, hz⟩ := I1.tuple hq
    refine wpAny_pyIter_tuple (show s1.heap.IsTuple a its.toArray from p) ?_
    refine ⟨s1.heap.objs.size, [s1.heap.objs.size], _, _, H1, rfl, I1.kept (t' := s1.toks) fun b o e => Heap.get?_push_of_some _ e, turn_tuple a _, ⟨_, Heap.get?_push_size _ rfl, rfl, rfl⟩, fun b hb => ?_, q⟩
    have e : b = s1.heap.objs.size := by simpa using hb
    subst e
    exact I1.fpOk (Nat.le_refl _) (I1.hok.fresh (Nat.le_refl _))
theorem ji_seq {tg : Expr} (h : JE X G W true a f) : JI X G W true tg a (e1 f seqItems) := PI.imp (pi_seq h) fun σ H R ⟨P, ρ, S, q⟩ => ⟨P, ρ, S, (PostG.bind q).imp fun d H1 e1 q1 v r => by
  cases d with
  | lst ds =>
    obtain ⟨p, vs, rfl, h1, h2, h3⟩ := id r
    exact ⟨p, rfl, .inl ⟨⟨vs, h2⟩, q1.now _ [(V.ref p, .lst ds)] (fun z hz => by
      have : z = (V.ref p, D.lst ds) := by simpa using hz
      subst this; exact r) itl_ok⟩⟩
  | tup ds =>
    obtain ⟨p, vs, rfl, h2, h3⟩ := id r
    exact ⟨p, rfl, .inr ⟨⟨vs, h2⟩, q1.now _ [(V.ref p, .tup ds)] (fun z hz => by
      have : z = (V.ref p, D.tup ds) := by simpa using hz
      subst this; exact r) itt_ok⟩⟩
  | _ => exact False.elim q1⟩
/-- a parameter's list or tuple, without lists within -/
def boItems (i : Nat) : Rho → Res (List D) := fun ρ => match ρ.sl[i]? with
  | some (.bo (.lst ds)) => if flats ds = true then .ok ds else .stuck
  | some (.bo (.tup ds)) => if flats ds = true then .ok ds else .stuck
  | some (.sh (.lst ds)) => .ok ds
  | some (.sh (.tup ds)) => .ok ds
  | _ => .stuck
theorem flats_get : ∀ {ds : List D} {i : Nat} {d : D}, flats ds = true → ds[i]? = some d → flat d = true
  | [], _, _, _, e => by simp at e
  | x :: xs, 0, d, h, e => by
    have h' : (flat x && flats xs) = true := h
    have : x = d := by simpa using e
    subst this
    exact (Bool.and_eq_true_iff.mp h').1
  | x :: xs, i + 1, d, h, e => by
    have h' : (flat x && flats xs) = true := h
    exact flats_get (i := i) (Bool.and_eq_true_iff.mp h').2 (by simpa using e)
theorem ji_bo {tg : Expr} (i : Nat) (h : PE X (.Name x pos) (tVar i)) : JI X G W true tg (.Name x pos) (boItems i) := PI.imp (pi_seq h) fun σ H R ⟨P, ρ, S, q⟩ => by
  unfold boItems at q
  cases e : ρ.sl[i]? with
  | none => rw [e] at q; exact False.elim q
  | some z =>
    rw [e] at q
    have k := S.sl i z e
    cases z with
    | bo d =>
      obtain ⟨_, v, h1, h2⟩ := k
      have hc := S.c0_bo e
      refine ⟨v, h1, ?_⟩
      cases d with
      | lst ds =>
        dsimp only at q
        by_cases hf : flats ds = true
        · rw [if_pos hf] at q
          obtain ⟨p, vs, rfl, _, h3, h4⟩ := h2
          refine ⟨p, rfl, .inl ⟨⟨vs, S.keepL hc h3⟩, q.now _ [] (fun _ z => by cases z) fun Z P' ρ' σ' H' S' => ?_⟩⟩
          have S'' := S'.drop
          refine ⟨fun j d hd => ?_, ⟨vs, S''.keepL hc h3, by rw [h4.length]; exact Nat.le_refl _⟩⟩
          obtain ⟨u, hu, ru⟩ := h4.get hd
          refine ⟨⟨vs, u, S''.keepL hc h3, hu⟩, fun y H2 yy => ?_⟩
          obtain ⟨rfl, yy⟩ := yy
          have := yy vs (S''.keepL hc h3)
          rw [hu] at this; cases this
          exact ⟨Same.refl _, Rep.flat d u (flats_get hf hd) (S''.ofBo hc ru)⟩
        · rw [if_neg hf] at q; exact False.elim q
      | tup ds =>
        dsimp only at q
        by_cases hf : flats ds = true
        · rw [if_pos hf] at q
          obtain ⟨p, vs, rfl, h3, h4⟩ := h2
          refine ⟨p, rfl, .inr ⟨⟨vs, S.keepT hc h3⟩, q.now _ [] (fun _ z => by cases z) fun Z P' ρ' σ' H' S' => ?_⟩⟩
          have S'' := S'.drop
          refine ⟨fun j d hd => ?_, ⟨vs, S''.keepT hc h3, by rw [h4.length]; exact Nat.le_refl _⟩⟩
          obtain ⟨u, hu, ru⟩ := h4.get hd
          refine ⟨⟨vs, u, S''.keepT hc h3, hu⟩, fun y H2 yy => ?_⟩
          obtain ⟨rfl, yy⟩ := yy
          have := yy vs (S''.keepT hc h3)
          rw [hu] at this; cases this
          exact ⟨Same.refl _, Rep.flat d u (flats_get hf hd) (S''.ofBo hc ru)⟩
        · rw [if_neg hf] at q; exact False.elim q
      | _ => exact False.elim q
    | sh d =>
      obtain ⟨_, v, h1, r⟩ := k
      refine ⟨v, h1, ?_⟩
      cases d with
      | lst ds =>
        obtain ⟨p, vs, rfl, _, h2, h3⟩ := id r
        exact ⟨p, rfl, .inl ⟨⟨vs, h2⟩, q.now _ [(V.ref p, .lst ds)] (fun z hz => by
          have : z = (V.ref p, D.lst ds) := by simpa using hz
          subst this; exact r) itl_ok⟩⟩
      | tup ds =>
        obtain ⟨p, vs, rfl, h2, h3⟩ := id r
        exact ⟨p, rfl, .inr ⟨⟨vs, h2⟩, q.now _ [(V.ref p, .tup ds)] (fun z hz => by
          have : z = (V.ref p, D.tup ds) := by simpa using hz
          subst this; exact r) itt_ok⟩⟩
      | _ => exact False.elim q
    | _ => exact False.elim q
/-- range(n), range(a, b) -/
def rgItems (lo : Int) (n : Nat) : List D := (List.range n).map fun i => .int (lo + (i : Nat))
theorem itr_ok {K : PySem.W.Frag} {lo : Int} {n : Nat} : ItOk K G [] true (Itr lo n) (rgItems lo n) := fun Z P ρ σ H S => by
  refine ⟨fun i d hd => ?_, ?_⟩
  · unfold rgItems at hd
    rw [List.getElem?_map] at hd
    by_cases hi : i < n
    · rw [List.getElem?_range hi] at hd
      cases hd
      refine ⟨hi, fun x H' y => ?_⟩
      obtain ⟨rfl, rfl⟩ := y
      exact ⟨Same.refl _, rfl⟩
    · rw [List.getElem?_eq_none (by simpa using hi)] at hd; cases hd
  · show n ≤ (rgItems lo n).length
    unfold rgItems
    rw [List.length_map, List.length_range]; exact Nat.le_refl _
def rgOk (j : Int) : Bool := decide (j.natAbs < 2 ^ 62)
theorem rgOk_of {j : Int} (h : rgOk j = true) : -(2 ^ 62) ≤ j ∧ j < 2 ^ 62 := by
  have := of_decide_eq_true h
  omega
def rg1 : List D → Res (List D)
  | [.int j] => if rgOk j = true then .ok (rgItems 0 j.toNat) else .stuck
  | _ => .stuck
def rg2 : List D → Res (List D)
  | [.int i, .int j] => if rgOk i = true ∧ rgOk j = true then .ok (rgItems i (j - i).toNat) else .stuck
  | _ => .stuck
variable {fs : Rho → Res (List D)} {p : Pos}
theorem ji_range1 {tg : Expr} (hg : Gl X "range") (hm : X.mg "range" = none) (ha : JA X G W s [a] fs) (hs : starEach [a] X.env = [(false, eval a X.env)] := by rfl) : JI X G W true tg (.Call (.Name "range" p) [a] [] pos) (e1 fs rg1) :=
  PI.imp (pi_range1 hg hm ha hs) fun σ H R ⟨P, ρ, S, q⟩ => ⟨P, ρ, S, (PostG.bind q).imp fun ds H1 e1 q1 vs r => by
    cases ds with
    | nil => exact False.elim q1
    | cons d ds =>
      cases ds with
      | cons _ _ => cases d <;> exact False.elim q1
      | nil =>
        cases d with
        | int j =>
          obtain ⟨v, ev, rv⟩ := r.one
          subst ev
          cases (show v = .int j from rv)
          have q1' : PostG X.K (G.N P) (G.M P) P.c W σ H1 _ (if rgOk j = true then .ok (rgItems 0 j.toNat) else .stuck) := q1
          by_cases h : rgOk j = true
          · rw [if_pos h] at q1'
            have h' := rgOk_of h
            exact ⟨j, rfl, h'.1, h'.2, q1'.now _ [] (fun _ z => by cases z) itr_ok⟩
          · rw [if_neg h] at q1'; exact False.elim q1'
        | _ => exact False.elim q1⟩
theorem ji_range2 {tg : Expr} (hg : Gl X "range") (hm : X.mg "range" = none) (ha : JA X G W s [a, b] fs) (hs : starEach [a, b] X.env = [(false, eval a X.env), (false, eval b X.env)] := by rfl) (hs2 : starEach [b] X.env = [(false, eval b X.env)] := by rfl) :
    JI X G W true tg (.Call (.Name "range" p) [a, b] [] pos) (e1 fs rg2) :=
  PI.imp (pi_range2 hg hm ha hs hs2) fun σ H R ⟨P, ρ, S, q⟩ => ⟨P, ρ, S, (PostG.bind q).imp fun ds H1 e1 q1 vs r => by
    rcases ds with _ | ⟨d, _ | ⟨d2, _ | _⟩⟩
    · exact False.elim q1
    · cases d <;> exact False.elim q1
    · cases d with
      | int i =>
        cases d2 with
        | int j =>
          obtain ⟨v, u, ev, rv, ru⟩ := r.two
          subst ev
          cases (show v = .int i from rv)
          cases (show u = .int j from ru)
          have q1' : PostG X.K (G.N P) (G.M P) P.c W σ H1 _ (if rgOk i = true ∧ rgOk j = true then .ok (rgItems i (j - i).toNat) else .stuck) := q1
          by_cases h : rgOk i = true ∧ rgOk j = true
          · rw [if_pos h] at q1'
            have h1 := rgOk_of h.1
            have h2 := rgOk_of h.2
            exact ⟨i, j, rfl, ⟨h1.1, h1.2, h2.1, h2.2⟩, q1'.now _ [] (fun _ z => by cases z) itr_ok⟩
          · rw [if_neg h] at q1'; exact False.elim q1'
        | _ => exact False.elim q1
      | _ => exact False.elim q1
    · cases d <;> cases d2 <;> exact False.elim q1⟩
end
end Dv

set_option Elab.async false
set_option linter.all false
set_option maxRecDepth 100000
set_option maxHeartbeats 4000000
namespace Dv
open PySem PySem.Spec L2
open PyProof.Rows hiding St

def dom (H : Hp) : Addr → Prop := fun a => (H a).isSome = true
/-- arguments, each strictly (true) or lent -/
def RepsF (K : PySem.W.Frag) (H : Hp) (N M : Addr → Prop) (ι : List Addr) : List Bool → List V → List D → Prop
  | [], vs, ds => vs = [] ∧ ds = []
  | s :: ss, vs, ds => ∃ v r d es, vs = v :: r ∧ ds = d :: es ∧ Rep K H N M ι s v d ∧ RepsF K H N M ι ss r es
section
variable {K : PySem.W.Frag} {H H' : Hp} {N M N' M' : Addr → Prop} {ι ι' : List Addr}
theorem RepsF.len : ∀ {fs : List Bool} {vs : List V} {ds : List D}, RepsF K H N M ι fs vs ds → vs.length = fs.length ∧ ds.length = fs.length
  | [], _, _, ⟨e1, e2⟩ => by rw [e1, e2]; exact ⟨rfl, rfl⟩
  | _ :: _, _, _, ⟨v, r, d, es, e1, e2, _, h⟩ => by
    have := RepsF.len h
    rw [e1, e2]
    exact ⟨by simp [this.1], by simp [this.2]⟩
theorem RepsF.get : ∀ {fs : List Bool} {vs : List V} {ds : List D} {i : Nat} {d : D}, RepsF K H N M ι fs vs ds → ds[i]? = some d → ∃ v s, vs[i]? = some v ∧ fs[i]? = some s ∧ Rep K H N M ι s v d
  | [], _, _, _, _, ⟨e1, e2⟩, e => by rw [e2] at e; simp at e
  | s :: _, _, _, 0, d', ⟨v, r, d, es, e1, e2, h1, _⟩, e => by
    rw [e2] at e
    have e' : d = d' := by simpa using e
    subst e'
    exact ⟨v, s, by rw [e1]; rfl, rfl, h1⟩
  | _ :: _, _, _, i + 1, d', ⟨v, r, d, es, e1, e2, _, h⟩, e => by
    rw [e2] at e
    obtain ⟨u, s, q1, q2, q3⟩ := RepsF.get (i := i) (d := d') h (by simpa using e)
    exact ⟨u, s, by rw [e1]; simpa using q1, by simpa using q2, q3⟩
theorem RepsF.same (e : Same H H') : ∀ {fs : List Bool} {vs : List V} {ds : List D}, RepsF K H N M ι fs vs ds → RepsF K H' N M ι fs vs ds
  | [], _, _, h => h
  | _ :: _, _, _, ⟨v, r, d, es, e1, e2, h1, h⟩ => ⟨v, r, d, es, e1, e2, h1.same e, RepsF.same e h⟩
theorem RepsF.weak (hN : ∀ a, N' a → N a) (hM : ∀ a, M' a → M a) : ∀ {fs : List Bool} {vs : List V} {ds : List D}, RepsF K H N M ι fs vs ds → RepsF K H N' M' ι fs vs ds
  | [], _, _, h => h
  | _ :: _, _, _, ⟨v, r, d, es, e1, e2, h1, h⟩ => ⟨v, r, d, es, e1, e2, h1.weak hN hM, RepsF.weak hN hM h⟩
end
/-- what an entry knows of the caller's sets -/
structure EntOk (H : Hp) (Z Mx : Addr → Prop) (ι : List Addr) : Prop where
  z : ∀ a, Z a → (H a).isSome = true
  m : ∀ a, Mx a → (H a).isSome = true
  nd : ι.Nodup
  c : ∀ a, a ∈ ι → (H a).isSome = true
  cm : ∀ a, a ∈ ι → Mx a
  cz : ∀ a, a ∈ ι → Z a
/-- the promise of a def: F of the arguments' data -/
def spD (K : PySem.W.Frag) (fs : List Bool) (F : List D → Res D) : Sp := fun vs H Q E => ∃ ds Z Mx ι, EntOk H Z Mx ι ∧ RepsF K H Z Mx ι fs vs ds ∧
  PostG K Z Mx ι (fun cls od _ H' => E cls od H') [] H (fun d H' => ∀ v, RetV K (dom H) Z Mx ι H' v d → Q v H') (F ds)
theorem spD_len {K : PySem.W.Frag} {fs : List Bool} {F : List D → Res D} {ps : List Str} (h : ps.length = fs.length) : ∀ vs H Q E, spD K fs F vs H Q E → vs.length = ps.length := fun vs H Q E ⟨ds, Z, Mx, ι, _, r, _⟩ => by
  rw [r.len.1, h]
section
variable {K : PySem.W.Frag} {G : Sg} {P : Pl} {ρ : Rho} {σ : L2.St} {H H' : Hp}
theorem Sim.domO (S : Sim K G P ρ σ H) {a : Addr} (h : P.own a) : dom H a := S.ownThere h
theorem Sim.domN (S : Sim K G P ρ σ H) {a : Addr} (h : G.N P a) : dom H a := h.elim (S.zx a) S.domO
theorem Sim.domM (S : Sim K G P ρ σ H) {a : Addr} (h : G.M P a) : dom H a := h.elim (S.mx a) S.domO
theorem Sim.ent (S : Sim K G P ρ σ H) : EntOk H (G.N P) (G.M P) P.c := ⟨fun _ z => S.domN z, fun _ z => S.domM z, S.nd, S.cx, fun a h => .inr (.inr h), fun a h => .inr (.inr h)⟩
theorem RetV.rep (S : Sim K G P ρ σ H) {d : D} {v : V} (r : RetV K (dom H) (G.N P) (G.M P) P.c H' v d) : Rep K H' (G.N P) (G.M P) P.c true v d := by
  cases d with
  | lst ds =>
    obtain ⟨p, vs, rfl, h1, h2, h3⟩ := r
    exact ⟨p, vs, rfl, fun _ => ⟨h2, fun z => h1 (S.domN z)⟩, SqL.of h2, h3.weak (fun a z => .inl z) fun a z => z⟩
  | _ => exact r
/-- the promise, from a body -/
theorem spD_of {W : WX} {fs : List Bool} {F : List D → Res D} {vs : List V} {ds : List D} {Q : VK} {okP : D → Hp → Prop} (S : Sim K G P ρ σ H) (r : RepsF K H (G.N P) (G.M P) P.c fs vs ds) (q : PostG K (G.N P) (G.M P) P.c W σ H okP (F ds))
    (hq : ∀ d H' v, Same H H' → okP d H' → RetV K (dom H) (G.N P) (G.M P) P.c H' v d → Q v H') : spD K fs F vs H Q (WE W σ) := by
  refine ⟨ds, G.N P, G.M P, P.c, S.ent, r, ?_⟩
  cases e : F ds with
  | ok d => rw [e] at q; exact fun H' e' v r => hq d H' v e' (q H' e') r
  | exc x => rw [e] at q; exact fun cls od H' e' xr => q cls od H' e' xr
  | stuck => rw [e] at q; exact q
end
/-- argument lists with their kinds -/
def tF (K : PySem.W.Frag) (G : Sg) (W : WX) (ss : List Bool) (f : Rho → Res (List D)) : TA := fun σ H Q => ∃ P ρ, Sim K G P ρ σ H ∧ PostG K (G.N P) (G.M P) P.c W σ H (fun ds H' => ∀ vs, RepsF K H' (G.N P) (G.M P) P.c ss vs ds → Q vs H') (f ρ)
def JF (X : Cx) (G : Sg) (W : WX) (ss : List Bool) (es : List Expr) (f : Rho → Res (List D)) : Prop := PA X es (tF X.K G W ss f)
section
variable {X : Cx} {G : Sg} {W : WX} {s s' : Bool} {ss : List Bool} {e a b : Expr} {es : List Expr} {f : Rho → Res D} {fs : Rho → Res (List D)} {pos p : Pos} {x : Str} {k : Nat} {fa : Addr} {fd : FuncData} {ps : List Str} {F : List D → Res D}
theorem jf_nil : JF X G W [] [] aNil := PA.imp pa_nil fun σ H Q ⟨P, ρ, S, h⟩ => h.now _ ⟨rfl, rfl⟩
theorem jf_cons (ha : JE X G W s a f) (hr : JF X G W ss es fs) (hs : starEach (a :: es) X.env = (false, eval a X.env) :: starEach es X.env := by rfl) : JF X G W (s :: ss) (a :: es) (aCons f fs) :=
  PA.imp (pa_cons ha hr hs) fun σ H Q ⟨P, ρ, S, h⟩ => ⟨P, ρ, S, (PostG.bind h).imp fun x H1 e1 h1 v r => ⟨P, ρ, S.same e1, (PostG.bind h1).imp fun xs H2 e2 h2 vs rs => h2.now _ ⟨v, vs, x, xs, rfl, rfl, r.same e2, rs⟩⟩⟩
theorem je_call (hF : FnOk X.prog X.w X.K X.mg X.base (L2.CX X.prog X.w) k fa fd ps (spD X.K ss F)) (hr : Room k X.A) (hg : Gl X x) (hm : X.mg x = some (.ref fa)) (hk : PySem.W.keepIn X.K (.ref fa) = true) (hb : Binds X.K fd ps []) (tk : Takes X W)
    (ha : JF X G W ss (a :: es) fs) (hdb : (x == ("__debug__" : Str)) = false := by decide) (he : starEach (a :: es) X.env = (false, eval a X.env) :: starEach es X.env := by rfl) (hpl : (backTo pos (starEach es X.env)).any (·.1) = false := by rfl) :
    JE X G W s' (.Call (.Name x p) (a :: es) [] pos) (e1 fs F) := PE.imp (pe_callS (E := WE W) hF hr hg hm hk hb (fun σ => passAt tk σ) ha hdb he hpl) fun σ H Q ⟨P, ρ, S, q⟩ => ⟨P, ρ, S, (PostG.bind q).imp fun ds H1 e1 q1 vs rs =>
    spD_of (S.same e1) rs q1 fun d H' v e' k r => k v (RetV.rep (S.same e1) r).to⟩
theorem jn_call (hF : FnOk X.prog X.w X.K X.mg X.base (L2.CX X.prog X.w) k fa fd ps (spD X.K ss F)) (hr : Room k X.A) (hg : Gl X x) (hm : X.mg x = some (.ref fa)) (hk : PySem.W.keepIn X.K (.ref fa) = true) (hb : Binds X.K fd ps []) (tk : Takes X W)
    (ha : JF X G W ss (a :: es) fs) (hdb : (x == ("__debug__" : Str)) = false := by decide) (he : starEach (a :: es) X.env = (false, eval a X.env) :: starEach es X.env := by rfl) (hpl : (backTo pos (starEach es X.env)).any (·.1) = false := by rfl) :
    JN X G W (.Call (.Name x p) (a :: es) [] pos) (e1 (e1 fs F) asLst) := PE.imp (pe_callS (E := WE W) hF hr hg hm hk hb (fun σ => passAt tk σ) ha hdb he hpl) fun σ H Q ⟨P, ρ, S, q⟩ => ⟨P, ρ, S, (PostG.bind (PostG.bind q)).imp fun ds H1 e1 q1 vs rs => by
  refine spD_of (S.same e1) rs q1 fun d H' v e' k r => ?_
  cases d with
  | lst ds =>
    obtain ⟨p, vs, rfl, h1, h2, h3⟩ := r
    have hp : H p = none := by
      cases q : H p with
      | none => rfl
      | some o => exact absurd (show dom H1 p by show (H1 p).isSome = true; rw [e1 _ _ q]; rfl) h1
    exact PostG.now k p vs hp h2 h3
  | _ => exact False.elim k⟩
end

/-! ### a def by its body -/
def slD (d : D) : Sl := if flat d = true then .sh d else .bo d
def slF (s : Bool) (d : D) : Sl := if s = true then .sh d else slD d
def entryS (fs : List Bool) (m : Nat) (ds : List D) : Rho := ⟨List.zipWith slF fs ds ++ List.replicate (m - ds.length) .no, none⟩
def Meets (o : Out) (r : Res D) : Prop := match o, r with
  | .rt d _, .ok d' => d = d'
  | .nx _, .ok d' => d' = .non
  | .ex x _, .exc x' => x = x'
  | _, _ => False
/-- the start, without a store -/
def Sg.of (H : Hp) (IO Mx Z : Addr → Prop) (ι : List Addr) : Sg := ⟨H, IO, Mx, Z, ι, false, [], [], none⟩
def Pl.of (ι : List Addr) : Pl := ⟨fun _ => none, ι⟩
theorem slD_ok {K : PySem.W.Frag} {H : Hp} {IO Z Mx : Addr → Prop} {ι : List Addr} {σ : L2.St} {P : Pl} {i : Nat} {v : V} {d : D} (hP : P i = none) (hc : P.c = ι) (hM : ∀ a, (Sg.of H IO Mx Z ι).M P a → Mx a ∨ IO a) (hs : σ[i]? = some (some v)) (rv : Rep K H (fun _ => False) (fun a => Mx a ∨ IO a) ι false v d) : SlOk K (Sg.of H IO Mx Z ι) P σ H i (slD d) := by
  unfold slD
  by_cases hf : flat d = true
  · rw [if_pos hf]
    refine ⟨hP, v, hs, ?_⟩
    exact (Rep.flat (ι' := P.c) _ v hf rv).weak (N := fun _ => True) (fun _ _ => trivial) hM
  · rw [if_neg hf]
    exact ⟨hP, v, hs, rv⟩
theorem slF_ok {K : PySem.W.Frag} {H : Hp} {IO Z Mx : Addr → Prop} {ι : List Addr} {σ : L2.St} {P : Pl} {i : Nat} {v : V} {d : D} {s : Bool} (hP : P i = none) (hc : P.c = ι) (hM : ∀ a, (Sg.of H IO Mx Z ι).M P a → Mx a ∨ IO a) (hN : ∀ a, (Sg.of H IO Mx Z ι).N P a → Z a ∨ P.own a) (hs : σ[i]? = some (some v))
    (rv : Rep K H (fun a => Z a ∨ P.own a) (fun a => Mx a ∨ IO a) ι s v d) : SlOk K (Sg.of H IO Mx Z ι) P σ H i (slF s d) := by
  cases s with
  | false => exact slD_ok hP hc hM hs rv.anyN
  | true => subst hc; exact ⟨hP, v, hs, rv.weak hN hM⟩
theorem entry_len {fs : List Bool} {ds : List D} (h : ds.length = fs.length) : (List.zipWith slF fs ds).length = ds.length := by
  rw [List.length_zipWith, h, Nat.min_self]
theorem sim_start {K : PySem.W.Frag} {H : Hp} {Z Mx : Addr → Prop} {ι : List Addr} {N : List Str} {fs : List Bool} {vs : List V} {ds : List D} (hE : EntOk H Z Mx ι) (r : RepsF K H Z Mx ι fs vs ds) (hZ : ∀ a, a ∈ ι → Z a) :
    Sim K (Sg.of H (fun _ => False) Mx Z ι) (Pl.of ι) (entryS fs N.length ds) (L2.start N vs) H := by
  have hl := r.len
  have hO : ∀ a, (Pl.of ι).own a → a ∈ ι := fun a z => z.elim (fun ⟨_, z⟩ => by cases z) id
  exact {
    base := fun a o h _ _ => h
    io := fun a z => z.elim
    iot := fun a z => z.elim
    mx := hE.m
    zx := hE.z
    inj := fun i j a h => by cases h
    ic := fun i a h => by cases h
    zo := fun i a h => by cases h
    nd := hE.nd
    cx := hE.c
    pre := fun _ _ z => z
    pc := fun _ => ⟨rfl, rfl⟩
    nw := fun a h _ => h
    im := hE.cm
    c0c := fun a h => by cases h
    own := fun i a h => by cases h
    ioc := fun a z => z.elim
    out := fun _ _ => rfl
    len := by
      show (List.zipWith slF fs ds ++ List.replicate (N.length - ds.length) Sl.no).length = _
      unfold L2.start
      rw [List.length_append, List.length_append, entry_len hl.2, List.length_map, List.length_replicate, List.length_replicate, hl.1, hl.2]
    sl := fun i x hx => by
      have hx : (List.zipWith slF fs ds ++ List.replicate (N.length - ds.length) Sl.no)[i]? = some x := hx
      by_cases hi : i < ds.length
      · rw [List.getElem?_append_left (by rw [entry_len hl.2]; exact hi)] at hx
        obtain ⟨v, s, hv, hs, rv⟩ := r.get (i := i) (List.getElem?_eq_getElem hi)
        have hs' : (L2.start N vs)[i]? = some (some v) := by
          unfold L2.start
          rw [List.getElem?_append_left (by rw [List.length_map, hl.1, ← hl.2]; exact hi), List.getElem?_map, hv]; rfl
        rw [List.getElem?_zipWith, hs, List.getElem?_eq_getElem hi] at hx
        have hx' : slF s ds[i] = x := by simpa using hx
        subst hx'
        refine slF_ok rfl rfl (fun a z => .inl (z.elim id fun z => hE.cm a (hO a z))) (fun a z => z) hs' (rv.weak (fun a z => z.elim id fun z => hZ a (hO a z)) fun a z => z.elim id False.elim)
      · rw [List.getElem?_append_right (by rw [entry_len hl.2]; omega), List.getElem?_replicate] at hx
        split at hx
        · cases hx; rfl
        · cases hx
    nb := fun h => absurd rfl h
    st := fun S h => by cases h
    gs := fun p hp => by cases hp }
section
variable {P : Program} {w : World} {K : PySem.W.Frag} {mg : Str → Option Value} {base : Heap}
theorem fnD {x qual : Str} {st : Stmt} {f : Addr} {fd : FuncData} {N ps : List Str} {k : Nat} {fs : List Bool} {Fd : List D → Res D} {den : Rho → Out} (F : Fun K x qual st f fd) (Sc : FnScope N ps (defScope st)) (hn : ps.length = fs.length)
    (hden : ∀ ds, Fd ds = .stuck ∨ Meets (den (entryS fs N.length ds)) (Fd ds))
    (hbody : ∀ (cdv : Value) (A : Around) (outer : List Env) (s : Shared) (H : Hp) (E : XK) (G : Sg), Room k (A.deeper (envOfC qual (defScope st) s.heap.objs.size f cdv)) →
      JB (cxOf (L2.CX P w) P w K mg base N qual (defScope st) f cdv A outer s H E) G (fun cls od _ H' => E cls od H') (defBody st) den) :
    FnOk P w K mg base (L2.CX P w) (k + 1) f fd ps (spD K fs Fd) := by
  refine F.okX Sc (spD_len hn) fun cdv A outer s H vs Q E hr h => ?_
  obtain ⟨ds, Z, Mx, ι, hE, r, q⟩ := h
  refine ⟨_, hbody cdv A outer s H E (Sg.of H (fun _ => False) Mx Z ι) hr, Pl.of ι, entryS fs N.length ds, sim_start hE r hE.cz, ?_⟩
  have sm : ∀ {P' : Pl} {ρ' : Rho} {σ' : L2.St} {H' : Hp}, Sim K (Sg.of H (fun _ => False) Mx Z ι) P' ρ' σ' H' → Same H H' := fun S' a o h => S'.base a o h (fun z => z) (fun z => by cases z)
  have pc : ∀ {P' : Pl} {ρ' : Rho} {σ' : L2.St} {H' : Hp}, Sim K (Sg.of H (fun _ => False) Mx Z ι) P' ρ' σ' H' → P'.c = ι := fun S' => (S'.pc rfl).1
  have hd := hden ds
  rcases hd with hd | hd
  · rw [hd] at q; exact False.elim q
  · cases eo : den (entryS fs N.length ds) with
    | nx ρ =>
      rw [eo] at hd
      cases er : Fd ds with
      | ok d =>
        rw [er] at hd q
        have hd' : d = .non := hd
        subst hd'
        exact fun P' σ' H' S' => q H' (sm S') .non rfl
      | exc x => rw [er] at hd; exact False.elim hd
      | stuck => rw [er] at q; exact False.elim q
    | rt d ρ =>
      rw [eo] at hd
      cases er : Fd ds with
      | ok d' =>
        rw [er] at hd q
        have hd' : d = d' := hd
        subst hd'
        exact fun P' σ' H' v S' rv => q H' (sm S') v (pc S' ▸ rv)
      | exc x => rw [er] at hd; exact False.elim hd
      | stuck => rw [er] at q; exact False.elim q
    | ex x ρ =>
      rw [eo] at hd
      cases er : Fd ds with
      | ok d' => rw [er] at hd; exact False.elim hd
      | exc x' =>
        rw [er] at hd q
        have hd' : x = x' := hd
        subst hd'
        exact fun P' σ' H' cls od S' rx => q cls od H' (sm S') (pc S' ▸ rx.weak (fun a z => .inl z) fun a z => .inl z)
      | stuck => rw [er] at q; exact False.elim q
    | bk ρ => rw [eo] at hd; cases er : Fd ds <;> (rw [er] at hd; exact False.elim hd)
    | ct ρ => rw [eo] at hd; cases er : Fd ds <;> (rw [er] at hd; exact False.elim hd)
    | stuck => rw [eo] at hd; cases er : Fd ds <;> (rw [er] at hd; exact False.elim hd)
end
end Dv

set_option Elab.async false
set_option linter.all false
set_option maxRecDepth 100000
set_option maxHeartbeats 1000000
namespace Dv
open PySem PySem.Spec L2
open PyProof.Rows hiding St
open NdefX (NF NScope ncx envF startF CellsAt inv_startN)

/-- what of the text an own exception's __init__ (at fI, its class at C) that begins with super().__init__(..) leans on -/
structure SupTxt (prog : Program) (K : PySem.W.Frag) (mg : Str → Option Value) (C fI cc : Addr) (F : NF) : Prop where
  ox : OexC K C
  lk : ∃ (oc doc pm ctv : Value) (od : Option Addr) (osl : Array (Option Value)), K.lookup fI = some ⟨oc, od, .func (F.fd doc pm ctv), osl⟩
  cl : F.cl = ([("__class__", cc)] : List (Str × Addr))
  code : PySem.W.codeIn K (.ref F.c) F.qual = true
  codeV : ∃ (cc1 : Value) (cdd : Option Addr) (ccs : Array (Option Value)) (vs : Array Value) (file : Str) (tf : Tok), K.lookup F.c = some ⟨cc1, cdd, .fields vs, ccs⟩ ∧ vs[2]? = some (.str file tf) ∧ ((prog.main.file : Str) == file) = true
  cell : ∃ (c1 : Value) (cdd : Option Addr) (ccs : Array (Option Value)), K.lookup cc = some ⟨c1, cdd, .cell (some (.ref C)), ccs⟩
  top : (prog.main.scope.names.lookup ("super" : Str)).isSome = false
  sub : PySem.W.mroIn K C (.ref C) = some true
  sup0 : mg "super" = none
  opq : PySem.W.nsIn K cStatics "thirdparty.any" = some none
  meth : PySem.W.ks_superIn K C C "__init__" = some (some (.builtin "ValueError.__init__"))
  isB : PySem.W.subIn K (.ref C) (.type "ValueError") = some true
  iC : PySem.W.findIn K (.ref C) "__init__" = some (some (.ref fI))
  tI : PySem.W.typeIn K (.ref fI) = some (.type "function")

section
variable {CX : CXT} {P : Program} {w : World} {K : PySem.W.Frag} {mg : Str → Option Value} {base : Heap}
theorem clsIn_of {C : Addr} (T : OexC K C) : ∃ cd, PySem.W.clsIn K C = some cd := by
  obtain ⟨nm, q, N, bs, bm, sn, sub, ab, col, dd, k0, k1, k2, k3, k5, hC, hbm⟩ := T.cls
  unfold PySem.W.clsIn
  rw [hC]
  exact ⟨_, rfl⟩
theorem _root_.L2.Inv.unpin {X : Cx} {pins : List (Addr × Obj)} {σ : L2.St} {H : Hp} {s : Shared} (I : Inv X pins σ H s) : Inv X [] σ H s := I.pins_of fun p hp => by cases hp
/-- such an __init__ keeps its promise: the argument's reading, then the rest's -/
theorem fn_sup {C fI cc : Addr} {F : NF} {k : Nat} {sp : Sp} {p0 p1 p2 p3 p4 : Pos} {e : Expr} {rest : List Stmt} {N ps : List Str} {ar : Arg} {doc pm ctv : Value} (T : SupTxt P K mg C fI cc F)
    (hbody : F.body = .Expr (.Call (.Attribute (.Call (.Name "super" p0) [] [] p1) "__init__" p2) [e] [] p3) p4 :: rest)
    (S : NScope N ps ["__class__"] F.scope) (hp : (F.params.posonlyargs ++ F.params.args).head? = some ar) (h0 : ps[0]? = some ar.arg)
    (hks : F.scope.names.lookup ("super" : Str) = some .globalImplicit)
    (len : ∀ vs H Q E, sp vs H Q E → vs.length = ps.length)
    (lk : ∃ (oc : Value) (od : Option Addr) (osl : Array (Option Value)), K.lookup fI = some ⟨oc, od, .func (F.fd doc pm ctv), osl⟩)
    (hpl : (backTo p3 (starEach [] (envF F fI 0))).any (·.1) = false)
    (hst : ∀ L, starEach [e] (envF F fI L) = [(false, eval e (envF F fI L))])
    (hev : ∀ L, eval (.Call (.Attribute (.Call (.Name "super" p0) [] [] p1) "__init__" p2) [e] [] p3) (envF F fI L) = (do
      let ov ← attributeBase (.Call (.Name "super" p0) [] [] p1) "__init__" (envF F fI L) (eval (.Call (.Name "super" p0) [] [] p1) (envF F fI L))
      standAt p2.atName
      let (f, first) ← holding [ov] (getMethod ov "__init__" (pure false))
      callWith p3 f first (backTo p3 (starEach [e] (envF F fI L))) []))
    (hb : ∀ (A : Around) (outer : List Env) (s : Shared) (H : Hp) (vs : List V) (Q : VK) (E : XK), Room k (A.deeper (envF F fI s.heap.objs.size)) → sp vs H Q E →
      ∃ (a : Addr) (ta : TA) (t : TS), vs[0]? = some (.ref a) ∧ H a = some (exo a C none) ∧ PA (ncx CX P w K mg base N F fI A outer s H E) [e] ta ∧ PSs (ncx CX P w K mg base N F fI A outer s H E) rest t ∧
        ta (startF N vs [none]) H fun ws H1 => ws.length = 1 ∧ H1 a = some (exo a C none) ∧ t { nx := fun _ H' => Q .non H', rt := Q } (startF N vs [none]) H1) :
    FnOk P w K mg base CX (k + 1) fI (F.fd doc pm ctv) ps sp := by
  refine ⟨len, fun A outer s H args us vs Q E hr e0 hbind r hsp => ?_⟩
  have hl := len _ _ _ _ hsp
  have KX : K.In s.heap := e0.mod.kin.keeps fun b o e => (e0.bs b o e).1
  have lim : s.heap.NoLimit := e0.mod.nolimit.keeps fun b o e => (e0.bs b o e).1
  obtain ⟨oc, od, osl, ho⟩ := lk
  obtain ⟨c1, cdd, ccs, hcell⟩ := T.cell
  have hbase : ∀ {b o}, K.lookup b = some o → H b = none := fun {b o} z => (e0.bs b o (e0.mod.kin b o z)).2
  refine PySem.ks_codeAny_call_defAt (fd := F.fd doc pm ctv) (body := F.body) (binds := ps.zip us) hr.depth (KX _ _ ho) rfl lim (PySem.W.codeRec_of KX T.code) rfl hbind S.nocell (fun ⟨n, _⟩ hy => S.par n (List.of_mem_zip hy).1) (fun h₁ hns hk₁ => ?_) S.co S.gen S.kind
  show _root_.PySem.wpAt (model P w) (A.deeper (envF F fI s.heap.objs.size)) (.func F.body (envF F fI s.heap.objs.size)) (execs F.body (envF F fI s.heap.objs.size)) _ _ _
  obtain ⟨a, ta, t, hva, hHa, hE, hR, hq⟩ := hb A outer s H vs Q E (hr.deeper _) hsp
  have CA : CellsAt F.cl ["__class__"] [none] s.heap H := by
    rw [T.cl]
    refine ⟨rfl, fun y c z => ?_, fun x y c z1 z2 => ?_, fun i y hi => ?_⟩
    · have : c = cc := by
        simp only [List.lookup] at z
        split at z
        · exact (Option.some.inj z).symm
        · cases z
      subst this
      exact ⟨hbase hcell, _, _, KX _ _ hcell, rfl⟩
    · have q : ∀ {x : Str}, List.lookup x ([("__class__", cc)] : List (Str × Addr)) = some c → x = "__class__" := fun {x} z => by
        simp only [List.lookup] at z
        split at z
        · rename_i h; exact beq_iff_eq.mp h
        · cases z
      rw [q z1, q z2]
    · cases i with
      | zero => cases hi; exact ⟨cc, by simp [List.lookup], fun v z => by cases z⟩
      | succ i => cases hi
  have I : Inv (ncx CX P w K mg base N F fI A outer s H E) [] (startF N vs [none]) H { s with heap := h₁, toks := s.toks + (ps.zip us).length } := inv_startN S hr.hd e0 hl r CA hns hk₁
  have kind : (envF F fI s.heap.objs.size).scope.kind = .function := S.kind
  have hkc : F.scope.names.lookup ("__class__" : Str) = some .free := S.frk _ (by simp)
  have fin : ∀ {σ' : L2.St} {H' : Hp} {v : V} {u : Value} {s' : Shared}, Inv (ncx CX P w K mg base N F fI A outer s H E) [] σ' H' s' → L2.RelV v u → Q v H' → CE outer P w H s Q u s' :=
    fun {σ' H' v u s'} J rv q => ⟨v, H', J.os, J.bare, J.base, J.hok, rv, q⟩
  rw [hbody]
  refine PySem.ks_wpAt_execs_cons ?_
  refine PySem.ks_wpAt_Expr_any ?_ I.quiet (by rfl)
  refine PySem.ks_wpAt_MethodCall (pl := pure false) ?_ (hev _)
  obtain ⟨cc1, cdd1, ccs1, vsC, file, tf, hcv, hvs, hfile⟩ := T.codeV
  obtain ⟨cd, hcd⟩ := clsIn_of T.ox
  obtain ⟨oD, hD1, hD2⟩ : ∃ oD, K.lookup C = some oD ∧ oD.data = .cls cd := by
    unfold PySem.W.clsIn at hcd
    split at hcd
    · rename_i c d cd' sl ho
      cases hcd
      exact ⟨_, ho, rfl⟩
    · cases hcd
  have hN0 : N[0]? = some ar.arg := by
    have q := S.pre
    have hps : 0 < ps.length := (List.getElem?_eq_some_iff.mp h0).1
    have : (N.take (ps.length + (["__class__"] : List Str).length))[0]? = some ar.arg := by
      rw [q, List.getElem?_append_left hps]; exact h0
    rw [List.getElem?_take_of_lt (by omega)] at this
    exact this
  have hσ0 : (startF N vs [none])[0]? = some (some (.ref a)) := by
    unfold startF
    have hv0 : 0 < vs.length := (List.getElem?_eq_some_iff.mp hva).1
    rw [List.getElem?_append_left (by simpa using hv0), List.getElem?_map, hva]; rfl
  obtain ⟨m, hm, hlk⟩ := id I.loc
  have hpar : F.scope.names.lookup ar.arg = some .local := S.par _ (List.mem_of_getElem? h0)
  obtain ⟨u0, ru0, lk0⟩ := hlk 0 ar.arg (.ref a) hN0 hσ0 (.inl hpar)
  obtain rfl : u0 = Value.ref a := ru0
  have hma : m ar.arg = some (.ref a) := by
    rcases lk0 with ⟨_, z⟩ | ⟨z | z, _⟩
    · exact z
    · exact absurd (show F.scope.names.lookup ar.arg = some .cell from z) (by rw [hpar]; intro q; cases q)
    · exact absurd (show F.scope.names.lookup ar.arg = some .free from z) (by rw [hpar]; intro q; cases q)
  obtain ⟨t1, hexo⟩ := exo_at I.hok hHa
  have XI : K.In h₁ := I.kIn
  refine PySem.ks_wpAt_super_base (f := fI) (cc := F.c) (env := envF F fI s.heap.objs.size) hks hkc (by decide) rfl (XI _ _ ho) rfl hp rfl (XI _ _ hcv) rfl hvs hfile T.top ?_
  obtain ⟨mb, hb1, hb2⟩ := I.mod.blt
  refine PySem.W.ks_loadName_global kind hks (Calls.loadGlobal_builtin (I.mod.glob.keeps I.bk) T.sup0 (hb1.keeps I.bk) ((hb2 _ (by decide)).trans (show bootBuiltins "super" = some (.type "super") by decide +kernel)) ⟨rfl, ?_⟩)
  refine wpAny_loadName_free kind hkc (show F.cl.lookup (("__class__" : Str)) = some cc by rw [T.cl]; simp [List.lookup]) ⟨_, XI _ _ hcell, rfl⟩ ?_
  refine wpAny_loadName_local kind hpar hm hma ?_
  refine PySem.ks_wpAny_isType_cls (XI _ _ hD1) hD2 ⟨rfl, ?_⟩
  have hsubL : PySem.W.Looks (model P w) h₁ (isSubtype (.ref C) (.ref C)) true := PySem.W.looks_mroIn XI T.sub
  refine PySem.ks_wpAny_call_super (XI _ _ hD1) hD2 hexo rfl (fun c q => by cases q) hsubL fun h2 hso k2 => ?_
  have I2 : Inv (ncx CX P w K mg base N F fI A outer s H E) [] (startF N vs [none]) H { s with heap := h2, toks := s.toks + (ps.zip us).length } := I.kept (t' := s.toks + (ps.zip us).length) (h' := h2) k2
  have X2 : K.In h2 := I2.kIn
  have InstA : PySem.W.InstAt h2 a { cls := .ref C, dict := none, data := .fields #[.ref t1, .none, .none, .none, .bool false, .none] } C none := ⟨k2 _ _ hexo, rfl, rfl, trivial⟩
  have hIs : PySem.W.Looks (model P w) h2 (isInstance (.ref a) (.type "ValueError")) true := InstA.type.andThen (PySem.W.looks_subIn X2 T.isB)
  have hmeth := T.meth
  unfold PySem.W.ks_superIn at hmeth
  rw [hcd] at hmeth
  have hax : a ≠ C := fun z => by
    have := hbase hD1
    rw [← z, hHa] at this; cases this
  refine PySem.W.kxs_getMethod PySem.W.kxs_ValueError (l₀ := cd.mro) hso (PySem.W.looks_opaque X2 T.opq) (fun A Q E s k q => wpAny_bind ((PySem.W.looks_clsIn X2 hcd) A _ E s k (wpAny_pure q))) rfl X2 hmeth hIs hax (by decide) ?_
  have hmw : (h2.push (PySem.W.kxs_mw "ValueError.__init__" a)).get? h2.objs.size = some (PySem.W.kxs_mw "ValueError.__init__" a) := Heap.get?_push_at rfl rfl
  have I3 : Inv (ncx CX P w K mg base N F fI A outer s H E) [] (startF N vs [none]) H { s with heap := h2.push (PySem.W.kxs_mw "ValueError.__init__" a), toks := s.toks + (ps.zip us).length + 1 } :=
    I2.kept (t' := s.toks + (ps.zip us).length + 1) fun b o z => Heap.get?_push_of_some _ z
  have I4 : Inv (ncx CX P w K mg base N F fI A outer s H E) [(h2.objs.size, PySem.W.kxs_mw "ValueError.__init__" a)] (startF N vs [none]) H { s with heap := h2.push (PySem.W.kxs_mw "ValueError.__init__" a), toks := s.toks + (ps.zip us).length + 1 } :=
    I3.pins_of fun p hp => by
      have : p = (h2.objs.size, PySem.W.kxs_mw "ValueError.__init__" a) := by simpa using hp
      subst this
      exact ⟨hmw, I2.hok.fresh (Nat.le_refl _), Nat.ne_of_gt I2.lt, I2.nofs (Nat.le_refl _), fun v z => by cases z⟩
  refine PySem.W.kxs_callWith (i := "ValueError.__init__") (x := a) (first := []) (by rw [hst] <;> rfl) ?_
  have hrun : wpAny (model P w) _ (spliced (backTo p3 (starEach [e] (envF F fI s.heap.objs.size)))) _ _ _ := hE.run p3 _ _ (startF N vs [none]) H _ I4 hq
  rw [hst] at hrun ⊢
  refine Calls.evalArgs_plain (thn hrun fun us1 s5 ⟨ws, H5, I5, r5, hw1, hH5, ht5⟩ => ?_)
  have hmw5 := (I5.pin (h2.objs.size, PySem.W.kxs_mw "ValueError.__init__" a) (List.mem_append_right _ (by simp))).1
  refine ⟨hmw5, ?_⟩
  obtain ⟨t5, hexo5⟩ := exo_at I5.hok hH5
  obtain ⟨nm, qn, Nn, bs, bm, sn, sub, ab, col, dd, k0, k1, k2', k3, k5, hC, hbm⟩ := T.ox.cls
  obtain ⟨hh, g5, d5, tk5, os5⟩ := s5
  show wpAny (model P w) _ (call (.ref h2.objs.size) us1) _ _ _
  refine wpAny_call (codeAny_of_tree ?_)
  show wpAny _ _ (callAny (.ref h2.objs.size) ⟨us1, []⟩) _ _ _
  simp only [callAny]
  refine wpAny_bind (wpAny_load hmw5 ?_)
  simp only [PySem.W.kxs_mw, show (Value.type "method-wrapper" == Value.type "method" || Value.type "method-wrapper" == Value.type "builtin_function_or_method" || Value.type "method-wrapper" == Value.type "method-wrapper") = true by decide, if_true]
  refine PySem.W.KFB.if_so (by decide) ?_
  refine wpAny_bind (PySem.W.check_bound_init PySem.F.excBase_ValueError.toExcCallFacts (I5.kIn _ _ hC) hexo5 rfl ?_)
  refine wpAny_bind (wpAny_pure (wpAny_pure ?_))
  refine ⟨plainId_quiet PySem.F.excBase_ValueError.init.plain _, codeAny_builtin PySem.F.excBase_ValueError.initEntry ?_⟩
  have hus : us1.length ≤ sizeLine := by rw [← r5.length, hw1, sizeLine_eq]; decide
  refine PySem.W.exc_init_tree (cls := .ref C) (t0 := t5) (dv := none) (c2 := .none) (c3 := .none) (b4 := .bool false) hexo5 hus fun h6 k6 e6 t6 => ?_
  have J := I5.write (t' := tk5) (x := a) (e := a) (o := exo a C none) (by rw [hH5]; exact True.intro) (.inl rfl) k6 ⟨_, e6⟩ (exo_ok e6)
  have eu : upd H5 a (exo a C none) = H5 := by
    funext b
    by_cases hb : b = a
    · rw [hb, upd_same, hH5]
    · rw [upd_ne hb]
  rw [eu] at J
  refine _root_.PySem.wpAt_of_wpAny ?_
  refine wpAny_mono (hR.run _ _ (startF N vs [none]) H5 _ J ht5) (fun fl s' hs => ?_) fun e s' hs => hs
  cases fl with
  | ret u =>
    obtain ⟨v, σ', H', J', rv, q⟩ := hs
    exact fin J'.unpin rv q
  | next =>
    obtain ⟨σ', H', J', q⟩ := hs
    exact fin (v := V.non) (u := Value.none) J'.unpin rfl q
  | brk =>
    obtain ⟨_, _, _, q⟩ := hs
    exact False.elim q
  | cont =>
    obtain ⟨_, _, _, q⟩ := hs
    exact False.elim q
end
end Dv

set_option Elab.async false
set_option linter.all false
set_option maxRecDepth 100000
set_option maxHeartbeats 1000000
namespace Dv
open PySem PySem.Spec L2
open PyProof.Rows hiding St
open NdefX (NF NScope ncx envF startF CellsAt inv_startN)

/-! ### an own error made -/
def tM (K : PySem.W.Frag) (G : Sg) (W : WX) (f : Rho → Res Exn) : L2.St → Hp → XK → Prop := fun σ H Q => ∃ P ρ, Sim K G P ρ σ H ∧
  PostG K (G.N P) (G.M P) P.c W σ H (fun x H' => ∀ cls od, XRep K (G.N P) (G.M P) P.c H' cls od x → (∀ a, H a = none → H' a = none ∨ od = some a ∨ True) → Q cls od H') (f ρ)
def JM (X : Cx) (G : Sg) (W : WX) (e : Expr) (f : Rho → Res Exn) : Prop := PMk X e (tM X.K G W f)
def sRaise (f : Rho → Res Exn) : Rho → Out := fun ρ => andThen ρ (f ρ) fun x => .ex x ρ
section
variable {X : Cx} {G : Sg} {W : WX} {e : Expr} {pos : Pos}
theorem js_raise {f : Rho → Res Exn} (hc : X.calm = true) (tk : Takes X W) (he : JM X G W e f) : JS X G W (.Raise (some e) none pos) (sRaise f) := PS.imp (ps_raise hc tk he) fun Q σ H ⟨P, ρ, S, q⟩ =>
  ⟨P, ρ, S, (andThen_post S q).imp fun x H' e q cls od xr _ => q P σ H' cls od (S.same e) xr⟩
end
/-- a start with some slots known -/
def InitOk (K : PySem.W.Frag) (H : Hp) (Mx : Addr → Prop) (ι : List Addr) (σ : L2.St) (i : Nat) : Sl → Prop
  | .no => True
  | .sh d => ∃ v, σ[i]? = some (some v) ∧ flat d = true ∧ Rep K H (fun _ => False) Mx ι false v d
  | .bo d => ∃ v, σ[i]? = some (some v) ∧ Rep K H (fun _ => False) Mx ι false v d
  | _ => False
theorem sim_init {K : PySem.W.Frag} {H : Hp} {Z Mx : Addr → Prop} {ι : List Addr} {ρ : Rho} {σ : L2.St} (hE : EntOk H Z Mx ι) (hs : ρ.st = none) (hl : ρ.sl.length = σ.length)
    (h : ∀ (i : Nat) (x : Sl), ρ.sl[i]? = some x → InitOk K H Mx ι σ i x) : Sim K (Sg.of H (fun _ => False) Mx Z ι) (Pl.of ι) ρ σ H := by
  have hO : ∀ a, (Pl.of ι).own a → a ∈ ι := fun a z => z.elim (fun ⟨_, z⟩ => by cases z) id
  exact {
    base := fun a o h _ _ => h
    io := fun a z => z.elim
    iot := fun a z => z.elim
    mx := hE.m
    zx := hE.z
    inj := fun i j a h => by cases h
    ic := fun i a h => by cases h
    zo := fun i a h => by cases h
    nd := hE.nd
    cx := hE.c
    pre := fun _ _ z => z
    pc := fun _ => ⟨rfl, rfl⟩
    nw := fun a h _ => h
    im := hE.cm
    c0c := fun a h => by cases h
    own := fun i a h => by cases h
    ioc := fun a z => z.elim
    out := fun _ _ => rfl
    len := hl
    sl := fun i x hx => by
      have q := h i x hx
      cases x with
      | no => rfl
      | sh d =>
        obtain ⟨v, h1, hf, h2⟩ := q
        exact ⟨rfl, v, h1, (Rep.flat (ι' := ι) _ v hf h2).weak (N := fun _ => True) (fun _ _ => trivial) fun a z => z.elim id fun z => hE.cm a (hO a z)⟩
      | bo d =>
        obtain ⟨v, h1, h2⟩ := q
        exact ⟨rfl, v, h1, h2.weak (fun a z => z) fun a z => z.elim id False.elim⟩
      | _ => exact False.elim q
    nb := fun h => absurd rfl h
    st := fun S h => by rw [hs] at h; cases h
    gs := fun p hp => by cases hp }
/-- an __init__ that says super().__init__(e) and stores its parameters -/
theorem InitOk.slD {K : PySem.W.Frag} {H : Hp} {Mx : Addr → Prop} {ι : List Addr} {σ : L2.St} {i : Nat} {v : V} {d : D} {y : Sl} (hy : slD d = y) (hs : σ[i]? = some (some v)) (rv : Rep K H (fun _ => False) Mx ι false v d) : InitOk K H Mx ι σ i y := by
  unfold Dv.slD at hy
  by_cases hf : flat d = true
  · rw [if_pos hf] at hy; subst hy; exact ⟨v, hs, hf, rv⟩
  · rw [if_neg hf] at hy; subst hy; exact ⟨v, hs, rv⟩
def spX (C : Addr) (K : PySem.W.Frag) (fe : Rho → Res (List D)) (fn : List Str) : Sp := fun vs H Q E => ∃ (a : Addr) (as : List V) (ds : List D) (Z Mx : Addr → Prop) (ι : List Addr), vs = .ref a :: as ∧ as.length = fn.length ∧ H a = some (exo a C none) ∧ EntOk H Z Mx ι ∧ Reps K H (fun _ => False) Mx ι false as ds ∧
  (∃ x, fe ⟨.no :: (ds.map slD ++ [.no]), none⟩ = .ok [x]) ∧ ∀ (H1 : Hp) (dx : Addr), Same H H1 → H1 dx = none → dx ≠ a → Q .non (upd (upd H1 dx (exd dx ((fn.zip as).reverse))) a (exo a C (some dx)))
section
variable {P : Program} {w : World} {K : PySem.W.Frag} {mg : Str → Option Value} {base : Heap}
theorem upd_swap {H : Hp} {a b : Addr} {o u : HO} (h : a ≠ b) : upd (upd H a o) b u = upd (upd H b u) a o := by
  funext c
  unfold upd
  by_cases h1 : c = b
  · rw [if_pos h1, if_neg (fun z => h (z.symm.trans h1)), if_pos h1]
  · rw [if_neg h1]
    by_cases h2 : c = a
    · rw [if_pos h2, if_pos h2]
    · rw [if_neg h2, if_neg h2, if_neg h1]
theorem fn_sup1 {C fI cc : Addr} {F : NF} {k : Nat} {p0 p1 p2 p3 p4 q1 q2 q3 q4 : Pos} {e : Expr} {N ps : List Str} {ar : Arg} {doc pm ctv : Value} {f1 x1 : Str} {fe : Rho → Res (List D)} (T : SupTxt P K mg C fI cc F)
    (hbody : F.body = .Expr (.Call (.Attribute (.Call (.Name "super" p0) [] [] p1) "__init__" p2) [e] [] p3) p4 :: [.Assign [.Attribute (.Name "self" q1) f1 q2] (.Name x1 q3) q4])
    (hN : N = (["self", x1, "__class__"] : List Str)) (hps : ps = (["self", x1] : List Str)) (hnd : N.Nodup) (har : ar.arg = "self")
    (S : NScope N ps ["__class__"] F.scope) (hp : (F.params.posonlyargs ++ F.params.args).head? = some ar)
    (hks : F.scope.names.lookup ("super" : Str) = some .globalImplicit)
    (lk : ∃ (oc : Value) (od : Option Addr) (osl : Array (Option Value)), K.lookup fI = some ⟨oc, od, .func (F.fd doc pm ctv), osl⟩)
    (hpl : (backTo p3 (starEach [] (envF F fI 0))).any (·.1) = false)
    (hst : ∀ L, starEach [e] (envF F fI L) = [(false, eval e (envF F fI L))])
    (hev : ∀ L, eval (.Call (.Attribute (.Call (.Name "super" p0) [] [] p1) "__init__" p2) [e] [] p3) (envF F fI L) = (do
      let ov ← attributeBase (.Call (.Name "super" p0) [] [] p1) "__init__" (envF F fI L) (eval (.Call (.Name "super" p0) [] [] p1) (envF F fI L))
      standAt p2.atName
      let (f, first) ← holding [ov] (getMethod ov "__init__" (pure false))
      callWith p3 f first (backTo p3 (starEach [e] (envF F fI L))) []))
    (hd1 : (x1 == ("__debug__" : Str)) = false) (hd2 : (x1 == ("__classdict__" : Str)) = false)
    (hno : PySem.W.findIn K (.ref C) f1 = some none)
    (ha : ∀ (A : Around) (outer : List Env) (s : Shared) (H : Hp) (E : XK) (G : Sg) (W : WX), JA (ncx (L2.CX P w) P w K mg base N F fI A outer s H E) G W false [e] fe) :
    FnOk P w K mg base (L2.CX P w) (k + 1) fI (F.fd doc pm ctv) ps (spX C K fe [f1]) := by
  subst hps hN
  refine fn_sup (ps := (["self", x1] : List Str)) T hbody S hp (by rw [har]; rfl) hks (fun vs H Q E h => ?_) lk hpl hst hev fun A outer s H vs Q E hr h => ?_
  · obtain ⟨a, as, ds, Z, Mx, ι, rfl, hl, _⟩ := h
    show as.length + 1 = 2
    rw [hl]; rfl
  · obtain ⟨a, as, ds, Z, Mx, ι, rfl, hl, hHa, hm, r, ⟨x, hx⟩, hq⟩ := h
    obtain ⟨v, rfl⟩ : ∃ v, as = [v] := by
      match as, hl with
      | [v], _ => exact ⟨v, rfl⟩
    obtain ⟨d, rfl⟩ : ∃ d, ds = [d] := by
      have := r.length
      match ds, this with
      | [d], _ => exact ⟨d, rfl⟩
    obtain ⟨v', ev, rv⟩ := r.one
    cases ev
    have hself : F.scope.names.lookup ("self" : Str) = some .local := S.par _ (by simp)
    have hx1 : F.scope.names.lookup x1 = some .local := S.par _ (by simp)
    have hps : PS (ncx (L2.CX P w) P w K mg base (["self", x1, "__class__"] : List Str) F fI A outer s H E) (.Assign [.Attribute (.Name "self" q1) f1 q2] (.Name x1 q3) q4) _ :=
      ps_ost (pe_var (i := 0) rfl (.inl hself) (by decide) (by decide)) (pe_var (i := 1) rfl (.inl hx1) hd1 hd2) (by rfl)
    refine ⟨a, _, _, rfl, hHa, ha A outer s H E (Sg.of H (fun _ => False) Mx Z ι) fun _ _ _ _ => True, pss_one hps, ?_⟩
    refine ⟨Pl.of ι, ⟨.no :: ([d].map slD ++ [.no]), none⟩, sim_init hm rfl rfl fun i y hy => ?_, ?_⟩
    · match i, hy with
      | 0, hy => cases hy; trivial
      | 1, hy => exact InitOk.slD (v := v) (by simpa using hy) rfl rv
      | 2, hy =>
        have hy' : Sl.no = y := by simpa using hy
        subst hy'; trivial
      | n + 3, hy => simp at hy
    · rw [hx]
      intro H1 e1 ws rw1
      refine ⟨rw1.length, e1 _ _ hHa, ?_⟩
      exact ⟨v, rfl, _, rfl, a, C, rfl, T.ox, hno, .inl ⟨e1 _ _ hHa, fun dx n ne => hq H1 dx e1 n ne⟩⟩
/-- .. with two parameters -/
theorem fn_sup2 {C fI cc : Addr} {F : NF} {k : Nat} {p0 p1 p2 p3 p4 q1 q2 q3 q4 r1 r2 r3 r4 : Pos} {e : Expr} {N ps : List Str} {ar : Arg} {doc pm ctv : Value} {f1 x1 f2 x2 : Str} {fe : Rho → Res (List D)} (T : SupTxt P K mg C fI cc F)
    (hbody : F.body = .Expr (.Call (.Attribute (.Call (.Name "super" p0) [] [] p1) "__init__" p2) [e] [] p3) p4 :: [.Assign [.Attribute (.Name "self" q1) f1 q2] (.Name x1 q3) q4, .Assign [.Attribute (.Name "self" r1) f2 r2] (.Name x2 r3) r4])
    (hN : N = (["self", x1, x2, "__class__"] : List Str)) (hps : ps = (["self", x1, x2] : List Str)) (hnd : N.Nodup) (har : ar.arg = "self")
    (S : NScope N ps ["__class__"] F.scope) (hp : (F.params.posonlyargs ++ F.params.args).head? = some ar)
    (hks : F.scope.names.lookup ("super" : Str) = some .globalImplicit)
    (lk : ∃ (oc : Value) (od : Option Addr) (osl : Array (Option Value)), K.lookup fI = some ⟨oc, od, .func (F.fd doc pm ctv), osl⟩)
    (hpl : (backTo p3 (starEach [] (envF F fI 0))).any (·.1) = false)
    (hst : ∀ L, starEach [e] (envF F fI L) = [(false, eval e (envF F fI L))])
    (hev : ∀ L, eval (.Call (.Attribute (.Call (.Name "super" p0) [] [] p1) "__init__" p2) [e] [] p3) (envF F fI L) = (do
      let ov ← attributeBase (.Call (.Name "super" p0) [] [] p1) "__init__" (envF F fI L) (eval (.Call (.Name "super" p0) [] [] p1) (envF F fI L))
      standAt p2.atName
      let (f, first) ← holding [ov] (getMethod ov "__init__" (pure false))
      callWith p3 f first (backTo p3 (starEach [e] (envF F fI L))) []))
    (hd1 : (x1 == ("__debug__" : Str)) = false) (hd2 : (x1 == ("__classdict__" : Str)) = false) (hd3 : (x2 == ("__debug__" : Str)) = false) (hd4 : (x2 == ("__classdict__" : Str)) = false)
    (hno : PySem.W.findIn K (.ref C) f1 = some none) (hno2 : PySem.W.findIn K (.ref C) f2 = some none)
    (ha : ∀ (A : Around) (outer : List Env) (s : Shared) (H : Hp) (E : XK) (G : Sg) (W : WX), JA (ncx (L2.CX P w) P w K mg base N F fI A outer s H E) G W false [e] fe) :
    FnOk P w K mg base (L2.CX P w) (k + 1) fI (F.fd doc pm ctv) ps (spX C K fe [f1, f2]) := by
  subst hps hN
  refine fn_sup (ps := (["self", x1, x2] : List Str)) T hbody S hp (by rw [har]; rfl) hks (fun vs H Q E h => ?_) lk hpl hst hev fun A outer s H vs Q E hr h => ?_
  · obtain ⟨a, as, ds, Z, Mx, ι, rfl, hl, _⟩ := h
    show as.length + 1 = 3
    rw [hl]; rfl
  · obtain ⟨a, as, ds, Z, Mx, ι, rfl, hl, hHa, hm, r, ⟨x, hx⟩, hq⟩ := h
    obtain ⟨v, u, rfl⟩ : ∃ v u, as = [v, u] := by
      match as, hl with
      | [v, u], _ => exact ⟨v, u, rfl⟩
    obtain ⟨d, d2, rfl⟩ : ∃ d d2, ds = [d, d2] := by
      have := r.length
      match ds, this with
      | [d, d2], _ => exact ⟨d, d2, rfl⟩
    obtain ⟨v', u', ev, rv, ru⟩ := r.two
    cases ev
    have hself : F.scope.names.lookup ("self" : Str) = some .local := S.par _ (by simp)
    have hx1 : F.scope.names.lookup x1 = some .local := S.par _ (by simp)
    have hx2 : F.scope.names.lookup x2 = some .local := S.par _ (by simp)
    have hps : PS (ncx (L2.CX P w) P w K mg base (["self", x1, x2, "__class__"] : List Str) F fI A outer s H E) (.Assign [.Attribute (.Name "self" q1) f1 q2] (.Name x1 q3) q4) _ :=
      ps_ost (pe_var (i := 0) rfl (.inl hself) (by decide) (by decide)) (pe_var (i := 1) rfl (.inl hx1) hd1 hd2) (by rfl)
    have hps2 : PS (ncx (L2.CX P w) P w K mg base (["self", x1, x2, "__class__"] : List Str) F fI A outer s H E) (.Assign [.Attribute (.Name "self" r1) f2 r2] (.Name x2 r3) r4) _ :=
      ps_ost (pe_var (i := 0) rfl (.inl hself) (by decide) (by decide)) (pe_var (i := 2) rfl (.inl hx2) hd3 hd4) (by rfl)
    refine ⟨a, _, _, rfl, hHa, ha A outer s H E (Sg.of H (fun _ => False) Mx Z ι) fun _ _ _ _ => True, pss_cons hps (pss_one hps2), ?_⟩
    refine ⟨Pl.of ι, ⟨.no :: ([d, d2].map slD ++ [.no]), none⟩, sim_init hm rfl rfl fun i y hy => ?_, ?_⟩
    · match i, hy with
      | 0, hy => cases hy; trivial
      | 1, hy => exact InitOk.slD (v := v) (by simpa using hy) rfl rv
      | 2, hy => exact InitOk.slD (v := u) (by simpa using hy) rfl ru
      | 3, hy =>
        have hy' : Sl.no = y := by simpa using hy
        subst hy'; trivial
      | n + 4, hy => simp at hy
    · rw [hx]
      intro H1 e1 ws rw1
      refine ⟨rw1.length, e1 _ _ hHa, ?_⟩
      refine ⟨_, rfl, _, rfl, a, C, rfl, T.ox, hno, .inl ⟨e1 _ _ hHa, fun dx n ne => ?_⟩⟩
      refine ⟨_, rfl, _, rfl, a, C, rfl, T.ox, hno2, .inr ⟨dx, _, upd_same, by rw [upd_ne ne, upd_same], by show 1 ≤ 900; decide, ?_⟩⟩
      have e2 : upd (upd (upd H1 dx (exd dx [(f1, v)])) a (exo a C (some dx))) dx (exd dx [(f2, u), (f1, v)]) = upd (upd H1 dx (exd dx [(f2, u), (f1, v)])) a (exo a C (some dx)) := by
        rw [upd_swap (H := upd H1 dx (exd dx [(f1, v)])) (a := a) (b := dx) (Ne.symm ne), upd_upd]
      show Q .non (upd (upd (upd H1 dx (exd dx [(f1, v)])) a (exo a C (some dx))) dx (exd dx [(f2, u), (f1, v)]))
      rw [e2]
      exact hq H1 dx e1 n ne
end
section
variable {X : Cx} {G : Sg} {W : WX} {a : Expr} {es : List Expr} {fs : Rho → Res (List D)} {pos p : Pos} {x : Str} {k : Nat} {C fI : Addr} {fd : FuncData} {ps fn : List Str} {fe : Rho → Res (List D)}
def isOk1 : Res (List D) → Bool
  | .ok [_] => true
  | _ => false
def mkX (C : Addr) (fn : List Str) (fe : Rho → Res (List D)) (ds : List D) : Res Exn := if ds.length = fn.length ∧ fn.length ≤ 900 ∧ isOk1 (fe ⟨.no :: (ds.map slD ++ [.no]), none⟩) = true then .ok ⟨C, fn.reverse, ds.reverse⟩ else .stuck
theorem isOk1_of {r : Res (List D)} (h : isOk1 r = true) : ∃ x, r = .ok [x] := by
  match r, h with
  | .ok [x], _ => exact ⟨x, rfl⟩
theorem Reps.reverse {K : PySem.W.Frag} {H : Hp} {N M : Addr → Prop} {ι : List Addr} {s : Bool} : ∀ {ds : List D} {vs : List V}, Reps K H N M ι s vs ds → Reps K H N M ι s vs.reverse ds.reverse
  | [], vs, h => by cases (show vs = [] from h); exact rfl
  | d :: ds, vs, h => by
    obtain ⟨v, r, rfl, h1, h2⟩ := h
    rw [List.reverse_cons, List.reverse_cons]
    exact (Reps.reverse h2).append ⟨v, [], rfl, h1, rfl⟩
theorem jm_sup (T : OexC X.K C) (iC : PySem.W.findIn X.K (.ref C) "__init__" = some (some (.ref fI))) (tI : PySem.W.typeIn X.K (.ref fI) = some (.type "function"))
    (F1 : FnOk X.prog X.w X.K X.mg X.base (L2.CX X.prog X.w) k fI fd ps (spX C X.K fe fn)) (hr : Room (k + 1) X.A) (hb : Binds X.K fd ps []) (hg : Gl X x) (hm : X.mg x = some (.ref C)) (ha : JA X G W true (a :: es) fs)
    (hdb : (x == ("__debug__" : Str)) = false := by decide) (he : starEach (a :: es) X.env = (false, eval a X.env) :: starEach es X.env := by rfl) (hpl : (backTo pos (starEach es X.env)).any (·.1) = false := by rfl) :
    JM X G W (.Call (.Name x p) (a :: es) [] pos) (e1 fs (mkX C fn fe)) := by
  have h0 := pmk_oex (pos := pos) (p := p) T iC tI F1 hr hb .nil passL hg hm ha hdb he hpl
  intro pins s σ H Q I hq
  refine h0 pins s σ H Q I ?_
  obtain ⟨P, ρ, S, q⟩ := hq
  refine ⟨P, ρ, S, (PostG.bind q).imp fun ds H1 e1 q1 vs rs => ?_⟩
  unfold mkX at q1
  by_cases hc : ds.length = fn.length ∧ fn.length ≤ 900 ∧ isOk1 (fe ⟨.no :: (ds.map slD ++ [.no]), none⟩) = true
  · rw [if_pos hc] at q1
    obtain ⟨c1, c2, c3⟩ := hc
    have S1 := S.same e1
    refine ⟨by rw [rs.length]; omega, fun b hb => ?_⟩
    have sm : Same H1 (upd H1 b (exo b C none)) := same_new hb
    refine ⟨b, vs, ds, G.N P, G.M P, P.c, by rw [List.append_nil], by rw [rs.length, c1], upd_same, (S1.same sm).ent, (rs.relax.same sm).anyN, isOk1_of c3, fun H2 dx s2 n ne => ⟨rfl, dx, (fn.zip vs).reverse, upd_same, ?_, ?_, ?_⟩⟩
    · rw [upd_ne ne, upd_same]
    · cases z : H1 dx with
      | none => rfl
      | some o =>
        have := s2 dx o (sm _ _ z)
        rw [n] at this; cases this
    · have fin : Same H1 (upd (del (upd (upd H2 dx (exd dx ((fn.zip vs).reverse))) b (exo b C (some dx))) b) dx (.xd ((fn.zip vs).reverse))) := fun c o z => by
        have cb : c ≠ b := ne_of_none z hb
        have hz2 := s2 c o (sm _ _ z)
        have cd : c ≠ dx := ne_of_none hz2 n
        rw [upd_ne cd, del_ne cb, upd_ne cb, upd_ne cd]
        exact hz2
      refine q1 _ fin _ _ ⟨rfl, (fn.zip vs).reverse, upd_same, ?_, ?_⟩ fun _ _ => .inr (.inr trivial)
      · rw [List.map_reverse, List.map_fst_zip (by rw [rs.length, c1]; exact Nat.le_refl _)]
      · rw [List.map_reverse, List.map_snd_zip (by rw [rs.length, c1]; exact Nat.le_refl _)]
        exact (rs.reverse).same fin
  · rw [if_neg hc] at q1; exact False.elim q1
end
end Dv

set_option Elab.async false
set_option linter.all false
set_option maxRecDepth 100000
set_option maxHeartbeats 1000000
namespace Dv
open PySem PySem.Spec L2
open PyProof.Rows hiding St

/-! ### in an except suite -/
/-- what an own error's class must say -/
structure ErrC (K : PySem.W.Frag) (C : Addr) : Prop where
  cl : (PySem.W.clsIn K C).isSome = true
  ga : PySem.W.findIn K (.ref C) "__getattribute__" = some (some (.builtin "BaseException.__getattribute__"))
  gg : PySem.W.findIn K (.ref C) "__getattr__" = some none
  be : PySem.W.subIn K (.ref C) (.type "BaseException") = some true
  hd : PySem.W.hasDictIn K C = true
  ca : PySem.W.findIn K (.ref C) "__class__" = some (some (.builtin "object.__class__"))
  cn : PySem.W.specialIn K (.builtin "object.__class__") "__get__" = some (some (.builtin "getset_descriptor.__get__"))
  ct : PySem.W.takesIn K (.builtin "object.__class__") = some true
  cm : PySem.W.mroIn K C (.type "object") = some true
theorem ErrC.xf {K : PySem.W.Frag} {C : Addr} (e : ErrC K C) : XfC K C := ⟨e.ga, e.gg, e.be, e.hd⟩

section
variable {X : Cx} {G : Sg} {W : WX} {a : Addr} {oe : Obj} {cls : Value} {d : Option Addr} {pn : List (Addr × Obj)} {pos p : Pos} {n f : Str} {i : Nat}
def atX (x : Exn) (f : Str) : Res D := match (x.fn.zip x.ds).lookup f with
  | some d => .ok d
  | none => .stuck
def fX (i : Nat) (C : Addr) (f : Str) : Rho → Res D := fun ρ => match ρ.sl[i]? with
  | some (.xv x) => if x.C = C then atX x f else .stuck
  | _ => .stuck
theorem look_rep {K : PySem.W.Frag} {H : Hp} {N M : Addr → Prop} {ι : List Addr} {s : Bool} {f : Str} {d : D} : ∀ {fs : List (Str × V)} {fn : List Str} {ds : List D}, fs.map (·.1) = fn → Reps K H N M ι s (fs.map (·.2)) ds → (fn.zip ds).lookup f = some d → ∃ v, fs.lookup f = some v ∧ Rep K H N M ι s v d
  | [], fn, ds, e, r, l => by
    subst e
    simp [List.lookup] at l
  | (g, v) :: fs, fn, ds, e, r, l => by
    subst e
    cases ds with
    | nil => cases (show List.map (·.2) ((g, v) :: fs) = [] from r)
    | cons d' ds =>
      obtain ⟨v', r', e', h1, h2⟩ := r
      cases e'
      by_cases hf : f = g
      · subst hf
        have l' : List.lookup f ((f, d') :: ((fs.map (·.1)).zip ds)) = some d := l
        simp only [List.lookup, beq_self_eq_true] at l' ⊢
        cases l'
        exact ⟨v, rfl, h1⟩
      · have hb : (f == g) = false := by simpa using hf
        have l' : List.lookup f ((g, d') :: ((fs.map (·.1)).zip ds)) = some d := l
        simp only [List.lookup, hb] at l' ⊢
        exact look_rep (fn := fs.map (·.1)) (ds := ds) rfl h2 l'
theorem je_xf {C : Addr} (hG : G.ea = some (a, cls, d)) (T : ErrC X.K C) (hno : PySem.W.findIn X.K (.ref C) f = some none) (hz : Zc cls d oe) (hf : ∃ vs, oe.data = .fields vs) (hx : PE (X.suite a ((a, oe) :: pn)) (.Name n p) (tVar i)) :
    JE (X.suite a ((a, oe) :: pn)) G W true (.Attribute (.Name n p) f pos) (fX i C f) := PE.imp (pe_xf T.xf hno hz hf hx) fun σ H Q ⟨P, ρ, S, q⟩ => by
  unfold fX at q
  cases e : ρ.sl[i]? with
  | none => rw [e] at q; exact False.elim q
  | some z =>
    rw [e] at q
    cases z with
    | xv x =>
      dsimp only at q
      by_cases hC : x.C = C
      · rw [if_pos hC] at q
        obtain ⟨_, a', cls', od, h1, h2, h3, h4⟩ := S.sl i _ e
        rw [hG] at h1; cases h1
        unfold atX at q
        cases el : (x.fn.zip x.ds).lookup f with
        | none => rw [el] at q; exact False.elim q
        | some dd =>
          rw [el] at q
          refine ⟨_, h2, rfl, by rw [h3, hC], ?_⟩
          cases d with
          | none =>
            obtain ⟨e1, e2⟩ := h4
            rw [e1] at el
            simp [List.lookup] at el
          | some d0 =>
            obtain ⟨fs, q1, q2, q3⟩ := h4
            obtain ⟨v, l1, l2⟩ := look_rep q2 q3 el
            exact ⟨d0, fs, v, rfl, q1, l1, q.now v l2⟩
      · rw [if_neg hC] at q; exact False.elim q
    | _ => exact False.elim q
/-- isinstance(e, C') -/
def isX (i : Nat) (t : Addr → Option Bool) : Rho → Res D := fun ρ => match ρ.sl[i]? with
  | some (.xv x) => match t x.C with
    | some b => .ok (.bl b)
    | none => .stuck
  | _ => .stuck
theorem je_isE {p2 : Pos} {c : Expr} {vc : V} {cv : Value} {t : Addr → Option Bool} {s : Bool} (hG : G.ea = some (a, cls, d)) (hz : Zc cls d oe) (hf : ∃ vs, oe.data = .fields vs) (hx : PE (X.suite a ((a, oe) :: pn)) (.Name n p) (tVar i)) (hc : PE (X.suite a ((a, oe) :: pn)) c (tC vc))
    (hcv : ∀ u, RelV vc u → u = cv) (ht : ∀ C b, t C = some b → ErrC X.K C ∧ PySem.W.kitOne X.K (.ref C) cv = some b) (hg : Gl X "isinstance") (hm : X.mg "isinstance" = none)
    (hst : starEach [.Name n p, c] X.env = (false, eval (.Name n p) X.env) :: starEach [c] X.env := by rfl) (hst2 : starEach [c] X.env = (false, eval c X.env) :: starEach [] X.env := by rfl) (hpl : (backTo pos (starEach [c] X.env)).any (·.1) = false := by rfl) :
    JE (X.suite a ((a, oe) :: pn)) G W s (.Call (.Name "isinstance" p2) [.Name n p, c] [] pos) (isX i t) := by
  have cr : CallR (X.suite a ((a, oe) :: pn)) (.builtin "isinstance") (fun xs H Q => ∃ (C : Addr) (b : Bool) (fs : List (Str × V)), xs = [.ref a, vc] ∧ cls = .ref C ∧ (∀ dd, d = some dd → H dd = some (.xd fs)) ∧ ErrC X.K C ∧ PySem.W.kitOne X.K (.ref C) cv = some b ∧ Q (.bl b) H) := by
    intro pins s σ H xs us Q I r h
    obtain ⟨C, b, fs, rfl, rfl, hd, T, e, q⟩ := h
    cases r with
    | cons rx rr =>
      cases rr with
      | cons rt rr =>
        cases rr
        cases rx
        have ec := hcv _ rt
        subst ec
        obtain ⟨hget, _⟩ := I.pin (a, oe) (List.mem_append.mpr (.inl List.mem_cons_self))
        obtain ⟨vs, hv⟩ := hf
        have nc : PySem.W.notCls oe = true := by unfold PySem.W.notCls; rw [hv] <;> rfl
        have fin : ∀ tk, EP (X.suite a ((a, oe) :: pn)) pins σ Q (.bool b) { s with toks := tk } := fun tk => ⟨.bl b, H, I.kept (t' := tk) fun _ _ z => z, rfl, q⟩
        cases hdd : d with
        | none =>
          rw [hdd] at hz
          have J : PySem.W.InstAt s.heap a oe C none := ⟨hget, hz.1, nc, by rw [hz.2]; trivial⟩
          exact PySem.W.kia_one (PySem.W.kitx_exc T.cl T.ga T.gg T.be T.ca T.cn T.ct T.cm) I.kIn J e (fun z => nomatch z) fin
        | some dd =>
          rw [hdd] at hz
          have hx : ObjOk X.prog X.w H s.heap dd (.xd fs) := I.hok dd _ (hd dd hdd)
          obtain ⟨mA, hns, hr⟩ := hx
          obtain ⟨od, ho, hl⟩ := lookIn_ns hns
          have J : PySem.W.InstAt s.heap a oe C (some od) := ⟨hget, hz.1, nc, by rw [hz.2]; exact ho⟩
          exact PySem.W.kia_one (PySem.W.kitx_exc T.cl T.ga T.gg T.be T.ca T.cn T.ct T.cm) I.kIn J e (fun z => nomatch z) fin
  refine PE.imp (pe_callB (X := X.suite a ((a, oe) :: pn)) (p := p2) (pos := pos) cr hg hm (by decide +kernel) (pa_cons hx (pa_cons hc pa_nil hst2) hst) (by decide) (by decide) hst hpl) fun σ H Q ⟨P, ρ, S, q⟩ => ?_
  unfold isX at q
  cases e : ρ.sl[i]? with
  | none => rw [e] at q; exact False.elim q
  | some z =>
    rw [e] at q
    cases z with
    | xv x =>
      dsimp only at q
      obtain ⟨_, a', cls', od, h1, h2, h3, h4⟩ := S.sl i _ e
      rw [hG] at h1; cases h1
      cases et : t x.C with
      | none => rw [et] at q; exact False.elim q
      | some b =>
        rw [et] at q
        obtain ⟨T, hk⟩ := ht _ _ et
        refine ⟨_, h2, x.C, b, ?_⟩
        cases d with
        | none => exact ⟨[], rfl, h3, (fun dd z => by cases z), T, hk, q.now _ rfl⟩
        | some d0 =>
          obtain ⟨fs, q1, q2, q3⟩ := h4
          exact ⟨fs, rfl, h3, (fun dd z => by cases z; exact q1), T, hk, q.now _ rfl⟩
    | _ => exact False.elim q
end

/-! ### try .. except X as n -/
def clrX : Sl → Sl
  | .xv _ => .no
  | s => s
def offX (i : Nat) (ρ : Rho) : Rho := ⟨(ρ.sl.set i .no).map clrX, ρ.st⟩
def afterX (i : Nat) : Out → Out
  | .nx ρ => .nx (offX i ρ)
  | .bk ρ => .bk (offX i ρ)
  | .ct ρ => .ct (offX i ρ)
  | .rt d ρ => .rt d (offX i ρ)
  | .ex _ _ => .stuck
  | .stuck => .stuck
def catchO (cm : Addr → Option Bool) (i : Nat) (gh : Rho → Out) : Out → Out
  | .ex x ρ => match cm x.C with
    | some true => afterX i (gh (ρ.set i (.xv x)))
    | some false => .ex x ρ
    | none => .stuck
  | o => o
def sTry (cm : Addr → Option Bool) (i : Nat) (gb gh : Rho → Out) : Rho → Out := fun ρ => catchO cm i gh (gb ρ)
section
variable {K : PySem.W.Frag} {G : Sg} {P : Pl} {ρ : Rho} {σ : L2.St} {H : Hp}
def Sg.ex (G : Sg) (e : Addr × Value × Option Addr) : Sg := { G with ea := some e }
/-- the slots stand under other words of the frame: i is set anew -/
theorem Sim.reset {e' : Option (Addr × Value × Option Addr)} (S : Sim K G P ρ σ H) (i : Nat) {ρ' : Rho} {o : Option V} (hl : ρ'.sl.length = ρ.sl.length) (hst : ρ'.st = ρ.st)
    (hs : ∀ j x', ρ'.sl[j]? = some x' → (j = i ∧ SlOk K { G with ea := e' } (P.put i none) (σ.set i o) H i x' ∧ ∀ d, x' ≠ .bo d) ∨ (j ≠ i ∧ (x' = .no ∧ P j = none ∨ ∃ x, ρ.sl[j]? = some x ∧ x' = x ∧ ∀ y, x ≠ .xv y))) : Sim K { G with ea := e' } (P.put i none) ρ' (σ.set i o) H where
  base := S.base
  io := S.io
  iot := S.iot
  mx := S.mx
  zx := S.zx
  inj j k a h1 h2 := by
    by_cases e1 : j = i
    · rw [e1, Pl.put_self] at h1; cases h1
    · by_cases e2 : k = i
      · rw [e2, Pl.put_self] at h2; cases h2
      · rw [Pl.put_ne e1] at h1; rw [Pl.put_ne e2] at h2; exact S.inj j k a h1 h2
  ic j a h1 := by
    by_cases e1 : j = i
    · rw [e1, Pl.put_self] at h1; cases h1
    · rw [Pl.put_ne e1] at h1; exact S.ic j a h1
  zo j a h1 := by
    by_cases e1 : j = i
    · rw [e1, Pl.put_self] at h1; cases h1
    · rw [Pl.put_ne e1] at h1; exact S.zo j a h1
  nd := S.nd
  cx := S.cx
  pre := S.pre
  pc := S.pc
  nw := S.nw
  im := S.im
  c0c := S.c0c
  own j a h1 h2 := by
    by_cases e1 : j = i
    · rw [e1, Pl.put_self] at h1; cases h1
    · rw [Pl.put_ne e1] at h1; exact S.own j a h1 h2
  ioc := S.ioc
  out j hj := by
    by_cases e1 : j = i
    · rw [e1, Pl.put_self]
    · rw [Pl.put_ne e1]; exact S.out j (by rw [← hl]; exact hj)
  len := by rw [hl, S.len, List.length_set]
  sl j x hx := by
    rcases hs j x hx with ⟨e1, h, _⟩ | ⟨e1, h | ⟨y, h1, h2, h3⟩⟩
    · subst e1; exact h
    · obtain ⟨h1, h2⟩ := h
      subst h1
      exact (Pl.put_ne e1).trans h2
    · subst h2
      have q := SlOk.moved (P' := P.put i none) (σ' := σ.set i o) (Same.refl H) Pl.put_none (Pl.put_ne e1) (set_other e1) (S.sl j _ h1)
      cases x with
      | xv z => exact absurd rfl (h3 z)
      | _ => exact q
  nb hc j d h := by
    rcases hs j _ h with ⟨e1, _, hb⟩ | ⟨e1, h | ⟨y, h1, h2, h3⟩⟩
    · exact hb d rfl
    · cases h.1
    · rw [← h2] at h1; exact S.nb hc j d h1
  st Q h := by
    have z := (S.st Q (by rw [← hst]; exact h)).moved (Same.refl H) (P' := P.put i none) Pl.put_none rfl
    obtain ⟨h1, h2, h3, h4⟩ := z
    exact ⟨h1, h2, h3, fun n c a e1 e2 => by
      have w := h4 n c a e1 e2
      cases c <;> exact w⟩
  gs p hp := (S.gs p hp).putN
theorem Sim.setXv (S : Sim K G P ρ σ H) {i : Nat} (hi : i < ρ.sl.length) (hx : ∀ (j : Nat) (y : Exn), ρ.sl[j]? ≠ some (Sl.xv y)) {a : Addr} {cls : Value} {od : Option Addr} {x : Exn} (r : XRep K (G.N P) (G.M P) P.c H cls od x) :
    Sim K (G.ex (a, cls, od)) (P.put i none) (ρ.set i (.xv x)) (σ.set i (some (.ref a))) H := by
  refine Sim.reset (e' := some (a, cls, od)) S i (List.length_set) rfl fun j x' h => ?_
  rcases get_set h with ⟨e1, e2, e3⟩ | ⟨e1, e2⟩
  · subst e1 e3
    exact .inl ⟨rfl, ⟨Pl.put_self, a, cls, od, rfl, List.getElem?_set_self (by rw [← S.len]; exact hi), r.moved (Same.refl H) (Pl.put_none.nn (G := G)) (Pl.put_none.mm (G := G))⟩, fun d z => by cases z⟩
  · exact .inr ⟨e1, .inr ⟨x', e2, rfl, fun y z => hx j y (by rw [e2, z])⟩⟩
theorem Sim.off {e : Addr × Value × Option Addr} (S : Sim K (G.ex e) P ρ σ H) (i : Nat) : Sim K G (P.put i none) (offX i ρ) (σ.set i none) H := by
  refine Sim.reset (G := G.ex e) (e' := G.ea) (ρ := ρ) (ρ' := offX i ρ) S i (by unfold offX; simp) rfl fun j x' h => ?_
  unfold offX at h
  have h : ((ρ.sl.set i .no).map clrX)[j]? = some x' := h
  rw [List.getElem?_map] at h
  cases e0 : (ρ.sl.set i .no)[j]? with
  | none => rw [e0] at h; cases h
  | some y =>
    rw [e0] at h
    have hx : clrX y = x' := by simpa using h
    rcases get_set e0 with ⟨e1, e2, e3⟩ | ⟨e1, e2⟩
    · subst e1 e3
      subst hx
      exact .inl ⟨rfl, Pl.put_self, fun d z => by cases z⟩
    · refine .inr ⟨e1, ?_⟩
      have q := S.sl j y e2
      cases y with
      | xv z => subst hx; exact .inl ⟨rfl, q.1⟩
      | no => subst hx; exact .inr ⟨_, e2, rfl, fun y z => by cases z⟩
      | sh d => subst hx; exact .inr ⟨_, e2, rfl, fun y z => by cases z⟩
      | bo d => subst hx; exact .inr ⟨_, e2, rfl, fun y z => by cases z⟩
      | ow d => subst hx; exact .inr ⟨_, e2, rfl, fun y z => by cases z⟩
      | oi C fn d => subst hx; exact .inr ⟨_, e2, rfl, fun y z => by cases z⟩
end
def noX : Rho → Bool := fun ρ => ρ.sl.all fun | .xv _ => false | _ => true
theorem noX_of {ρ : Rho} (h : noX ρ = true) (j : Nat) (y : Exn) : ρ.sl[j]? ≠ some (.xv y) := fun e => by
  have := List.all_eq_true.mp h _ (List.mem_of_getElem? e)
  cases this
section
variable {X : Cx} {G : Sg} {Wout : WX} {x n : Str} {c : Value} {i : Nat} {body suite : List Stmt} {b₀ : Stmt} {np pos pos' : Pos} {gb gh : Rho → Out} {cm : Addr → Option Bool}
def ckTry (i : Nat) (gb : Rho → Out) : Rho → Out := fun ρ => match gb ρ with
  | .ex x ρ' => if i < ρ'.sl.length ∧ noX ρ' = true then .ex x ρ' else .stuck
  | o => o
theorem js_try_as (hs : X.stack = X.env :: X.outer) (hf : X.env.frame = some X.env.locals) (hN : X.N.Nodup) (hi : X.N[i]? = some n) (hln : X.env.kindOf n = some .local) (hc : Names X x c) (tk : Takes X Wout)
    (hcm : ∀ C b, cm C = some b → PySem.W.exmOne X.K (.ref C) c = some b)
    (hb : ∀ (W : WX) (pn : List (Addr × Obj)) (xe : Value → Shared → Prop), Takes (X.tr pn xe) W → PassesOwn (model X.prog X.w) X.A X.env xe → JB (X.tr pn xe) G W body gb)
    (hsu : ∀ (G' : Sg) (a : Addr) (oe : Obj) (cls : Value) (d : Option Addr) (pn : List (Addr × Obj)), G'.ea = some (a, cls, d) → Zc cls d oe → (∃ vs, oe.data = .fields vs) → JB (X.suite a ((a, oe) :: pn)) G' (fun _ _ _ _ => False) (b₀ :: suite) gh) :
    JS X G Wout (.Try body [.ExceptHandler (some (.Name x np)) (some n) (b₀ :: suite) pos'] [] [] pos) (sTry cm i (ckTry i gb) gh) := by
  refine PS.imp (ps_try_as (tb := fun W => tS X.K G W gb) (ts := fun a cls d => tS X.K (G.ex (a, cls, d)) (fun _ _ _ _ => False) gh) (Wout := Wout) hs hf hN hi hln hc tk hb
    (fun a oe cls d pn hz hd => hsu (G.ex (a, cls, d)) a oe cls d pn rfl hz hd)) fun Q σ H ⟨P, ρ, S, q⟩ => ⟨P, ρ, S, ?_⟩
  have q' : PostS X.K G Wout Q (catchO cm i gh (ckTry i gb ρ)) := q
  unfold ckTry at q'
  cases eo : gb ρ with
  | nx ρ' => rw [eo] at q'; exact q'
  | rt d ρ' => rw [eo] at q'; exact q'
  | bk ρ' => rw [eo] at q'; exact q'
  | ct ρ' => rw [eo] at q'; exact q'
  | stuck => rw [eo] at q'; exact q'
  | ex xx ρ' =>
    rw [eo] at q'
    dsimp only at q'
    by_cases hck : i < ρ'.sl.length ∧ noX ρ' = true
    · rw [if_pos hck] at q'
      have q2 : PostS X.K G Wout Q (match cm xx.C with
        | some true => afterX i (gh (ρ'.set i (.xv xx)))
        | some false => .ex xx ρ'
        | none => .stuck) := q'
      intro P1 σ1 H1 cls od S1 xr
      have ecls := xr.1
      cases ec : cm xx.C with
      | none => rw [ec] at q2; exact False.elim q2
      | some b =>
        rw [ec] at q2
        refine ⟨b, by rw [ecls]; exact hcm _ _ ec, fun hbt a ha => ?_, fun hbf => ?_⟩
        · subst hbt
          dsimp only at q2
          refine ⟨P1.put i none, _, S1.setXv (a := a) hck.1 (noX_of hck.2) xr, ?_⟩
          cases eh : gh (ρ'.set i (.xv xx)) with
          | nx ρ2 => rw [eh] at q2; exact fun P2 σ2 H2 S2 => q2 _ _ H2 (S2.off i)
          | bk ρ2 => rw [eh] at q2; exact fun P2 σ2 H2 S2 => q2 _ _ H2 (S2.off i)
          | ct ρ2 => rw [eh] at q2; exact fun P2 σ2 H2 S2 => q2 _ _ H2 (S2.off i)
          | rt d ρ2 => rw [eh] at q2; exact fun P2 σ2 H2 v S2 r => q2 _ _ H2 v (S2.off i) r
          | ex y ρ2 => rw [eh] at q2; exact False.elim q2
          | stuck => rw [eh] at q2; exact False.elim q2
        · subst hbf
          exact q2 P1 σ1 H1 cls od S1 xr
    · rw [if_neg hck] at q'
      exact False.elim q'
end
end Dv

set_option Elab.async false
set_option linter.all false
set_option maxRecDepth 100000
set_option maxHeartbeats 1000000
namespace Dv
open PySem PySem.Spec L2
open PyProof.Rows hiding St

/-! ### a def's own function: its body run -/
def outR : Out → Res D
  | .nx _ => .ok .non
  | .rt d _ => .ok d
  | .ex x _ => .exc x
  | _ => .stuck
def runD (fs : List Bool) (m : Nat) (den : Rho → Out) (ds : List D) : Res D := outR (den (entryS fs m ds))
theorem runD_ok (fs : List Bool) (m : Nat) (den : Rho → Out) (ds : List D) : runD fs m den ds = .stuck ∨ Meets (den (entryS fs m ds)) (runD fs m den ds) := by
  unfold runD
  cases den (entryS fs m ds) with
  | nx ρ => exact .inr rfl
  | rt d ρ => exact .inr rfl
  | ex x ρ => exact .inr rfl
  | bk ρ => exact .inl rfl
  | ct ρ => exact .inl rfl
  | stuck => exact .inl rfl
/-! ### tables of classes -/
def lookT : List (Addr × Bool) → Addr → Option Bool
  | [], _ => none
  | (a, b) :: r, C => if C = a then some b else lookT r C
theorem lookT_nil {P : Addr → Bool → Prop} : ∀ C b, lookT [] C = some b → P C b := fun C b h => by cases h
theorem lookT_cons {P : Addr → Bool → Prop} {a : Addr} {b : Bool} {r : List (Addr × Bool)} (h : P a b) (t : ∀ C b, lookT r C = some b → P C b) : ∀ C b', lookT ((a, b) :: r) C = some b' → P C b' := fun C b' e => by
  unfold lookT at e
  by_cases c : C = a
  · rw [if_pos c] at e
    cases e
    rw [c]; exact h
  · rw [if_neg c] at e; exact t C b' e
section
variable {X : Cx} {G : Sg} {W : WX} {s s' : Bool} {e a b : Expr} {es : List Expr} {f g : Rho → Res D} {fs : Rho → Res (List D)} {pos p : Pos} {x : Str}
theorem je_len (hg : Gl X "len") (hm : X.mg "len" = none) (ha : JA X G W s [a] fs) (he : starEach [a] X.env = (false, eval a X.env) :: starEach [] X.env := by rfl) (hpl : (backTo pos (starEach [] X.env)).any (·.1) = false := by rfl) :
    JE X G W s' (.Call (.Name "len" p) [a] [] pos) (e1 fs lenK) := je_callB call_len cas_len hg hm (by decide +kernel) ha (by decide) (by decide) he hpl
theorem je_abs (hg : Gl X "abs") (hm : X.mg "abs" = none) (ha : JA X G W s [a] fs) (he : starEach [a] X.env = (false, eval a X.env) :: starEach [] X.env := by rfl) (hpl : (backTo pos (starEach [] X.env)).any (·.1) = false := by rfl) :
    JE X G W s' (.Call (.Name "abs" p) [a] [] pos) (e1 fs absK) := je_callB call_abs cas_abs hg hm (by decide +kernel) ha (by decide) (by decide) he hpl
theorem je_toInt (hg : Gl X "int") (hm : X.mg "int" = none) (ha : JA X G W s [a] fs) (he : starEach [a] X.env = (false, eval a X.env) :: starEach [] X.env := by rfl) (hpl : (backTo pos (starEach [] X.env)).any (·.1) = false := by rfl) :
    JE X G W s' (.Call (.Name "int" p) [a] [] pos) (e1 fs intK) := je_callTy call_int1 cas_int hg hm (by decide +kernel) ha (by decide) (by decide) he hpl
theorem je_isi (hg : Gl X "isinstance") (hm : X.mg "isinstance" = none) (ha : JA X G W s [a, b] fs) (he : starEach [a, b] X.env = (false, eval a X.env) :: starEach [b] X.env := by rfl) (hpl : (backTo pos (starEach [b] X.env)).any (·.1) = false := by rfl) :
    JE X G W s' (.Call (.Name "isinstance" p) [a, b] [] pos) (e1 fs isiK) := je_callB call_isi cas_isi hg hm (by decide +kernel) ha (by decide) (by decide) he hpl
theorem js_append {apos cpos pos' : Pos} (i : Nat) (hx : PE X (.Name x pos') (tVar i)) (ha : JA X G W true [a] fs) (hb : attributeBase (.Name x pos') "append" X.env (eval (.Name x pos') X.env) = eval (.Name x pos') X.env := by rfl)
    (hl : (apos.endLine == cpos.line) = true := by rfl) (hfew : ((backTo cpos (starEach [a] X.env)).all (!·.1) && (backToKw cpos (keywordEach [] X.env)).all (·.1.isSome) && decide (([a] : List Expr).length + ([] : List Keyword).length + (if ([] : List Keyword).isEmpty then 0 else 1) < 30)) = true := by rfl) (hst : starEach [a] X.env = (false, eval a X.env) :: starEach [] X.env := by rfl) (hpl : (backTo cpos (starEach [] X.env)).any (·.1) = false := by rfl)
    (hs : swapsWith (.Call (.Attribute (.Name x pos') "append" apos) [a] [] cpos) none pos.line X.env = pure false := by rfl) :
    JS X G W (.Expr (.Call (.Attribute (.Name x pos') "append" apos) [a] [] cpos) pos) (sMut i fs appK) :=
  js_mut (fun to ta ho h => pe_bm PySem.F.plainAttrs_list PySem.F.slot_list_append PySem.F.type_list_append mt_append ho h (hbase := hb) (hline := hl) (hfew := hfew) (hs := hst) (hplain := hpl)) mts_append i hx ha hs
end
/-- the law's own promise -/
theorem CX_none {P : Program} {w : World} {H : Hp} {s : Shared} {e : Value} {s' : Shared} (h : L2.CX P w [] H s (fun _ _ _ => False) e s') : False := by
  obtain ⟨_, _, _, _, _, _, _, _, _, _, _, _, z⟩ := h
  exact z
theorem law_sp {K : PySem.W.Frag} {F : List D → Res D} {n : Nat} (h : ∀ ns : List Int, ns.length ≤ n → F [.lst (ns.map .int)] = .ok (.bl true)) (H : Hp) (a : Addr) (ns : List Int) (hl : ns.length ≤ n) (hO : Only H) (hS : SqL K H a (ns.map V.int)) :
    spD K [false] F [.ref a] H (fun v _ => v = .bl true) fun _ _ _ => False := by
  refine ⟨[.lst (ns.map .int)], fun _ => False, fun _ => False, [], ⟨fun a z => z.elim, fun a z => z.elim, List.nodup_nil, fun _ z => (List.not_mem_nil z).elim, fun _ z => (List.not_mem_nil z).elim, fun _ z => (List.not_mem_nil z).elim⟩, ?_, ?_⟩
  · refine ⟨.ref a, [], .lst (ns.map .int), [], rfl, rfl, ⟨a, ns.map V.int, rfl, fun z => (by cases z), hS, ?_⟩, rfl, rfl⟩
    clear hS hl
    induction ns with
    | nil => exact rfl
    | cons n ns ih => exact ⟨.int n, ns.map V.int, rfl, rfl, ih⟩
  · rw [h ns hl]
    intro H' e v r
    exact r
end Dv

set_option Elab.async false
set_option linter.all false
set_option maxRecDepth 100000
set_option maxHeartbeats 1000000
namespace Dv
open PySem PySem.Spec L2
open PyProof.Rows hiding St

/-! ### the functions at their arguments -/
section
variable {α β : Type} {ρ : Rho} {f g h : Rho → Res D} {fs : Rho → Res (List D)}
@[simp] theorem e1_at (f : Rho → Res α) (k : α → Res β) : e1 f k ρ = (f ρ).bind k := rfl
@[simp] theorem e2_at (k : D → D → Res α) : e2 f g k ρ = (f ρ).bind fun x => (g ρ).bind fun y => k x y := rfl
@[simp] theorem e3c_at (k k' : D → D → Res Bool) : e3c f g h k k' ρ = (f ρ).bind fun x => (g ρ).bind fun y => (k x y).bind fun t => if t = true then (h ρ).bind fun z => k' y z else .ok false := rfl
@[simp] theorem cD_at (d : D) : cD d ρ = .ok d := rfl
@[simp] theorem aNil_at : aNil ρ = .ok [] := rfl
@[simp] theorem aCons_at : aCons f fs ρ = (f ρ).bind fun x => (fs ρ).bind fun xs => .ok (x :: xs) := rfl
@[simp] theorem eTup_at : eTup fs ρ = (fs ρ).bind fun ds => ckLen ds.length (.ok (.tup ds)) := rfl
@[simp] theorem eLst_at : eLst fs ρ = (fs ρ).bind fun ds => ckLen ds.length (.ok ds) := rfl
@[simp] theorem toL_at : toL fs ρ = (fs ρ).bind fun ds => .ok (.lst ds) := rfl
@[simp] theorem vS_at (i : Nat) : vS i ρ = match ρ.sl[i]? with | some (.sh d) => .ok d | _ => .stuck := rfl
@[simp] theorem vB_at (i : Nat) : vB i ρ = match ρ.sl[i]? with | some (.sh d) => .ok d | some (.bo d) => .ok d | some (.ow ds) => .ok (.lst ds) | _ => .stuck := rfl
@[simp] theorem eAnd_at (f g : Rho → Res Bool) : eAnd f g ρ = (f ρ).bind fun t => if t = true then g ρ else .ok false := rfl
@[simp] theorem eOr_at (f g : Rho → Res Bool) : eOr f g ρ = (f ρ).bind fun t => if t = true then .ok true else g ρ := rfl
@[simp] theorem eNot_at (f : Rho → Res Bool) : eNot f ρ = (f ρ).bind fun t => .ok (!t) := rfl
@[simp] theorem vAnd_at : vAnd f g ρ = ((f ρ).bind asBl).bind fun t => if t = true then g ρ else .ok (.bl false) := rfl
@[simp] theorem vOr_at : vOr f g ρ = ((f ρ).bind asBl).bind fun t => if t = true then .ok (.bl true) else g ρ := rfl
@[simp] theorem vNot_at : vNot f ρ = ((f ρ).bind asBl).bind fun t => .ok (.bl (!t)) := rfl
@[simp] theorem eIf_at (p : Rho → Res Bool) : eIf p f g ρ = (p ρ).bind fun t => if t = true then f ρ else g ρ := rfl
@[simp] theorem eSl_at (l u : Rho → Res (Option Int)) (k : Option Int → Option Int → D → Res α) : eSl f l u k ρ = (f ρ).bind fun x => (l ρ).bind fun lo => (u ρ).bind fun hi => k lo hi x := rfl
@[simp] theorem asBl_bl (b : Bool) : asBl (.bl b) = .ok b := rfl
@[simp] theorem asInt_int (b : Int) : asInt (.int b) = .ok b := rfl
@[simp] theorem asLst_lst (b : List D) : asLst (.lst b) = .ok b := rfl
@[simp] theorem addD_int (i j : Int) : addD (.int i) (.int j) = .ok (.int (i + j)) := rfl
@[simp] theorem subD_int (i j : Int) : subD (.int i) (.int j) = .ok (.int (i - j)) := rfl
@[simp] theorem negD_int (i : Int) : negD (.int i) = .ok (.int (-i)) := rfl
@[simp] theorem ltB_int (i j : Int) : ltB (.int i) (.int j) = .ok (decide (i < j)) := rfl
@[simp] theorem leB_int (i j : Int) : leB (.int i) (.int j) = .ok (decide (i ≤ j)) := rfl
@[simp] theorem gtB_int (i j : Int) : gtB (.int i) (.int j) = .ok (decide (j < i)) := rfl
@[simp] theorem geB_int (i j : Int) : geB (.int i) (.int j) = .ok (decide (j ≤ i)) := rfl
@[simp] theorem eqB_int (i j : Int) : eqB (.int i) (.int j) = .ok (decide (i = j)) := rfl
@[simp] theorem neB_int (i j : Int) : neB (.int i) (.int j) = .ok (!decide (i = j)) := rfl
@[simp] theorem eqB_str (i j : Str) : eqB (.str i) (.str j) = .ok (decide (i = j)) := rfl
@[simp] theorem neB_str (i j : Str) : neB (.str i) (.str j) = .ok (!decide (i = j)) := rfl
@[simp] theorem intK_int (i : Int) : intK [.int i] = .ok (.int i) := rfl
@[simp] theorem absK_int (i : Int) : absK [.int i] = .ok (.int (if i < 0 then -i else i)) := rfl
theorem absN (a : Int) : absK [.int a] = .ok (.int (a.natAbs : Int)) := by
  rw [absK_int]
  by_cases h : a < 0
  · rw [if_pos h]; congr 2; omega
  · rw [if_neg h]; congr 2; omega
theorem mulD_int {i j : Int} (h : MulOk i j) : mulD (.int i) (.int j) = .ok (.int (i * j)) := if_pos h
theorem mulOk_l {i j : Int} (h1 : -18446744073709551616 < i) (h2 : i < 18446744073709551616) : MulOk i j := .inl (by omega)
theorem mulOk_r {i j : Int} (h1 : -18446744073709551616 < j) (h2 : j < 18446744073709551616) : MulOk i j := .inr (.inl (by omega))
theorem log2_lt {n k : Nat} (h : n < 2 ^ k) (hk : 0 < k) : n.log2 < k := by
  by_cases h0 : n = 0
  · subst h0; simpa using hk
  · exact (Nat.log2_lt h0).mpr h
theorem mulOk_w {i j : Int} (h1 : i.natAbs < 2 ^ 400000) (h2 : j.natAbs < 2 ^ 400000) : MulOk i j := .inr (.inr (by
  have a := log2_lt h1 (by decide)
  have b := log2_lt h2 (by decide)
  show i.natAbs.log2 + j.natAbs.log2 < 1000000
  omega))
theorem modD_int {i j : Int} (h : 0 < j) : modD (.int i) (.int j) = .ok (.int (i % j)) := if_pos h
theorem fdivD_int {i j : Int} (h : 0 < j) (h2 : j.natAbs < 2 ^ 8000) : fdivD (.int i) (.int j) = .ok (.int (i / j)) := if_pos ⟨h, Nat.lt_of_lt_of_le (log2_lt h2 (by decide)) (by decide)⟩
@[simp] theorem lenK_lst {ds : List D} : lenK [.lst ds] = .ok (.int ds.length) := rfl
@[simp] theorem lenK_tup {ds : List D} : lenK [.tup ds] = .ok (.int ds.length) := rfl
theorem ckLen_ok {n : Nat} {r : Res α} (h : n ≤ 16777216) : ckLen n r = r := if_pos h
/-! statements -/
@[simp] theorem sSeq_at (f g : Rho → Out) : sSeq f g ρ = andS (f ρ) g := rfl
@[simp] theorem sNil_at : sNil ρ = .nx ρ := rfl
@[simp] theorem sRet_at : sRet f ρ = andThen ρ (f ρ) fun d => if isLst d = true then .stuck else .rt d ρ := rfl
@[simp] theorem sRetN_at : sRetN fs ρ = andThen ρ (fs ρ) fun ds => .rt (.lst ds) ρ := rfl
@[simp] theorem sRetNone_at : sRetNone ρ = .rt .non ρ := rfl
@[simp] theorem sIf_at (p : Rho → Res Bool) (g h : Rho → Out) : sIf p g h ρ = andThen ρ (p ρ) fun t => if t = true then g ρ else h ρ := rfl
@[simp] theorem sSet_at (i : Nat) : sSet i f ρ = andThen ρ (f ρ) fun d => .nx (ρ.set i (.sh d)) := rfl
@[simp] theorem sSetN_at (i : Nat) : sSetN i fs ρ = andThen ρ (fs ρ) fun ds => if i < ρ.sl.length then .nx (ρ.set i (.ow ds)) else .stuck := rfl
@[simp] theorem sExpr_at (f : Rho → Res α) : sExpr f ρ = andThen ρ (f ρ) fun _ => .nx ρ := rfl
@[simp] theorem sPar_at (i j : Nat) : sPar i j f g ρ = andThen ρ ((f ρ).bind fun x => (g ρ).bind fun y => .ok (x, y)) fun p => .nx ((ρ.set i (.sh p.1)).set j (.sh p.2)) := rfl
@[simp] theorem sTgt_at (t : D → Rho → Option Rho) : sTgt f t ρ = andThen ρ (f ρ) fun d => match t d ρ with | some ρ' => .nx ρ' | none => .stuck := rfl
@[simp] theorem sMut_at (i : Nat) (k : List D → List D → Res (List D)) : sMut i fs k ρ = match ρ.sl[i]? with | some (.ow ds) => andThen ρ ((fs ρ).bind (k ds)) fun ds' => .nx (ρ.set i (.ow ds')) | _ => .stuck := rfl
@[simp] theorem sPut_at (i : Nat) : sPut i f g ρ = match ρ.sl[i]? with | some (.ow ds) => andThen ρ ((f ρ).bind fun d => (g ρ).bind fun k => putAt ρ i ds d k) .nx | _ => .stuck := rfl
@[simp] theorem sFor_at (t : D → Rho → Option Rho) (g : Rho → Out) : sFor fs t g ρ = andThen ρ (fs ρ) fun ds => forL (atT t g) ds ρ := rfl
@[simp] theorem sRaise_at (f : Rho → Res Exn) : sRaise f ρ = andThen ρ (f ρ) fun x => .ex x ρ := rfl
@[simp] theorem sTry_at (cm : Addr → Option Bool) (i : Nat) (gb gh : Rho → Out) : sTry cm i gb gh ρ = catchO cm i gh (gb ρ) := rfl
@[simp] theorem atT_at (t : D → Rho → Option Rho) (g : Rho → Out) (d : D) : atT t g d ρ = match t d ρ with | some ρ' => g ρ' | none => .stuck := rfl
@[simp] theorem gN_at (i : Nat) (d : D) : gN i d ρ = some (ρ.set i (.sh d)) := rfl
@[simp] theorem forL_nil (b : D → Rho → Out) : forL b [] ρ = .nx ρ := rfl
@[simp] theorem forL_cons (b : D → Rho → Out) (d : D) (ds : List D) : forL b (d :: ds) ρ = loopO (b d ρ) (forL b ds) := rfl
@[simp] theorem outR_rt (d : D) : outR (.rt d ρ) = .ok d := rfl
@[simp] theorem outR_nx : outR (.nx ρ) = .ok .non := rfl
@[simp] theorem outR_ex (x : Exn) : outR (.ex x ρ) = .exc x := rfl
@[simp] theorem runD_at (fs : List Bool) (m : Nat) (den : Rho → Out) (ds : List D) : runD fs m den ds = outR (den (entryS fs m ds)) := rfl
theorem entryS_at (fs : List Bool) (m : Nat) (ds : List D) : entryS fs m ds = ⟨List.zipWith slF fs ds ++ List.replicate (m - ds.length) .no, none⟩ := rfl
theorem slF_t (d : D) : slF true d = .sh d := rfl
theorem slF_f (d : D) : slF false d = slD d := rfl
theorem slD_int (i : Int) : slD (.int i) = .sh (.int i) := rfl
theorem slD_str (i : Str) : slD (.str i) = .sh (.str i) := rfl
theorem slD_bl (i : Bool) : slD (.bl i) = .sh (.bl i) := rfl
theorem slD_lst (i : List D) : slD (.lst i) = .bo (.lst i) := rfl
@[simp] theorem isLst_int (i : Int) : isLst (.int i) = false := rfl
@[simp] theorem isLst_bl (i : Bool) : isLst (.bl i) = false := rfl
@[simp] theorem isLst_tup (i : List D) : isLst (.tup i) = false := rfl
@[simp] theorem ckFlat_int (i : Int) : ckFlat (.int i) = .ok (.int i) := rfl
@[simp] theorem ckFlat_bl (i : Bool) : ckFlat (.bl i) = .ok (.bl i) := rfl
end
theorem whileN_succ {n : Nat} {c : Rho → Res Bool} {b : Rho → Out} {ρ : Rho} : whileN (n + 1) c b ρ = andThen ρ (c ρ) fun t => if t = true then loopO (b ρ) (whileN n c b) else .nx ρ := rfl
theorem ixN_nat {n k : Nat} (h : k < n) : ixN n (k : Int) = some k := by
  unfold ixN
  rw [if_pos (by omega), if_pos (by omega)]
  rfl
theorem ixN_int {n : Nat} {k : Int} (h0 : 0 ≤ k) (h : k < n) : ixN n k = some k.toNat := by
  unfold ixN
  rw [if_pos h0, if_pos h]
theorem ixD_lst {ds : List D} {k : Nat} (h : k < ds.length) : ixD (.lst ds) (.int (k : Int)) = .ok ds[k] := by
  show (match atI ds (k : Int) with | some d => Res.ok d | none => Res.stuck) = _
  unfold atI
  rw [ixN_nat h]
  show (match ds[k]? with | some d => Res.ok d | none => Res.stuck) = _
  rw [List.getElem?_eq_getElem h]
theorem ixD_tup {ds : List D} {k : Nat} (h : k < ds.length) : ixD (.tup ds) (.int (k : Int)) = .ok ds[k] := by
  show (match atI ds (k : Int) with | some d => Res.ok d | none => Res.stuck) = _
  unfold atI
  rw [ixN_nat h]
  show (match ds[k]? with | some d => Res.ok d | none => Res.stuck) = _
  rw [List.getElem?_eq_getElem h]
@[simp] theorem ixD_tup0 {a : D} {ds : List D} : ixD (.tup (a :: ds)) (.int 0) = .ok a := ixD_tup (ds := a :: ds) (k := 0) (by simp)
@[simp] theorem ixD_tup1 {a b : D} {ds : List D} : ixD (.tup (a :: b :: ds)) (.int 1) = .ok b := ixD_tup (ds := a :: b :: ds) (k := 1) (by simp)
@[simp] theorem ixD_tup2 {a b c : D} {ds : List D} : ixD (.tup (a :: b :: c :: ds)) (.int 2) = .ok c := ixD_tup (ds := a :: b :: c :: ds) (k := 2) (by simp)
@[simp] theorem ixD_lst0 {a : D} {ds : List D} : ixD (.lst (a :: ds)) (.int 0) = .ok a := ixD_lst (ds := a :: ds) (k := 0) (by simp)
@[simp] theorem ixD_lst1 {a b : D} {ds : List D} : ixD (.lst (a :: b :: ds)) (.int 1) = .ok b := ixD_lst (ds := a :: b :: ds) (k := 1) (by simp)
@[simp] theorem ixD_lst2 {a b c : D} {ds : List D} : ixD (.lst (a :: b :: c :: ds)) (.int 2) = .ok c := ixD_lst (ds := a :: b :: c :: ds) (k := 2) (by simp)
@[simp] theorem ixD_lst3 {a b c e : D} {ds : List D} : ixD (.lst (a :: b :: c :: e :: ds)) (.int 3) = .ok e := ixD_lst (ds := a :: b :: c :: e :: ds) (k := 3) (by simp)
theorem powD_int {i j : Int} (h : 0 ≤ j ∧ j ≤ 1000000 ∧ i.natAbs < 2 ^ 64) : powD (.int i) (.int j) = .ok (.int (i ^ j.toNat)) := if_pos h
theorem pow_lit {i j z : Int} (h : 0 ≤ j ∧ j ≤ 1000000 ∧ i.natAbs < 2 ^ 64) (e : i ^ j.toNat = z) : powD (.int i) (.int j) = .ok (.int z) := by rw [powD_int h, e]
theorem fdivD_small {i j : Int} (h : 0 < j) (h2 : j < 9223372036854775808) : fdivD (.int i) (.int j) = .ok (.int (i / j)) := if_pos ⟨h, Nat.lt_of_lt_of_le (log2_lt (k := 63) (by omega) (by decide)) (by decide)⟩
theorem outR_and {f g : Rho → Out} {ρ ρ' : Rho} {r : Res D} (h1 : f ρ = .nx ρ') (h2 : outR (g ρ') = r) : outR (sSeq f g ρ) = r := by
  rw [sSeq_at, h1, andS_nx]; exact h2
/-- a tuple of three ints -/
def t3 (a b c : Int) : D := .tup [.int a, .int b, .int c]
theorem eqB_t3 (a b c x y z : Int) : eqB (t3 a b c) (t3 x y z) = .ok (decide (a = x ∧ b = y ∧ c = z)) := by
  show eqDeep (t3 a b c) (t3 x y z) = _
  unfold eqDeep t3
  simp only [toPy, toPys, Option.bind, Option.map]
  rw [if_pos ⟨by rfl, by rfl⟩]
  simp [PyData.eqv, PyData.eqvAll, Bool.decide_and]
  rfl
/-! pick and draw, as all laws have them -/
def pick (ns : List Int) (k : Nat) : Int := ns.getD k 0
theorem rg_ok {j : Int} (h : j.natAbs < 4611686018427387904) : rg1 [.int j] = .ok (rgItems 0 j.toNat) := by
  show (if rgOk j = true then Res.ok (rgItems 0 j.toNat) else .stuck) = _
  exact if_pos (decide_eq_true h)
end Dv

set_option Elab.async false
set_option linter.all false
set_option maxRecDepth 100000
set_option maxHeartbeats 1000000
namespace Dv
open PySem PySem.Spec L2
open PyProof.Rows hiding St

/-! ### (int, str) < (int, str) -/
def strLt (s t : Str) : Bool := decide (s.cps.toList < t.cps.toList)
def rLtP (K : PySem.W.Frag) : R2 := fun x y H Q => ∃ (a b : Addr) (i j : Int) (s t : Str), x = .ref a ∧ y = .ref b ∧ SqT K H a [.int i, .str s] ∧ SqT K H b [.int j, .str t] ∧
  Q (.bl (if i = j then (if s = t then false else strLt s t) else decide (i < j))) H
theorem op_ltP {X : Cx} (hu : X.A.units < cLine) : OpR X (compareOp .Lt) (rLtP X.K) := by
  intro pins s σ H x y v u Q I rx ry h
  obtain ⟨a, b, i, j, z, w, rfl, rfl, ha, hb, q⟩ := h
  cases rx
  cases ry
  obtain ⟨its, r1, p1, _⟩ := I.tuple ha
  obtain ⟨its2, r2, p2, _⟩ := I.tuple hb
  cases r1 with
  | cons q1 r1 =>
  cases r1 with
  | cons q2 r1 =>
  cases r1
  cases r2 with
  | cons q3 r2 =>
  cases r2 with
  | cons q4 r2 =>
  cases r2
  obtain ⟨t1, rfl⟩ := q1
  obtain ⟨t2, rfl⟩ := q2
  obtain ⟨t3, rfl⟩ := q3
  obtain ⟨t4, rfl⟩ := q4
  have R := Ob.RcOp.tuples_lt (A := X.A) (s := s) (e := fun k => if k = 0 then decide (i = j) else decide (z = w)) (r := fun k => if k = 0 then decide (i < j) else strLt z w) p1 p2 hu (fun k h1 h2 => by
    match k, h1 with
    | 0, _ =>
      have e : (i == j) = decide (i = j) := by by_cases q : i = j <;> simp [q]
      show SeqAt.EqAt _ _ (.int i t1) (.int j t3) (decide (i = j))
      rw [← e]
      exact SeqAt.EqAt.int_int _ _ _ _
    | 1, _ =>
      have e : (z == w) = decide (z = w) := by by_cases q : z = w <;> simp [q]
      show SeqAt.EqAt _ _ (.str z t2) (.str w t4) (decide (z = w))
      rw [← e]
      exact SeqAt.EqAt.str_str _ _ _ _) (fun k h1 h2 _ => by
    match k, h1 with
    | 0, _ => exact Ob.RcOp.lt_int _ _ _ _
    | 1, _ => exact fun _ _ _ _ h => PyProof.Rows.lt_str h)
  refine R X.prog X.w X.xe (EP X pins σ Q) ⟨.bl _, H, I, rfl, ?_⟩
  have ev : Ob.lexAt (fun k => if k = 0 then decide (i = j) else decide (z = w)) (fun k => if k = 0 then decide (i < j) else strLt z w) (decide (2 < 2)) 0 2 = (if i = j then (if z = w then false else strLt z w) else decide (i < j)) := by
    simp only [Ob.lexAt]
    by_cases c1 : i = j
    · by_cases c2 : z = w
      · simp [c1, c2]
      · simp [c1, c2]
    · simp [c1]
  exact (congrArg (fun b => Q (V.bl b) H) ev).mpr q
def ltP : D → D → Res Bool
  | .tup [.int i, .str s], .tup [.int j, .str t] => .ok (if i = j then (if s = t then false else strLt s t) else decide (i < j))
  | _, _ => .stuck
theorem Rep.tup2 {K : PySem.W.Frag} {H : Hp} {N M : Addr → Prop} {ι : List Addr} {s : Bool} {v : V} {i : Int} {z : Str} (r : Rep K H N M ι s v (.tup [.int i, .str z])) : ∃ a, v = .ref a ∧ SqT K H a [.int i, .str z] := by
  obtain ⟨p, vs, rfl, h, r⟩ := r
  obtain ⟨v1, v2, rfl, r1, r2⟩ := r.two
  cases (show v1 = .int i from r1)
  cases (show v2 = .str z from r2)
  exact ⟨p, rfl, h⟩
theorem cms_ltP {K : PySem.W.Frag} : CmS K (rLtP K) ltP := by
  intro N M ι W σ H v u x y Q rx ry q
  by_cases h : ∃ i s j t, x = .tup [.int i, .str s] ∧ y = .tup [.int j, .str t]
  · obtain ⟨i, s, j, t, rfl, rfl⟩ := h
    obtain ⟨a, rfl, ha⟩ := rx.tup2
    obtain ⟨b, rfl, hb⟩ := ry.tup2
    exact ⟨a, b, i, j, s, t, rfl, rfl, ha, hb, q.now⟩
  · have e : ltP x y = .stuck := by
      unfold ltP
      split
      · rename_i i s j t
        exact absurd ⟨i, s, j, t, rfl, rfl⟩ h
      · rfl
    rw [e] at q
    exact False.elim q
end Dv

set_option Elab.async false
set_option linter.all false
set_option maxRecDepth 100000
set_option maxHeartbeats 1000000
namespace Dv
open PySem PySem.Spec L2
open PyProof.Rows hiding St

/-! ### instances: their fields -/
def fldD (C0 : Addr) (f : Str) : D → Res D
  | .ins C fn ds => if C = C0 then (match (fn.zip ds).lookup f with | some d => .ok d | none => .stuck) else .stuck
  | _ => .stuck
section
variable {X : Cx} {G : Sg} {W : WX} {s s' : Bool} {a b : Expr} {g h : Rho → Res D} {pos : Pos} {C0 : Addr} {f : Str}
theorem fld_rep {K : PySem.W.Frag} {H : Hp} {N M : Addr → Prop} {ι : List Addr} {v : V} {x d : D} (r : Rep K H N M ι s v x) (e : fldD C0 f x = .ok d) : ∃ p dx fs u, v = .ref p ∧ H p = some (.ins C0 dx fs) ∧ fs.lookup f = some u ∧ Rep K H N M ι s u d := by
  cases x with
  | ins C fn ds =>
    have e' : (if C = C0 then (match (fn.zip ds).lookup f with | some d => Res.ok d | none => .stuck) else .stuck) = .ok d := e
    by_cases hC : C = C0
    · rw [if_pos hC] at e'
      obtain ⟨p, dx, fs, rfl, _, h2, h3, h4⟩ := r
      subst hC
      cases el : (fn.zip ds).lookup f with
      | none => rw [el] at e'; cases e'
      | some d' =>
        rw [el] at e'
        cases e'
        obtain ⟨u, l1, l2⟩ := look_rep h3 h4 el
        exact ⟨p, dx, fs, u, rfl, h2, l1, l2⟩
    · rw [if_neg hC] at e'; cases e'
  | _ => cases e
theorem fldD_ne {x : D} {x' : Exn} (e : fldD C0 f x = .exc x') : False := by
  cases x with
  | ins C fn ds =>
    have e' : (if C = C0 then (match (fn.zip ds).lookup f with | some d => Res.ok d | none => .stuck) else .stuck) = .exc x' := e
    split at e'
    · split at e' <;> cases e'
    · cases e'
  | _ => cases e
theorem je_fld (c : Cls X.K C0) (n : NoAttr X.K C0 f) (ha : JE X G W s a g) (hb : attributeBase a f X.env (eval a X.env) = eval a X.env := by rfl) : JE X G W s (.Attribute a f pos) (e1 g (fldD C0 f)) :=
  PE.imp (pe_fld ha hb) fun σ H Q ⟨P, ρ, S, q⟩ => ⟨P, ρ, S, (PostG.bind q).imp fun x H1 e1 q1 v r => by
    cases e : fldD C0 f x with
    | ok d =>
      rw [e] at q1
      obtain ⟨p, dx, fs, u, rfl, h2, l1, l2⟩ := fld_rep r e
      exact ⟨p, C0, dx, fs, u, rfl, h2, c, n, l1, q1.now u l2⟩
    | exc x' => exact (fldD_ne e).elim
    | stuck => rw [e] at q1; exact False.elim q1⟩
end

/-! ### self.f = e, self an instance of one's own -/
def sFldI (C0 : Addr) (i : Nat) (f : Str) (fe : Rho → Res D) : Rho → Out := fun ρ => andThen ρ (fe ρ) fun d => match ρ.sl[i]? with
  | some (.oi C fn ds) => if C = C0 ∧ fn.contains f = false ∧ fn.length < 1000 ∧ fn.length = ds.length then .nx (ρ.set i (.oi C (fn ++ [f]) (ds ++ [d]))) else .stuck
  | _ => .stuck
theorem putF_new {f : Str} {v : V} : ∀ {fs : List (Str × V)}, (fs.map (·.1)).contains f = false → putF f v fs = fs ++ [(f, v)]
  | [], _ => rfl
  | (g, u) :: fs, h => by
    rw [List.map_cons, List.contains_cons, Bool.or_eq_false_iff] at h
    have hg : ¬ g = f := fun z => by
      have := h.1
      rw [z] at this
      simp at this
    show (if g = f then _ else (g, u) :: putF f v fs) = _
    rw [if_neg hg, putF_new h.2]
    rfl
section
variable {K : PySem.W.Frag} {G : Sg} {P : Pl} {ρ : Rho} {σ : L2.St} {H : Hp}
theorem Sim.updOi (S : Sim K G P ρ σ H) {i : Nat} {p C dx : Addr} {fn : List Str} {ds : List D} {fs fs' : List (Str × V)} (hP : P i = some p) (hI : G.IO p) (hl : H p = some (.ins C dx fs)) (r : Reps K H (G.N P) (G.M P) P.c true (fs'.map (·.2)) ds) (hn : fs'.map (·.1) = fn)
    (hs : σ[i]? = some (some (.ref p))) : Sim K G P (ρ.set i (.oi C fn ds)) σ (upd H p (.ins C dx fs')) :=
  S.updO hP hl (.inr ⟨_, _, _, rfl⟩) (fun _ => ⟨_, _, _, rfl⟩) (fun d z => by cases z) ⟨p, dx, fs', ⟨hP, hI⟩, hs, upd_same, hn, Reps.updP (.inr (.inl ⟨i, hP⟩)) (.inr (.inl ⟨i, hP⟩)) ⟨_, hl, .inr ⟨_, _, _, rfl⟩⟩ r⟩
end
section
variable {X : Cx} {G : Sg} {W : WX} {e : Expr} {fe : Rho → Res D} {pos pos' p2 : Pos} {C0 : Addr} {f x : Str}
theorem js_fldI (i : Nat) (c : Cls X.K C0) (n : NoAttr X.K C0 f) (hx : PE X (.Name x p2) (tVar i)) (he : JE X G W true e fe) (hs : swapsWith e (some (.Attribute (.Name x p2) f pos')) pos.line X.env = pure false := by rfl) :
    JS X G W (.Assign [.Attribute (.Name x p2) f pos'] e pos) (sFldI C0 i f fe) := PS.imp (ps_fld hx he hs) fun Q σ H ⟨P, ρ, S, q⟩ => ⟨P, ρ, S, (andThen_post S q).imp fun d H1 e1 q1 v r => by
  cases eq : ρ.sl[i]? with
  | none => rw [eq] at q1; exact False.elim q1
  | some z =>
    rw [eq] at q1
    cases z with
    | oi C fn ds =>
      have q2 : PostS X.K G W Q (if C = C0 ∧ fn.contains f = false ∧ fn.length < 1000 ∧ fn.length = ds.length then .nx (ρ.set i (.oi C (fn ++ [f]) (ds ++ [d]))) else .stuck) := q1
      by_cases hc : C = C0 ∧ fn.contains f = false ∧ fn.length < 1000 ∧ fn.length = ds.length
      · rw [if_pos hc] at q2
        obtain ⟨hC, h1, h2, h3⟩ := hc
        subst hC
        obtain ⟨p, dx, fs, ⟨hP, hI⟩, hs, hp, hfn, hr⟩ := (S.same e1).sl i _ eq
        refine ⟨_, hs, p, C, dx, fs, rfl, hp, c, n, by rw [← List.length_map (f := (·.1)), hfn]; exact h2, ?_⟩
        rw [putF_new (by rw [hfn]; exact h1)]
        refine q2 P σ _ ((S.same e1).updOi hP hI hp (fs' := fs ++ [(f, v)]) ?_ ?_ hs)
        · rw [List.map_append]
          exact hr.append ⟨v, [], rfl, r, rfl⟩
        · rw [List.map_append, hfn]; rfl
      · rw [if_neg hc] at q2; exact False.elim q2
    | _ => exact False.elim q1⟩
end
end Dv

set_option Elab.async false
set_option linter.all false
set_option maxRecDepth 100000
set_option maxHeartbeats 1000000
namespace Dv
open PySem PySem.Spec L2
open PyProof.Rows hiding St

/-! ### an __init__ by its body -/
/-- the promise of an __init__: of the arguments' data F tells the fields' -/
def spMk (C : Addr) (K : PySem.W.Frag) (fs : List Bool) (fn : List Str) (F : List D → Res (List D)) : Sp := fun vs H Q E => ∃ (p dx : Addr) (as : List V) (ds : List D) (Z Mx : Addr → Prop) (ι : List Addr), vs = .ref p :: as ∧ H p = some (.ins C dx []) ∧ EntOk H Z Mx ι ∧ ¬ Z p ∧ ¬ Mx p ∧
  RepsF K H (fun a => Z a ∨ a = p) (fun a => Mx a ∨ a = p) ι fs as ds ∧ match F ds with
  | .ok xs => ∀ (H' : Hp) (dx' : Addr) (fs : List (Str × V)), (∀ a o, H a = some o → a ≠ p → H' a = some o) → H' p = some (.ins C dx' fs) → fs.map (·.1) = fn → Reps K H' Z (fun a => Mx a ∨ a = p) ι true (fs.map (·.2)) xs → Q .non H'
  | .exc x => ∀ (cls : Value) (od : Option Addr) (H' : Hp), (∀ a o, H a = some o → a ≠ p → H' a = some o) → XRep K Z Mx ι H' cls od x → E cls od H'
  | .stuck => False
def entryM (fs : List Bool) (m : Nat) (C : Addr) (ds : List D) : Rho := ⟨.oi C [] [] :: (List.zipWith slF fs ds ++ List.replicate (m - (ds.length + 1)) .no), none⟩
def mkR (C : Addr) (fn : List Str) : Out → Res (List D)
  | .nx ρ => match (ρ.sl[0]? : Option Sl) with
    | some (.oi C' fn' xs) => if C' = C ∧ fn' = fn then .ok xs else .stuck
    | _ => .stuck
  | .ex x _ => .exc x
  | _ => .stuck
def runMk (fs : List Bool) (m : Nat) (C : Addr) (fn : List Str) (den : Rho → Out) (ds : List D) : Res (List D) := mkR C fn (den (entryM fs m C ds))
def Pl.at0 (p : Addr) (ι : List Addr) : Pl := ⟨fun i => if i = 0 then some p else none, ι⟩
theorem sim_mk {K : PySem.W.Frag} {H : Hp} {Z Mx : Addr → Prop} {ι : List Addr} {fs : List Bool} {N : List Str} {p C dx : Addr} {as : List V} {ds : List D} (hE : EntOk H Z Mx ι) (hZ : ¬ Z p) (hM : ¬ Mx p) (hp : H p = some (.ins C dx [])) (r : RepsF K H (fun a => Z a ∨ a = p) (fun a => Mx a ∨ a = p) ι fs as ds) :
    Sim K (Sg.of H (fun a => a = p) Mx Z ι) (Pl.at0 p ι) (entryM fs N.length C ds) (L2.start N (.ref p :: as)) H := by
  have hl := r.len
  have hP : ∀ i a, (Pl.at0 p ι) i = some a → i = 0 ∧ a = p := fun i a h => by
    by_cases e1 : i = 0
    · have h' : (if i = 0 then some p else none) = some a := h
      rw [if_pos e1] at h'; exact ⟨e1, (Option.some.inj h').symm⟩
    · have h' : (if i = 0 then some p else none) = some a := h
      rw [if_neg e1] at h'; cases h'
  have hO : ∀ a, (Pl.at0 p ι).own a → a = p ∨ a ∈ ι := fun a z => z.elim (fun ⟨i, z⟩ => .inl (hP i a z).2) .inr
  exact {
    base := fun a o h _ _ => h
    io := fun a z => ⟨C, dx, [], by rw [show a = p from z]; exact hp⟩
    iot := fun a z => ⟨C, dx, [], by rw [show a = p from z]; exact hp⟩
    mx := hE.m
    zx := hE.z
    inj := fun i j a h1 h2 => by rw [(hP i a h1).1, (hP j a h2).1]
    ic := fun i a h z => by rw [(hP i a h).2] at z; exact hM (hE.cm p z)
    zo := fun i a h z => by rw [(hP i a h).2] at z; exact hZ z
    nd := hE.nd
    cx := hE.c
    pre := fun _ _ z => z
    pc := fun _ => ⟨rfl, rfl⟩
    nw := fun a h _ => h
    im := hE.cm
    c0c := fun a h => by cases h
    own := fun i a h _ => (hP i a h).2
    ioc := fun a _ h => by cases h
    out := fun j hj => by
      have : j ≠ 0 := by
        rintro rfl
        unfold entryM at hj
        simp at hj
      exact if_neg this
    len := by
      show (Sl.oi C [] [] :: (List.zipWith slF fs ds ++ List.replicate (N.length - (ds.length + 1)) Sl.no)).length = _
      unfold L2.start
      rw [List.length_cons, List.length_append, entry_len hl.2, List.length_replicate, List.length_append, List.length_map, List.length_replicate, List.length_cons, hl.1, hl.2]
      omega
    sl := fun i x hx => by
      cases i with
      | zero =>
        have hx' : Sl.oi C [] [] = x := by simpa [entryM] using hx
        subst hx'
        exact ⟨p, dx, [], ⟨rfl, rfl⟩, rfl, hp, rfl, rfl⟩
      | succ i =>
        have hx' : (List.zipWith slF fs ds ++ List.replicate (N.length - (ds.length + 1)) Sl.no)[i]? = some x := by simpa [entryM] using hx
        by_cases hi : i < ds.length
        · rw [List.getElem?_append_left (by rw [entry_len hl.2]; exact hi)] at hx'
          obtain ⟨v, s, hv, hs, rv⟩ := r.get (i := i) (List.getElem?_eq_getElem hi)
          have hs' : (L2.start N (.ref p :: as))[i + 1]? = some (some v) := by
            unfold L2.start
            rw [List.getElem?_append_left (by rw [List.length_map, List.length_cons, hl.1, ← hl.2]; omega), List.getElem?_map, List.getElem?_cons_succ, hv]; rfl
          rw [List.getElem?_zipWith, hs, List.getElem?_eq_getElem hi] at hx'
          have hx2 : slF s ds[i] = x := by simpa using hx'
          subst hx2
          refine slF_ok rfl rfl (fun a z => ?_) (fun a z => z) hs' (rv.weak (fun a z => ?_) fun a z => z)
          · rcases z with z | z
            · exact .inl z
            · exact (hO a z).elim .inr fun z => .inl (hE.cm a z)
          · rcases z with z | z
            · exact .inl z
            · exact (hO a z).elim .inr fun z => .inl (hE.cz a z)
        · rw [List.getElem?_append_right (by rw [entry_len hl.2]; omega), List.getElem?_replicate] at hx'
          split at hx'
          · cases hx'; rfl
          · cases hx'
    nb := fun h => absurd rfl h
    st := fun S h => by cases h
    gs := fun p hp => by cases hp }
section
variable {P : Program} {w : World} {K : PySem.W.Frag} {mg : Str → Option Value} {base : Heap}
theorem spMk_len {C : Addr} {fs : List Bool} {fn : List Str} {F : List D → Res (List D)} {ps : List Str} (h : ps.length = fs.length + 1) : ∀ vs H Q E, spMk C K fs fn F vs H Q E → vs.length = ps.length := fun vs H Q E ⟨p, dx, as, ds, Z, Mx, ι, e, _, _, _, _, r, _⟩ => by
  rw [e, List.length_cons, r.len.1, h]
theorem mk_core {CX : CXT} {N : List Str} {fs : List Bool} {C : Addr} {fn : List Str} {den : Rho → Out} {X : Cx} {body : List Stmt} {Q : VK} {E : XK} {H : Hp} {vs : List V} (hK : X.K = K)
    (hbody : ∀ G : Sg, JB X G (fun cls od _ H' => E cls od H') body den) (h : spMk C K fs fn (runMk fs N.length C fn den) vs H Q E) :
    ∃ t, PSs X body t ∧ t { nx := fun _ H' => Q .non H', rt := Q } (start N vs) H := by
  subst hK
  obtain ⟨p, dx, as, ds, Z, Mx, ι, rfl, hp, hE, hZ, hM, r, q⟩ := h
  refine ⟨_, hbody (Sg.of H (fun a => a = p) Mx Z ι), _, entryM fs N.length C ds, sim_mk hE hZ hM hp r, ?_⟩
  have sm : ∀ {P' : Pl} {ρ' : Rho} {σ' : L2.St} {H' : Hp}, Sim X.K (Sg.of H (fun a => a = p) Mx Z ι) P' ρ' σ' H' → ∀ a o, H a = some o → a ≠ p → H' a = some o := fun S' a o h z => S'.base a o h z (fun z => by cases z)
  have pc : ∀ {P' : Pl} {ρ' : Rho} {σ' : L2.St} {H' : Hp}, Sim X.K (Sg.of H (fun a => a = p) Mx Z ι) P' ρ' σ' H' → P'.c = ι := fun S' => (S'.pc rfl).1
  unfold runMk at q
  cases eo : den (entryM fs N.length C ds) with
  | nx ρ =>
    rw [eo] at q
    cases e0 : ρ.sl[0]? with
    | none => simp only [mkR, e0] at q
    | some z =>
      cases z with
      | oi C' fn' xs' =>
        by_cases hc : C' = C ∧ fn' = fn
        · simp only [mkR, e0, if_pos hc] at q
          obtain ⟨rfl, rfl⟩ := hc
          intro P' σ' H' S'
          obtain ⟨p', dx', fs, ⟨hP, hI⟩, _, h3, h4, h5⟩ := S'.sl 0 _ e0
          have hI' : p' = p := hI
          subst hI'
          refine q H' dx' fs (sm S') h3 h4 (pc S' ▸ h5.weak (fun a z => .inl z) fun a z => ?_)
          rcases z with z | z
          · exact .inl z
          · exact .inr (.inl ⟨0, by rw [z]; exact hP⟩)
        · simp only [mkR, e0, if_neg hc] at q
      | _ => simp only [mkR, e0] at q
  | ex x ρ =>
    rw [eo] at q
    exact fun P' σ' H' cls od S' rx => q cls od H' (sm S') (pc S' ▸ rx.weak (fun a z => .inl z) fun a z => .inl z)
  | _ => rw [eo] at q; exact False.elim q
theorem fnMk {x qual : Str} {params : Arguments} {body : List Stmt} {scope : Scope} {dvs : List V} {kws : List (Str × V)} {f : Addr} {fd : FuncData} {N ps : List Str} {k : Nat} {fs : List Bool} {C : Addr} {fn : List Str} {den : Rho → Out} (F : FunD K x qual params body scope dvs kws f fd) (Sc : FnScope N ps scope) (hn : ps.length = fs.length + 1)
    (hbody : ∀ (cdv : Value) (A : Around) (outer : List Env) (s : Shared) (H : Hp) (E : XK) (G : Sg), Room k (A.deeper (envOfC qual scope s.heap.objs.size f cdv)) →
      JB (cxOf (L2.CX P w) P w K mg base N qual scope f cdv A outer s H E) G (fun cls od _ H' => E cls od H') body den) :
    FnOk P w K mg base (L2.CX P w) (k + 1) f fd ps (spMk C K fs fn (runMk fs N.length C fn den)) :=
  F.ok Sc (spMk_len hn) fun cdv A outer s H vs Q E hr h => mk_core (CX := L2.CX P w) rfl (fun G => hbody cdv A outer s H E G hr) h
/-- without defaults -/
theorem fnMk0 {x qual : Str} {st : Stmt} {f : Addr} {fd : FuncData} {N ps : List Str} {k : Nat} {fs : List Bool} {C : Addr} {fn : List Str} {den : Rho → Out} (F : Fun K x qual st f fd) (Sc : FnScope N ps (defScope st)) (hn : ps.length = fs.length + 1)
    (hbody : ∀ (cdv : Value) (A : Around) (outer : List Env) (s : Shared) (H : Hp) (E : XK) (G : Sg), Room k (A.deeper (envOfC qual (defScope st) s.heap.objs.size f cdv)) →
      JB (cxOf (L2.CX P w) P w K mg base N qual (defScope st) f cdv A outer s H E) G (fun cls od _ H' => E cls od H') (defBody st) den) :
    FnOk P w K mg base (L2.CX P w) (k + 1) f fd ps (spMk C K fs fn (runMk fs N.length C fn den)) :=
  F.okX Sc (spMk_len hn) fun cdv A outer s H vs Q E hr h => mk_core (CX := L2.CX P w) rfl (fun G => hbody cdv A outer s H E G hr) h
end
end Dv

set_option Elab.async false
set_option linter.all false
set_option maxRecDepth 100000
set_option maxHeartbeats 1000000
namespace L2
open PySem PySem.Spec PyProof.Rows
section
variable {X : Cx} {CX : CXT} {k n : Nat} {f C : Addr} {fd : FuncData} {ps ks : List Str} {sp : Sp} {E : St → XK} {x : Str} {p pos : Pos} {e : Expr} {es : List Expr} {kws : List Keyword} {t tk : TA} {g : List Value → List Value → List Value} {gV : List V → List V → List V} {dvs : List V} {ds : List Value}
/-- C(e, ..) where what is raised is wished for at the caller's slots -/
def dv_tMake (C : Addr) (sp : Sp) (dvs : List V) (E : St → XK) (t : TA) : TE := fun σ H Q => t σ H fun vs H1 => ∀ x dx, H1 x = none → H1 dx = none → dx ≠ x →
  sp (.ref x :: (vs ++ dvs)) (upd (upd H1 dx (.own x)) x (.ins C dx [])) (fun v H2 => v = .non ∧ Q (.ref x) H2) (E σ)
theorem dv_run_make {pins : List (Addr × Obj)} {σ : St} {H : Hp} {s : Shared} {Q : VK} {us : List Value} {vs : List V} (M : Mk X.K C f) (F : FnOk X.prog X.w X.K X.mg X.base CX k f fd ps sp) (hr : Room (k + 1) X.A) (hb : Binds X.K fd ps ds) (hd : Vals dvs ds)
    (hx : PassesAt CX X σ (E σ)) (I : Inv X pins σ H s) (r : Vals vs us)
    (h : ∀ x dx, H x = none → H dx = none → dx ≠ x → sp (.ref x :: (vs ++ dvs)) (upd (upd H dx (.own x)) x (.ins C dx [])) (fun v H2 => v = .non ∧ Q (.ref x) H2) (E σ)) :
    wpAny (model X.prog X.w) X.A (call (.ref C) us) (EP X pins σ Q) X.xe s := by
  have hq := h (s.heap.objs.size + 1) s.heap.objs.size (I.hok.fresh (Nat.le_succ _)) (I.hok.fresh (Nat.le_refl _)) (Nat.ne_of_lt (Nat.lt_succ_self _))
  have I2 := Inv.made (C := C) I
  have r2 : Vals (V.ref (s.heap.objs.size + 1) :: (vs ++ dvs)) (Value.ref (s.heap.objs.size + 1) :: (us ++ ds)) := .cons rfl (r.append hd)
  have hl : (Value.ref (s.heap.objs.size + 1) :: us ++ ds).length = ps.length := by
    have e := r2.length
    rw [F.len _ _ _ _ hq] at e
    exact e.symm
  refine wpAny_call (make_map (f := f) I.kIn M.makes M.init (beq_iff_eq.mp M.fn) (codeAny_mono (F.run _ X.stack _ _ ⟨Value.ref (s.heap.objs.size + 1) :: us, []⟩ (Value.ref (s.heap.objs.size + 1) :: (us ++ ds)) _ _ (E σ) (hr.make C us [])
    (I2.env0.make C us []) (hb _ (Value.ref (s.heap.objs.size + 1) :: us) I2.kIn hl) r2 hq) fun r s' hq' => ?_))
  cases r with
  | error e => exact hx pins _ _ e s' I2 hq'
  | ok fl =>
    cases fl with
    | ret u =>
      obtain ⟨v, H', I3, rv, ev, q3⟩ := I2.after hq'
      subst ev
      exact ⟨rv, ⟨V.ref (s.heap.objs.size + 1), H', I3, rfl, q3⟩⟩
    | next => exact False.elim hq'
    | brk => exact False.elim hq'
    | cont => exact False.elim hq'
theorem dv_pe_make (M : Mk X.K C f) (F : FnOk X.prog X.w X.K X.mg X.base CX k f fd ps sp) (hr : Room (k + 1) X.A) (hg : Gl X x) (hm : X.mg x = some (.ref C)) (hb : Binds X.K fd ps ds) (hd : Vals dvs ds) (hx : ∀ σ, PassesAt CX X σ (E σ))
    (ha : PA X (e :: es) t) (hdb : (x == ("__debug__" : Str)) = false := by decide) (he : starEach (e :: es) X.env = (false, eval e X.env) :: starEach es X.env := by rfl) (hpl : (backTo pos (starEach es X.env)).any (·.1) = false := by rfl) :
    PE X (.Call (.Name x p) (e :: es) [] pos) (dv_tMake C sp dvs E t) := by
  refine ⟨fun pins s σ H Q I h => ?_⟩
  refine wpAny_Call_Name_kw (ld_glob I hg hm ?_ hdb)
  refine PySem.W.callWith_K (h₀ := X.base) I.ok.mod.kin M.kp (thn (ha.run pos pins s σ H _ I h) fun us s1 ⟨vs, H1, I1, r, q⟩ => ⟨I1.kIn, ?_⟩) he hpl
  exact dv_run_make M F hr hb hd (hx σ) I1 r q
/-- C(.., k = v, ..) -/
def dv_tMakeK (C : Addr) (n m : Nat) (sp : Sp) (gV : List V → List V → List V) (E : St → XK) (t tk : TA) : TE := fun σ H Q => t σ H fun vs H1 => tk σ H1 fun zs H2 => vs.length = n ∧ zs.length = m ∧ ∀ x dx, H2 x = none → H2 dx = none → dx ≠ x →
  sp (gV (.ref x :: vs) zs) (upd (upd H2 dx (.own x)) x (.ins C dx [])) (fun v H3 => v = .non ∧ Q (.ref x) H3) (E σ)
theorem dv_run_makeK {pins : List (Addr × Obj)} {σ : St} {H : Hp} {s : Shared} {Q : VK} {us ws : List Value} {vs zs : List V} (M : Mk X.K C f) (F : FnOk X.prog X.w X.K X.mg X.base CX k f fd ps sp) (hr : Room (k + 1) X.A) (hb : KBn X.K fd ps (n + 1) ks g gV) (hx : PassesAt CX X σ (E σ))
    (I : Inv X pins σ H s) (r : Vals vs us) (rz : Vals zs ws) (l1 : vs.length = n) (l2 : zs.length = ks.length)
    (h : ∀ x dx, H x = none → H dx = none → dx ≠ x → sp (gV (.ref x :: vs) zs) (upd (upd H dx (.own x)) x (.ins C dx [])) (fun v H2 => v = .non ∧ Q (.ref x) H2) (E σ)) :
    wpAny (model X.prog X.w) X.A (call (.ref C) us (ks.zip ws)) (EP X pins σ Q) X.xe s := by
  have hq := h (s.heap.objs.size + 1) s.heap.objs.size (I.hok.fresh (Nat.le_succ _)) (I.hok.fresh (Nat.le_refl _)) (Nat.ne_of_lt (Nat.lt_succ_self _))
  have I2 := Inv.made (C := C) I
  have r1 : Vals (V.ref (s.heap.objs.size + 1) :: vs) (Value.ref (s.heap.objs.size + 1) :: us) := .cons rfl r
  have r2 := hb.rel r1 rz
  have n1 : (Value.ref (s.heap.objs.size + 1) :: us).length = n + 1 := by
    rw [List.length_cons, ← r.length, l1]
  refine wpAny_call (make_map (f := f) I.kIn M.makes M.init (beq_iff_eq.mp M.fn) (codeAny_mono (F.run _ X.stack _ _ ⟨Value.ref (s.heap.objs.size + 1) :: us, ks.zip ws⟩ (g (Value.ref (s.heap.objs.size + 1) :: us) ws) _ _ (E σ) (hr.make C us (ks.zip ws))
    (I2.env0.make C us (ks.zip ws)) (hb.to _ (Value.ref (s.heap.objs.size + 1) :: us) ws I2.kIn n1 (rz.length.symm.trans l2)) r2 hq) fun r s' hq' => ?_))
  cases r with
  | error e => exact hx pins _ _ e s' I2 hq'
  | ok fl =>
    cases fl with
    | ret u =>
      obtain ⟨v, H', I3, rv, ev, q3⟩ := I2.after hq'
      subst ev
      exact ⟨rv, ⟨V.ref (s.heap.objs.size + 1), H', I3, rfl, q3⟩⟩
    | next => exact False.elim hq'
    | brk => exact False.elim hq'
    | cont => exact False.elim hq'
theorem dv_pe_makeK (M : Mk X.K C f) (F : FnOk X.prog X.w X.K X.mg X.base CX k f fd ps sp) (hr : Room (k + 1) X.A) (hg : Gl X x) (hm : X.mg x = some (.ref C)) (hb : KBn X.K fd ps (n + 1) ks g gV) (hx : ∀ σ, PassesAt CX X σ (E σ)) (ha : PA X (e :: es) t) (hkw : PK X kws tk)
    (hall : (backToKw pos (keywordEach kws X.env)).all (·.1.isSome) = true := by rfl) (hks : (backToKw pos (keywordEach kws X.env)).filterMap (·.1) = ks := by rfl) (hdb : (x == ("__debug__" : Str)) = false := by decide)
    (he : starEach (e :: es) X.env = (false, eval e X.env) :: starEach es X.env := by rfl) (hpl : ((backTo pos (starEach (e :: es) X.env)).any (·.1) || (backToKw pos (keywordEach kws X.env)).any (·.1.isNone)) = false := by rfl) :
    PE X (.Call (.Name x p) (e :: es) kws pos) (dv_tMakeK C n ks.length sp gV E t tk) := by
  refine ⟨fun pins s σ H Q I h => ?_⟩
  refine wpAny_Call_Name_kw (ld_glob I hg hm ?_ hdb)
  refine PySem.W.callWith_KW (h₀ := X.base) I.ok.mod.kin M.kp hall (thn (ha.run pos pins s σ H _ I h) fun us s1 ⟨vs, H1, I1, r, q⟩ => ?_) hpl he
  refine thn (hkw.run pos pins s1 σ H1 _ I1 q) fun ws s2 ⟨zs, H2, I2, rz, l1, l2, q2⟩ => ⟨I2.kIn, ?_⟩
  rw [hks]
  exact dv_run_makeK M F hr hb (hx σ) I2 r rz l1 l2 q2
end
end L2
namespace Dv
open PySem PySem.Spec L2
open PyProof.Rows hiding St

theorem Rep.movedS {K : PySem.W.Frag} {H H' : Hp} {N M N' M' : Addr → Prop} {ι : List Addr} {s : Bool} (e : Same H H') (hN : ∀ a, (H a).isSome = true → N' a → N a) (hM : ∀ a, (H a).isSome = true → M' a → M a) {d : D} {v : V} (h : Rep K H N M ι s v d) : Rep K H' N' M' ι s v d :=
  Rep.map (fun _ _ q => sqT_same e q) (fun a xs h1 h2 => ⟨fun z => ⟨e _ _ (h1 z).1, fun q => (h1 z).2 (hN a (by rw [(h1 z).1]; rfl) q)⟩, e.seq h2⟩) (fun a C dx fs h1 h2 => ⟨fun q => h1 (hM a (by rw [h2]; rfl) q), e _ _ h2⟩) (fun _ _ z => z) d v h
theorem RepsF.movedS {K : PySem.W.Frag} {H H' : Hp} {N M N' M' : Addr → Prop} {ι : List Addr} (e : Same H H') (hN : ∀ a, (H a).isSome = true → N' a → N a) (hM : ∀ a, (H a).isSome = true → M' a → M a) : ∀ {fs : List Bool} {vs : List V} {ds : List D}, RepsF K H N M ι fs vs ds → RepsF K H' N' M' ι fs vs ds
  | [], _, _, h => h
  | _ :: _, _, _, ⟨v, r, d, es, e1, e2, h1, h⟩ => ⟨v, r, d, es, e1, e2, h1.movedS e hN hM, RepsF.movedS e hN hM h⟩
theorem RepsF.append {K : PySem.W.Frag} {H : Hp} {N M : Addr → Prop} {ι : List Addr} : ∀ {fs gs : List Bool} {vs ws : List V} {ds es : List D}, RepsF K H N M ι fs vs ds → RepsF K H N M ι gs ws es → RepsF K H N M ι (fs ++ gs) (vs ++ ws) (ds ++ es)
  | [], _, _, _, _, _, ⟨e1, e2⟩, h => by rw [e1, e2]; exact h
  | _ :: _, _, _, _, _, _, ⟨v, r, d, es, e1, e2, h1, h⟩, h' => ⟨v, r ++ _, d, es ++ _, by rw [e1]; rfl, by rw [e2]; rfl, h1, RepsF.append h h'⟩
/-- a default value -/
inductive DfV : V → D → Prop where
  | int (i : Int) : DfV (.int i) (.int i)
  | non : DfV .non .non
  | str (x : Str) : DfV (.str x) (.str x)
  | bl (b : Bool) : DfV (.bl b) (.bl b)
theorem DfV.rep {K : PySem.W.Frag} {H : Hp} {N M : Addr → Prop} {ι : List Addr} {s : Bool} {v : V} {d : D} (h : DfV v d) : Rep K H N M ι s v d := by cases h <;> rfl
inductive DfVs : List Bool → List V → List D → Prop where
  | nil : DfVs [] [] []
  | cons {s : Bool} {v : V} {d : D} {ss : List Bool} {vs : List V} {ds : List D} (h : DfV v d) (t : DfVs ss vs ds) : DfVs (s :: ss) (v :: vs) (d :: ds)
theorem DfVs.rep {K : PySem.W.Frag} {H : Hp} {N M : Addr → Prop} {ι : List Addr} {ss : List Bool} {vs : List V} {ds : List D} (h : DfVs ss vs ds) : RepsF K H N M ι ss vs ds := by
  induction h with
  | nil => exact ⟨rfl, rfl⟩
  | cons h t ih => exact ⟨_, _, _, _, rfl, rfl, h.rep, ih⟩
/-- how positional values and keywords' values come to the parameters -/
def Arr (s1 s2 fs : List Bool) (gV : List V → List V → List V) (arr : List D → List D → List D) : Prop := ∀ (y : V) (K : PySem.W.Frag) (H : Hp) (N M : Addr → Prop) (ι : List Addr) (vs zs : List V) (ds es : List D), RepsF K H N M ι s1 vs ds → RepsF K H N M ι s2 zs es →
  ∃ as, gV (y :: vs) zs = y :: as ∧ RepsF K H N M ι fs as (arr ds es)
section
variable {X : Cx} {G : Sg} {W : WX} {s s' : Bool} {s1 s2 ss : List Bool} {a b e : Expr} {es : List Expr} {g h : Rho → Res D} {fs gs : Rho → Res (List D)} {pos p : Pos} {x : Str} {k : Nat} {C f : Addr} {fd : FuncData} {ps ks : List Str} {fn : List Str} {F : List D → Res (List D)}
def JK (X : Cx) (G : Sg) (W : WX) (ss : List Bool) (kws : List Keyword) (fs : Rho → Res (List D)) : Prop := PK X kws (tF X.K G W ss fs)
theorem PK.imp {X : Cx} {kws : List Keyword} {t t' : TA} (h : PK X kws t) (i : ∀ σ H Q, t' σ H Q → t σ H Q) : PK X kws t' := ⟨fun pos pins s σ H Q I hw => h.run pos pins s σ H Q I (i σ H Q hw)⟩
theorem jk_nil : JK X G W [] [] aNil := PK.imp pk_nil fun σ H Q ⟨P, ρ, S, h⟩ => h.now _ ⟨rfl, rfl⟩
theorem jk_cons {nm : Option Str} {kpos : Pos} {kws : List Keyword} (ha : JE X G W s a g) (hr : JK X G W ss kws fs) : JK X G W (s :: ss) (⟨nm, a, kpos⟩ :: kws) (aCons g fs) :=
  PK.imp (pk_cons ha hr) fun σ H Q ⟨P, ρ, S, q⟩ => ⟨P, ρ, S, (PostG.bind q).imp fun x H1 e1 q1 v r => ⟨P, ρ, S.same e1, (PostG.bind q1).imp fun xs H2 e2 q2 vs rs =>
    q2.now _ ⟨v, vs, x, xs, rfl, rfl, r.same e2, rs⟩⟩⟩
/-- a new instance, frozen -/
def eMk (C : Addr) (fn : List Str) (F : List D → Res (List D)) (fs : Rho → Res (List D)) : Rho → Res D := fun ρ => (fs ρ).bind fun ds => (F ds).bind fun xs => .ok (.ins C fn xs)
theorem mk_post {K : PySem.W.Frag} {P : Pl} {ρ : Rho} {σ : L2.St} {H : Hp} {vs : List V} {ds : List D} {Q : VK} (S : Sim K G P ρ σ H) (r : RepsF K H (G.N P) (G.M P) P.c ss vs ds)
    (q : PostG K (G.N P) (G.M P) P.c W σ H (fun d H' => ∀ v, Rep K H' (G.N P) (G.M P) P.c s' v d → Q v H') ((F ds).bind fun xs => .ok (.ins C fn xs))) {y dy : Addr} (hy : H y = none) (hdy : H dy = none) (ne : dy ≠ y) :
    spMk C K ss fn F (.ref y :: vs) (upd (upd H dy (.own y)) y (.ins C dy [])) (fun v H2 => v = .non ∧ Q (.ref y) H2) (WE W σ) := by
  have sm : Same H (upd (upd H dy (.own y)) y (.ins C dy [])) := fun c o z => by rw [upd_ne (ne_of_none z hy), upd_ne (ne_of_none z hdy)]; exact z
  have ny : ∀ c, (H c).isSome = true → c ≠ y := fun c t z => by rw [z, hy] at t; cases t
  refine ⟨y, dy, vs, ds, G.N P, G.M P, P.c, rfl, upd_same, (S.same sm).ent, S.newN hy, S.newM hy, r.movedS sm (fun c t z => z.elim id fun z => absurd z (ny c t)) (fun c t z => z.elim id fun z => absurd z (ny c t)), ?_⟩
  · have q' := PostG.bind q
    cases eF : F ds with
    | ok xs =>
      rw [eF] at q'
      intro H' dx' fs' k1 k2 k3 k4
      have fin : Same H H' := fun c o z => k1 c o (sm c o z) (ne_of_none z hy)
      exact ⟨rfl, (q' H' fin).now _ ⟨y, dx', fs', rfl, S.newM hy, k2, k3, Reps.to (k4.weak (fun c z => z) fun c z => .inl z)⟩⟩
    | exc x =>
      rw [eF] at q'
      intro cls od H' k1 k2
      have fin : Same H H' := fun c o z => k1 c o (sm c o z) (ne_of_none z hy)
      exact q' cls od H' fin k2
    | stuck => rw [eF] at q'; exact q'
/-- C(e, ..): the last parameters may have their defaults -/
theorem je_make {dvs : List V} {dds : List D} {dv : List Value} (M : Mk X.K C f) (hF : FnOk X.prog X.w X.K X.mg X.base (L2.CX X.prog X.w) k f fd ps (spMk C X.K (s1 ++ s2) fn F)) (hr : Room (k + 1) X.A) (hg : Gl X x) (hm : X.mg x = some (.ref C)) (hb : Binds X.K fd ps dv) (hd : Vals dvs dv) (hdd : DfVs s2 dvs dds) (tk : Takes X W)
    (ha : JF X G W s1 (a :: es) fs) (hdb : (x == ("__debug__" : Str)) = false := by decide) (he : starEach (a :: es) X.env = (false, eval a X.env) :: starEach es X.env := by rfl) (hpl : (backTo pos (starEach es X.env)).any (·.1) = false := by rfl) :
    JE X G W s' (.Call (.Name x p) (a :: es) [] pos) (eMk C fn F (e1 fs fun ds => .ok (ds ++ dds))) := PE.imp (dv_pe_make (E := WE W) M hF hr hg hm hb hd (fun σ => passAt tk σ) ha hdb he hpl) fun σ H Q ⟨P, ρ, S, q⟩ => ⟨P, ρ, S, by
      have q0 : PostG X.K (G.N P) (G.M P) P.c W σ H (fun d H' => ∀ v, Rep X.K H' (G.N P) (G.M P) P.c s' v d → Q v H') (((fs ρ).bind fun ds => .ok (ds ++ dds)).bind fun ds => (F ds).bind fun xs => .ok (.ins C fn xs)) := q
      exact (PostG.bind (PostG.bind q0)).imp fun ds H2 e1 q2 vs rs y dy hy hdy ne => mk_post (S.same e1) (rs.append hdd.rep) q2.now hy hdy ne⟩
theorem je_makeK {kws : List Keyword} {arr : List D → List D → List D} {ga : List Value → List Value → List Value} {gV : List V → List V → List V}
    (M : Mk X.K C f) (hF : FnOk X.prog X.w X.K X.mg X.base (L2.CX X.prog X.w) k f fd ps (spMk C X.K ss fn F)) (hr : Room (k + 1) X.A) (hg : Gl X x) (hm : X.mg x = some (.ref C)) (hb : KBn X.K fd ps (s1.length + 1) ks ga gV) (hl2 : s2.length = ks.length) (harr : Arr s1 s2 ss gV arr) (tk : Takes X W)
    (ha : JF X G W s1 (a :: es) fs) (hk : JK X G W s2 kws gs)
    (hall : (backToKw pos (keywordEach kws X.env)).all (·.1.isSome) = true := by rfl) (hks : (backToKw pos (keywordEach kws X.env)).filterMap (·.1) = ks := by rfl) (hdb : (x == ("__debug__" : Str)) = false := by decide)
    (he : starEach (a :: es) X.env = (false, eval a X.env) :: starEach es X.env := by rfl) (hpl : ((backTo pos (starEach (a :: es) X.env)).any (·.1) || (backToKw pos (keywordEach kws X.env)).any (·.1.isNone)) = false := by rfl) :
    JE X G W s' (.Call (.Name x p) (a :: es) kws pos) (eMk C fn F fun ρ => (fs ρ).bind fun ds => (gs ρ).bind fun es => .ok (arr ds es)) := PE.imp (dv_pe_makeK (E := WE W) M hF hr hg hm hb (fun σ => passAt tk σ) ha hk hall hks hdb he hpl) fun σ H Q ⟨P, ρ, S, q⟩ => ⟨P, ρ, S, by
      have q0 : PostG X.K (G.N P) (G.M P) P.c W σ H (fun d H' => ∀ v, Rep X.K H' (G.N P) (G.M P) P.c s' v d → Q v H') (((fs ρ).bind fun ds => (gs ρ).bind fun es => .ok (arr ds es)).bind fun ds => (F ds).bind fun xs => .ok (.ins C fn xs)) := q
      refine (PostG.bind (PostG.bind q0)).imp fun ds H1 e1 q1 vs rs => ⟨P, ρ, S.same e1, (PostG.bind q1).imp fun es' H2 e2 q2 zs rz => ⟨rs.len.1, by rw [rz.len.1, hl2], fun y dy hy hdy ne => ?_⟩⟩
      obtain ⟨as, ea, ra⟩ := harr (.ref y) X.K H2 (G.N P) (G.M P) P.c vs zs ds es' (rs.same e2) rz
      rw [ea]
      exact mk_post ((S.same e1).same e2) ra q2.now hy hdy ne⟩
/-! two keywords with int defaults: how they are written -/
theorem arr_fs {s1 : List Bool} {a b : Bool} : Arr s1 [a, b] (s1 ++ [a, b]) (fun us ws => us ++ ws) (fun ds es => ds ++ es) := fun y K H N M ι vs zs ds es r1 r2 => ⟨vs ++ zs, rfl, r1.append r2⟩
theorem arr_f {s1 : List Bool} {a b : Bool} {v : V} {d : D} (hd : DfV v d) : Arr s1 [a] (s1 ++ [a, b]) (fun us ws => us ++ ws ++ [v]) (fun ds es => ds ++ es ++ [d]) := fun y K H N M ι vs zs ds es r1 r2 => ⟨vs ++ zs ++ [v], rfl, by
  have := (r1.append r2).append (DfVs.rep (K := K) (H := H) (N := N) (M := M) (ι := ι) (.cons (s := b) hd .nil))
  rwa [List.append_assoc s1] at this⟩
theorem arr_s {s1 : List Bool} {a b : Bool} {v : V} {d : D} (hd : DfV v d) : Arr s1 [b] (s1 ++ [a, b]) (fun us ws => us ++ [v] ++ ws) (fun ds es => ds ++ [d] ++ es) := fun y K H N M ι vs zs ds es r1 r2 => ⟨vs ++ [v] ++ zs, rfl, by
  have := (r1.append (DfVs.rep (K := K) (H := H) (N := N) (M := M) (ι := ι) (.cons (s := a) hd .nil))).append r2
  rwa [List.append_assoc s1] at this⟩
theorem arr_sf {s1 : List Bool} {a b : Bool} : Arr s1 [b, a] (s1 ++ [a, b]) (fun us ws => us ++ ws.reverse) (fun ds es => ds ++ es.reverse) := fun y K H N M ι vs zs ds es r1 r2 => ⟨vs ++ zs.reverse, rfl, by
  obtain ⟨v, r, d, e, rfl, rfl, h1, v2, r', d2, e', rfl, rfl, h2, rfl, rfl⟩ := r2
  exact r1.append ⟨_, _, _, _, rfl, rfl, h2, _, _, _, _, rfl, rfl, h1, rfl, rfl⟩⟩
end
end Dv

set_option Elab.async false
set_option linter.all false
set_option maxRecDepth 100000
set_option maxHeartbeats 1000000
namespace Dv
open PySem PySem.Spec L2
open PyProof.Rows hiding St

theorem spD_ok {K : PySem.W.Frag} {G : Sg} {P : Pl} {ρ : Rho} {σ : L2.St} {H : Hp} {fs : List Bool} {F : List D → Res D} {vs : List V} {ds : List D} {d : D} {Q : VK} {E : XK} (S : Sim K G P ρ σ H) (r : RepsF K H (G.N P) (G.M P) P.c fs vs ds) (e : F ds = .ok d)
    (q : ∀ H' v, Same H H' → RetV K (dom H) (G.N P) (G.M P) P.c H' v d → Q v H') : spD K fs F vs H Q E :=
  ⟨ds, G.N P, G.M P, P.c, S.ent, r, by rw [e]; exact fun H' e' v r => q H' v e' r⟩
theorem RepsF.one {K : PySem.W.Frag} {H : Hp} {N M : Addr → Prop} {ι : List Addr} {s : Bool} {v : V} {d : D} (r : Rep K H N M ι s v d) : RepsF K H N M ι [s] [v] [d] := ⟨_, _, _, _, rfl, rfl, r, rfl, rfl⟩
theorem RepsF.two {K : PySem.W.Frag} {H : Hp} {N M : Addr → Prop} {ι : List Addr} {s s' : Bool} {v v' : V} {d d' : D} (r : Rep K H N M ι s v d) (r' : Rep K H N M ι s' v' d') : RepsF K H N M ι [s, s'] [v, v'] [d, d'] := ⟨_, _, _, _, rfl, rfl, r, RepsF.one r'⟩
def onC {α : Type} (C0 : Addr) (d : D) (r : Res α) : Res α := match d with
  | .ins C _ _ => if C = C0 then r else .stuck
  | _ => .stuck
def onCI (C0 : Addr) (F : List D → Res D) (d y : D) : Res D := onC C0 d (match y with | .int i => F [d, .int i] | _ => .stuck)
def ok1 : Res D → Res D
  | .ok d => .ok d
  | _ => .stuck
theorem onC_ok {α : Type} {K : PySem.W.Frag} {H : Hp} {N M : Addr → Prop} {ι : List Addr} {s : Bool} {C0 : Addr} {v : V} {d : D} {r : Res α} {okP : α → Hp → Prop} {W : WX} {σ : L2.St} (rv : Rep K H N M ι s v d) (q : PostG K N M ι W σ H okP (onC C0 d r)) :
    (∃ p dx fs, v = .ref p ∧ H p = some (.ins C0 dx fs)) ∧ PostG K N M ι W σ H okP r := by
  cases d with
  | ins C fn ds =>
    have q' : PostG K N M ι W σ H okP (if C = C0 then r else .stuck) := q
    by_cases h : C = C0
    · rw [if_pos h] at q'
      obtain ⟨p, dx, fs, rfl, _, h2, _⟩ := rv
      subst h
      exact ⟨⟨p, dx, fs, rfl, h2⟩, q'⟩
    · rw [if_neg h] at q'; exact False.elim q'
  | _ => exact False.elim q
section
variable {X : Cx} {G : Sg} {W : WX} {s s' s2 : Bool} {a b e : Expr} {es : List Expr} {g h : Rho → Res D} {fs : Rho → Res (List D)} {pos p : Pos} {x nm : Str} {k : Nat} {C0 m pp : Addr} {fd : FuncData} {ps : List Str} {F : List D → Res D}
/-- x.f, a property -/
theorem je_prop (c : Cls X.K C0) (hp : PropOf X.K C0 nm pp m) (hF : FnOk X.prog X.w X.K X.mg X.base (L2.CX X.prog X.w) k m fd ps (spD X.K [s] F)) (hr : Room (k + 1) X.A) (hb : Binds X.K fd ps []) (ha : JE X G W s a g)
    (hab : attributeBase a nm X.env (eval a X.env) = eval a X.env := by rfl) : JE X G W s' (.Attribute a nm pos) (e1 g fun d => onC C0 d (ok1 (F [d]))) :=
  PE.imp (pe_prop (dvs := []) ha c hp hF hr hb .nil passL hab) fun σ H Q ⟨P, ρ, S, q⟩ => ⟨P, ρ, S, (PostG.bind q).imp fun d H1 e1 q1 v r => by
    obtain ⟨⟨p', dx, fs', rfl, h2⟩, q2⟩ := onC_ok r q1
    cases eF : F [d] with
    | ok d' =>
      rw [eF] at q2
      exact ⟨p', dx, fs', rfl, h2, spD_ok (S.same e1) (RepsF.one r) eF fun H' v' e' rr => q2 H' e' v' (RetV.rep (S.same e1) rr).to⟩
    | exc _ => rw [eF] at q2; exact False.elim q2
    | stuck => rw [eF] at q2; exact False.elim q2⟩
/-- ~x -/
theorem je_inv (hs : PySem.W.findIn X.K (.ref C0) "__invert__" = some (some (.ref m))) (hf : PySem.W.isFn X.K (.ref m) = true) (hF : FnOk X.prog X.w X.K X.mg X.base (L2.CX X.prog X.w) k m fd ps (spD X.K [s] F)) (hr : Room k X.A) (hb : Binds X.K fd ps []) (tk : Takes X W)
    (ha : JE X G W s a g) : JE X G W s' (.UnaryOp .Invert a pos) (e1 g fun d => onC C0 d (F [d])) := by
  refine ⟨fun pins s0 σ H Q I ⟨P, ρ, S, q⟩ => UnaryOp_ (thn (ha.run pins s0 σ H _ I ⟨P, ρ, S, (PostG.bind q).imp fun d H1 e1 q1 v r => (⟨P, ρ, d, S.same e1, r, q1⟩ : ∃ P ρ d, Sim X.K G P ρ σ H1 ∧ Rep X.K H1 (G.N P) (G.M P) P.c s v d ∧ PostE X.K G P W s' σ H1 Q (onC C0 d (F [d])))⟩) fun v s1 ⟨x, H1, I1, r1, q1⟩ => ?_)⟩
  obtain ⟨P1, ρ1, d, S1, rr, q2⟩ := q1
  obtain ⟨⟨p', dx, fs', rfl, h2⟩, q3⟩ := onC_ok rr q2
  cases (show v = Value.ref p' from r1)
  obtain ⟨mA, O, _⟩ := ins_get I1.hok h2
  obtain ⟨od, J, _⟩ := O.look
  obtain ⟨mm, hFr⟩ := I1.fr
  exact PySem.W.ksp_inv hFr I1.ok.mod.kin J hs hf (run_fnSD (ds := []) (dvs := []) (us := [.ref p']) (vs := [.ref p']) (E := WE W) hF hr hb .nil (passAt tk σ) I1 (.cons rfl .nil)
    (spD_of S1 (RepsF.one rr) q3 fun d' H' v' e' k' rv => k' v' (RetV.rep S1 rv).to))
/-- x op y, y an int (or another value of a built-in class) -/
theorem je_ownT {op : Operator} {fo ro rc : Option Value} (hc : PySem.W.selfFirst X.K C0 = true) (hs : PySem.W.findIn X.K (.ref C0) (PySem.dunder op.info.2) = some (some (.ref m))) (hf : PySem.W.isFn X.K (.ref m) = true)
    (hq : PySem.W.findIn X.K (.ref C0) (PySem.dunderR op.info.2) = some rc) (hp : rc = none ∨ ∃ g : Addr, rc = some (.ref g)) (h1 : PySem.W.findIn X.K (.type "int") (PySem.dunder op.info.2) = some fo) (h2 : PySem.W.findIn X.K (.type "int") (PySem.dunderR op.info.2) = some ro)
    (hsub : PySem.W.subIn X.K (.type "int") (.ref C0) = some false)
    (hF : FnOk X.prog X.w X.K X.mg X.base (L2.CX X.prog X.w) k m fd ps (spD X.K [s, s2] F)) (hr : Room k X.A) (hb : Binds X.K fd ps []) (tk : Takes X W) (ha : JE X G W s a g) (hbb : JE X G W s b h) :
    JE X G W s' (.BinOp a op b pos) (e2 g h (onCI C0 F)) := by
  refine ⟨fun pins s0 σ H Q I ⟨P, ρ, S, q⟩ => wpAny_BinOp (binT (R := fun v y H2 => ∃ P ρ d e, Sim X.K G P ρ σ H2 ∧ Rep X.K H2 (G.N P) (G.M P) P.c s v d ∧ Rep X.K H2 (G.N P) (G.M P) P.c s y e ∧ PostE X.K G P W s' σ H2 Q (onCI C0 F d e)) ha hbb I
    ⟨P, ρ, S, (PostG.bind q).imp fun d H1 e1 q1 v r => ⟨P, ρ, S.same e1, (PostG.bind q1).imp fun e H2 e2 q2 y ry => ⟨P, ρ, d, e, S.same (e1.trans e2), r.same e2, ry, q2⟩⟩⟩ ?_)⟩
  intro v u sh2 x y H2 I2 rx ry ⟨P1, ρ1, d, e, S1, rr, re, q2⟩
  obtain ⟨⟨p', dx, fs', rfl, hh⟩, q3⟩ := onC_ok rr q2
  cases (show v = Value.ref p' from rx)
  cases e with
  | int i =>
    cases (show y = V.int i from re)
    obtain ⟨t, rfl⟩ := ry
    obtain ⟨mA, O, _⟩ := ins_get I2.hok hh
    obtain ⟨od, J, _⟩ := O.look
    obtain ⟨mm, hFr⟩ := I2.fr
    refine PySem.W.ksp_binT hFr I2.ok.mod.kin J rfl hc hs hf hq hp h1 h2 hsub ?_
    refine wpAny_mono (run_fnSD (ds := []) (dvs := []) (us := [.ref p', .int i t]) (vs := [.ref p', .int i]) (E := WE W) hF hr hb .nil (passAt tk σ) I2 (.cons rfl (.cons ⟨t, rfl⟩ .nil))
      (spD_of S1 (RepsF.two rr (show Rep _ _ _ _ _ s2 (V.int i) (D.int i) from rfl)) q3 fun d' H' v' e' k' rv => k' v' (RetV.rep S1 rv).to)) (fun w s' z => ?_) fun _ _ x => x
    obtain ⟨z', H', I', rz, qz⟩ := z
    exact SlX.cmpback rz ⟨z', H', I', rz, qz⟩
  | _ => exact False.elim q3
/-- x op y, y of the same class -/
theorem je_ownO {op : Operator} (hc : PySem.W.selfFirst X.K C0 = true) (hs : PySem.W.findIn X.K (.ref C0) (PySem.dunder op.info.2) = some (some (.ref m))) (hf : PySem.W.isFn X.K (.ref m) = true)
    (hF : FnOk X.prog X.w X.K X.mg X.base (L2.CX X.prog X.w) k m fd ps (spD X.K [s, s2] F)) (hr : Room k X.A) (hb : Binds X.K fd ps []) (tk : Takes X W) (ha : JE X G W s a g) (hbb : JE X G W s2 b h) :
    JE X G W s' (.BinOp a op b pos) (e2 g h fun d y => onC C0 d (onC C0 y (F [d, y]))) := by
  refine ⟨fun pins s0 σ H Q I ⟨P, ρ, S, q⟩ => wpAny_BinOp (binT (R := fun v y H2 => ∃ P ρ d e, Sim X.K G P ρ σ H2 ∧ Rep X.K H2 (G.N P) (G.M P) P.c s v d ∧ Rep X.K H2 (G.N P) (G.M P) P.c s2 y e ∧ PostE X.K G P W s' σ H2 Q (onC C0 d (onC C0 e (F [d, e])))) ha hbb I
    ⟨P, ρ, S, (PostG.bind q).imp fun d H1 e1 q1 v r => ⟨P, ρ, S.same e1, (PostG.bind q1).imp fun e H2 e2 q2 y ry => ⟨P, ρ, d, e, S.same (e1.trans e2), r.same e2, ry, q2⟩⟩⟩ ?_)⟩
  intro v u sh2 x y H2 I2 rx ry ⟨P1, ρ1, d, e, S1, rr, re, q2⟩
  obtain ⟨⟨p', dx, fs', rfl, hh⟩, q3⟩ := onC_ok rr q2
  obtain ⟨⟨p2, dx2, fs2, rfl, hh2⟩, q4⟩ := onC_ok re q3
  cases (show v = Value.ref p' from rx)
  cases (show u = Value.ref p2 from ry)
  obtain ⟨mA, O, _⟩ := ins_get I2.hok hh
  obtain ⟨od, J, _⟩ := O.look
  obtain ⟨mA2, O2, _⟩ := ins_get I2.hok hh2
  obtain ⟨od2, J2, _⟩ := O2.look
  obtain ⟨mm, hFr⟩ := I2.fr
  refine PySem.W.binop_K hFr I2.ok.mod.kin J J2.type hc hs hf ?_
  refine wpAny_mono (run_fnSD (ds := []) (dvs := []) (us := [.ref p', .ref p2]) (vs := [.ref p', .ref p2]) (E := WE W) hF hr hb .nil (passAt tk σ) I2 (.cons rfl (.cons rfl .nil))
    (spD_of S1 (RepsF.two rr re) q4 fun d' H' v' e' k' rv => k' v' (RetV.rep S1 rv).to)) (fun w s' z => ?_) fun _ _ x => x
  obtain ⟨z', H', I', rz, qz⟩ := z
  exact SlX.cmpback rz ⟨z', H', I', rz, qz⟩
end
end Dv

set_option Elab.async false
set_option linter.all false
set_option maxRecDepth 100000
set_option maxHeartbeats 1000000
namespace Dv
open PySem PySem.Spec L2
open PyProof.Rows hiding St

/-! ### comprehensions: [e for t in xs], e without lists -/
section
variable {K : PySem.W.Frag} {G : Sg} {P : Pl} {ρ : Rho} {σ : L2.St} {H : Hp}
theorem Sim.setSh1 (S : Sim K G P ρ σ H) {i : Nat} (h : P i = none) {d : D} {v : V} (r : Rep K H (G.N P) (G.M P) P.c true v d) : Sim K G P (ρ.set i (.sh d)) (σ.set i (some v)) H := by
  exact { base := S.base, io := S.io, iot := S.iot, mx := S.mx, zx := S.zx, inj := S.inj, ic := S.ic, zo := S.zo, nd := S.nd, cx := S.cx, pre := S.pre, pc := S.pc, nw := S.nw, im := S.im, c0c := S.c0c, own := S.own, ioc := S.ioc, st := S.st, gs := S.gs
          out := fun j hj => S.out j (by simpa [Rho.set] using hj)
          len := by simpa [Rho.set] using S.len
          sl := fun j x hx => by
            rcases get_set hx with ⟨e1, e2, e3⟩ | ⟨e1, e2⟩
            · subst e1 e3
              exact ⟨h, v, List.getElem?_set_self (by rw [← S.len]; exact e2), r⟩
            · exact (S.sl j x e2).moved (Same.refl H) ⟨fun _ _ z => z, fun _ _ z => z⟩ rfl (set_other e1)
          nb := fun hc j d' h' => by
            rcases get_set h' with ⟨e1, e2, e3⟩ | ⟨e1, e2⟩
            · cases e3
            · exact S.nb hc j d' e2 }
theorem wipe_in {σ : L2.St} {i : Nat} : ∀ {vs : List Nat}, i ∈ vs → (wipe σ vs)[i]? = if i < σ.length then some none else none
  | v :: vs, h => by
    show ((wipe σ vs).set v none)[i]? = _
    by_cases e : v = i
    · subst e
      by_cases hl : v < σ.length
      · rw [if_pos hl, List.getElem?_set_self (by rw [wipe_length]; exact hl)]
      · rw [if_neg hl, List.getElem?_eq_none (by rw [List.length_set, wipe_length]; omega)]
    · rw [List.getElem?_set_ne e]
      exact wipe_in ((List.mem_cons.mp h).resolve_left fun z => e z.symm)
theorem wipe_set {σ : L2.St} {i : Nat} {o : Option V} {vs : List Nat} (h : i ∈ vs) : wipe (σ.set i o) vs = wipe σ vs := by
  apply List.ext_getElem?
  intro j
  by_cases hj : j ∈ vs
  · rw [wipe_in hj, wipe_in hj, List.length_set]
  · rw [wipe_out hj, wipe_out hj, List.getElem?_set_ne fun z => hj (by rw [← z]; exact h)]
def isNo (ρ : Rho) (vs : List Nat) : Bool := vs.all fun i => match (ρ.sl[i]? : Option Sl) with
  | some .no => true
  | some (.sh _) => true
  | some (.bo _) => true
  | _ => false
/-- the slots of vs forgotten -/
def wipeR (ρ : Rho) : List Nat → Rho
  | [] => ρ
  | v :: vs => (wipeR ρ vs).set v .no
theorem wipeR_len {ρ : Rho} : ∀ {vs : List Nat}, (wipeR ρ vs).sl.length = ρ.sl.length
  | [] => rfl
  | v :: vs => by
    show ((wipeR ρ vs).sl.set v .no).length = _
    rw [List.length_set, wipeR_len]
theorem wipeR_st {ρ : Rho} : ∀ {vs : List Nat}, (wipeR ρ vs).st = ρ.st
  | [] => rfl
  | v :: vs => wipeR_st (vs := vs)
theorem wipeR_get {ρ : Rho} {j : Nat} {x : Sl} : ∀ {vs : List Nat}, (wipeR ρ vs).sl[j]? = some x → (j ∈ vs ∧ x = .no) ∨ (j ∉ vs ∧ ρ.sl[j]? = some x)
  | [], h => .inr ⟨by simp, h⟩
  | v :: vs, h => by
    have h' : ((wipeR ρ vs).sl.set v .no)[j]? = some x := h
    by_cases e : v = j
    · subst e
      by_cases hl : v < (wipeR ρ vs).sl.length
      · rw [List.getElem?_set_self hl] at h'
        exact .inl ⟨List.mem_cons_self, (Option.some.inj h').symm⟩
      · rw [List.getElem?_eq_none (by rw [List.length_set]; omega)] at h'
        cases h'
    · rw [List.getElem?_set_ne e] at h'
      rcases wipeR_get h' with ⟨a, b⟩ | ⟨a, b⟩
      · exact .inl ⟨List.mem_cons_of_mem _ a, b⟩
      · exact .inr ⟨fun z => (List.mem_cons.mp z).elim (fun z => e z.symm) a, b⟩
theorem Sim.isNoP (S : Sim K G P ρ σ H) {vs : List Nat} (h : isNo ρ vs = true) {i : Nat} (hi : i ∈ vs) : P i = none := by
  have := List.all_eq_true.mp h i hi
  split at this
  · rename_i e; exact S.sl i _ e
  · rename_i e; exact (S.sl i _ e).1
  · rename_i e; exact (S.sl i _ e).1
  · cases this
theorem Sim.wiped (S : Sim K G P ρ σ H) {vs : List Nat} (h : isNo ρ vs = true) : Sim K G P (wipeR ρ vs) (wipe σ vs) H := by
  exact { base := S.base, io := S.io, iot := S.iot, mx := S.mx, zx := S.zx, inj := S.inj, ic := S.ic, zo := S.zo, nd := S.nd, cx := S.cx, pre := S.pre, pc := S.pc, nw := S.nw, im := S.im, c0c := S.c0c, own := S.own, ioc := S.ioc, gs := S.gs
          out := fun j hj => S.out j (by rw [wipeR_len] at hj; exact hj)
          st := fun Q hQ => S.st Q (by rw [wipeR_st] at hQ; exact hQ)
          nb := fun hc j d hj => by
            rcases wipeR_get hj with ⟨_, e⟩ | ⟨_, e⟩
            · cases e
            · exact S.nb hc j d e
          len := by rw [wipe_length, wipeR_len]; exact S.len
          sl := fun j x hx => by
            rcases wipeR_get hx with ⟨hj, e⟩ | ⟨hj, e⟩
            · subst e
              exact S.isNoP h hj
            · exact (S.sl j x e).moved (Same.refl H) ⟨fun _ _ z => z, fun _ _ z => z⟩ rfl (wipe_out hj) }
end
/-- a target sets slots of vs alone -/
def TgOk (K : PySem.W.Frag) (g : TG) (vs : List Nat) (t : D → Rho → Option Rho) : Prop := ∀ (G : Sg) (P : Pl) (ρ ρ' : Rho) (σ : L2.St) (H : Hp) (v : V) (d : D) (Q : L2.St → Hp → Prop), Sim K G P ρ σ H → (∀ i ∈ vs, P i = none) → Rep K H (G.N P) (G.M P) P.c true v d → t d ρ = some ρ' →
  (∀ σ2, Sim K G P ρ' σ2 H → wipe σ2 vs = wipe σ vs → Q σ2 H) → g v σ H Q
def TgsOk (K : PySem.W.Frag) (g : TGs) (vs : List Nat) (t : List D → Rho → Option Rho) : Prop := ∀ (G : Sg) (P : Pl) (ρ ρ' : Rho) (σ : L2.St) (H : Hp) (us : List V) (ds : List D) (Q : L2.St → Hp → Prop), Sim K G P ρ σ H → (∀ i ∈ vs, P i = none) → Reps K H (G.N P) (G.M P) P.c true us ds → t ds ρ = some ρ' →
  (∀ σ2, Sim K G P ρ' σ2 H → wipe σ2 vs = wipe σ vs → Q σ2 H) → g us σ H Q
theorem tg_name {K : PySem.W.Frag} {i : Nat} {vs : List Nat} (h : i ∈ vs) : TgOk K (gName i) vs (gN i) := fun G P ρ ρ' σ H v d Q S hn r e q => by
  cases e
  exact q _ (S.setSh1 (hn i h) r) (wipe_set h)
theorem tgs_nil {K : PySem.W.Frag} {vs : List Nat} : TgsOk K gNil vs gsN := fun G P ρ ρ' σ H us ds Q S hn r e q => by
  cases ds with
  | nil => cases e; exact ⟨r, q σ S rfl⟩
  | cons _ _ => cases e
theorem tgs_cons {K : PySem.W.Frag} {vs : List Nat} {g : TG} {u : TGs} {t : D → Rho → Option Rho} {ts : List D → Rho → Option Rho} (h1 : TgOk K g vs t) (h2 : TgsOk K u vs ts) : TgsOk K (gCons g u) vs (gsC t ts) := fun G P ρ ρ' σ H us ds Q S hn r e q => by
  cases ds with
  | nil => cases e
  | cons d ds =>
    obtain ⟨v, r', rfl, r1, r2⟩ := r
    have e' : (t d ρ).bind (ts ds) = some ρ' := e
    cases e1 : t d ρ with
    | none => rw [e1] at e'; cases e'
    | some ρ1 =>
      rw [e1] at e'
      exact ⟨v, r', rfl, h1 G P ρ ρ1 σ H v d _ S hn r1 e1 fun σ2 S2 w2 => h2 G P ρ1 ρ' σ2 H r' ds _ S2 hn r2 e' fun σ3 S3 w3 => q σ3 S3 (w3.trans w2)⟩
theorem tg_tup {K : PySem.W.Frag} {vs : List Nat} {n : Nat} {u : TGs} {ts : List D → Rho → Option Rho} (h : TgsOk K u vs ts) : TgOk K (gTup K n u) vs (gT n ts) := fun G P ρ ρ' σ H v d Q S hn r e q => by
  cases d with
  | tup ds =>
    obtain ⟨a, xs, rfl, h1, h2⟩ := r
    have e' : (if ds.length = n then ts ds ρ else none) = some ρ' := e
    by_cases hl : ds.length = n
    · rw [if_pos hl] at e'
      exact ⟨a, xs, rfl, h1, h2.length.trans hl, h G P ρ ρ' σ H xs ds Q S hn h2 e' q⟩
    · rw [if_neg hl] at e'; cases e'
  | _ => cases e
def mapL (h : D → Res D) : List D → Res (List D)
  | [] => .ok []
  | d :: ds => (h d).bind fun y => (mapL h ds).bind fun ys => .ok (y :: ys)
theorem Rep.updL {K : PySem.W.Frag} {H : Hp} {N M : Addr → Prop} {ι : List Addr} {p : Addr} {xs ys : List V} {y : D} {v : V} (hN : N p) (hp : H p = some (.lst xs)) (r : Rep K H N M ι true v y) : Rep K (upd H p (.lst ys)) N M ι true v y := by
  refine Rep.map (s := true) (s' := true) (fun a zs q => ?_) (fun a zs h q => ?_) (fun a C dx fs h1 h2 => ⟨h1, ?_⟩) (fun _ _ z => z) y v r
  · rcases q with (q | ⟨o, q⟩) | q
    · refine .inl (.inl ?_)
      rw [upd_ne]; exact q
      rintro rfl; rw [hp] at q; cases q
    · refine .inl (.inr ⟨o, ?_⟩)
      rw [upd_ne]; exact q
      rintro rfl; rw [hp] at q; cases q
    · exact .inr q
  · obtain ⟨h1, h2⟩ := h rfl
    have ne : a ≠ p := fun z => h2 (by rw [z]; exact hN)
    have e : (upd H p (.lst ys)) a = some (.lst zs) := by rw [upd_ne ne]; exact h1
    exact ⟨fun _ => ⟨e, h2⟩, SqL.of e⟩
  · rw [upd_ne]; exact h2
    rintro rfl; rw [hp] at h2; cases h2
theorem Reps.updL {K : PySem.W.Frag} {H : Hp} {N M : Addr → Prop} {ι : List Addr} {p : Addr} {xs ys : List V} (hN : N p) (hp : H p = some (.lst xs)) : ∀ {ds : List D} {vs : List V}, Reps K H N M ι true vs ds → Reps K (upd H p (.lst ys)) N M ι true vs ds
  | [], _, r => r
  | d :: ds, _, ⟨v, r, e, h1, h2⟩ => ⟨v, r, e, h1.updL hN hp, h2.updL hN hp⟩
def lcOne (t : D → Rho → Option Rho) (f : Rho → Res D) (ρ : Rho) (d : D) : Res D := match t d ρ with
  | some ρ' => match f ρ' with
    | .ok y => .ok y
    | _ => .stuck
  | none => .stuck
def eLc (vs : List Nat) (fi : Rho → Res (List D)) (t : D → Rho → Option Rho) (f : Rho → Res D) : Rho → Res (List D) := fun ρ => if isNo ρ vs = true then (fi ρ).bind fun ds => ckLen ds.length (mapL (lcOne t f (wipeR ρ vs)) ds) else .stuck
/-- no datum may hold the list at p -/
def Sg.ban (G : Sg) (p : Addr) : Sg := { G with Z := fun a => G.Z a ∨ a = p }
theorem Sim.ban {K : PySem.W.Frag} {G : Sg} {P : Pl} {ρ : Rho} {σ : L2.St} {H H2 : Hp} {p : Addr} (S : Sim K G P ρ σ H) (h : H p = none) (e : Same H H2) (hp : (H2 p).isSome = true) : Sim K (G.ban p) P ρ σ H2 := by
  have ny : ∀ c, (H c).isSome = true → c ≠ p := fun c t z => by rw [z, h] at t; cases t
  have hN : ∀ a, (H a).isSome = true → (G.ban p).N P a → G.N P a := fun a t z => z.elim (fun z => z.elim .inl fun z => absurd z (ny a t)) .inr
  have hM : ∀ a, (H a).isSome = true → (G.ban p).M P a → G.M P a := fun a t z => z
  exact { base := fun a o h1 h2 h3 => e _ _ (S.base a o h1 h2 h3), io := S.io, iot := fun a h => (let ⟨C, dx, fs, q⟩ := S.iot a h; ⟨C, dx, fs, e _ _ q⟩), mx := fun a h => some_same e (S.mx a h), inj := S.inj, ic := S.ic, nd := S.nd, cx := fun a h => some_same e (S.cx a h), pre := S.pre, pc := S.pc, nw := S.nw, im := S.im, c0c := S.c0c, own := S.own, ioc := S.ioc, out := S.out, len := S.len, nb := S.nb
          zx := fun a z => z.elim (fun z => some_same e (S.zx a z)) fun z => by rw [z]; exact hp
          zo := fun i a h1 z => z.elim (S.zo i a h1) fun z => by
            obtain ⟨o, q⟩ := S.there h1
            rw [z, h] at q; cases q
          sl := fun i x hx => by
            have q := S.sl i x hx
            cases x with
            | no => exact q
            | sh d => obtain ⟨h1, v, h2, h3⟩ := q; exact ⟨h1, v, h2, h3.moved e hN hM⟩
            | bo d => exact q
            | ow ds => obtain ⟨p, vs, h1, h2, h3, h4⟩ := q; exact ⟨p, vs, h1, h2, e _ _ h3, h4.moved e hN hM⟩
            | oi C fn ds => obtain ⟨p, dx, fs, h1, h2, h3, h4, h5⟩ := q; exact ⟨p, dx, fs, h1, h2, e _ _ h3, h4, h5.moved e hN hM⟩
            | xv x => obtain ⟨h1, a, cls, od, h2, h3, h4⟩ := q; exact ⟨h1, a, cls, od, h2, h3, h4.moved e hN hM⟩
          st := fun Q hQ => by
            obtain ⟨h1, h2, h3, h4⟩ := S.st Q hQ
            refine ⟨h1, h2, h3, fun n c a e1 e2 => ?_⟩
            have q := h4 n c a e1 e2
            cases c with
            | lst ds => obtain ⟨vs, h1, h2⟩ := q; exact ⟨vs, e _ _ h1, h2.moved e hN hM⟩
            | ins C fn ds => obtain ⟨dx, fs, h1, h2, h3⟩ := q; exact ⟨dx, fs, e _ _ h1, h2, h3.moved e hN hM⟩
            | gone => trivial
          gs := fun p hp => (S.gs p hp).moved e hN hM }
section
variable {X : Cx} {G : Sg} {W : WX} {elt tg iter : Expr} {scope : Scope} {own : List (Str × Nat)} {pos : Pos} {fi : Rho → Res (List D)} {g : TG} {t : D → Rho → Option Rho} {f : Rho → Res D}
theorem yes_ite {σ : L2.St} {H : Hp} {A B : Hp → Prop} (h : A H) : tYes σ H fun b H3 => if b = true then A H3 else B H3 := (if_pos rfl : (if true = true then A H else B H) = A H).mpr h
theorem lc_post {K : PySem.W.Frag} {te : TE} {vs : List Nat} {σ : L2.St} {H H1 : Hp} {P : Pl} {ρ : Rho} {Q : VK} {J : It} {gh : List (V × D)} {ds : List D} (S : Sim K G P ρ σ H) (e1 : Same H H1) (hno : isNo ρ vs = true)
    (hgh : ∀ p, p ∈ gh → Rep K H1 (G.N P) (G.M P) P.c true p.1 p.2) (hJ : ItOk K G gh true J ds) (hlen : ds.length ≤ line) (ht : TgOk K g vs t) (hte : ∀ (G' : Sg) (P : Pl) (ρ : Rho) (σ : L2.St) (H : Hp) (Q : VK) (y : D), Sim K G' P ρ σ H → f ρ = .ok y → (∀ H' v, Same H H' → Rep K H' (G'.N P) (G'.M P) P.c true v y → Q v H') → te σ H Q)
    (q : PostN K G P W σ H1 Q (mapL (lcOne t f (wipeR ρ vs)) ds)) :
    ∀ D, H1 D = none → ∃ W : Nat → Nat → Hp → Prop, (∃ m, W 0 m (upd H1 D (.lst []))) ∧ ∀ i m H, W i m H →
      (J.stop i H ∧ Q (.ref D) H) ∨ (J.go i H ∧ ∃ Nx : Hp → Prop, (∀ H', Nx H' → ∃ m', m' < m ∧ W (i + 1) m' H') ∧ ∀ x H', J.yld i H x H' → g x (wipe σ vs) H' fun σ2 H2 => wipe σ2 vs = wipe σ vs ∧ tYes σ2 H2 fun b H3 =>
        if b = true then te σ2 H3 fun y H4 => ∃ acc, H4 D = some (.lst acc) ∧ acc.length < sizeLine ∧ Nx (upd H4 D (.lst (acc ++ [y]))) else Nx H3) := by
  intro p hp
  -- behind i turns: the list at p holds what the first i items give; the rest of the outcome still stands
  refine ⟨fun i m H' => i ≤ ds.length ∧ m = ds.length - i ∧ Same H1 H' ∧ ∃ (acc : List V) (ys : List D), H' p = some (.lst acc) ∧ ys.length = i ∧ Reps K H' (fun a => G.N P a ∨ a = p) (G.M P) P.c true acc ys ∧
    PostG K (G.N P) (G.M P) P.c W σ H1 (fun zs H' => ∀ p vs, H1 p = none → H' p = some (.lst vs) → Reps K H' (fun a => G.N P a ∨ a = p) (G.M P) P.c true vs (ys ++ zs) → Q (.ref p) H') (mapL (lcOne t f (wipeR ρ vs)) (ds.drop i)),
    ⟨ds.length, Nat.zero_le _, rfl, same_new hp, [], [], upd_same, rfl, rfl, q⟩, ?_⟩
  rintro i m H2 ⟨hi, rfl, s2, acc, ys, hD, hy, hr, q2⟩
  have S1 : Sim K (G.add gh) P ρ σ H1 := (S.same e1).add hgh
  have S2b : Sim K ((G.add gh).ban p) P ρ σ H2 := S1.ban hp s2 (by rw [hD]; rfl)
  obtain ⟨hgo, hstop⟩ := hJ (fun a => G.Z a ∨ a = p) P ρ σ H2 S2b
  by_cases hlt : i < ds.length
  · obtain ⟨go, yld⟩ := hgo i ds[i] (List.getElem?_eq_getElem hlt)
    rw [List.drop_eq_getElem_cons hlt] at q2
    refine .inr ⟨go, fun H' => ∃ m', m' < ds.length - i ∧ (i + 1 ≤ ds.length ∧ m' = ds.length - (i + 1) ∧ Same H1 H' ∧ ∃ (acc : List V) (ys : List D), H' p = some (.lst acc) ∧ ys.length = i + 1 ∧ Reps K H' (fun a => G.N P a ∨ a = p) (G.M P) P.c true acc ys ∧
      PostG K (G.N P) (G.M P) P.c W σ H1 (fun zs H' => ∀ p vs, H1 p = none → H' p = some (.lst vs) → Reps K H' (fun a => G.N P a ∨ a = p) (G.M P) P.c true vs (ys ++ zs) → Q (.ref p) H') (mapL (lcOne t f (wipeR ρ vs)) (ds.drop (i + 1)))), fun H' h => h, fun x H3 y => ?_⟩
    obtain ⟨e3, r3⟩ := yld x H3 y
    have q3 := PostG.bind q2
    unfold lcOne at q3
    cases et : t ds[i] (wipeR ρ vs) with
    | none => rw [et] at q3; exact False.elim q3
    | some ρ' =>
      rw [et] at q3
      dsimp only at q3
      cases ef : f ρ' with
      | exc _ => rw [ef] at q3; exact False.elim q3
      | stuck => rw [ef] at q3; exact False.elim q3
      | ok yd =>
        rw [ef] at q3
        dsimp only at q3
        have q4 := PostG.bind (q3 H1 (Same.refl H1))
        have S3 : Sim K ((G.add gh).ban p) P (wipeR ρ vs) (wipe σ vs) H3 := (S2b.same e3).wiped hno
        refine ht ((G.add gh).ban p) P (wipeR ρ vs) ρ' (wipe σ vs) H3 x ds[i] _ S3 (fun j hj => by
          exact S.isNoP hno hj) r3 et fun σ2 S4 w2 => ⟨?_, ?_⟩
        · rw [w2]
          apply List.ext_getElem?
          intro j
          by_cases hj : j ∈ vs
          · rw [wipe_in hj, wipe_in hj, wipe_length]
          · rw [wipe_out hj]
        · refine yes_ite ?_
          refine hte _ P ρ' σ2 H3 _ yd S4 ef fun H4 v e4 rv => ⟨acc, e4 _ _ (e3 _ _ hD), ?_, ds.length - (i + 1), by omega, hlt, rfl, ?_, acc ++ [v], ys ++ [yd], upd_same, by rw [List.length_append, hy]; rfl, ?_, ?_⟩
          · rw [hr.length, hy, ← line_eq]; omega
          · intro a o h
            have hne : a ≠ p := fun z => by rw [z, hp] at h; cases h
            rw [upd_ne hne]
            exact e4 _ _ (e3 _ _ (s2 _ _ h))
          · have hH4 : H4 p = some (.lst acc) := e4 _ _ (e3 _ _ hD)
            have rv' : Rep K H4 (fun a => G.N P a ∨ a = p) (G.M P) P.c true v yd := rv.weak (fun a z => z.elim (fun z => z.elim (fun z => .inl (.inl z)) fun z => .inr z) fun z => .inl (.inr z)) fun a z => z
            exact Reps.append (Reps.updL (.inr rfl) hH4 (hr.same (e3.trans e4))) ⟨v, [], rfl, Rep.updL (.inr rfl) hH4 rv', rfl⟩
          · refine q4.imp fun zs H' e' k p vs h1 h2 h3 => k.now p vs h1 h2 ?_
            rw [List.append_assoc] at h3
            exact h3
  · have hi2 : i = ds.length := by omega
    subst hi2
    refine .inl ⟨hstop, ?_⟩
    rw [List.drop_length] at q2
    have q3 := q2 H2 s2 p acc hp hD
    rw [List.append_nil] at q3
    exact q3 hr
theorem jn_lc (hc : X.calm = true) (hN : X.N.Nodup) (hi : JI X G W true tg iter fi) (ok : BlkOk X.N X.env.scope scope own) (ht : TgOk X.K g (own.map (·.2)) t)
    (hg : ∀ (s : Shared) (H : Hp) (C : Addr) (cl : List (Str × Addr)) (fp : List Addr), PG (X.blk s H scope (compEnvC scope cl C X.env) fp) tg g)
    (he : ∀ (G' : Sg) (s : Shared) (H : Hp) (C : Addr) (cl : List (Str × Addr)) (fp : List Addr), JE (X.blk s H scope (compEnvC scope cl C X.env) fp) G' (fun _ _ _ _ => False) true elt f) (hs : ∀ x, foldedSetIterable iter X.env x = pure x := by intro _; rfl) :
    JN X G W (.ListComp elt [⟨tg, iter, [], 0⟩] scope pos) (eLc (own.map (·.2)) fi t f) :=
  PE.imp (pe_lc hc hN hi ok hg (tt := tYes) (te := fun σ H Q => ∃ (G' : Sg) (P : Pl) (ρ : Rho) (y : D), Sim X.K G' P ρ σ H ∧ f ρ = .ok y ∧ ∀ H' v, Same H H' → Rep X.K H' (G'.N P) (G'.M P) P.c true v y → Q v H') (fun _ _ _ _ _ => pts_nil)
    (fun s H C cl fp => ⟨fun pins s' σ H' Q I ⟨G', P, ρ, y, S, e, k⟩ => (he G' s H C cl fp).run pins s' σ H' Q I ⟨P, ρ, S, by rw [e]; exact fun H2 e2 v r => k H2 v e2 r⟩⟩) hs) fun σ H Q ⟨P, ρ, S, q⟩ => by
    unfold eLc at q
    by_cases hno : isNo ρ (own.map (·.2)) = true
    · rw [if_pos hno] at q
      refine ⟨P, ρ, S, (PostG.bind q).imp fun ds H1 e1 q1 J gh hgh hJ => ?_⟩
      unfold ckLen at q1
      by_cases hl : ds.length ≤ line
      · rw [if_pos hl] at q1
        exact lc_post (te := fun σ H Q => ∃ (G' : Sg) (P : Pl) (ρ : Rho) (y : D), Sim X.K G' P ρ σ H ∧ f ρ = .ok y ∧ ∀ H' v, Same H H' → Rep X.K H' (G'.N P) (G'.M P) P.c true v y → Q v H') S e1 hno hgh hJ hl ht (fun G' P ρ σ H Q y S e k => ⟨G', P, ρ, y, S, e, k⟩) (q1.imp fun zs H' e' k p vs h1 h2 h3 => k p vs (by
          cases z : H p with
          | none => rfl
          | some o => rw [e1 _ _ z] at h1; cases h1) h2 h3)
      · rw [if_neg hl] at q1; exact False.elim q1
    · rw [if_neg hno] at q; exact False.elim q
end
end Dv

set_option Elab.async false
set_option linter.all false
set_option maxRecDepth 100000
set_option maxHeartbeats 1000000
namespace Dv
open PySem PySem.Spec L2
open PyProof.Rows hiding St

section
variable {X : Cx} {G : Sg} {W : WX} {s s' : Bool} {a b e : Expr} {es : List Expr} {f g : Rho → Res D} {fs : Rho → Res (List D)} {pos p : Pos} {x : Str}
/-! name op= e -/
theorem iop_addA {X : Cx} : OpR X (inplaceOp .Add) (rI0 fun i j => .int (i + j)) := iop_add
def addI : D → D → Res D
  | .int i, .int j => .ok (.int (i + j))
  | _, _ => .stuck
theorem ops_addI {K : PySem.W.Frag} {s' : Bool} : OpS K s s' (rI0 fun i j => .int (i + j)) addI := by
  intro N M ι W σ H v u x y Q rx ry q
  cases x with
  | int i =>
    cases y with
    | int j => exact ⟨i, j, rx, ry, q.now _ rfl⟩
    | _ => exact False.elim q
  | _ => exact False.elim q
/-! s[a:b] of a text -/
def slStr (lo hi : Option Int) : D → Res D
  | .str z => if z.length ≤ line then .ok (.str (cutS z lo hi)) else .stuck
  | _ => .stuck
theorem je_slS {l u : Rho → Res (Option Int)} {lo hi : Option Expr} {p2 : Pos} (ha : JE X G W s a f) (hl : JO X G W lo l) (hu : JO X G W hi u) : JE X G W s' (.Subscript a (.Slice lo hi none p2) pos) (eSl f l u slStr) :=
  PE.imp (pe_slice sl_str ha hl hu) fun σ H Q ⟨P, ρ, S, q⟩ => ⟨P, ρ, S, (PostG.bind q).imp fun x H1 e1 q1 v r1 => ⟨P, ρ, S.same e1, (PostG.bind q1).imp fun lo H2 e2 q2 => ⟨P, ρ, S.same (e1.trans e2), (PostG.bind q2).imp fun hi H3 e3 q3 => by
    cases x with
    | str z =>
      have q4 : PostE X.K G P W s' σ H3 Q (if z.length ≤ line then .ok (.str (cutS z lo hi)) else .stuck) := q3
      by_cases h : z.length ≤ line
      · rw [if_pos h] at q4
        exact ⟨z, r1, by rw [← line_eq]; exact h, q4.now _ rfl⟩
      · rw [if_neg h] at q4; exact False.elim q4
    | _ => exact False.elim q3⟩⟩⟩
/-! for c in text -/
def chars : D → Res (List D)
  | .str z => .ok (z.cps.toList.map fun c => .str ⟨#[c]⟩)
  | _ => .stuck
theorem its_ok {K : PySem.W.Frag} {z : Str} : ItOk K G [] true (Its z) (z.cps.toList.map fun c => D.str ⟨#[c]⟩) := fun Z P ρ σ H S => by
  refine ⟨fun i d hd => ?_, ?_⟩
  · rw [List.getElem?_map] at hd
    cases e : z.cps.toList[i]? with
    | none => rw [e] at hd; cases hd
    | some c =>
      rw [e] at hd
      cases hd
      have hi : i < z.cps.size := by
        have := (List.getElem?_eq_some_iff.mp e).1
        simpa using this
      refine ⟨hi, fun x H' y => ?_⟩
      obtain ⟨rfl, c', h1, rfl⟩ := y
      have : c' = c := by
        have e2 : z.cps[i]? = some c := by simpa using e
        rw [h1] at e2; exact Option.some.inj e2
      subst this
      exact ⟨Same.refl _, rfl⟩
  · show z.cps.size ≤ _
    simp
theorem ji_str {tg : Expr} (h : JE X G W s a f) : JI X G W true tg a (e1 f chars) := PI.imp (pi_str h) fun σ H R ⟨P, ρ, S, q⟩ => ⟨P, ρ, S, (PostG.bind q).imp fun d H1 e1 q1 v r => by
  cases d with
  | str z => exact ⟨z, r, q1.now _ [] (fun _ z => by cases z) its_ok⟩
  | _ => exact False.elim q1⟩
/-! in, not in, of texts -/
def inStrB : D → D → Res Bool
  | .str i, .str j => .ok (!(Builtin.Str.occurrences j i 0 j.length 1).isEmpty)
  | _, _ => .stuck
def ninStrB : D → D → Res Bool
  | .str i, .str j => .ok (!(!(Builtin.Str.occurrences j i 0 j.length 1).isEmpty))
  | _, _ => .stuck
theorem cms_inStr {K : PySem.W.Frag} : CmS K (fun x y H Q => ∃ i j, x = .str i ∧ y = .str j ∧ Q (.bl (!(Builtin.Str.occurrences j i 0 j.length 1).isEmpty)) H) inStrB := by
  intro N M ι W σ H v u x y Q rx ry q
  cases x with
  | str i =>
    cases y with
    | str j => exact ⟨i, j, rx, ry, q.now⟩
    | _ => exact False.elim q
  | _ => exact False.elim q
theorem cms_ninStr {K : PySem.W.Frag} : CmS K (fun x y H Q => ∃ i j, x = .str i ∧ y = .str j ∧ Q (.bl (!(!(Builtin.Str.occurrences j i 0 j.length 1).isEmpty))) H) ninStrB := by
  intro N M ι W σ H v u x y Q rx ry q
  cases x with
  | str i =>
    cases y with
    | str j => exact ⟨i, j, rx, ry, q.now⟩
    | _ => exact False.elim q
  | _ => exact False.elim q
/-! xs.insert(i, e) -/
def insK : List D → List D → Res (List D)
  | ds, [.int i, d] => if ds.length < line ∧ 0 ≤ i ∧ i.natAbs < 2 ^ 62 then .ok (ds.take i.toNat ++ [d] ++ ds.drop i.toNat) else .stuck
  | _, _ => .stuck
def rInsert : V → List V → Hp → VK → Prop := fun x vs H Q => ∃ (l : Addr) (xs : List V) (i : Int) (y : V), x = .ref l ∧ vs = [.int i, y] ∧ H l = some (.lst xs) ∧ xs.length < sizeLine ∧ 0 ≤ i ∧ i < 2 ^ 63 ∧ Q .non (upd H l (.lst (xs.take i.toNat ++ [y] ++ xs.drop i.toNat)))
theorem insK_int {ds : List D} {i : Int} {d : D} : insK ds [.int i, d] = if ds.length < line ∧ 0 ≤ i ∧ i.natAbs < 2 ^ 62 then .ok (ds.take i.toNat ++ [d] ++ ds.drop i.toNat) else .stuck := rfl
theorem insK_else {ds : List D} {es : List D} (h : ∀ i d, es ≠ [.int i, d]) : insK ds es = .stuck := by
  unfold insK
  split
  · exact absurd rfl (h _ _)
  · rfl
theorem mts_insert {K : PySem.W.Frag} : MtS K rInsert insK := by
  intro N M ι W σ H p vs as ds es Q hp r ra q
  by_cases h : ∃ i d, es = [.int i, d]
  · obtain ⟨i, d, rfl⟩ := h
    obtain ⟨v, u, rfl, rv, ru⟩ := ra.two
    cases (show v = .int i from rv)
    rw [insK_int] at q
    by_cases hc : ds.length < line ∧ 0 ≤ i ∧ i.natAbs < 2 ^ 62
    · rw [if_pos hc] at q
      refine ⟨p, vs, i, u, rfl, rfl, hp, by rw [r.length, ← line_eq]; exact hc.1, hc.2.1, by omega, q.now _ ?_⟩
      exact Reps.append (Reps.append (r.take _) ⟨u, [], rfl, ru, rfl⟩) (r.drop _)
    · rw [if_neg hc] at q; exact False.elim q
  · rw [insK_else fun i d e => h ⟨i, d, e⟩] at q
    exact False.elim q
/-! tuple(xs) -/
def tupK : List D → Res D
  | [.lst ds] => .ok (.tup ds)
  | [.tup ds] => .ok (.tup ds)
  | _ => .stuck
theorem cas_tup {K : PySem.W.Frag} : CaS K true s' (fun xs H Q => ∃ p ys, xs = [.ref p] ∧ ((SqL K H p ys ∧ ∀ l, H l = none → Q (.ref l) (upd H l (.tup ys))) ∨ (SqT K H p ys ∧ Q (.ref p) H))) tupK := by
  intro N M ι W σ H vs ds Q r q
  cases ds with
  | nil => exact False.elim q
  | cons d ds =>
    cases ds with
    | cons _ _ => cases d <;> exact False.elim q
    | nil =>
      obtain ⟨v, ev, r0⟩ := r.one
      subst ev
      cases d with
      | lst ds =>
        obtain ⟨p, vs, rfl, h1, h2, h3⟩ := r0
        exact ⟨p, vs, rfl, .inl ⟨h2, fun l hl => q _ (same_new hl) _ (Rep.to ⟨l, vs, rfl, SqT.of upd_same, h3.same (same_new hl)⟩)⟩⟩
      | tup ds =>
        obtain ⟨p, vs, rfl, h2, h3⟩ := r0
        exact ⟨p, vs, rfl, .inr ⟨h2, q.now _ (Rep.to ⟨p, vs, rfl, h2, h3⟩)⟩⟩
      | _ => exact False.elim q
theorem je_tupc (hg : Gl X "tuple") (hm : X.mg "tuple" = none) (ha : JA X G W true [a] fs) (he : starEach [a] X.env = (false, eval a X.env) :: starEach [] X.env := by rfl) (hpl : (backTo pos (starEach [] X.env)).any (·.1) = false := by rfl) :
    JE X G W s' (.Call (.Name "tuple" p) [a] [] pos) (e1 fs tupK) := je_callTy call_tuple_of cas_tup hg hm (by decide +kernel) ha (by decide) (by decide) he hpl
/-- tuple(xs), of a list of flat things that may be the caller's -/
def tupKF : List D → Res D
  | [.lst ds] => if flats ds = true then .ok (.tup ds) else .stuck
  | [.tup ds] => if flats ds = true then .ok (.tup ds) else .stuck
  | _ => .stuck
theorem cas_tupF {K : PySem.W.Frag} : CaS K false s' (fun xs H Q => ∃ p ys, xs = [.ref p] ∧ ((SqL K H p ys ∧ ∀ l, H l = none → Q (.ref l) (upd H l (.tup ys))) ∨ (SqT K H p ys ∧ Q (.ref p) H))) tupKF := by
  intro N M ι W σ H vs ds Q r q
  cases ds with
  | nil => exact False.elim q
  | cons d ds =>
    cases ds with
    | cons _ _ => cases d <;> exact False.elim q
    | nil =>
      obtain ⟨v, ev, r0⟩ := r.one
      subst ev
      cases d with
      | lst ds =>
        obtain ⟨p, vs, rfl, h1, h2, h3⟩ := r0
        have q' : PostG K N M ι W σ H (fun d H' => ∀ w, Rep K H' N M ι s' w d → Q w H') (if flats ds = true then .ok (.tup ds) else .stuck) := q
        by_cases hf : flats ds = true
        · rw [if_pos hf] at q'
          exact ⟨p, vs, rfl, .inl ⟨h2, fun l hl => q' _ (same_new hl) _ (Rep.to ⟨l, vs, rfl, SqT.of upd_same, (Reps.flat (s' := true) ds vs hf h3).same (same_new hl)⟩)⟩⟩
        · rw [if_neg hf] at q'; exact False.elim q'
      | tup ds =>
        obtain ⟨p, vs, rfl, h2, h3⟩ := r0
        have q' : PostG K N M ι W σ H (fun d H' => ∀ w, Rep K H' N M ι s' w d → Q w H') (if flats ds = true then .ok (.tup ds) else .stuck) := q
        by_cases hf : flats ds = true
        · rw [if_pos hf] at q'
          exact ⟨p, vs, rfl, .inr ⟨h2, q'.now _ (Rep.to ⟨p, vs, rfl, h2, Reps.flat (s' := true) ds vs hf h3⟩)⟩⟩
        · rw [if_neg hf] at q'; exact False.elim q'
      | _ => exact False.elim q
theorem je_tupF (hg : Gl X "tuple") (hm : X.mg "tuple" = none) (ha : JA X G W false [a] fs) (he : starEach [a] X.env = (false, eval a X.env) :: starEach [] X.env := by rfl) (hpl : (backTo pos (starEach [] X.env)).any (·.1) = false := by rfl) :
    JE X G W s' (.Call (.Name "tuple" p) [a] [] pos) (e1 fs tupKF) := je_callTy call_tuple_of cas_tupF hg hm (by decide +kernel) ha (by decide) (by decide) he hpl
/-! sep.join(xs) -/
def strsOf : List D → Option (List Str)
  | [] => some []
  | .str z :: ds => (strsOf ds).map fun zs => z :: zs
  | _ :: _ => none
def asStr : D → Res Str
  | .str z => .ok z
  | _ => .stuck
def joinK (z : Str) : D → Res D
  | .lst ds => match strsOf ds with
    | some ys => if (ys.map (·.length)).sum + ys.length * z.length ≤ 16777216 then .ok (.str (Txt.join z ys)) else .stuck
    | none => .stuck
  | _ => .stuck
def eJoin (f g : Rho → Res D) : Rho → Res D := fun ρ => ((f ρ).bind asStr).bind fun z => (g ρ).bind (joinK z)
theorem strs_rep {K : PySem.W.Frag} {H : Hp} {N M : Addr → Prop} {ι : List Addr} {s : Bool} : ∀ {ds : List D} {vs : List V} {ys : List Str}, strsOf ds = some ys → Reps K H N M ι s vs ds → vs = ys.map V.str
  | [], vs, ys, e, r => by cases e; exact r
  | d :: ds, vs, ys, e, r => by
    obtain ⟨v, r', rfl, h1, h2⟩ := r
    cases d with
    | str z =>
      have e' : (strsOf ds).map (fun zs => z :: zs) = some ys := e
      cases e2 : strsOf ds with
      | none => rw [e2] at e'; cases e'
      | some zs =>
        rw [e2] at e'
        cases e'
        cases (show v = V.str z from h1)
        rw [strs_rep e2 h2]; rfl
    | _ => cases e
theorem je_join {apos cpos : Pos} (ho : JE X G W s a f) (he : JE X G W false b g) (hs : starEach [b] X.env = [(false, eval b X.env)] := by rfl) (hbase : attributeBase a "join" X.env (eval a X.env) = eval a X.env := by rfl) (hline : (apos.endLine == cpos.line) = true := by rfl) :
    JE X G W s' (.Call (.Attribute a "join" apos) [b] [] cpos) (eJoin f g) := PE.imp (pe_join ho he hs hbase hline) fun σ H Q ⟨P, ρ, S, q⟩ => ⟨P, ρ, S, (PostG.bind (PostG.bind q)).imp fun x H1 e1 q1 v r1 => by
  cases x with
  | str z =>
    refine ⟨⟨z, r1⟩, P, ρ, S.same e1, (PostG.bind (PostG.now q1)).imp fun y H2 e2 q2 u r2 => ?_⟩
    cases y with
    | lst ds =>
      obtain ⟨p, vs, rfl, h1, h2, h3⟩ := r2
      have q3 : PostE X.K G P W s' σ H2 Q (match strsOf ds with | some ys => if (ys.map (·.length)).sum + ys.length * z.length ≤ 16777216 then .ok (.str (Txt.join z ys)) else .stuck | none => .stuck) := q2
      cases eq : strsOf ds with
      | none => rw [eq] at q3; exact False.elim q3
      | some ys =>
        rw [eq] at q3
        dsimp only at q3
        by_cases hc : (ys.map (·.length)).sum + ys.length * z.length ≤ 16777216
        · rw [if_pos hc] at q3
          have := strs_rep eq h3
          subst this
          exact ⟨z, p, ys, r1, rfl, .inl h2, hc, q3.now _ rfl⟩
        · rw [if_neg hc] at q3; exact False.elim q3
    | _ => exact False.elim q2
  | _ => exact False.elim q1⟩
theorem js_insert {b' : Expr} {apos cpos pos' : Pos} (i : Nat) (hx : PE X (.Name x pos') (tVar i)) (ha : JA X G W true [a, b'] fs) (hb : attributeBase (.Name x pos') "insert" X.env (eval (.Name x pos') X.env) = eval (.Name x pos') X.env := by rfl)
    (hl : (apos.endLine == cpos.line) = true := by rfl) (hfew : ((backTo cpos (starEach [a, b'] X.env)).all (fun x => !x.1) && (backToKw cpos (keywordEach [] X.env)).all (fun x => x.1.isSome) && decide ([a, b'].length + ([] : List Keyword).length + (if ([] : List Keyword).isEmpty then 0 else 1) < 30)) = true := by rfl)
    (hst : starEach [a, b'] X.env = (false, eval a X.env) :: starEach [b'] X.env := by rfl) (hpl : (backTo cpos (starEach [b'] X.env)).any (·.1) = false := by rfl)
    (hs : swapsWith (.Call (.Attribute (.Name x pos') "insert" apos) [a, b'] [] cpos) none pos.line X.env = pure false := by rfl) :
    JS X G W (.Expr (.Call (.Attribute (.Name x pos') "insert" apos) [a, b'] [] cpos) pos) (sMut i fs insK) :=
  js_mut (fun to ta ho h => pe_bm PySem.F.plainAttrs_list PySem.F.slot_list_insert PySem.F.type_list_insert mt_insert ho h (hbase := hb) (hline := hl) (hfew := hfew) (hs := hst) (hplain := hpl)) mts_insert i hx ha hs
end
end Dv

set_option Elab.async false
set_option linter.all false
set_option maxRecDepth 100000
set_option maxHeartbeats 1000000
namespace Dv
open PySem PySem.Spec L2
open PyProof.Rows hiding St

section
variable {X : Cx} {G : Sg} {W : WX} {elt tg iter : Expr} {scope : Scope} {own : List (Str × Nat)} {pos spos py : Pos} {fi : Rho → Res (List D)} {g : TG} {t : D → Rho → Option Rho} {f : Rho → Res D} {y : Str}
/-- name = [e for t in xs], the name a local -/
theorem js_setLc (i : Nat) (hc : X.calm = true) (hN : X.N.Nodup) (hy : X.N[i]? = some y) (hyl : X.env.scope.names.lookup y = some .local)
    (hsw : swapsWith (.ListComp elt [⟨tg, iter, [], 0⟩] scope pos) (some (.Name y py)) spos.line X.env = pure true) (hi : JI X G W true tg iter fi) (ok : BlkOk X.N X.env.scope scope own) (ht : TgOk X.K g (own.map (·.2)) t)
    (hg : ∀ (s : Shared) (H : Hp) (C : Addr) (cl : List (Str × Addr)) (fp : List Addr), PG (X.blk s H scope (compEnvC scope cl C X.env) fp) tg g)
    (he : ∀ (G' : Sg) (s : Shared) (H : Hp) (C : Addr) (cl : List (Str × Addr)) (fp : List Addr), JE (X.blk s H scope (compEnvC scope cl C X.env) fp) G' (fun _ _ _ _ => False) true elt f) (hs : ∀ x, foldedSetIterable iter X.env x = pure x := by intro _; rfl) :
    JS X G W (.Assign [.Name y py] (.ListComp elt [⟨tg, iter, [], 0⟩] scope pos) spos) (sSetN i (eLc (own.map (·.2)) fi t f)) :=
  PS.imp (ps_setLc hc hN hy hyl hsw hi ok hg (tt := tYes) (te := fun σ H Q => ∃ (G' : Sg) (P : Pl) (ρ : Rho) (y : D), Sim X.K G' P ρ σ H ∧ f ρ = .ok y ∧ ∀ H' v, Same H H' → Rep X.K H' (G'.N P) (G'.M P) P.c true v y → Q v H') (fun _ _ _ _ _ => pts_nil)
    (fun s H C cl fp => ⟨fun pins s' σ H' Q I ⟨G', P, ρ, y, S, e, k⟩ => (he G' s H C cl fp).run pins s' σ H' Q I ⟨P, ρ, S, by rw [e]; exact fun H2 e2 v r => k H2 v e2 r⟩⟩) hs) fun Q σ H ⟨P, ρ, S, q⟩ => by
    have q0 : PostN X.K G P W σ H (fun v H1 => gName i v σ H1 Q.nx) (eLc (own.map (·.2)) fi t f ρ) := (andThen_post S q).imp fun d H' e q p vs hp hl r => by
      by_cases hil : i < ρ.sl.length
      · rw [if_pos hil] at q
        obtain ⟨P', S'⟩ := S.setOw e hil hp hl r
        exact q P' _ H' S'
      · rw [if_neg hil] at q; exact False.elim q
    unfold eLc at q0
    by_cases hno : isNo ρ (own.map (·.2)) = true
    · rw [if_pos hno] at q0
      refine ⟨P, ρ, S, (PostG.bind q0).imp fun ds H1 e1 q1 J gh hgh hJ => ?_⟩
      unfold ckLen at q1
      by_cases hl : ds.length ≤ line
      · rw [if_pos hl] at q1
        exact lc_post (Q := fun v H1 => gName i v σ H1 Q.nx) (te := fun σ H Q => ∃ (G' : Sg) (P : Pl) (ρ : Rho) (y : D), Sim X.K G' P ρ σ H ∧ f ρ = .ok y ∧ ∀ H' v, Same H H' → Rep X.K H' (G'.N P) (G'.M P) P.c true v y → Q v H') S e1 hno hgh hJ hl ht (fun G' P ρ σ H Q y S e k => ⟨G', P, ρ, y, S, e, k⟩) (q1.imp fun zs H' e' k p vs h1 h2 h3 => k p vs (by
          cases z : H p with
          | none => rfl
          | some o => rw [e1 _ _ z] at h1; cases h1) h2 h3)
      · rw [if_neg hl] at q1; exact False.elim q1
    · rw [if_neg hno] at q0; exact False.elim q0
end
end Dv

set_option Elab.async false
set_option linter.all false
set_option maxRecDepth 100000
set_option maxHeartbeats 1000000
namespace Dv
open PySem PySem.Spec L2
open PyProof.Rows hiding St

section
variable {X : Cx} {G : Sg} {W : WX} {s : Bool} {pos : Pos} {x : Str}
theorem je_globS {z : Str} (hg : Gl X x) (hm : ∃ t, X.mg x = some (.str z t)) (hdb : (x == ("__debug__" : Str)) = false := by decide) : JE X G W s (.Name x pos) (cD (.str z)) := by
  obtain ⟨t, hm⟩ := hm
  exact je_glob (v := .str z) hg hm ⟨t, rfl⟩ (fun _ _ _ _ => rfl) hdb
theorem je_globI {z : Int} (hg : Gl X x) (hm : ∃ t, X.mg x = some (.int z t)) (hdb : (x == ("__debug__" : Str)) = false := by decide) : JE X G W s (.Name x pos) (cD (.int z)) := by
  obtain ⟨t, hm⟩ := hm
  exact je_glob (v := .int z) hg hm ⟨t, rfl⟩ (fun _ _ _ _ => rfl) hdb
end
/-- a def with keyword-only parameters that have int defaults, as the top has written it -/
theorem fund_mk {K : PySem.W.Frag} {x qual : Str} {st : Stmt} {f D : Addr} {oc : Value} {od an : Option Addr} {osl : Array (Option Value)} {doc pm cdv ct : Value} {kws : List (Str × V)}
    (l : K.lookup f = some ⟨oc, od, .func (PySem.W.fnOf x qual (defArgs st) (defBody st) (defScope st) .none (.ref D) doc pm an cdv ct), osl⟩) (c : PySem.W.codeIn K cdv qual = true) (k : PySem.W.keepIn K (.ref f) = true)
    (h : ∀ q ∈ kws, ∃ u, PySem.W.nsIn K D q.1 = some (some u) ∧ RelV q.2 u) : FunD K x qual (defArgs st) (defBody st) (defScope st) [] kws f (PySem.W.fnOf x qual (defArgs st) (defBody st) (defScope st) .none (.ref D) doc pm an cdv ct) :=
  ⟨⟨oc, od, .none, .ref D, doc, pm, an, cdv, ct, osl, rfl, l, c, .inl ⟨rfl, rfl⟩, .inr ⟨D, rfl, h⟩⟩, k⟩
/-- a def without defaults, as FunD -/
theorem fund0_mk {K : PySem.W.Frag} {x qual : Str} {st : Stmt} {f : Addr} {oc : Value} {od an : Option Addr} {osl : Array (Option Value)} {kV doc pm cdv ct : Value}
    (l : K.lookup f = some ⟨oc, od, .func (PySem.W.fnOf x qual (defArgs st) (defBody st) (defScope st) .none kV doc pm an cdv ct), osl⟩) (c : PySem.W.codeIn K cdv qual = true) (k : PySem.W.keepIn K (.ref f) = true) :
    FunD K x qual (defArgs st) (defBody st) (defScope st) [] [] f (PySem.W.fnOf x qual (defArgs st) (defBody st) (defScope st) .none kV doc pm an cdv ct) :=
  ⟨⟨oc, od, .none, kV, doc, pm, an, cdv, ct, osl, rfl, l, c, .inl ⟨rfl, rfl⟩, .inl rfl⟩, k⟩
theorem all2 {α : Type} {P : α → Prop} {a b : α} (h1 : P a) (h2 : P b) : ∀ q ∈ [a, b], P q := fun q hq => by
  rcases List.mem_cons.mp hq with e | hq
  · rw [e]; exact h1
  · rw [List.mem_singleton.mp hq]; exact h2
/-- the arguments of C(a, b, k = c, l = d), two positional ones, all keywords written -/
def arr22 : List D → List D → List D := fun ds es => ds ++ es
theorem arr22_ok : ∀ (y : V) (vs zs : List V) (ds es : List D) (K : PySem.W.Frag) (H : Hp) (N M : Addr → Prop) (ι : List Addr) (s : Bool), ds.length = 2 → es.length = 2 → Reps K H N M ι s vs ds → Reps K H N M ι s zs es →
    ∃ as, (y :: vs) ++ zs = y :: as ∧ Reps K H N M ι s as (arr22 ds es) := fun y vs zs ds es K H N M ι s _ _ r1 r2 => ⟨vs ++ zs, rfl, r1.append r2⟩
end Dv

set_option Elab.async false
set_option linter.all false
set_option maxRecDepth 100000
set_option maxHeartbeats 1000000
namespace Dv
open PySem PySem.Spec L2
open PyProof.Rows hiding St

section
variable {X : Cx} {G : Sg} {W : WX} {s s' : Bool} {a b e : Expr} {es : List Expr} {f g : Rho → Res D} {fs : Rho → Res (List D)} {pos p : Pos} {x : Str}
/-! xs + ys of lists -/
def catL : D → D → Res (List D)
  | .lst xs, .lst ys => if xs.length + ys.length ≤ line then .ok (xs ++ ys) else .stuck
  | _, _ => .stuck
theorem jn_cat (ha : JE X G W true a f) (hb : JE X G W true b g) : JN X G W (.BinOp a .Add b pos) (e2 f g catL) :=
  PE.imp (pe_op op_cat ha hb) fun σ H Q ⟨P, ρ, S, q⟩ => ⟨P, ρ, S, (PostG.bind q).imp fun x H1 e1 q1 v r1 => ⟨P, ρ, S.same e1, (PostG.bind q1).imp fun y H2 e2 q2 u r2 => by
    cases x with
    | lst xs =>
      cases y with
      | lst ys =>
        have q3 : PostN X.K G P W σ H2 (fun v H' => Q v H') (if xs.length + ys.length ≤ line then .ok (xs ++ ys) else .stuck) := q2.imp fun ds H' e' k p vs hp hl r => k p vs (by
          cases z : H p with
          | none => rfl
          | some o => rw [e2 _ _ (e1 _ _ z)] at hp; cases hp) hl r
        by_cases hl : xs.length + ys.length ≤ line
        · rw [if_pos hl] at q3
          obtain ⟨l, vs, rfl, h1, h2, h3⟩ := r1.same e2
          obtain ⟨m, us, rfl, k1, k2, k3⟩ := r2
          refine ⟨l, m, vs, us, rfl, rfl, (h1 rfl).1, (k1 rfl).1, by rw [h3.length, k3.length, ← line_eq]; exact hl, fun t ht => ?_⟩
          exact q3 _ (same_new ht) t _ ht upd_same ((Reps.apart ht (h3.append k3)).same (same_new ht))
        · rw [if_neg hl] at q3; exact False.elim q3
      | _ => exact False.elim q2
    | _ => exact False.elim q2⟩⟩
end
end Dv

set_option Elab.async false
set_option linter.all false
set_option maxRecDepth 100000
set_option maxHeartbeats 1000000
namespace Dv
open PySem PySem.Spec L2
open PyProof.Rows hiding St

/-! ### list(x), str(i), f-strings, max, min -/
def listK : List D → Res (List D)
  | [.lst ds] => .ok ds
  | [.tup ds] => .ok ds
  | _ => .stuck
def strK : List D → Res D
  | [.int i] => if i.natAbs.log2 < 1920 then .ok (.str (toString i : Str)) else .stuck
  | _ => .stuck
def maxK : List D → Res D
  | [.int i, .int j] => .ok (.int (if j > i then j else i))
  | _ => .stuck
def minK : List D → Res D
  | [.int i, .int j] => .ok (.int (if j < i then j else i))
  | _ => .stuck
section
variable {K : PySem.W.Frag} {s s' : Bool}
theorem cas_str : CaS K s s' (fun xs H Q => ∃ i, xs = [.int i] ∧ i.natAbs.log2 < 1920 ∧ Q (.str (toString i)) H) strK := by
  intro N M ι W σ H vs ds Q r q
  cases ds with
  | nil => exact False.elim q
  | cons d ds =>
    cases ds with
    | cons _ _ => cases d <;> exact False.elim q
    | nil =>
      obtain ⟨v, ev, r0⟩ := r.one
      subst ev
      cases d with
      | int i =>
        have q' : PostG K N M ι W σ H (fun d H' => ∀ w, Rep K H' N M ι s' w d → Q w H') (if i.natAbs.log2 < 1920 then .ok (.str (toString i : Str)) else .stuck) := q
        cases (show v = .int i from r0)
        by_cases h : i.natAbs.log2 < 1920
        · rw [if_pos h] at q'; exact ⟨i, rfl, h, q'.now _ rfl⟩
        · rw [if_neg h] at q'; exact False.elim q'
      | _ => exact False.elim q
theorem cas_int2 {g : Int → Int → Int} {k : List D → Res D} (h1 : ∀ i j, k [.int i, .int j] = .ok (.int (g i j))) (h2 : ∀ ds, (∀ i j, ds ≠ [.int i, .int j]) → k ds = .stuck) : CaS K s s' (fun xs H Q => ∃ i j, xs = [.int i, .int j] ∧ Q (.int (g i j)) H) k := by
  intro N M ι W σ H vs ds Q r q
  by_cases h : ∃ i j, ds = [.int i, .int j]
  · obtain ⟨i, j, rfl⟩ := h
    obtain ⟨v, u, rfl, r1, r2⟩ := r.two
    rw [h1] at q
    cases (show v = .int i from r1)
    cases (show u = .int j from r2)
    exact ⟨i, j, rfl, q.now _ rfl⟩
  · rw [h2 ds fun i j z => h ⟨i, j, z⟩] at q; exact False.elim q
theorem cas_max : CaS K s s' (fun xs H Q => ∃ i j, xs = [.int i, .int j] ∧ Q (.int (if j > i then j else i)) H) maxK := cas_int2 (g := fun i j => if j > i then j else i) (fun _ _ => rfl) fun ds h => by
  unfold maxK
  split
  · exact absurd rfl (h _ _)
  · rfl
theorem cas_min : CaS K s s' (fun xs H Q => ∃ i j, xs = [.int i, .int j] ∧ Q (.int (if j < i then j else i)) H) minK := cas_int2 (g := fun i j => if j < i then j else i) (fun _ _ => rfl) fun ds h => by
  unfold minK
  split
  · exact absurd rfl (h _ _)
  · rfl
end
section
variable {X : Cx} {G : Sg} {W : WX} {s s' : Bool} {e a b : Expr} {es : List Expr} {f g : Rho → Res D} {fs : Rho → Res (List D)} {pos p : Pos} {x : Str}
theorem je_str1 (hg : Gl X "str") (hm : X.mg "str" = none) (ha : JA X G W s [a] fs) (he : starEach [a] X.env = (false, eval a X.env) :: starEach [] X.env := by rfl) (hpl : (backTo pos (starEach [] X.env)).any (·.1) = false := by rfl) :
    JE X G W s' (.Call (.Name "str" p) [a] [] pos) (e1 fs strK) := je_callTy call_str_int cas_str hg hm (by decide +kernel) ha (by decide) (by decide) he hpl
theorem je_max (hc : X.calm = true) (hg : Gl X "max") (hm : X.mg "max" = none) (ha : JA X G W s [a, b] fs) (he : starEach [a, b] X.env = (false, eval a X.env) :: starEach [b] X.env := by rfl) (hpl : (backTo pos (starEach [b] X.env)).any (·.1) = false := by rfl) :
    JE X G W s' (.Call (.Name "max" p) [a, b] [] pos) (e1 fs maxK) := je_callB (call_max2 hc) cas_max hg hm (by decide +kernel) ha (by decide) (by decide) he hpl
theorem je_min (hc : X.calm = true) (hg : Gl X "min") (hm : X.mg "min" = none) (ha : JA X G W s [a, b] fs) (he : starEach [a, b] X.env = (false, eval a X.env) :: starEach [b] X.env := by rfl) (hpl : (backTo pos (starEach [b] X.env)).any (·.1) = false := by rfl) :
    JE X G W s' (.Call (.Name "min" p) [a, b] [] pos) (e1 fs minK) := je_callB (call_min2 hc) cas_min hg hm (by decide +kernel) ha (by decide) (by decide) he hpl
theorem jn_list (hg : Gl X "list") (hm : X.mg "list" = none) (ha : JA X G W true [a] fs) (he : starEach [a] X.env = (false, eval a X.env) :: starEach [] X.env := by rfl) (hpl : (backTo pos (starEach [] X.env)).any (·.1) = false := by rfl) :
    JN X G W (.Call (.Name "list" p) [a] [] pos) (e1 fs listK) :=
  PE.imp (pe_callTy call_list_of hg hm (by decide +kernel) ha (by decide) (by decide) he hpl) fun σ H Q ⟨P, ρ, S, q⟩ => ⟨P, ρ, S, (PostG.bind q).imp fun ds H1 e1 q1 vs rs => by
    cases ds with
    | nil => exact False.elim q1
    | cons d ds =>
      cases ds with
      | cons _ _ => cases d <;> exact False.elim q1
      | nil =>
        obtain ⟨v, ev, r0⟩ := rs.one
        subst ev
        have fr : ∀ {l : Addr}, H1 l = none → H l = none := fun h => e1.free h
        cases d with
        | lst ds =>
          obtain ⟨p, vs, rfl, h1, h2, h3⟩ := r0
          exact ⟨p, vs, rfl, .inl h2, fun l hl => q1 _ (same_new hl) l vs (fr hl) upd_same ((Reps.apart hl h3).same (same_new hl))⟩
        | tup ds =>
          obtain ⟨p, vs, rfl, h2, h3⟩ := r0
          exact ⟨p, vs, rfl, .inr h2, fun l hl => q1 _ (same_new hl) l vs (fr hl) upd_same ((Reps.apart hl h3).same (same_new hl))⟩
        | _ => exact False.elim q1⟩
/-! a list that may be lent is copied: its items without lists -/
theorem jn_listF (hg : Gl X "list") (hm : X.mg "list" = none) (ha : JA X G W false [a] fs) (he : starEach [a] X.env = (false, eval a X.env) :: starEach [] X.env := by rfl) (hpl : (backTo pos (starEach [] X.env)).any (·.1) = false := by rfl) :
    JN X G W (.Call (.Name "list" p) [a] [] pos) (e1 fs fun ds => (listK ds).bind fun ys => if flats ys = true then .ok ys else .stuck) :=
  PE.imp (pe_callTy call_list_of hg hm (by decide +kernel) ha (by decide) (by decide) he hpl) fun σ H Q ⟨P, ρ, S, q⟩ => ⟨P, ρ, S, (PostG.bind q).imp fun ds H1 e1 q1 vs rs => by
    cases ds with
    | nil => exact False.elim q1
    | cons d ds =>
      cases ds with
      | cons _ _ => cases d <;> exact False.elim q1
      | nil =>
        obtain ⟨v, ev, r0⟩ := rs.one
        subst ev
        have fr : ∀ {l : Addr}, H1 l = none → H l = none := fun h => e1.free h
        cases d with
        | lst ds =>
          obtain ⟨p, vs, rfl, h1, h2, h3⟩ := r0
          have q2 : PostN X.K G P W σ H1 (fun v H' => Q v H') (if flats ds = true then .ok ds else .stuck) := q1.imp fun ds H' e' k p vs hp hl r => k p vs (fr hp) hl r
          by_cases hf : flats ds = true
          · rw [if_pos hf] at q2
            exact ⟨p, vs, rfl, .inl h2, fun l hl => q2 _ (same_new hl) l vs hl upd_same ((Reps.flat ds vs hf h3).same (same_new hl))⟩
          · rw [if_neg hf] at q2; exact False.elim q2
        | tup ds =>
          obtain ⟨p, vs, rfl, h2, h3⟩ := r0
          have q2 : PostN X.K G P W σ H1 (fun v H' => Q v H') (if flats ds = true then .ok ds else .stuck) := q1.imp fun ds H' e' k p vs hp hl r => k p vs (fr hp) hl r
          by_cases hf : flats ds = true
          · rw [if_pos hf] at q2
            exact ⟨p, vs, rfl, .inr h2, fun l hl => q2 _ (same_new hl) l vs hl upd_same ((Reps.flat ds vs hf h3).same (same_new hl))⟩
          · rw [if_neg hf] at q2; exact False.elim q2
        | _ => exact False.elim q1⟩
/-! f-strings -/
def fmtK : D → Res D
  | .str y => if y.length ≤ line then .ok (.str y) else .stuck
  | .int i => if i.natAbs.log2 < 1920 then .ok (.str (toString i : Str)) else .stuck
  | _ => .stuck
theorem je_fmt (ha : JE X G W s a f) : JE X G W s' (.FormattedValue a (-1) none pos) (e1 f fmtK) := PE.imp (pe_fmt ha) fun σ H Q ⟨P, ρ, S, q⟩ => ⟨P, ρ, S, (PostG.bind q).imp fun d H1 e1 q1 v r => by
  cases d with
  | str y =>
    have q' : PostE X.K G P W s' σ H1 Q (if y.length ≤ line then .ok (.str y) else .stuck) := q1
    by_cases h : y.length ≤ line
    · rw [if_pos h] at q'; exact .inl ⟨y, r, by rw [← line_eq]; exact h, q'.now _ rfl⟩
    · rw [if_neg h] at q'; exact False.elim q'
  | int i =>
    have q' : PostE X.K G P W s' σ H1 Q (if i.natAbs.log2 < 1920 then .ok (.str (toString i : Str)) else .stuck) := q1
    by_cases h : i.natAbs.log2 < 1920
    · rw [if_pos h] at q'; exact .inr ⟨i, r, h, q'.now _ rfl⟩
    · rw [if_neg h] at q'; exact False.elim q'
  | _ => exact False.elim q1⟩
/-- the parts, one behind the other -/
inductive JP (X : Cx) (G : Sg) (W : WX) : List Expr → List (Rho → Res D) → Prop where
  | nil : JP X G W [] []
  | cons {e : Expr} {f : Rho → Res D} {es : List Expr} {fs : List (Rho → Res D)} (h : JE X G W true e f) (r : JP X G W es fs) : JP X G W (e :: es) (f :: fs)
def catP : List (Rho → Res D) → Str → Rho → Res Str
  | [], acc, _ => .ok acc
  | f :: fs, acc, ρ => ((f ρ).bind asStr).bind fun y => if (acc ++ y).length ≤ line then catP fs (acc ++ y) ρ else .stuck
theorem JP.pj {es : List Expr} {fs : List (Rho → Res D)} (h : JP X G W es fs) : PJ X es (fs.map fun f => tE X.K G W true f) := by
  induction h with
  | nil => exact .nil
  | cons h r ih => exact .cons h ih
theorem catP_t {K : PySem.W.Frag} : ∀ {fs : List (Rho → Res D)} {acc : Str} {P : Pl} {ρ : Rho} {σ : L2.St} {H : Hp} {Q : Str → Hp → Prop}, Sim K G P ρ σ H → PostG K (G.N P) (G.M P) P.c W σ H Q (catP fs acc ρ) → tJs (fs.map fun f => tE K G W true f) acc σ H Q
  | [], acc, P, ρ, σ, H, Q, S, q => q.now
  | f :: fs, acc, P, ρ, σ, H, Q, S, q => ⟨P, ρ, S, (PostG.bind (PostG.bind q)).imp fun d H1 e1 q1 v r => by
    cases d with
    | str y =>
      have q2 : PostG K (G.N P) (G.M P) P.c W σ H1 Q (if (acc ++ y).length ≤ line then catP fs (acc ++ y) ρ else .stuck) := q1.now
      by_cases h : (acc ++ y).length ≤ line
      · rw [if_pos h] at q2
        exact ⟨y, r, by rw [← line_eq]; exact h, catP_t (S.same e1) q2⟩
      · rw [if_neg h] at q2; exact False.elim q2
    | _ => exact False.elim q1⟩
def eFs (fs : List (Rho → Res D)) : Rho → Res D := fun ρ => (catP fs Str.empty ρ).bind fun y => .ok (.str y)
theorem je_fstr {v1 v2 : Expr} {rest : List Expr} {fs : List (Rho → Res D)} (h : JP X G W (v1 :: v2 :: rest) fs) : JE X G W s' (.JoinedStr (v1 :: v2 :: rest) pos) (eFs fs) :=
  PE.imp (pe_joined h.pj) fun σ H Q ⟨P, ρ, S, q⟩ => catP_t S ((PostG.bind q).imp fun y H1 e1 q1 => q1.now _ rfl)
/-! ### isinstance -/
structure InsC (K : PySem.W.Frag) (C : Addr) : Prop where
  cl : Cls K C
  ca : PySem.W.findIn K (.ref C) "__class__" = some (some (.builtin "object.__class__"))
  cn : PySem.W.specialIn K (.builtin "object.__class__") "__get__" = some (some (.builtin "getset_descriptor.__get__"))
  ct : PySem.W.takesIn K (.builtin "object.__class__") = some true
  cm : PySem.W.mroIn K C (.type "object") = some true
def lookS : List (String × Bool) → String → Option Bool
  | [], _ => none
  | (a, b) :: r, C => if C = a then some b else lookS r C
theorem lookS_nil {P : String → Bool → Prop} : ∀ C b, lookS [] C = some b → P C b := fun C b h => by cases h
theorem lookS_cons {P : String → Bool → Prop} {a : String} {b : Bool} {r : List (String × Bool)} (h : P a b) (t : ∀ C b, lookS r C = some b → P C b) : ∀ C b', lookS ((a, b) :: r) C = some b' → P C b' := fun C b' e => by
  unfold lookS at e
  by_cases c : C = a
  · rw [if_pos c] at e
    cases e
    rw [c]; exact h
  · rw [if_neg c] at e; exact t C b' e
def isG (ti : Addr → Option Bool) (tb : String → Option Bool) : D → Res D
  | .ins C _ _ => match ti C with
    | some b => .ok (.bl b)
    | none => .stuck
  | d => match (tyOf d).bind tb with
    | some b => .ok (.bl b)
    | none => .stuck
theorem je_isG {c : Expr} {vc : V} {cv : Value} {ti : Addr → Option Bool} {tb : String → Option Bool} (ha : JE X G W s a f) (hc : PE X c (tC vc)) (hcv : ClsV vc cv) (hti : ∀ C b, ti C = some b → InsC X.K C ∧ PySem.W.kitOne X.K (.ref C) cv = some b) (htb : ∀ T b, tb T = some b → PySem.W.kitOne X.K (.type T) cv = some b)
    (hg : Gl X "isinstance") (hm : X.mg "isinstance" = none) (he : starEach [a, c] X.env = (false, eval a X.env) :: starEach [c] X.env := by rfl) (he2 : starEach [c] X.env = (false, eval c X.env) :: starEach [] X.env := by rfl) (hpl : (backTo pos (starEach [c] X.env)).any (·.1) = false := by rfl) :
    JE X G W s' (.Call (.Name "isinstance" p) [a, c] [] pos) (e1 f (isG ti tb)) :=
  PE.imp (pe_callB call_isi hg hm (by decide +kernel) (pa_cons ha (pa_cons hc pa_nil he2) he) (by decide) (by decide) he hpl) fun σ H Q ⟨P, ρ, S, q⟩ => ⟨P, ρ, S, (PostG.bind q).imp fun d H1 e1 q1 v r => by
    have fin : ∀ {t : Value} {b : Bool}, TyX X.K H1 v t → PySem.W.kitOne X.K t cv = some b → PostE X.K G P W s' σ H1 Q (.ok (.bl b)) → ∃ (x c : V) (t u : Value) (b : Bool), [v, vc] = [x, c] ∧ ClsV c u ∧ TyX X.K H1 x t ∧ PySem.W.kitOne X.K t u = some b ∧ Q (.bl b) H1 := fun ht hk q => ⟨v, vc, _, cv, _, rfl, hcv, ht, hk, q.now _ rfl⟩
    have bt : (∀ t, tyOf d = some t → TyX X.K H1 v (.type t)) → (PostE X.K G P W s' σ H1 Q (match (tyOf d).bind tb with | some b => .ok (.bl b) | none => .stuck)) → ∃ (x c : V) (t u : Value) (b : Bool), [v, vc] = [x, c] ∧ ClsV c u ∧ TyX X.K H1 x t ∧ PySem.W.kitOne X.K t u = some b ∧ Q (.bl b) H1 := fun hT q => by
      cases et : tyOf d with
      | none => rw [et] at q; exact False.elim q
      | some t =>
        rw [et] at q
        have q' : PostE X.K G P W s' σ H1 Q (match tb t with | some b => .ok (.bl b) | none => .stuck) := q
        cases eb : tb t with
        | none => rw [eb] at q'; exact False.elim q'
        | some b => rw [eb] at q'; exact fin (hT t et) (htb t b eb) q'
    have hT : ∀ t, tyOf d = some t → TyX X.K H1 v (.type t) := fun t et => Rep.tyX et r
    cases d with
    | ins C fn ds =>
      have q' : PostE X.K G P W s' σ H1 Q (match ti C with | some b => .ok (.bl b) | none => .stuck) := q1
      cases eb : ti C with
      | none => rw [eb] at q'; exact False.elim q'
      | some b =>
        rw [eb] at q'
        obtain ⟨I, hk⟩ := hti C b eb
        obtain ⟨p, dx, fs, rfl, _, h2, _⟩ := r
        exact fin (.base (.ins h2 I.cl I.ca I.cn I.ct I.cm)) hk q'
    | non => exact bt hT q1
    | bl b => exact bt hT q1
    | int b => exact bt hT q1
    | str b => exact bt hT q1
    | tup b => exact bt hT q1
    | lst b => exact bt hT q1
    | ty b => exact bt hT q1
    | ob b => exact bt hT q1
    | rf b => exact bt hT q1⟩
/-! ### raise X('..'), X an own error without __init__ -/
def mkP (C : Addr) : Rho → Res Exn := fun _ => .ok ⟨C, [], []⟩
theorem jm_own {x m : Str} {j : Nat} {p p2 pos : Pos} {C : Addr} {bmB : List Value} {B newId initId : String} (F : ExcBaseFacts B newId initId bmB) (q : PySem.W.excIn X.K C bmB newId = true) (gC : X.mg x = some (.ref C)) (kC : PySem.W.keepIn X.K (.ref C) = true) (r : Raises X (.ref C)) (hg : Gl X x)
    (hdb : (x == ("__debug__" : Str)) = false := by decide) : JM X G W (.Call (.Name x p) [.Constant (.str m) j p2] [] pos) (mkP C) := by
  have h0 := pmk_own (X := X) (x := x) (m := m) (j := j) (p := p) (p2 := p2) (pos := pos) F q gC kC r hg hdb
  intro pins s σ H Q I hq
  refine h0 pins s σ H Q I ?_
  obtain ⟨P, ρ, S, q⟩ := hq
  exact q.now _ none ⟨rfl, rfl, rfl⟩ fun _ _ => .inr (.inr trivial)
/-! ### try .. except X: without a name -/
def catchN (cm : Addr → Option Bool) (gh : Rho → Out) : Out → Out
  | .ex x ρ => match cm x.C with
    | some true => match gh ρ with
      | .ex _ _ => .stuck
      | o => o
    | some false => .ex x ρ
    | none => .stuck
  | o => o
def sTryN (cm : Addr → Option Bool) (gb gh : Rho → Out) : Rho → Out := fun ρ => catchN cm gh (gb ρ)
theorem js_try_only {Wout : WX} {x : Str} {c : Value} {body suite : List Stmt} {b₀ : Stmt} {np pos pos' : Pos} {gb gh : Rho → Out} {cm : Addr → Option Bool} (hs : X.stack = X.env :: X.outer) (hf : X.env.frame = some X.env.locals) (hc : Names X x c) (tk : Takes X Wout)
    (hcm : ∀ C b, cm C = some b → PySem.W.exmOne X.K (.ref C) c = some b)
    (hb : ∀ (W : WX) (pn : List (Addr × Obj)) (xe : Value → Shared → Prop), Takes (X.tr pn xe) W → PassesOwn (model X.prog X.w) X.A X.env xe → JB (X.tr pn xe) G W body gb)
    (hsu : ∀ (a : Addr) (oe : Obj) (cls : Value) (d : Option Addr) (pn : List (Addr × Obj)), Zc cls d oe → (∃ vs, oe.data = .fields vs) → JB (X.suite a ((a, oe) :: pn)) G (fun _ _ _ _ => False) (b₀ :: suite) gh) :
    JS X G Wout (.Try body [.ExceptHandler (some (.Name x np)) none (b₀ :: suite) pos'] [] [] pos) (sTryN cm gb gh) := by
  refine PS.imp (ps_try_only (tb := fun W => tS X.K G W gb) (ts := fun a cls d => tS X.K G (fun _ _ _ _ => False) gh) (Wout := Wout) hs hf hc tk hb hsu) fun Q σ H ⟨P, ρ, S, q⟩ => ⟨P, ρ, S, ?_⟩
  have q' : PostS X.K G Wout Q (catchN cm gh (gb ρ)) := q
  cases eo : gb ρ with
  | nx ρ' => rw [eo] at q'; exact q'
  | rt d ρ' => rw [eo] at q'; exact q'
  | bk ρ' => rw [eo] at q'; exact q'
  | ct ρ' => rw [eo] at q'; exact q'
  | stuck => rw [eo] at q'; exact q'
  | ex xx ρ' =>
    rw [eo] at q'
    have q2 : PostS X.K G Wout Q (match cm xx.C with
      | some true => (match gh ρ' with | .ex _ _ => .stuck | o => o)
      | some false => .ex xx ρ'
      | none => .stuck) := q'
    intro P1 σ1 H1 cls od S1 xr
    have ecls := xr.1
    cases ec : cm xx.C with
    | none => rw [ec] at q2; exact False.elim q2
    | some b =>
      rw [ec] at q2
      refine ⟨b, by rw [ecls]; exact hcm _ _ ec, fun hbt a ha => ?_, fun hbf => ?_⟩
      · subst hbt
        refine ⟨P1, ρ', S1, ?_⟩
        dsimp only at q2
        cases eh : gh ρ' with
        | nx ρ2 => rw [eh] at q2; exact q2
        | bk ρ2 => rw [eh] at q2; exact q2
        | ct ρ2 => rw [eh] at q2; exact q2
        | rt d ρ2 => rw [eh] at q2; exact q2
        | ex y ρ2 => rw [eh] at q2; exact False.elim q2
        | stuck => rw [eh] at q2; exact False.elim q2
      · subst hbf
        exact q2 P1 σ1 H1 cls od S1 xr
/-! ### xs.clear(), xs.reverse() -/
theorem js_clear {apos cpos pos' : Pos} (i : Nat) (hx : PE X (.Name x pos') (tVar i)) (hb : attributeBase (.Name x pos') "clear" X.env (eval (.Name x pos') X.env) = eval (.Name x pos') X.env := by rfl) (hl : (apos.endLine == cpos.line) = true := by rfl)
    (hs : swapsWith (.Call (.Attribute (.Name x pos') "clear" apos) [] [] cpos) none pos.line X.env = pure false := by rfl) :
    JS X G W (.Expr (.Call (.Attribute (.Name x pos') "clear" apos) [] [] cpos) pos) (sMut i aNil clrK) :=
  js_mut0 (r := fun x vs H Q => vs = [] ∧ rClear x [] H Q) (fun to ho => PE.imp (pe_bm0 PySem.F.plainAttrs_list PySem.F.slot_list_clear PySem.F.type_list_clear mt_clear ho hb hl) fun σ H Q h => by
    have h' : to σ H fun x H1 => tyV X.K "list" x H1 ∧ (([] : List V) = [] ∧ rClear x [] H1 Q) := h
    show to σ H fun x H1 => tyV X.K "list" x H1 ∧ rClear x [] H1 Q
    simpa using h') mts_clear i hx hs
def revK : List D → List D → Res (List D)
  | ds, [] => .ok ds.reverse
  | _, _ => .stuck
theorem mts_reverse {K : PySem.W.Frag} : MtS K (fun x vs H Q => vs = [] ∧ rReverse x [] H Q) revK := by
  intro N M ι W σ H p vs as ds es Q hp r ra q
  cases es with
  | nil => exact ⟨ra, p, vs, rfl, rfl, hp, q.now _ r.reverse⟩
  | cons _ _ => exact False.elim q
theorem js_reverse {apos cpos pos' : Pos} (i : Nat) (hx : PE X (.Name x pos') (tVar i)) (hb : attributeBase (.Name x pos') "reverse" X.env (eval (.Name x pos') X.env) = eval (.Name x pos') X.env := by rfl) (hl : (apos.endLine == cpos.line) = true := by rfl)
    (hs : swapsWith (.Call (.Attribute (.Name x pos') "reverse" apos) [] [] cpos) none pos.line X.env = pure false := by rfl) :
    JS X G W (.Expr (.Call (.Attribute (.Name x pos') "reverse" apos) [] [] cpos) pos) (sMut i aNil revK) :=
  js_mut0 (r := fun x vs H Q => vs = [] ∧ rReverse x [] H Q) (fun to ho => PE.imp (pe_bm0 PySem.F.plainAttrs_list PySem.F.slot_list_reverse PySem.F.type_list_reverse mt_reverse ho hb hl) fun σ H Q h => by
    have h' : to σ H fun x H1 => tyV X.K "list" x H1 ∧ (([] : List V) = [] ∧ rReverse x [] H1 Q) := h
    show to σ H fun x H1 => tyV X.K "list" x H1 ∧ rReverse x [] H1 Q
    simpa using h') mts_reverse i hx hs
end
end Dv

set_option Elab.async false
set_option linter.all false
set_option maxRecDepth 100000
set_option maxHeartbeats 1000000
namespace L2
open PySem PySem.Spec PyProof.Rows
section
variable {X : Cx} {CX : CXT} {k : Nat} {f C : Addr} {fd : FuncData} {ps : List Str} {sp : Sp} {E : St → XK} {x m : Str} {p pos apos : Pos} {e o : Expr} {es : List Expr} {ta : TE} {t : TA}
/-- o.m(e, ..) where what is raised is wished for at the caller's slots -/
def dv_tMeth (C : Addr) (m : Str) (sp : Sp) (E : St → XK) (ta : TE) (t : TA) : TE := fun σ H Q => ta σ H fun x H1 => ∃ a dx fs, x = .ref a ∧ H1 a = some (.ins C dx fs) ∧ fs.lookup m = none ∧ t σ H1 fun vs H2 => sp (.ref a :: vs) H2 Q (E σ)
theorem dv_pe_meth {pl : Sem Bool} (he : PE X o ta) (c : Cls X.K C) (hm : Meth X.K C m f) (F : FnOk X.prog X.w X.K X.mg X.base CX k f fd ps sp) (hr : Room k X.A) (hb : Binds X.K fd ps []) (hx : ∀ σ, PassesAt CX X σ (E σ)) (ha : PA X (e :: es) t)
    (hst : starEach (e :: es) X.env = (false, eval e X.env) :: starEach es X.env := by rfl) (hpl : (backTo pos (starEach es X.env)).any (·.1) = false := by rfl)
    (ht : eval (.Call (.Attribute o m apos) (e :: es) [] pos) X.env = (do
      let ov ← eval o X.env
      standAt apos.atName
      let (f, first) ← holding [ov] (getMethod ov m pl)
      callWith pos f first (backTo pos (starEach (e :: es) X.env)) (backToKw pos (keywordEach [] X.env))) := by rfl) :
    PE X (.Call (.Attribute o m apos) (e :: es) [] pos) (dv_tMeth C m sp E ta t) := by
  refine ⟨fun pins s σ H Q I h => ?_⟩
  refine PySem.W.methodCall_KW (pl := pl) (thn (he.run pins s σ H _ I h) fun u s1 ⟨x, H1, I1, rx, a, dx, fs, ex, ea, l, q⟩ => ?_) ht
  subst ex
  obtain rfl : u = Value.ref a := rx
  refine getmeth_ok I1 ea c hm l ?_
  refine PySem.W.callWith_K (first := [.ref a]) (h₀ := X.base) I.ok.mod.kin hm.kp (thn (ha.run pos pins s1 σ H1 _ I1 q) fun us s2 ⟨vs, H2, I2, r, q2⟩ => ⟨I2.kIn, ?_⟩) hst hpl
  exact run_fnS (us := .ref a :: us) (vs := .ref a :: vs) F hr hb (hx σ) I2 (.cons rfl r) q2
theorem dv_pe_meth0 {pl : Sem Bool} (he : PE X o ta) (c : Cls X.K C) (hm : Meth X.K C m f) (F : FnOk X.prog X.w X.K X.mg X.base CX k f fd ps sp) (hr : Room k X.A) (hb : Binds X.K fd ps []) (hx : ∀ σ, PassesAt CX X σ (E σ))
    (ht : eval (.Call (.Attribute o m apos) [] [] pos) X.env = (do
      let ov ← eval o X.env
      standAt apos.atName
      let (f, first) ← holding [ov] (getMethod ov m pl)
      callWith pos f first (backTo pos (starEach [] X.env)) (backToKw pos (keywordEach [] X.env))) := by rfl) :
    PE X (.Call (.Attribute o m apos) [] [] pos) (dv_tMeth C m sp E ta tNil) := by
  refine ⟨fun pins s σ H Q I h => ?_⟩
  refine PySem.W.methodCall_KW (pl := pl) (thn (he.run pins s σ H _ I h) fun u s1 ⟨x, H1, I1, rx, a, dx, fs, ex, ea, l, q⟩ => ?_) ht
  subst ex
  obtain rfl : u = Value.ref a := rx
  refine getmeth_ok I1 ea c hm l ?_
  refine PySem.W.callWith_K0 (first := [.ref a]) I1.kIn hm.kp ?_
  exact run_fnS (us := [.ref a]) (vs := [.ref a]) F hr hb (hx σ) I1 (.cons rfl .nil) q
end
end L2
namespace Dv
open PySem PySem.Spec L2
open PyProof.Rows hiding St

section
variable {X : Cx} {G : Sg} {W : WX} {elt tg iter : Expr} {scope : Scope} {own : List (Str × Nat)} {pos spos py : Pos} {fi : Rho → Res (List D)} {g : TG} {t : D → Rho → Option Rho} {f : Rho → Res D} {y : Str}
theorem js_setLcS (i : Nat) (hc : X.calm = true) (hN : X.N.Nodup) (hy : X.N[i]? = some y) (hyl : X.env.scope.names.lookup y = some .local)
    (hsw : swapsWith (.ListComp elt [⟨tg, iter, [], 0⟩] scope pos) (some (.Name y py)) spos.line X.env = pure true) (hi : JI X G W true tg iter fi) (ok : BlkOk X.N X.env.scope scope own) (ht : TgOk X.K g (own.map (·.2)) t)
    (hg : ∀ (s : Shared) (H : Hp) (C : Addr) (cl : List (Str × Addr)) (fp : List Addr), PG (X.blk s H scope (compEnvC scope cl C X.env) fp) tg g)
    (he : ∀ (G' : Sg) (s : Shared) (H : Hp) (C : Addr) (cl : List (Str × Addr)) (fp : List Addr), JE (X.blk s H scope (compEnvC scope cl C X.env) fp) G' (fun _ _ _ _ => False) true elt f) (hs : ∀ x, foldedSetIterable iter X.env x = pure x := by intro _; rfl) :
    JS X G W (.Assign [.Name y py] (.ListComp elt [⟨tg, iter, [], 0⟩] scope pos) spos) (sSet i (toL (eLc (own.map (·.2)) fi t f))) :=
  PS.imp (ps_setLc hc hN hy hyl hsw hi ok hg (tt := tYes) (te := fun σ H Q => ∃ (G' : Sg) (P : Pl) (ρ : Rho) (y : D), Sim X.K G' P ρ σ H ∧ f ρ = .ok y ∧ ∀ H' v, Same H H' → Rep X.K H' (G'.N P) (G'.M P) P.c true v y → Q v H') (fun _ _ _ _ _ => pts_nil)
    (fun s H C cl fp => ⟨fun pins s' σ H' Q I ⟨G', P, ρ, y, S, e, k⟩ => (he G' s H C cl fp).run pins s' σ H' Q I ⟨P, ρ, S, by rw [e]; exact fun H2 e2 v r => k H2 v e2 r⟩⟩) hs) fun Q σ H ⟨P, ρ, S, q⟩ => by
    have q0 : PostN X.K G P W σ H (fun v H1 => gName i v σ H1 Q.nx) (eLc (own.map (·.2)) fi t f ρ) := (PostG.bind (andThen_post S q)).imp fun ds H' e q p vs hp hl r => by
      obtain ⟨P', S', _⟩ := (S.same e).setSh i (d := .lst ds) (v := .ref p) ⟨p, vs, rfl, fun _ => ⟨hl, S.newN hp⟩, SqL.of hl, r.weak (fun a z => .inl z) fun a z => z⟩
      exact q.now P' _ H' S'
    unfold eLc at q0
    by_cases hno : isNo ρ (own.map (·.2)) = true
    · rw [if_pos hno] at q0
      refine ⟨P, ρ, S, (PostG.bind q0).imp fun ds H1 e1 q1 J gh hgh hJ => ?_⟩
      unfold ckLen at q1
      by_cases hl : ds.length ≤ line
      · rw [if_pos hl] at q1
        exact lc_post (Q := fun v H1 => gName i v σ H1 Q.nx) (te := fun σ H Q => ∃ (G' : Sg) (P : Pl) (ρ : Rho) (y : D), Sim X.K G' P ρ σ H ∧ f ρ = .ok y ∧ ∀ H' v, Same H H' → Rep X.K H' (G'.N P) (G'.M P) P.c true v y → Q v H') S e1 hno hgh hJ hl ht (fun G' P ρ σ H Q y S e k => ⟨G', P, ρ, y, S, e, k⟩) (q1.imp fun zs H' e' k p vs h1 h2 h3 => k p vs (by
          cases z : H p with
          | none => rfl
          | some o => rw [e1 _ _ z] at h1; cases h1) h2 h3)
      · rw [if_neg hl] at q1; exact False.elim q1
    · rw [if_neg hno] at q0; exact False.elim q0
end
section
variable {X : Cx} {G : Sg} {W : WX} {s s' : Bool} {e a b o : Expr} {es : List Expr} {f g : Rho → Res D} {fs : Rho → Res (List D)} {pos p apos : Pos} {x m : Str} {k : Nat} {C0 fa : Addr} {fd : FuncData} {ps : List Str} {ss : List Bool} {F : List D → Res D}
/-- o.m(..) -/
def methK (C0 : Addr) (m : Str) (F : List D → Res D) (r : Res (List D)) : D → Res D
  | .ins C fn xs => if C = C0 ∧ fn.contains m = false then r.bind fun ds => F (.ins C fn xs :: ds) else .stuck
  | _ => .stuck
def eMeth (C0 : Addr) (m : Str) (F : List D → Res D) (f : Rho → Res D) (fs : Rho → Res (List D)) : Rho → Res D := fun ρ => (f ρ).bind (methK C0 m F (fs ρ))
theorem look_none {fn : List Str} {m : Str} (h : fn.contains m = false) : ∀ {fs : List (Str × V)}, fs.map (·.1) = fn → fs.lookup m = none := by
  induction fn with
  | nil => intro fs e; rw [List.map_eq_nil_iff.mp e]; rfl
  | cons g fn ih =>
    intro fs e
    cases fs with
    | nil => rfl
    | cons z fs =>
      obtain ⟨e1, e2⟩ := List.cons.inj e
      rw [List.contains_cons, Bool.or_eq_false_iff] at h
      show (match m == z.1 with | true => some z.2 | false => fs.lookup m) = none
      rw [show z.1 = g from e1, h.1]
      exact ih h.2 e2
theorem meth_post {K : PySem.W.Frag} {P : Pl} {ρ : Rho} {σ : L2.St} {H1 : Hp} {v : V} {d : D} {Q : VK} {r : Res (List D)} (S : Sim K G P ρ σ H1) (rv : Rep K H1 (G.N P) (G.M P) P.c s v d) (q : PostG K (G.N P) (G.M P) P.c W σ H1 (fun d H' => ∀ v, Rep K H' (G.N P) (G.M P) P.c s' v d → Q v H') (methK C0 m F r d)) :
    ∃ a dx fs, v = .ref a ∧ H1 a = some (.ins C0 dx fs) ∧ fs.lookup m = none ∧ PostG K (G.N P) (G.M P) P.c W σ H1 (fun ds H2 => PostG K (G.N P) (G.M P) P.c W σ H2 (fun d H' => ∀ v, Rep K H' (G.N P) (G.M P) P.c s' v d → Q v H') (F (d :: ds))) r := by
  cases d with
  | ins C fn ds =>
    have q' : PostG K (G.N P) (G.M P) P.c W σ H1 (fun d H' => ∀ v, Rep K H' (G.N P) (G.M P) P.c s' v d → Q v H') (if C = C0 ∧ fn.contains m = false then r.bind fun es => F (.ins C fn ds :: es) else .stuck) := q
    by_cases hc : C = C0 ∧ fn.contains m = false
    · rw [if_pos hc] at q'
      obtain ⟨rfl, hn⟩ := hc
      obtain ⟨a, dx, fs, rfl, _, h2, h3, _⟩ := rv
      exact ⟨a, dx, fs, rfl, h2, look_none hn h3, PostG.bind q'⟩
    · rw [if_neg hc] at q'; exact False.elim q'
  | _ => exact False.elim q
theorem je_meth {pl : Sem Bool} (c : Cls X.K C0) (hm : Meth X.K C0 m fa) (hF : FnOk X.prog X.w X.K X.mg X.base (L2.CX X.prog X.w) k fa fd ps (spD X.K (s :: ss) F)) (hr : Room k X.A) (hb : Binds X.K fd ps []) (tk : Takes X W) (ho : JE X G W s o f) (ha : JF X G W ss (e :: es) fs)
    (hst : starEach (e :: es) X.env = (false, eval e X.env) :: starEach es X.env := by rfl) (hpl : (backTo pos (starEach es X.env)).any (·.1) = false := by rfl)
    (ht : eval (.Call (.Attribute o m apos) (e :: es) [] pos) X.env = (do
      let ov ← eval o X.env
      standAt apos.atName
      let (f, first) ← holding [ov] (getMethod ov m pl)
      callWith pos f first (backTo pos (starEach (e :: es) X.env)) (backToKw pos (keywordEach [] X.env))) := by rfl) :
    JE X G W s' (.Call (.Attribute o m apos) (e :: es) [] pos) (eMeth C0 m F f fs) :=
  PE.imp (dv_pe_meth (E := WE W) ho c hm hF hr hb (fun σ => passAt tk σ) ha hst hpl ht) fun σ H Q ⟨P, ρ, S, q⟩ => ⟨P, ρ, S, (PostG.bind q).imp fun d H1 e1 q1 v r => by
    obtain ⟨a, dx, fs', rfl, h2, h3, q2⟩ := meth_post (S.same e1) r q1
    exact ⟨a, dx, fs', rfl, h2, h3, P, ρ, S.same e1, q2.imp fun ds H2 e2 q3 vs rs => spD_of ((S.same e1).same e2) ⟨_, _, _, _, rfl, rfl, r.same e2, rs⟩ q3 fun d' H' v' e' k' rr => k' v' (RetV.rep ((S.same e1).same e2) rr).to⟩⟩
theorem je_meth0 {pl : Sem Bool} (c : Cls X.K C0) (hm : Meth X.K C0 m fa) (hF : FnOk X.prog X.w X.K X.mg X.base (L2.CX X.prog X.w) k fa fd ps (spD X.K [s] F)) (hr : Room k X.A) (hb : Binds X.K fd ps []) (tk : Takes X W) (ho : JE X G W s o f)
    (ht : eval (.Call (.Attribute o m apos) [] [] pos) X.env = (do
      let ov ← eval o X.env
      standAt apos.atName
      let (f, first) ← holding [ov] (getMethod ov m pl)
      callWith pos f first (backTo pos (starEach [] X.env)) (backToKw pos (keywordEach [] X.env))) := by rfl) :
    JE X G W s' (.Call (.Attribute o m apos) [] [] pos) (eMeth C0 m F f aNil) :=
  PE.imp (dv_pe_meth0 (E := WE W) ho c hm hF hr hb (fun σ => passAt tk σ) ht) fun σ H Q ⟨P, ρ, S, q⟩ => ⟨P, ρ, S, (PostG.bind q).imp fun d H1 e1 q1 v r => by
    obtain ⟨a, dx, fs', rfl, h2, h3, q2⟩ := meth_post (S.same e1) r q1
    exact ⟨a, dx, fs', rfl, h2, h3, spD_of (S.same e1) (RepsF.one r) q2.now fun d' H' v' e' k' rr => k' v' (RetV.rep (S.same e1) rr).to⟩⟩
/-! xs.pop(i), thrown away -/
def popK : List D → List D → Res (List D)
  | ds, [.int i] => match ixN ds.length i with
    | some k => if i.natAbs < 2 ^ 62 then .ok (ds.eraseIdx k) else .stuck
    | none => .stuck
  | _, _ => .stuck
end
theorem Vals.reverse' : ∀ {vs : List V} {us : List Value}, Vals vs us → Vals vs.reverse us.reverse
  | _, _, .nil => .nil
  | _, _, .cons r t => by
    rw [List.reverse_cons, List.reverse_cons]
    exact (Vals.reverse' t).append (.cons r .nil)
section
variable {X : Cx} {G : Sg} {W : WX} {a : Addr} {oe : Obj} {cls : Value} {d : Option Addr} {pn : List (Addr × Obj)} {pos p : Pos} {n : Str} {i : Nat}
/-- isinstance(e, (C1, .., Cn)), e the caught error -/
theorem je_isET {p2 tp : Pos} {x1} {es : List Expr} {cs : List V} {us : List Value} {ta : TA} {t : Addr → Option Bool} {s : Bool} (hG : G.ea = some (a, cls, d)) (hz : Zc cls d oe) (hf : ∃ vs, oe.data = .fields vs) (hx : PE (X.suite a ((a, oe) :: pn)) (.Name n p) (tVar i))
    (hc : PA (X.suite a ((a, oe) :: pn)) es ta) (hk : Paired ClsV cs us) (hta : ∀ σ H Q, Q cs H → ta σ H Q) (ht : ∀ C b, t C = some b → ErrC X.K C ∧ PySem.W.kitAny X.K (.ref C) us = some b) (hg : Gl X "isinstance") (hm : X.mg "isinstance" = none) (hcl : cs.length ≤ 100 := by simp)
    (hst : starEach [.Name n p, .Tuple es x1 tp] X.env = (false, eval (.Name n p) X.env) :: starEach [.Tuple es x1 tp] X.env := by rfl) (hst2 : starEach [.Tuple es x1 tp] X.env = (false, eval (.Tuple es x1 tp) X.env) :: starEach [] X.env := by rfl) (hpl : (backTo pos (starEach [.Tuple es x1 tp] X.env)).any (·.1) = false := by rfl) :
    JE (X.suite a ((a, oe) :: pn)) G W s (.Call (.Name "isinstance" p2) [.Name n p, .Tuple es x1 tp] [] pos) (isX i t) := by
  have cr : CallR (X.suite a ((a, oe) :: pn)) (.builtin "isinstance") (fun xs H Q => ∃ (C : Addr) (b : Bool) (fs : List (Str × V)) (q : Addr), xs = [.ref a, .ref q] ∧ H q = some (.tup cs) ∧ cls = .ref C ∧ (∀ dd, d = some dd → H dd = some (.xd fs)) ∧ ErrC X.K C ∧ PySem.W.kitAny X.K (.ref C) us = some b ∧ Q (.bl b) H) := by
    intro pins s σ H xs ws Q I r h
    obtain ⟨C, b, fs, tp', rfl, hT, rfl, hd, T, e, q⟩ := h
    cases r with
    | cons rx rr =>
      cases rr with
      | cons rt rr =>
        cases rr
        cases rx
        cases rt
        obtain ⟨hget, _⟩ := I.pin (a, oe) (List.mem_append.mpr (.inl List.mem_cons_self))
        obtain ⟨vs, hv⟩ := hf
        have nc : PySem.W.notCls oe = true := by unfold PySem.W.notCls; rw [hv] <;> rfl
        have fin : ∀ tk, EP (X.suite a ((a, oe) :: pn)) pins σ Q (.bool b) { s with toks := tk } := fun tk => ⟨.bl b, H, I.kept (t' := tk) fun _ _ z => z, rfl, q⟩
        obtain ⟨_, its, rv, o, h1, h2, n', h3⟩ := (show ObjOk X.prog X.w H s.heap tp' (.tup cs) from I.hok tp' _ hT)
        have e3 := ClsV.all hk rv
        subst e3
        obtain ⟨oc, od', dt, sl⟩ := o
        simp only at h2 h3
        subst h2 h3
        cases hdd : d with
        | none =>
          rw [hdd] at hz
          have J : PySem.W.InstAt s.heap a oe C none := ⟨hget, hz.1, nc, by rw [hz.2]; trivial⟩
          exact PySem.W.kia_tup (PySem.W.kitx_exc T.cl T.ga T.gg T.be T.ca T.cn T.ct T.cm) I.kIn J h1 e (fun z => nomatch z) fin
        | some dd =>
          rw [hdd] at hz
          have hx : ObjOk X.prog X.w H s.heap dd (.xd fs) := I.hok dd _ (hd dd hdd)
          obtain ⟨mA, hns, hr⟩ := hx
          obtain ⟨od, ho, hl⟩ := lookIn_ns hns
          have J : PySem.W.InstAt s.heap a oe C (some od) := ⟨hget, hz.1, nc, by rw [hz.2]; exact ho⟩
          exact PySem.W.kia_tup (PySem.W.kitx_exc T.cl T.ga T.gg T.be T.ca T.cn T.ct T.cm) I.kIn J h1 e (fun z => nomatch z) fin
  refine PE.imp (pe_callB (X := X.suite a ((a, oe) :: pn)) (p := p2) (pos := pos) cr hg hm (by decide +kernel) (pa_cons hx (pa_cons (pe_tup hc) pa_nil hst2) hst) (by decide) (by decide) hst hpl) fun σ H Q ⟨P, ρ, S, q⟩ => ?_
  unfold isX at q
  cases e : ρ.sl[i]? with
  | none => rw [e] at q; exact False.elim q
  | some z =>
    rw [e] at q
    cases z with
    | xv x =>
      dsimp only at q
      obtain ⟨_, a', cls', od, h1, h2, h3, h4⟩ := S.sl i _ e
      rw [hG] at h1; cases h1
      cases et : t x.C with
      | none => rw [et] at q; exact False.elim q
      | some b =>
        rw [et] at q
        obtain ⟨T, hk'⟩ := ht _ _ et
        refine ⟨_, h2, hta _ _ _ ⟨by rw [sizeLine_eq]; omega, fun p hp => ?_⟩⟩
        have sm : Same H (upd H p (.tup cs)) := same_new hp
        refine ⟨x.C, b, ?_⟩
        cases d with
        | none => exact ⟨[], p, rfl, upd_same, h3, (fun dd z => by cases z), T, hk', q _ sm _ rfl⟩
        | some d0 =>
          obtain ⟨fs, q1, q2, q3⟩ := h4
          exact ⟨fs, p, rfl, upd_same, h3, (fun dd z => by cases z; exact sm _ _ q1), T, hk', q _ sm _ rfl⟩
    | _ => exact False.elim q
end
end Dv

set_option Elab.async false
set_option linter.all false
set_option maxRecDepth 100000
set_option maxHeartbeats 2000000
/-! enumerate(xs) over a tuple; what enumerate and zip walk, as data -/
namespace EnumT
open PySem
open PySem.Sem (wp)
open AutoSeq1 (wpAny_loadPart')
theorem meets_new {v : Value} {o : Obj} {H : Heap → Prop} (B : Begins v o H) :
    Meets (Builtin.«enumerate.__new__» ⟨[.type "enumerate", v], []⟩) (fun _ R s => H s.heap ∧
      R (.ok (.ret (.ref (s.heap.push o).objs.size))) { s with heap := (s.heap.push o).push { cls := .type "enumerate", data := .fields #[.none, .bool false, .ref s.heap.objs.size, rawInt 0, .none, .none] } }) :=
  .of_wp fun prog w A R s h => by
    obtain ⟨hp, g, d, tk, os⟩ := s; obtain ⟨h1, h⟩ := h
    have hsub := sub_enumerate
    have q1 : ∀ {A' : Around} {E : Value → Shared → Prop} {Q : Value → Shared → Prop}, Q (.ref hp.objs.size) ⟨hp.push o, g, d, tk, os⟩ → wpAny (model prog w) A' (pyIter v) Q E ⟨hp, g, d, tk, os⟩ :=
      fun q => B.iter prog w _ _ ⟨hp, g, d, tk, os⟩ _ h1 q
    wp_walk using q1
    refine wpAny_stack_any fun st => wpAny_pure ?_
    split
    · rename_i c _ _ _ _ _
      cases (c == Value.type "enumerate")
      · wp_walk using q1
        exact ⟨_, rfl, h⟩
      · wp_walk using q1
        exact ⟨_, rfl, h⟩
    · wp_walk using q1
      exact ⟨_, rfl, h⟩
section
variable {prog : Program} {w : World} {A : Around} {E : Value → Shared → Prop} {s : Shared}
theorem call_new {v : Value} {o : Obj} {H : Heap → Prop} {Q : Value → Shared → Prop} (B : Begins v o H) (h1 : H s.heap)
    (h : ∀ h', IsEnum h' (s.heap.objs.size + 1) s.heap.objs.size 0 .none → h'.get? s.heap.objs.size = some o → h'.objs.size = s.heap.objs.size + 2 →
      (∀ b o, s.heap.get? b = some o → h'.get? b = some o) → Q (.ref (s.heap.objs.size + 1)) { s with heap := h' }) :
    wpAny (model prog w) A (call (.type "enumerate") [v]) Q E s := by
  refine callType_new F.called_enumerate (by decide) (F.typeCall_enumerate_1 _) (F.newCall_enumerate_1 _) (fun obj => F.args_object_init_2 obj _) F.entry_enumerate_new (meets_new B) ⟨h1, ?_⟩
  have hz : (s.heap.push o).objs.size = s.heap.objs.size + 1 := Heap.size_push ..
  show _ ∧ _
  rw [hz]
  have he : IsEnum ((s.heap.push o).push { cls := .type "enumerate", data := .fields #[.none, .bool false, .ref s.heap.objs.size, rawInt 0, .none, .none] }) (s.heap.objs.size + 1) s.heap.objs.size 0 .none := by
    have := Heap.get?_push_size (s.heap.push o) (o := { cls := .type "enumerate", data := .fields #[.none, .bool false, .ref s.heap.objs.size, rawInt 0, .none, .none] }) rfl
    rw [hz] at this; exact this
  exact ⟨⟨_, he, rfl⟩, h _ he (Heap.get?_push_of_some _ (Heap.get?_push_size _ B.free)) (by rw [Heap.size_push, hz]) fun b o x => Heap.get?_push_of_some _ (Heap.get?_push_of_some _ x)⟩
end
end EnumT
namespace L2
open PySem PySem.Spec PyProof.Rows
/-- the tuple at a, each item in a new pair -/
def ItTe (K : PySem.W.Frag) (a : Addr) : It :=
  ⟨fun i H => ∃ (xs : List V) (x : V), SqT K H a xs ∧ xs[i]? = some x, fun i H v H' => ∃ T x, v = .ref T ∧ H T = none ∧ H' = upd H T (.tup [.int (i : Nat), x]) ∧ ∀ xs, SqT K H a xs → xs[i]? = some x, fun i H => ∃ xs : List V, SqT K H a xs ∧ xs.length = i⟩
theorem turn_enumT {P : Program} {w : World} {K : PySem.W.Frag} {elts : List Expr} {kk : Nat} {tpos : Pos} (a e it : Addr) :
    Turn P w K (.Tuple elts kk tpos) (ItTe K a) [e, it] e (fun i h => (∃ old, IsEnum h e it ((i : Nat) : Int) old) ∧ h.IsTupleIter it a i ∧ e ≠ it ∧ a ≠ it ∧ e ≠ a) where
  mem := by simp
  obj := fun i h st b hb => by
    obtain ⟨⟨old, he⟩, ⟨o, ho, hc, hd⟩, _⟩ := st
    have e' : b = e ∨ b = it := by simpa using hb
    rcases e' with z | z
    · rw [z]; exact ⟨_, he, fun v q => nomatch q⟩
    · rw [z]; exact ⟨o, ho, fun v q => by rw [hd] at q; cases q⟩
  keep := fun i h h' st k => let ⟨⟨old, he⟩, hi, hne⟩ := st; ⟨⟨old, k e (by simp) _ he⟩, hi.at fun o q => k it (by simp) o q, hne⟩
  item := by
    intro X hP hw hK hc i pins s σ H E I hf st hg
    subst hP hw hK
    obtain ⟨⟨old, he⟩, hit, hne, hai, hea⟩ := st
    obtain ⟨xs, x, hq, hx⟩ := hg
    obtain ⟨its, rv, p, hz⟩ := I.tuple hq
    obtain ⟨u, hu, ru⟩ := rv.get hx
    have hel : e < s.heap.objs.size := Heap.lt_size he
    have hil : it < s.heap.objs.size := by obtain ⟨_, q, _⟩ := hit; exact Heap.lt_size q
    have hlt : i < its.toArray.size := by
      rcases Nat.lt_or_ge i its.length with z | z
      · simpa using z
      · rw [List.getElem?_eq_none z] at hu; cases hu
    have D := Draws.tuple (prog := X.prog) (w := X.w) (A := X.A.in1) (I.ok.hd hc) it a hai its.toArray
    have hef : e ∉ [it, a] := fun z => by
      rcases List.mem_cons.mp z with z | z
      · exact hne z
      · exact hea (List.mem_singleton.mp z)
    refine wpAny_pyNext_enum_itemD D he ⟨hit, p⟩ hlt hne hef fun y h' tk hy ho hit' hT hsz hk => ?_
    have ey : y = u := by
      have h1 : its[i]? = some y := by simpa using hy
      rw [hu] at h1; exact (Option.some.inj h1).symm
    subst ey
    refine ⟨_, rfl, wpAny_letOwnedTupleGo_enum (s := { s with heap := h', toks := tk + 1 }) ho fun h'' he' sb => ?_⟩
    have hT2 : h''.get? s.heap.objs.size = some { cls := .type "tuple", data := .seq #[.int i tk, y] } := (sb.2 _ (Nat.ne_of_gt hel)).trans hT
    have new : ObjOk X.prog X.w (upd H s.heap.objs.size (.tup [.int (i : Nat), x])) h'' s.heap.objs.size (.tup [.int (i : Nat), x]) :=
      ⟨by show 2 ≤ sizeLine; decide, [.int i tk, y], .cons ⟨_, rfl⟩ (.cons ru .nil), ⟨_, hT2, rfl, _, rfl⟩⟩
    have I1 : Inv X pins σ (upd H s.heap.objs.size (.tup [.int (i : Nat), x])) { s with heap := h'', toks := tk + 1 } :=
      I.turnedNew (ch := [e, it]) (fun b ob hb q => (sb.2 b (fun z => hb (by simp [z]))).trans (hk b ob (fun z => hb (by simp [z])) (fun z => hb (by simp [z])) q)) hf (Nat.le_refl _) new
    refine ⟨.ref s.heap.objs.size, _, I1, rfl, ⟨_, x, rfl, I.hok.fresh (Nat.le_refl _), rfl, fun ys hy => by rw [I.tuple_inj hy hq]; exact hx⟩, ⟨⟨y, ?_⟩, hit'.1.at fun o q => (sb.2 it (Ne.symm hne)).trans q, hne, hai, hea⟩, fun b hb => ?_⟩
    · have e1 : ((i + 1 : Nat) : Int) = (i : Int) + 1 := by omega
      rw [e1]; exact he'
    · have hb' : b < s.heap.objs.size := by
        have e' : b = e ∨ b = it := by simpa using hb
        rcases e' with z | z
        · rw [z]; exact hel
        · rw [z]; exact hil
      rw [upd_ne (Nat.ne_of_lt hb')]
      exact (hf b hb).1
  done := by
    intro X hP hw hK hc i pins s σ H E I hf st hg
    subst hP hw hK
    obtain ⟨⟨old, he⟩, hit, hne, hai, hea⟩ := st
    obtain ⟨xs, hq, hx⟩ := hg
    obtain ⟨its, rv, p, hz⟩ := I.tuple hq
    obtain ⟨f0, f1, f2, f3, f4, f5⟩ := hf it (by simp)
    have hl := rv.length
    have D := Draws.tuple (prog := X.prog) (w := X.w) (A := X.A.in1) (I.ok.hd hc) it a hai its.toArray
    have ei : i = its.toArray.size := by rw [List.size_toArray]; omega
    subst ei
    exact wpAny_pyNext_enum_endD D he ⟨hit, p⟩ fun h' eb => ⟨rfl, I.turned (t' := s.toks) (fun b o hb q => eb b o hb q) f0 f1 f3 f4 f5⟩
  self := fun A i s Q E st h => let ⟨⟨_, he⟩, _⟩ := st; wpAny_pyIter_enum he h
/-- enumerate of a list or of a tuple -/
def iEnumA (K : PySem.W.Frag) (ta : TA) : TI := fun σ H R => ta σ H fun vs H1 => ∃ a, vs = [.ref a] ∧ ((∃ xs, SqL K H1 a xs ∧ R (Ite K a) H1) ∨ (∃ xs, SqT K H1 a xs ∧ R (ItTe K a) H1))
theorem pi_enumA {X : Cx} {e : Expr} {ta : TA} {p pos tpos : Pos} {elts : List Expr} {kk : Nat} (hg : Gl X "enumerate") (hm : X.mg "enumerate" = none) (ha : PA X [e] ta) (hs : starEach [e] X.env = [(false, eval e X.env)] := by rfl) :
    PI X (.Tuple elts kk tpos) (.Call (.Name "enumerate" p) [e] [] pos) (iEnumA X.K ta) := by
  refine ⟨fun pins s σ H R I h => ?_⟩
  refine Call_ (ld_blt I hg hm boot_enumerate (PyProof.Rows.callWith_type1 (thn (ha.run pos pins s σ H _ I h) fun us s1 ⟨vs, H1, I1, r1, q1⟩ => ?_) hs rfl))
  obtain ⟨a, ex, q1⟩ := q1
  subst ex
  cases r1 with
  | cons r rr =>
    cases rr
    cases r
    have fr : ∀ b, b ∈ [s1.heap.objs.size + 1, s1.heap.objs.size] → FpOk X pins H1 b := fun b hb => by
      have e' : b = s1.heap.objs.size + 1 ∨ b = s1.heap.objs.size := by simpa using hb
      have hle : s1.heap.objs.size ≤ b := by
        rcases e' with z | z
        · rw [z]; exact Nat.le_add_right _ _
        · rw [z]; exact Nat.le_refl _
      exact I1.fpOk hle (I1.hok.fresh hle)
    rcases q1 with ⟨xs, hq, q⟩ | ⟨xs, hq, q⟩
    · obtain ⟨its, rv, p', hz⟩ := I1.list hq
      refine call_enumerate_list p'.isList fun h' he hit hsz hk => wpAny_pyIter_enum he ?_
      have I2 : Inv X pins σ H1 { s1 with heap := h' } := I1.kept (t' := s1.toks) hk
      exact ⟨s1.heap.objs.size + 1, [s1.heap.objs.size + 1, s1.heap.objs.size], _, _, H1, rfl, I2, turn_enum a (s1.heap.objs.size + 1) s1.heap.objs.size, ⟨⟨.none, he⟩, hit, Nat.succ_ne_self _⟩, fr, q⟩
    · obtain ⟨its, rv, p', hz⟩ := I1.tuple hq
      obtain ⟨o', ho', _⟩ := id p'
      have hlt : a < s1.heap.objs.size := Heap.lt_size ho'
      refine EnumT.call_new (begins_tuple a its.toArray) p' fun h' he hit hsz hk => wpAny_pyIter_enum he ?_
      have I2 : Inv X pins σ H1 { s1 with heap := h' } := I1.kept (t' := s1.toks) hk
      exact ⟨s1.heap.objs.size + 1, [s1.heap.objs.size + 1, s1.heap.objs.size], _, _, H1, rfl, I2, turn_enumT a (s1.heap.objs.size + 1) s1.heap.objs.size, ⟨⟨.none, he⟩, ⟨_, hit, rfl, rfl⟩, Nat.succ_ne_self _, Nat.ne_of_lt hlt, (fun z => absurd hlt (by rw [← z]; exact Nat.not_lt.mpr (Nat.le_succ _)))⟩, fr, q⟩
end L2
namespace Dv
open PySem PySem.Spec L2
open PyProof.Rows hiding St
/-- the pairs (0, d0), (1, d1), .. -/
def enumD : Nat → List D → List D
  | _, [] => []
  | i, d :: ds => .tup [.int (i : Nat), d] :: enumD (i + 1) ds
theorem enumD_len : ∀ (ds : List D) (i : Nat), (enumD i ds).length = ds.length
  | [], _ => rfl
  | d :: ds, i => by show (enumD (i + 1) ds).length + 1 = ds.length + 1; rw [enumD_len ds]
theorem enumD_get : ∀ {ds : List D} {k i : Nat} {e : D}, (enumD k ds)[i]? = some e → ∃ d, ds[i]? = some d ∧ e = .tup [.int ((k + i : Nat) : Int), d]
  | [], _, _, _, h => by simp [enumD] at h
  | d :: ds, k, 0, e, h => by
    have : e = .tup [.int (k : Nat), d] := by simpa [enumD] using h.symm
    exact ⟨d, rfl, this⟩
  | d :: ds, k, i + 1, e, h => by
    have h' : (enumD (k + 1) ds)[i]? = some e := by simpa [enumD] using h
    obtain ⟨d', h1, h2⟩ := enumD_get h'
    exact ⟨d', by simpa using h1, by rw [h2, show k + 1 + i = k + (i + 1) from by omega]⟩
def enumK : List D → Res (List D)
  | [.lst ds] => .ok (enumD 0 ds)
  | [.tup ds] => .ok (enumD 0 ds)
  | _ => .stuck
def zipD : List D → List D → List D
  | d :: ds, e :: es => .tup [d, e] :: zipD ds es
  | _, _ => []
section
variable {K : PySem.W.Frag} {G : Sg}
theorem pair_rep {H H' : Hp} {N M : Addr → Prop} {ι : List Addr} {T : Addr} {i : Nat} {v : V} {d : D} (hT : H T = none) (e : H' = upd H T (.tup [.int (i : Nat), v])) (r : Rep K H N M ι true v d) : Same H H' ∧ Rep K H' N M ι true (.ref T) (.tup [.int (i : Nat), d]) := by
  subst e
  have sm : Same H (upd H T (.tup [.int (i : Nat), v])) := same_new hT
  exact ⟨sm, T, [.int (i : Nat), v], rfl, SqT.of upd_same, ⟨_, _, rfl, rfl, ⟨_, _, rfl, r.same sm, rfl⟩⟩⟩
theorem ite_ok {a : Addr} {ds : List D} : ItOk K G [(V.ref a, .lst ds)] true (Ite K a) (enumD 0 ds) := fun Z P ρ σ H S => by
  obtain ⟨p, vs, ep, h1, h2, h3⟩ := S.ghost (p := (V.ref a, D.lst ds)) (by simp)
  cases ep
  refine ⟨fun i e he => ?_, ⟨vs, h2, by rw [enumD_len, h3.length]; exact Nat.le_refl _⟩⟩
  obtain ⟨d, hd, rfl⟩ := enumD_get he
  obtain ⟨v, hv, rv⟩ := h3.get hd
  refine ⟨⟨vs, v, h2, hv⟩, fun x H' y => ?_⟩
  obtain ⟨T, x', rfl, hT, e', hx⟩ := y
  have := hx vs h2
  rw [hv] at this; cases this
  rw [Nat.zero_add]
  exact pair_rep hT e' rv
theorem itTe_ok {a : Addr} {ds : List D} : ItOk K G [(V.ref a, .tup ds)] true (ItTe K a) (enumD 0 ds) := fun Z P ρ σ H S => by
  obtain ⟨p, vs, ep, h2, h3⟩ := S.ghost (p := (V.ref a, D.tup ds)) (by simp)
  cases ep
  refine ⟨fun i e he => ?_, ⟨vs, h2, by rw [enumD_len, h3.length]⟩⟩
  obtain ⟨d, hd, rfl⟩ := enumD_get he
  obtain ⟨v, hv, rv⟩ := h3.get hd
  refine ⟨⟨vs, v, h2, hv⟩, fun x H' y => ?_⟩
  obtain ⟨T, x', rfl, hT, e', hx⟩ := y
  have := hx vs h2
  rw [hv] at this; cases this
  rw [Nat.zero_add]
  exact pair_rep hT e' rv
end
section
variable {X : Cx} {G : Sg} {W : WX} {a : Expr} {fs : Rho → Res (List D)} {p pos tpos : Pos} {elts : List Expr} {kk : Nat}
theorem ji_enum (hg : Gl X "enumerate") (hm : X.mg "enumerate" = none) (ha : JA X G W true [a] fs) (hs : starEach [a] X.env = [(false, eval a X.env)] := by rfl) : JI X G W true (.Tuple elts kk tpos) (.Call (.Name "enumerate" p) [a] [] pos) (e1 fs enumK) :=
  PI.imp (pi_enumA hg hm ha hs) fun σ H R ⟨P, ρ, S, q⟩ => ⟨P, ρ, S, (PostG.bind q).imp fun ds H1 e1 q1 vs r => by
    cases ds with
    | nil => exact False.elim q1
    | cons d ds =>
      cases ds with
      | cons _ _ => cases d <;> exact False.elim q1
      | nil =>
        obtain ⟨v, ev, rv⟩ := r.one
        subst ev
        cases d with
        | lst ds =>
          obtain ⟨p, vs, rfl, h1, h2, h3⟩ := id rv
          exact ⟨p, rfl, .inl ⟨vs, h2, q1.now _ [(V.ref p, .lst ds)] (fun z hz => by
            have : z = (V.ref p, D.lst ds) := by simpa using hz
            subst this; exact rv) ite_ok⟩⟩
        | tup ds =>
          obtain ⟨p, vs, rfl, h2, h3⟩ := id rv
          exact ⟨p, rfl, .inr ⟨vs, h2, q1.now _ [(V.ref p, .tup ds)] (fun z hz => by
            have : z = (V.ref p, D.tup ds) := by simpa using hz
            subst this; exact rv) itTe_ok⟩⟩
        | _ => exact False.elim q1⟩
end
end Dv

set_option Elab.async false
set_option linter.all false
set_option maxRecDepth 100000
set_option maxHeartbeats 1000000
/-! within __init__: self.f read, self.f set anew, self.m(..) whose answer is plain -/
namespace Dv
open PySem PySem.Spec L2
open PyProof.Rows hiding St
def atom : D → Bool
  | .non => true | .bl _ => true | .int _ => true | .str _ => true | .ty _ => true | .ob _ => true
  | _ => false
theorem Rep.atom {K : PySem.W.Frag} {H H' : Hp} {N M N' M' : Addr → Prop} {ι ι' : List Addr} {s s' : Bool} {v : V} {d : D} (h : atom d = true) (r : Rep K H N M ι s v d) : Rep K H' N' M' ι' s' v d := by
  cases d with
  | non => exact r
  | bl b => exact r
  | int b => exact r
  | str b => exact r
  | ty b => exact r
  | ob b => exact r
  | _ => cases h
theorem Reps.atom {K : PySem.W.Frag} {H H' : Hp} {N M N' M' : Addr → Prop} {ι ι' : List Addr} {s s' : Bool} : ∀ {ds : List D} {vs : List V}, ds.all Dv.atom = true → Reps K H N M ι s vs ds → Reps K H' N' M' ι' s' vs ds
  | [], _, _, r => r
  | d :: ds, _, h, ⟨v, r, e, h1, h2⟩ => by
    rw [List.all_cons, Bool.and_eq_true] at h
    exact ⟨v, r, e, h1.atom h.1, Reps.atom h.2 h2⟩
theorem XRep.atom {K : PySem.W.Frag} {H : Hp} {N M N' M' : Addr → Prop} {ι ι' : List Addr} {cls : Value} {od : Option Addr} {x : Exn} (h : x.ds.all Dv.atom = true) (r : XRep K N M ι H cls od x) : XRep K N' M' ι' H cls od x := by
  obtain ⟨h1, h2⟩ := r
  refine ⟨h1, ?_⟩
  cases od with
  | none => exact h2
  | some dd => obtain ⟨fs, q1, q2, q3⟩ := h2; exact ⟨fs, q1, q2, q3.atom h⟩
def plainR : Res D → Res D
  | .ok d => if atom d = true then .ok d else .stuck
  | .exc x => if x.ds.all atom = true then .exc x else .stuck
  | .stuck => .stuck
/-- self.m(..) -/
def eMethS (C0 : Addr) (m : Str) (F : List D → Res D) (i : Nat) (fs : Rho → Res (List D)) : Rho → Res D := fun ρ => match ρ.sl[i]? with
  | some (.oi C fn xs) => if C = C0 ∧ fn.contains m = false then (fs ρ).bind fun ds => plainR (F (.ins C fn xs :: ds)) else .stuck
  | _ => .stuck
/-- self.f -/
def selfF (C0 : Addr) (i : Nat) (f : Str) : Rho → Res D := fun ρ => match ρ.sl[i]? with
  | some (.oi C fn xs) => fldD C0 f (.ins C fn xs)
  | _ => .stuck
section
variable {X : Cx} {G : Sg} {W : WX} {s s' : Bool} {e a b o : Expr} {es : List Expr} {f g : Rho → Res D} {fs : Rho → Res (List D)} {pos p p2 apos pos' : Pos} {x m fl : Str} {k i : Nat} {C0 fa : Addr} {fd : FuncData} {ps : List Str} {ss : List Bool} {F : List D → Res D}
theorem je_selfF (c : Cls X.K C0) (n : NoAttr X.K C0 fl) (hx : PE X (.Name x p2) (tVar i))
    (hb : attributeBase (.Name x p2) fl X.env (eval (.Name x p2) X.env) = eval (.Name x p2) X.env := by rfl) : JE X G W s' (.Attribute (.Name x p2) fl pos) (selfF C0 i fl) :=
  PE.imp (pe_fld hx hb) fun σ H Q ⟨P, ρ, S, q⟩ => by
    unfold selfF at q
    cases e : ρ.sl[i]? with
    | none => rw [e] at q; exact False.elim q
    | some z =>
      rw [e] at q
      cases z with
      | oi C fn xs =>
        obtain ⟨p, dx, fs, ⟨hP, hI⟩, h1, h2, h3, h4⟩ := S.sl i _ e
        have q' : PostE X.K G P W s' σ H Q (if C = C0 then (match (fn.zip xs).lookup fl with | some d => .ok d | none => .stuck) else .stuck) := q
        by_cases hC : C = C0
        · rw [if_pos hC] at q'
          subst hC
          cases el : (fn.zip xs).lookup fl with
          | none => rw [el] at q'; exact False.elim q'
          | some d =>
            rw [el] at q'
            obtain ⟨u, l1, l2⟩ := look_rep h3 h4 el
            exact ⟨_, h1, p, C, dx, fs, u, rfl, h2, c, n, l1, q'.now u l2.to⟩
        · rw [if_neg hC] at q'; exact False.elim q'
      | _ => exact False.elim q
theorem je_methS {pl : Sem Bool} (c : Cls X.K C0) (hm : Meth X.K C0 m fa) (hF : FnOk X.prog X.w X.K X.mg X.base (L2.CX X.prog X.w) k fa fd ps (spD X.K (s :: ss) F)) (hr : Room k X.A) (hb : Binds X.K fd ps []) (tk : Takes X W) (hx : PE X (.Name x p2) (tVar i)) (ha : JF X G W ss (e :: es) fs)
    (hst : starEach (e :: es) X.env = (false, eval e X.env) :: starEach es X.env := by rfl) (hpl : (backTo pos (starEach es X.env)).any (·.1) = false := by rfl)
    (ht : eval (.Call (.Attribute (.Name x p2) m apos) (e :: es) [] pos) X.env = (do
      let ov ← eval (.Name x p2) X.env
      standAt apos.atName
      let (f, first) ← holding [ov] (getMethod ov m pl)
      callWith pos f first (backTo pos (starEach (e :: es) X.env)) (backToKw pos (keywordEach [] X.env))) := by rfl) :
    JE X G W s' (.Call (.Attribute (.Name x p2) m apos) (e :: es) [] pos) (eMethS C0 m F i fs) :=
  PE.imp (dv_pe_meth (E := WE W) hx c hm hF hr hb (fun σ => passAt tk σ) ha hst hpl ht) fun σ H Q ⟨P, ρ, S, q⟩ => by
    unfold eMethS at q
    cases e : ρ.sl[i]? with
    | none => rw [e] at q; exact False.elim q
    | some z =>
      rw [e] at q
      cases z with
      | oi C fn xs =>
        obtain ⟨p, dx, fs', ⟨hP, hI⟩, h1, h2, h3, h4⟩ := S.sl i _ e
        have q' : PostE X.K G P W s' σ H Q (if C = C0 ∧ fn.contains m = false then (fs ρ).bind fun ds => plainR (F (.ins C fn xs :: ds)) else .stuck) := q
        by_cases hC : C = C0 ∧ fn.contains m = false
        · rw [if_pos hC] at q'
          obtain ⟨rfl, hn⟩ := hC
          refine ⟨_, h1, p, dx, fs', rfl, h2, look_none hn h3, P, ρ, S, (PostG.bind q').imp fun ds H2 e2 q3 vs rs => ?_⟩
          have S2 := S.same e2
          have E := S2.ent
          refine ⟨.ins C fn xs :: ds, fun b => G.N P b ∧ b ≠ p, fun b => G.M P b ∧ b ≠ p, P.c, ⟨fun b z => E.z b z.1, fun b z => E.m b z.1, E.nd, E.c, fun b z => ⟨E.cm b z, fun y => S.ic i p hP (y ▸ z)⟩, fun b z => ⟨E.cz b z, fun y => S.ic i p hP (y ▸ z)⟩⟩,
            ⟨.ref p, vs, _, ds, rfl, rfl, ⟨p, dx, fs', rfl, fun z => z.2 rfl, e2 _ _ h2, h3, (Reps.to (h4.same e2)).weak (fun _ z => z.1) fun _ z => z.1⟩, rs.weak (fun _ z => z.1) fun _ z => z.1⟩, ?_⟩
          cases eF : F (.ins C fn xs :: ds) with
          | ok d =>
            rw [eF] at q3
            have q4 : PostE X.K G P W s' σ H2 Q (if atom d = true then .ok d else .stuck) := q3
            by_cases hd : atom d = true
            · rw [if_pos hd] at q4
              intro H' e' v r
              refine q4 H' e' v ?_
              cases d with
              | non => exact r
              | bl b => exact r
              | int b => exact r
              | str b => exact r
              | ty b => exact r
              | ob b => exact r
              | _ => cases hd
            · rw [if_neg hd] at q4; exact False.elim q4
          | exc y =>
            rw [eF] at q3
            have q4 : PostE X.K G P W s' σ H2 Q (if y.ds.all atom = true then .exc y else .stuck) := q3
            by_cases hd : y.ds.all atom = true
            · rw [if_pos hd] at q4
              exact fun cls od H' e' xr => q4 cls od H' e' (xr.atom hd)
            · rw [if_neg hd] at q4; exact False.elim q4
          | stuck => rw [eF] at q3; exact False.elim q3
        · rw [if_neg hC] at q'; exact False.elim q'
      | _ => exact False.elim q
end
/-! ### self.f = e, f there already -/
def setF (f : Str) (d : D) : List Str → List D → List D
  | g :: gs, y :: ys => if g = f then d :: ys else y :: setF f d gs ys
  | _, ys => ys
def sFldU (C0 : Addr) (i : Nat) (f : Str) (fe : Rho → Res D) : Rho → Out := fun ρ => andThen ρ (fe ρ) fun d => match ρ.sl[i]? with
  | some (.oi C fn ds) => if C = C0 ∧ fn.contains f = true ∧ fn.length < 1000 then .nx (ρ.set i (.oi C fn (setF f d fn ds))) else .stuck
  | _ => .stuck
theorem putF_old {K : PySem.W.Frag} {H : Hp} {N M : Addr → Prop} {ι : List Addr} {f : Str} {v : V} {d : D} (rv : Rep K H N M ι true v d) : ∀ {fs : List (Str × V)} {ds : List D}, (fs.map (·.1)).contains f = true → Reps K H N M ι true (fs.map (·.2)) ds →
    (putF f v fs).map (·.1) = fs.map (·.1) ∧ Reps K H N M ι true ((putF f v fs).map (·.2)) (setF f d (fs.map (·.1)) ds)
  | [], _, h, _ => by cases h
  | (g, u) :: fs, [], h, r => by cases (show V.ref 0 :: [] = [] from by cases r)
  | (g, u) :: fs, y :: ys, h, ⟨v', r', e, h1, h2⟩ => by
    cases e
    by_cases hg : g = f
    · have e1 : putF f v ((g, u) :: fs) = (g, v) :: fs := if_pos hg |>.trans (by rw [hg])
      have e2 : setF f d (((g, u) :: fs).map (·.1)) (y :: ys) = d :: ys := if_pos hg
      rw [e1, e2]
      exact ⟨rfl, v, fs.map (·.2), rfl, rv, h2⟩
    · have e1 : putF f v ((g, u) :: fs) = (g, u) :: putF f v fs := if_neg hg
      have e2 : setF f d (((g, u) :: fs).map (·.1)) (y :: ys) = y :: setF f d (fs.map (·.1)) ys := if_neg hg
      have hc : (fs.map (·.1)).contains f = true := by
        rw [List.map_cons, List.contains_cons, Bool.or_eq_true] at h
        rcases h with h | h
        · exact absurd (by simpa using h : f = g).symm hg
        · exact h
      obtain ⟨a1, a2⟩ := putF_old rv hc h2
      rw [e1, e2]
      exact ⟨by rw [List.map_cons, List.map_cons, a1], u, _, rfl, h1, a2⟩
section
variable {X : Cx} {G : Sg} {W : WX} {e : Expr} {fe : Rho → Res D} {pos pos' p2 : Pos} {C0 : Addr} {f x : Str}
theorem js_fldU (i : Nat) (c : Cls X.K C0) (n : NoAttr X.K C0 f) (hx : PE X (.Name x p2) (tVar i)) (he : JE X G W true e fe) (hs : swapsWith e (some (.Attribute (.Name x p2) f pos')) pos.line X.env = pure false := by rfl) :
    JS X G W (.Assign [.Attribute (.Name x p2) f pos'] e pos) (sFldU C0 i f fe) := PS.imp (ps_fld hx he hs) fun Q σ H ⟨P, ρ, S, q⟩ => ⟨P, ρ, S, (andThen_post S q).imp fun d H1 e1 q1 v r => by
  cases eq : ρ.sl[i]? with
  | none => rw [eq] at q1; exact False.elim q1
  | some z =>
    rw [eq] at q1
    cases z with
    | oi C fn ds =>
      have q2 : PostS X.K G W Q (if C = C0 ∧ fn.contains f = true ∧ fn.length < 1000 then .nx (ρ.set i (.oi C fn (setF f d fn ds))) else .stuck) := q1
      by_cases hc : C = C0 ∧ fn.contains f = true ∧ fn.length < 1000
      · rw [if_pos hc] at q2
        obtain ⟨hC, h1, h2⟩ := hc
        subst hC
        obtain ⟨p, dx, fs, ⟨hP, hI⟩, hs, hp, hfn, hr⟩ := (S.same e1).sl i _ eq
        subst hfn
        obtain ⟨a1, a2⟩ := putF_old r h1 hr
        refine ⟨_, hs, p, C, dx, fs, rfl, hp, c, n, by rw [← List.length_map (f := (·.1))]; exact h2, ?_⟩
        exact q2 P σ _ ((S.same e1).updOi hP hI hp (fs' := putF f v fs) a2 a1 hs)
      · rw [if_neg hc] at q2; exact False.elim q2
    | _ => exact False.elim q1⟩
end
end Dv

set_option Elab.async false
set_option linter.all false
set_option maxRecDepth 100000
set_option maxHeartbeats 4000000
/-! tuple * int, any number -/
namespace L2
open PySem PySem.Spec PyProof.Rows
theorem dv_mulSame (l : Addr) (items : Array Value) (n : Nat) (dd : Option Addr) (sl : Array (Option Value)) (x : Int) (u : Tok) (c0 : (decide (x < -(2 ^ 63)) || decide (x ≥ 2 ^ 63)) = false) (c1 : (items.isEmpty || x == 1) = true) :
    Meets (Builtin.«tuple.__mul__» ⟨[.ref l, .int x u], []⟩) (fun _ R s => s.heap.get? l = some { cls := .type "tuple", dict := dd, data := .seq items n, slots := sl } ∧
      R (.ok (.ret (Value.ref l))) s) :=
  .of_wp fun prog w A R s h => by
    obtain ⟨hp, g, d, tk, os⟩ := s
    obtain ⟨hl, h⟩ := h
    have f1 := AutoSeq1.idx_int
    wp_walk using wpAny_loadPart' hl
    repeat (first
      | (refine wpAny_ite_false (decide_eq_false (by rw [c0]; exact Bool.false_ne_true)) ?_; wp_walk using wpAny_loadPart' hl)
      | (refine wpAny_ite_true (decide_eq_true c1) ?_; wp_walk using wpAny_loadPart' hl))
    exact ⟨_, rfl, h⟩
theorem dv_mulZero (l : Addr) (items : Array Value) (n : Nat) (dd : Option Addr) (sl : Array (Option Value)) (x : Int) (u : Tok) (c0 : (decide (x < -(2 ^ 63)) || decide (x ≥ 2 ^ 63)) = false) (c1 : (items.isEmpty || x == 1) = false) (c2 : (decide (x ≤ 0) || items.isEmpty) = true) :
    Meets (Builtin.«tuple.__mul__» ⟨[.ref l, .int x u], []⟩) (fun _ R s => s.heap.get? l = some { cls := .type "tuple", dict := dd, data := .seq items n, slots := sl } ∧
      R (.ok (.ret (Value.ref s.heap.objs.size))) { s with heap := s.heap.push { cls := Value.type "tuple", data := Data.seq #[] }, toks := s.toks }) :=
  .of_wp fun prog w A R s h => by
    obtain ⟨hp, g, d, tk, os⟩ := s
    obtain ⟨hl, h⟩ := h
    have f1 := AutoSeq1.idx_int
    wp_walk using wpAny_loadPart' hl
    repeat (first
      | (refine wpAny_ite_false (decide_eq_false (by rw [c0]; exact Bool.false_ne_true)) ?_; wp_walk using wpAny_loadPart' hl)
      | (refine wpAny_ite_false (decide_eq_false (by rw [c1]; exact Bool.false_ne_true)) ?_; wp_walk using wpAny_loadPart' hl)
      | (refine wpAny_ite_true (decide_eq_true c2) ?_; wp_walk using wpAny_loadPart' hl))
    exact ⟨_, rfl, h⟩
def rRepA (K : PySem.W.Frag) : R2 := fun x y H Q => ∃ l k xs, x = .ref l ∧ y = .int k ∧ SqT K H l xs ∧ -1000 ≤ k ∧ k ≤ 1000 ∧ xs.length ≤ 1000 ∧ (∀ p, H p = none → Q (.ref p) (upd H p (.tup (List.replicate k.toNat xs).flatten))) ∧ ((xs = [] ∨ k = 1) → Q (.ref l) H)
section
variable {X : Cx}
theorem op_repA : OpR X (binaryOp .Mult) (rRepA X.K) := by
  intro pins s σ H x y v u Q I rx ry h
  obtain ⟨l, k, xs, rfl, rfl, hT, h1, h2, hz, q, q1⟩ := h
  by_cases c : xs ≠ [] ∧ 2 ≤ k
  · exact op_repT pins s σ H _ _ v u Q I rx ry ⟨l, k, xs, rfl, rfl, hT, c.1, c.2, h2, hz, q⟩
  cases rx
  obtain ⟨t, rfl⟩ := ry
  obtain ⟨its, r, ⟨⟨cls, dd, data, sl⟩, ho, hc, n, hd⟩, hs⟩ := I.tuple hT
  simp only at hc hd
  subst hc hd
  have hle : its.length = xs.length := r.length.symm
  have c0 : (decide (k < -(2 ^ 63)) || decide (k ≥ 2 ^ 63)) = false := by
    rw [decide_eq_false (by omega), decide_eq_false (by omega)] <;> rfl
  by_cases c1 : (its.toArray.isEmpty || k == 1) = true
  · have c1' : xs = [] ∨ k = 1 := by
      rw [Bool.or_eq_true] at c1
      rcases c1 with c1 | c1
      · left
        cases its with
        | nil => exact List.eq_nil_of_length_eq_zero hle.symm
        | cons a b => cases c1
      · right; simpa using c1
    refine wpAny_binaryOp_repeat_ref (T := "tuple") (U := "int") (by decide) ⟨_, ho, rfl⟩ (fun s' => typeIs_int s' k t) noFill_tuple_mul F.fills_int_mul F.slot_int_rmul repeat_tuple F.slot_int_index.lookup
      (call_meets F.slot_int_rmul (typeIs_int s k t) F.entry_int_rmul (F.args_int_rmul_2 _ _) (int_rmul_tuple k t l its.toArray n dd sl)
        ⟨ho, rfl, ⟨_, ho, rfl⟩, call_meets F.slot_tuple_mul ⟨_, ho, rfl⟩ F.entry_tuple_mul (F.args_tuple_mul_2 _ _) (dv_mulSame l its.toArray n dd sl k t c0 c1) ⟨ho, ?_⟩⟩)
    exact ⟨.ref l, H, I, rfl, q1 c1'⟩
  · have c1' : (its.toArray.isEmpty || k == 1) = false := by
      cases z : (its.toArray.isEmpty || k == 1) with
      | true => exact absurd z c1
      | false => rfl
    have hx : xs ≠ [] := fun e => c1 (by
      have : its = [] := List.eq_nil_of_length_eq_zero (by rw [hle, e]; rfl)
      rw [this]; rfl)
    have hk : ¬ (2 ≤ k) := fun e => c ⟨hx, e⟩
    have hk1 : ¬ (k = 1) := fun e => c1 (by rw [e]; simp)
    have c2 : (decide (k ≤ 0) || its.toArray.isEmpty) = true := by
      rw [decide_eq_true (show k ≤ 0 by omega)]; rfl
    refine wpAny_binaryOp_repeat_ref (T := "tuple") (U := "int") (by decide) ⟨_, ho, rfl⟩ (fun s' => typeIs_int s' k t) noFill_tuple_mul F.fills_int_mul F.slot_int_rmul repeat_tuple F.slot_int_index.lookup
      (call_meets F.slot_int_rmul (typeIs_int s k t) F.entry_int_rmul (F.args_int_rmul_2 _ _) (int_rmul_tuple k t l its.toArray n dd sl)
        ⟨ho, rfl, ⟨_, ho, rfl⟩, call_meets F.slot_tuple_mul ⟨_, ho, rfl⟩ F.entry_tuple_mul (F.args_tuple_mul_2 _ _) (dv_mulZero l its.toArray n dd sl k t c0 c1' c2) ⟨ho, ?_⟩⟩)
    have e0 : (List.replicate k.toNat xs).flatten = [] := by
      rw [show k.toNat = 0 from by omega]; rfl
    rw [e0] at q
    refine ⟨.ref s.heap.objs.size, _, I.laid (t' := s.toks) (o := .tup []) (fun b ob q => Heap.get?_push_of_some _ q) (Nat.le_refl _) ?_, rfl, q _ (I.hok.fresh (Nat.le_refl _))⟩
    exact ⟨by rw [sizeLine_eq]; exact Nat.zero_le _, [], .nil, IsTup.new _ _⟩
end
end L2
namespace Dv
open PySem PySem.Spec L2
open PyProof.Rows hiding St
def mulT : D → D → Res D
  | .tup ds, .int k => if -1000 ≤ k ∧ k ≤ 1000 ∧ ds.length ≤ 1000 then .ok (.tup (List.replicate k.toNat ds).flatten) else .stuck
  | _, _ => .stuck
theorem reps_rep {K : PySem.W.Frag} {H : Hp} {N M : Addr → Prop} {ι : List Addr} {s : Bool} {vs : List V} {ds : List D} (r : Reps K H N M ι s vs ds) : ∀ n : Nat, Reps K H N M ι s (List.replicate n vs).flatten (List.replicate n ds).flatten
  | 0 => rfl
  | n + 1 => by
    rw [List.replicate_succ, List.flatten_cons, List.replicate_succ, List.flatten_cons]
    exact r.append (reps_rep r n)
section
variable {X : Cx} {G : Sg} {W : WX} {s s' : Bool} {a b : Expr} {f g : Rho → Res D} {pos : Pos}
theorem je_mulT (ha : JE X G W s a f) (hb : JE X G W s' b g) : JE X G W s (.BinOp a .Mult b pos) (e2 f g mulT) :=
  PE.imp (pe_op op_repA ha hb) fun σ H Q ⟨P, ρ, S, q⟩ => ⟨P, ρ, S, (PostG.bind q).imp fun x H1 e1 q1 v r1 => ⟨P, ρ, S.same e1, (PostG.bind q1).imp fun y H2 e2 q2 u r2 => by
    cases x with
    | tup ds =>
      cases y with
      | int k =>
        have q3 : PostE X.K G P W s σ H2 Q (if -1000 ≤ k ∧ k ≤ 1000 ∧ ds.length ≤ 1000 then .ok (.tup (List.replicate k.toNat ds).flatten) else .stuck) := q2
        by_cases hc : -1000 ≤ k ∧ k ≤ 1000 ∧ ds.length ≤ 1000
        · rw [if_pos hc] at q3
          obtain ⟨l, vs, rfl, h2, h3⟩ := r1.same e2
          cases (show u = .int k from r2)
          refine ⟨l, k, vs, rfl, rfl, h2, hc.1, hc.2.1, by rw [h3.length]; exact hc.2.2, fun p hp => q3 _ (same_new hp) _ ⟨p, _, rfl, SqT.of upd_same, (reps_rep h3 k.toNat).same (same_new hp)⟩, fun hs => q3.now _ ⟨l, vs, rfl, h2, ?_⟩⟩
          rcases hs with hs | hs
          · subst hs
            cases ds with
            | nil =>
              have e : (List.replicate k.toNat ([] : List D)).flatten = [] := by simp
              rw [e]; exact h3
            | cons d ds => obtain ⟨_, _, z, _⟩ := h3; cases z
          · subst hs
            have e : (List.replicate (1 : Int).toNat ds).flatten = ds := by simp
            rw [e]; exact h3
        · rw [if_neg hc] at q3; exact False.elim q3
      | _ => exact False.elim q2
    | _ => exact False.elim q2⟩⟩
/-! x in xs, all plain -/
def eqF : D → D → Bool
  | .str a, .str b => a == b
  | .int a, .int b => a == b
  | _, _ => false
def sameK : D → D → Bool
  | .str _, .str _ => true
  | .int _, .int _ => true
  | _, _ => false
def inSeqB : D → D → Res Bool
  | x, .lst ds => if ds.all (sameK x) = true ∧ sameK x x = true then .ok (ds.any fun y => eqF y x) else .stuck
  | x, .tup ds => if ds.all (sameK x) = true ∧ sameK x x = true then .ok (ds.any fun y => eqF y x) else .stuck
  | _, _ => .stuck
def ninSeqB (x y : D) : Res Bool := (inSeqB x y).bind fun b => .ok (!b)
theorem in_rep {K : PySem.W.Frag} {H : Hp} {N M : Addr → Prop} {ι : List Addr} {s : Bool} {v : V} {x : D} (rx : Rep K H N M ι s v x) : ∀ {ds : List D} {vs : List V}, ds.all (sameK x) = true → sameK x x = true → Reps K H N M ι s vs ds → flatV v = true ∧ vs.all flatV = true ∧ inV v vs = ds.any fun y => eqF y x
  | [], vs, _, hx, r => by
    cases r
    cases x with
    | str a => cases (show v = .str a from rx); exact ⟨rfl, rfl, rfl⟩
    | int a => cases (show v = .int a from rx); exact ⟨rfl, rfl, rfl⟩
    | _ => cases hx
  | d :: ds, vs, h, hx, r => by
    obtain ⟨u, us, rfl, h1, h2⟩ := r
    rw [List.all_cons, Bool.and_eq_true] at h
    obtain ⟨a1, a2, a3⟩ := in_rep rx h.2 hx h2
    cases x with
    | str a =>
      cases (show v = .str a from rx)
      cases d with
      | str b =>
        cases (show u = .str b from h1)
        refine ⟨rfl, by rw [List.all_cons, a2]; rfl, ?_⟩
        show (eqV (.str b) (.str a) || inV (.str a) us) = (eqF (.str b) (.str a) || _)
        rw [a3]; rfl
      | _ => cases h.1
    | int a =>
      cases (show v = .int a from rx)
      cases d with
      | int b =>
        cases (show u = .int b from h1)
        refine ⟨rfl, by rw [List.all_cons, a2]; rfl, ?_⟩
        show (eqV (.int b) (.int a) || inV (.int a) us) = (eqF (.int b) (.int a) || _)
        rw [a3]; rfl
      | _ => cases h.1
    | _ => cases hx
theorem cms_inSeq {K : PySem.W.Frag} : CmS K (rIn K false) inSeqB := by
  intro N M ι W σ H v u x y Q rx ry q
  cases y with
  | lst ds =>
    have q' : PostG K N M ι W σ H (fun b H' => Q (.bl b) H') (if ds.all (sameK x) = true ∧ sameK x x = true then .ok (ds.any fun y => eqF y x) else .stuck) := by cases x <;> exact q
    by_cases hc : ds.all (sameK x) = true ∧ sameK x x = true
    · rw [if_pos hc] at q'
      obtain ⟨p, vs, rfl, _, h2, h3⟩ := ry
      obtain ⟨a1, a2, a3⟩ := in_rep rx hc.1 hc.2 h3
      exact ⟨p, vs, rfl, .inl h2, a1, a2, by rw [if_neg (by decide), a3]; exact q'.now⟩
    · rw [if_neg hc] at q'; exact False.elim q'
  | tup ds =>
    have q' : PostG K N M ι W σ H (fun b H' => Q (.bl b) H') (if ds.all (sameK x) = true ∧ sameK x x = true then .ok (ds.any fun y => eqF y x) else .stuck) := by cases x <;> exact q
    by_cases hc : ds.all (sameK x) = true ∧ sameK x x = true
    · rw [if_pos hc] at q'
      obtain ⟨p, vs, rfl, h2, h3⟩ := ry
      obtain ⟨a1, a2, a3⟩ := in_rep rx hc.1 hc.2 h3
      exact ⟨p, vs, rfl, .inr h2, a1, a2, by rw [if_neg (by decide), a3]; exact q'.now⟩
    · rw [if_neg hc] at q'; exact False.elim q'
  | _ => cases x <;> exact False.elim q
theorem cms_ninSeq {K : PySem.W.Frag} : CmS K (rIn K true) ninSeqB := by
  intro N M ι W σ H v u x y Q rx ry q
  have h := cms_inSeq N M ι W σ H v u x y (fun w H' => ∀ b, w = .bl b → Q (.bl (!b)) H') rx ry ((PostG.bind q).imp fun b H' e' k b' eb => by cases eb; exact k.now)
  obtain ⟨p, xs, e, hq, f1, f2, h⟩ := h
  refine ⟨p, xs, e, hq, f1, f2, ?_⟩
  rw [if_pos rfl]
  rw [if_neg (by decide)] at h
  exact h _ rfl
end
/-- a block that takes nothing from the scope around it -/
theorem blkOk_any {N : List Str} {sc scope : Scope} {own : List (Str × Nat)} (h : blkC N { kind := .function, names := [], isGenerator := false, isCoroutine := false } scope own = true) : BlkOk N sc scope own := by
  have b := blkOk_by h
  exact ⟨b.kind, b.uniq, b.ix, fun y hy e => (by
    rcases b.free y hy e with z | z
    · cases z
    · cases z), b.own⟩
end Dv

set_option Elab.async false
set_option linter.all false
set_option maxRecDepth 100000
set_option maxHeartbeats 1000000
/-! plain matters of the laws: names, needs, merging -/
namespace Dv
open PySem PySem.Spec L2
open PyProof.Rows hiding St
@[simp] theorem addI_int (i j : Int) : addI (.int i) (.int j) = .ok (.int (i + j)) := rfl
theorem Rho.sl_mk (l : List Sl) (S : Option (List Ce)) : (Rho.mk l S).sl = l := rfl
abbrev letters : Str := "abcdefghijklmnopqrstuvwxyz"
structure NameOk (z : Str) : Prop where
  lo : 1 ≤ z.cps.size
  hi : z.cps.size ≤ 12
  al : ∀ c ∈ z.cps.toList, c ∈ letters.cps.toList
theorem letter_in : ∀ c ∈ letters.cps.toList, (Builtin.Str.occurrences letters ⟨#[c]⟩ 0 letters.length 1).isEmpty = false := by decide +kernel
abbrev Nd := Int × Str × Int
def tn (n : Nd) : D := .tup [.int n.1, .str n.2.1, .int n.2.2]
/-- the key of m lies before that of n -/
def kl (m n : Nd) : Bool := if m.1 = n.1 then (if m.2.1 = n.2.1 then false else strLt m.2.1 n.2.1) else decide (m.1 < n.1)
def at_ (l : List Nd) (n : Nd) : Nat := (l.takeWhile (kl · n)).length
def mg (l : List Nd) (n : Nd) : List Nd := match l[at_ l n]? with
  | some m => if m.1 = n.1 ∧ m.2.1 = n.2.1 then l.set (at_ l n) (n.1, n.2.1, m.2.2 + n.2.2) else l.take (at_ l n) ++ [n] ++ l.drop (at_ l n)
  | none => l.take (at_ l n) ++ [n] ++ l.drop (at_ l n)
theorem mg_len (l : List Nd) (n : Nd) : (mg l n).length ≤ l.length + 1 := by
  have h : (l.take (at_ l n) ++ [n] ++ l.drop (at_ l n)).length = l.length + 1 := by simp only [List.length_append, List.length_take, List.length_drop, List.length_cons, List.length_nil]; omega
  unfold mg
  split
  · split
    · rw [List.length_set]; omega
    · omega
  · omega
abbrev mgs (raw : List Nd) : List Nd := raw.foldl mg []
theorem mgs_len (raw : List Nd) : (mgs raw).length ≤ raw.length := by
  have h : ∀ (rs l : List Nd), (rs.foldl mg l).length ≤ l.length + rs.length := by
    intro rs
    induction rs with
    | nil => intro l; simp
    | cons r rs ih =>
      intro l
      have h1 := ih (mg l r)
      have h2 := mg_len l r
      rw [List.foldl_cons, List.length_cons]
      omega
  have := h raw []
  simpa using this
theorem sl2 (n : Nd) : slTup none (some 2) (tn n) = .ok (.tup [.int n.1, .str n.2.1]) := rfl
theorem ltP_k (m n : Nd) : ltP (.tup [.int m.1, .str m.2.1]) (.tup [.int n.1, .str n.2.1]) = .ok (kl m n) := rfl
theorem letter_ok : ∀ c ∈ letters.cps.toList, c < 128 := by decide +kernel
theorem strOk_name {z : Str} (h : NameOk z) : PyData.strOk z = true := by
  unfold PyData.strOk
  rw [← Array.all_toList, List.all_eq_true]
  intro c hc
  have := letter_ok c (h.al c hc)
  exact decide_eq_true (by omega)
theorem shaped2 {i : Int} {s : Str} (h : NameOk s) : SeqAt.shaped (.tuple [.int i, .str s]) = true := by
  have e : PyData.strOk s = true := strOk_name h
  unfold SeqAt.shaped
  simp only [PyData.canLay0, PyData.canLayAll0, e]
  rfl
theorem eqB_p2 {i j : Int} {s t : Str} (hs : NameOk s) (ht : NameOk t) : eqB (.tup [.int i, .str s]) (.tup [.int j, .str t]) = .ok (decide (i = j ∧ s = t)) := by
  show eqDeep (.tup [.int i, .str s]) (.tup [.int j, .str t]) = _
  unfold eqDeep
  simp only [toPy, toPys, Option.bind, Option.map]
  rw [if_pos ⟨shaped2 hs, shaped2 ht⟩]
  simp [PyData.eqv, PyData.eqvAll, Bool.decide_and]
  rfl
theorem shaped3 {n : Nd} (h : NameOk n.2.1) : SeqAt.shaped (.tuple [.int n.1, .str n.2.1, .int n.2.2]) = true := by
  have e : PyData.strOk n.2.1 = true := strOk_name h
  unfold SeqAt.shaped
  simp only [PyData.canLay0, PyData.canLayAll0, e]
  rfl
theorem eqB_tn {m n : Nd} (hm : NameOk m.2.1) (hn : NameOk n.2.1) : eqB (tn m) (tn n) = .ok (decide (m = n)) := by
  show eqDeep (.tup [.int m.1, .str m.2.1, .int m.2.2]) (.tup [.int n.1, .str n.2.1, .int n.2.2]) = _
  unfold eqDeep
  simp only [toPy, toPys, Option.bind, Option.map]
  rw [if_pos ⟨shaped3 hm, shaped3 hn⟩]
  obtain ⟨a, b, c⟩ := m
  obtain ⟨x, y, z⟩ := n
  simp [PyData.eqv, PyData.eqvAll, Bool.decide_and]
  rfl
theorem neB_tn {m n : Nd} (hm : NameOk m.2.1) (hn : NameOk n.2.1) : neB (tn m) (tn n) = .ok (!decide (m = n)) := by
  unfold neB
  rw [eqB_tn hm hn]; rfl
theorem ne_tn {n : Nd} (h : NameOk n.2.1) : neB (tn n) (tn n) = .ok false := by
  rw [neB_tn h h]; simp
theorem ix_l {l : List Nd} {p : Nat} (h : p < l.length) : ixD (.lst (l.map tn)) (.int (p : Int)) = .ok (tn l[p]) := by
  rw [ixD_lst (k := p) (by simpa using h), List.getElem_map]
theorem ix_t {l : List Nd} {p : Nat} (h : p < l.length) : ixD (.tup (l.map tn)) (.int (p : Int)) = .ok (tn l[p]) := by
  rw [ixD_tup (k := p) (by simpa using h), List.getElem_map]
theorem put_l {ρ : Rho} {i : Nat} {ds : List D} {d : D} {p : Nat} (h : p < ds.length) : putAt ρ i ds d (.int (p : Int)) = .ok (ρ.set i (.ow (ds.set p d))) := by
  show (match ixN ds.length (p : Int) with | some j => Res.ok (ρ.set i (.ow (ds.set j d))) | none => .stuck) = _
  rw [ixN_nat h]
theorem ins_l {ds : List D} {d : D} {p : Nat} (h : ds.length ≤ 200) (hp : p ≤ 200) : insK ds [.int (p : Int), d] = .ok (ds.take p ++ [d] ++ ds.drop p) := by
  rw [insK_int, if_pos ⟨Nat.lt_of_le_of_lt h (by decide), by omega, by omega⟩]
  rfl
theorem lt_cast {p n : Nat} : ((p : Int) < (n : Int)) = (p < n) := by simp
theorem tn0 (n : Nd) : ixD (tn n) (.int 0) = .ok (.int n.1) := rfl
theorem tn1 (n : Nd) : ixD (tn n) (.int 1) = .ok (.str n.2.1) := rfl
theorem tn2 (n : Nd) : ixD (tn n) (.int 2) = .ok (.int n.2.2) := rfl
theorem cf_str (z : Str) : ckFlat (.str z) = .ok (.str z) := rfl
theorem cf_tn (n : Nd) : ckFlat (tn n) = .ok (tn n) := rfl
theorem mg_ok {Pn : Str → Prop} {l : List Nd} {n : Nd} (hL : ∀ m ∈ l, Pn m.2.1) (hN : Pn n.2.1) : ∀ m ∈ mg l n, Pn m.2.1 := by
  have h : ∀ m ∈ l.take (at_ l n) ++ [n] ++ l.drop (at_ l n), Pn m.2.1 := fun m hm => by
    rcases List.mem_append.mp hm with hm | hm
    · rcases List.mem_append.mp hm with hm | hm
      · exact hL m (List.mem_of_mem_take hm)
      · rw [List.mem_singleton.mp hm]; exact hN
    · exact hL m (List.mem_of_mem_drop hm)
  intro m hm
  unfold mg at hm
  split at hm
  · split at hm
    · rcases List.mem_or_eq_of_mem_set hm with e | e
      · exact hL m e
      · rw [e]; exact hN
    · exact h m hm
  · exact h m hm
theorem fl (l : List Nd) : flats (l.map tn) = true := by
  induction l with
  | nil => rfl
  | cons n l ih => show (flat (tn n) && flats (l.map tn)) = true; rw [ih]; rfl
theorem fl_str (l : List Str) : flats (l.map .str) = true := by
  induction l with
  | nil => rfl
  | cons n l ih => show (flat (.str n) && flats (l.map .str)) = true; rw [ih]; rfl
structure NdOk (n : Nd) : Prop where
  b : 0 ≤ n.1
  t : NameOk n.2.1
  a : 1 ≤ n.2.2
def fn_D : List Str := ["name", "first", "second", "needs"]
def dD (c : Addr) (z : Str) (f s : Int) (needs : List Nd) : D := .ins c fn_D [.str z, .int f, .int s, .tup (needs.map tn)]
theorem flat_dD (c : Addr) (z : Str) (f s : Int) (needs : List Nd) : flat (dD c z f s needs) = true := by
  show (true && (true && (true && (flats (needs.map tn) && true)))) = true
  rw [fl]; rfl
theorem fld_name (c : Addr) (z : Str) (f s : Int) (l : List Nd) : fldD c "name" (dD c z f s l) = .ok (.str z) := if_pos rfl
theorem fld_first (c : Addr) (z : Str) (f s : Int) (l : List Nd) : fldD c "first" (dD c z f s l) = .ok (.int f) := if_pos rfl
theorem fld_second (c : Addr) (z : Str) (f s : Int) (l : List Nd) : fldD c "second" (dD c z f s l) = .ok (.int s) := if_pos rfl
theorem fld_needs (c : Addr) (z : Str) (f s : Int) (l : List Nd) : fldD c "needs" (dD c z f s l) = .ok (.tup (l.map tn)) := if_pos rfl
theorem onC_dD {α : Type} (c : Addr) (z : Str) (f s : Int) (l : List Nd) (r : Res α) : onC c (dD c z f s l) r = r := if_pos rfl
theorem onCI_dD (c : Addr) (z : Str) (f s : Int) (l : List Nd) (F : List D → Res D) (i : Int) : onCI c F (dD c z f s l) (.int i) = F [dD c z f s l, .int i] := if_pos rfl
theorem fldI_at {c : Addr} {f : Str} {fe : Rho → Res D} {fn : List Str} {ds : List D} {r : List Sl} {S : Option (List Ce)} {d : D} (e : fe ⟨.oi c fn ds :: r, S⟩ = .ok d) (h1 : fn.contains f = false) (h2 : fn.length < 1000) (h3 : fn.length = ds.length) :
    sFldI c 0 f fe ⟨.oi c fn ds :: r, S⟩ = .nx ⟨.oi c (fn ++ [f]) (ds ++ [d]) :: r, S⟩ := by
  unfold sFldI
  rw [e, andThen_ok]
  show (if c = c ∧ fn.contains f = false ∧ fn.length < 1000 ∧ fn.length = ds.length then Out.nx ⟨.oi c (fn ++ [f]) (ds ++ [d]) :: r, S⟩ else .stuck) = _
  rw [if_pos ⟨rfl, h1, h2, h3⟩]
theorem of3 {a b c : Int} (ha : 0 < a) (hb : 0 < b) (hc : 0 < c) {r : Nat} (h : (r : Int) < 3) : ∃ m : Int, ixD (.lst [.int a, .int b, .int c]) (.int (r : Int)) = .ok (.int m) ∧ 0 < m := by
  have : r = 0 ∨ r = 1 ∨ r = 2 := by omega
  rcases this with e | e | e
  · subst e; exact ⟨a, ixD_lst0, ha⟩
  · subst e; exact ⟨b, ixD_lst1, hb⟩
  · subst e; exact ⟨c, ixD_lst2, hc⟩
theorem app_ok {ds : List D} {d : D} (h : ds.length ≤ 200) : appK ds [d] = .ok (ds ++ [d]) := if_pos (Nat.lt_of_le_of_lt h (by decide))
/-! texts -/
def st1 (c : Nat) : Str := ⟨#[c]⟩
theorem joinL_one : ∀ ys : List Nat, TL.joinL [] (ys.map fun c => [c]) = ys
  | [] => rfl
  | [c] => rfl
  | c :: d :: r => by
    show [c] ++ ([] ++ TL.joinL [] ((d :: r).map fun c => [c])) = _
    rw [joinL_one (d :: r)]; rfl
theorem joined (ys : List Nat) : (Txt.join "" (ys.map st1)).cps.toList = ys := by
  rw [TL.join_eq]
  show TL.tl (Str.join "" (ys.map st1)) = ys
  rw [TL.tl_join, List.map_map]
  exact joinL_one ys
theorem strsOf_map (zs : List Str) : strsOf (zs.map .str) = some zs := by
  induction zs with
  | nil => rfl
  | cons z zs ih => show (strsOf (zs.map .str)).map _ = _; rw [ih]; rfl
theorem sum_one (ys : List Nat) : ((ys.map st1).map (·.length)).sum = ys.length := by
  induction ys with
  | nil => rfl
  | cons y ys ih =>
    show 1 + ((ys.map st1).map (·.length)).sum = ys.length + 1
    rw [ih]; omega
theorem join_ok (ys : List Nat) (h : ys.length ≤ 1000) : joinK "" (.lst ((ys.map st1).map .str)) = .ok (.str (Txt.join "" (ys.map st1))) := by
  show (match strsOf ((ys.map st1).map .str) with | some ys => if (ys.map (fun s : Str => s.length)).sum + ys.length * ("" : Str).length ≤ 16777216 then Res.ok (D.str (Txt.join "" ys)) else .stuck | none => .stuck) = _
  rw [strsOf_map]
  show (if ((ys.map st1).map (·.length)).sum + (ys.map st1).length * 0 ≤ 16777216 then _ else _) = _
  rw [if_pos (by rw [sum_one]; omega)]
theorem ix_str {z : Str} {p : Nat} (h : p < z.cps.toList.length) (hz : z.cps.size ≤ 1000) : ixD (.str z) (.int (p : Int)) = .ok (.str (st1 z.cps.toList[p])) := by
  show (if z.length ≤ line then (match atI z.cps.toList (p : Int) with | some c => Res.ok (D.str ⟨#[c]⟩) | none => .stuck) else .stuck) = _
  rw [if_pos (Nat.le_trans (show z.length ≤ 1000 from hz) (by decide))]
  unfold atI
  rw [ixN_nat h]
  show (match z.cps.toList[p]? with | some c => Res.ok (D.str ⟨#[c]⟩) | none => .stuck) = _
  rw [List.getElem?_eq_getElem h]
  rfl
theorem slS_ok {z : Str} {lo hi : Option Int} (h : z.cps.size ≤ 1000) : slStr lo hi (.str z) = .ok (.str (cutS z lo hi)) := if_pos (Nat.le_trans (show z.length ≤ 1000 from h) (by decide))
theorem cut_lo (z : Str) (p : Nat) : (cutS z none (some (p : Int))).cps.toList = z.cps.toList.take (min p z.length) := by
  unfold cutS
  rw [HT.sIx_nat, HT.sIx_none]
  simp
theorem cut_hi (z : Str) (p : Nat) : (cutS z (some (p : Int)) none).cps.toList = z.cps.toList.drop (min p z.length) := by
  unfold cutS
  rw [HT.sIx_nat, HT.sIx_none]
  have : z.cps.toList.length = z.length := by simp; rfl
  simp only [List.toList_toArray]
  rw [List.take_of_length_le (by rw [List.length_drop, this]; exact Nat.le_refl _)]
theorem eJoin_at {f g : Rho → Res D} {ρ : Rho} : eJoin f g ρ = ((f ρ).bind asStr).bind fun z => (g ρ).bind (joinK z) := rfl
theorem asStr_str (z : Str) : asStr (.str z) = .ok z := rfl
theorem tools_in : ∀ c ∈ ("mctahzkd" : Str).cps.toList, c ∈ letters.cps.toList := by decide +kernel
theorem add_str {x y : Str} (hx : x.cps.size ≤ 1000) (hy : y.cps.size ≤ 1000) : addD (.str x) (.str y) = .ok (.str (x ++ y)) := if_pos (by
  have h1 : x.length ≤ 1000 := hx
  have h2 : y.length ≤ 1000 := hy
  exact Nat.le_trans (Nat.add_le_add h1 h2) (by decide))
theorem size_tl (z : Str) : z.cps.size = z.cps.toList.length := by simp
/-- a for whose turns carry a state: every turn goes on -/
theorem forL_inv {α : Type} (st : α → Rho) (Inv : α → Prop) (step : α → D → α) {b : D → Rho → Out} : ∀ (ds : List D) (a : α), Inv a → (∀ a d, d ∈ ds → Inv a → b d (st a) = .nx (st (step a d)) ∧ Inv (step a d)) → forL b ds (st a) = .nx (st (ds.foldl step a)) ∧ Inv (ds.foldl step a)
  | [], a, h, _ => ⟨rfl, h⟩
  | d :: ds, a, h, hs => by
    obtain ⟨e, h'⟩ := hs a d List.mem_cons_self h
    rw [forL_cons, e, loopO_nx]
    exact forL_inv st Inv step ds (step a d) h' fun a d hd => hs a d (List.mem_cons_of_mem _ hd)
end Dv

set_option Elab.async false
set_option linter.all false
set_option maxRecDepth 100000
set_option maxHeartbeats 1000000
/-! plain matters of the laws: sorted needs, sums at the keys -/
namespace Dv
open PySem PySem.Spec L2
open PyProof.Rows hiding St
theorem str_ext {s t : Str} (h : s.cps.toList = t.cps.toList) : s = t := by
  cases s; cases t
  congr 1
  exact Array.toList_inj.mp h
theorem strLt_total {s t : Str} (h1 : strLt s t = false) (h2 : strLt t s = false) : s = t := by
  have a := of_decide_eq_false h1
  have b := of_decide_eq_false h2
  exact str_ext (List.le_antisymm (List.not_lt.mp b) (List.not_lt.mp a))
theorem strLt_trans {s t u : Str} (h1 : strLt s t = true) (h2 : strLt t u = true) : strLt s u = true := decide_eq_true (List.lt_trans (of_decide_eq_true h1) (of_decide_eq_true h2))
theorem strLt_irr {s : Str} : strLt s s = false := decide_eq_false (List.lt_irrefl _)
theorem kl_iff {m n : Nd} : kl m n = true ↔ m.1 < n.1 ∨ (m.1 = n.1 ∧ strLt m.2.1 n.2.1 = true) := by
  unfold kl
  by_cases h : m.1 = n.1
  · rw [if_pos h]
    by_cases h2 : m.2.1 = n.2.1
    · rw [if_pos h2, h2, strLt_irr]
      constructor
      · intro z; cases z
      · rintro (z | ⟨_, z⟩)
        · omega
        · cases z
    · rw [if_neg h2]
      constructor
      · exact fun z => .inr ⟨h, z⟩
      · rintro (z | ⟨_, z⟩)
        · omega
        · exact z
  · rw [if_neg h, decide_eq_true_eq]
    constructor
    · exact .inl
    · rintro (z | ⟨z, _⟩)
      · exact z
      · exact absurd z h
theorem kl_trans {a b c : Nd} (h1 : kl a b = true) (h2 : kl b c = true) : kl a c = true := by
  rw [kl_iff] at *
  rcases h1 with h1 | ⟨h1, h1'⟩
  · rcases h2 with h2 | ⟨h2, h2'⟩
    · exact .inl (by omega)
    · exact .inl (by omega)
  · rcases h2 with h2 | ⟨h2, h2'⟩
    · exact .inl (by omega)
    · exact .inr ⟨h1.trans h2, strLt_trans h1' h2'⟩
theorem kl_total {a b : Nd} (h1 : kl a b = false) (h2 : kl b a = false) : a.1 = b.1 ∧ a.2.1 = b.2.1 := by
  have n1 : ¬ (a.1 < b.1 ∨ (a.1 = b.1 ∧ strLt a.2.1 b.2.1 = true)) := fun z => by rw [← kl_iff, h1] at z; cases z
  have n2 : ¬ (b.1 < a.1 ∨ (b.1 = a.1 ∧ strLt b.2.1 a.2.1 = true)) := fun z => by rw [← kl_iff, h2] at z; cases z
  have e : a.1 = b.1 := by omega
  refine ⟨e, strLt_total ?_ ?_⟩
  · cases z : strLt a.2.1 b.2.1 with
    | true => exact absurd (.inr ⟨e, z⟩) n1
    | false => rfl
  · cases z : strLt b.2.1 a.2.1 with
    | true => exact absurd (.inr ⟨e.symm, z⟩) n2
    | false => rfl
theorem kl_key {a b a' b' : Nd} (h1 : a.1 = a'.1) (h2 : a.2.1 = a'.2.1) (h3 : b.1 = b'.1) (h4 : b.2.1 = b'.2.1) : kl a b = kl a' b' := by
  unfold kl
  rw [h1, h2, h3, h4]
theorem kl_irr {a : Nd} : kl a a = false := by
  unfold kl
  rw [if_pos rfl, if_pos rfl]
def ins : List Nd → Nd → List Nd
  | [], n => [n]
  | m :: l, n => if kl m n = true then m :: ins l n else if m.1 = n.1 ∧ m.2.1 = n.2.1 then (n.1, n.2.1, m.2.2 + n.2.2) :: l else n :: m :: l
theorem mg_ins : ∀ (l : List Nd) (n : Nd), mg l n = ins l n
  | [], n => rfl
  | m :: l, n => by
    cases h : kl m n with
    | true =>
      have e : at_ (m :: l) n = at_ l n + 1 := by
        unfold at_
        rw [List.takeWhile_cons]
        simp only [h, if_true, List.length_cons]
      show mg (m :: l) n = if kl m n = true then m :: ins l n else _
      rw [if_pos h, ← mg_ins l n]
      unfold mg
      rw [e, List.getElem?_cons_succ]
      cases l[at_ l n]? with
      | none => rfl
      | some x =>
        dsimp only
        by_cases c : x.1 = n.1 ∧ x.2.1 = n.2.1
        · rw [if_pos c, if_pos c]; rfl
        · rw [if_neg c, if_neg c]; rfl
    | false =>
      have e : at_ (m :: l) n = 0 := by
        unfold at_
        rw [List.takeWhile_cons]
        simp [h]
      show mg (m :: l) n = if kl m n = true then m :: ins l n else _
      rw [if_neg (by rw [h]; exact Bool.false_ne_true)]
      unfold mg
      rw [e, List.getElem?_cons_zero]
      rfl
def Srt (l : List Nd) : Prop := l.Pairwise fun m n => kl m n = true
theorem ins_all {Q : Nd → Prop} (hQ : ∀ a b : Nd, a.1 = b.1 → a.2.1 = b.2.1 → Q a → Q b) : ∀ {l : List Nd} {n : Nd}, (∀ x ∈ l, Q x) → Q n → ∀ x ∈ ins l n, Q x
  | [], n, _, hn, x, hx => by rw [List.mem_singleton.mp hx]; exact hn
  | m :: l, n, h, hn, x, hx => by
    unfold ins at hx
    split at hx
    · rcases List.mem_cons.mp hx with e | hx
      · rw [e]; exact h m List.mem_cons_self
      · exact ins_all hQ (fun y hy => h y (List.mem_cons_of_mem _ hy)) hn x hx
    · split at hx
      · rcases List.mem_cons.mp hx with e | hx
        · rw [e]; exact hQ n _ rfl rfl hn
        · exact h x (List.mem_cons_of_mem _ hx)
      · rcases List.mem_cons.mp hx with e | hx
        · rw [e]; exact hn
        · exact h x hx
theorem ins_srt : ∀ {l : List Nd} {n : Nd}, Srt l → Srt (ins l n)
  | [], n, _ => List.pairwise_singleton _ _
  | m :: l, n, h => by
    obtain ⟨h1, h2⟩ := List.pairwise_cons.mp h
    unfold ins
    by_cases c : kl m n = true
    · rw [if_pos c]
      refine List.pairwise_cons.mpr ⟨ins_all (fun a b e1 e2 z => by rw [← kl_key rfl rfl e1 e2]; exact z) h1 c, ins_srt h2⟩
    · rw [if_neg c]
      by_cases c2 : m.1 = n.1 ∧ m.2.1 = n.2.1
      · rw [if_pos c2]
        exact List.pairwise_cons.mpr ⟨fun x hx => (kl_key (a := (n.1, n.2.1, m.2.2 + n.2.2)) (b := x) (a' := m) (b' := x) c2.1.symm c2.2.symm rfl rfl).trans (h1 x hx), h2⟩
      · rw [if_neg c2]
        have c3 : kl n m = true := by
          cases z : kl n m with
          | true => rfl
          | false =>
            have c' : kl m n = false := by
              cases y : kl m n with
              | true => exact absurd y c
              | false => rfl
            exact absurd (kl_total c' z) c2
        refine List.pairwise_cons.mpr ⟨fun x hx => ?_, h⟩
        rcases List.mem_cons.mp hx with e | hx
        · rw [e]; exact c3
        · exact kl_trans c3 (h1 x hx)
def sumAt (b : Int) (t : Str) : List Nd → Int
  | [] => 0
  | m :: l => (if m.1 = b ∧ m.2.1 = t then m.2.2 else 0) + sumAt b t l
theorem ins_sum {b : Int} {t : Str} : ∀ {l : List Nd} {n : Nd}, sumAt b t (ins l n) = sumAt b t l + (if n.1 = b ∧ n.2.1 = t then n.2.2 else 0)
  | [], n => by show _ + 0 = 0 + _; omega
  | m :: l, n => by
    unfold ins
    split
    · show _ + sumAt b t (ins l n) = _ + sumAt b t l + _
      rw [ins_sum]; omega
    · split
      · rename_i c
        show (if n.1 = b ∧ n.2.1 = t then m.2.2 + n.2.2 else 0) + sumAt b t l = (if m.1 = b ∧ m.2.1 = t then m.2.2 else 0) + sumAt b t l + _
        rw [c.1, c.2]
        split <;> omega
      · show _ + (_ + sumAt b t l) = _ + sumAt b t l + _
        omega
theorem fold_srt : ∀ {raw l : List Nd}, Srt l → Srt (raw.foldl mg l)
  | [], l, h => h
  | n :: raw, l, h => fold_srt (raw := raw) (l := mg l n) (by rw [mg_ins]; exact ins_srt h)
theorem fold_sum {b : Int} {t : Str} : ∀ {raw l : List Nd}, sumAt b t (raw.foldl mg l) = sumAt b t l + sumAt b t raw
  | [], l => by show sumAt b t l = sumAt b t l + 0; omega
  | n :: raw, l => by
    show sumAt b t (raw.foldl mg (mg l n)) = sumAt b t l + (_ + sumAt b t raw)
    rw [fold_sum, mg_ins, ins_sum]; omega
theorem mgs_srt (raw : List Nd) : Srt (mgs raw) := fold_srt List.Pairwise.nil
theorem mgs_sum (b : Int) (t : Str) (raw : List Nd) : sumAt b t (mgs raw) = sumAt b t raw := by
  rw [fold_sum]; show 0 + _ = _; omega
def Pos1 (l : List Nd) : Prop := ∀ m ∈ l, 1 ≤ m.2.2
theorem ins_pos : ∀ {l : List Nd} {n : Nd}, Pos1 l → 1 ≤ n.2.2 → Pos1 (ins l n)
  | [], n, _, hn => fun x hx => by rw [List.mem_singleton.mp hx]; exact hn
  | m :: l, n, h, hn => fun x hx => by
    unfold ins at hx
    split at hx
    · rcases List.mem_cons.mp hx with e | hx
      · rw [e]; exact h m List.mem_cons_self
      · exact ins_pos (fun y hy => h y (List.mem_cons_of_mem _ hy)) hn x hx
    · split at hx
      · rcases List.mem_cons.mp hx with e | hx
        · have := h m List.mem_cons_self
          rw [e]; show 1 ≤ m.2.2 + n.2.2; omega
        · exact h x (List.mem_cons_of_mem _ hx)
      · rcases List.mem_cons.mp hx with e | hx
        · rw [e]; exact hn
        · exact h x hx
theorem fold_pos : ∀ {raw l : List Nd}, Pos1 l → Pos1 raw → Pos1 (raw.foldl mg l)
  | [], l, h, _ => h
  | n :: raw, l, h, hr => fold_pos (raw := raw) (l := mg l n) (by rw [mg_ins]; exact ins_pos h (hr n List.mem_cons_self)) fun m hm => hr m (List.mem_cons_of_mem _ hm)
theorem fold_all {Q : Nd → Prop} (hQ : ∀ a b : Nd, a.1 = b.1 → a.2.1 = b.2.1 → Q a → Q b) : ∀ {raw l : List Nd}, (∀ x ∈ l, Q x) → (∀ x ∈ raw, Q x) → ∀ x ∈ raw.foldl mg l, Q x
  | [], l, h, _ => h
  | n :: raw, l, h, hr => fold_all (raw := raw) (l := mg l n) hQ (by rw [mg_ins]; exact ins_all hQ h (hr n List.mem_cons_self)) fun m hm => hr m (List.mem_cons_of_mem _ hm)
theorem sum_none {b : Int} {t : Str} : ∀ {l : List Nd}, (∀ x ∈ l, ¬ (x.1 = b ∧ x.2.1 = t)) → sumAt b t l = 0
  | [], _ => rfl
  | m :: l, h => by
    show (if m.1 = b ∧ m.2.1 = t then m.2.2 else 0) + sumAt b t l = 0
    rw [if_neg (h m List.mem_cons_self), sum_none fun x hx => h x (List.mem_cons_of_mem _ hx)]; rfl
theorem sum_ge {b : Int} {t : Str} : ∀ {l : List Nd}, Pos1 l → 0 ≤ sumAt b t l
  | [], _ => Int.le_refl _
  | m :: l, h => by
    have h1 := h m List.mem_cons_self
    have h2 := sum_ge (b := b) (t := t) (l := l) fun x hx => h x (List.mem_cons_of_mem _ hx)
    show 0 ≤ (if m.1 = b ∧ m.2.1 = t then m.2.2 else 0) + sumAt b t l
    split <;> omega
theorem sum_mem {m : Nd} : ∀ {l : List Nd}, Pos1 l → m ∈ l → 1 ≤ sumAt m.1 m.2.1 l
  | n :: l, h, hm => by
    have hp : Pos1 l := fun x hx => h x (List.mem_cons_of_mem _ hx)
    have h2 := sum_ge (b := m.1) (t := m.2.1) hp
    have h1 := h n List.mem_cons_self
    show 1 ≤ (if n.1 = m.1 ∧ n.2.1 = m.2.1 then n.2.2 else 0) + sumAt m.1 m.2.1 l
    rcases List.mem_cons.mp hm with e | hm
    · rw [← e, if_pos ⟨rfl, rfl⟩]
      have := h m (by rw [e]; exact List.mem_cons_self)
      omega
    · have := sum_mem hp hm
      split <;> omega
theorem mem_sum {b : Int} {t : Str} {l : List Nd} (h : 1 ≤ sumAt b t l) : ∃ x ∈ l, x.1 = b ∧ x.2.1 = t := by
  by_cases c : ∃ x ∈ l, x.1 = b ∧ x.2.1 = t
  · exact c
  · rw [sum_none fun x hx z => c ⟨x, hx, z⟩] at h
    omega
theorem canon : ∀ {l l' : List Nd}, Srt l → Srt l' → Pos1 l → Pos1 l' → (∀ b t, sumAt b t l = sumAt b t l') → l = l'
  | [], [], _, _, _, _, _ => rfl
  | [], n :: l', _, _, _, p', h => by
    have := sum_mem p' (m := n) List.mem_cons_self
    rw [← h] at this
    have z : sumAt n.1 n.2.1 [] = 0 := rfl
    omega
  | m :: l, [], _, _, p, _, h => by
    have := sum_mem p (m := m) List.mem_cons_self
    rw [h] at this
    have z : sumAt m.1 m.2.1 [] = 0 := rfl
    omega
  | m :: l, n :: l', s, s', p, p', h => by
    obtain ⟨s1, s2⟩ := List.pairwise_cons.mp s
    obtain ⟨s3, s4⟩ := List.pairwise_cons.mp s'
    have far : ∀ {x : Nd} {r : List Nd}, (∀ y ∈ r, kl x y = true) → sumAt x.1 x.2.1 r = 0 := fun {x r} hx => sum_none fun y hy z => by
      have := hx y hy
      rw [kl_key (a := x) (b := y) (a' := x) (b' := x) rfl rfl z.1 z.2, kl_irr] at this
      cases this
    have k1 : kl m n = false := by
      cases z : kl m n with
      | false => rfl
      | true =>
        have a := sum_mem p (m := m) List.mem_cons_self
        rw [h, far (x := m) (r := n :: l') fun y hy => by
          rcases List.mem_cons.mp hy with e | hy
          · rw [e]; exact z
          · exact kl_trans z (s3 y hy)] at a
        omega
    have k2 : kl n m = false := by
      cases z : kl n m with
      | false => rfl
      | true =>
        have a := sum_mem p' (m := n) List.mem_cons_self
        rw [← h, far (x := n) (r := m :: l) fun y hy => by
          rcases List.mem_cons.mp hy with e | hy
          · rw [e]; exact z
          · exact kl_trans z (s1 y hy)] at a
        omega
    have ek := kl_total k1 k2
    have e1 := h m.1 m.2.1
    have f1 : sumAt m.1 m.2.1 l = 0 := far s1
    have f2 : sumAt m.1 m.2.1 l' = 0 := by rw [ek.1, ek.2]; exact far s3
    have e2 : m.2.2 = n.2.2 := by
      have e1' : (if m.1 = m.1 ∧ m.2.1 = m.2.1 then m.2.2 else 0) + sumAt m.1 m.2.1 l = (if n.1 = m.1 ∧ n.2.1 = m.2.1 then n.2.2 else 0) + sumAt m.1 m.2.1 l' := e1
      rw [if_pos ⟨rfl, rfl⟩, if_pos ⟨ek.1.symm, ek.2.symm⟩, f1, f2] at e1'
      omega
    have emn : m = n := Prod.ext ek.1 (Prod.ext ek.2 e2)
    subst emn
    congr 1
    refine canon s2 s4 (fun x hx => p x (List.mem_cons_of_mem _ hx)) (fun x hx => p' x (List.mem_cons_of_mem _ hx)) fun b t => ?_
    have := h b t
    have e' : (if m.1 = b ∧ m.2.1 = t then m.2.2 else 0) + sumAt b t l = (if m.1 = b ∧ m.2.1 = t then m.2.2 else 0) + sumAt b t l' := this
    omega
theorem ixN_m1 {n : Nat} (h : 0 < n) : ixN n (-1) = some (n - 1) := by
  unfold ixN
  rw [if_neg (by decide), if_pos (by omega)]
  congr 1
  omega
theorem ix_last {l : List Nd} (h : 0 < l.length) : ixD (.tup (l.map tn)) (.int (-1)) = .ok (tn (l[l.length - 1]'(by omega))) := by
  show (match atI (l.map tn) (-1) with | some d => Res.ok d | none => Res.stuck) = _
  unfold atI
  rw [ixN_m1 (by simpa using h), List.length_map]
  show (match (l.map tn)[l.length - 1]? with | some d => Res.ok d | none => Res.stuck) = _
  rw [List.getElem?_map, List.getElem?_eq_getElem (by omega)]
  rfl
theorem ix_lastL {l : List Nd} (h : 0 < l.length) : ixD (.lst (l.map tn)) (.int (-1)) = .ok (tn (l[l.length - 1]'(by omega))) := by
  show (match atI (l.map tn) (-1) with | some d => Res.ok d | none => Res.stuck) = _
  unfold atI
  rw [ixN_m1 (by simpa using h), List.length_map]
  show (match (l.map tn)[l.length - 1]? with | some d => Res.ok d | none => Res.stuck) = _
  rw [List.getElem?_map, List.getElem?_eq_getElem (by omega)]
  rfl
theorem mapL_ok {h : D → Res D} {g : Nd → Nd} : ∀ {l : List Nd}, (∀ n ∈ l, h (tn n) = .ok (tn (g n))) → mapL h (l.map tn) = .ok ((l.map g).map tn)
  | [], _ => rfl
  | n :: l, e => by
    show (h (tn n)).bind (fun y => (mapL h (l.map tn)).bind fun ys => .ok (y :: ys)) = _
    rw [e n List.mem_cons_self, Res.bind_ok, mapL_ok fun m hm => e m (List.mem_cons_of_mem _ hm)]
    rfl
theorem eLc_ok {vs : List Nat} {fi : Rho → Res (List D)} {t : D → Rho → Option Rho} {f : Rho → Res D} {ρ : Rho} {l : List Nd} {g : Nd → Nd} (h1 : isNo ρ vs = true) (h2 : fi ρ = .ok (l.map tn)) (h3 : l.length ≤ 1000) (h4 : ∀ n ∈ l, lcOne t f (wipeR ρ vs) (tn n) = .ok (tn (g n))) :
    eLc vs fi t f ρ = .ok ((l.map g).map tn) := by
  unfold eLc
  rw [if_pos h1, h2, Res.bind_ok, ckLen_ok (by rw [List.length_map]; omega)]
  exact mapL_ok h4
def flip (L : Int) (n : Nd) : Nd := (L - n.1, n.2)
def lastB (l : List Nd) (h : 0 < l.length) : Int := (l[l.length - 1]'(by omega)).1
def shift (k : Int) (n : Nd) : Nd := (n.1 - k, n.2)
theorem sum_flip {L b : Int} {t : Str} : ∀ {l : List Nd}, sumAt b t (l.map (flip L)) = sumAt (L - b) t l
  | [] => rfl
  | m :: l => by
    show (if L - m.1 = b ∧ m.2.1 = t then m.2.2 else 0) + sumAt b t (l.map (flip L)) = (if m.1 = L - b ∧ m.2.1 = t then m.2.2 else 0) + sumAt (L - b) t l
    rw [sum_flip]
    by_cases c : m.1 = L - b
    · have c' : L - m.1 = b := by omega
      simp only [c, c', true_and]
      rw [show L - (L - b) = b from by omega]
      simp only [true_and]
    · have c' : ¬ (L - m.1 = b) := by omega
      simp only [c, c', false_and, if_false]
theorem sum_shift {k b : Int} {t : Str} : ∀ {l : List Nd}, sumAt b t (l.map (shift k)) = sumAt (b + k) t l
  | [] => rfl
  | m :: l => by
    show (if m.1 - k = b ∧ m.2.1 = t then m.2.2 else 0) + sumAt b t (l.map (shift k)) = (if m.1 = b + k ∧ m.2.1 = t then m.2.2 else 0) + sumAt (b + k) t l
    rw [sum_shift]
    by_cases c : m.1 = b + k
    · have c' : m.1 - k = b := by omega
      by_cases c2 : m.2.1 = t
      · rw [if_pos ⟨c', c2⟩, if_pos ⟨c, c2⟩]
      · rw [if_neg fun z => c2 z.2, if_neg fun z => c2 z.2]
    · have c' : ¬ (m.1 - k = b) := by omega
      simp only [c, c', false_and, if_false]
theorem srt_shift {k : Int} {l : List Nd} (h : Srt l) : Srt (l.map (shift k)) := List.pairwise_map.mpr (h.imp fun {a b} z => by
  rw [kl_iff] at *
  show a.1 - k < b.1 - k ∨ (a.1 - k = b.1 - k ∧ _)
  rcases z with z | ⟨z, z'⟩
  · exact .inl (by omega)
  · exact .inr ⟨by omega, z'⟩)
theorem kl_le {a b : Nd} (h : kl a b = true) : a.1 ≤ b.1 := by
  rw [kl_iff] at h
  rcases h with h | ⟨h, _⟩ <;> omega
theorem srt_first {l : List Nd} (h : Srt l) (h0 : 0 < l.length) : ∀ x ∈ l, l[0].1 ≤ x.1 := fun x hx => by
  obtain ⟨i, hi, rfl⟩ := List.getElem_of_mem hx
  by_cases c : i = 0
  · subst c; exact Int.le_refl _
  · exact kl_le (List.pairwise_iff_getElem.mp h 0 i h0 hi (by omega))
theorem srt_last {l : List Nd} (h : Srt l) (h0 : 0 < l.length) : ∀ x ∈ l, x.1 ≤ lastB l h0 := fun x hx => by
  obtain ⟨i, hi, rfl⟩ := List.getElem_of_mem hx
  unfold lastB
  by_cases c : i = l.length - 1
  · subst c; exact Int.le_refl _
  · exact kl_le (List.pairwise_iff_getElem.mp h i (l.length - 1) hi (by omega) (by omega))
theorem last_mem {l : List Nd} (h0 : 0 < l.length) : ∃ x ∈ l, x.1 = lastB l h0 := ⟨_, List.getElem_mem (by omega), rfl⟩
theorem pos_map {g : Nd → Nd} (hg : ∀ n, (g n).2 = n.2) {l : List Nd} (h : Pos1 l) : Pos1 (l.map g) := fun x hx => by
  obtain ⟨n, hn, rfl⟩ := List.mem_map.mp hx
  rw [hg]; exact h n hn
theorem turn_facts {l : List Nd} (s : Srt l) (p : Pos1 l) (h0 : 0 < l.length) (hn : ∀ m ∈ l, NameOk m.2.1) :
    ∃ hT : 0 < (mgs (l.map (flip (lastB l h0)))).length, lastB _ hT = lastB l h0 - l[0].1 ∧ mgs ((mgs (l.map (flip (lastB l h0)))).map (flip (lastB _ hT))) = l.map (shift l[0].1) ∧ (∀ m ∈ mgs (l.map (flip (lastB l h0))), NdOk m) ∧
      (∀ m ∈ mgs (l.map (flip (lastB l h0))), NdOk (flip (lastB _ hT) m)) ∧ (∀ m ∈ l, NdOk (flip (lastB l h0) m)) := by
  obtain ⟨L, hL⟩ : ∃ L : Int, lastB l h0 = L := ⟨_, rfl⟩
  have lastL := srt_last s h0
  have firstL := srt_first s h0
  rw [hL] at lastL ⊢
  obtain ⟨T, hTe⟩ : ∃ T : List Nd, mgs (l.map (flip L)) = T := ⟨_, rfl⟩
  have pT : Pos1 T := by rw [← hTe]; exact fold_pos (fun x hx => by cases hx) (pos_map (g := flip L) (fun _ => rfl) p)
  have sT : Srt T := by rw [← hTe]; exact mgs_srt _
  have sumT : ∀ b t, sumAt b t T = sumAt (L - b) t l := fun b t => by rw [← hTe, mgs_sum, sum_flip]
  have allT : ∀ x ∈ T, NameOk x.2.1 ∧ 0 ≤ x.1 ∧ x.1 ≤ L - l[0].1 := by
    rw [← hTe]
    refine fold_all (Q := fun x => NameOk x.2.1 ∧ 0 ≤ x.1 ∧ x.1 ≤ L - l[0].1) (fun a b e1 e2 z => by rw [← e1, ← e2]; exact z) (fun x hx => by cases hx) fun x hx => ?_
    obtain ⟨n, hn', rfl⟩ := List.mem_map.mp hx
    have a := lastL n hn'
    have b := firstL n hn'
    exact ⟨hn n hn', by show 0 ≤ L - n.1; omega, by show L - n.1 ≤ L - l[0].1; omega⟩
  have top : ∃ x ∈ T, x.1 = L - l[0].1 := by
    have h1 : 1 ≤ sumAt (L - l[0].1) l[0].2.1 T := by
      rw [sumT, show L - (L - l[0].1) = l[0].1 from by omega]
      exact sum_mem p (List.getElem_mem h0)
    obtain ⟨x, hx, e, _⟩ := mem_sum h1
    exact ⟨x, hx, e⟩
  rw [hTe]
  obtain ⟨x, hx, ex⟩ := top
  have hT : 0 < T.length := List.length_pos_of_mem hx
  have eL : lastB T hT = L - l[0].1 := by
    have a := srt_last sT hT x hx
    obtain ⟨y, hy, ey⟩ := last_mem hT
    have b := (allT y hy).2.2
    omega
  refine ⟨hT, eL, ?_, fun m hm => ⟨(allT m hm).2.1, (allT m hm).1, pT m hm⟩, fun m hm => ⟨?_, (allT m hm).1, pT m hm⟩, fun m hm => ⟨?_, hn m hm, p m hm⟩⟩
  · rw [eL]
    refine canon (mgs_srt _) (srt_shift s) (fold_pos (fun x hx => by cases hx) (pos_map (g := flip (L - l[0].1)) (fun _ => rfl) pT)) (pos_map (g := shift l[0].1) (fun _ => rfl) p) fun b t => ?_
    rw [mgs_sum, sum_flip, sumT, sum_shift]
    congr 1
    omega
  · rw [eL]
    have := (allT m hm).2.2
    show 0 ≤ L - l[0].1 - m.1
    omega
  · have := lastL m hm
    show 0 ≤ L - m.1
    omega
theorem mgs_pos {raw : List Nd} (h0 : 0 < raw.length) (p : Pos1 raw) : 0 < (mgs raw).length := by
  have h1 : 1 ≤ sumAt raw[0].1 raw[0].2.1 (mgs raw) := by
    rw [mgs_sum]
    exact sum_mem p (List.getElem_mem h0)
  obtain ⟨x, hx, _⟩ := mem_sum h1
  exact List.length_pos_of_mem hx
theorem sum_app {b : Int} {t : Str} : ∀ {l l' : List Nd}, sumAt b t (l ++ l') = sumAt b t l + sumAt b t l'
  | [], l' => by show sumAt b t l' = 0 + _; omega
  | m :: l, l' => by
    show _ + sumAt b t (l ++ l') = _ + sumAt b t l + _
    rw [sum_app]; omega
theorem mgs_app {L R A B : List Nd} (hA : ∀ b t, sumAt b t A + sumAt b t B = sumAt b t L + sumAt b t R) (pL : Pos1 (L ++ R)) (pA : Pos1 (A ++ B)) : mgs (A ++ B) = mgs (L ++ R) :=
  canon (mgs_srt _) (mgs_srt _) (fold_pos (fun x hx => by cases hx) pA) (fold_pos (fun x hx => by cases hx) pL) fun b t => by
    rw [mgs_sum, mgs_sum, sum_app, sum_app]; exact hA b t
/-- a sorted list is merged as it is -/
theorem mgs_id {l : List Nd} (s : Srt l) (p : Pos1 l) : mgs l = l :=
  canon (mgs_srt _) s (fold_pos (fun x hx => by cases hx) p) p fun b t => by rw [mgs_sum]
theorem mgs_pos1 {raw : List Nd} (p : Pos1 raw) : Pos1 (mgs raw) := fold_pos (fun x hx => by cases hx) p
theorem mgs_all {Q : Nd → Prop} (hQ : ∀ a b : Nd, a.1 = b.1 → a.2.1 = b.2.1 → Q a → Q b) {raw : List Nd} (h : ∀ x ∈ raw, Q x) : ∀ x ∈ mgs raw, Q x := fold_all hQ (fun x hx => by cases hx) h
theorem mgs_le (raw : List Nd) : (mgs raw).length ≤ raw.length := Dv.mgs_len raw
theorem mgs_ok {raw : List Nd} (h : ∀ x ∈ raw, NdOk x) : ∀ x ∈ mgs raw, NdOk x := fun x hx => by
  have h1 := mgs_all (Q := fun n => 0 ≤ n.1 ∧ NameOk n.2.1) (fun a b e1 e2 z => by rw [← e1, ← e2]; exact z) (fun x hx => ⟨(h x hx).b, (h x hx).t⟩) x hx
  exact ⟨h1.1, h1.2, mgs_pos1 (fun x hx => (h x hx).a) x hx⟩
def later (k : Int) (n : Nd) : Nd := (n.1 + k, n.2)
theorem srt_later {k : Int} {l : List Nd} (h : Srt l) : Srt (l.map (later k)) := List.pairwise_map.mpr (h.imp fun {a b} z => by
  rw [kl_iff] at *
  show a.1 + k < b.1 + k ∨ (a.1 + k = b.1 + k ∧ _)
  rcases z with z | ⟨z, z'⟩
  · exact .inl (by omega)
  · exact .inr ⟨by omega, z'⟩)
theorem pos_later {k : Int} {l : List Nd} (h : Pos1 l) : Pos1 (l.map (later k)) := pos_map (g := later k) (fun _ => rfl) h
theorem ok_later {k : Int} {l : List Nd} (s : Srt l) (h0 : 0 < l.length) (h : ∀ n ∈ l, NdOk n) (hk : 0 ≤ l[0].1 + k) : ∀ n ∈ l.map (later k), NdOk n := fun n hn => by
  obtain ⟨m, hm, rfl⟩ := List.mem_map.mp hn
  have := srt_first s h0 m hm
  exact ⟨by show 0 ≤ m.1 + k; omega, (h m hm).t, (h m hm).a⟩
end Dv

set_option Elab.async false
set_option linter.all false
set_option maxRecDepth 100000
set_option maxHeartbeats 1000000
/-! plain matters of the laws: deep equality, texts of numbers -/
namespace Dv
open PySem PySem.Spec L2
open PyProof.Rows hiding St
inductive EqD : Nat → D → Prop where
  | non {n : Nat} : EqD n .non
  | int {n : Nat} (i : Int) : EqD n (.int i)
  | str {n : Nat} {z : Str} (h : PyData.strOk z = true) : EqD n (.str z)
  | tup {n : Nat} {ds : List D} (h : ∀ d ∈ ds, EqD n d) : EqD (n + 1) (.tup ds)
  | lst {n : Nat} {ds : List D} (h : ∀ d ∈ ds, EqD n d) : EqD (n + 1) (.lst ds)
/-- d's plain form: told from that of every other -/
def Tells (n : Nat) (d : D) : Prop := ∃ p, toPy d = some p ∧ p.canLay0 = true ∧ p.depth ≤ n ∧ ∀ m e q, EqD m e → toPy e = some q → (PyData.eqv p q = true ↔ d = e)
theorem tells_all {n : Nat} : ∀ {ds : List D}, (∀ d ∈ ds, Tells n d) → ∃ ps, toPys ds = some ps ∧ PyData.canLayAll0 ps = true ∧ PyData.depthAll ps ≤ n ∧ ∀ m es qs, (∀ e ∈ es, EqD m e) → toPys es = some qs → (PyData.eqvAll ps qs = true ↔ ds = es)
  | [], _ => ⟨[], rfl, rfl, Nat.zero_le _, fun m es qs he hq => by
    cases es with
    | nil => cases hq; exact ⟨fun _ => rfl, fun _ => rfl⟩
    | cons e es =>
      unfold toPys at hq
      cases h1 : toPy e with
      | none => rw [h1] at hq; cases hq
      | some x =>
        rw [h1] at hq
        cases h2 : toPys es with
        | none => rw [h2] at hq; cases hq
        | some xs =>
          rw [h2] at hq
          cases hq
          exact ⟨fun z => (by cases z), fun z => (by cases z)⟩⟩
  | d :: ds, h => by
    obtain ⟨p, a1, a2, a3, a4⟩ := h d List.mem_cons_self
    obtain ⟨ps, b1, b2, b3, b4⟩ := tells_all (ds := ds) fun x hx => h x (List.mem_cons_of_mem _ hx)
    refine ⟨p :: ps, ?_, ?_, ?_, ?_⟩
    · unfold toPys; rw [a1, b1]; rfl
    · show (p.canLay0 && PyData.canLayAll0 ps) = true
      rw [a2, b2]; rfl
    · show max p.depth (PyData.depthAll ps) ≤ n
      omega
    · intro m es qs he hq
      cases es with
      | nil => cases hq; exact ⟨fun z => (by cases z), fun z => (by cases z)⟩
      | cons e es =>
        unfold toPys at hq
        cases h1 : toPy e with
        | none => rw [h1] at hq; cases hq
        | some x =>
          rw [h1] at hq
          cases h2 : toPys es with
          | none => rw [h2] at hq; cases hq
          | some xs =>
            rw [h2] at hq
            cases hq
            show (PyData.eqv p x && PyData.eqvAll ps xs) = true ↔ _
            rw [Bool.and_eq_true, a4 m e x (he e List.mem_cons_self) h1, b4 m es xs (fun y hy => he y (List.mem_cons_of_mem _ hy)) h2]
            exact ⟨fun z => (by rw [z.1, z.2]), fun z => (by injection z with z1 z2; exact ⟨z1, z2⟩)⟩
theorem EqD.tells {n : Nat} {d : D} (h : EqD n d) : Tells n d := by
  induction h with
  | non =>
    refine ⟨.none, rfl, rfl, Nat.zero_le _, fun m e q he hq => ?_⟩
    cases he with
    | non => cases hq; exact ⟨fun _ => rfl, fun _ => rfl⟩
    | int j => cases hq; exact ⟨fun z => (by cases z), fun z => (by cases z)⟩
    | str _ => cases hq; exact ⟨fun z => (by cases z), fun z => (by cases z)⟩
    | tup _ =>
      unfold toPy at hq
      obtain ⟨y, hy, rfl⟩ := Option.map_eq_some_iff.mp hq
      exact ⟨fun z => (by cases z), fun z => (by cases z)⟩
    | lst _ =>
      unfold toPy at hq
      obtain ⟨y, hy, rfl⟩ := Option.map_eq_some_iff.mp hq
      exact ⟨fun z => (by cases z), fun z => (by cases z)⟩
  | int i =>
    refine ⟨.int i, rfl, rfl, Nat.zero_le _, fun m e q he hq => ?_⟩
    cases he with
    | non => cases hq; exact ⟨fun z => (by cases z), fun z => (by cases z)⟩
    | int j =>
      cases hq
      show (i == j) = true ↔ _
      rw [beq_iff_eq]
      exact ⟨fun z => (by rw [z]), fun z => (by injection z)⟩
    | str _ => cases hq; exact ⟨fun z => (by cases z), fun z => (by cases z)⟩
    | tup _ =>
      unfold toPy at hq
      obtain ⟨y, hy, rfl⟩ := Option.map_eq_some_iff.mp hq
      exact ⟨fun z => (by cases z), fun z => (by cases z)⟩
    | lst _ =>
      unfold toPy at hq
      obtain ⟨y, hy, rfl⟩ := Option.map_eq_some_iff.mp hq
      exact ⟨fun z => (by cases z), fun z => (by cases z)⟩
  | @str _ x hx =>
    refine ⟨.str x, rfl, hx, Nat.zero_le _, fun m e q he hq => ?_⟩
    cases he with
    | non => cases hq; exact ⟨fun z => (by cases z), fun z => (by cases z)⟩
    | int j => cases hq; exact ⟨fun z => (by cases z), fun z => (by cases z)⟩
    | @str _ y _ =>
      cases hq
      show (x == y) = true ↔ _
      rw [beq_iff_eq]
      exact ⟨fun z => (by rw [z]), fun z => (by injection z)⟩
    | tup _ =>
      unfold toPy at hq
      obtain ⟨y, hy, rfl⟩ := Option.map_eq_some_iff.mp hq
      exact ⟨fun z => (by cases z), fun z => (by cases z)⟩
    | lst _ =>
      unfold toPy at hq
      obtain ⟨y, hy, rfl⟩ := Option.map_eq_some_iff.mp hq
      exact ⟨fun z => (by cases z), fun z => (by cases z)⟩
  | @tup n ds h ih =>
    obtain ⟨ps, b1, b2, b3, b4⟩ := tells_all ih
    refine ⟨.tuple ps, by unfold toPy; rw [b1]; rfl, b2, by show PyData.depthAll ps + 1 ≤ n + 1; omega, fun m e q he hq => ?_⟩
    cases he with
    | non => cases hq; exact ⟨fun z => (by cases z), fun z => (by cases z)⟩
    | int j => cases hq; exact ⟨fun z => (by cases z), fun z => (by cases z)⟩
    | str _ => cases hq; exact ⟨fun z => (by cases z), fun z => (by cases z)⟩
    | @tup m es he =>
      unfold toPy at hq
      obtain ⟨y, hy, rfl⟩ := Option.map_eq_some_iff.mp hq
      show PyData.eqvAll ps y = true ↔ _
      rw [b4 m es y he hy]
      exact ⟨fun z => (by rw [z]), fun z => (by injection z)⟩
    | lst _ =>
      unfold toPy at hq
      obtain ⟨y, hy, rfl⟩ := Option.map_eq_some_iff.mp hq
      exact ⟨fun z => (by cases z), fun z => (by cases z)⟩
  | @lst n ds h ih =>
    obtain ⟨ps, b1, b2, b3, b4⟩ := tells_all ih
    refine ⟨.list ps, by unfold toPy; rw [b1]; rfl, b2, by show PyData.depthAll ps + 1 ≤ n + 1; omega, fun m e q he hq => ?_⟩
    cases he with
    | non => cases hq; exact ⟨fun z => (by cases z), fun z => (by cases z)⟩
    | int j => cases hq; exact ⟨fun z => (by cases z), fun z => (by cases z)⟩
    | str _ => cases hq; exact ⟨fun z => (by cases z), fun z => (by cases z)⟩
    | tup _ =>
      unfold toPy at hq
      obtain ⟨y, hy, rfl⟩ := Option.map_eq_some_iff.mp hq
      exact ⟨fun z => (by cases z), fun z => (by cases z)⟩
    | @lst m es he =>
      unfold toPy at hq
      obtain ⟨y, hy, rfl⟩ := Option.map_eq_some_iff.mp hq
      show PyData.eqvAll ps y = true ↔ _
      rw [b4 m es y he hy]
      exact ⟨fun z => (by rw [z]), fun z => (by injection z)⟩
theorem eqDeep_iff {m n : Nat} {x y : D} (hx : EqD m x) (hy : EqD n y) (hm : m ≤ 64) (hn : n ≤ 64) : ∃ b, eqDeep x y = .ok b ∧ (b = true ↔ x = y) := by
  obtain ⟨p, p1, p2, p3, p4⟩ := hx.tells
  obtain ⟨q, q1, q2, q3, _⟩ := hy.tells
  refine ⟨PyData.eqv p q, ?_, p4 n y q hy q1⟩
  unfold eqDeep
  rw [p1, q1]
  have s1 : SeqAt.shaped p = true := by unfold SeqAt.shaped; rw [p2, Bool.true_and]; exact decide_eq_true (by omega)
  have s2 : SeqAt.shaped q = true := by unfold SeqAt.shaped; rw [q2, Bool.true_and]; exact decide_eq_true (by omega)
  exact if_pos ⟨s1, s2⟩
theorem eqB_iff {m n : Nat} {x y : D} (hx : EqD m x) (hy : EqD n y) (hm : m ≤ 64) (hn : n ≤ 64) : ∃ b, eqB x y = .ok b ∧ (b = true ↔ x = y) := by
  unfold eqB
  split
  · exact ⟨_, rfl, by rw [decide_eq_true_eq]; exact ⟨fun z => (by rw [z]), fun z => (by injection z)⟩⟩
  · exact ⟨_, rfl, by rw [decide_eq_true_eq]; exact ⟨fun z => (by rw [z]), fun z => (by injection z)⟩⟩
  · exact ⟨_, rfl, by rw [decide_eq_true_eq]; exact ⟨fun z => (by rw [z]), fun z => (by injection z)⟩⟩
  · exact eqDeep_iff hx hy hm hn
theorem eqB_self {n : Nat} {x : D} (h : EqD n x) (hn : n ≤ 64) : eqB x x = .ok true := by
  obtain ⟨b, e, i⟩ := eqB_iff h h hn hn
  rw [e, i.mpr rfl]
theorem neB_self {n : Nat} {x : D} (h : EqD n x) (hn : n ≤ 64) : neB x x = .ok false := by
  unfold neB
  rw [eqB_self h hn]; rfl
theorem neB_iff {m n : Nat} {x y : D} (hx : EqD m x) (hy : EqD n y) (hm : m ≤ 64) (hn : n ≤ 64) : ∃ b, neB x y = .ok b ∧ (b = false ↔ x = y) := by
  obtain ⟨b, e, i⟩ := eqB_iff hx hy hm hn
  refine ⟨!b, by unfold neB; rw [e]; rfl, ?_⟩
  rw [← i]
  cases b <;> decide
theorem EqD.tn {n : Nd} (h : NameOk n.2.1) {k : Nat} : EqD (k + 1) (tn n) := .tup fun d hd => by
  rcases List.mem_cons.mp hd with e | hd
  · rw [e]; exact .int _
  · rcases List.mem_cons.mp hd with e | hd
    · rw [e]; exact .str (strOk_name h)
    · rw [List.mem_singleton.mp hd]; exact .int _
theorem EqD.lst_tn {l : List Nd} (h : ∀ n ∈ l, NameOk n.2.1) {k : Nat} : EqD (k + 2) (.lst (l.map Dv.tn)) := .lst fun d hd => by
  obtain ⟨n, hn, rfl⟩ := List.mem_map.mp hd
  exact .tn (h n hn)
theorem EqD.tup_tn {l : List Nd} (h : ∀ n ∈ l, NameOk n.2.1) {k : Nat} : EqD (k + 2) (.tup (l.map Dv.tn)) := .tup fun d hd => by
  obtain ⟨n, hn, rfl⟩ := List.mem_map.mp hd
  exact .tn (h n hn)
theorem eMk_at (C : Addr) (fn : List Str) (F : List D → Res (List D)) (fs : Rho → Res (List D)) (ρ : Rho) : eMk C fn F fs ρ = (fs ρ).bind fun ds => (F ds).bind fun xs => .ok (.ins C fn xs) := rfl
theorem frz_at (i : Nat) (g : Rho → Out) (ρ : Rho) : frz i g ρ = match ρ.sl[i]? with | some (.ow ds) => g (ρ.set i (.sh (.lst ds))) | _ => g ρ := rfl
theorem eFs_at (fs : List (Rho → Res D)) (ρ : Rho) : eFs fs ρ = (catP fs Str.empty ρ).bind fun y => .ok (.str y) := rfl
theorem isLst_str (z : Str) : isLst (.str z) = false := rfl
theorem isLst_non : isLst .non = false := rfl
theorem isLst_dD (c : Addr) (z : Str) (f s : Int) (l : List Nd) : isLst (dD c z f s l) = false := rfl
theorem dD_fold (c : Addr) (z : Str) (f s : Int) (l : List Nd) : D.ins c ["name", "first", "second", "needs"] [.str z, .int f, .int s, .tup (l.map tn)] = dD c z f s l := rfl
/-! texts of numbers -/
def numS (i : Int) : Str := (toString i : Str)
theorem numS_len {i : Int} (h : i.natAbs.log2 < 60) : (numS i).cps.size ≤ 61 := by
  have e := int_text_length_le (k := 60) (by decide) h
  show (Str.ofString (toString i)).length ≤ 61
  rw [PySem.ofString_length]
  exact e
theorem lg_lt {i : Int} {k : Nat} (hk : 0 < k) (h : i.natAbs < 2 ^ k) : i.natAbs.log2 < k := by
  by_cases h0 : i.natAbs = 0
  · rw [h0]; exact hk
  · exact (Nat.log2_lt h0).mpr h
/-- a number of no more than fifteen digits -/
def SmI (i : Int) : Prop := -1000000000000000 ≤ i ∧ i ≤ 1000000000000000
theorem SmI.log {i : Int} (h : SmI i) : i.natAbs.log2 < 60 := lg_lt (by decide) (by
  have := h.1
  have := h.2
  have e : (2 : Nat) ^ 60 = 1152921504606846976 := by decide
  rw [e]; omega)
theorem SmI.len {i : Int} (h : SmI i) : (numS i).cps.size ≤ 61 := numS_len h.log
theorem strK_ok {i : Int} (h : SmI i) : strK [.int i] = .ok (.str (numS i)) := if_pos (Nat.lt_trans h.log (by decide))
theorem fmtK_int {i : Int} (h : SmI i) : fmtK (.int i) = .ok (.str (numS i)) := if_pos (Nat.lt_trans h.log (by decide))
theorem fmtK_str {z : Str} (h : z.cps.size ≤ 1000) : fmtK (.str z) = .ok (.str z) := if_pos (Nat.le_trans (show z.length ≤ 1000 from h) (by decide))
theorem size_app (x y : Str) : (x ++ y).cps.size = x.cps.size + y.cps.size := by
  rw [size_tl, size_tl x, size_tl y]
  show (TL.tl (x ++ y)).length = _
  rw [TL.tl_append, List.length_append]
theorem empty_app (x : Str) : Str.empty ++ x = x := str_ext (by
  show TL.tl (Str.empty ++ x) = _
  rw [TL.tl_append]
  rfl)
theorem catP_nil {acc : Str} {ρ : Rho} : catP [] acc ρ = .ok acc := rfl
theorem catP_cons {f : Rho → Res D} {fs : List (Rho → Res D)} {acc y : Str} {ρ : Rho} (h : f ρ = .ok (.str y)) (hl : acc.cps.size + y.cps.size ≤ 5000) : catP (f :: fs) acc ρ = catP fs (acc ++ y) ρ := by
  unfold catP
  rw [h]
  show (if (acc ++ y).length ≤ line then catP fs (acc ++ y) ρ else .stuck) = _
  rw [if_pos]
  · cases fs <;> rfl
  · have : (acc ++ y).length = acc.cps.size + y.cps.size := size_app acc y
    rw [this]
    exact Nat.le_trans hl (by decide)
theorem sum_le {ys : List Str} {B : Nat} (h : ∀ y ∈ ys, y.cps.size ≤ B) : (ys.map (·.length)).sum ≤ ys.length * B := by
  induction ys with
  | nil => exact Nat.zero_le _
  | cons y ys ih =>
    rw [List.map_cons, List.sum_cons, List.length_cons, Nat.succ_mul]
    have h1 : y.length ≤ B := h y List.mem_cons_self
    have h2 := ih fun x hx => h x (List.mem_cons_of_mem _ hx)
    omega
theorem joinK_ok {z : Str} {ys : List Str} (h : ∀ y ∈ ys, y.cps.size ≤ 5000) (hn : ys.length ≤ 1000) (hz : z.cps.size ≤ 10) : joinK z (.lst (ys.map .str)) = .ok (.str (Txt.join z ys)) := by
  show (match strsOf (ys.map .str) with | some ys => if (ys.map (fun s : Str => s.length)).sum + ys.length * z.length ≤ 16777216 then Res.ok (D.str (Txt.join z ys)) else .stuck | none => .stuck) = _
  rw [strsOf_map]
  show (if (ys.map (·.length)).sum + ys.length * z.length ≤ 16777216 then _ else _) = _
  have h1 := sum_le h
  have h2 : ys.length * 5000 ≤ 1000 * 5000 := Nat.mul_le_mul_right _ hn
  have h3 : ys.length * z.length ≤ 1000 * 10 := Nat.mul_le_mul hn hz
  rw [if_pos (by omega)]
/-- a need's text -/
def spell (n : Nd) : Str := if n.2.2 = 1 then n.2.1 ++ "@" ++ numS n.1 else n.2.1 ++ "@" ++ numS n.1 ++ "x" ++ numS n.2.2
theorem spell_len {n : Nd} (h : NameOk n.2.1) (h1 : SmI n.1) (h2 : SmI n.2.2) : (spell n).cps.size ≤ 200 := by
  have a := h.hi
  have b := h1.len
  have c := h2.len
  have d : ("@" : Str).cps.size = 1 := rfl
  have e : ("x" : Str).cps.size = 1 := rfl
  unfold spell
  split
  · rw [size_app, size_app, d]; omega
  · rw [size_app, size_app, size_app, size_app, d, e]; omega
def lineT (z : Str) (f s : Int) (l : List Nd) : Str := Txt.join " " (z :: numS f :: numS s :: l.map spell)
theorem sum_bound {b : Int} {t : Str} {B : Int} (hB : 0 ≤ B) : ∀ {l : List Nd}, (∀ n ∈ l, n.2.2 ≤ B) → sumAt b t l ≤ l.length * B
  | [], _ => by show (0 : Int) ≤ (0 : Nat) * B; omega
  | m :: l, h => by
    have h1 := h m List.mem_cons_self
    have h2 := sum_bound (b := b) (t := t) hB (l := l) fun x hx => h x (List.mem_cons_of_mem _ hx)
    show (if m.1 = b ∧ m.2.1 = t then m.2.2 else 0) + sumAt b t l ≤ ((l.length + 1 : Nat) : Int) * B
    have e : ((l.length + 1 : Nat) : Int) * B = l.length * B + B := by rw [Int.natCast_add, Int.add_mul]; omega
    rw [e]
    split <;> omega
theorem mem_le_sum {m : Nd} : ∀ {l : List Nd}, Pos1 l → m ∈ l → m.2.2 ≤ sumAt m.1 m.2.1 l
  | n :: l, h, hm => by
    have hp : Pos1 l := fun x hx => h x (List.mem_cons_of_mem _ hx)
    have h2 := sum_ge (b := m.1) (t := m.2.1) hp
    have h1 := h n List.mem_cons_self
    show m.2.2 ≤ (if n.1 = m.1 ∧ n.2.1 = m.2.1 then n.2.2 else 0) + sumAt m.1 m.2.1 l
    rcases List.mem_cons.mp hm with e | hm
    · rw [← e, if_pos ⟨rfl, rfl⟩]; omega
    · have := mem_le_sum hp hm
      split <;> omega
/-- what merging makes of the bounds -/
theorem mgs_amount {raw : List Nd} {B : Int} (hB : 0 ≤ B) (p : Pos1 raw) (h : ∀ n ∈ raw, n.2.2 ≤ B) : ∀ n ∈ mgs raw, n.2.2 ≤ raw.length * B := fun n hn => by
  have h1 := mem_le_sum (mgs_pos1 p) hn
  rw [mgs_sum] at h1
  exact Int.le_trans h1 (sum_bound hB h)
theorem mapL_str {h : D → Res D} {g : Nd → Str} : ∀ {l : List Nd}, (∀ n ∈ l, h (tn n) = .ok (.str (g n))) → mapL h (l.map tn) = .ok (l.map fun n => .str (g n))
  | [], _ => rfl
  | n :: l, e => by
    show (h (tn n)).bind (fun y => (mapL h (l.map tn)).bind fun ys => .ok (y :: ys)) = _
    rw [e n List.mem_cons_self, Res.bind_ok, mapL_str fun m hm => e m (List.mem_cons_of_mem _ hm)]
    rfl
theorem eLc_of {vs : List Nat} {fi : Rho → Res (List D)} {t : D → Rho → Option Rho} {f : Rho → Res D} {ρ : Rho} {ds ys : List D} (h1 : isNo ρ vs = true) (h2 : fi ρ = .ok ds) (h3 : ds.length ≤ 16777216) (h4 : mapL (lcOne t f (wipeR ρ vs)) ds = .ok ys) : eLc vs fi t f ρ = .ok ys := by
  unfold eLc
  rw [if_pos h1, h2, Res.bind_ok, ckLen_ok h3, h4]
theorem lcOne_of {t : D → Rho → Option Rho} {f : Rho → Res D} {ρ ρ' : Rho} {d y : D} (h1 : t d ρ = some ρ') (h2 : f ρ' = .ok y) : lcOne t f ρ d = .ok y := by
  unfold lcOne
  rw [h1]
  dsimp only
  rw [h2]
theorem ndOk {b : Int} {t : Str} {a : Int} (hb : 0 ≤ b) (ht : NameOk t) (ha : 1 ≤ a) : NdOk (b, t, a) := ⟨hb, ht, ha⟩
theorem smI {i : Int} (h1 : -1000000000000000 ≤ i) (h2 : i ≤ 1000000000000000) : SmI i := ⟨h1, h2⟩
theorem allP2 {α : Type} {P : α → Prop} {a b : α} (ha : P a) (hb : P b) : ∀ n ∈ [a, b], P n := fun n hn => by
  rcases List.mem_cons.mp hn with e | hn
  · rw [e]; exact ha
  · rw [List.mem_singleton.mp hn]; exact hb
theorem allP1 {α : Type} {P : α → Prop} {a : α} (ha : P a) : ∀ n ∈ [a], P n := fun n hn => by
  rw [List.mem_singleton.mp hn]; exact ha
theorem nc0 : ((0 : Nat) : Int) = 0 := rfl
theorem nc1 : ((1 : Nat) : Int) = 1 := rfl
theorem nc2 : ((2 : Nat) : Int) = 2 := rfl
theorem nc3 : ((3 : Nat) : Int) = 3 := rfl
theorem nc4 : ((4 : Nat) : Int) = 4 := rfl
theorem nc5 : ((5 : Nat) : Int) = 5 := rfl
theorem nc6 : ((6 : Nat) : Int) = 6 := rfl
theorem nc7 : ((7 : Nat) : Int) = 7 := rfl
theorem nc8 : ((8 : Nat) : Int) = 8 := rfl
theorem nc9 : ((9 : Nat) : Int) = 9 := rfl
theorem nc10 : ((10 : Nat) : Int) = 10 := rfl
theorem nc11 : ((11 : Nat) : Int) = 11 := rfl
theorem nc12 : ((12 : Nat) : Int) = 12 := rfl
theorem ok1_ok (d : D) : ok1 (.ok d) = .ok d := rfl
end Dv

set_option Elab.async false
set_option linter.all false
set_option maxRecDepth 100000
set_option maxHeartbeats 1000000
/-! plain matters of the laws: kitchens -/
namespace Dv
open PySem PySem.Spec L2
open PyProof.Rows hiding St
theorem seq_and {f g : Rho → Out} {ρ ρ' : Rho} {r : Out} (h1 : f ρ = .nx ρ') (h2 : g ρ' = r) : sSeq f g ρ = r := by
  rw [sSeq_at, h1, andS_nx]; exact h2
theorem cutL_hi {α : Type} (xs : List α) (p : Nat) : cutL xs none (some (p : Int)) = xs.take p := by
  unfold cutL
  rw [HT.sIx_nat, HT.sIx_none]
  simp
theorem cutL_lo {α : Type} (xs : List α) (p : Nat) : cutL xs (some (p : Int)) none = xs.drop p := by
  unfold cutL
  rw [HT.sIx_nat, HT.sIx_none, List.take_of_length_le (by rw [List.length_drop]; exact Nat.le_refl _)]
  rcases Nat.le_total p xs.length with h | h
  · rw [Nat.min_eq_left h]
  · rw [Nat.min_eq_right h, List.drop_length, List.drop_of_length_le h]
theorem slLst_hi {ds : List D} {p : Nat} : slLst none (some (p : Int)) (.lst ds) = .ok (ds.take p) := by
  show Res.ok (cutL ds none (some (p : Int))) = _
  rw [cutL_hi]
theorem slLst_lo {ds : List D} {p : Nat} : slLst (some (p : Int)) none (.lst ds) = .ok (ds.drop p) := by
  show Res.ok (cutL ds (some (p : Int)) none) = _
  rw [cutL_lo]
theorem slTup_hi {ds : List D} {p : Nat} : slTup none (some (p : Int)) (.tup ds) = .ok (.tup (ds.take p)) := by
  show Res.ok (D.tup (cutL ds none (some (p : Int)))) = _
  rw [cutL_hi]
theorem slTup_lo {ds : List D} {p : Nat} : slTup (some (p : Int)) none (.tup ds) = .ok (.tup (ds.drop p)) := by
  show Res.ok (D.tup (cutL ds (some (p : Int)) none)) = _
  rw [cutL_lo]
/-- what is needed of a dish's needs -/
structure DOk (l : List Nd) : Prop where
  s : Srt l
  h0 : 0 < l.length
  ok : ∀ n ∈ l, NdOk n
theorem DOk.p {l : List Nd} (h : DOk l) : Pos1 l := fun n hn => (h.ok n hn).a
theorem DOk.t {l : List Nd} (h : DOk l) : ∀ n ∈ l, NameOk n.2.1 := fun n hn => (h.ok n hn).t
theorem DOk.mk_raw {raw : List Nd} (h0 : 0 < raw.length) (h : ∀ n ∈ raw, NdOk n) : DOk (mgs raw) := ⟨mgs_srt _, mgs_pos h0 fun n hn => (h n hn).a, mgs_ok h⟩
theorem DOk.later {l : List Nd} (h : DOk l) {k : Int} (hk : 0 ≤ (l[0]'h.h0).1 + k) : DOk (l.map (Dv.later k)) := ⟨srt_later h.s, by rw [List.length_map]; exact h.h0, ok_later h.s h.h0 h.ok hk⟩
/-- a dish of a menu: its name, its two worths, its needs -/
structure Mn where
  z : Str
  f : Int
  s : Int
  l : List Nd
def mnD (m : Mn) : D := .lst [.str m.z, .int m.f, .int m.s, .lst (m.l.map tn)]
def mnI (c : Addr) (m : Mn) : D := dD c m.z m.f m.s m.l
/-- a law's kitchen: names, numbers, menu -/
def kD (names : List Str) (nums : List Int) (menu : List Mn) : List D := [.lst (names.map .str), .lst (nums.map .int), .lst (menu.map mnD)]
structure MnOk (names : List Str) (m : Mn) : Prop where
  z : NameOk m.z
  f : SmI m.f
  s : SmI m.s
  d : DOk m.l
  t : ∀ n ∈ m.l, n.2.1 ∈ names
  b : ∀ n ∈ m.l, n.1 < 101
  a : ∀ n ∈ m.l, n.2.2 ≤ 100000
  n : m.l.length ≤ 20
/-- a kitchen of a law -/
structure KOk (names : List Str) (nums : List Int) (menu : List Mn) : Prop where
  nd : names.Nodup
  no : ∀ z ∈ names, NameOk z
  nl : names.length ≤ 20
  kl : nums.length = names.length
  k0 : ∀ k ∈ nums, 0 ≤ k
  k1 : ∀ k ∈ nums, k ≤ 100000
  ml : menu.length ≤ 40
  m : ∀ m ∈ menu, MnOk names m
/-- the horizon -/
def hzN (h : Int) (l : List Nd) : Int := l.foldl (fun h n => if h > n.1 + 1 then h else n.1 + 1) h
def hz (menu : List Mn) : Int := menu.foldl (fun h m => hzN h m.l) 1
theorem hzN_le {l : List Nd} {h B : Int} (h1 : h ≤ B) (hl : ∀ n ∈ l, n.1 + 1 ≤ B) : hzN h l ≤ B := by
  induction l generalizing h with
  | nil => exact h1
  | cons n l ih =>
    refine ih (h := if h > n.1 + 1 then h else n.1 + 1) ?_ fun m hm => hl m (List.mem_cons_of_mem _ hm)
    have := hl n List.mem_cons_self
    split <;> omega
theorem hzN_ge {l : List Nd} {h : Int} : h ≤ hzN h l := by
  induction l generalizing h with
  | nil => exact Int.le_refl _
  | cons n l ih =>
    refine Int.le_trans ?_ (ih (h := if h > n.1 + 1 then h else n.1 + 1))
    split <;> omega
theorem hzN_mem {l : List Nd} {h : Int} : ∀ n ∈ l, n.1 + 1 ≤ hzN h l := by
  induction l generalizing h with
  | nil => exact fun n hn => by cases hn
  | cons m l ih =>
    intro n hn
    rcases List.mem_cons.mp hn with e | hn
    · subst e
      refine Int.le_trans ?_ (hzN_ge (l := l) (h := if h > n.1 + 1 then h else n.1 + 1))
      split <;> omega
    · exact ih n hn
theorem hz_gen {menu : List Mn} : ∀ {h : Int}, h ≤ menu.foldl (fun h m => hzN h m.l) h ∧ ∀ m ∈ menu, ∀ n ∈ m.l, n.1 + 1 ≤ menu.foldl (fun h m => hzN h m.l) h := by
  induction menu with
  | nil => exact fun {h} => ⟨Int.le_refl _, fun m hm => by cases hm⟩
  | cons m menu ih =>
    intro h
    obtain ⟨h1, h2⟩ := ih (h := hzN h m.l)
    refine ⟨Int.le_trans hzN_ge h1, fun m' hm' n hn => ?_⟩
    rcases List.mem_cons.mp hm' with e | hm'
    · subst e; exact Int.le_trans (hzN_mem n hn) h1
    · exact h2 m' hm' n hn
theorem hz_pos (menu : List Mn) : 1 ≤ hz menu := (hz_gen (menu := menu) (h := 1)).1
theorem hz_mem {menu : List Mn} {m : Mn} (hm : m ∈ menu) : ∀ n ∈ m.l, n.1 + 1 ≤ hz menu := (hz_gen (menu := menu) (h := 1)).2 m hm
theorem hz_le {menu : List Mn} {B : Int} (h1 : 1 ≤ B) (h : ∀ m ∈ menu, ∀ n ∈ m.l, n.1 + 1 ≤ B) : hz menu ≤ B := by
  have g : ∀ (menu : List Mn) (h : Int), h ≤ B → (∀ m ∈ menu, ∀ n ∈ m.l, n.1 + 1 ≤ B) → menu.foldl (fun h m => hzN h m.l) h ≤ B := by
    intro menu
    induction menu with
    | nil => exact fun h hB _ => hB
    | cons m menu ih => exact fun h hB hm => ih _ (hzN_le hB (hm m List.mem_cons_self)) fun m' hm' => hm m' (List.mem_cons_of_mem _ hm')
  exact g menu 1 h1 h
/-- a kitchen -/
def kiD (c cd : Addr) (names : List Str) (nums : List Int) (menu : List Mn) (h : Int) : D := .ins c ["names", "present", "dishes", "longest"] [.tup (names.map .str), .tup (nums.map .int), .tup (menu.map (mnI cd)), .int h]
theorem ki_names (c cd : Addr) (names : List Str) (nums : List Int) (menu : List Mn) (h : Int) : fldD c "names" (kiD c cd names nums menu h) = .ok (.tup (names.map .str)) := if_pos rfl
theorem ki_present (c cd : Addr) (names : List Str) (nums : List Int) (menu : List Mn) (h : Int) : fldD c "present" (kiD c cd names nums menu h) = .ok (.tup (nums.map .int)) := if_pos rfl
theorem ki_dishes (c cd : Addr) (names : List Str) (nums : List Int) (menu : List Mn) (h : Int) : fldD c "dishes" (kiD c cd names nums menu h) = .ok (.tup (menu.map (mnI cd))) := if_pos rfl
theorem ki_longest (c cd : Addr) (names : List Str) (nums : List Int) (menu : List Mn) (h : Int) : fldD c "longest" (kiD c cd names nums menu h) = .ok (.int h) := if_pos rfl
theorem onC_ki {α : Type} (c cd : Addr) (names : List Str) (nums : List Int) (menu : List Mn) (h : Int) (r : Res α) : onC c (kiD c cd names nums menu h) r = r := if_pos rfl
theorem onCI_ki (c cd : Addr) (names : List Str) (nums : List Int) (menu : List Mn) (h : Int) (F : List D → Res D) (i : Int) : onCI c F (kiD c cd names nums menu h) (.int i) = F [kiD c cd names nums menu h, .int i] := if_pos rfl
theorem isLst_ki (c cd : Addr) (names : List Str) (nums : List Int) (menu : List Mn) (h : Int) : isLst (kiD c cd names nums menu h) = false := rfl
theorem fl_mnI (cd : Addr) (menu : List Mn) : flats (menu.map (mnI cd)) = true := by
  induction menu with
  | nil => rfl
  | cons n l ih =>
    show (flat (dD cd n.z n.f n.s n.l) && flats (l.map (mnI cd))) = true
    rw [ih, flat_dD]; rfl
theorem fl_int (l : List Int) : flats (l.map .int) = true := by
  induction l with
  | nil => rfl
  | cons n l ih => show (flat (.int n) && flats (l.map .int)) = true; rw [ih]; rfl
/-- the first place -/
def plc (t : Str) : List Str → Nat
  | [] => 0
  | z :: zs => if z = t then 0 else plc t zs + 1
theorem plc_lt {t : Str} : ∀ {names : List Str}, t ∈ names → plc t names < names.length
  | z :: zs, h => by
    unfold plc
    by_cases e : z = t
    · rw [if_pos e]; exact Nat.succ_pos _
    · rw [if_neg e]
      rcases List.mem_cons.mp h with h | h
      · exact absurd h.symm e
      · have := plc_lt h
        rw [List.length_cons]; omega
theorem plc_get {t : Str} : ∀ {names : List Str}, t ∈ names → names[plc t names]? = some t
  | z :: zs, h => by
    unfold plc
    by_cases e : z = t
    · rw [if_pos e, e]; rfl
    · rw [if_neg e]
      rcases List.mem_cons.mp h with h | h
      · exact absurd h.symm e
      · rw [List.getElem?_cons_succ]; exact plc_get h
theorem mapL_gen {α β : Type} {h : D → Res D} {a : α → D} {b : β → D} {g : α → β} : ∀ {l : List α}, (∀ n ∈ l, h (a n) = .ok (b (g n))) → mapL h (l.map a) = .ok ((l.map g).map b)
  | [], _ => rfl
  | n :: l, e => by
    show (h (a n)).bind (fun y => (mapL h (l.map a)).bind fun ys => .ok (y :: ys)) = _
    rw [e n List.mem_cons_self, Res.bind_ok, mapL_gen fun m hm => e m (List.mem_cons_of_mem _ hm)]
    rfl
theorem wipeR_nil (ρ : Rho) : wipeR ρ [] = ρ := rfl
theorem wipeR_cons (ρ : Rho) (v : Nat) (vs : List Nat) : wipeR ρ (v :: vs) = (wipeR ρ vs).set v .no := rfl
end Dv

set_option Elab.async false
set_option linter.all false
set_option maxRecDepth 100000
set_option maxHeartbeats 4000000
namespace Kx
open PySem PySem.Spec L2 Dv
open PyProof.Rows hiding St
open NdefX (NF NScope nscope_by)
def top (i : Nat) : Stmt := PySem.Challenge.pw_mixpace_k13_empty_standing_and_beat.main.body.getD i (.Pass ⟨0, 0, 0, 0⟩)
structure Txt (K : PySem.W.Frag) (mg : Str → Option Value) (cInvalidDish cInvalidKitchen cUnknownTool cDish cKitchen iUnknownTool p_Kitchen_horizon p_Kitchen_tools a_w_pick a_w_draw a_w_namelist a_w_rawlist a_w_worth a_w_merge a_w_broad a_Kitchen_place_of a_is_name a_Kitchen__init a_merged a_Dish__init a_w_built a_w_horizon a_w_empty a_w_some_standing a_w_is_integer a_w_is_standing a_w_same a_after_beat a_Kitchen_horizon a_Kitchen_tools a_empty_standing : Addr) : Prop where
  cl_Dish : Cls K cDish
  cl_Kitchen : Cls K cKitchen
  g_Dish : mg "Dish" = some (.ref cDish)
  g_InvalidDish : mg "InvalidDish" = some (.ref cInvalidDish)
  g_InvalidKitchen : mg "InvalidKitchen" = some (.ref cInvalidKitchen)
  g_Kitchen : mg "Kitchen" = some (.ref cKitchen)
  g_LETTERS : ∃ t, mg "LETTERS" = some (.str "abcdefghijklmnopqrstuvwxyz" t)
  g_LONGEST_NAME : ∃ t, mg "LONGEST_NAME" = some (.int 12 t)
  g_UnknownTool : mg "UnknownTool" = some (.ref cUnknownTool)
  g__law_broad : mg "_law_broad" = some (.ref a_w_broad)
  g__law_built : mg "_law_built" = some (.ref a_w_built)
  g__law_draw : mg "_law_draw" = some (.ref a_w_draw)
  g__law_empty : mg "_law_empty" = some (.ref a_w_empty)
  g__law_horizon : mg "_law_horizon" = some (.ref a_w_horizon)
  g__law_is_integer : mg "_law_is_integer" = some (.ref a_w_is_integer)
  g__law_is_standing : mg "_law_is_standing" = some (.ref a_w_is_standing)
  g__law_merge : mg "_law_merge" = some (.ref a_w_merge)
  g__law_namelist : mg "_law_namelist" = some (.ref a_w_namelist)
  g__law_pick : mg "_law_pick" = some (.ref a_w_pick)
  g__law_rawlist : mg "_law_rawlist" = some (.ref a_w_rawlist)
  g__law_same : mg "_law_same" = some (.ref a_w_same)
  g__law_some_standing : mg "_law_some_standing" = some (.ref a_w_some_standing)
  g__law_worth : mg "_law_worth" = some (.ref a_w_worth)
  g_after_beat : mg "after_beat" = some (.ref a_after_beat)
  g_empty_standing : mg "empty_standing" = some (.ref a_empty_standing)
  g_is_name : mg "is_name" = some (.ref a_is_name)
  g_merged : mg "merged" = some (.ref a_merged)
  iCUnknownTool : PySem.W.findIn K (.ref cUnknownTool) "__init__" = some (some (.ref iUnknownTool))
  ka_after_beat : PySem.W.keepIn K (.ref a_after_beat) = true
  ka_empty_standing : PySem.W.keepIn K (.ref a_empty_standing) = true
  ka_is_name : PySem.W.keepIn K (.ref a_is_name) = true
  ka_merged : PySem.W.keepIn K (.ref a_merged) = true
  ka_w_broad : PySem.W.keepIn K (.ref a_w_broad) = true
  ka_w_built : PySem.W.keepIn K (.ref a_w_built) = true
  ka_w_draw : PySem.W.keepIn K (.ref a_w_draw) = true
  ka_w_empty : PySem.W.keepIn K (.ref a_w_empty) = true
  ka_w_horizon : PySem.W.keepIn K (.ref a_w_horizon) = true
  ka_w_is_integer : PySem.W.keepIn K (.ref a_w_is_integer) = true
  ka_w_is_standing : PySem.W.keepIn K (.ref a_w_is_standing) = true
  ka_w_merge : PySem.W.keepIn K (.ref a_w_merge) = true
  ka_w_namelist : PySem.W.keepIn K (.ref a_w_namelist) = true
  ka_w_pick : PySem.W.keepIn K (.ref a_w_pick) = true
  ka_w_rawlist : PySem.W.keepIn K (.ref a_w_rawlist) = true
  ka_w_same : PySem.W.keepIn K (.ref a_w_same) = true
  ka_w_some_standing : PySem.W.keepIn K (.ref a_w_some_standing) = true
  ka_w_worth : PySem.W.keepIn K (.ref a_w_worth) = true
  kcInvalidDish : PySem.W.keepIn K (.ref cInvalidDish) = true
  kcInvalidKitchen : PySem.W.keepIn K (.ref cInvalidKitchen) = true
  me_Kitchen_place_of : Meth K cKitchen "place_of" a_Kitchen_place_of
  mk_Dish : Mk K cDish a_Dish__init
  mk_Kitchen : Mk K cKitchen a_Kitchen__init
  n_bool : mg "bool" = none
  n_enumerate : mg "enumerate" = none
  n_int : mg "int" = none
  n_isinstance : mg "isinstance" = none
  n_len : mg "len" = none
  n_list : mg "list" = none
  n_max : mg "max" = none
  n_min : mg "min" = none
  n_range : mg "range" = none
  n_tuple : mg "tuple" = none
  na_Dish_first : NoAttr K cDish "first"
  na_Dish_name : NoAttr K cDish "name"
  na_Dish_needs : NoAttr K cDish "needs"
  na_Dish_second : NoAttr K cDish "second"
  na_Kitchen_dishes : NoAttr K cKitchen "dishes"
  na_Kitchen_longest : NoAttr K cKitchen "longest"
  na_Kitchen_names : NoAttr K cKitchen "names"
  na_Kitchen_present : NoAttr K cKitchen "present"
  noUnknownTool_tool : PySem.W.findIn K (.ref cUnknownTool) "tool" = some none
  oxUnknownTool : OexC K cUnknownTool
  pr_Kitchen_horizon : PropOf K cKitchen "horizon" p_Kitchen_horizon a_Kitchen_horizon
  pr_Kitchen_tools : PropOf K cKitchen "tools" p_Kitchen_tools a_Kitchen_tools
  sbxInvalidDish : PySem.W.subIn K (.ref cInvalidDish) (.type "BaseException") = some true
  sbxInvalidKitchen : PySem.W.subIn K (.ref cInvalidKitchen) (.type "BaseException") = some true
  tIUnknownTool : PySem.W.typeIn K (.ref iUnknownTool) = some (.type "function")
  tybInvalidDish : PySem.W.typeIn K (.ref cInvalidDish) = some (.type "type")
  tybInvalidKitchen : PySem.W.typeIn K (.ref cInvalidKitchen) = some (.type "type")
  xInvalidDish : PySem.W.excIn K cInvalidDish [.type "ValueError", .type "Exception", .type "BaseException", .type "object"] "ValueError.__new__" = true
  xInvalidKitchen : PySem.W.excIn K cInvalidKitchen [.type "ValueError", .type "Exception", .type "BaseException", .type "object"] "ValueError.__new__" = true
section
variable {P : Program} {w : World} {K : PySem.W.Frag} {mg : Str → Option Value} {base : Heap} {cInvalidDish cInvalidKitchen cUnknownTool cDish cKitchen iUnknownTool p_Kitchen_horizon p_Kitchen_tools a_w_pick a_w_draw a_w_namelist a_w_rawlist a_w_worth a_w_merge a_w_broad a_Kitchen_place_of a_is_name a_Kitchen__init a_merged a_Dish__init a_w_built a_w_horizon a_w_empty a_w_some_standing a_w_is_integer a_w_is_standing a_w_same a_after_beat a_Kitchen_horizon a_Kitchen_tools a_empty_standing : Addr}
abbrev s_UnknownTool : Stmt := inClass (top 5) 0

def fe_UnknownTool : Rho → Res (List D) := (aCons (eFs [(cD (.str "the kitchen has no tool ")), (e1 (vB 1) fmtK)]) aNil)

abbrev nf_UnknownTool (cc cd : Addr) : NF := { name := "__init__", qual := "UnknownTool.__init__", params := defArgs s_UnknownTool, body := defBody s_UnknownTool, scope := defScope s_UnknownTool, cl := [("__class__", cc)], c := cd }

theorem nsc_UnknownTool : NScope ["self", "tool", "__class__"] ["self", "tool"] ["__class__"] (defScope s_UnknownTool) := nscope_by (by decide +kernel)

theorem ok_UnknownTool {cc cd : Addr} {doc pm ctv : Value} (T : Txt K mg cInvalidDish cInvalidKitchen cUnknownTool cDish cKitchen iUnknownTool p_Kitchen_horizon p_Kitchen_tools a_w_pick a_w_draw a_w_namelist a_w_rawlist a_w_worth a_w_merge a_w_broad a_Kitchen_place_of a_is_name a_Kitchen__init a_merged a_Dish__init a_w_built a_w_horizon a_w_empty a_w_some_standing a_w_is_integer a_w_is_standing a_w_same a_after_beat a_Kitchen_horizon a_Kitchen_tools a_empty_standing) (U : SupTxt P K mg cUnknownTool iUnknownTool cc (nf_UnknownTool cc cd)) (lk : ∃ (oc : Value) (od : Option Addr) (osl : Array (Option Value)), K.lookup iUnknownTool = some ⟨oc, od, .func ((nf_UnknownTool cc cd).fd doc pm ctv), osl⟩) :
    FnOk P w K mg base (L2.CX P w) 1 iUnknownTool ((nf_UnknownTool cc cd).fd doc pm ctv) ["self", "tool"] (spX cUnknownTool K fe_UnknownTool ["tool"]) :=
  fn_sup1 (k := 0) U rfl rfl rfl (by decide +kernel) rfl nsc_UnknownTool rfl rfl lk rfl (fun _ => rfl) (fun _ => rfl) (by decide) (by decide) T.noUnknownTool_tool fun A outer s H E G W => by
  exact (ja_cons (je_fstr (JP.cons je_str (JP.cons (je_fmt (s := false) (je_varB 1 (pv 1))) JP.nil))) ja_nil)

abbrev s_w_pick : Stmt := top 19

theorem sc_w_pick : FnScope ["_law_script", "_law_k"] ["_law_script", "_law_k"] (defScope s_w_pick) := ⟨rfl, rfl, rfl, by decide +kernel, rfl, by decide +kernel, by decide +kernel⟩

def den_w_pick : Rho → Out :=
  (sSeq (sIf (e2 (vB 1) (e1 (aCons (vB 0) aNil) lenK) ltB) (sRet (e1 (aCons (e2 (vB 0) (vB 1) ixD) aNil) intK)) sNil) (sRet (cD (.int 0))))

def F_w_pick : List D → Res D := runD [false, true] 2 den_w_pick

theorem ok_w_pick {f : Addr} {fd : FuncData} (F : Fun K "_law_pick" "_law_pick" s_w_pick f fd) (T : Txt K mg cInvalidDish cInvalidKitchen cUnknownTool cDish cKitchen iUnknownTool p_Kitchen_horizon p_Kitchen_tools a_w_pick a_w_draw a_w_namelist a_w_rawlist a_w_worth a_w_merge a_w_broad a_Kitchen_place_of a_is_name a_Kitchen__init a_merged a_Dish__init a_w_built a_w_horizon a_w_empty a_w_some_standing a_w_is_integer a_w_is_standing a_w_same a_after_beat a_Kitchen_horizon a_Kitchen_tools a_empty_standing) :
    FnOk P w K mg base (L2.CX P w) 1 f fd ["_law_script", "_law_k"] (spD K [false, true] F_w_pick) :=
  fnD F sc_w_pick rfl (fun ds => runD_ok _ _ _ ds) fun cdv A outer s H E G hr => by
  exact (jb_cons (js_if (jt_cmp (s := false) (s' := false) op_lt cms_lt (nomark _) (je_varB 1 (pv 1)) (je_len (s := false) rfl T.n_len (ja_cons (je_varB 0 (pv 0)) ja_nil))) (jb_one (js_ret (je_toInt (s := false) rfl T.n_int (ja_cons (je_ix (s' := false) (je_varB 0 (pv 0)) (je_varB 1 (pv 1))) ja_nil)))) jb_nil)
    (jb_one (js_ret je_int)))

abbrev s_w_draw : Stmt := top 20

theorem sc_w_draw : FnScope ["_law_cell", "_law_k", "_law_many", "_law_step", "_law_one", "_law_two", "_law_three"] ["_law_cell", "_law_k", "_law_many"] (defScope s_w_draw) := ⟨rfl, rfl, rfl, by decide +kernel, rfl, by decide +kernel, by decide +kernel⟩

def fb_w_draw_0 : Rho → Out := (sSet 0 (e2 (vB 0) (cD (.int 1000)) fdivD))

def den_w_draw : Rho → Out :=
  (sSeq (sIf (e2 (vB 0) (e2 (cD (.int 10)) (cD (.int 18)) powD) geB) (sSeq (sFor (e1 (aCons (vB 1) aNil) rg1) (gN 3) fb_w_draw_0) (sRet (e2 (e2 (e1 (aCons (vB 0) aNil) intK) (cD (.int 1000)) modD) (vB 2) modD))) sNil) (sSeq (sSet 4 (e2 (e1 (aCons (e2 (e2 (e2 (vB 0) (cD (.int 48271)) mulD) (e2 (vB 1) (cD (.int 69621)) mulD) addI) (cD (.int 12345)) addI) aNil) intK) (cD (.int 2147483647)) modD)) (sSeq (sSet 5 (e2 (e1 (aCons (e2 (e2 (e2 (vB 4) (vB 4) mulD) (e2 (vB 1) (cD (.int 48271)) mulD) addI) (cD (.int 777)) addI) aNil) intK) (cD (.int 2147483629)) modD)) (sSeq (sSet 6 (e2 (e1 (aCons (e2 (e2 (vB 5) (vB 5) mulD) (vB 4) addI) aNil) intK) (cD (.int 2147483587)) modD)) (sRet (e2 (e2 (vB 6) (cD (.int 8)) fdivD) (vB 2) modD))))))

def F_w_draw : List D → Res D := runD [true, true, true] 7 den_w_draw

theorem ok_w_draw {f : Addr} {fd : FuncData} (F : Fun K "_law_draw" "_law_draw" s_w_draw f fd) (T : Txt K mg cInvalidDish cInvalidKitchen cUnknownTool cDish cKitchen iUnknownTool p_Kitchen_horizon p_Kitchen_tools a_w_pick a_w_draw a_w_namelist a_w_rawlist a_w_worth a_w_merge a_w_broad a_Kitchen_place_of a_is_name a_Kitchen__init a_merged a_Dish__init a_w_built a_w_horizon a_w_empty a_w_some_standing a_w_is_integer a_w_is_standing a_w_same a_after_beat a_Kitchen_horizon a_Kitchen_tools a_empty_standing) :
    FnOk P w K mg base (L2.CX P w) 1 f fd ["_law_cell", "_law_k", "_law_many"] (spD K [true, true, true] F_w_draw) :=
  fnD F sc_w_draw rfl (fun ds => runD_ok _ _ _ ds) fun cdv A outer s H E G hr => by
  exact (jb_cons (js_if (jt_cmp (s := false) (s' := false) op_ge cms_ge (nomark _) (je_varB 0 (pv 0)) (je_bin (s := false) op_pow ops_pow je_int je_int)) (jb_cons (js_for (passes_of rfl) rfl (ji_range1 (s := false) rfl T.n_range (ja_cons (je_varB 1 (pv 1)) ja_nil)) (fun _ => (jg_name (i := 3) sc_w_draw.nd rfl (Or.inl rfl))) (fun _ => (jb_one (js_set (i := 0) sc_w_draw.nd rfl (by first | exact Or.inl rfl | exact Or.inr rfl) (je_bin (s := false) op_fdivW ops_fdiv (je_varB 0 (pv 0)) je_int)))))
    (jb_one (js_ret (je_bin (s := false) op_mod ops_mod (je_bin (s := false) op_mod ops_mod (je_toInt (s := false) rfl T.n_int (ja_cons (je_varB 0 (pv 0)) ja_nil)) je_int) (je_varB 2 (pv 2)))))) jb_nil)
    (jb_cons (js_set (i := 4) sc_w_draw.nd rfl (by first | exact Or.inl rfl | exact Or.inr rfl) (je_bin (s := false) op_mod ops_mod (je_toInt (s := false) rfl T.n_int (ja_cons (je_bin (s := false) op_add ops_addI (je_bin (s := false) op_add ops_addI (je_bin (s := false) op_mulA ops_mul (je_varB 0 (pv 0)) je_int) (je_bin (s := false) op_mulA ops_mul (je_varB 1 (pv 1)) je_int)) je_int) ja_nil)) je_int))
    (jb_cons (js_set (i := 5) sc_w_draw.nd rfl (by first | exact Or.inl rfl | exact Or.inr rfl) (je_bin (s := false) op_mod ops_mod (je_toInt (s := false) rfl T.n_int (ja_cons (je_bin (s := false) op_add ops_addI (je_bin (s := false) op_add ops_addI (je_bin (s := false) op_mulA ops_mul (je_varB 4 (pv 4)) (je_varB 4 (pv 4))) (je_bin (s := false) op_mulA ops_mul (je_varB 1 (pv 1)) je_int)) je_int) ja_nil)) je_int))
    (jb_cons (js_set (i := 6) sc_w_draw.nd rfl (by first | exact Or.inl rfl | exact Or.inr rfl) (je_bin (s := false) op_mod ops_mod (je_toInt (s := false) rfl T.n_int (ja_cons (je_bin (s := false) op_add ops_addI (je_bin (s := false) op_mulA ops_mul (je_varB 5 (pv 5)) (je_varB 5 (pv 5))) (je_varB 4 (pv 4))) ja_nil)) je_int))
    (jb_one (js_ret (je_bin (s := false) op_mod ops_mod (je_bin (s := false) op_fdivW ops_fdiv (je_varB 6 (pv 6)) je_int) (je_varB 2 (pv 2)))))))))

abbrev s_w_namelist : Stmt := top 22

theorem sc_w_namelist : FnScope ["_law_cell", "_law_many", "_law_alike", "_law_place", "_law_turned", "_law_names", "_law_k", "_law_other", "_law_size", "_law_letters", "_law_word", "_law_j"] ["_law_cell", "_law_many"] (defScope s_w_namelist) := ⟨rfl, rfl, rfl, by decide +kernel, rfl, by decide +kernel, by decide +kernel⟩

def l_w_namelist_0 : Rho → Res D := (e2 (vS 9) (e1 (aCons (vS 7) (aCons (e2 (cD (.int 4)) (vB 11) addI) (aCons (cD (.int 26)) aNil))) F_w_draw) ixD)

def fb_w_namelist_0 : Rho → Out := (sSeq (sSet 7 (vS 0)) (sSeq (sIf (eNot (e1 (vB 2) asBl)) (sSet 7 (e2 (e2 (vB 0) (cD (.int 1)) addI) (vB 6) addI)) sNil) (sSeq (sSet 8 (e2 (vB 3) (e1 (aCons (vS 7) (aCons (cD (.int 3)) (aCons (e2 (cD (.int 12)) (vB 3) subD) aNil))) F_w_draw) addI)) (sSeq (sSet 9 (cD (.str "abcdefghijklmnopqrstuvwxyz"))) (sSeq (sSet 10 (eJoin (cD (.str "")) (toL (eLc [11] (e1 (aCons (vB 8) aNil) rg1) (gN 11) l_w_namelist_0)))) (sMut 5 (aCons (e2 (e2 (eSl (vB 10) (fun _ => .ok none) (e1 (e1 (vB 3) asInt) fun i => .ok (some i)) slStr) (e2 (cD (.str "mctahzkd")) (e2 (e2 (vB 6) (vB 4) addI) (cD (.int 8)) modD) ixD) addD) (eSl (vB 10) (e1 (e1 (vB 3) asInt) fun i => .ok (some i)) (fun _ => .ok none) slStr) addD) aNil) appK))))))

def den_w_namelist : Rho → Out :=
  (sSeq (sSet 2 (e1 (e2 (e1 (aCons (vS 0) (aCons (cD (.int 0)) (aCons (cD (.int 2)) aNil))) F_w_draw) (cD (.int 0)) eqB) fun b => .ok (.bl b))) (sSeq (sSet 3 (e1 (aCons (vS 0) (aCons (cD (.int 1)) (aCons (cD (.int 12)) aNil))) F_w_draw)) (sSeq (sSet 4 (e1 (aCons (vS 0) (aCons (cD (.int 2)) (aCons (cD (.int 8)) aNil))) F_w_draw)) (sSeq (sSetN 5 (eLst aNil)) (sSeq (sFor (e1 (aCons (vB 1) aNil) rg1) (gN 6) fb_w_namelist_0) (sRetO 5))))))

def F_w_namelist : List D → Res D := runD [true, true] 12 den_w_namelist

theorem ok_w_namelist {f : Addr} {fd : FuncData} {fd_w_draw : FuncData} (F : Fun K "_law_namelist" "_law_namelist" s_w_namelist f fd) (T : Txt K mg cInvalidDish cInvalidKitchen cUnknownTool cDish cKitchen iUnknownTool p_Kitchen_horizon p_Kitchen_tools a_w_pick a_w_draw a_w_namelist a_w_rawlist a_w_worth a_w_merge a_w_broad a_Kitchen_place_of a_is_name a_Kitchen__init a_merged a_Dish__init a_w_built a_w_horizon a_w_empty a_w_some_standing a_w_is_integer a_w_is_standing a_w_same a_after_beat a_Kitchen_horizon a_Kitchen_tools a_empty_standing) (H_w_draw : FnOk P w K mg base (L2.CX P w) 1 a_w_draw fd_w_draw ["_law_cell", "_law_k", "_law_many"] (spD K [true, true, true] F_w_draw)) (B_w_draw : Binds K fd_w_draw ["_law_cell", "_law_k", "_law_many"] []) :
    FnOk P w K mg base (L2.CX P w) 2 f fd ["_law_cell", "_law_many"] (spD K [true, true] F_w_namelist) :=
  fnD F sc_w_namelist rfl (fun ds => runD_ok _ _ _ ds) fun cdv A outer s H E G hr => by
  exact (jb_cons (js_set (i := 2) sc_w_namelist.nd rfl (by first | exact Or.inl rfl | exact Or.inr rfl) (je_cmp (s := false) (s' := false) (op_eqA hr.units) cms_eq (nomark _) (je_call H_w_draw (hr.mono (by decide)) rfl T.g__law_draw T.ka_w_draw B_w_draw (takes_of rfl rfl rfl rfl) (jf_cons (je_var 0 (pv 0)) (jf_cons je_int (jf_cons je_int jf_nil)))) je_int))
    (jb_cons (js_set (i := 3) sc_w_namelist.nd rfl (by first | exact Or.inl rfl | exact Or.inr rfl) (je_call H_w_draw (hr.mono (by decide)) rfl T.g__law_draw T.ka_w_draw B_w_draw (takes_of rfl rfl rfl rfl) (jf_cons (je_var 0 (pv 0)) (jf_cons je_int (jf_cons je_int jf_nil)))))
    (jb_cons (js_set (i := 4) sc_w_namelist.nd rfl (by first | exact Or.inl rfl | exact Or.inr rfl) (je_call H_w_draw (hr.mono (by decide)) rfl T.g__law_draw T.ka_w_draw B_w_draw (takes_of rfl rfl rfl rfl) (jf_cons (je_var 0 (pv 0)) (jf_cons je_int (jf_cons je_int jf_nil)))))
    (jb_cons (js_setN (i := 5) sc_w_namelist.nd rfl (by first | exact Or.inl rfl | exact Or.inr rfl) (jn_lst ja_nil))
    (jb_cons (js_for (passes_of rfl) rfl (ji_range1 (s := false) rfl T.n_range (ja_cons (je_varB 1 (pv 1)) ja_nil)) (fun _ => (jg_name (i := 6) sc_w_namelist.nd rfl (Or.inl rfl))) (fun _ => (jb_cons (js_set (i := 7) sc_w_namelist.nd rfl (by first | exact Or.inl rfl | exact Or.inr rfl) (je_var 0 (pv 0)))
    (jb_cons (js_if (jt_not (jt_val (s := false) (je_varB 2 (pv 2)))) (jb_one (js_set (i := 7) sc_w_namelist.nd rfl (by first | exact Or.inl rfl | exact Or.inr rfl) (je_bin (s := false) op_add ops_addI (je_bin (s := false) op_add ops_addI (je_varB 0 (pv 0)) je_int) (je_varB 6 (pv 6))))) jb_nil)
    (jb_cons (js_set (i := 8) sc_w_namelist.nd rfl (by first | exact Or.inl rfl | exact Or.inr rfl) (je_bin (s := false) op_add ops_addI (je_varB 3 (pv 3)) (je_call H_w_draw (hr.mono (by decide)) rfl T.g__law_draw T.ka_w_draw B_w_draw (takes_of rfl rfl rfl rfl) (jf_cons (je_var 7 (pv 7)) (jf_cons je_int (jf_cons (je_bin (s := false) op_sub ops_sub je_int (je_varB 3 (pv 3))) jf_nil))))))
    (jb_cons (js_set (i := 9) sc_w_namelist.nd rfl (by first | exact Or.inl rfl | exact Or.inr rfl) je_str)
    (jb_cons (js_set (i := 10) sc_w_namelist.nd rfl (by first | exact Or.inl rfl | exact Or.inr rfl) (je_join (s := false) je_str (je_ofN (jn_lc (own := [("_law_j", 11)]) (g := (gName 11)) rfl sc_w_namelist.nd (ji_range1 (s := false) rfl T.n_range (ja_cons (je_varB 8 (pv 8)) ja_nil)) (blkOk_by (N := ["_law_cell", "_law_many", "_law_alike", "_law_place", "_law_turned", "_law_names", "_law_k", "_law_other", "_law_size", "_law_letters", "_law_word", "_law_j"]) (sc := defScope s_w_namelist) (by decide +kernel)) (tg_name (by decide)) (fun _ _ _ _ _ => (pg_name (i := 11) sc_w_namelist.nd rfl (Or.inl rfl))) (fun _ _ _ _ _ _ => (je_ix (s' := false) (je_var 9 (pv 9)) (je_call H_w_draw (hr.mono (by decide)) rfl T.g__law_draw T.ka_w_draw B_w_draw takes0 (jf_cons (je_var 7 (pv 7)) (jf_cons (je_bin (s := false) op_add ops_addI je_int (je_varB 11 (pv 11))) (jf_cons je_int jf_nil))))))))))
    (jb_one (js_append 5 (pv 5) (ja_cons (je_bin op_addA ops_add (je_bin op_addA ops_add (je_slS (s := false) (je_varB 10 (pv 10)) jo_none (jo_some (s := false) (je_varB 3 (pv 3)))) (je_ix (s' := false) je_str (je_bin (s := false) op_mod ops_mod (je_bin (s := false) op_add ops_addI (je_varB 6 (pv 6)) (je_varB 4 (pv 4))) je_int))) (je_slS (s := false) (je_varB 10 (pv 10)) (jo_some (s := false) (je_varB 3 (pv 3))) jo_none)) ja_nil))))))))))
    (jb_one (js_retO 5 (pv 5))))))))

abbrev s_w_rawlist : Stmt := top 24

theorem sc_w_rawlist : FnScope ["_law_script", "_law_at", "_law_many", "_law_names", "_law_raw", "_law_k", "_law_cell", "_law_beat", "_law_amount"] ["_law_script", "_law_at", "_law_many", "_law_names"] (defScope s_w_rawlist) := ⟨rfl, rfl, rfl, by decide +kernel, rfl, by decide +kernel, by decide +kernel⟩

def fb_w_rawlist_0 : Rho → Out := (sSeq (sSet 6 (e2 (e1 (aCons (vB 0) (aCons (e2 (vB 1) (vB 5) addI) aNil)) F_w_pick) (vB 5) addI)) (sSeq (sSet 7 (e1 (aCons (vS 6) (aCons (cD (.int 0)) (aCons (e2 (toL (eLst (aCons (cD (.int 1)) (aCons (cD (.int 3)) (aCons (cD (.int 31)) aNil))))) (e1 (aCons (vS 6) (aCons (cD (.int 1)) (aCons (cD (.int 3)) aNil))) F_w_draw) ixD) aNil))) F_w_draw)) (sSeq (sSet 8 (e2 (cD (.int 1)) (e1 (aCons (vS 6) (aCons (cD (.int 2)) (aCons (e2 (toL (eLst (aCons (cD (.int 1)) (aCons (cD (.int 4)) (aCons (cD (.int 1000)) aNil))))) (e1 (aCons (vS 6) (aCons (cD (.int 3)) (aCons (cD (.int 3)) aNil))) F_w_draw) ixD) aNil))) F_w_draw) addI)) (sMut 4 (aCons (eTup (aCons (vS 7) (aCons (e1 (e2 (vB 3) (e1 (aCons (vS 6) (aCons (cD (.int 4)) (aCons (e1 (aCons (vB 3) aNil) lenK) aNil))) F_w_draw) ixD) ckFlat) (aCons (vS 8) aNil)))) aNil) appK))))

def den_w_rawlist : Rho → Out :=
  (sSeq (sSetN 4 (eLst aNil)) (sSeq (sFor (e1 (aCons (vB 2) aNil) rg1) (gN 5) fb_w_rawlist_0) (sRetO 4)))

def F_w_rawlist : List D → Res D := runD [false, true, true, false] 9 den_w_rawlist

theorem ok_w_rawlist {f : Addr} {fd : FuncData} {fd_w_draw fd_w_pick : FuncData} (F : Fun K "_law_rawlist" "_law_rawlist" s_w_rawlist f fd) (T : Txt K mg cInvalidDish cInvalidKitchen cUnknownTool cDish cKitchen iUnknownTool p_Kitchen_horizon p_Kitchen_tools a_w_pick a_w_draw a_w_namelist a_w_rawlist a_w_worth a_w_merge a_w_broad a_Kitchen_place_of a_is_name a_Kitchen__init a_merged a_Dish__init a_w_built a_w_horizon a_w_empty a_w_some_standing a_w_is_integer a_w_is_standing a_w_same a_after_beat a_Kitchen_horizon a_Kitchen_tools a_empty_standing) (H_w_draw : FnOk P w K mg base (L2.CX P w) 1 a_w_draw fd_w_draw ["_law_cell", "_law_k", "_law_many"] (spD K [true, true, true] F_w_draw)) (B_w_draw : Binds K fd_w_draw ["_law_cell", "_law_k", "_law_many"] []) (H_w_pick : FnOk P w K mg base (L2.CX P w) 1 a_w_pick fd_w_pick ["_law_script", "_law_k"] (spD K [false, true] F_w_pick)) (B_w_pick : Binds K fd_w_pick ["_law_script", "_law_k"] []) :
    FnOk P w K mg base (L2.CX P w) 2 f fd ["_law_script", "_law_at", "_law_many", "_law_names"] (spD K [false, true, true, false] F_w_rawlist) :=
  fnD F sc_w_rawlist rfl (fun ds => runD_ok _ _ _ ds) fun cdv A outer s H E G hr => by
  exact (jb_cons (js_setN (i := 4) sc_w_rawlist.nd rfl (by first | exact Or.inl rfl | exact Or.inr rfl) (jn_lst ja_nil))
    (jb_cons (js_for (passes_of rfl) rfl (ji_range1 (s := false) rfl T.n_range (ja_cons (je_varB 2 (pv 2)) ja_nil)) (fun _ => (jg_name (i := 5) sc_w_rawlist.nd rfl (Or.inl rfl))) (fun _ => (jb_cons (js_set (i := 6) sc_w_rawlist.nd rfl (by first | exact Or.inl rfl | exact Or.inr rfl) (je_bin (s := false) op_add ops_addI (je_call H_w_pick (hr.mono (by decide)) rfl T.g__law_pick T.ka_w_pick B_w_pick (takes_of rfl rfl rfl rfl) (jf_cons (je_varB 0 (pv 0)) (jf_cons (je_bin (s := false) op_add ops_addI (je_varB 1 (pv 1)) (je_varB 5 (pv 5))) jf_nil))) (je_varB 5 (pv 5))))
    (jb_cons (js_set (i := 7) sc_w_rawlist.nd rfl (by first | exact Or.inl rfl | exact Or.inr rfl) (je_call H_w_draw (hr.mono (by decide)) rfl T.g__law_draw T.ka_w_draw B_w_draw (takes_of rfl rfl rfl rfl) (jf_cons (je_var 6 (pv 6)) (jf_cons je_int (jf_cons (je_ix (s' := false) (je_ofN (jn_lst (ja_cons je_int (ja_cons je_int (ja_cons je_int ja_nil))))) (je_call H_w_draw (hr.mono (by decide)) rfl T.g__law_draw T.ka_w_draw B_w_draw (takes_of rfl rfl rfl rfl) (jf_cons (je_var 6 (pv 6)) (jf_cons je_int (jf_cons je_int jf_nil))))) jf_nil)))))
    (jb_cons (js_set (i := 8) sc_w_rawlist.nd rfl (by first | exact Or.inl rfl | exact Or.inr rfl) (je_bin (s := false) op_add ops_addI je_int (je_call H_w_draw (hr.mono (by decide)) rfl T.g__law_draw T.ka_w_draw B_w_draw (takes_of rfl rfl rfl rfl) (jf_cons (je_var 6 (pv 6)) (jf_cons je_int (jf_cons (je_ix (s' := false) (je_ofN (jn_lst (ja_cons je_int (ja_cons je_int (ja_cons je_int ja_nil))))) (je_call H_w_draw (hr.mono (by decide)) rfl T.g__law_draw T.ka_w_draw B_w_draw (takes_of rfl rfl rfl rfl) (jf_cons (je_var 6 (pv 6)) (jf_cons je_int (jf_cons je_int jf_nil))))) jf_nil))))))
    (jb_one (js_append 4 (pv 4) (ja_cons (je_tup (ja_cons (je_var 7 (pv 7)) (ja_cons (JE.up (s := false) (je_ix (s' := false) (je_varB 3 (pv 3)) (je_call H_w_draw (hr.mono (by decide)) rfl T.g__law_draw T.ka_w_draw B_w_draw (takes_of rfl rfl rfl rfl) (jf_cons (je_var 6 (pv 6)) (jf_cons je_int (jf_cons (je_len (s := false) rfl T.n_len (ja_cons (je_varB 3 (pv 3)) ja_nil)) jf_nil)))))) (ja_cons (je_var 8 (pv 8)) ja_nil)))) ja_nil))))))))
    (jb_one (js_retO 4 (pv 4)))))

abbrev s_w_worth : Stmt := top 25

theorem sc_w_worth : FnScope ["_law_cell", "_law_small"] ["_law_cell", "_law_small"] (defScope s_w_worth) := ⟨rfl, rfl, rfl, by decide +kernel, rfl, by decide +kernel, by decide +kernel⟩

def den_w_worth : Rho → Out :=
  (sSeq (sIf (e1 (vB 1) asBl) (sRet (e2 (e1 (aCons (vS 0) (aCons (cD (.int 0)) (aCons (cD (.int 19)) aNil))) F_w_draw) (cD (.int 9)) subD)) sNil) (sRet (e2 (e2 (e1 (aCons (e2 (e2 (vB 0) (cD (.int 1000003)) mulD) (cD (.int 7919)) addI) aNil) intK) (e2 (e2 (cD (.int 2)) (e2 (cD (.int 10)) (cD (.int 12)) powD) mulD) (cD (.int 1)) addI) modD) (e2 (cD (.int 10)) (cD (.int 12)) powD) subD)))

def F_w_worth : List D → Res D := runD [true, true] 2 den_w_worth

theorem ok_w_worth {f : Addr} {fd : FuncData} {fd_w_draw : FuncData} (F : Fun K "_law_worth" "_law_worth" s_w_worth f fd) (T : Txt K mg cInvalidDish cInvalidKitchen cUnknownTool cDish cKitchen iUnknownTool p_Kitchen_horizon p_Kitchen_tools a_w_pick a_w_draw a_w_namelist a_w_rawlist a_w_worth a_w_merge a_w_broad a_Kitchen_place_of a_is_name a_Kitchen__init a_merged a_Dish__init a_w_built a_w_horizon a_w_empty a_w_some_standing a_w_is_integer a_w_is_standing a_w_same a_after_beat a_Kitchen_horizon a_Kitchen_tools a_empty_standing) (H_w_draw : FnOk P w K mg base (L2.CX P w) 1 a_w_draw fd_w_draw ["_law_cell", "_law_k", "_law_many"] (spD K [true, true, true] F_w_draw)) (B_w_draw : Binds K fd_w_draw ["_law_cell", "_law_k", "_law_many"] []) :
    FnOk P w K mg base (L2.CX P w) 2 f fd ["_law_cell", "_law_small"] (spD K [true, true] F_w_worth) :=
  fnD F sc_w_worth rfl (fun ds => runD_ok _ _ _ ds) fun cdv A outer s H E G hr => by
  exact (jb_cons (js_if (jt_val (s := false) (je_varB 1 (pv 1))) (jb_one (js_ret (je_bin (s := false) op_sub ops_sub (je_call H_w_draw (hr.mono (by decide)) rfl T.g__law_draw T.ka_w_draw B_w_draw (takes_of rfl rfl rfl rfl) (jf_cons (je_var 0 (pv 0)) (jf_cons je_int (jf_cons je_int jf_nil)))) je_int))) jb_nil)
    (jb_one (js_ret (je_bin (s := false) op_sub ops_sub (je_bin (s := false) op_mod ops_mod (je_toInt (s := false) rfl T.n_int (ja_cons (je_bin (s := false) op_add ops_addI (je_bin (s := false) op_mulA ops_mul (je_varB 0 (pv 0)) je_int) je_int) ja_nil)) (je_bin (s := false) op_add ops_addI (je_bin (s := false) op_mulA ops_mul je_int (je_bin (s := false) op_pow ops_pow je_int je_int)) je_int)) (je_bin (s := false) op_pow ops_pow je_int je_int)))))

abbrev s_w_merge : Stmt := top 23

theorem sc_w_merge : FnScope ["_law_raw", "_law_needs", "_law_need", "_law_at"] ["_law_raw"] (defScope s_w_merge) := ⟨rfl, rfl, rfl, by decide +kernel, rfl, by decide +kernel, by decide +kernel⟩

def wc_w_merge_0 : Rho → Res Bool := (eAnd (e2 (vB 3) (e1 (aCons (vB 1) aNil) lenK) ltB) (e2 (eTup (aCons (e2 (e2 (vB 1) (vB 3) ixD) (cD (.int 0)) ixD) (aCons (e2 (e2 (vB 1) (vB 3) ixD) (cD (.int 1)) ixD) aNil))) (eTup (aCons (e2 (vB 2) (cD (.int 0)) ixD) (aCons (e2 (vB 2) (cD (.int 1)) ixD) aNil))) ltP))
def wb_w_merge_0 : Rho → Out := (sSet 3 (e2 (vB 3) (cD (.int 1)) addI))

def fb_w_merge_0 : Rho → Out := (sSeq (sSet 3 (cD (.int 0))) (sSeq (whileN 100 wc_w_merge_0 wb_w_merge_0) (sIf (eAnd (e2 (vB 3) (e1 (aCons (vB 1) aNil) lenK) ltB) (eAnd (e2 (e2 (e2 (vB 1) (vB 3) ixD) (cD (.int 0)) ixD) (e2 (vB 2) (cD (.int 0)) ixD) eqB) (e2 (e2 (e2 (vB 1) (vB 3) ixD) (cD (.int 1)) ixD) (e2 (vB 2) (cD (.int 1)) ixD) eqB))) (sPut 1 (eTup (aCons (e2 (vS 2) (cD (.int 0)) ixD) (aCons (e2 (vS 2) (cD (.int 1)) ixD) (aCons (e2 (e2 (e2 (vB 1) (vB 3) ixD) (cD (.int 2)) ixD) (e2 (vB 2) (cD (.int 2)) ixD) addI) aNil)))) (vB 3)) (sMut 1 (aCons (vS 3) (aCons (vS 2) aNil)) insK))))

def den_w_merge : Rho → Out :=
  (sSeq (sSetN 1 (eLst aNil)) (sSeq (sFor (boItems 0) (gN 2) fb_w_merge_0) (sRetO 1)))

def F_w_merge : List D → Res D := runD [false] 4 den_w_merge

theorem ok_w_merge {f : Addr} {fd : FuncData} (F : Fun K "_law_merge" "_law_merge" s_w_merge f fd) (T : Txt K mg cInvalidDish cInvalidKitchen cUnknownTool cDish cKitchen iUnknownTool p_Kitchen_horizon p_Kitchen_tools a_w_pick a_w_draw a_w_namelist a_w_rawlist a_w_worth a_w_merge a_w_broad a_Kitchen_place_of a_is_name a_Kitchen__init a_merged a_Dish__init a_w_built a_w_horizon a_w_empty a_w_some_standing a_w_is_integer a_w_is_standing a_w_same a_after_beat a_Kitchen_horizon a_Kitchen_tools a_empty_standing) :
    FnOk P w K mg base (L2.CX P w) 1 f fd ["_law_raw"] (spD K [false] F_w_merge) :=
  fnD F sc_w_merge rfl (fun ds => runD_ok _ _ _ ds) fun cdv A outer s H E G hr => by
  exact (jb_cons (js_setN (i := 1) sc_w_merge.nd rfl (by first | exact Or.inl rfl | exact Or.inr rfl) (jn_lst ja_nil))
    (jb_cons (js_for (passes_of rfl) rfl (ji_bo 0 (pv 0)) (fun _ => (jg_name (i := 2) sc_w_merge.nd rfl (Or.inl rfl))) (fun _ => (jb_cons (js_set (i := 3) sc_w_merge.nd rfl (by first | exact Or.inl rfl | exact Or.inr rfl) je_int)
    (jb_cons (js_while 100 (passes_of rfl) (jt_w (jw_and (jt_cmp (s := false) (s' := false) op_lt cms_lt (nomark _) (je_varB 3 (pv 3)) (je_len (s := false) rfl T.n_len (ja_cons (je_varB 1 (pv 1)) ja_nil))) (jw_and1 (jt_cmp (s := false) (s' := false) (op_ltP hr.units0) cms_ltP (nomark _) (je_tup (ja_cons (je_ix (s' := false) (je_ix (s' := false) (je_varB 1 (pv 1)) (je_varB 3 (pv 3))) je_int) (ja_cons (je_ix (s' := false) (je_ix (s' := false) (je_varB 1 (pv 1)) (je_varB 3 (pv 3))) je_int) ja_nil))) (je_tup (ja_cons (je_ix (s' := false) (je_varB 2 (pv 2)) je_int) (ja_cons (je_ix (s' := false) (je_varB 2 (pv 2)) je_int) ja_nil))))))) (jb_one (js_set (i := 3) sc_w_merge.nd rfl (by first | exact Or.inl rfl | exact Or.inr rfl) (je_bin (s := false) op_add ops_addI (je_varB 3 (pv 3)) je_int))))
    (jb_one (js_if (jt_w (jw_and (jt_cmp (s := false) (s' := false) op_lt cms_lt (nomark _) (je_varB 3 (pv 3)) (je_len (s := false) rfl T.n_len (ja_cons (je_varB 1 (pv 1)) ja_nil))) (jw_and (jt_cmp (s := false) (s' := false) (op_eqA hr.units) cms_eq (nomark _) (je_ix (s' := false) (je_ix (s' := false) (je_varB 1 (pv 1)) (je_varB 3 (pv 3))) je_int) (je_ix (s' := false) (je_varB 2 (pv 2)) je_int)) (jw_and1 (jt_cmp (s := false) (s' := false) (op_eqA hr.units) cms_eq (nomark _) (je_ix (s' := false) (je_ix (s' := false) (je_varB 1 (pv 1)) (je_varB 3 (pv 3))) je_int) (je_ix (s' := false) (je_varB 2 (pv 2)) je_int)))))) (jb_one (js_put (s := false) 1 (pv 1) (je_varB 3 (pv 3)) (je_tup (ja_cons (je_ix (s' := false) (je_var 2 (pv 2)) je_int) (ja_cons (je_ix (s' := false) (je_var 2 (pv 2)) je_int) (ja_cons (je_bin (s := false) op_add ops_addI (je_ix (s' := false) (je_ix (s' := false) (je_varB 1 (pv 1)) (je_varB 3 (pv 3))) je_int) (je_ix (s' := false) (je_varB 2 (pv 2)) je_int)) ja_nil)))))) (jb_one (js_insert 1 (pv 1) (ja_cons (je_var 3 (pv 3)) (ja_cons (je_var 2 (pv 2)) ja_nil))))))))))
    (jb_one (js_retO 1 (pv 1)))))

abbrev s_w_broad : Stmt := top 27

theorem sc_w_broad : FnScope ["_law_script", "_law_least", "_law_cell", "_law_many", "_law_names", "_law_k", "_law_numbers", "_law_menu", "_law_raw", "_law_worths", "_law_need"] ["_law_script", "_law_least"] (defScope s_w_broad) := ⟨rfl, rfl, rfl, by decide +kernel, rfl, by decide +kernel, by decide +kernel⟩

def l_w_broad_0 : Rho → Res D := (eTup (aCons (e2 (e2 (vB 10) (cD (.int 0)) ixD) (cD (.int 70)) addI) (aCons (e2 (vS 10) (cD (.int 1)) ixD) (aCons (e2 (vS 10) (cD (.int 2)) ixD) aNil))))

def fb_w_broad_0 : Rho → Out := (sSeq (sSet 8 (toL (e1 (e1 (aCons (vB 0) (aCons (e2 (cD (.int 3)) (e2 (cD (.int 4)) (vB 5) mulD) addI) (aCons (e2 (cD (.int 1)) (e1 (aCons (vS 2) (aCons (e2 (cD (.int 3)) (vB 5) addI) (aCons (cD (.int 4)) aNil))) F_w_draw) addI) (aCons (toL (eSl (vS 4) (fun _ => .ok none) (e1 (e1 (e1 (aCons (cD (.int 1)) (aCons (vB 3) aNil)) maxK) asInt) fun i => .ok (some i)) slLst)) aNil)))) F_w_rawlist) asLst))) (sSeq (sSet 9 (toL (eLst (aCons (e1 (aCons (e1 (aCons (vB 0) (aCons (e2 (cD (.int 3)) (vB 5) addI) aNil)) F_w_pick) (aCons (cD (.bl true)) aNil)) F_w_worth) (aCons (e1 (aCons (e1 (aCons (vB 0) (aCons (e2 (cD (.int 4)) (vB 5) addI) aNil)) F_w_pick) (aCons (cD (.bl false)) aNil)) F_w_worth) aNil))))) (sSeq (sIf (eAnd (e2 (vB 5) (cD (.int 0)) eqB) (e2 (e1 (aCons (vS 2) (aCons (cD (.int 11)) (aCons (cD (.int 8)) aNil))) F_w_draw) (cD (.int 0)) eqB)) (sSet 8 (toL (eLc [10] (e1 (vS 8) seqItems) (gN 10) l_w_broad_0))) sNil) (sMut 7 (aCons (toL (eLst (aCons (e2 (vS 4) (e2 (e2 (vB 5) (cD (.int 3)) addI) (cD (.int 7)) modD) ixD) (aCons (e2 (vS 9) (cD (.int 0)) ixD) (aCons (e2 (vS 9) (cD (.int 1)) ixD) (aCons (toL (e1 (e1 (aCons (vB 8) aNil) F_w_merge) asLst)) aNil)))))) aNil) appK))))

def l_w_broad_1 : Rho → Res D := (e1 (aCons (e1 (aCons (vB 0) (aCons (cD (.int 2)) aNil)) F_w_pick) (aCons (vS 5) (aCons (e2 (toL (eLst (aCons (cD (.int 4)) (aCons (cD (.int 1001)) aNil)))) (e1 (aCons (vS 2) (aCons (cD (.int 1)) (aCons (cD (.int 2)) aNil))) F_w_draw) ixD) aNil))) F_w_draw)

def den_w_broad : Rho → Out :=
  (sSeq (sSet 2 (e1 (aCons (vB 0) (aCons (cD (.int 0)) aNil)) F_w_pick)) (sSeq (sSet 3 (e2 (vB 1) (e1 (aCons (vS 2) (aCons (cD (.int 0)) (aCons (e2 (cD (.int 7)) (vB 1) subD) aNil))) F_w_draw) addI)) (sSeq (sSet 4 (toL (e1 (e1 (aCons (e1 (aCons (vB 0) (aCons (cD (.int 1)) aNil)) F_w_pick) (aCons (cD (.int 7)) aNil)) F_w_namelist) asLst))) (sSeq (sSet 6 (toL (eLc [5] (e1 (aCons (vB 3) aNil) rg1) (gN 5) l_w_broad_1))) (sSeq (sSetN 7 (eLst aNil)) (sSeq (sFor (e1 (aCons (e2 (e1 (aCons (vS 2) (aCons (cD (.int 2)) (aCons (cD (.int 9)) aNil))) F_w_draw) (e1 (aCons (cD (.int 1)) (aCons (vB 3) aNil)) minK) mulD) aNil) rg1) (gN 5) fb_w_broad_0) (frz 7 (sRetN (eLst (aCons (toL (eSl (vS 4) (fun _ => .ok none) (e1 (e1 (vB 3) asInt) fun i => .ok (some i)) slLst)) (aCons (vS 6) (aCons (vS 7) aNil))))))))))))

def F_w_broad : List D → Res D := runD [false, true] 11 den_w_broad

theorem ok_w_broad {f : Addr} {fd : FuncData} {fd_w_draw fd_w_merge fd_w_namelist fd_w_pick fd_w_rawlist fd_w_worth : FuncData} (F : Fun K "_law_broad" "_law_broad" s_w_broad f fd) (T : Txt K mg cInvalidDish cInvalidKitchen cUnknownTool cDish cKitchen iUnknownTool p_Kitchen_horizon p_Kitchen_tools a_w_pick a_w_draw a_w_namelist a_w_rawlist a_w_worth a_w_merge a_w_broad a_Kitchen_place_of a_is_name a_Kitchen__init a_merged a_Dish__init a_w_built a_w_horizon a_w_empty a_w_some_standing a_w_is_integer a_w_is_standing a_w_same a_after_beat a_Kitchen_horizon a_Kitchen_tools a_empty_standing) (H_w_draw : FnOk P w K mg base (L2.CX P w) 1 a_w_draw fd_w_draw ["_law_cell", "_law_k", "_law_many"] (spD K [true, true, true] F_w_draw)) (B_w_draw : Binds K fd_w_draw ["_law_cell", "_law_k", "_law_many"] []) (H_w_merge : FnOk P w K mg base (L2.CX P w) 1 a_w_merge fd_w_merge ["_law_raw"] (spD K [false] F_w_merge)) (B_w_merge : Binds K fd_w_merge ["_law_raw"] []) (H_w_namelist : FnOk P w K mg base (L2.CX P w) 2 a_w_namelist fd_w_namelist ["_law_cell", "_law_many"] (spD K [true, true] F_w_namelist)) (B_w_namelist : Binds K fd_w_namelist ["_law_cell", "_law_many"] []) (H_w_pick : FnOk P w K mg base (L2.CX P w) 1 a_w_pick fd_w_pick ["_law_script", "_law_k"] (spD K [false, true] F_w_pick)) (B_w_pick : Binds K fd_w_pick ["_law_script", "_law_k"] []) (H_w_rawlist : FnOk P w K mg base (L2.CX P w) 2 a_w_rawlist fd_w_rawlist ["_law_script", "_law_at", "_law_many", "_law_names"] (spD K [false, true, true, false] F_w_rawlist)) (B_w_rawlist : Binds K fd_w_rawlist ["_law_script", "_law_at", "_law_many", "_law_names"] []) (H_w_worth : FnOk P w K mg base (L2.CX P w) 2 a_w_worth fd_w_worth ["_law_cell", "_law_small"] (spD K [true, true] F_w_worth)) (B_w_worth : Binds K fd_w_worth ["_law_cell", "_law_small"] []) :
    FnOk P w K mg base (L2.CX P w) 3 f fd ["_law_script", "_law_least"] (spD K [false, true] F_w_broad) :=
  fnD F sc_w_broad rfl (fun ds => runD_ok _ _ _ ds) fun cdv A outer s H E G hr => by
  exact (jb_cons (js_set (i := 2) sc_w_broad.nd rfl (by first | exact Or.inl rfl | exact Or.inr rfl) (je_call H_w_pick (hr.mono (by decide)) rfl T.g__law_pick T.ka_w_pick B_w_pick (takes_of rfl rfl rfl rfl) (jf_cons (je_varB 0 (pv 0)) (jf_cons je_int jf_nil))))
    (jb_cons (js_set (i := 3) sc_w_broad.nd rfl (by first | exact Or.inl rfl | exact Or.inr rfl) (je_bin (s := false) op_add ops_addI (je_varB 1 (pv 1)) (je_call H_w_draw (hr.mono (by decide)) rfl T.g__law_draw T.ka_w_draw B_w_draw (takes_of rfl rfl rfl rfl) (jf_cons (je_var 2 (pv 2)) (jf_cons je_int (jf_cons (je_bin (s := false) op_sub ops_sub je_int (je_varB 1 (pv 1))) jf_nil))))))
    (jb_cons (js_set (i := 4) sc_w_broad.nd rfl (by first | exact Or.inl rfl | exact Or.inr rfl) (je_ofN (jn_call H_w_namelist (hr.mono (by decide)) rfl T.g__law_namelist T.ka_w_namelist B_w_namelist (takes_of rfl rfl rfl rfl) (jf_cons (je_call H_w_pick (hr.mono (by decide)) rfl T.g__law_pick T.ka_w_pick B_w_pick (takes_of rfl rfl rfl rfl) (jf_cons (je_varB 0 (pv 0)) (jf_cons je_int jf_nil))) (jf_cons je_int jf_nil)))))
    (jb_cons (js_setLcS (own := [("_law_k", 5)]) (g := (gName 5)) 6 rfl sc_w_broad.nd rfl rfl (sw_true rfl rfl rfl (by decide +kernel)) (ji_range1 (s := false) rfl T.n_range (ja_cons (je_varB 3 (pv 3)) ja_nil)) (blkOk_by (N := ["_law_script", "_law_least", "_law_cell", "_law_many", "_law_names", "_law_k", "_law_numbers", "_law_menu", "_law_raw", "_law_worths", "_law_need"]) (sc := defScope s_w_broad) (by decide +kernel)) (tg_name (by decide)) (fun _ _ _ _ _ => (pg_name (i := 5) sc_w_broad.nd rfl (Or.inl rfl))) (fun _ _ _ _ _ _ => (je_call H_w_draw (hr.mono (by decide)) rfl T.g__law_draw T.ka_w_draw B_w_draw takes0 (jf_cons (je_call H_w_pick (hr.mono (by decide)) rfl T.g__law_pick T.ka_w_pick B_w_pick takes0 (jf_cons (je_varB 0 (pv 0)) (jf_cons je_int jf_nil))) (jf_cons (je_var 5 (pv 5)) (jf_cons (je_ix (s' := false) (je_ofN (jn_lst (ja_cons je_int (ja_cons je_int ja_nil)))) (je_call H_w_draw (hr.mono (by decide)) rfl T.g__law_draw T.ka_w_draw B_w_draw takes0 (jf_cons (je_var 2 (pv 2)) (jf_cons je_int (jf_cons je_int jf_nil))))) jf_nil))))))
    (jb_cons (js_setN (i := 7) sc_w_broad.nd rfl (by first | exact Or.inl rfl | exact Or.inr rfl) (jn_lst ja_nil))
    (jb_cons (js_for (passes_of rfl) rfl (ji_range1 (s := false) rfl T.n_range (ja_cons (je_bin (s := false) op_mulA ops_mul (je_call H_w_draw (hr.mono (by decide)) rfl T.g__law_draw T.ka_w_draw B_w_draw (takes_of rfl rfl rfl rfl) (jf_cons (je_var 2 (pv 2)) (jf_cons je_int (jf_cons je_int jf_nil)))) (je_min rfl (s := false) rfl T.n_min (ja_cons je_int (ja_cons (je_varB 3 (pv 3)) ja_nil)))) ja_nil)) (fun _ => (jg_name (i := 5) sc_w_broad.nd rfl (Or.inl rfl))) (fun _ => (jb_cons (js_set (i := 8) sc_w_broad.nd rfl (by first | exact Or.inl rfl | exact Or.inr rfl) (je_ofN (jn_call H_w_rawlist (hr.mono (by decide)) rfl T.g__law_rawlist T.ka_w_rawlist B_w_rawlist (takes_of rfl rfl rfl rfl) (jf_cons (je_varB 0 (pv 0)) (jf_cons (je_bin (s := false) op_add ops_addI je_int (je_bin (s := false) op_mulA ops_mul je_int (je_varB 5 (pv 5)))) (jf_cons (je_bin (s := false) op_add ops_addI je_int (je_call H_w_draw (hr.mono (by decide)) rfl T.g__law_draw T.ka_w_draw B_w_draw (takes_of rfl rfl rfl rfl) (jf_cons (je_var 2 (pv 2)) (jf_cons (je_bin (s := false) op_add ops_addI je_int (je_varB 5 (pv 5))) (jf_cons je_int jf_nil))))) (jf_cons (je_ofN (jn_slL (je_var 4 (pv 4)) jo_none (jo_some (s := false) (je_max rfl (s := false) rfl T.n_max (ja_cons je_int (ja_cons (je_varB 3 (pv 3)) ja_nil)))))) jf_nil)))))))
    (jb_cons (js_set (i := 9) sc_w_broad.nd rfl (by first | exact Or.inl rfl | exact Or.inr rfl) (je_ofN (jn_lst (ja_cons (je_call H_w_worth (hr.mono (by decide)) rfl T.g__law_worth T.ka_w_worth B_w_worth (takes_of rfl rfl rfl rfl) (jf_cons (je_call H_w_pick (hr.mono (by decide)) rfl T.g__law_pick T.ka_w_pick B_w_pick (takes_of rfl rfl rfl rfl) (jf_cons (je_varB 0 (pv 0)) (jf_cons (je_bin (s := false) op_add ops_addI je_int (je_varB 5 (pv 5))) jf_nil))) (jf_cons je_bl jf_nil))) (ja_cons (je_call H_w_worth (hr.mono (by decide)) rfl T.g__law_worth T.ka_w_worth B_w_worth (takes_of rfl rfl rfl rfl) (jf_cons (je_call H_w_pick (hr.mono (by decide)) rfl T.g__law_pick T.ka_w_pick B_w_pick (takes_of rfl rfl rfl rfl) (jf_cons (je_varB 0 (pv 0)) (jf_cons (je_bin (s := false) op_add ops_addI je_int (je_varB 5 (pv 5))) jf_nil))) (jf_cons je_bl jf_nil))) ja_nil)))))
    (jb_cons (js_if (jt_w (jw_and (jt_cmp (s := false) (s' := false) (op_eqA hr.units) cms_eq (nomark _) (je_varB 5 (pv 5)) je_int) (jw_and1 (jt_cmp (s := false) (s' := false) (op_eqA hr.units) cms_eq (nomark _) (je_call H_w_draw (hr.mono (by decide)) rfl T.g__law_draw T.ka_w_draw B_w_draw (takes_of rfl rfl rfl rfl) (jf_cons (je_var 2 (pv 2)) (jf_cons je_int (jf_cons je_int jf_nil)))) je_int)))) (jb_one (js_setLcS (own := [("_law_need", 10)]) (g := (gName 10)) 8 rfl sc_w_broad.nd rfl rfl (sw_true rfl rfl rfl (by decide +kernel)) (ji_seq (je_var 8 (pv 8))) (blkOk_by (N := ["_law_script", "_law_least", "_law_cell", "_law_many", "_law_names", "_law_k", "_law_numbers", "_law_menu", "_law_raw", "_law_worths", "_law_need"]) (sc := defScope s_w_broad) (by decide +kernel)) (tg_name (by decide)) (fun _ _ _ _ _ => (pg_name (i := 10) sc_w_broad.nd rfl (Or.inl rfl))) (fun _ _ _ _ _ _ => (je_tup (ja_cons (je_bin (s := false) op_add ops_addI (je_ix (s' := false) (je_varB 10 (pv 10)) je_int) je_int) (ja_cons (je_ix (s' := false) (je_var 10 (pv 10)) je_int) (ja_cons (je_ix (s' := false) (je_var 10 (pv 10)) je_int) ja_nil))))))) jb_nil)
    (jb_one (js_append 7 (pv 7) (ja_cons (je_ofN (jn_lst (ja_cons (je_ix (s' := false) (je_var 4 (pv 4)) (je_bin (s := false) op_mod ops_mod (je_bin (s := false) op_add ops_addI (je_varB 5 (pv 5)) je_int) je_int)) (ja_cons (je_ix (s' := false) (je_var 9 (pv 9)) je_int) (ja_cons (je_ix (s' := false) (je_var 9 (pv 9)) je_int) (ja_cons (je_ofN (jn_call H_w_merge (hr.mono (by decide)) rfl T.g__law_merge T.ka_w_merge B_w_merge (takes_of rfl rfl rfl rfl) (jf_cons (je_varB 8 (pv 8)) jf_nil))) ja_nil)))))) ja_nil))))))))
    (jb_one (js_frz 7 (js_retN (jn_lst (ja_cons (je_ofN (jn_slL (je_var 4 (pv 4)) jo_none (jo_some (s := false) (je_varB 3 (pv 3))))) (ja_cons (je_var 6 (pv 6)) (ja_cons (je_var 7 (pv 7)) ja_nil)))))))))))))

abbrev s_Kitchen_place_of : Stmt := inClass (top 17) 1

theorem sc_Kitchen_place_of : FnScope ["self", "tool", "place", "name"] ["self", "tool"] (defScope s_Kitchen_place_of) := ⟨rfl, rfl, rfl, by decide +kernel, rfl, by decide +kernel, by decide +kernel⟩

def fb_Kitchen_place_of_0 (cUnknownTool cKitchen : Addr) : Rho → Out := (sIf (e2 (vB 3) (vB 1) eqB) (sRet (vS 2)) sNil)

def den_Kitchen_place_of (cUnknownTool cKitchen : Addr) : Rho → Out :=
  (sSeq (sFor (e1 (aCons (e1 (vS 0) (fldD cKitchen "names")) aNil) enumK) (gT 2 (gsC (gN 2) (gsC (gN 3) gsN))) (fb_Kitchen_place_of_0 cUnknownTool cKitchen)) (sRaise (e1 (aCons (vS 1) aNil) (mkX cUnknownTool ["tool"] fe_UnknownTool))))

def F_Kitchen_place_of (cUnknownTool cKitchen : Addr) : List D → Res D := runD [true, true] 4 (den_Kitchen_place_of cUnknownTool cKitchen)

theorem ok_Kitchen_place_of {f : Addr} {fd : FuncData} {fd_UnknownTool : FuncData} (F : Fun K "place_of" "Kitchen.place_of" s_Kitchen_place_of f fd) (T : Txt K mg cInvalidDish cInvalidKitchen cUnknownTool cDish cKitchen iUnknownTool p_Kitchen_horizon p_Kitchen_tools a_w_pick a_w_draw a_w_namelist a_w_rawlist a_w_worth a_w_merge a_w_broad a_Kitchen_place_of a_is_name a_Kitchen__init a_merged a_Dish__init a_w_built a_w_horizon a_w_empty a_w_some_standing a_w_is_integer a_w_is_standing a_w_same a_after_beat a_Kitchen_horizon a_Kitchen_tools a_empty_standing) (H_UnknownTool : FnOk P w K mg base (L2.CX P w) 1 iUnknownTool fd_UnknownTool ["self", "tool"] (spX cUnknownTool K fe_UnknownTool ["tool"])) (B_UnknownTool : Binds K fd_UnknownTool ["self", "tool"] []) :
    FnOk P w K mg base (L2.CX P w) 3 f fd ["self", "tool"] (spD K [true, true] (F_Kitchen_place_of cUnknownTool cKitchen)) :=
  fnD F sc_Kitchen_place_of rfl (fun ds => runD_ok _ _ _ ds) fun cdv A outer s H E G hr => by
  exact (jb_cons (js_for (passes_of rfl) rfl (ji_enum rfl T.n_enumerate (ja_cons (je_fld T.cl_Kitchen T.na_Kitchen_names (je_var 0 (pv 0))) ja_nil)) (fun _ => (jg_tup rfl (jgs_cons (fun _ => (jg_name (i := 2) sc_Kitchen_place_of.nd rfl (Or.inl rfl))) (jgs_cons (fun _ => (jg_name (i := 3) sc_Kitchen_place_of.nd rfl (Or.inl rfl))) jgs_nil)))) (fun _ => (jb_one (js_if (jt_cmp (s := false) (s' := false) (op_eqA hr.units) cms_eq (nomark _) (je_varB 3 (pv 3)) (je_varB 1 (pv 1))) (jb_one (js_ret (je_var 2 (pv 2)))) jb_nil))))
    (jb_one (js_raise rfl (takes_of rfl rfl rfl rfl) (jm_sup T.oxUnknownTool T.iCUnknownTool T.tIUnknownTool H_UnknownTool (hr.mono (by decide)) B_UnknownTool rfl T.g_UnknownTool (ja_cons (je_var 1 (pv 1)) ja_nil)))))

abbrev s_is_name : Stmt := top 12

theorem sc_is_name : FnScope ["text", "letter"] ["text"] (defScope s_is_name) := ⟨rfl, rfl, rfl, by decide +kernel, rfl, by decide +kernel, by decide +kernel⟩

def fb_is_name_0 : Rho → Out := (sIf (e2 (vB 1) (cD (.str "abcdefghijklmnopqrstuvwxyz")) ninStrB) (sRet (cD (.bl false))) sNil)

def den_is_name : Rho → Out :=
  (sSeq (sIf (eNot (e3c (cD (.int 1)) (e1 (aCons (vB 0) aNil) lenK) (cD (.int 12)) leB leB)) (sRet (cD (.bl false))) sNil) (sSeq (sFor (e1 (vB 0) chars) (gN 1) fb_is_name_0) (sRet (cD (.bl true)))))

def F_is_name : List D → Res D := runD [true] 2 den_is_name

theorem ok_is_name {f : Addr} {fd : FuncData} (F : Fun K "is_name" "is_name" s_is_name f fd) (T : Txt K mg cInvalidDish cInvalidKitchen cUnknownTool cDish cKitchen iUnknownTool p_Kitchen_horizon p_Kitchen_tools a_w_pick a_w_draw a_w_namelist a_w_rawlist a_w_worth a_w_merge a_w_broad a_Kitchen_place_of a_is_name a_Kitchen__init a_merged a_Dish__init a_w_built a_w_horizon a_w_empty a_w_some_standing a_w_is_integer a_w_is_standing a_w_same a_after_beat a_Kitchen_horizon a_Kitchen_tools a_empty_standing) :
    FnOk P w K mg base (L2.CX P w) 1 f fd ["text"] (spD K [true] F_is_name) :=
  fnD F sc_is_name rfl (fun ds => runD_ok _ _ _ ds) fun cdv A outer s H E G hr => by
  exact (jb_cons (js_if (jt_not (jt_chain (s1 := false) (s2 := false) (s3 := false) op_le op_le cms_le cms_le je_int (je_len (s := false) rfl T.n_len (ja_cons (je_varB 0 (pv 0)) ja_nil)) (je_globI rfl T.g_LONGEST_NAME))) (jb_one (js_ret je_bl)) jb_nil)
    (jb_cons (js_for (passes_of rfl) rfl (ji_str (s := false) (je_varB 0 (pv 0))) (fun _ => (jg_name (i := 1) sc_is_name.nd rfl (Or.inl rfl))) (fun _ => (jb_one (js_if (jt_cmp (s := false) (s' := false) op_notIn_str cms_ninStr rfl (je_varB 1 (pv 1)) (je_globS rfl T.g_LETTERS)) (jb_one (js_ret je_bl)) jb_nil))))
    (jb_one (js_ret je_bl))))

abbrev s_Kitchen__init : Stmt := inClass (top 17) 0

theorem sc_Kitchen__init : FnScope ["self", "tools", "menu", "names", "name", "number", "dish", "beat", "tool", "amount"] ["self", "tools", "menu"] (defScope s_Kitchen__init) := ⟨rfl, rfl, rfl, by decide +kernel, rfl, by decide +kernel, by decide +kernel⟩

def fn_Kitchen : List Str := ["names", "present", "dishes", "longest"]

def fb_Kitchen__init_1 (cInvalidKitchen cUnknownTool cDish cKitchen : Addr) : Rho → Out := (sSeq (sExpr (eMethS cKitchen "place_of" (F_Kitchen_place_of cUnknownTool cKitchen) 0 (aCons (vS 8) aNil))) (sFldU cKitchen 0 "longest" (e1 (aCons (e2 (e1 (aCons (vB 7) aNil) intK) (cD (.int 1)) addI) (aCons (e1 (aCons (selfF cKitchen 0 "longest") aNil) intK) aNil)) maxK)))

def fb_Kitchen__init_0 (cInvalidKitchen cUnknownTool cDish cKitchen : Addr) : Rho → Out := (sFor (e1 (e1 (vS 6) (fldD cDish "needs")) seqItems) (gT 3 (gsC (gN 7) (gsC (gN 8) (gsC (gN 9) gsN)))) (fb_Kitchen__init_1 cInvalidKitchen cUnknownTool cDish cKitchen))

def l_Kitchen__init_0 (cInvalidKitchen cUnknownTool cDish cKitchen : Addr) : Rho → Res D := (vS 5)

def fb_Kitchen__init_2 (cInvalidKitchen cUnknownTool cDish cKitchen : Addr) : Rho → Out := (sSeq (sIf (eOr (eNot (e1 (e1 (aCons (vS 4) aNil) F_is_name) asBl)) (eOr (e2 (vB 4) (vB 3) inSeqB) (e2 (vB 5) (cD (.int 0)) ltB))) (sRaise (mkP cInvalidKitchen)) sNil) (sMut 3 (aCons (vS 4) aNil) appK))

def den_Kitchen__init (cInvalidKitchen cUnknownTool cDish cKitchen : Addr) : Rho → Out :=
  (sSeq (sSetN 3 (eLst aNil)) (sSeq (sFor (e1 (vS 1) seqItems) (gT 2 (gsC (gN 4) (gsC (gN 5) gsN))) (fb_Kitchen__init_2 cInvalidKitchen cUnknownTool cDish cKitchen)) (sSeq (sFldI cKitchen 0 "names" (e1 (aCons (vB 3) aNil) tupKF)) (sSeq (sFldI cKitchen 0 "present" (e1 (aCons (toL (eLc [4, 5] (e1 (vS 1) seqItems) (gT 2 (gsC (gN 4) (gsC (gN 5) gsN))) (l_Kitchen__init_0 cInvalidKitchen cUnknownTool cDish cKitchen))) aNil) tupKF)) (sSeq (sFldI cKitchen 0 "dishes" (e1 (aCons (vB 2) aNil) tupKF)) (sSeq (sFldI cKitchen 0 "longest" (cD (.int 1))) (sFor (e1 (selfF cKitchen 0 "dishes") seqItems) (gN 6) (fb_Kitchen__init_0 cInvalidKitchen cUnknownTool cDish cKitchen))))))))

def F_Kitchen__init (cInvalidKitchen cUnknownTool cDish cKitchen : Addr) : List D → Res (List D) := runMk [true, true] 10 cKitchen fn_Kitchen (den_Kitchen__init cInvalidKitchen cUnknownTool cDish cKitchen)

theorem ok_Kitchen__init {f : Addr} {fd : FuncData} {fd_Kitchen_place_of fd_is_name : FuncData} (F : Fun K "__init__" "Kitchen.__init__" s_Kitchen__init f fd) (T : Txt K mg cInvalidDish cInvalidKitchen cUnknownTool cDish cKitchen iUnknownTool p_Kitchen_horizon p_Kitchen_tools a_w_pick a_w_draw a_w_namelist a_w_rawlist a_w_worth a_w_merge a_w_broad a_Kitchen_place_of a_is_name a_Kitchen__init a_merged a_Dish__init a_w_built a_w_horizon a_w_empty a_w_some_standing a_w_is_integer a_w_is_standing a_w_same a_after_beat a_Kitchen_horizon a_Kitchen_tools a_empty_standing) (H_Kitchen_place_of : FnOk P w K mg base (L2.CX P w) 3 a_Kitchen_place_of fd_Kitchen_place_of ["self", "tool"] (spD K [true, true] (F_Kitchen_place_of cUnknownTool cKitchen))) (B_Kitchen_place_of : Binds K fd_Kitchen_place_of ["self", "tool"] []) (H_is_name : FnOk P w K mg base (L2.CX P w) 1 a_is_name fd_is_name ["text"] (spD K [true] F_is_name)) (B_is_name : Binds K fd_is_name ["text"] []) :
    FnOk P w K mg base (L2.CX P w) 4 f fd ["self", "tools", "menu"] (spMk cKitchen K [true, true] fn_Kitchen (F_Kitchen__init cInvalidKitchen cUnknownTool cDish cKitchen)) :=
  fnMk0 F sc_Kitchen__init rfl fun cdv A outer s H E G hr => by
  exact (jb_cons (js_setN (i := 3) sc_Kitchen__init.nd rfl (by first | exact Or.inl rfl | exact Or.inr rfl) (jn_lst ja_nil))
    (jb_cons (js_for (passes_of rfl) rfl (ji_seq (je_var 1 (pv 1))) (fun _ => (jg_tup rfl (jgs_cons (fun _ => (jg_name (i := 4) sc_Kitchen__init.nd rfl (Or.inl rfl))) (jgs_cons (fun _ => (jg_name (i := 5) sc_Kitchen__init.nd rfl (Or.inl rfl))) jgs_nil)))) (fun _ => (jb_cons (js_if (jt_w (jw_or (jt_not (jt_val (s := false) (je_call H_is_name (hr.mono (by decide)) rfl T.g_is_name T.ka_is_name B_is_name (takes_of rfl rfl rfl rfl) (jf_cons (je_var 4 (pv 4)) jf_nil)))) (jw_or (jt_cmp (s := false) (s' := false) op_in_seq cms_inSeq rfl (je_varB 4 (pv 4)) (je_varB 3 (pv 3))) (jw_or1 (jt_cmp (s := false) (s' := false) op_lt cms_lt (nomark _) (je_varB 5 (pv 5)) je_int))))) (jb_one (js_raise rfl (takes_of rfl rfl rfl rfl) (jm_own PySem.F.excBase_ValueError T.xInvalidKitchen T.g_InvalidKitchen T.kcInvalidKitchen (raises_own T.sbxInvalidKitchen T.tybInvalidKitchen) rfl))) jb_nil)
    (jb_one (js_append 3 (pv 3) (ja_cons (je_var 4 (pv 4)) ja_nil))))))
    (jb_cons (js_fldI 0 T.cl_Kitchen T.na_Kitchen_names (pv 0) (je_tupF rfl T.n_tuple (ja_cons (je_varB 3 (pv 3)) ja_nil)))
    (jb_cons (js_fldI 0 T.cl_Kitchen T.na_Kitchen_present (pv 0) (je_tupF rfl T.n_tuple (ja_cons (je_ofN (jn_lc (own := [("name", 4), ("number", 5)]) (g := (gTup K 2 (gCons (gName 4) (gCons (gName 5) gNil)))) rfl sc_Kitchen__init.nd (ji_seq (je_var 1 (pv 1))) (blkOk_by (N := ["self", "tools", "menu", "names", "name", "number", "dish", "beat", "tool", "amount"]) (sc := defScope s_Kitchen__init) (by decide +kernel)) (tg_tup (tgs_cons (tg_name (by decide)) (tgs_cons (tg_name (by decide)) tgs_nil))) (fun _ _ _ _ _ => (pg_tup rfl (pgs_cons (pg_name (i := 4) sc_Kitchen__init.nd rfl (Or.inl rfl)) (pgs_cons (pg_name (i := 5) sc_Kitchen__init.nd rfl (Or.inl rfl)) pgs_nil)))) (fun _ _ _ _ _ _ => (je_var 5 (pv 5))))) ja_nil)))
    (jb_cons (js_fldI 0 T.cl_Kitchen T.na_Kitchen_dishes (pv 0) (je_tupF rfl T.n_tuple (ja_cons (je_varB 2 (pv 2)) ja_nil)))
    (jb_cons (js_fldI 0 T.cl_Kitchen T.na_Kitchen_longest (pv 0) je_int)
    (jb_one (js_for (passes_of rfl) rfl (ji_seq (je_selfF T.cl_Kitchen T.na_Kitchen_dishes (pv 0))) (fun _ => (jg_name (i := 6) sc_Kitchen__init.nd rfl (Or.inl rfl))) (fun _ => (jb_one (js_for (passes_of rfl) rfl (ji_seq (je_fld T.cl_Dish T.na_Dish_needs (je_var 6 (pv 6)))) (fun _ => (jg_tup rfl (jgs_cons (fun _ => (jg_name (i := 7) sc_Kitchen__init.nd rfl (Or.inl rfl))) (jgs_cons (fun _ => (jg_name (i := 8) sc_Kitchen__init.nd rfl (Or.inl rfl))) (jgs_cons (fun _ => (jg_name (i := 9) sc_Kitchen__init.nd rfl (Or.inl rfl))) jgs_nil))))) (fun _ => (jb_cons (js_expr (s := true) (je_methS T.cl_Kitchen T.me_Kitchen_place_of H_Kitchen_place_of (hr.mono (by decide)) B_Kitchen_place_of (takes_of rfl rfl rfl rfl) (pv 0) (jf_cons (je_var 8 (pv 8)) jf_nil)))
    (jb_one (js_fldU 0 T.cl_Kitchen T.na_Kitchen_longest (pv 0) (je_max rfl (s := false) rfl T.n_max (ja_cons (je_bin (s := false) op_add ops_addI (je_toInt (s := false) rfl T.n_int (ja_cons (je_varB 7 (pv 7)) ja_nil)) je_int) (ja_cons (je_toInt (s := false) rfl T.n_int (ja_cons (je_selfF T.cl_Kitchen T.na_Kitchen_longest (pv 0)) ja_nil)) ja_nil))))))))))))))))))

abbrev s_merged : Stmt := top 14

theorem sc_merged : FnScope ["needs", "result", "beat", "tool", "amount", "place"] ["needs"] (defScope s_merged) := ⟨rfl, rfl, rfl, by decide +kernel, rfl, by decide +kernel, by decide +kernel⟩

def wc_merged_0 : Rho → Res Bool := (eAnd (e2 (vB 5) (e1 (aCons (vB 1) aNil) lenK) ltB) (e2 (eSl (e2 (vB 1) (vB 5) ixD) (fun _ => .ok none) (e1 (e1 (cD (.int 2)) asInt) fun i => .ok (some i)) slTup) (eTup (aCons (vB 2) (aCons (vB 3) aNil))) ltP))
def wb_merged_0 : Rho → Out := (sAug 5 (cD (.int 1)) addI)

def fb_merged_0 : Rho → Out := (sSeq (sSet 5 (cD (.int 0))) (sSeq (whileN 100 wc_merged_0 wb_merged_0) (sIf (eAnd (e2 (vB 5) (e1 (aCons (vB 1) aNil) lenK) ltB) (e2 (eSl (e2 (vB 1) (vB 5) ixD) (fun _ => .ok none) (e1 (e1 (cD (.int 2)) asInt) fun i => .ok (some i)) slTup) (eTup (aCons (vB 2) (aCons (vB 3) aNil))) eqB)) (sPut 1 (eTup (aCons (vS 2) (aCons (vS 3) (aCons (e2 (e2 (e2 (vB 1) (vB 5) ixD) (cD (.int 2)) ixD) (vB 4) addI) aNil)))) (vB 5)) (sMut 1 (aCons (vS 5) (aCons (eTup (aCons (vS 2) (aCons (vS 3) (aCons (vS 4) aNil)))) aNil)) insK))))

def den_merged : Rho → Out :=
  (sSeq (sSetN 1 (eLst aNil)) (sSeq (sFor (boItems 0) (gT 3 (gsC (gN 2) (gsC (gN 3) (gsC (gN 4) gsN)))) fb_merged_0) (sRet (e1 (aCons (vB 1) aNil) tupKF))))

def F_merged : List D → Res D := runD [false] 6 den_merged

theorem ok_merged {f : Addr} {fd : FuncData} (F : Fun K "merged" "merged" s_merged f fd) (T : Txt K mg cInvalidDish cInvalidKitchen cUnknownTool cDish cKitchen iUnknownTool p_Kitchen_horizon p_Kitchen_tools a_w_pick a_w_draw a_w_namelist a_w_rawlist a_w_worth a_w_merge a_w_broad a_Kitchen_place_of a_is_name a_Kitchen__init a_merged a_Dish__init a_w_built a_w_horizon a_w_empty a_w_some_standing a_w_is_integer a_w_is_standing a_w_same a_after_beat a_Kitchen_horizon a_Kitchen_tools a_empty_standing) :
    FnOk P w K mg base (L2.CX P w) 1 f fd ["needs"] (spD K [false] F_merged) :=
  fnD F sc_merged rfl (fun ds => runD_ok _ _ _ ds) fun cdv A outer s H E G hr => by
  exact (jb_cons (js_setN (i := 1) sc_merged.nd rfl (by first | exact Or.inl rfl | exact Or.inr rfl) (jn_lst ja_nil))
    (jb_cons (js_for (passes_of rfl) rfl (ji_bo 0 (pv 0)) (fun _ => (jg_tup rfl (jgs_cons (fun _ => (jg_name (i := 2) sc_merged.nd rfl (Or.inl rfl))) (jgs_cons (fun _ => (jg_name (i := 3) sc_merged.nd rfl (Or.inl rfl))) (jgs_cons (fun _ => (jg_name (i := 4) sc_merged.nd rfl (Or.inl rfl))) jgs_nil))))) (fun _ => (jb_cons (js_set (i := 5) sc_merged.nd rfl (by first | exact Or.inl rfl | exact Or.inr rfl) je_int)
    (jb_cons (js_while 100 (passes_of rfl) (jt_w (jw_and (jt_cmp (s := false) (s' := false) op_lt cms_lt (nomark _) (je_varB 5 (pv 5)) (je_len (s := false) rfl T.n_len (ja_cons (je_varB 1 (pv 1)) ja_nil))) (jw_and1 (jt_cmp (s := false) (s' := false) (op_ltP hr.units0) cms_ltP (nomark _) (je_slT (je_ix (s' := false) (je_varB 1 (pv 1)) (je_varB 5 (pv 5))) jo_none (jo_some (s := false) je_int)) (je_tup (ja_cons (je_varB 2 (pv 2)) (ja_cons (je_varB 3 (pv 3)) ja_nil))))))) (jb_one (js_aug (i := 5) iop_addA ops_addI sc_merged.nd rfl (by first | exact Or.inl rfl | exact Or.inr rfl) je_int)))
    (jb_one (js_if (jt_w (jw_and (jt_cmp (s := false) (s' := false) op_lt cms_lt (nomark _) (je_varB 5 (pv 5)) (je_len (s := false) rfl T.n_len (ja_cons (je_varB 1 (pv 1)) ja_nil))) (jw_and1 (jt_cmp (s := false) (s' := false) (op_eqA hr.units) cms_eq (nomark _) (je_slT (je_ix (s' := false) (je_varB 1 (pv 1)) (je_varB 5 (pv 5))) jo_none (jo_some (s := false) je_int)) (je_tup (ja_cons (je_varB 2 (pv 2)) (ja_cons (je_varB 3 (pv 3)) ja_nil))))))) (jb_one (js_put (s := false) 1 (pv 1) (je_varB 5 (pv 5)) (je_tup (ja_cons (je_var 2 (pv 2)) (ja_cons (je_var 3 (pv 3)) (ja_cons (je_bin (s := false) op_add ops_addI (je_ix (s' := false) (je_ix (s' := false) (je_varB 1 (pv 1)) (je_varB 5 (pv 5))) je_int) (je_varB 4 (pv 4))) ja_nil)))))) (jb_one (js_insert 1 (pv 1) (ja_cons (je_var 5 (pv 5)) (ja_cons (je_tup (ja_cons (je_var 2 (pv 2)) (ja_cons (je_var 3 (pv 3)) (ja_cons (je_var 4 (pv 4)) ja_nil)))) ja_nil))))))))))
    (jb_one (js_ret (je_tupF rfl T.n_tuple (ja_cons (je_varB 1 (pv 1)) ja_nil))))))

abbrev s_Dish__init : Stmt := inClass (top 15) 0

theorem sc_Dish__init : FnScope ["self", "name", "needs", "first", "second", "beat", "tool", "amount"] ["self", "name", "needs", "first", "second"] (defScope s_Dish__init) := ⟨rfl, rfl, rfl, by decide +kernel, rfl, by decide +kernel, by decide +kernel⟩

def fn_Dish : List Str := ["name", "first", "second", "needs"]

def fb_Dish__init_0 (cInvalidDish cDish : Addr) : Rho → Out := (sIf (eOr (e2 (vB 5) (cD (.int 0)) ltB) (eOr (eNot (e1 (e1 (aCons (vS 6) aNil) F_is_name) asBl)) (e2 (vB 7) (cD (.int 1)) ltB))) (sRaise (mkP cInvalidDish)) sNil)

def den_Dish__init (cInvalidDish cDish : Addr) : Rho → Out :=
  (sSeq (sIf (eOr (eNot (e1 (e1 (aCons (vS 1) aNil) F_is_name) asBl)) (e2 (e1 (aCons (vB 2) aNil) lenK) (cD (.int 0)) eqB)) (sRaise (mkP cInvalidDish)) sNil) (sSeq (sFor (boItems 2) (gT 3 (gsC (gN 5) (gsC (gN 6) (gsC (gN 7) gsN)))) (fb_Dish__init_0 cInvalidDish cDish)) (sSeq (sFldI cDish 0 "name" (vS 1)) (sSeq (sFldI cDish 0 "first" (vS 3)) (sSeq (sFldI cDish 0 "second" (vS 4)) (sFldI cDish 0 "needs" (e1 (aCons (vB 2) aNil) F_merged)))))))

def F_Dish__init (cInvalidDish cDish : Addr) : List D → Res (List D) := runMk [true, false, true, true] 8 cDish fn_Dish (den_Dish__init cInvalidDish cDish)

theorem ok_Dish__init {f : Addr} {fd : FuncData} {fd_is_name fd_merged : FuncData} (F : FunD K "__init__" "Dish.__init__" (defArgs s_Dish__init) (defBody s_Dish__init) (defScope s_Dish__init) [] [("first", V.int 0), ("second", V.int 0)] f fd) (T : Txt K mg cInvalidDish cInvalidKitchen cUnknownTool cDish cKitchen iUnknownTool p_Kitchen_horizon p_Kitchen_tools a_w_pick a_w_draw a_w_namelist a_w_rawlist a_w_worth a_w_merge a_w_broad a_Kitchen_place_of a_is_name a_Kitchen__init a_merged a_Dish__init a_w_built a_w_horizon a_w_empty a_w_some_standing a_w_is_integer a_w_is_standing a_w_same a_after_beat a_Kitchen_horizon a_Kitchen_tools a_empty_standing) (H_is_name : FnOk P w K mg base (L2.CX P w) 1 a_is_name fd_is_name ["text"] (spD K [true] F_is_name)) (B_is_name : Binds K fd_is_name ["text"] []) (H_merged : FnOk P w K mg base (L2.CX P w) 1 a_merged fd_merged ["needs"] (spD K [false] F_merged)) (B_merged : Binds K fd_merged ["needs"] []) :
    FnOk P w K mg base (L2.CX P w) 2 f fd ["self", "name", "needs", "first", "second"] (spMk cDish K [true, false, true, true] fn_Dish (F_Dish__init cInvalidDish cDish)) :=
  fnMk F sc_Dish__init rfl fun cdv A outer s H E G hr => by
  exact (jb_cons (js_if (jt_w (jw_or (jt_not (jt_val (s := false) (je_call H_is_name (hr.mono (by decide)) rfl T.g_is_name T.ka_is_name B_is_name (takes_of rfl rfl rfl rfl) (jf_cons (je_var 1 (pv 1)) jf_nil)))) (jw_or1 (jt_cmp (s := false) (s' := false) (op_eqA hr.units) cms_eq (nomark _) (je_len (s := false) rfl T.n_len (ja_cons (je_varB 2 (pv 2)) ja_nil)) je_int)))) (jb_one (js_raise rfl (takes_of rfl rfl rfl rfl) (jm_own PySem.F.excBase_ValueError T.xInvalidDish T.g_InvalidDish T.kcInvalidDish (raises_own T.sbxInvalidDish T.tybInvalidDish) rfl))) jb_nil)
    (jb_cons (js_for (passes_of rfl) rfl (ji_bo 2 (pv 2)) (fun _ => (jg_tup rfl (jgs_cons (fun _ => (jg_name (i := 5) sc_Dish__init.nd rfl (Or.inl rfl))) (jgs_cons (fun _ => (jg_name (i := 6) sc_Dish__init.nd rfl (Or.inl rfl))) (jgs_cons (fun _ => (jg_name (i := 7) sc_Dish__init.nd rfl (Or.inl rfl))) jgs_nil))))) (fun _ => (jb_one (js_if (jt_w (jw_or (jt_cmp (s := false) (s' := false) op_lt cms_lt (nomark _) (je_varB 5 (pv 5)) je_int) (jw_or (jt_not (jt_val (s := false) (je_call H_is_name (hr.mono (by decide)) rfl T.g_is_name T.ka_is_name B_is_name (takes_of rfl rfl rfl rfl) (jf_cons (je_var 6 (pv 6)) jf_nil)))) (jw_or1 (jt_cmp (s := false) (s' := false) op_lt cms_lt (nomark _) (je_varB 7 (pv 7)) je_int))))) (jb_one (js_raise rfl (takes_of rfl rfl rfl rfl) (jm_own PySem.F.excBase_ValueError T.xInvalidDish T.g_InvalidDish T.kcInvalidDish (raises_own T.sbxInvalidDish T.tybInvalidDish) rfl))) jb_nil))))
    (jb_cons (js_fldI 0 T.cl_Dish T.na_Dish_name (pv 0) (je_var 1 (pv 1)))
    (jb_cons (js_fldI 0 T.cl_Dish T.na_Dish_first (pv 0) (je_var 3 (pv 3)))
    (jb_cons (js_fldI 0 T.cl_Dish T.na_Dish_second (pv 0) (je_var 4 (pv 4)))
    (jb_one (js_fldI 0 T.cl_Dish T.na_Dish_needs (pv 0) (je_call H_merged (hr.mono (by decide)) rfl T.g_merged T.ka_merged B_merged (takes_of rfl rfl rfl rfl) (jf_cons (je_varB 2 (pv 2)) jf_nil)))))))))

abbrev s_w_built : Stmt := top 28

theorem sc_w_built : FnScope ["_law_kitchen", "_law_menu", "_law_dish", "_law_k"] ["_law_kitchen"] (defScope s_w_built) := ⟨rfl, rfl, rfl, by decide +kernel, rfl, by decide +kernel, by decide +kernel⟩

def l_w_built_0 (cInvalidDish cInvalidKitchen cUnknownTool cDish cKitchen : Addr) : Rho → Res D := (eTup (aCons (e2 (e2 (vS 0) (cD (.int 0)) ixD) (vB 3) ixD) (aCons (e2 (e2 (vS 0) (cD (.int 1)) ixD) (vB 3) ixD) aNil)))

def l_w_built_1 (cInvalidDish cInvalidKitchen cUnknownTool cDish cKitchen : Addr) : Rho → Res D := (eMk cDish fn_Dish (F_Dish__init cInvalidDish cDish) fun ρ => ((aCons (e2 (vS 2) (cD (.int 0)) ixD) (aCons (toL (e1 (aCons (e2 (vS 2) (cD (.int 3)) ixD) aNil) listK)) aNil)) ρ).bind fun ds => ((aCons (e2 (vS 2) (cD (.int 1)) ixD) (aCons (e2 (vS 2) (cD (.int 2)) ixD) aNil)) ρ).bind fun es => .ok ((fun ds es => ds ++ es) ds es))

def den_w_built (cInvalidDish cInvalidKitchen cUnknownTool cDish cKitchen : Addr) : Rho → Out :=
  (sSeq (sSet 1 (toL (eLc [2] (e1 (e2 (vS 0) (cD (.int 2)) ixD) seqItems) (gN 2) (l_w_built_1 cInvalidDish cInvalidKitchen cUnknownTool cDish cKitchen)))) (sRet (eMk cKitchen fn_Kitchen (F_Kitchen__init cInvalidKitchen cUnknownTool cDish cKitchen) (e1 (aCons (toL (eLc [3] (e1 (aCons (e1 (aCons (e2 (vB 0) (cD (.int 0)) ixD) aNil) lenK) aNil) rg1) (gN 3) (l_w_built_0 cInvalidDish cInvalidKitchen cUnknownTool cDish cKitchen))) (aCons (vS 1) aNil)) fun ds => .ok (ds ++ [])))))

def F_w_built (cInvalidDish cInvalidKitchen cUnknownTool cDish cKitchen : Addr) : List D → Res D := runD [true] 4 (den_w_built cInvalidDish cInvalidKitchen cUnknownTool cDish cKitchen)

theorem ok_w_built {f : Addr} {fd : FuncData} {fd_Dish__init fd_Kitchen__init : FuncData} (F : Fun K "_law_built" "_law_built" s_w_built f fd) (T : Txt K mg cInvalidDish cInvalidKitchen cUnknownTool cDish cKitchen iUnknownTool p_Kitchen_horizon p_Kitchen_tools a_w_pick a_w_draw a_w_namelist a_w_rawlist a_w_worth a_w_merge a_w_broad a_Kitchen_place_of a_is_name a_Kitchen__init a_merged a_Dish__init a_w_built a_w_horizon a_w_empty a_w_some_standing a_w_is_integer a_w_is_standing a_w_same a_after_beat a_Kitchen_horizon a_Kitchen_tools a_empty_standing) (H_Kitchen__init : FnOk P w K mg base (L2.CX P w) 4 a_Kitchen__init fd_Kitchen__init ["self", "tools", "menu"] (spMk cKitchen K [true, true] fn_Kitchen (F_Kitchen__init cInvalidKitchen cUnknownTool cDish cKitchen))) (B_Kitchen__init : Binds K fd_Kitchen__init ["self", "tools", "menu"] []) (H_Dish__init : FnOk P w K mg base (L2.CX P w) 2 a_Dish__init fd_Dish__init ["self", "name", "needs", "first", "second"] (spMk cDish K [true, false, true, true] fn_Dish (F_Dish__init cInvalidDish cDish))) (KB_Dish__init : KBn K fd_Dish__init ["self", "name", "needs", "first", "second"] 3 ["first", "second"] (fun us ws => us ++ ws) (fun vs zs => vs ++ zs)) :
    FnOk P w K mg base (L2.CX P w) 6 f fd ["_law_kitchen"] (spD K [true] (F_w_built cInvalidDish cInvalidKitchen cUnknownTool cDish cKitchen)) :=
  fnD F sc_w_built rfl (fun ds => runD_ok _ _ _ ds) fun cdv A outer s H E G hr => by
  exact (jb_cons (js_setLcS (own := [("_law_dish", 2)]) (g := (gName 2)) 1 rfl sc_w_built.nd rfl rfl (sw_true rfl rfl rfl (by decide +kernel)) (ji_seq (je_ix (s' := false) (je_var 0 (pv 0)) je_int)) (blkOk_by (N := ["_law_kitchen", "_law_menu", "_law_dish", "_law_k"]) (sc := defScope s_w_built) (by decide +kernel)) (tg_name (by decide)) (fun _ _ _ _ _ => (pg_name (i := 2) sc_w_built.nd rfl (Or.inl rfl))) (fun _ _ _ _ _ _ => (je_makeK (s1 := [true, false]) (s2 := [true, true]) (ks := ["first", "second"]) T.mk_Dish H_Dish__init (hr.mono (by decide)) rfl T.g_Dish KB_Dish__init rfl arr_fs takes0 (jf_cons (je_ix (s' := false) (je_var 2 (pv 2)) je_int) (jf_cons (je_ofN (jn_list rfl T.n_list (ja_cons (je_ix (s' := false) (je_var 2 (pv 2)) je_int) ja_nil))) jf_nil)) (jk_cons (je_ix (s' := false) (je_var 2 (pv 2)) je_int) (jk_cons (je_ix (s' := false) (je_var 2 (pv 2)) je_int) jk_nil)))))
    (jb_one (js_ret (je_make (s1 := [true, true]) (s2 := []) T.mk_Kitchen H_Kitchen__init (hr.mono (by decide)) rfl T.g_Kitchen B_Kitchen__init .nil .nil (takes_of rfl rfl rfl rfl) (jf_cons (je_ofN (jn_lc (own := [("_law_k", 3)]) (g := (gName 3)) rfl sc_w_built.nd (ji_range1 (s := false) rfl T.n_range (ja_cons (je_len (s := false) rfl T.n_len (ja_cons (je_ix (s' := false) (je_varB 0 (pv 0)) je_int) ja_nil)) ja_nil)) (blkOk_by (N := ["_law_kitchen", "_law_menu", "_law_dish", "_law_k"]) (sc := defScope s_w_built) (by decide +kernel)) (tg_name (by decide)) (fun _ _ _ _ _ => (pg_name (i := 3) sc_w_built.nd rfl (Or.inl rfl))) (fun _ _ _ _ _ _ => (je_tup (ja_cons (je_ix (s' := false) (je_ix (s' := false) (je_var 0 (pv 0)) je_int) (je_varB 3 (pv 3))) (ja_cons (je_ix (s' := false) (je_ix (s' := false) (je_var 0 (pv 0)) je_int) (je_varB 3 (pv 3))) ja_nil)))))) (jf_cons (je_var 1 (pv 1)) jf_nil))))))

abbrev s_w_horizon : Stmt := top 26

theorem sc_w_horizon : FnScope ["_law_kitchen", "_law_high", "_law_dish", "_law_need"] ["_law_kitchen"] (defScope s_w_horizon) := ⟨rfl, rfl, rfl, by decide +kernel, rfl, by decide +kernel, by decide +kernel⟩

def fb_w_horizon_1 : Rho → Out := (sIf (e2 (e2 (e2 (vB 3) (cD (.int 0)) ixD) (cD (.int 1)) addI) (vB 1) gtB) (sSet 1 (e2 (e2 (vB 3) (cD (.int 0)) ixD) (cD (.int 1)) addI)) sNil)

def fb_w_horizon_0 : Rho → Out := (sFor (e1 (e2 (vS 2) (cD (.int 3)) ixD) seqItems) (gN 3) fb_w_horizon_1)

def den_w_horizon : Rho → Out :=
  (sSeq (sSet 1 (cD (.int 1))) (sSeq (sFor (e1 (e2 (vS 0) (cD (.int 2)) ixD) seqItems) (gN 2) fb_w_horizon_0) (sRet (vS 1))))

def F_w_horizon : List D → Res D := runD [true] 4 den_w_horizon

theorem ok_w_horizon {f : Addr} {fd : FuncData} (F : Fun K "_law_horizon" "_law_horizon" s_w_horizon f fd) (T : Txt K mg cInvalidDish cInvalidKitchen cUnknownTool cDish cKitchen iUnknownTool p_Kitchen_horizon p_Kitchen_tools a_w_pick a_w_draw a_w_namelist a_w_rawlist a_w_worth a_w_merge a_w_broad a_Kitchen_place_of a_is_name a_Kitchen__init a_merged a_Dish__init a_w_built a_w_horizon a_w_empty a_w_some_standing a_w_is_integer a_w_is_standing a_w_same a_after_beat a_Kitchen_horizon a_Kitchen_tools a_empty_standing) :
    FnOk P w K mg base (L2.CX P w) 1 f fd ["_law_kitchen"] (spD K [true] F_w_horizon) :=
  fnD F sc_w_horizon rfl (fun ds => runD_ok _ _ _ ds) fun cdv A outer s H E G hr => by
  exact (jb_cons (js_set (i := 1) sc_w_horizon.nd rfl (by first | exact Or.inl rfl | exact Or.inr rfl) je_int)
    (jb_cons (js_for (passes_of rfl) rfl (ji_seq (je_ix (s' := false) (je_var 0 (pv 0)) je_int)) (fun _ => (jg_name (i := 2) sc_w_horizon.nd rfl (Or.inl rfl))) (fun _ => (jb_one (js_for (passes_of rfl) rfl (ji_seq (je_ix (s' := false) (je_var 2 (pv 2)) je_int)) (fun _ => (jg_name (i := 3) sc_w_horizon.nd rfl (Or.inl rfl))) (fun _ => (jb_one (js_if (jt_cmp (s := false) (s' := false) op_gt cms_gt (nomark _) (je_bin (s := false) op_add ops_addI (je_ix (s' := false) (je_varB 3 (pv 3)) je_int) je_int) (je_varB 1 (pv 1))) (jb_one (js_set (i := 1) sc_w_horizon.nd rfl (by first | exact Or.inl rfl | exact Or.inr rfl) (je_bin (s := false) op_add ops_addI (je_ix (s' := false) (je_varB 3 (pv 3)) je_int) je_int))) jb_nil)))))))
    (jb_one (js_ret (je_var 1 (pv 1))))))

abbrev s_w_empty : Stmt := top 29

theorem sc_w_empty : FnScope ["_law_kitchen", "_law_j", "_law_name"] ["_law_kitchen"] (defScope s_w_empty) := ⟨rfl, rfl, rfl, by decide +kernel, rfl, by decide +kernel, by decide +kernel⟩

def l_w_empty_0 : Rho → Res D := (cD (.int 0))

def l_w_empty_1 : Rho → Res D := (e1 (aCons (toL (eLc [2] (e1 (e2 (vS 0) (cD (.int 0)) ixD) seqItems) (gN 2) l_w_empty_0)) aNil) tupKF)

def den_w_empty : Rho → Out :=
  (sRet (e1 (aCons (toL (eLc [1] (e1 (aCons (e1 (aCons (vS 0) aNil) F_w_horizon) aNil) rg1) (gN 1) l_w_empty_1)) aNil) tupKF))

def F_w_empty : List D → Res D := runD [true] 3 den_w_empty

theorem ok_w_empty {f : Addr} {fd : FuncData} {fd_w_horizon : FuncData} (F : Fun K "_law_empty" "_law_empty" s_w_empty f fd) (T : Txt K mg cInvalidDish cInvalidKitchen cUnknownTool cDish cKitchen iUnknownTool p_Kitchen_horizon p_Kitchen_tools a_w_pick a_w_draw a_w_namelist a_w_rawlist a_w_worth a_w_merge a_w_broad a_Kitchen_place_of a_is_name a_Kitchen__init a_merged a_Dish__init a_w_built a_w_horizon a_w_empty a_w_some_standing a_w_is_integer a_w_is_standing a_w_same a_after_beat a_Kitchen_horizon a_Kitchen_tools a_empty_standing) (H_w_horizon : FnOk P w K mg base (L2.CX P w) 1 a_w_horizon fd_w_horizon ["_law_kitchen"] (spD K [true] F_w_horizon)) (B_w_horizon : Binds K fd_w_horizon ["_law_kitchen"] []) :
    FnOk P w K mg base (L2.CX P w) 2 f fd ["_law_kitchen"] (spD K [true] F_w_empty) :=
  fnD F sc_w_empty rfl (fun ds => runD_ok _ _ _ ds) fun cdv A outer s H E G hr => by
  exact (jb_one (js_ret (je_tupF rfl T.n_tuple (ja_cons (je_ofN (jn_lc (own := [("_law_j", 1)]) (g := (gName 1)) rfl sc_w_empty.nd (ji_range1 (s := false) rfl T.n_range (ja_cons (je_call H_w_horizon (hr.mono (by decide)) rfl T.g__law_horizon T.ka_w_horizon B_w_horizon (takes_of rfl rfl rfl rfl) (jf_cons (je_var 0 (pv 0)) jf_nil)) ja_nil)) (blkOk_by (N := ["_law_kitchen", "_law_j", "_law_name"]) (sc := defScope s_w_empty) (by decide +kernel)) (tg_name (by decide)) (fun _ _ _ _ _ => (pg_name (i := 1) sc_w_empty.nd rfl (Or.inl rfl))) (fun _ _ _ _ _ _ => (je_tupF rfl T.n_tuple (ja_cons (je_ofN (jn_lc (own := [("_law_name", 2)]) (g := (gName 2)) rfl sc_w_empty.nd (ji_seq (je_ix (s' := false) (je_var 0 (pv 0)) je_int)) (blkOk_any (N := ["_law_kitchen", "_law_j", "_law_name"]) (by decide +kernel)) (tg_name (by decide)) (fun _ _ _ _ _ => (pg_name (i := 2) sc_w_empty.nd rfl (Or.inl rfl))) (fun _ _ _ _ _ _ => je_int))) ja_nil))))) ja_nil))))

abbrev s_w_some_standing : Stmt := top 31

theorem sc_w_some_standing : FnScope ["_law_script", "_law_at", "_law_kitchen", "_law_rows", "_law_j", "_law_cell", "_law_row", "_law_k", "_law_wide"] ["_law_script", "_law_at", "_law_kitchen"] (defScope s_w_some_standing) := ⟨rfl, rfl, rfl, by decide +kernel, rfl, by decide +kernel, by decide +kernel⟩

def fb_w_some_standing_1 : Rho → Out := (sSeq (sSet 8 (e2 (toL (eLst (aCons (cD (.int 1)) (aCons (cD (.int 2)) (aCons (cD (.int 3)) (aCons (e2 (e2 (e2 (vB 2) (cD (.int 1)) ixD) (vB 7) ixD) (cD (.int 2)) addI) (aCons (cD (.int 1)) (aCons (cD (.int 100001)) aNil)))))))) (e1 (aCons (vS 5) (aCons (e2 (cD (.int 2)) (vB 7) mulD) (aCons (cD (.int 6)) aNil))) F_w_draw) ixD)) (sMut 6 (aCons (e1 (aCons (vS 5) (aCons (e2 (e2 (cD (.int 2)) (vB 7) mulD) (cD (.int 1)) addI) (aCons (vS 8) aNil))) F_w_draw) aNil) appK))

def fb_w_some_standing_0 : Rho → Out := (sSeq (sSet 5 (e2 (e1 (aCons (vB 0) (aCons (e2 (vB 1) (vB 4) addI) aNil)) F_w_pick) (vB 4) addI)) (sSeq (sSetN 6 (eLst aNil)) (sSeq (sFor (e1 (aCons (e1 (aCons (e2 (vB 2) (cD (.int 0)) ixD) aNil) lenK) aNil) rg1) (gN 7) fb_w_some_standing_1) (sMut 3 (aCons (e1 (aCons (vB 6) aNil) tupKF) aNil) appK))))

def den_w_some_standing : Rho → Out :=
  (sSeq (sSetN 3 (eLst aNil)) (sSeq (sFor (e1 (aCons (e1 (aCons (vS 2) aNil) F_w_horizon) aNil) rg1) (gN 4) fb_w_some_standing_0) (sRet (e1 (aCons (vB 3) aNil) tupKF))))

def F_w_some_standing : List D → Res D := runD [false, true, true] 9 den_w_some_standing

theorem ok_w_some_standing {f : Addr} {fd : FuncData} {fd_w_draw fd_w_horizon fd_w_pick : FuncData} (F : Fun K "_law_some_standing" "_law_some_standing" s_w_some_standing f fd) (T : Txt K mg cInvalidDish cInvalidKitchen cUnknownTool cDish cKitchen iUnknownTool p_Kitchen_horizon p_Kitchen_tools a_w_pick a_w_draw a_w_namelist a_w_rawlist a_w_worth a_w_merge a_w_broad a_Kitchen_place_of a_is_name a_Kitchen__init a_merged a_Dish__init a_w_built a_w_horizon a_w_empty a_w_some_standing a_w_is_integer a_w_is_standing a_w_same a_after_beat a_Kitchen_horizon a_Kitchen_tools a_empty_standing) (H_w_draw : FnOk P w K mg base (L2.CX P w) 1 a_w_draw fd_w_draw ["_law_cell", "_law_k", "_law_many"] (spD K [true, true, true] F_w_draw)) (B_w_draw : Binds K fd_w_draw ["_law_cell", "_law_k", "_law_many"] []) (H_w_horizon : FnOk P w K mg base (L2.CX P w) 1 a_w_horizon fd_w_horizon ["_law_kitchen"] (spD K [true] F_w_horizon)) (B_w_horizon : Binds K fd_w_horizon ["_law_kitchen"] []) (H_w_pick : FnOk P w K mg base (L2.CX P w) 1 a_w_pick fd_w_pick ["_law_script", "_law_k"] (spD K [false, true] F_w_pick)) (B_w_pick : Binds K fd_w_pick ["_law_script", "_law_k"] []) :
    FnOk P w K mg base (L2.CX P w) 2 f fd ["_law_script", "_law_at", "_law_kitchen"] (spD K [false, true, true] F_w_some_standing) :=
  fnD F sc_w_some_standing rfl (fun ds => runD_ok _ _ _ ds) fun cdv A outer s H E G hr => by
  exact (jb_cons (js_setN (i := 3) sc_w_some_standing.nd rfl (by first | exact Or.inl rfl | exact Or.inr rfl) (jn_lst ja_nil))
    (jb_cons (js_for (passes_of rfl) rfl (ji_range1 (s := false) rfl T.n_range (ja_cons (je_call H_w_horizon (hr.mono (by decide)) rfl T.g__law_horizon T.ka_w_horizon B_w_horizon (takes_of rfl rfl rfl rfl) (jf_cons (je_var 2 (pv 2)) jf_nil)) ja_nil)) (fun _ => (jg_name (i := 4) sc_w_some_standing.nd rfl (Or.inl rfl))) (fun _ => (jb_cons (js_set (i := 5) sc_w_some_standing.nd rfl (by first | exact Or.inl rfl | exact Or.inr rfl) (je_bin (s := false) op_add ops_addI (je_call H_w_pick (hr.mono (by decide)) rfl T.g__law_pick T.ka_w_pick B_w_pick (takes_of rfl rfl rfl rfl) (jf_cons (je_varB 0 (pv 0)) (jf_cons (je_bin (s := false) op_add ops_addI (je_varB 1 (pv 1)) (je_varB 4 (pv 4))) jf_nil))) (je_varB 4 (pv 4))))
    (jb_cons (js_setN (i := 6) sc_w_some_standing.nd rfl (by first | exact Or.inl rfl | exact Or.inr rfl) (jn_lst ja_nil))
    (jb_cons (js_for (passes_of rfl) rfl (ji_range1 (s := false) rfl T.n_range (ja_cons (je_len (s := false) rfl T.n_len (ja_cons (je_ix (s' := false) (je_varB 2 (pv 2)) je_int) ja_nil)) ja_nil)) (fun _ => (jg_name (i := 7) sc_w_some_standing.nd rfl (Or.inl rfl))) (fun _ => (jb_cons (js_set (i := 8) sc_w_some_standing.nd rfl (by first | exact Or.inl rfl | exact Or.inr rfl) (je_ix (s' := false) (je_ofN (jn_lst (ja_cons je_int (ja_cons je_int (ja_cons je_int (ja_cons (je_bin (s := false) op_add ops_addI (je_ix (s' := false) (je_ix (s' := false) (je_varB 2 (pv 2)) je_int) (je_varB 7 (pv 7))) je_int) (ja_cons je_int (ja_cons je_int ja_nil)))))))) (je_call H_w_draw (hr.mono (by decide)) rfl T.g__law_draw T.ka_w_draw B_w_draw (takes_of rfl rfl rfl rfl) (jf_cons (je_var 5 (pv 5)) (jf_cons (je_bin (s := false) op_mulA ops_mul je_int (je_varB 7 (pv 7))) (jf_cons je_int jf_nil))))))
    (jb_one (js_append 6 (pv 6) (ja_cons (je_call H_w_draw (hr.mono (by decide)) rfl T.g__law_draw T.ka_w_draw B_w_draw (takes_of rfl rfl rfl rfl) (jf_cons (je_var 5 (pv 5)) (jf_cons (je_bin (s := false) op_add ops_addI (je_bin (s := false) op_mulA ops_mul je_int (je_varB 7 (pv 7))) je_int) (jf_cons (je_var 8 (pv 8)) jf_nil)))) ja_nil))))))
    (jb_one (js_append 3 (pv 3) (ja_cons (je_tupF rfl T.n_tuple (ja_cons (je_varB 6 (pv 6)) ja_nil)) ja_nil))))))))
    (jb_one (js_ret (je_tupF rfl T.n_tuple (ja_cons (je_varB 3 (pv 3)) ja_nil))))))

abbrev s_w_is_integer : Stmt := top 21

theorem sc_w_is_integer : FnScope ["_law_x"] ["_law_x"] (defScope s_w_is_integer) := ⟨rfl, rfl, rfl, by decide +kernel, rfl, by decide +kernel, by decide +kernel⟩

def den_w_is_integer : Rho → Out :=
  (sRet (vAnd (e1 (aCons (vB 0) (aCons (cD (.ty "int")) aNil)) isiK) (vNot (e1 (aCons (vB 0) (aCons (cD (.ty "bool")) aNil)) isiK))))

def F_w_is_integer : List D → Res D := runD [true] 1 den_w_is_integer

theorem ok_w_is_integer {f : Addr} {fd : FuncData} (F : Fun K "_law_is_integer" "_law_is_integer" s_w_is_integer f fd) (T : Txt K mg cInvalidDish cInvalidKitchen cUnknownTool cDish cKitchen iUnknownTool p_Kitchen_horizon p_Kitchen_tools a_w_pick a_w_draw a_w_namelist a_w_rawlist a_w_worth a_w_merge a_w_broad a_Kitchen_place_of a_is_name a_Kitchen__init a_merged a_Dish__init a_w_built a_w_horizon a_w_empty a_w_some_standing a_w_is_integer a_w_is_standing a_w_same a_after_beat a_Kitchen_horizon a_Kitchen_tools a_empty_standing) :
    FnOk P w K mg base (L2.CX P w) 1 f fd ["_law_x"] (spD K [true] F_w_is_integer) :=
  fnD F sc_w_is_integer rfl (fun ds => runD_ok _ _ _ ds) fun cdv A outer s H E G hr => by
  exact (jb_one (js_ret (je_and (s' := false) (je_isi (s := false) rfl T.n_isinstance (ja_cons (je_varB 0 (pv 0)) (ja_cons (je_bltn rfl T.n_int (by decide +kernel)) ja_nil))) (je_one (je_not (s' := false) (je_isi (s := false) rfl T.n_isinstance (ja_cons (je_varB 0 (pv 0)) (ja_cons (je_bltn rfl T.n_bool (by decide +kernel)) ja_nil))))))))

abbrev s_w_is_standing : Stmt := top 30

theorem sc_w_is_standing : FnScope ["_law_standing", "_law_kitchen", "_law_row", "_law_count"] ["_law_standing", "_law_kitchen"] (defScope s_w_is_standing) := ⟨rfl, rfl, rfl, by decide +kernel, rfl, by decide +kernel, by decide +kernel⟩

def fb_w_is_standing_1 : Rho → Out := (sIf (eNot (e1 (e1 (aCons (vS 3) aNil) F_w_is_integer) asBl)) (sRet (cD (.bl false))) sNil)

def fb_w_is_standing_0 : Rho → Out := (sSeq (sIf (eOr (eNot (e1 (e1 (aCons (vB 2) (aCons (cD (.ty "tuple")) aNil)) isiK) asBl)) (e2 (e1 (aCons (vB 2) aNil) lenK) (e1 (aCons (e2 (vB 1) (cD (.int 0)) ixD) aNil) lenK) neB)) (sRet (cD (.bl false))) sNil) (sFor (e1 (vS 2) seqItems) (gN 3) fb_w_is_standing_1))

def den_w_is_standing : Rho → Out :=
  (sSeq (sIf (eOr (eNot (e1 (e1 (aCons (vB 0) (aCons (cD (.ty "tuple")) aNil)) isiK) asBl)) (e2 (e1 (aCons (vB 0) aNil) lenK) (e1 (aCons (vS 1) aNil) F_w_horizon) neB)) (sRet (cD (.bl false))) sNil) (sSeq (sFor (e1 (vS 0) seqItems) (gN 2) fb_w_is_standing_0) (sRet (cD (.bl true)))))

def F_w_is_standing : List D → Res D := runD [true, true] 4 den_w_is_standing

theorem ok_w_is_standing {f : Addr} {fd : FuncData} {fd_w_horizon fd_w_is_integer : FuncData} (F : Fun K "_law_is_standing" "_law_is_standing" s_w_is_standing f fd) (T : Txt K mg cInvalidDish cInvalidKitchen cUnknownTool cDish cKitchen iUnknownTool p_Kitchen_horizon p_Kitchen_tools a_w_pick a_w_draw a_w_namelist a_w_rawlist a_w_worth a_w_merge a_w_broad a_Kitchen_place_of a_is_name a_Kitchen__init a_merged a_Dish__init a_w_built a_w_horizon a_w_empty a_w_some_standing a_w_is_integer a_w_is_standing a_w_same a_after_beat a_Kitchen_horizon a_Kitchen_tools a_empty_standing) (H_w_horizon : FnOk P w K mg base (L2.CX P w) 1 a_w_horizon fd_w_horizon ["_law_kitchen"] (spD K [true] F_w_horizon)) (B_w_horizon : Binds K fd_w_horizon ["_law_kitchen"] []) (H_w_is_integer : FnOk P w K mg base (L2.CX P w) 1 a_w_is_integer fd_w_is_integer ["_law_x"] (spD K [true] F_w_is_integer)) (B_w_is_integer : Binds K fd_w_is_integer ["_law_x"] []) :
    FnOk P w K mg base (L2.CX P w) 2 f fd ["_law_standing", "_law_kitchen"] (spD K [true, true] F_w_is_standing) :=
  fnD F sc_w_is_standing rfl (fun ds => runD_ok _ _ _ ds) fun cdv A outer s H E G hr => by
  exact (jb_cons (js_if (jt_w (jw_or (jt_not (jt_val (s := false) (je_isi (s := false) rfl T.n_isinstance (ja_cons (je_varB 0 (pv 0)) (ja_cons (je_bltn rfl T.n_tuple (by decide +kernel)) ja_nil))))) (jw_or1 (jt_cmp (s := false) (s' := false) (op_neA hr.units) cms_ne (nomark _) (je_len (s := false) rfl T.n_len (ja_cons (je_varB 0 (pv 0)) ja_nil)) (je_call H_w_horizon (hr.mono (by decide)) rfl T.g__law_horizon T.ka_w_horizon B_w_horizon (takes_of rfl rfl rfl rfl) (jf_cons (je_var 1 (pv 1)) jf_nil)))))) (jb_one (js_ret je_bl)) jb_nil)
    (jb_cons (js_for (passes_of rfl) rfl (ji_seq (je_var 0 (pv 0))) (fun _ => (jg_name (i := 2) sc_w_is_standing.nd rfl (Or.inl rfl))) (fun _ => (jb_cons (js_if (jt_w (jw_or (jt_not (jt_val (s := false) (je_isi (s := false) rfl T.n_isinstance (ja_cons (je_varB 2 (pv 2)) (ja_cons (je_bltn rfl T.n_tuple (by decide +kernel)) ja_nil))))) (jw_or1 (jt_cmp (s := false) (s' := false) (op_neA hr.units) cms_ne (nomark _) (je_len (s := false) rfl T.n_len (ja_cons (je_varB 2 (pv 2)) ja_nil)) (je_len (s := false) rfl T.n_len (ja_cons (je_ix (s' := false) (je_varB 1 (pv 1)) je_int) ja_nil)))))) (jb_one (js_ret je_bl)) jb_nil)
    (jb_one (js_for (passes_of rfl) rfl (ji_seq (je_var 2 (pv 2))) (fun _ => (jg_name (i := 3) sc_w_is_standing.nd rfl (Or.inl rfl))) (fun _ => (jb_one (js_if (jt_not (jt_val (s := false) (je_call H_w_is_integer (hr.mono (by decide)) rfl T.g__law_is_integer T.ka_w_is_integer B_w_is_integer (takes_of rfl rfl rfl rfl) (jf_cons (je_var 3 (pv 3)) jf_nil)))) (jb_one (js_ret je_bl)) jb_nil))))))))
    (jb_one (js_ret je_bl))))

abbrev s_w_same : Stmt := top 32

theorem sc_w_same : FnScope ["_law_answer", "_law_wished", "_law_kitchen"] ["_law_answer", "_law_wished", "_law_kitchen"] (defScope s_w_same) := ⟨rfl, rfl, rfl, by decide +kernel, rfl, by decide +kernel, by decide +kernel⟩

def den_w_same : Rho → Out :=
  (sRet (vAnd (e1 (aCons (vS 0) (aCons (vS 2) aNil)) F_w_is_standing) (e1 (e2 (vB 0) (vB 1) eqB) fun b => .ok (.bl b))))

def F_w_same : List D → Res D := runD [true, true, true] 3 den_w_same

theorem ok_w_same {f : Addr} {fd : FuncData} {fd_w_is_standing : FuncData} (F : Fun K "_law_same" "_law_same" s_w_same f fd) (T : Txt K mg cInvalidDish cInvalidKitchen cUnknownTool cDish cKitchen iUnknownTool p_Kitchen_horizon p_Kitchen_tools a_w_pick a_w_draw a_w_namelist a_w_rawlist a_w_worth a_w_merge a_w_broad a_Kitchen_place_of a_is_name a_Kitchen__init a_merged a_Dish__init a_w_built a_w_horizon a_w_empty a_w_some_standing a_w_is_integer a_w_is_standing a_w_same a_after_beat a_Kitchen_horizon a_Kitchen_tools a_empty_standing) (H_w_is_standing : FnOk P w K mg base (L2.CX P w) 2 a_w_is_standing fd_w_is_standing ["_law_standing", "_law_kitchen"] (spD K [true, true] F_w_is_standing)) (B_w_is_standing : Binds K fd_w_is_standing ["_law_standing", "_law_kitchen"] []) :
    FnOk P w K mg base (L2.CX P w) 3 f fd ["_law_answer", "_law_wished", "_law_kitchen"] (spD K [true, true, true] F_w_same) :=
  fnD F sc_w_same rfl (fun ds => runD_ok _ _ _ ds) fun cdv A outer s H E G hr => by
  exact (jb_one (js_ret (je_and (s' := false) (je_call H_w_is_standing (hr.mono (by decide)) rfl T.g__law_is_standing T.ka_w_is_standing B_w_is_standing (takes_of rfl rfl rfl rfl) (jf_cons (je_var 0 (pv 0)) (jf_cons (je_var 2 (pv 2)) jf_nil))) (je_one (je_cmp (s := false) (s' := false) (op_eqA hr.units) cms_eq (nomark _) (je_varB 0 (pv 0)) (je_varB 1 (pv 1)))))))

abbrev s_after_beat : Stmt := top 8

theorem sc_after_beat : FnScope ["standing"] ["standing"] (defScope s_after_beat) := ⟨rfl, rfl, rfl, by decide +kernel, rfl, by decide +kernel, by decide +kernel⟩

def den_after_beat : Rho → Out :=
  (sRet (e2 (eSl (vS 0) (e1 (e1 (cD (.int 1)) asInt) fun i => .ok (some i)) (fun _ => .ok none) slTup) (eTup (aCons (e2 (eTup (aCons (cD (.int 0)) aNil)) (e1 (aCons (e2 (vB 0) (cD (.int 0)) ixD) aNil) lenK) mulT) aNil)) addD))

def F_after_beat : List D → Res D := runD [true] 1 den_after_beat

theorem ok_after_beat {f : Addr} {fd : FuncData} (F : Fun K "after_beat" "after_beat" s_after_beat f fd) (T : Txt K mg cInvalidDish cInvalidKitchen cUnknownTool cDish cKitchen iUnknownTool p_Kitchen_horizon p_Kitchen_tools a_w_pick a_w_draw a_w_namelist a_w_rawlist a_w_worth a_w_merge a_w_broad a_Kitchen_place_of a_is_name a_Kitchen__init a_merged a_Dish__init a_w_built a_w_horizon a_w_empty a_w_some_standing a_w_is_integer a_w_is_standing a_w_same a_after_beat a_Kitchen_horizon a_Kitchen_tools a_empty_standing) :
    FnOk P w K mg base (L2.CX P w) 1 f fd ["standing"] (spD K [true] F_after_beat) :=
  fnD F sc_after_beat rfl (fun ds => runD_ok _ _ _ ds) fun cdv A outer s H E G hr => by
  exact (jb_one (js_ret (je_bin op_addA ops_add (je_slT (je_var 0 (pv 0)) (jo_some (s := false) je_int) jo_none) (je_tup (ja_cons (je_mulT (s' := false) (je_tup (ja_cons je_int ja_nil)) (je_len (s := false) rfl T.n_len (ja_cons (je_ix (s' := false) (je_varB 0 (pv 0)) je_int) ja_nil))) ja_nil)))))

abbrev s_Kitchen_horizon : Stmt := inClass (top 17) 5

theorem sc_Kitchen_horizon : FnScope ["self"] ["self"] (defScope s_Kitchen_horizon) := ⟨rfl, rfl, rfl, by decide +kernel, rfl, by decide +kernel, by decide +kernel⟩

def den_Kitchen_horizon (cKitchen : Addr) : Rho → Out :=
  (sRet (e1 (vS 0) (fldD cKitchen "longest")))

def F_Kitchen_horizon (cKitchen : Addr) : List D → Res D := runD [true] 1 (den_Kitchen_horizon cKitchen)

theorem ok_Kitchen_horizon {f : Addr} {fd : FuncData} (F : Fun K "horizon" "Kitchen.horizon" s_Kitchen_horizon f fd) (T : Txt K mg cInvalidDish cInvalidKitchen cUnknownTool cDish cKitchen iUnknownTool p_Kitchen_horizon p_Kitchen_tools a_w_pick a_w_draw a_w_namelist a_w_rawlist a_w_worth a_w_merge a_w_broad a_Kitchen_place_of a_is_name a_Kitchen__init a_merged a_Dish__init a_w_built a_w_horizon a_w_empty a_w_some_standing a_w_is_integer a_w_is_standing a_w_same a_after_beat a_Kitchen_horizon a_Kitchen_tools a_empty_standing) :
    FnOk P w K mg base (L2.CX P w) 1 f fd ["self"] (spD K [true] (F_Kitchen_horizon cKitchen)) :=
  fnD F sc_Kitchen_horizon rfl (fun ds => runD_ok _ _ _ ds) fun cdv A outer s H E G hr => by
  exact (jb_one (js_ret (je_fld T.cl_Kitchen T.na_Kitchen_longest (je_var 0 (pv 0)))))

abbrev s_Kitchen_tools : Stmt := inClass (top 17) 2

theorem sc_Kitchen_tools : FnScope ["self"] ["self"] (defScope s_Kitchen_tools) := ⟨rfl, rfl, rfl, by decide +kernel, rfl, by decide +kernel, by decide +kernel⟩

def den_Kitchen_tools (cKitchen : Addr) : Rho → Out :=
  (sRet (e1 (vS 0) (fldD cKitchen "names")))

def F_Kitchen_tools (cKitchen : Addr) : List D → Res D := runD [true] 1 (den_Kitchen_tools cKitchen)

theorem ok_Kitchen_tools {f : Addr} {fd : FuncData} (F : Fun K "tools" "Kitchen.tools" s_Kitchen_tools f fd) (T : Txt K mg cInvalidDish cInvalidKitchen cUnknownTool cDish cKitchen iUnknownTool p_Kitchen_horizon p_Kitchen_tools a_w_pick a_w_draw a_w_namelist a_w_rawlist a_w_worth a_w_merge a_w_broad a_Kitchen_place_of a_is_name a_Kitchen__init a_merged a_Dish__init a_w_built a_w_horizon a_w_empty a_w_some_standing a_w_is_integer a_w_is_standing a_w_same a_after_beat a_Kitchen_horizon a_Kitchen_tools a_empty_standing) :
    FnOk P w K mg base (L2.CX P w) 1 f fd ["self"] (spD K [true] (F_Kitchen_tools cKitchen)) :=
  fnD F sc_Kitchen_tools rfl (fun ds => runD_ok _ _ _ ds) fun cdv A outer s H E G hr => by
  exact (jb_one (js_ret (je_fld T.cl_Kitchen T.na_Kitchen_names (je_var 0 (pv 0)))))

abbrev s_empty_standing : Stmt := top 7

theorem sc_empty_standing : FnScope ["kitchen"] ["kitchen"] (defScope s_empty_standing) := ⟨rfl, rfl, rfl, by decide +kernel, rfl, by decide +kernel, by decide +kernel⟩

def den_empty_standing (cKitchen : Addr) : Rho → Out :=
  (sRet (e2 (eTup (aCons (e2 (eTup (aCons (cD (.int 0)) aNil)) (e1 (aCons (e1 (vS 0) fun d => onC cKitchen d (ok1 ((F_Kitchen_tools cKitchen) [d]))) aNil) lenK) mulT) aNil)) (e1 (vS 0) fun d => onC cKitchen d (ok1 ((F_Kitchen_horizon cKitchen) [d]))) mulT))

def F_empty_standing (cKitchen : Addr) : List D → Res D := runD [true] 1 (den_empty_standing cKitchen)

theorem ok_empty_standing {f : Addr} {fd : FuncData} {fd_Kitchen_horizon fd_Kitchen_tools : FuncData} (F : Fun K "empty_standing" "empty_standing" s_empty_standing f fd) (T : Txt K mg cInvalidDish cInvalidKitchen cUnknownTool cDish cKitchen iUnknownTool p_Kitchen_horizon p_Kitchen_tools a_w_pick a_w_draw a_w_namelist a_w_rawlist a_w_worth a_w_merge a_w_broad a_Kitchen_place_of a_is_name a_Kitchen__init a_merged a_Dish__init a_w_built a_w_horizon a_w_empty a_w_some_standing a_w_is_integer a_w_is_standing a_w_same a_after_beat a_Kitchen_horizon a_Kitchen_tools a_empty_standing) (H_Kitchen_horizon : FnOk P w K mg base (L2.CX P w) 1 a_Kitchen_horizon fd_Kitchen_horizon ["self"] (spD K [true] (F_Kitchen_horizon cKitchen))) (B_Kitchen_horizon : Binds K fd_Kitchen_horizon ["self"] []) (H_Kitchen_tools : FnOk P w K mg base (L2.CX P w) 1 a_Kitchen_tools fd_Kitchen_tools ["self"] (spD K [true] (F_Kitchen_tools cKitchen))) (B_Kitchen_tools : Binds K fd_Kitchen_tools ["self"] []) :
    FnOk P w K mg base (L2.CX P w) 3 f fd ["kitchen"] (spD K [true] (F_empty_standing cKitchen)) :=
  fnD F sc_empty_standing rfl (fun ds => runD_ok _ _ _ ds) fun cdv A outer s H E G hr => by
  exact (jb_one (js_ret (je_mulT (s' := false) (je_tup (ja_cons (je_mulT (s' := false) (je_tup (ja_cons je_int ja_nil)) (je_len (s := false) rfl T.n_len (ja_cons (je_prop T.cl_Kitchen T.pr_Kitchen_tools H_Kitchen_tools (hr.mono (by decide)) B_Kitchen_tools (je_var 0 (pv 0))) ja_nil))) ja_nil)) (je_prop T.cl_Kitchen T.pr_Kitchen_horizon H_Kitchen_horizon (hr.mono (by decide)) B_Kitchen_horizon (je_var 0 (pv 0))))))

abbrev s_law : Stmt := top 33

theorem sc_law : FnScope ["_law_script", "_law_kitchen", "_law_room", "_law_empty_here", "_law_standing", "_law_later", "_law_beat", "_law_wished"] ["_law_script"] (defScope s_law) := ⟨rfl, rfl, rfl, by decide +kernel, rfl, by decide +kernel, by decide +kernel⟩

def fb_law_0 (cInvalidDish cInvalidKitchen cUnknownTool cDish cKitchen : Addr) : Rho → Out := (sSeq (sSet 7 (e2 (eSl (vS 4) (e1 (e1 (e2 (vB 6) (cD (.int 1)) addI) asInt) fun i => .ok (some i)) (fun _ => .ok none) slTup) (eSl (vS 3) (fun _ => .ok none) (e1 (e1 (e2 (vB 6) (cD (.int 1)) addI) asInt) fun i => .ok (some i)) slTup) addD)) (sSeq (sSet 5 (e1 (aCons (vS 5) aNil) F_after_beat)) (sIf (eNot (e1 (e1 (aCons (vS 5) (aCons (vS 7) (aCons (vS 1) aNil))) F_w_same) asBl)) (sRet (cD (.bl false))) sNil)))

def den_law (cInvalidDish cInvalidKitchen cUnknownTool cDish cKitchen : Addr) : Rho → Out :=
  (sSeq (sSet 1 (toL (e1 (e1 (aCons (vB 0) (aCons (cD (.int 0)) aNil)) F_w_broad) asLst))) (sSeq (sSet 2 (e1 (aCons (vS 1) aNil) (F_w_built cInvalidDish cInvalidKitchen cUnknownTool cDish cKitchen))) (sSeq (sSet 3 (e1 (aCons (vS 1) aNil) F_w_empty)) (sSeq (sIf (eNot (e1 (e1 (aCons (e1 (aCons (vS 2) aNil) (F_empty_standing cKitchen)) (aCons (vS 3) (aCons (vS 1) aNil))) F_w_same) asBl)) (sRet (cD (.bl false))) sNil) (sSeq (sSet 4 (e1 (aCons (vB 0) (aCons (cD (.int 5)) (aCons (vS 1) aNil))) F_w_some_standing)) (sSeq (sSet 5 (vS 4)) (sSeq (sFor (e1 (aCons (e1 (aCons (vB 4) aNil) lenK) aNil) rg1) (gN 6) (fb_law_0 cInvalidDish cInvalidKitchen cUnknownTool cDish cKitchen)) (sSeq (sIf (eOr (e2 (vB 5) (vB 3) neB) (eNot (e1 (e1 (aCons (e1 (aCons (vS 3) aNil) F_after_beat) (aCons (vS 3) (aCons (vS 1) aNil))) F_w_same) asBl))) (sRet (cD (.bl false))) sNil) (sRet (e1 (aCons (e1 (aCons (vS 4) aNil) F_after_beat) (aCons (e2 (eSl (vS 4) (e1 (e1 (cD (.int 1)) asInt) fun i => .ok (some i)) (fun _ => .ok none) slTup) (eSl (vS 3) (fun _ => .ok none) (e1 (e1 (cD (.int 1)) asInt) fun i => .ok (some i)) slTup) addD) (aCons (vS 1) aNil))) F_w_same))))))))))

def F_law (cInvalidDish cInvalidKitchen cUnknownTool cDish cKitchen : Addr) : List D → Res D := runD [false] 8 (den_law cInvalidDish cInvalidKitchen cUnknownTool cDish cKitchen)

theorem ok_law {f : Addr} {fd : FuncData} {fd_after_beat fd_empty_standing fd_w_broad fd_w_built fd_w_empty fd_w_same fd_w_some_standing : FuncData} (F : Fun K "law" "law" s_law f fd) (T : Txt K mg cInvalidDish cInvalidKitchen cUnknownTool cDish cKitchen iUnknownTool p_Kitchen_horizon p_Kitchen_tools a_w_pick a_w_draw a_w_namelist a_w_rawlist a_w_worth a_w_merge a_w_broad a_Kitchen_place_of a_is_name a_Kitchen__init a_merged a_Dish__init a_w_built a_w_horizon a_w_empty a_w_some_standing a_w_is_integer a_w_is_standing a_w_same a_after_beat a_Kitchen_horizon a_Kitchen_tools a_empty_standing) (H_w_broad : FnOk P w K mg base (L2.CX P w) 3 a_w_broad fd_w_broad ["_law_script", "_law_least"] (spD K [false, true] F_w_broad)) (B_w_broad : Binds K fd_w_broad ["_law_script", "_law_least"] []) (H_w_built : FnOk P w K mg base (L2.CX P w) 6 a_w_built fd_w_built ["_law_kitchen"] (spD K [true] (F_w_built cInvalidDish cInvalidKitchen cUnknownTool cDish cKitchen))) (B_w_built : Binds K fd_w_built ["_law_kitchen"] []) (H_w_empty : FnOk P w K mg base (L2.CX P w) 2 a_w_empty fd_w_empty ["_law_kitchen"] (spD K [true] F_w_empty)) (B_w_empty : Binds K fd_w_empty ["_law_kitchen"] []) (H_w_same : FnOk P w K mg base (L2.CX P w) 3 a_w_same fd_w_same ["_law_answer", "_law_wished", "_law_kitchen"] (spD K [true, true, true] F_w_same)) (B_w_same : Binds K fd_w_same ["_law_answer", "_law_wished", "_law_kitchen"] []) (H_w_some_standing : FnOk P w K mg base (L2.CX P w) 2 a_w_some_standing fd_w_some_standing ["_law_script", "_law_at", "_law_kitchen"] (spD K [false, true, true] F_w_some_standing)) (B_w_some_standing : Binds K fd_w_some_standing ["_law_script", "_law_at", "_law_kitchen"] []) (H_after_beat : FnOk P w K mg base (L2.CX P w) 1 a_after_beat fd_after_beat ["standing"] (spD K [true] F_after_beat)) (B_after_beat : Binds K fd_after_beat ["standing"] []) (H_empty_standing : FnOk P w K mg base (L2.CX P w) 3 a_empty_standing fd_empty_standing ["kitchen"] (spD K [true] (F_empty_standing cKitchen))) (B_empty_standing : Binds K fd_empty_standing ["kitchen"] []) :
    FnOk P w K mg base (L2.CX P w) 7 f fd ["_law_script"] (spD K [false] (F_law cInvalidDish cInvalidKitchen cUnknownTool cDish cKitchen)) :=
  fnD F sc_law rfl (fun ds => runD_ok _ _ _ ds) fun cdv A outer s H E G hr => by
  exact (jb_cons (js_set (i := 1) sc_law.nd rfl (by first | exact Or.inl rfl | exact Or.inr rfl) (je_ofN (jn_call H_w_broad (hr.mono (by decide)) rfl T.g__law_broad T.ka_w_broad B_w_broad (takes_of rfl rfl rfl rfl) (jf_cons (je_varB 0 (pv 0)) (jf_cons je_int jf_nil)))))
    (jb_cons (js_set (i := 2) sc_law.nd rfl (by first | exact Or.inl rfl | exact Or.inr rfl) (je_call H_w_built (hr.mono (by decide)) rfl T.g__law_built T.ka_w_built B_w_built (takes_of rfl rfl rfl rfl) (jf_cons (je_var 1 (pv 1)) jf_nil)))
    (jb_cons (js_set (i := 3) sc_law.nd rfl (by first | exact Or.inl rfl | exact Or.inr rfl) (je_call H_w_empty (hr.mono (by decide)) rfl T.g__law_empty T.ka_w_empty B_w_empty (takes_of rfl rfl rfl rfl) (jf_cons (je_var 1 (pv 1)) jf_nil)))
    (jb_cons (js_if (jt_not (jt_val (s := false) (je_call H_w_same (hr.mono (by decide)) rfl T.g__law_same T.ka_w_same B_w_same (takes_of rfl rfl rfl rfl) (jf_cons (je_call H_empty_standing (hr.mono (by decide)) rfl T.g_empty_standing T.ka_empty_standing B_empty_standing (takes_of rfl rfl rfl rfl) (jf_cons (je_var 2 (pv 2)) jf_nil)) (jf_cons (je_var 3 (pv 3)) (jf_cons (je_var 1 (pv 1)) jf_nil)))))) (jb_one (js_ret je_bl)) jb_nil)
    (jb_cons (js_set (i := 4) sc_law.nd rfl (by first | exact Or.inl rfl | exact Or.inr rfl) (je_call H_w_some_standing (hr.mono (by decide)) rfl T.g__law_some_standing T.ka_w_some_standing B_w_some_standing (takes_of rfl rfl rfl rfl) (jf_cons (je_varB 0 (pv 0)) (jf_cons je_int (jf_cons (je_var 1 (pv 1)) jf_nil)))))
    (jb_cons (js_set (i := 5) sc_law.nd rfl (by first | exact Or.inl rfl | exact Or.inr rfl) (je_var 4 (pv 4)))
    (jb_cons (js_for (passes_of rfl) rfl (ji_range1 (s := false) rfl T.n_range (ja_cons (je_len (s := false) rfl T.n_len (ja_cons (je_varB 4 (pv 4)) ja_nil)) ja_nil)) (fun _ => (jg_name (i := 6) sc_law.nd rfl (Or.inl rfl))) (fun _ => (jb_cons (js_set (i := 7) sc_law.nd rfl (by first | exact Or.inl rfl | exact Or.inr rfl) (je_bin op_addA ops_add (je_slT (je_var 4 (pv 4)) (jo_some (s := false) (je_bin (s := false) op_add ops_addI (je_varB 6 (pv 6)) je_int)) jo_none) (je_slT (je_var 3 (pv 3)) jo_none (jo_some (s := false) (je_bin (s := false) op_add ops_addI (je_varB 6 (pv 6)) je_int)))))
    (jb_cons (js_set (i := 5) sc_law.nd rfl (by first | exact Or.inl rfl | exact Or.inr rfl) (je_call H_after_beat (hr.mono (by decide)) rfl T.g_after_beat T.ka_after_beat B_after_beat (takes_of rfl rfl rfl rfl) (jf_cons (je_var 5 (pv 5)) jf_nil)))
    (jb_one (js_if (jt_not (jt_val (s := false) (je_call H_w_same (hr.mono (by decide)) rfl T.g__law_same T.ka_w_same B_w_same (takes_of rfl rfl rfl rfl) (jf_cons (je_var 5 (pv 5)) (jf_cons (je_var 7 (pv 7)) (jf_cons (je_var 1 (pv 1)) jf_nil)))))) (jb_one (js_ret je_bl)) jb_nil))))))
    (jb_cons (js_if (jt_w (jw_or (jt_cmp (s := false) (s' := false) (op_neA hr.units) cms_ne (nomark _) (je_varB 5 (pv 5)) (je_varB 3 (pv 3))) (jw_or1 (jt_not (jt_val (s := false) (je_call H_w_same (hr.mono (by decide)) rfl T.g__law_same T.ka_w_same B_w_same (takes_of rfl rfl rfl rfl) (jf_cons (je_call H_after_beat (hr.mono (by decide)) rfl T.g_after_beat T.ka_after_beat B_after_beat (takes_of rfl rfl rfl rfl) (jf_cons (je_var 3 (pv 3)) jf_nil)) (jf_cons (je_var 3 (pv 3)) (jf_cons (je_var 1 (pv 1)) jf_nil))))))))) (jb_one (js_ret je_bl)) jb_nil)
    (jb_one (js_ret (je_call H_w_same (hr.mono (by decide)) rfl T.g__law_same T.ka_w_same B_w_same (takes_of rfl rfl rfl rfl) (jf_cons (je_call H_after_beat (hr.mono (by decide)) rfl T.g_after_beat T.ka_after_beat B_after_beat (takes_of rfl rfl rfl rfl) (jf_cons (je_var 4 (pv 4)) jf_nil)) (jf_cons (je_bin op_addA ops_add (je_slT (je_var 4 (pv 4)) (jo_some (s := false) je_int) jo_none) (je_slT (je_var 3 (pv 3)) jo_none (jo_some (s := false) je_int))) (jf_cons (je_var 1 (pv 1)) jf_nil))))))))))))))

end
theorem all_mk {l : PySem.W.OpenLaw} {w : World} {K : PySem.W.Frag} {h : Heap} {mg : Str → Option Value} {fa cInvalidDish cInvalidKitchen cUnknownTool cDish cKitchen iUnknownTool p_Kitchen_horizon p_Kitchen_tools a_w_pick a_w_draw a_w_namelist a_w_rawlist a_w_worth a_w_merge a_w_broad a_Kitchen_place_of a_is_name a_Kitchen__init a_merged a_Dish__init a_w_built a_w_horizon a_w_empty a_w_some_standing a_w_is_integer a_w_is_standing a_w_same a_after_beat a_Kitchen_horizon a_Kitchen_tools a_empty_standing : Addr} (hl : l.prog = PySem.Challenge.pw_mixpace_k13_empty_standing_and_beat) (X : K.In h) (G : h.Ns mainGlobals mg) (hfa : mg "law" = some (.ref fa))
    {t_LETTERS : Tok}
    {t_LONGEST_NAME : Tok}
    {rs_Kitchen_tools : List Value}
    {rs_Kitchen_horizon : List Value}
    {nmUnknownTool qUnknownTool : Str} {NUnknownTool : Addr} {bsUnknownTool bmUnknownTool : List Value} {snUnknownTool : List Str} {suUnknownTool : List Value} {abUnknownTool : Bool} {colUnknownTool : Option Bool} {ddUnknownTool : Option Addr} {m0UnknownTool m1UnknownTool m2UnknownTool m3UnknownTool m5UnknownTool : Option Value}
    {ccUnknownTool cdUnknownTool : Addr} {odUnknownTool cddUnknownTool codUnknownTool : Option Addr} {slUnknownTool csUnknownTool cosUnknownTool : Array (Option Value)} {ocUnknownTool dcUnknownTool pmUnknownTool ctUnknownTool cclUnknownTool clUnknownTool : Value} {vsUnknownTool : Array Value} {fiUnknownTool : Str} {tfUnknownTool : Tok}
    {od_w_pick an_w_pick : Option Addr} {sl_w_pick : Array (Option Value)} {oc_w_pick kV_w_pick dc_w_pick pm_w_pick cd_w_pick ct_w_pick : Value}
    {od_w_draw an_w_draw : Option Addr} {sl_w_draw : Array (Option Value)} {oc_w_draw kV_w_draw dc_w_draw pm_w_draw cd_w_draw ct_w_draw : Value}
    {od_w_namelist an_w_namelist : Option Addr} {sl_w_namelist : Array (Option Value)} {oc_w_namelist kV_w_namelist dc_w_namelist pm_w_namelist cd_w_namelist ct_w_namelist : Value}
    {od_w_rawlist an_w_rawlist : Option Addr} {sl_w_rawlist : Array (Option Value)} {oc_w_rawlist kV_w_rawlist dc_w_rawlist pm_w_rawlist cd_w_rawlist ct_w_rawlist : Value}
    {od_w_worth an_w_worth : Option Addr} {sl_w_worth : Array (Option Value)} {oc_w_worth kV_w_worth dc_w_worth pm_w_worth cd_w_worth ct_w_worth : Value}
    {od_w_merge an_w_merge : Option Addr} {sl_w_merge : Array (Option Value)} {oc_w_merge kV_w_merge dc_w_merge pm_w_merge cd_w_merge ct_w_merge : Value}
    {od_w_broad an_w_broad : Option Addr} {sl_w_broad : Array (Option Value)} {oc_w_broad kV_w_broad dc_w_broad pm_w_broad cd_w_broad ct_w_broad : Value}
    {od_Kitchen_place_of an_Kitchen_place_of : Option Addr} {sl_Kitchen_place_of : Array (Option Value)} {oc_Kitchen_place_of kV_Kitchen_place_of dc_Kitchen_place_of pm_Kitchen_place_of cd_Kitchen_place_of ct_Kitchen_place_of : Value}
    {od_is_name an_is_name : Option Addr} {sl_is_name : Array (Option Value)} {oc_is_name kV_is_name dc_is_name pm_is_name cd_is_name ct_is_name : Value}
    {od_Kitchen__init an_Kitchen__init : Option Addr} {sl_Kitchen__init : Array (Option Value)} {oc_Kitchen__init kV_Kitchen__init dc_Kitchen__init pm_Kitchen__init cd_Kitchen__init ct_Kitchen__init : Value}
    {od_merged an_merged : Option Addr} {sl_merged : Array (Option Value)} {oc_merged kV_merged dc_merged pm_merged cd_merged ct_merged : Value}
    {od_Dish__init an_Dish__init : Option Addr} {sl_Dish__init : Array (Option Value)} {oc_Dish__init dc_Dish__init pm_Dish__init cd_Dish__init ct_Dish__init : Value}
    {D_Dish__init : Addr} {t_Dish__init_first : Tok} {t_Dish__init_second : Tok}
    {od_w_built an_w_built : Option Addr} {sl_w_built : Array (Option Value)} {oc_w_built kV_w_built dc_w_built pm_w_built cd_w_built ct_w_built : Value}
    {od_w_horizon an_w_horizon : Option Addr} {sl_w_horizon : Array (Option Value)} {oc_w_horizon kV_w_horizon dc_w_horizon pm_w_horizon cd_w_horizon ct_w_horizon : Value}
    {od_w_empty an_w_empty : Option Addr} {sl_w_empty : Array (Option Value)} {oc_w_empty kV_w_empty dc_w_empty pm_w_empty cd_w_empty ct_w_empty : Value}
    {od_w_some_standing an_w_some_standing : Option Addr} {sl_w_some_standing : Array (Option Value)} {oc_w_some_standing kV_w_some_standing dc_w_some_standing pm_w_some_standing cd_w_some_standing ct_w_some_standing : Value}
    {od_w_is_integer an_w_is_integer : Option Addr} {sl_w_is_integer : Array (Option Value)} {oc_w_is_integer kV_w_is_integer dc_w_is_integer pm_w_is_integer cd_w_is_integer ct_w_is_integer : Value}
    {od_w_is_standing an_w_is_standing : Option Addr} {sl_w_is_standing : Array (Option Value)} {oc_w_is_standing kV_w_is_standing dc_w_is_standing pm_w_is_standing cd_w_is_standing ct_w_is_standing : Value}
    {od_w_same an_w_same : Option Addr} {sl_w_same : Array (Option Value)} {oc_w_same kV_w_same dc_w_same pm_w_same cd_w_same ct_w_same : Value}
    {od_after_beat an_after_beat : Option Addr} {sl_after_beat : Array (Option Value)} {oc_after_beat kV_after_beat dc_after_beat pm_after_beat cd_after_beat ct_after_beat : Value}
    {od_Kitchen_horizon an_Kitchen_horizon : Option Addr} {sl_Kitchen_horizon : Array (Option Value)} {oc_Kitchen_horizon kV_Kitchen_horizon dc_Kitchen_horizon pm_Kitchen_horizon cd_Kitchen_horizon ct_Kitchen_horizon : Value}
    {od_Kitchen_tools an_Kitchen_tools : Option Addr} {sl_Kitchen_tools : Array (Option Value)} {oc_Kitchen_tools kV_Kitchen_tools dc_Kitchen_tools pm_Kitchen_tools cd_Kitchen_tools ct_Kitchen_tools : Value}
    {od_empty_standing an_empty_standing : Option Addr} {sl_empty_standing : Array (Option Value)} {oc_empty_standing kV_empty_standing dc_empty_standing pm_empty_standing cd_empty_standing ct_empty_standing : Value}
    {od_law an_law : Option Addr} {sl_law : Array (Option Value)} {oc_law kV_law dc_law pm_law cd_law ct_law : Value}
    (zcDish : PySem.W.nsIn K mainGlobals "Dish" = some (some (.ref cDish)))
    (zcInvalidDish : PySem.W.nsIn K mainGlobals "InvalidDish" = some (some (.ref cInvalidDish)))
    (zcInvalidKitchen : PySem.W.nsIn K mainGlobals "InvalidKitchen" = some (some (.ref cInvalidKitchen)))
    (zcKitchen : PySem.W.nsIn K mainGlobals "Kitchen" = some (some (.ref cKitchen)))
    (z_LETTERS : PySem.W.nsIn K mainGlobals "LETTERS" = some (some (.str "abcdefghijklmnopqrstuvwxyz" t_LETTERS)))
    (z_LONGEST_NAME : PySem.W.nsIn K mainGlobals "LONGEST_NAME" = some (some (.int 12 t_LONGEST_NAME)))
    (zcUnknownTool : PySem.W.nsIn K mainGlobals "UnknownTool" = some (some (.ref cUnknownTool)))
    (za_w_broad : PySem.W.nsIn K mainGlobals "_law_broad" = some (some (.ref a_w_broad)))
    (za_w_built : PySem.W.nsIn K mainGlobals "_law_built" = some (some (.ref a_w_built)))
    (za_w_draw : PySem.W.nsIn K mainGlobals "_law_draw" = some (some (.ref a_w_draw)))
    (za_w_empty : PySem.W.nsIn K mainGlobals "_law_empty" = some (some (.ref a_w_empty)))
    (za_w_horizon : PySem.W.nsIn K mainGlobals "_law_horizon" = some (some (.ref a_w_horizon)))
    (za_w_is_integer : PySem.W.nsIn K mainGlobals "_law_is_integer" = some (some (.ref a_w_is_integer)))
    (za_w_is_standing : PySem.W.nsIn K mainGlobals "_law_is_standing" = some (some (.ref a_w_is_standing)))
    (za_w_merge : PySem.W.nsIn K mainGlobals "_law_merge" = some (some (.ref a_w_merge)))
    (za_w_namelist : PySem.W.nsIn K mainGlobals "_law_namelist" = some (some (.ref a_w_namelist)))
    (za_w_pick : PySem.W.nsIn K mainGlobals "_law_pick" = some (some (.ref a_w_pick)))
    (za_w_rawlist : PySem.W.nsIn K mainGlobals "_law_rawlist" = some (some (.ref a_w_rawlist)))
    (za_w_same : PySem.W.nsIn K mainGlobals "_law_same" = some (some (.ref a_w_same)))
    (za_w_some_standing : PySem.W.nsIn K mainGlobals "_law_some_standing" = some (some (.ref a_w_some_standing)))
    (za_w_worth : PySem.W.nsIn K mainGlobals "_law_worth" = some (some (.ref a_w_worth)))
    (za_after_beat : PySem.W.nsIn K mainGlobals "after_beat" = some (some (.ref a_after_beat)))
    (za_empty_standing : PySem.W.nsIn K mainGlobals "empty_standing" = some (some (.ref a_empty_standing)))
    (za_is_name : PySem.W.nsIn K mainGlobals "is_name" = some (some (.ref a_is_name)))
    (za_merged : PySem.W.nsIn K mainGlobals "merged" = some (some (.ref a_merged)))
    (z_bool : PySem.W.nsIn K mainGlobals "bool" = some none)
    (z_enumerate : PySem.W.nsIn K mainGlobals "enumerate" = some none)
    (z_int : PySem.W.nsIn K mainGlobals "int" = some none)
    (z_isinstance : PySem.W.nsIn K mainGlobals "isinstance" = some none)
    (z_len : PySem.W.nsIn K mainGlobals "len" = some none)
    (z_list : PySem.W.nsIn K mainGlobals "list" = some none)
    (z_max : PySem.W.nsIn K mainGlobals "max" = some none)
    (z_min : PySem.W.nsIn K mainGlobals "min" = some none)
    (z_range : PySem.W.nsIn K mainGlobals "range" = some none)
    (z_tuple : PySem.W.nsIn K mainGlobals "tuple" = some none)
    (za_law : PySem.W.nsIn K mainGlobals "law" = some (some (.ref a_law)))
    (iCUnknownTool : PySem.W.findIn K (.ref cUnknownTool) "__init__" = some (some (.ref iUnknownTool)))
    (f_Kitchen_place_of : PySem.W.findIn K (.ref cKitchen) "place_of" = some (some (.ref a_Kitchen_place_of)))
    (f_Dish__init : PySem.W.findIn K (.ref cDish) "__init__" = some (some (.ref a_Dish__init)))
    (f_Kitchen__init : PySem.W.findIn K (.ref cKitchen) "__init__" = some (some (.ref a_Kitchen__init)))
    (p1_Kitchen_horizon : PySem.W.findIn K (.ref cKitchen) "horizon" = some (some (.ref p_Kitchen_horizon)))
    (p4_Kitchen_horizon : PySem.W.recIn K p_Kitchen_horizon "property" = some (.ref a_Kitchen_horizon :: rs_Kitchen_horizon))
    (p1_Kitchen_tools : PySem.W.findIn K (.ref cKitchen) "tools" = some (some (.ref p_Kitchen_tools)))
    (p4_Kitchen_tools : PySem.W.recIn K p_Kitchen_tools "property" = some (.ref a_Kitchen_tools :: rs_Kitchen_tools))
    (pgDish : PySem.W.plainGet K cDish Str.empty = true)
    (hdDish : PySem.W.hasDictIn K cDish = true)
    (poDish : PySem.W.plainOver K cDish = true)
    (saDish : PySem.W.findIn K (.ref cDish) "__setattr__" = some (some (.builtin "object.__setattr__")))
    (pgKitchen : PySem.W.plainGet K cKitchen Str.empty = true)
    (hdKitchen : PySem.W.hasDictIn K cKitchen = true)
    (poKitchen : PySem.W.plainOver K cKitchen = true)
    (saKitchen : PySem.W.findIn K (.ref cKitchen) "__setattr__" = some (some (.builtin "object.__setattr__")))
    (kpa_after_beat : PySem.W.keepIn K (.ref a_after_beat) = true)
    (kpa_empty_standing : PySem.W.keepIn K (.ref a_empty_standing) = true)
    (kpa_is_name : PySem.W.keepIn K (.ref a_is_name) = true)
    (kpa_merged : PySem.W.keepIn K (.ref a_merged) = true)
    (kpa_w_broad : PySem.W.keepIn K (.ref a_w_broad) = true)
    (kpa_w_built : PySem.W.keepIn K (.ref a_w_built) = true)
    (kpa_w_draw : PySem.W.keepIn K (.ref a_w_draw) = true)
    (kpa_w_empty : PySem.W.keepIn K (.ref a_w_empty) = true)
    (kpa_w_horizon : PySem.W.keepIn K (.ref a_w_horizon) = true)
    (kpa_w_is_integer : PySem.W.keepIn K (.ref a_w_is_integer) = true)
    (kpa_w_is_standing : PySem.W.keepIn K (.ref a_w_is_standing) = true)
    (kpa_w_merge : PySem.W.keepIn K (.ref a_w_merge) = true)
    (kpa_w_namelist : PySem.W.keepIn K (.ref a_w_namelist) = true)
    (kpa_w_pick : PySem.W.keepIn K (.ref a_w_pick) = true)
    (kpa_w_rawlist : PySem.W.keepIn K (.ref a_w_rawlist) = true)
    (kpa_w_same : PySem.W.keepIn K (.ref a_w_same) = true)
    (kpa_w_some_standing : PySem.W.keepIn K (.ref a_w_some_standing) = true)
    (kpa_w_worth : PySem.W.keepIn K (.ref a_w_worth) = true)
    (kpcInvalidDish : PySem.W.keepIn K (.ref cInvalidDish) = true)
    (kpcInvalidKitchen : PySem.W.keepIn K (.ref cInvalidKitchen) = true)
    (b_Kitchen_place_of : PySem.W.isFn K (.ref a_Kitchen_place_of) = true)
    (kpa_Kitchen_place_of : PySem.W.keepIn K (.ref a_Kitchen_place_of) = true)
    (m1Dish : PySem.W.makesIn K cDish = true)
    (b_Dish__init : PySem.W.isFn K (.ref a_Dish__init) = true)
    (m4Dish : PySem.W.keepIn K (.ref cDish) = true)
    (m1Kitchen : PySem.W.makesIn K cKitchen = true)
    (b_Kitchen__init : PySem.W.isFn K (.ref a_Kitchen__init) = true)
    (m4Kitchen : PySem.W.keepIn K (.ref cKitchen) = true)
    (na_Dish_first : PySem.W.findIn K (.ref cDish) "first" = some none)
    (na_Dish_name : PySem.W.findIn K (.ref cDish) "name" = some none)
    (na_Dish_needs : PySem.W.findIn K (.ref cDish) "needs" = some none)
    (na_Dish_second : PySem.W.findIn K (.ref cDish) "second" = some none)
    (na_Kitchen_dishes : PySem.W.findIn K (.ref cKitchen) "dishes" = some none)
    (na_Kitchen_longest : PySem.W.findIn K (.ref cKitchen) "longest" = some none)
    (na_Kitchen_names : PySem.W.findIn K (.ref cKitchen) "names" = some none)
    (na_Kitchen_present : PySem.W.findIn K (.ref cKitchen) "present" = some none)
    (noUnknownTool_tool : PySem.W.findIn K (.ref cUnknownTool) "tool" = some none)
    (p2_Kitchen_horizon : PySem.W.specialIn K (.ref p_Kitchen_horizon) "__get__" = some (some (.builtin "property.__get__")))
    (p3_Kitchen_horizon : PySem.W.takesIn K (.ref p_Kitchen_horizon) = some true)
    (p2_Kitchen_tools : PySem.W.specialIn K (.ref p_Kitchen_tools) "__get__" = some (some (.builtin "property.__get__")))
    (p3_Kitchen_tools : PySem.W.takesIn K (.ref p_Kitchen_tools) = some true)
    (sbxInvalidDish : PySem.W.subIn K (.ref cInvalidDish) (.type "BaseException") = some true)
    (sbxInvalidKitchen : PySem.W.subIn K (.ref cInvalidKitchen) (.type "BaseException") = some true)
    (tIUnknownTool : PySem.W.typeIn K (.ref iUnknownTool) = some (.type "function"))
    (tybInvalidDish : PySem.W.typeIn K (.ref cInvalidDish) = some (.type "type"))
    (tybInvalidKitchen : PySem.W.typeIn K (.ref cInvalidKitchen) = some (.type "type"))
    (xInvalidDish : PySem.W.excIn K cInvalidDish [.type "ValueError", .type "Exception", .type "BaseException", .type "object"] "ValueError.__new__" = true)
    (xInvalidKitchen : PySem.W.excIn K cInvalidKitchen [.type "ValueError", .type "Exception", .type "BaseException", .type "object"] "ValueError.__new__" = true)
    (xLUnknownTool : K.lookup cUnknownTool = some (excClassObj nmUnknownTool qUnknownTool cUnknownTool NUnknownTool bsUnknownTool bmUnknownTool true snUnknownTool suUnknownTool abUnknownTool colUnknownTool ddUnknownTool m0UnknownTool m1UnknownTool m2UnknownTool m3UnknownTool m5UnknownTool "ValueError.__new__"))
    (xrUnknownTool : PySem.HandSPX.refsVE bmUnknownTool = true)
    (saUnknownTool : PySem.W.findIn K (.ref cUnknownTool) "__setattr__" = some (some (.builtin "object.__setattr__")))
    (bexUnknownTool : PySem.W.subIn K (.ref cUnknownTool) (.type "BaseException") = some true)
    (tyxUnknownTool : PySem.W.typeIn K (.ref cUnknownTool) = some (.type "type"))
    (kpcUnknownTool : PySem.W.keepIn K (.ref cUnknownTool) = true)
    (lkUnknownTool : K.lookup iUnknownTool = some ⟨ocUnknownTool, odUnknownTool, .func ((nf_UnknownTool ccUnknownTool cdUnknownTool).fd dcUnknownTool pmUnknownTool ctUnknownTool), slUnknownTool⟩)
    (mrUnknownTool : PySem.W.mroIn K cUnknownTool (.ref cUnknownTool) = some true)
    (z_super : PySem.W.nsIn K mainGlobals "super" = some none)
    (op_tp : PySem.W.nsIn K cStatics "thirdparty.any" = some none)
    (meUnknownTool : PySem.W.ks_superIn K cUnknownTool cUnknownTool "__init__" = some (some (.builtin "ValueError.__init__")))
    (ivUnknownTool : PySem.W.subIn K (.ref cUnknownTool) (.type "ValueError") = some true)
    (l_w_pick : K.lookup a_w_pick = some ⟨oc_w_pick, od_w_pick, .func (PySem.W.fnOf "_law_pick" "_law_pick" (defArgs s_w_pick) (defBody s_w_pick) (defScope s_w_pick) .none kV_w_pick dc_w_pick pm_w_pick an_w_pick cd_w_pick ct_w_pick), sl_w_pick⟩)
    (l_w_draw : K.lookup a_w_draw = some ⟨oc_w_draw, od_w_draw, .func (PySem.W.fnOf "_law_draw" "_law_draw" (defArgs s_w_draw) (defBody s_w_draw) (defScope s_w_draw) .none kV_w_draw dc_w_draw pm_w_draw an_w_draw cd_w_draw ct_w_draw), sl_w_draw⟩)
    (l_w_namelist : K.lookup a_w_namelist = some ⟨oc_w_namelist, od_w_namelist, .func (PySem.W.fnOf "_law_namelist" "_law_namelist" (defArgs s_w_namelist) (defBody s_w_namelist) (defScope s_w_namelist) .none kV_w_namelist dc_w_namelist pm_w_namelist an_w_namelist cd_w_namelist ct_w_namelist), sl_w_namelist⟩)
    (l_w_rawlist : K.lookup a_w_rawlist = some ⟨oc_w_rawlist, od_w_rawlist, .func (PySem.W.fnOf "_law_rawlist" "_law_rawlist" (defArgs s_w_rawlist) (defBody s_w_rawlist) (defScope s_w_rawlist) .none kV_w_rawlist dc_w_rawlist pm_w_rawlist an_w_rawlist cd_w_rawlist ct_w_rawlist), sl_w_rawlist⟩)
    (l_w_worth : K.lookup a_w_worth = some ⟨oc_w_worth, od_w_worth, .func (PySem.W.fnOf "_law_worth" "_law_worth" (defArgs s_w_worth) (defBody s_w_worth) (defScope s_w_worth) .none kV_w_worth dc_w_worth pm_w_worth an_w_worth cd_w_worth ct_w_worth), sl_w_worth⟩)
    (l_w_merge : K.lookup a_w_merge = some ⟨oc_w_merge, od_w_merge, .func (PySem.W.fnOf "_law_merge" "_law_merge" (defArgs s_w_merge) (defBody s_w_merge) (defScope s_w_merge) .none kV_w_merge dc_w_merge pm_w_merge an_w_merge cd_w_merge ct_w_merge), sl_w_merge⟩)
    (l_w_broad : K.lookup a_w_broad = some ⟨oc_w_broad, od_w_broad, .func (PySem.W.fnOf "_law_broad" "_law_broad" (defArgs s_w_broad) (defBody s_w_broad) (defScope s_w_broad) .none kV_w_broad dc_w_broad pm_w_broad an_w_broad cd_w_broad ct_w_broad), sl_w_broad⟩)
    (l_Kitchen_place_of : K.lookup a_Kitchen_place_of = some ⟨oc_Kitchen_place_of, od_Kitchen_place_of, .func (PySem.W.fnOf "place_of" "Kitchen.place_of" (defArgs s_Kitchen_place_of) (defBody s_Kitchen_place_of) (defScope s_Kitchen_place_of) .none kV_Kitchen_place_of dc_Kitchen_place_of pm_Kitchen_place_of an_Kitchen_place_of cd_Kitchen_place_of ct_Kitchen_place_of), sl_Kitchen_place_of⟩)
    (l_is_name : K.lookup a_is_name = some ⟨oc_is_name, od_is_name, .func (PySem.W.fnOf "is_name" "is_name" (defArgs s_is_name) (defBody s_is_name) (defScope s_is_name) .none kV_is_name dc_is_name pm_is_name an_is_name cd_is_name ct_is_name), sl_is_name⟩)
    (l_Kitchen__init : K.lookup a_Kitchen__init = some ⟨oc_Kitchen__init, od_Kitchen__init, .func (PySem.W.fnOf "__init__" "Kitchen.__init__" (defArgs s_Kitchen__init) (defBody s_Kitchen__init) (defScope s_Kitchen__init) .none kV_Kitchen__init dc_Kitchen__init pm_Kitchen__init an_Kitchen__init cd_Kitchen__init ct_Kitchen__init), sl_Kitchen__init⟩)
    (kpa_Kitchen__init : PySem.W.keepIn K (.ref a_Kitchen__init) = true)
    (l_merged : K.lookup a_merged = some ⟨oc_merged, od_merged, .func (PySem.W.fnOf "merged" "merged" (defArgs s_merged) (defBody s_merged) (defScope s_merged) .none kV_merged dc_merged pm_merged an_merged cd_merged ct_merged), sl_merged⟩)
    (l_Dish__init : K.lookup a_Dish__init = some ⟨oc_Dish__init, od_Dish__init, .func (PySem.W.fnOf "__init__" "Dish.__init__" (defArgs s_Dish__init) (defBody s_Dish__init) (defScope s_Dish__init) .none (.ref D_Dish__init) dc_Dish__init pm_Dish__init an_Dish__init cd_Dish__init ct_Dish__init), sl_Dish__init⟩)
    (kpa_Dish__init : PySem.W.keepIn K (.ref a_Dish__init) = true)
    (l_w_built : K.lookup a_w_built = some ⟨oc_w_built, od_w_built, .func (PySem.W.fnOf "_law_built" "_law_built" (defArgs s_w_built) (defBody s_w_built) (defScope s_w_built) .none kV_w_built dc_w_built pm_w_built an_w_built cd_w_built ct_w_built), sl_w_built⟩)
    (l_w_horizon : K.lookup a_w_horizon = some ⟨oc_w_horizon, od_w_horizon, .func (PySem.W.fnOf "_law_horizon" "_law_horizon" (defArgs s_w_horizon) (defBody s_w_horizon) (defScope s_w_horizon) .none kV_w_horizon dc_w_horizon pm_w_horizon an_w_horizon cd_w_horizon ct_w_horizon), sl_w_horizon⟩)
    (l_w_empty : K.lookup a_w_empty = some ⟨oc_w_empty, od_w_empty, .func (PySem.W.fnOf "_law_empty" "_law_empty" (defArgs s_w_empty) (defBody s_w_empty) (defScope s_w_empty) .none kV_w_empty dc_w_empty pm_w_empty an_w_empty cd_w_empty ct_w_empty), sl_w_empty⟩)
    (l_w_some_standing : K.lookup a_w_some_standing = some ⟨oc_w_some_standing, od_w_some_standing, .func (PySem.W.fnOf "_law_some_standing" "_law_some_standing" (defArgs s_w_some_standing) (defBody s_w_some_standing) (defScope s_w_some_standing) .none kV_w_some_standing dc_w_some_standing pm_w_some_standing an_w_some_standing cd_w_some_standing ct_w_some_standing), sl_w_some_standing⟩)
    (l_w_is_integer : K.lookup a_w_is_integer = some ⟨oc_w_is_integer, od_w_is_integer, .func (PySem.W.fnOf "_law_is_integer" "_law_is_integer" (defArgs s_w_is_integer) (defBody s_w_is_integer) (defScope s_w_is_integer) .none kV_w_is_integer dc_w_is_integer pm_w_is_integer an_w_is_integer cd_w_is_integer ct_w_is_integer), sl_w_is_integer⟩)
    (l_w_is_standing : K.lookup a_w_is_standing = some ⟨oc_w_is_standing, od_w_is_standing, .func (PySem.W.fnOf "_law_is_standing" "_law_is_standing" (defArgs s_w_is_standing) (defBody s_w_is_standing) (defScope s_w_is_standing) .none kV_w_is_standing dc_w_is_standing pm_w_is_standing an_w_is_standing cd_w_is_standing ct_w_is_standing), sl_w_is_standing⟩)
    (l_w_same : K.lookup a_w_same = some ⟨oc_w_same, od_w_same, .func (PySem.W.fnOf "_law_same" "_law_same" (defArgs s_w_same) (defBody s_w_same) (defScope s_w_same) .none kV_w_same dc_w_same pm_w_same an_w_same cd_w_same ct_w_same), sl_w_same⟩)
    (l_after_beat : K.lookup a_after_beat = some ⟨oc_after_beat, od_after_beat, .func (PySem.W.fnOf "after_beat" "after_beat" (defArgs s_after_beat) (defBody s_after_beat) (defScope s_after_beat) .none kV_after_beat dc_after_beat pm_after_beat an_after_beat cd_after_beat ct_after_beat), sl_after_beat⟩)
    (l_Kitchen_horizon : K.lookup a_Kitchen_horizon = some ⟨oc_Kitchen_horizon, od_Kitchen_horizon, .func (PySem.W.fnOf "horizon" "Kitchen.horizon" (defArgs s_Kitchen_horizon) (defBody s_Kitchen_horizon) (defScope s_Kitchen_horizon) .none kV_Kitchen_horizon dc_Kitchen_horizon pm_Kitchen_horizon an_Kitchen_horizon cd_Kitchen_horizon ct_Kitchen_horizon), sl_Kitchen_horizon⟩)
    (kpa_Kitchen_horizon : PySem.W.keepIn K (.ref a_Kitchen_horizon) = true)
    (l_Kitchen_tools : K.lookup a_Kitchen_tools = some ⟨oc_Kitchen_tools, od_Kitchen_tools, .func (PySem.W.fnOf "tools" "Kitchen.tools" (defArgs s_Kitchen_tools) (defBody s_Kitchen_tools) (defScope s_Kitchen_tools) .none kV_Kitchen_tools dc_Kitchen_tools pm_Kitchen_tools an_Kitchen_tools cd_Kitchen_tools ct_Kitchen_tools), sl_Kitchen_tools⟩)
    (kpa_Kitchen_tools : PySem.W.keepIn K (.ref a_Kitchen_tools) = true)
    (l_empty_standing : K.lookup a_empty_standing = some ⟨oc_empty_standing, od_empty_standing, .func (PySem.W.fnOf "empty_standing" "empty_standing" (defArgs s_empty_standing) (defBody s_empty_standing) (defScope s_empty_standing) .none kV_empty_standing dc_empty_standing pm_empty_standing an_empty_standing cd_empty_standing ct_empty_standing), sl_empty_standing⟩)
    (l_law : K.lookup a_law = some ⟨oc_law, od_law, .func (PySem.W.fnOf "law" "law" (defArgs s_law) (defBody s_law) (defScope s_law) .none kV_law dc_law pm_law an_law cd_law ct_law), sl_law⟩)
    (kpa_law : PySem.W.keepIn K (.ref a_law) = true)
    (coUnknownTool : PySem.W.codeIn K (.ref cdUnknownTool) "UnknownTool.__init__" = true)
    (cvUnknownTool : K.lookup cdUnknownTool = some ⟨cclUnknownTool, cddUnknownTool, .fields vsUnknownTool, csUnknownTool⟩)
    (ceUnknownTool : K.lookup ccUnknownTool = some ⟨clUnknownTool, codUnknownTool, .cell (some (.ref cUnknownTool)), cosUnknownTool⟩)
    (cc_w_pick : PySem.W.codeIn K cd_w_pick "_law_pick" = true)
    (cc_w_draw : PySem.W.codeIn K cd_w_draw "_law_draw" = true)
    (cc_w_namelist : PySem.W.codeIn K cd_w_namelist "_law_namelist" = true)
    (cc_w_rawlist : PySem.W.codeIn K cd_w_rawlist "_law_rawlist" = true)
    (cc_w_worth : PySem.W.codeIn K cd_w_worth "_law_worth" = true)
    (cc_w_merge : PySem.W.codeIn K cd_w_merge "_law_merge" = true)
    (cc_w_broad : PySem.W.codeIn K cd_w_broad "_law_broad" = true)
    (cc_Kitchen_place_of : PySem.W.codeIn K cd_Kitchen_place_of "Kitchen.place_of" = true)
    (cc_is_name : PySem.W.codeIn K cd_is_name "is_name" = true)
    (cc_Kitchen__init : PySem.W.codeIn K cd_Kitchen__init "Kitchen.__init__" = true)
    (cc_merged : PySem.W.codeIn K cd_merged "merged" = true)
    (d_Dish__init_first : PySem.W.nsIn K D_Dish__init "first" = some (some (.int 0 t_Dish__init_first)))
    (d_Dish__init_second : PySem.W.nsIn K D_Dish__init "second" = some (some (.int 0 t_Dish__init_second)))
    (cc_Dish__init : PySem.W.codeIn K cd_Dish__init "Dish.__init__" = true)
    (cc_w_built : PySem.W.codeIn K cd_w_built "_law_built" = true)
    (cc_w_horizon : PySem.W.codeIn K cd_w_horizon "_law_horizon" = true)
    (cc_w_empty : PySem.W.codeIn K cd_w_empty "_law_empty" = true)
    (cc_w_some_standing : PySem.W.codeIn K cd_w_some_standing "_law_some_standing" = true)
    (cc_w_is_integer : PySem.W.codeIn K cd_w_is_integer "_law_is_integer" = true)
    (cc_w_is_standing : PySem.W.codeIn K cd_w_is_standing "_law_is_standing" = true)
    (cc_w_same : PySem.W.codeIn K cd_w_same "_law_same" = true)
    (cc_after_beat : PySem.W.codeIn K cd_after_beat "after_beat" = true)
    (cc_Kitchen_horizon : PySem.W.codeIn K cd_Kitchen_horizon "Kitchen.horizon" = true)
    (cc_Kitchen_tools : PySem.W.codeIn K cd_Kitchen_tools "Kitchen.tools" = true)
    (cc_empty_standing : PySem.W.codeIn K cd_empty_standing "empty_standing" = true)
    (cc_law : PySem.W.codeIn K cd_law "law" = true)
    (cfUnknownTool : vsUnknownTool[2]? = some (.str fiUnknownTool tfUnknownTool))
    (cgUnknownTool : ((PySem.Challenge.pw_mixpace_k13_empty_standing_and_beat.main.file : Str) == fiUnknownTool) = true)
    : ∃ fd : FuncData, (∀ (s : Shared) (v : Value), BindsTo s fd ⟨[v], []⟩ [("_law_script", v)]) ∧ ∀ base : Heap, K.In base → base.Ns mainGlobals mg → FnOk l.prog w K mg base (L2.CX l.prog w) 7 fa fd ["_law_script"] (spD K [false] (F_law cInvalidDish cInvalidKitchen cUnknownTool cDish cKitchen)) := by
  have e := hfa.symm.trans (PySem.W.mg_of X G za_law)
  cases e
  have oxUnknownTool : OexC K cUnknownTool := ⟨⟨_, _, _, _, _, _, _, _, _, _, _, _, _, _, _, xLUnknownTool, xrUnknownTool⟩, saUnknownTool, bexUnknownTool, tyxUnknownTool, kpcUnknownTool⟩
  have UUnknownTool : SupTxt l.prog K mg cUnknownTool iUnknownTool ccUnknownTool (nf_UnknownTool ccUnknownTool cdUnknownTool) := ⟨oxUnknownTool, ⟨_, _, _, _, _, _, lkUnknownTool⟩, rfl, coUnknownTool, ⟨_, _, _, _, _, _, cvUnknownTool, cfUnknownTool, by rw [hl]; exact cgUnknownTool⟩, ⟨_, _, _, ceUnknownTool⟩, by rw [hl]; decide +kernel, mrUnknownTool, PySem.W.mg_none_of X G z_super, op_tp, meUnknownTool, ivUnknownTool, iCUnknownTool, tIUnknownTool⟩
  have T : Txt K mg cInvalidDish cInvalidKitchen cUnknownTool cDish cKitchen iUnknownTool p_Kitchen_horizon p_Kitchen_tools a_w_pick a_w_draw a_w_namelist a_w_rawlist a_w_worth a_w_merge a_w_broad a_Kitchen_place_of a_is_name a_Kitchen__init a_merged a_Dish__init a_w_built a_w_horizon a_w_empty a_w_some_standing a_w_is_integer a_w_is_standing a_w_same a_after_beat a_Kitchen_horizon a_Kitchen_tools a_empty_standing := ⟨⟨pgDish, hdDish, poDish, saDish⟩, ⟨pgKitchen, hdKitchen, poKitchen, saKitchen⟩, PySem.W.mg_of X G zcDish, PySem.W.mg_of X G zcInvalidDish, PySem.W.mg_of X G zcInvalidKitchen, PySem.W.mg_of X G zcKitchen, ⟨t_LETTERS, PySem.W.mg_of X G z_LETTERS⟩, ⟨t_LONGEST_NAME, PySem.W.mg_of X G z_LONGEST_NAME⟩, PySem.W.mg_of X G zcUnknownTool, PySem.W.mg_of X G za_w_broad, PySem.W.mg_of X G za_w_built, PySem.W.mg_of X G za_w_draw, PySem.W.mg_of X G za_w_empty, PySem.W.mg_of X G za_w_horizon, PySem.W.mg_of X G za_w_is_integer, PySem.W.mg_of X G za_w_is_standing, PySem.W.mg_of X G za_w_merge, PySem.W.mg_of X G za_w_namelist, PySem.W.mg_of X G za_w_pick, PySem.W.mg_of X G za_w_rawlist, PySem.W.mg_of X G za_w_same, PySem.W.mg_of X G za_w_some_standing, PySem.W.mg_of X G za_w_worth, PySem.W.mg_of X G za_after_beat, PySem.W.mg_of X G za_empty_standing, PySem.W.mg_of X G za_is_name, PySem.W.mg_of X G za_merged, iCUnknownTool, kpa_after_beat, kpa_empty_standing, kpa_is_name, kpa_merged, kpa_w_broad, kpa_w_built, kpa_w_draw, kpa_w_empty, kpa_w_horizon, kpa_w_is_integer, kpa_w_is_standing, kpa_w_merge, kpa_w_namelist, kpa_w_pick, kpa_w_rawlist, kpa_w_same, kpa_w_some_standing, kpa_w_worth, kpcInvalidDish, kpcInvalidKitchen, ⟨f_Kitchen_place_of, b_Kitchen_place_of, kpa_Kitchen_place_of⟩, ⟨m1Dish, f_Dish__init, b_Dish__init, m4Dish⟩, ⟨m1Kitchen, f_Kitchen__init, b_Kitchen__init, m4Kitchen⟩, PySem.W.mg_none_of X G z_bool, PySem.W.mg_none_of X G z_enumerate, PySem.W.mg_none_of X G z_int, PySem.W.mg_none_of X G z_isinstance, PySem.W.mg_none_of X G z_len, PySem.W.mg_none_of X G z_list, PySem.W.mg_none_of X G z_max, PySem.W.mg_none_of X G z_min, PySem.W.mg_none_of X G z_range, PySem.W.mg_none_of X G z_tuple, na_Dish_first, na_Dish_name, na_Dish_needs, na_Dish_second, na_Kitchen_dishes, na_Kitchen_longest, na_Kitchen_names, na_Kitchen_present, noUnknownTool_tool, oxUnknownTool, ⟨p1_Kitchen_horizon, p2_Kitchen_horizon, p3_Kitchen_horizon, ⟨_, p4_Kitchen_horizon⟩⟩, ⟨p1_Kitchen_tools, p2_Kitchen_tools, p3_Kitchen_tools, ⟨_, p4_Kitchen_tools⟩⟩, sbxInvalidDish, sbxInvalidKitchen, tIUnknownTool, tybInvalidDish, tybInvalidKitchen, xInvalidDish, xInvalidKitchen⟩
  have F_w_pick := fun_mk (st := s_w_pick) l_w_pick cc_w_pick kpa_w_pick
  have B_w_pick := F_w_pick.binds (ps := ["_law_script", "_law_k"]) fun _ _ _ _ _ _ us hl => match us, hl with | [_, _], _ => rfl
  have F_w_draw := fun_mk (st := s_w_draw) l_w_draw cc_w_draw kpa_w_draw
  have B_w_draw := F_w_draw.binds (ps := ["_law_cell", "_law_k", "_law_many"]) fun _ _ _ _ _ _ us hl => match us, hl with | [_, _, _], _ => rfl
  have F_w_namelist := fun_mk (st := s_w_namelist) l_w_namelist cc_w_namelist kpa_w_namelist
  have B_w_namelist := F_w_namelist.binds (ps := ["_law_cell", "_law_many"]) fun _ _ _ _ _ _ us hl => match us, hl with | [_, _], _ => rfl
  have F_w_rawlist := fun_mk (st := s_w_rawlist) l_w_rawlist cc_w_rawlist kpa_w_rawlist
  have B_w_rawlist := F_w_rawlist.binds (ps := ["_law_script", "_law_at", "_law_many", "_law_names"]) fun _ _ _ _ _ _ us hl => match us, hl with | [_, _, _, _], _ => rfl
  have F_w_worth := fun_mk (st := s_w_worth) l_w_worth cc_w_worth kpa_w_worth
  have B_w_worth := F_w_worth.binds (ps := ["_law_cell", "_law_small"]) fun _ _ _ _ _ _ us hl => match us, hl with | [_, _], _ => rfl
  have F_w_merge := fun_mk (st := s_w_merge) l_w_merge cc_w_merge kpa_w_merge
  have B_w_merge := F_w_merge.binds (ps := ["_law_raw"]) fun _ _ _ _ _ _ us hl => match us, hl with | [_], _ => rfl
  have F_w_broad := fun_mk (st := s_w_broad) l_w_broad cc_w_broad kpa_w_broad
  have B_w_broad := F_w_broad.binds (ps := ["_law_script", "_law_least"]) fun _ _ _ _ _ _ us hl => match us, hl with | [_, _], _ => rfl
  have F_Kitchen_place_of := fun_mk (st := s_Kitchen_place_of) l_Kitchen_place_of cc_Kitchen_place_of kpa_Kitchen_place_of
  have B_Kitchen_place_of := F_Kitchen_place_of.binds (ps := ["self", "tool"]) fun _ _ _ _ _ _ us hl => match us, hl with | [_, _], _ => rfl
  have F_is_name := fun_mk (st := s_is_name) l_is_name cc_is_name kpa_is_name
  have B_is_name := F_is_name.binds (ps := ["text"]) fun _ _ _ _ _ _ us hl => match us, hl with | [_], _ => rfl
  have F_Kitchen__init := fun_mk (st := s_Kitchen__init) l_Kitchen__init cc_Kitchen__init kpa_Kitchen__init
  have B_Kitchen__init := F_Kitchen__init.binds (ps := ["self", "tools", "menu"]) fun _ _ _ _ _ _ us hl => match us, hl with | [_, _, _], _ => rfl
  have F_merged := fun_mk (st := s_merged) l_merged cc_merged kpa_merged
  have B_merged := F_merged.binds (ps := ["needs"]) fun _ _ _ _ _ _ us hl => match us, hl with | [_], _ => rfl
  have F_Dish__init := fund_mk (st := s_Dish__init) (kws := [("first", V.int 0), ("second", V.int 0)]) l_Dish__init cc_Dish__init kpa_Dish__init (all2 ⟨_, d_Dish__init_first, ⟨_, rfl⟩⟩ ⟨_, d_Dish__init_second, ⟨_, rfl⟩⟩)
  obtain ⟨mv_Dish__init, KB_Dish__init⟩ := F_Dish__init.kbinds0 (ps := ["self", "name", "needs", "first", "second"]) 3 ["first", "second"] [] (fun us _ ws => us ++ ws) (by decide) (fun q hq => by cases hq) (fun r1 r2 r3 => r1.append r3) (fun D doc pm an cdv ct us mv ws h1 h2 h3 => match us, mv, ws, h1, h2, h3 with | [_, _, _], [], [_, _], _, _, _ => rfl)
  have F_w_built := fun_mk (st := s_w_built) l_w_built cc_w_built kpa_w_built
  have B_w_built := F_w_built.binds (ps := ["_law_kitchen"]) fun _ _ _ _ _ _ us hl => match us, hl with | [_], _ => rfl
  have F_w_horizon := fun_mk (st := s_w_horizon) l_w_horizon cc_w_horizon kpa_w_horizon
  have B_w_horizon := F_w_horizon.binds (ps := ["_law_kitchen"]) fun _ _ _ _ _ _ us hl => match us, hl with | [_], _ => rfl
  have F_w_empty := fun_mk (st := s_w_empty) l_w_empty cc_w_empty kpa_w_empty
  have B_w_empty := F_w_empty.binds (ps := ["_law_kitchen"]) fun _ _ _ _ _ _ us hl => match us, hl with | [_], _ => rfl
  have F_w_some_standing := fun_mk (st := s_w_some_standing) l_w_some_standing cc_w_some_standing kpa_w_some_standing
  have B_w_some_standing := F_w_some_standing.binds (ps := ["_law_script", "_law_at", "_law_kitchen"]) fun _ _ _ _ _ _ us hl => match us, hl with | [_, _, _], _ => rfl
  have F_w_is_integer := fun_mk (st := s_w_is_integer) l_w_is_integer cc_w_is_integer kpa_w_is_integer
  have B_w_is_integer := F_w_is_integer.binds (ps := ["_law_x"]) fun _ _ _ _ _ _ us hl => match us, hl with | [_], _ => rfl
  have F_w_is_standing := fun_mk (st := s_w_is_standing) l_w_is_standing cc_w_is_standing kpa_w_is_standing
  have B_w_is_standing := F_w_is_standing.binds (ps := ["_law_standing", "_law_kitchen"]) fun _ _ _ _ _ _ us hl => match us, hl with | [_, _], _ => rfl
  have F_w_same := fun_mk (st := s_w_same) l_w_same cc_w_same kpa_w_same
  have B_w_same := F_w_same.binds (ps := ["_law_answer", "_law_wished", "_law_kitchen"]) fun _ _ _ _ _ _ us hl => match us, hl with | [_, _, _], _ => rfl
  have F_after_beat := fun_mk (st := s_after_beat) l_after_beat cc_after_beat kpa_after_beat
  have B_after_beat := F_after_beat.binds (ps := ["standing"]) fun _ _ _ _ _ _ us hl => match us, hl with | [_], _ => rfl
  have F_Kitchen_horizon := fun_mk (st := s_Kitchen_horizon) l_Kitchen_horizon cc_Kitchen_horizon kpa_Kitchen_horizon
  have B_Kitchen_horizon := F_Kitchen_horizon.binds (ps := ["self"]) fun _ _ _ _ _ _ us hl => match us, hl with | [_], _ => rfl
  have F_Kitchen_tools := fun_mk (st := s_Kitchen_tools) l_Kitchen_tools cc_Kitchen_tools kpa_Kitchen_tools
  have B_Kitchen_tools := F_Kitchen_tools.binds (ps := ["self"]) fun _ _ _ _ _ _ us hl => match us, hl with | [_], _ => rfl
  have F_empty_standing := fun_mk (st := s_empty_standing) l_empty_standing cc_empty_standing kpa_empty_standing
  have B_empty_standing := F_empty_standing.binds (ps := ["kitchen"]) fun _ _ _ _ _ _ us hl => match us, hl with | [_], _ => rfl
  have F_law := fun_mk (st := s_law) l_law cc_law kpa_law
  have B_law := F_law.binds (ps := ["_law_script"]) fun _ _ _ _ _ _ us hl => match us, hl with | [_], _ => rfl
  have B_UnknownTool : Binds K ((nf_UnknownTool ccUnknownTool cdUnknownTool).fd dcUnknownTool pmUnknownTool ctUnknownTool) ["self", "tool"] [] := .all fun us hl => match us, hl with | [_, _], _ => rfl
  refine ⟨PySem.W.fnOf "law" "law" (defArgs s_law) (defBody s_law) (defScope s_law) .none kV_law dc_law pm_law an_law cd_law ct_law, fun s v => .of_eq rfl, fun base _ _ => ?_⟩
  have H_UnknownTool := ok_UnknownTool (P := l.prog) (w := w) (base := base) T UUnknownTool ⟨_, _, _, lkUnknownTool⟩
  have H_w_pick := ok_w_pick (P := l.prog) (w := w) (base := base) F_w_pick T 
  have H_w_draw := ok_w_draw (P := l.prog) (w := w) (base := base) F_w_draw T 
  have H_w_namelist := ok_w_namelist (P := l.prog) (w := w) (base := base) F_w_namelist T H_w_draw B_w_draw
  have H_w_rawlist := ok_w_rawlist (P := l.prog) (w := w) (base := base) F_w_rawlist T H_w_draw B_w_draw H_w_pick B_w_pick
  have H_w_worth := ok_w_worth (P := l.prog) (w := w) (base := base) F_w_worth T H_w_draw B_w_draw
  have H_w_merge := ok_w_merge (P := l.prog) (w := w) (base := base) F_w_merge T 
  have H_w_broad := ok_w_broad (P := l.prog) (w := w) (base := base) F_w_broad T H_w_draw B_w_draw H_w_merge B_w_merge H_w_namelist B_w_namelist H_w_pick B_w_pick H_w_rawlist B_w_rawlist H_w_worth B_w_worth
  have H_Kitchen_place_of := ok_Kitchen_place_of (P := l.prog) (w := w) (base := base) F_Kitchen_place_of T H_UnknownTool B_UnknownTool
  have H_is_name := ok_is_name (P := l.prog) (w := w) (base := base) F_is_name T 
  have H_Kitchen__init := ok_Kitchen__init (P := l.prog) (w := w) (base := base) F_Kitchen__init T H_Kitchen_place_of B_Kitchen_place_of H_is_name B_is_name
  have H_merged := ok_merged (P := l.prog) (w := w) (base := base) F_merged T 
  have H_Dish__init := ok_Dish__init (P := l.prog) (w := w) (base := base) F_Dish__init T H_is_name B_is_name H_merged B_merged
  have H_w_built := ok_w_built (P := l.prog) (w := w) (base := base) F_w_built T H_Kitchen__init B_Kitchen__init H_Dish__init KB_Dish__init
  have H_w_horizon := ok_w_horizon (P := l.prog) (w := w) (base := base) F_w_horizon T 
  have H_w_empty := ok_w_empty (P := l.prog) (w := w) (base := base) F_w_empty T H_w_horizon B_w_horizon
  have H_w_some_standing := ok_w_some_standing (P := l.prog) (w := w) (base := base) F_w_some_standing T H_w_draw B_w_draw H_w_horizon B_w_horizon H_w_pick B_w_pick
  have H_w_is_integer := ok_w_is_integer (P := l.prog) (w := w) (base := base) F_w_is_integer T 
  have H_w_is_standing := ok_w_is_standing (P := l.prog) (w := w) (base := base) F_w_is_standing T H_w_horizon B_w_horizon H_w_is_integer B_w_is_integer
  have H_w_same := ok_w_same (P := l.prog) (w := w) (base := base) F_w_same T H_w_is_standing B_w_is_standing
  have H_after_beat := ok_after_beat (P := l.prog) (w := w) (base := base) F_after_beat T 
  have H_Kitchen_horizon := ok_Kitchen_horizon (P := l.prog) (w := w) (base := base) F_Kitchen_horizon T 
  have H_Kitchen_tools := ok_Kitchen_tools (P := l.prog) (w := w) (base := base) F_Kitchen_tools T 
  have H_empty_standing := ok_empty_standing (P := l.prog) (w := w) (base := base) F_empty_standing T H_Kitchen_horizon B_Kitchen_horizon H_Kitchen_tools B_Kitchen_tools
  exact ok_law F_law T H_w_broad B_w_broad H_w_built B_w_built H_w_empty B_w_empty H_w_same B_w_same H_w_some_standing B_w_some_standing H_after_beat B_after_beat H_empty_standing B_empty_standing
theorem walk {l : PySem.W.OpenLaw} {q : Program} {loose : List Str} {XP : (Str → Option Value) → Heap → Prop} {YP : World → Heap → Prop} {d : DefRec} {K : Params → PySem.W.Frag} (cInvalidDish cInvalidKitchen cUnknownTool cDish cKitchen : Addr) (hn : l.most = some 63) (hdf : d.params.defaults = [])
    (hF : ∀ ns : List Int, ns.length ≤ 63 → (F_law cInvalidDish cInvalidKitchen cUnknownTool cDish cKitchen) [.lst (ns.map .int)] = .ok (.bl true))
    (hY : ∀ (w : World) (h : Heap), YP w h → (K w.params).In h)
    (F : ∀ (w : World) (mg : Str → Option Value) (fa : Addr) (h : Heap), (K w.params).In h → h.Ns mainGlobals mg → mg d.name = some (.ref fa) →
      ∃ fd : FuncData, (∀ (s : Shared) (u : Value), BindsTo s fd ⟨[u], []⟩ [("_law_script", u)]) ∧ ∀ base : Heap, (K w.params).In base → base.Ns mainGlobals mg → FnOk l.prog w (K w.params) mg base (L2.CX l.prog w) 7 fa fd ["_law_script"] (spD (K w.params) [false] (F_law cInvalidDish cInvalidKitchen cUnknownTool cDish cKitchen))) :
    PySem.W.WalkO q loose XP YP l.row.toRowW d [] (fun f vs => PySem.call f vs) :=
  L2.walk_of (n := 63) (k := 7) (x := "_law_script") (CX := fun w => L2.CX l.prog w) (sp := fun w => spD (K w.params) [false] (F_law cInvalidDish cInvalidKitchen cUnknownTool cDish cKitchen)) hn (by decide) hdf ⟨rfl, by decide, by decide⟩ hY F (fun w H a ns hl hO hS => law_sp hF H a ns hl hO hS) fun w H s e s' z => CX_none z


end Kx

set_option Elab.async false
set_option linter.all false
set_option maxRecDepth 100000
set_option maxHeartbeats 1000000
namespace Kx
open PySem PySem.Spec L2 Dv
open PyProof.Rows hiding St
theorem pick_ok (ns : List Int) (k : Nat) : F_w_pick [.lst (ns.map .int), .int (k : Int)] = .ok (.int (ns.getD k 0)) := by
  unfold F_w_pick den_w_pick
  simp only [runD_at, entryS_at, slF_t, slF_f, slD_int, slD_str, slD_bl, slD_lst, List.zipWith_cons_cons, List.zipWith_nil_left, List.map, List.length, sSeq_at, sNil_at, sRet_at, sRetN_at, sRetNone_at, sIf_at, sSet_at, sSetN_at, sExpr_at, sPar_at, sTgt_at, sMut_at, sPut_at, sFor_at, sRaise_at, sTry_at, atT_at, Rho.set_mk, gN_at, forL_nil, forL_cons, outR_rt, outR_nx, outR_ex, isLst_int, isLst_bl, isLst_tup, ckFlat_int, ckFlat_bl, e1_at, e2_at, e3c_at, cD_at, aNil_at, aCons_at, eTup_at, eLst_at, toL_at, vS_at, vB_at, eAnd_at, eOr_at, eNot_at, vAnd_at, vOr_at, vNot_at, eIf_at, eSl_at, asBl_bl, asInt_int, asLst_lst, addD_int, addI_int, subD_int, negD_int, ltB_int, leB_int, gtB_int, geB_int, eqB_int, neB_int, eqB_str, neB_str, intK_int, absN, lenK_lst, lenK_tup, ixD_tup0, ixD_tup1, ixD_tup2, ixD_lst0, ixD_lst1, ixD_lst2, ixD_lst3, Res.bind_ok, Res.bind_exc, Res.bind_stuck, andThen_ok, andThen_exc, andS_nx, andS_rt, andS_ex, andS_bk, andS_ct, loopO_nx, loopO_ct, loopO_bk, loopO_rt, loopO_ex, List.getElem?_cons_zero, List.getElem?_cons_succ, List.set_cons_zero, List.set_cons_succ, List.length_cons, List.length_nil, List.replicate, List.append_nil, List.nil_append, List.cons_append, Nat.zero_add, Nat.reduceAdd, Nat.reduceSub, Nat.reduceEqDiff, Nat.reduceLT, Bool.and_true, Bool.true_and, Bool.and_false, Bool.false_and, Bool.not_true, Bool.not_false, Bool.false_eq_true, decide_true, decide_false, decide_eq_true_eq, ite_true, ite_false, if_true, if_false, Bool.and_self, Bool.not_not, and_self, and_true, true_and, not_true_eq_false, not_false_eq_true, ckLen_ok, Nat.reduceLeDiff, fld_name, fld_first, fld_second, fld_needs, tn0, tn1, tn2, onC_dD, onCI_dD, cf_str, cf_tn, ↓eMk_at, dD_fold, frz_at, asStr_str, eJoin_at, ↓eFs_at, catP_nil, empty_app, isLst_str, isLst_dD, isLst_non, nc0, nc1, nc2, nc3, nc4, nc5, nc6, nc7, nc8, nc9, nc10, nc11, nc12, Int.reduceEq, Int.reduceLT, Int.reduceLE, Int.reduceNeg, ok1_ok, wipeR_nil, wipeR_cons, ki_names, ki_present, ki_dishes, ki_longest, onC_ki, onCI_ki, isLst_ki, slLst_hi, slLst_lo, slTup_hi, slTup_lo, List.length_map, Int.ofNat_lt, reduceIte]
  by_cases h : k < ns.length
  · simp only [runD_at, entryS_at, slF_t, slF_f, slD_int, slD_str, slD_bl, slD_lst, List.zipWith_cons_cons, List.zipWith_nil_left, List.map, List.length, sSeq_at, sNil_at, sRet_at, sRetN_at, sRetNone_at, sIf_at, sSet_at, sSetN_at, sExpr_at, sPar_at, sTgt_at, sMut_at, sPut_at, sFor_at, sRaise_at, sTry_at, atT_at, Rho.set_mk, gN_at, forL_nil, forL_cons, outR_rt, outR_nx, outR_ex, isLst_int, isLst_bl, isLst_tup, ckFlat_int, ckFlat_bl, e1_at, e2_at, e3c_at, cD_at, aNil_at, aCons_at, eTup_at, eLst_at, toL_at, vS_at, vB_at, eAnd_at, eOr_at, eNot_at, vAnd_at, vOr_at, vNot_at, eIf_at, eSl_at, asBl_bl, asInt_int, asLst_lst, addD_int, addI_int, subD_int, negD_int, ltB_int, leB_int, gtB_int, geB_int, eqB_int, neB_int, eqB_str, neB_str, intK_int, absN, lenK_lst, lenK_tup, ixD_tup0, ixD_tup1, ixD_tup2, ixD_lst0, ixD_lst1, ixD_lst2, ixD_lst3, Res.bind_ok, Res.bind_exc, Res.bind_stuck, andThen_ok, andThen_exc, andS_nx, andS_rt, andS_ex, andS_bk, andS_ct, loopO_nx, loopO_ct, loopO_bk, loopO_rt, loopO_ex, List.getElem?_cons_zero, List.getElem?_cons_succ, List.set_cons_zero, List.set_cons_succ, List.length_cons, List.length_nil, List.replicate, List.append_nil, List.nil_append, List.cons_append, Nat.zero_add, Nat.reduceAdd, Nat.reduceSub, Nat.reduceEqDiff, Nat.reduceLT, Bool.and_true, Bool.true_and, Bool.and_false, Bool.false_and, Bool.not_true, Bool.not_false, Bool.false_eq_true, decide_true, decide_false, decide_eq_true_eq, ite_true, ite_false, if_true, if_false, Bool.and_self, Bool.not_not, and_self, and_true, true_and, not_true_eq_false, not_false_eq_true, ckLen_ok, Nat.reduceLeDiff, fld_name, fld_first, fld_second, fld_needs, tn0, tn1, tn2, onC_dD, onCI_dD, cf_str, cf_tn, ↓eMk_at, dD_fold, frz_at, asStr_str, eJoin_at, ↓eFs_at, catP_nil, empty_app, isLst_str, isLst_dD, isLst_non, nc0, nc1, nc2, nc3, nc4, nc5, nc6, nc7, nc8, nc9, nc10, nc11, nc12, Int.reduceEq, Int.reduceLT, Int.reduceLE, Int.reduceNeg, ok1_ok, wipeR_nil, wipeR_cons, ki_names, ki_present, ki_dishes, ki_longest, onC_ki, onCI_ki, isLst_ki, slLst_hi, slLst_lo, slTup_hi, slTup_lo, h, ixD_lst (ds := ns.map .int) (k := k) (by simpa using h), List.getElem_map, reduceIte]
    rw [List.getD_eq_getElem?_getD, List.getElem?_eq_getElem h]
    rfl
  · simp only [runD_at, entryS_at, slF_t, slF_f, slD_int, slD_str, slD_bl, slD_lst, List.zipWith_cons_cons, List.zipWith_nil_left, List.map, List.length, sSeq_at, sNil_at, sRet_at, sRetN_at, sRetNone_at, sIf_at, sSet_at, sSetN_at, sExpr_at, sPar_at, sTgt_at, sMut_at, sPut_at, sFor_at, sRaise_at, sTry_at, atT_at, Rho.set_mk, gN_at, forL_nil, forL_cons, outR_rt, outR_nx, outR_ex, isLst_int, isLst_bl, isLst_tup, ckFlat_int, ckFlat_bl, e1_at, e2_at, e3c_at, cD_at, aNil_at, aCons_at, eTup_at, eLst_at, toL_at, vS_at, vB_at, eAnd_at, eOr_at, eNot_at, vAnd_at, vOr_at, vNot_at, eIf_at, eSl_at, asBl_bl, asInt_int, asLst_lst, addD_int, addI_int, subD_int, negD_int, ltB_int, leB_int, gtB_int, geB_int, eqB_int, neB_int, eqB_str, neB_str, intK_int, absN, lenK_lst, lenK_tup, ixD_tup0, ixD_tup1, ixD_tup2, ixD_lst0, ixD_lst1, ixD_lst2, ixD_lst3, Res.bind_ok, Res.bind_exc, Res.bind_stuck, andThen_ok, andThen_exc, andS_nx, andS_rt, andS_ex, andS_bk, andS_ct, loopO_nx, loopO_ct, loopO_bk, loopO_rt, loopO_ex, List.getElem?_cons_zero, List.getElem?_cons_succ, List.set_cons_zero, List.set_cons_succ, List.length_cons, List.length_nil, List.replicate, List.append_nil, List.nil_append, List.cons_append, Nat.zero_add, Nat.reduceAdd, Nat.reduceSub, Nat.reduceEqDiff, Nat.reduceLT, Bool.and_true, Bool.true_and, Bool.and_false, Bool.false_and, Bool.not_true, Bool.not_false, Bool.false_eq_true, decide_true, decide_false, decide_eq_true_eq, ite_true, ite_false, if_true, if_false, Bool.and_self, Bool.not_not, and_self, and_true, true_and, not_true_eq_false, not_false_eq_true, ckLen_ok, Nat.reduceLeDiff, fld_name, fld_first, fld_second, fld_needs, tn0, tn1, tn2, onC_dD, onCI_dD, cf_str, cf_tn, ↓eMk_at, dD_fold, frz_at, asStr_str, eJoin_at, ↓eFs_at, catP_nil, empty_app, isLst_str, isLst_dD, isLst_non, nc0, nc1, nc2, nc3, nc4, nc5, nc6, nc7, nc8, nc9, nc10, nc11, nc12, Int.reduceEq, Int.reduceLT, Int.reduceLE, Int.reduceNeg, ok1_ok, wipeR_nil, wipeR_cons, ki_names, ki_present, ki_dishes, ki_longest, onC_ki, onCI_ki, isLst_ki, slLst_hi, slLst_lo, slTup_hi, slTup_lo, h, reduceIte]
    rw [List.getD_eq_getElem?_getD, List.getElem?_eq_none (by omega)]
    rfl
theorem draw_ok (x : Int) (k : Nat) (m : Int) (hk : k < 1000) (hm : 0 < m) : ∃ r : Int, F_w_draw [.int x, .int k, .int m] = .ok (.int r) ∧ 0 ≤ r ∧ r < m := by
  unfold F_w_draw den_w_draw
  have p18 : powD (.int 10) (.int 18) = .ok (.int 1000000000000000000) := pow_lit (by decide) (by decide)
  simp only [runD_at, entryS_at, slF_t, slF_f, slD_int, slD_str, slD_bl, slD_lst, List.zipWith_cons_cons, List.zipWith_nil_left, List.map, List.length, sSeq_at, sNil_at, sRet_at, sRetN_at, sRetNone_at, sIf_at, sSet_at, sSetN_at, sExpr_at, sPar_at, sTgt_at, sMut_at, sPut_at, sFor_at, sRaise_at, sTry_at, atT_at, Rho.set_mk, gN_at, forL_nil, forL_cons, outR_rt, outR_nx, outR_ex, isLst_int, isLst_bl, isLst_tup, ckFlat_int, ckFlat_bl, e1_at, e2_at, e3c_at, cD_at, aNil_at, aCons_at, eTup_at, eLst_at, toL_at, vS_at, vB_at, eAnd_at, eOr_at, eNot_at, vAnd_at, vOr_at, vNot_at, eIf_at, eSl_at, asBl_bl, asInt_int, asLst_lst, addD_int, addI_int, subD_int, negD_int, ltB_int, leB_int, gtB_int, geB_int, eqB_int, neB_int, eqB_str, neB_str, intK_int, absN, lenK_lst, lenK_tup, ixD_tup0, ixD_tup1, ixD_tup2, ixD_lst0, ixD_lst1, ixD_lst2, ixD_lst3, Res.bind_ok, Res.bind_exc, Res.bind_stuck, andThen_ok, andThen_exc, andS_nx, andS_rt, andS_ex, andS_bk, andS_ct, loopO_nx, loopO_ct, loopO_bk, loopO_rt, loopO_ex, List.getElem?_cons_zero, List.getElem?_cons_succ, List.set_cons_zero, List.set_cons_succ, List.length_cons, List.length_nil, List.replicate, List.append_nil, List.nil_append, List.cons_append, Nat.zero_add, Nat.reduceAdd, Nat.reduceSub, Nat.reduceEqDiff, Nat.reduceLT, Bool.and_true, Bool.true_and, Bool.and_false, Bool.false_and, Bool.not_true, Bool.not_false, Bool.false_eq_true, decide_true, decide_false, decide_eq_true_eq, ite_true, ite_false, if_true, if_false, Bool.and_self, Bool.not_not, and_self, and_true, true_and, not_true_eq_false, not_false_eq_true, ckLen_ok, Nat.reduceLeDiff, fld_name, fld_first, fld_second, fld_needs, tn0, tn1, tn2, onC_dD, onCI_dD, cf_str, cf_tn, ↓eMk_at, dD_fold, frz_at, asStr_str, eJoin_at, ↓eFs_at, catP_nil, empty_app, isLst_str, isLst_dD, isLst_non, nc0, nc1, nc2, nc3, nc4, nc5, nc6, nc7, nc8, nc9, nc10, nc11, nc12, Int.reduceEq, Int.reduceLT, Int.reduceLE, Int.reduceNeg, ok1_ok, wipeR_nil, wipeR_cons, ki_names, ki_present, ki_dishes, ki_longest, onC_ki, onCI_ki, isLst_ki, slLst_hi, slLst_lo, slTup_hi, slTup_lo, p18, reduceIte]
  by_cases h : 1000000000000000000 ≤ x
  · have lp : ∀ (ds : List D) (a : Int) (y : Sl), ∃ (b : Int) (y' : Sl), forL (atT (gN 3) fb_w_draw_0) ds ⟨[Sl.sh (D.int a), Sl.sh (D.int ↑k), Sl.sh (D.int m), y, Sl.no, Sl.no, Sl.no], none⟩ = .nx ⟨[Sl.sh (D.int b), Sl.sh (D.int ↑k), Sl.sh (D.int m), y', Sl.no, Sl.no, Sl.no], none⟩ := by
      intro ds
      induction ds with
      | nil => exact fun a y => ⟨a, y, rfl⟩
      | cons d ds ih =>
        intro a y
        simp only [runD_at, entryS_at, slF_t, slF_f, slD_int, slD_str, slD_bl, slD_lst, List.zipWith_cons_cons, List.zipWith_nil_left, List.map, List.length, sSeq_at, sNil_at, sRet_at, sRetN_at, sRetNone_at, sIf_at, sSet_at, sSetN_at, sExpr_at, sPar_at, sTgt_at, sMut_at, sPut_at, sFor_at, sRaise_at, sTry_at, atT_at, Rho.set_mk, gN_at, forL_nil, forL_cons, outR_rt, outR_nx, outR_ex, isLst_int, isLst_bl, isLst_tup, ckFlat_int, ckFlat_bl, e1_at, e2_at, e3c_at, cD_at, aNil_at, aCons_at, eTup_at, eLst_at, toL_at, vS_at, vB_at, eAnd_at, eOr_at, eNot_at, vAnd_at, vOr_at, vNot_at, eIf_at, eSl_at, asBl_bl, asInt_int, asLst_lst, addD_int, addI_int, subD_int, negD_int, ltB_int, leB_int, gtB_int, geB_int, eqB_int, neB_int, eqB_str, neB_str, intK_int, absN, lenK_lst, lenK_tup, ixD_tup0, ixD_tup1, ixD_tup2, ixD_lst0, ixD_lst1, ixD_lst2, ixD_lst3, Res.bind_ok, Res.bind_exc, Res.bind_stuck, andThen_ok, andThen_exc, andS_nx, andS_rt, andS_ex, andS_bk, andS_ct, loopO_nx, loopO_ct, loopO_bk, loopO_rt, loopO_ex, List.getElem?_cons_zero, List.getElem?_cons_succ, List.set_cons_zero, List.set_cons_succ, List.length_cons, List.length_nil, List.replicate, List.append_nil, List.nil_append, List.cons_append, Nat.zero_add, Nat.reduceAdd, Nat.reduceSub, Nat.reduceEqDiff, Nat.reduceLT, Bool.and_true, Bool.true_and, Bool.and_false, Bool.false_and, Bool.not_true, Bool.not_false, Bool.false_eq_true, decide_true, decide_false, decide_eq_true_eq, ite_true, ite_false, if_true, if_false, Bool.and_self, Bool.not_not, and_self, and_true, true_and, not_true_eq_false, not_false_eq_true, ckLen_ok, Nat.reduceLeDiff, fld_name, fld_first, fld_second, fld_needs, tn0, tn1, tn2, onC_dD, onCI_dD, cf_str, cf_tn, ↓eMk_at, dD_fold, frz_at, asStr_str, eJoin_at, ↓eFs_at, catP_nil, empty_app, isLst_str, isLst_dD, isLst_non, nc0, nc1, nc2, nc3, nc4, nc5, nc6, nc7, nc8, nc9, nc10, nc11, nc12, Int.reduceEq, Int.reduceLT, Int.reduceLE, Int.reduceNeg, ok1_ok, wipeR_nil, wipeR_cons, ki_names, ki_present, ki_dishes, ki_longest, onC_ki, onCI_ki, isLst_ki, slLst_hi, slLst_lo, slTup_hi, slTup_lo, fb_w_draw_0, fdivD_small (i := a) (j := 1000) (by decide) (by decide), reduceIte]
        exact ih _ _
    have rg : rg1 [D.int (k : Int)] = .ok (rgItems 0 k) := by
      show (if rgOk (k : Int) = true then Res.ok (rgItems 0 (k : Int).toNat) else Res.stuck) = _
      rw [if_pos (by unfold rgOk; apply decide_eq_true; omega)]
      rfl
    obtain ⟨b, y', e⟩ := lp (rgItems 0 k) x .no
    simp only [runD_at, entryS_at, slF_t, slF_f, slD_int, slD_str, slD_bl, slD_lst, List.zipWith_cons_cons, List.zipWith_nil_left, List.map, List.length, sSeq_at, sNil_at, sRet_at, sRetN_at, sRetNone_at, sIf_at, sSet_at, sSetN_at, sExpr_at, sPar_at, sTgt_at, sMut_at, sPut_at, sFor_at, sRaise_at, sTry_at, atT_at, Rho.set_mk, gN_at, forL_nil, forL_cons, outR_rt, outR_nx, outR_ex, isLst_int, isLst_bl, isLst_tup, ckFlat_int, ckFlat_bl, e1_at, e2_at, e3c_at, cD_at, aNil_at, aCons_at, eTup_at, eLst_at, toL_at, vS_at, vB_at, eAnd_at, eOr_at, eNot_at, vAnd_at, vOr_at, vNot_at, eIf_at, eSl_at, asBl_bl, asInt_int, asLst_lst, addD_int, addI_int, subD_int, negD_int, ltB_int, leB_int, gtB_int, geB_int, eqB_int, neB_int, eqB_str, neB_str, intK_int, absN, lenK_lst, lenK_tup, ixD_tup0, ixD_tup1, ixD_tup2, ixD_lst0, ixD_lst1, ixD_lst2, ixD_lst3, Res.bind_ok, Res.bind_exc, Res.bind_stuck, andThen_ok, andThen_exc, andS_nx, andS_rt, andS_ex, andS_bk, andS_ct, loopO_nx, loopO_ct, loopO_bk, loopO_rt, loopO_ex, List.getElem?_cons_zero, List.getElem?_cons_succ, List.set_cons_zero, List.set_cons_succ, List.length_cons, List.length_nil, List.replicate, List.append_nil, List.nil_append, List.cons_append, Nat.zero_add, Nat.reduceAdd, Nat.reduceSub, Nat.reduceEqDiff, Nat.reduceLT, Bool.and_true, Bool.true_and, Bool.and_false, Bool.false_and, Bool.not_true, Bool.not_false, Bool.false_eq_true, decide_true, decide_false, decide_eq_true_eq, ite_true, ite_false, if_true, if_false, Bool.and_self, Bool.not_not, and_self, and_true, true_and, not_true_eq_false, not_false_eq_true, ckLen_ok, Nat.reduceLeDiff, fld_name, fld_first, fld_second, fld_needs, tn0, tn1, tn2, onC_dD, onCI_dD, cf_str, cf_tn, ↓eMk_at, dD_fold, frz_at, asStr_str, eJoin_at, ↓eFs_at, catP_nil, empty_app, isLst_str, isLst_dD, isLst_non, nc0, nc1, nc2, nc3, nc4, nc5, nc6, nc7, nc8, nc9, nc10, nc11, nc12, Int.reduceEq, Int.reduceLT, Int.reduceLE, Int.reduceNeg, ok1_ok, wipeR_nil, wipeR_cons, ki_names, ki_present, ki_dishes, ki_longest, onC_ki, onCI_ki, isLst_ki, slLst_hi, slLst_lo, slTup_hi, slTup_lo, h, rg, e, modD_int (i := b) (j := 1000) (by decide), modD_int hm, reduceIte]
    exact ⟨_, rfl, Int.emod_nonneg _ (by omega), Int.emod_lt_of_pos _ hm⟩
  · simp only [runD_at, entryS_at, slF_t, slF_f, slD_int, slD_str, slD_bl, slD_lst, List.zipWith_cons_cons, List.zipWith_nil_left, List.map, List.length, sSeq_at, sNil_at, sRet_at, sRetN_at, sRetNone_at, sIf_at, sSet_at, sSetN_at, sExpr_at, sPar_at, sTgt_at, sMut_at, sPut_at, sFor_at, sRaise_at, sTry_at, atT_at, Rho.set_mk, gN_at, forL_nil, forL_cons, outR_rt, outR_nx, outR_ex, isLst_int, isLst_bl, isLst_tup, ckFlat_int, ckFlat_bl, e1_at, e2_at, e3c_at, cD_at, aNil_at, aCons_at, eTup_at, eLst_at, toL_at, vS_at, vB_at, eAnd_at, eOr_at, eNot_at, vAnd_at, vOr_at, vNot_at, eIf_at, eSl_at, asBl_bl, asInt_int, asLst_lst, addD_int, addI_int, subD_int, negD_int, ltB_int, leB_int, gtB_int, geB_int, eqB_int, neB_int, eqB_str, neB_str, intK_int, absN, lenK_lst, lenK_tup, ixD_tup0, ixD_tup1, ixD_tup2, ixD_lst0, ixD_lst1, ixD_lst2, ixD_lst3, Res.bind_ok, Res.bind_exc, Res.bind_stuck, andThen_ok, andThen_exc, andS_nx, andS_rt, andS_ex, andS_bk, andS_ct, loopO_nx, loopO_ct, loopO_bk, loopO_rt, loopO_ex, List.getElem?_cons_zero, List.getElem?_cons_succ, List.set_cons_zero, List.set_cons_succ, List.length_cons, List.length_nil, List.replicate, List.append_nil, List.nil_append, List.cons_append, Nat.zero_add, Nat.reduceAdd, Nat.reduceSub, Nat.reduceEqDiff, Nat.reduceLT, Bool.and_true, Bool.true_and, Bool.and_false, Bool.false_and, Bool.not_true, Bool.not_false, Bool.false_eq_true, decide_true, decide_false, decide_eq_true_eq, ite_true, ite_false, if_true, if_false, Bool.and_self, Bool.not_not, and_self, and_true, true_and, not_true_eq_false, not_false_eq_true, ckLen_ok, Nat.reduceLeDiff, fld_name, fld_first, fld_second, fld_needs, tn0, tn1, tn2, onC_dD, onCI_dD, cf_str, cf_tn, ↓eMk_at, dD_fold, frz_at, asStr_str, eJoin_at, ↓eFs_at, catP_nil, empty_app, isLst_str, isLst_dD, isLst_non, nc0, nc1, nc2, nc3, nc4, nc5, nc6, nc7, nc8, nc9, nc10, nc11, nc12, Int.reduceEq, Int.reduceLT, Int.reduceLE, Int.reduceNeg, ok1_ok, wipeR_nil, wipeR_cons, ki_names, ki_present, ki_dishes, ki_longest, onC_ki, onCI_ki, isLst_ki, slLst_hi, slLst_lo, slTup_hi, slTup_lo, h, mulD_int (i := x) (j := 48271) (mulOk_r (by decide) (by decide)), reduceIte]
    have m1 : ∀ j : Int, mulD (.int (k : Int)) (.int j) = .ok (.int (k * j)) := fun j => mulD_int (mulOk_l (by omega) (by omega))
    have md : ∀ i j : Int, 0 < j → modD (.int i) (.int j) = .ok (.int (i % j)) := fun i j h => modD_int h
    simp only [runD_at, entryS_at, slF_t, slF_f, slD_int, slD_str, slD_bl, slD_lst, List.zipWith_cons_cons, List.zipWith_nil_left, List.map, List.length, sSeq_at, sNil_at, sRet_at, sRetN_at, sRetNone_at, sIf_at, sSet_at, sSetN_at, sExpr_at, sPar_at, sTgt_at, sMut_at, sPut_at, sFor_at, sRaise_at, sTry_at, atT_at, Rho.set_mk, gN_at, forL_nil, forL_cons, outR_rt, outR_nx, outR_ex, isLst_int, isLst_bl, isLst_tup, ckFlat_int, ckFlat_bl, e1_at, e2_at, e3c_at, cD_at, aNil_at, aCons_at, eTup_at, eLst_at, toL_at, vS_at, vB_at, eAnd_at, eOr_at, eNot_at, vAnd_at, vOr_at, vNot_at, eIf_at, eSl_at, asBl_bl, asInt_int, asLst_lst, addD_int, addI_int, subD_int, negD_int, ltB_int, leB_int, gtB_int, geB_int, eqB_int, neB_int, eqB_str, neB_str, intK_int, absN, lenK_lst, lenK_tup, ixD_tup0, ixD_tup1, ixD_tup2, ixD_lst0, ixD_lst1, ixD_lst2, ixD_lst3, Res.bind_ok, Res.bind_exc, Res.bind_stuck, andThen_ok, andThen_exc, andS_nx, andS_rt, andS_ex, andS_bk, andS_ct, loopO_nx, loopO_ct, loopO_bk, loopO_rt, loopO_ex, List.getElem?_cons_zero, List.getElem?_cons_succ, List.set_cons_zero, List.set_cons_succ, List.length_cons, List.length_nil, List.replicate, List.append_nil, List.nil_append, List.cons_append, Nat.zero_add, Nat.reduceAdd, Nat.reduceSub, Nat.reduceEqDiff, Nat.reduceLT, Bool.and_true, Bool.true_and, Bool.and_false, Bool.false_and, Bool.not_true, Bool.not_false, Bool.false_eq_true, decide_true, decide_false, decide_eq_true_eq, ite_true, ite_false, if_true, if_false, Bool.and_self, Bool.not_not, and_self, and_true, true_and, not_true_eq_false, not_false_eq_true, ckLen_ok, Nat.reduceLeDiff, fld_name, fld_first, fld_second, fld_needs, tn0, tn1, tn2, onC_dD, onCI_dD, cf_str, cf_tn, ↓eMk_at, dD_fold, frz_at, asStr_str, eJoin_at, ↓eFs_at, catP_nil, empty_app, isLst_str, isLst_dD, isLst_non, nc0, nc1, nc2, nc3, nc4, nc5, nc6, nc7, nc8, nc9, nc10, nc11, nc12, Int.reduceEq, Int.reduceLT, Int.reduceLE, Int.reduceNeg, ok1_ok, wipeR_nil, wipeR_cons, ki_names, ki_present, ki_dishes, ki_longest, onC_ki, onCI_ki, isLst_ki, slLst_hi, slLst_lo, slTup_hi, slTup_lo, m1, md _ 2147483647 (by decide), reduceIte]
    have b1 := Int.emod_nonneg (x * 48271 + ↑k * 69621 + 12345) (b := 2147483647) (by decide)
    have b2 := Int.emod_lt_of_pos (x * 48271 + ↑k * 69621 + 12345) (b := 2147483647) (by decide)
    generalize (x * 48271 + ↑k * 69621 + 12345) % 2147483647 = y at b1 b2
    simp only [runD_at, entryS_at, slF_t, slF_f, slD_int, slD_str, slD_bl, slD_lst, List.zipWith_cons_cons, List.zipWith_nil_left, List.map, List.length, sSeq_at, sNil_at, sRet_at, sRetN_at, sRetNone_at, sIf_at, sSet_at, sSetN_at, sExpr_at, sPar_at, sTgt_at, sMut_at, sPut_at, sFor_at, sRaise_at, sTry_at, atT_at, Rho.set_mk, gN_at, forL_nil, forL_cons, outR_rt, outR_nx, outR_ex, isLst_int, isLst_bl, isLst_tup, ckFlat_int, ckFlat_bl, e1_at, e2_at, e3c_at, cD_at, aNil_at, aCons_at, eTup_at, eLst_at, toL_at, vS_at, vB_at, eAnd_at, eOr_at, eNot_at, vAnd_at, vOr_at, vNot_at, eIf_at, eSl_at, asBl_bl, asInt_int, asLst_lst, addD_int, addI_int, subD_int, negD_int, ltB_int, leB_int, gtB_int, geB_int, eqB_int, neB_int, eqB_str, neB_str, intK_int, absN, lenK_lst, lenK_tup, ixD_tup0, ixD_tup1, ixD_tup2, ixD_lst0, ixD_lst1, ixD_lst2, ixD_lst3, Res.bind_ok, Res.bind_exc, Res.bind_stuck, andThen_ok, andThen_exc, andS_nx, andS_rt, andS_ex, andS_bk, andS_ct, loopO_nx, loopO_ct, loopO_bk, loopO_rt, loopO_ex, List.getElem?_cons_zero, List.getElem?_cons_succ, List.set_cons_zero, List.set_cons_succ, List.length_cons, List.length_nil, List.replicate, List.append_nil, List.nil_append, List.cons_append, Nat.zero_add, Nat.reduceAdd, Nat.reduceSub, Nat.reduceEqDiff, Nat.reduceLT, Bool.and_true, Bool.true_and, Bool.and_false, Bool.false_and, Bool.not_true, Bool.not_false, Bool.false_eq_true, decide_true, decide_false, decide_eq_true_eq, ite_true, ite_false, if_true, if_false, Bool.and_self, Bool.not_not, and_self, and_true, true_and, not_true_eq_false, not_false_eq_true, ckLen_ok, Nat.reduceLeDiff, fld_name, fld_first, fld_second, fld_needs, tn0, tn1, tn2, onC_dD, onCI_dD, cf_str, cf_tn, ↓eMk_at, dD_fold, frz_at, asStr_str, eJoin_at, ↓eFs_at, catP_nil, empty_app, isLst_str, isLst_dD, isLst_non, nc0, nc1, nc2, nc3, nc4, nc5, nc6, nc7, nc8, nc9, nc10, nc11, nc12, Int.reduceEq, Int.reduceLT, Int.reduceLE, Int.reduceNeg, ok1_ok, wipeR_nil, wipeR_cons, ki_names, ki_present, ki_dishes, ki_longest, onC_ki, onCI_ki, isLst_ki, slLst_hi, slLst_lo, slTup_hi, slTup_lo, mulD_int (i := y) (j := y) (mulOk_l (by omega) (by omega)), md _ 2147483629 (by decide), reduceIte]
    have c1 := Int.emod_nonneg (y * y + ↑k * 48271 + 777) (b := 2147483629) (by decide)
    have c2 := Int.emod_lt_of_pos (y * y + ↑k * 48271 + 777) (b := 2147483629) (by decide)
    generalize (y * y + ↑k * 48271 + 777) % 2147483629 = z at c1 c2
    simp only [runD_at, entryS_at, slF_t, slF_f, slD_int, slD_str, slD_bl, slD_lst, List.zipWith_cons_cons, List.zipWith_nil_left, List.map, List.length, sSeq_at, sNil_at, sRet_at, sRetN_at, sRetNone_at, sIf_at, sSet_at, sSetN_at, sExpr_at, sPar_at, sTgt_at, sMut_at, sPut_at, sFor_at, sRaise_at, sTry_at, atT_at, Rho.set_mk, gN_at, forL_nil, forL_cons, outR_rt, outR_nx, outR_ex, isLst_int, isLst_bl, isLst_tup, ckFlat_int, ckFlat_bl, e1_at, e2_at, e3c_at, cD_at, aNil_at, aCons_at, eTup_at, eLst_at, toL_at, vS_at, vB_at, eAnd_at, eOr_at, eNot_at, vAnd_at, vOr_at, vNot_at, eIf_at, eSl_at, asBl_bl, asInt_int, asLst_lst, addD_int, addI_int, subD_int, negD_int, ltB_int, leB_int, gtB_int, geB_int, eqB_int, neB_int, eqB_str, neB_str, intK_int, absN, lenK_lst, lenK_tup, ixD_tup0, ixD_tup1, ixD_tup2, ixD_lst0, ixD_lst1, ixD_lst2, ixD_lst3, Res.bind_ok, Res.bind_exc, Res.bind_stuck, andThen_ok, andThen_exc, andS_nx, andS_rt, andS_ex, andS_bk, andS_ct, loopO_nx, loopO_ct, loopO_bk, loopO_rt, loopO_ex, List.getElem?_cons_zero, List.getElem?_cons_succ, List.set_cons_zero, List.set_cons_succ, List.length_cons, List.length_nil, List.replicate, List.append_nil, List.nil_append, List.cons_append, Nat.zero_add, Nat.reduceAdd, Nat.reduceSub, Nat.reduceEqDiff, Nat.reduceLT, Bool.and_true, Bool.true_and, Bool.and_false, Bool.false_and, Bool.not_true, Bool.not_false, Bool.false_eq_true, decide_true, decide_false, decide_eq_true_eq, ite_true, ite_false, if_true, if_false, Bool.and_self, Bool.not_not, and_self, and_true, true_and, not_true_eq_false, not_false_eq_true, ckLen_ok, Nat.reduceLeDiff, fld_name, fld_first, fld_second, fld_needs, tn0, tn1, tn2, onC_dD, onCI_dD, cf_str, cf_tn, ↓eMk_at, dD_fold, frz_at, asStr_str, eJoin_at, ↓eFs_at, catP_nil, empty_app, isLst_str, isLst_dD, isLst_non, nc0, nc1, nc2, nc3, nc4, nc5, nc6, nc7, nc8, nc9, nc10, nc11, nc12, Int.reduceEq, Int.reduceLT, Int.reduceLE, Int.reduceNeg, ok1_ok, wipeR_nil, wipeR_cons, ki_names, ki_present, ki_dishes, ki_longest, onC_ki, onCI_ki, isLst_ki, slLst_hi, slLst_lo, slTup_hi, slTup_lo, mulD_int (i := z) (j := z) (mulOk_l (by omega) (by omega)), md _ 2147483587 (by decide), fdivD_small (j := 8) (by decide) (by decide), md _ m hm, reduceIte]
    exact ⟨_, rfl, Int.emod_nonneg _ (by omega), Int.emod_lt_of_pos _ hm⟩
theorem pick_i (ns : List Int) (k : Int) (h : 0 ≤ k) : F_w_pick [.lst (ns.map .int), .int k] = .ok (.int (ns.getD k.toNat 0)) := by
  have := pick_ok ns k.toNat
  rwa [show ((k.toNat : Nat) : Int) = k from Int.toNat_of_nonneg h] at this
theorem drw (x k m : Int) (h0 : 0 ≤ k) (h1 : k < 1000) (hm : 0 < m) : ∃ r : Nat, F_w_draw [.int x, .int k, .int m] = .ok (.int (r : Int)) ∧ (r : Int) < m := by
  obtain ⟨r, e, r0, r1⟩ := draw_ok x k.toNat m (by omega) hm
  refine ⟨r.toNat, ?_, by omega⟩
  rw [show ((k.toNat : Nat) : Int) = k from Int.toNat_of_nonneg h0] at e
  rw [e, show ((r.toNat : Nat) : Int) = r from Int.toNat_of_nonneg r0]
/-- pick and draw as functions -/
def pk (ns : List Int) (k : Int) : Int := ns.getD k.toNat 0
noncomputable def dr (x k m : Int) : Nat := if h : 0 ≤ k ∧ k < 1000 ∧ 0 < m then Classical.choose (drw x k m h.1 h.2.1 h.2.2) else 0
theorem dr_ok {x k m : Int} (h0 : 0 ≤ k) (h1 : k < 1000) (hm : 0 < m) : F_w_draw [.int x, .int k, .int m] = .ok (.int (dr x k m : Int)) := by
  unfold dr
  rw [dif_pos ⟨h0, h1, hm⟩]
  exact (Classical.choose_spec (drw x k m h0 h1 hm)).1
theorem dr_lt {x k m : Int} (h0 : 0 ≤ k) (h1 : k < 1000) (hm : 0 < m) : (dr x k m : Int) < m := by
  unfold dr
  rw [dif_pos ⟨h0, h1, hm⟩]
  exact (Classical.choose_spec (drw x k m h0 h1 hm)).2
theorem pk_ok {ns : List Int} {k : Int} (h : 0 ≤ k) : F_w_pick [.lst (ns.map .int), .int k] = .ok (.int (pk ns k)) := pick_i ns k h
end Kx

set_option Elab.async false
set_option linter.all false
set_option maxRecDepth 100000
set_option maxHeartbeats 1000000
namespace Kx
open PySem PySem.Spec L2 Dv
open PyProof.Rows hiding St
/-- the word's letters -/
theorem word_ok (o : Int) {l : List Sl} (h9 : l[9]? = some (.sh (.str letters))) (h7 : l[7]? = some (.sh (.int o))) (hl : 11 < l.length) : ∀ js : List Nat, (∀ j ∈ js, j < 900) → ∃ ys : List Nat, ys.length = js.length ∧ (∀ y ∈ ys, y ∈ letters.cps.toList) ∧
    mapL (lcOne (gN 11) l_w_namelist_0 ⟨l, none⟩) (js.map fun j => .int ((0 : Int) + (j : Nat))) = .ok ((ys.map st1).map .str) := by
  intro js
  induction js with
  | nil => exact fun _ => ⟨[], rfl, fun y h => (by cases h), rfl⟩
  | cons j js ih =>
    intro h
    obtain ⟨ys, e1, e2, e3⟩ := ih fun i hi => h i (List.mem_cons_of_mem _ hi)
    have hj := h j List.mem_cons_self
    obtain ⟨r, d, q⟩ := drw o (4 + (j : Int)) 26 (by omega) (by omega) (by decide)
    have hr : r < letters.cps.toList.length := by
      have : letters.cps.toList.length = 26 := by decide +kernel
      omega
    refine ⟨letters.cps.toList[r] :: ys, by rw [List.length_cons, List.length_cons, e1], fun y hy => ?_, ?_⟩
    · rcases List.mem_cons.mp hy with e | e
      · rw [e]; exact List.getElem_mem hr
      · exact e2 y e
    · rw [List.map_cons, Int.zero_add]
      show (lcOne _ _ ⟨l, none⟩ (.int (j : Int))).bind (fun y => (mapL _ (js.map fun j => .int ((0 : Int) + (j : Nat)))).bind fun ys => .ok (y :: ys)) = _
      rw [e3]
      have g9 : (l.set 11 (.sh (.int (j : Int))))[9]? = some (.sh (.str letters)) := by rw [List.getElem?_set_ne (by decide)]; exact h9
      have g7 : (l.set 11 (.sh (.int (j : Int))))[7]? = some (.sh (.int o)) := by rw [List.getElem?_set_ne (by decide)]; exact h7
      have g11 : (l.set 11 (.sh (.int (j : Int))))[11]? = some (.sh (.int (j : Int))) := List.getElem?_set_self hl
      have one : lcOne (gN 11) l_w_namelist_0 ⟨l, none⟩ (.int (j : Int)) = .ok (.str (st1 letters.cps.toList[r])) := by
        unfold lcOne
        rw [gN_at]
        have : l_w_namelist_0 ((Rho.mk l none).set 11 (.sh (.int (j : Int)))) = .ok (.str (st1 letters.cps.toList[r])) := by
          unfold l_w_namelist_0
          simp only [runD_at, entryS_at, slF_t, slF_f, slD_int, slD_str, slD_bl, slD_lst, List.zipWith_cons_cons, List.zipWith_nil_left, List.map, List.length, sSeq_at, sNil_at, sRet_at, sRetN_at, sRetNone_at, sIf_at, sSet_at, sSetN_at, sExpr_at, sPar_at, sTgt_at, sMut_at, sPut_at, sFor_at, sRaise_at, sTry_at, atT_at, Rho.set_mk, gN_at, forL_nil, forL_cons, outR_rt, outR_nx, outR_ex, isLst_int, isLst_bl, isLst_tup, ckFlat_int, ckFlat_bl, e1_at, e2_at, e3c_at, cD_at, aNil_at, aCons_at, eTup_at, eLst_at, toL_at, vS_at, vB_at, eAnd_at, eOr_at, eNot_at, vAnd_at, vOr_at, vNot_at, eIf_at, eSl_at, asBl_bl, asInt_int, asLst_lst, addD_int, addI_int, subD_int, negD_int, ltB_int, leB_int, gtB_int, geB_int, eqB_int, neB_int, eqB_str, neB_str, intK_int, absN, lenK_lst, lenK_tup, ixD_tup0, ixD_tup1, ixD_tup2, ixD_lst0, ixD_lst1, ixD_lst2, ixD_lst3, Res.bind_ok, Res.bind_exc, Res.bind_stuck, andThen_ok, andThen_exc, andS_nx, andS_rt, andS_ex, andS_bk, andS_ct, loopO_nx, loopO_ct, loopO_bk, loopO_rt, loopO_ex, List.getElem?_cons_zero, List.getElem?_cons_succ, List.set_cons_zero, List.set_cons_succ, List.length_cons, List.length_nil, List.replicate, List.append_nil, List.nil_append, List.cons_append, Nat.zero_add, Nat.reduceAdd, Nat.reduceSub, Nat.reduceEqDiff, Nat.reduceLT, Bool.and_true, Bool.true_and, Bool.and_false, Bool.false_and, Bool.not_true, Bool.not_false, Bool.false_eq_true, decide_true, decide_false, decide_eq_true_eq, ite_true, ite_false, if_true, if_false, Bool.and_self, Bool.not_not, and_self, and_true, true_and, not_true_eq_false, not_false_eq_true, ckLen_ok, Nat.reduceLeDiff, fld_name, fld_first, fld_second, fld_needs, tn0, tn1, tn2, onC_dD, onCI_dD, cf_str, cf_tn, ↓eMk_at, dD_fold, frz_at, asStr_str, eJoin_at, ↓eFs_at, catP_nil, empty_app, isLst_str, isLst_dD, isLst_non, nc0, nc1, nc2, nc3, nc4, nc5, nc6, nc7, nc8, nc9, nc10, nc11, nc12, Int.reduceEq, Int.reduceLT, Int.reduceLE, Int.reduceNeg, ok1_ok, wipeR_nil, wipeR_cons, ki_names, ki_present, ki_dishes, ki_longest, onC_ki, onCI_ki, isLst_ki, slLst_hi, slLst_lo, slTup_hi, slTup_lo, g9, g7, g11, d, ix_str hr (by decide +kernel), cf_str, reduceIte]
        dsimp only
        rw [this]
      rw [one]
      rfl
/-- the words with their k-th tool's letter at one place -/
def Lt8 (p t : Nat) (l : List Str) : Prop := ∀ (k : Nat) (n : Str), l[k]? = some n → n.cps.toList[p]? = ("mctahzkd" : Str).cps.toList[(k + t) % 8]?
theorem Lt8.nodup {p t : Nat} {l : List Str} (h : Lt8 p t l) (hl : l.length ≤ 8) : l.Nodup := by
  refine List.pairwise_iff_getElem.mpr fun i j hi hj hij e' => ?_
  have h1 := h i l[i] (List.getElem?_eq_getElem hi)
  have h2 := h j l[j] (List.getElem?_eq_getElem hj)
  rw [e', h2] at h1
  have nd : ∀ a < 8, ∀ b < 8, ("mctahzkd" : Str).cps.toList[a]? = ("mctahzkd" : Str).cps.toList[b]? → a = b := by decide +kernel
  have := nd _ (Nat.mod_lt _ (by decide)) _ (Nat.mod_lt _ (by decide)) h1
  omega
theorem namelist_nd (x m : Int) (hm : 0 ≤ m) (hm2 : m ≤ 50) : ∃ names : List Str, names.length = m.toNat ∧ (∀ z ∈ names, NameOk z) ∧ F_w_namelist [.int x, .int m] = .ok (.lst (names.map .str)) ∧ (m ≤ 8 → names.Nodup) := by
  unfold F_w_namelist den_w_namelist
  obtain ⟨r0, d0, q0⟩ := drw x 0 2 (by decide) (by decide) (by decide)
  obtain ⟨p, d1, q1⟩ := drw x 1 12 (by decide) (by decide) (by decide)
  obtain ⟨t, d2, q2⟩ := drw x 2 8 (by decide) (by decide) (by decide)
  obtain ⟨al, hal⟩ : ∃ al : Bool, decide ((r0 : Int) = 0) = al := ⟨_, rfl⟩
  have lp : ∀ (js : List Nat) (l : List Str) (a6 a7 a8 a9 a10 : Sl), l.length + js.length ≤ 99 → (∀ j ∈ js, j < 1000) → (∀ n ∈ l, NameOk n) → js = List.range' l.length js.length → Lt8 p t l → ∃ (l' : List Str) (b6 b7 b8 b9 b10 : Sl), l'.length = l.length + js.length ∧ (∀ n ∈ l', NameOk n) ∧ Lt8 p t l' ∧
      forL (atT (gN 6) fb_w_namelist_0)
        (js.map fun j => .int ((0 : Int) + (j : Nat))) ⟨[.sh (.int x), .sh (.int m), .sh (.bl al), .sh (.int (p : Int)), .sh (.int (t : Int)), .ow (l.map .str), a6, a7, a8, a9, a10, .no], none⟩ = .nx ⟨[.sh (.int x), .sh (.int m), .sh (.bl al), .sh (.int (p : Int)), .sh (.int (t : Int)), .ow (l'.map .str), b6, b7, b8, b9, b10, .no], none⟩ := by
    intro js
    induction js with
    | nil => exact fun l a6 a7 a8 a9 a10 _ _ hl _ hP => ⟨l, a6, a7, a8, a9, a10, rfl, hl, hP, rfl⟩
    | cons j js ih =>
      intro l a6 a7 a8 a9 a10 h hj hl hr hP
      rw [List.length_cons] at h hr
      rw [List.range'_succ] at hr
      obtain ⟨ej, hr'⟩ := List.cons.inj hr
      have hj0 := hj j List.mem_cons_self
      obtain ⟨o, ho⟩ : ∃ o : Int, o = (if al = true then x else x + 1 + (j : Int)) := ⟨_, rfl⟩
      obtain ⟨r3, d3, q3⟩ := drw o 3 (12 - (p : Int)) (by decide) (by decide) (by omega)
      obtain ⟨ys, y1, y2, y3⟩ := word_ok o (l := [.sh (.int x), .sh (.int m), .sh (.bl al), .sh (.int (p : Int)), .sh (.int (t : Int)), .ow (l.map .str), .sh (.int (j : Int)), .sh (.int o), .sh (.int ((p : Int) + (r3 : Int))),   .sh (.str letters), a10, .no]) rfl rfl (by simp) (List.range (p + r3)) (fun i hi => by have := List.mem_range.mp hi; omega)
      rw [List.length_range] at y1
      obtain ⟨w, hw⟩ : ∃ w : Str, Txt.join "" (ys.map st1) = w := ⟨_, rfl⟩
      have wl : w.cps.toList = ys := by rw [← hw]; exact joined ys
      have ws : w.cps.size = p + r3 := by rw [size_tl, wl, y1]
      have k8 : ((j : Int) + (t : Int)) % 8 = (((j + t) % 8 : Nat) : Int) := by omega
      have hk : (j + t) % 8 < ("mctahzkd" : Str).cps.toList.length := by
        have : ("mctahzkd" : Str).cps.toList.length = 8 := by decide +kernel
        omega
      obtain ⟨u, hu⟩ : ∃ u : Nat, ("mctahzkd" : Str).cps.toList[(j + t) % 8] = u := ⟨_, rfl⟩
      have hu2 : u ∈ letters.cps.toList := by rw [← hu]; exact tools_in _ (List.getElem_mem hk)
      have c1 := cut_lo w p
      have c2 := cut_hi w p
      have hmin : min p w.length = p := by have : w.length = p + r3 := ws; omega
      rw [hmin, wl] at c1 c2
      obtain ⟨z1, hz1⟩ : ∃ z1 : Str, cutS w none (some (p : Int)) = z1 := ⟨_, rfl⟩
      obtain ⟨z2, hz2⟩ : ∃ z2 : Str, cutS w (some (p : Int)) none = z2 := ⟨_, rfl⟩
      rw [hz1] at c1
      rw [hz2] at c2
      have s1 : z1.cps.size = p := by rw [size_tl, c1, List.length_take, y1]; omega
      have s2 : z2.cps.size = r3 := by rw [size_tl, c2, List.length_drop, y1]; omega
      have zl : (z1 ++ st1 u ++ z2).cps.toList = ys.take p ++ [u] ++ ys.drop p := by
        show TL.tl (z1 ++ st1 u ++ z2) = _
        rw [TL.tl_append, TL.tl_append]
        show z1.cps.toList ++ [u] ++ z2.cps.toList = _
        rw [c1, c2]
      have zs : (z1 ++ st1 u ++ z2).cps.size = p + r3 + 1 := by
        rw [size_tl, zl]
        simp only [List.length_append, List.length_take, List.length_drop, List.length_cons, List.length_nil, y1]
        omega
      have zo : NameOk (z1 ++ st1 u ++ z2) := ⟨by rw [zs]; omega, by rw [zs]; omega, fun e he => by
        rw [zl] at he
        rcases List.mem_append.mp he with he | he
        · rcases List.mem_append.mp he with he | he
          · exact y2 e (List.mem_of_mem_take he)
          · rw [List.mem_singleton.mp he]; exact hu2
        · exact y2 e (List.mem_of_mem_drop he)⟩
      have hP' : Lt8 p t (l ++ [z1 ++ st1 u ++ z2]) := fun k n hk' => by
        rcases Nat.lt_trichotomy k l.length with c | c | c
        · rw [List.getElem?_append_left c] at hk'
          exact hP k n hk'
        · subst c
          rw [List.getElem?_append_right (Nat.le_refl _), Nat.sub_self] at hk'
          have en : z1 ++ st1 u ++ z2 = n := by simpa using hk'
          rw [← en, zl, List.append_assoc, List.getElem?_append_right (by rw [List.length_take, y1]; omega)]
          have : p - (ys.take p).length = 0 := by rw [List.length_take, y1]; omega
          rw [this, ← ej, List.getElem?_eq_getElem hk, hu]
          rfl
        · rw [List.getElem?_eq_none (by rw [List.length_append]; simp; omega)] at hk'
          cases hk'
      obtain ⟨l', b6, b7, b8, b9, b10, e1, e2, e4, e3⟩ := ih (l ++ [z1 ++ st1 u ++ z2]) (.sh (.int (j : Int))) (.sh (.int o)) (.sh (.int ((p : Int) + (r3 : Int)))) (.sh (.str letters)) (.sh (.str w)) (by rw [List.length_append]; simp only [List.length_cons, List.length_nil]; omega) (fun i hi => hj i (List.mem_cons_of_mem _ hi)) (fun n hn => by
        rcases List.mem_append.mp hn with hn | hn
        · exact hl n hn
        · rw [List.mem_singleton.mp hn]; exact zo) (by rw [List.length_append]; exact hr') hP'
      refine ⟨l', b6, b7, b8, b9, b10, by rw [e1, List.length_append]; simp only [List.length_cons, List.length_nil]; omega, e2, e4, ?_⟩
      rw [List.map_cons, forL_cons, Int.zero_add]
      have ap : appK (l.map .str) [.str (z1 ++ st1 u ++ z2)] = .ok ((l ++ [z1 ++ st1 u ++ z2]).map .str) := by
        rw [Dv.app_ok (by rw [List.length_map]; omega), List.map_append]; rfl
      have lc : eLc [11] (Dv.e1 (aCons (vB 8) aNil) rg1) (gN 11) l_w_namelist_0
          ⟨[.sh (.int x), .sh (.int m), .sh (.bl al), .sh (.int (p : Int)), .sh (.int (t : Int)), .ow (l.map .str), .sh (.int (j : Int)), .sh (.int o), .sh (.int ((p : Int) + (r3 : Int))), .sh (.str letters), a10, .no], none⟩ = .ok ((ys.map st1).map .str) := by
        refine (if_pos (show isNo ⟨[Sl.sh (.int x), .sh (.int m), .sh (.bl al), .sh (.int (p : Int)), .sh (.int (t : Int)), .ow (l.map .str), .sh (.int (j : Int)), .sh (.int o), .sh (.int ((p : Int) + (r3 : Int))), .sh (.str letters), a10, .no], none⟩ [11] = true from rfl)).trans ?_
        have rg : rg1 [.int ((p : Int) + (r3 : Int))] = .ok ((List.range (p + r3)).map fun i => .int ((0 : Int) + (i : Nat))) := by
          rw [rg_ok (by omega)]
          show Res.ok (rgItems 0 ((p : Int) + (r3 : Int)).toNat) = _
          rw [show ((p : Int) + (r3 : Int)).toNat = p + r3 from by omega]
          rfl
        simp only [runD_at, entryS_at, slF_t, slF_f, slD_int, slD_str, slD_bl, slD_lst, List.zipWith_cons_cons, List.zipWith_nil_left, List.map, List.length, sSeq_at, sNil_at, sRet_at, sRetN_at, sRetNone_at, sIf_at, sSet_at, sSetN_at, sExpr_at, sPar_at, sTgt_at, sMut_at, sPut_at, sFor_at, sRaise_at, sTry_at, atT_at, Rho.set_mk, gN_at, forL_nil, forL_cons, outR_rt, outR_nx, outR_ex, isLst_int, isLst_bl, isLst_tup, ckFlat_int, ckFlat_bl, e1_at, e2_at, e3c_at, cD_at, aNil_at, aCons_at, eTup_at, eLst_at, toL_at, vS_at, vB_at, eAnd_at, eOr_at, eNot_at, vAnd_at, vOr_at, vNot_at, eIf_at, eSl_at, asBl_bl, asInt_int, asLst_lst, addD_int, addI_int, subD_int, negD_int, ltB_int, leB_int, gtB_int, geB_int, eqB_int, neB_int, eqB_str, neB_str, intK_int, absN, lenK_lst, lenK_tup, ixD_tup0, ixD_tup1, ixD_tup2, ixD_lst0, ixD_lst1, ixD_lst2, ixD_lst3, Res.bind_ok, Res.bind_exc, Res.bind_stuck, andThen_ok, andThen_exc, andS_nx, andS_rt, andS_ex, andS_bk, andS_ct, loopO_nx, loopO_ct, loopO_bk, loopO_rt, loopO_ex, List.getElem?_cons_zero, List.getElem?_cons_succ, List.set_cons_zero, List.set_cons_succ, List.length_cons, List.length_nil, List.replicate, List.append_nil, List.nil_append, List.cons_append, Nat.zero_add, Nat.reduceAdd, Nat.reduceSub, Nat.reduceEqDiff, Nat.reduceLT, Bool.and_true, Bool.true_and, Bool.and_false, Bool.false_and, Bool.not_true, Bool.not_false, Bool.false_eq_true, decide_true, decide_false, decide_eq_true_eq, ite_true, ite_false, if_true, if_false, Bool.and_self, Bool.not_not, and_self, and_true, true_and, not_true_eq_false, not_false_eq_true, ckLen_ok, Nat.reduceLeDiff, fld_name, fld_first, fld_second, fld_needs, tn0, tn1, tn2, onC_dD, onCI_dD, cf_str, cf_tn, ↓eMk_at, dD_fold, frz_at, asStr_str, eJoin_at, ↓eFs_at, catP_nil, empty_app, isLst_str, isLst_dD, isLst_non, nc0, nc1, nc2, nc3, nc4, nc5, nc6, nc7, nc8, nc9, nc10, nc11, nc12, Int.reduceEq, Int.reduceLT, Int.reduceLE, Int.reduceNeg, ok1_ok, wipeR_nil, wipeR_cons, ki_names, ki_present, ki_dishes, ki_longest, onC_ki, onCI_ki, isLst_ki, slLst_hi, slLst_lo, slTup_hi, slTup_lo, rg, List.length_map, List.length_range, ckLen_ok (show p + r3 ≤ 16777216 by omega), reduceIte]
        exact y3
      have jo := join_ok ys (by omega)
      rw [hw] at jo
      have a1 := add_str (x := z1) (y := st1 u) (by omega) (by show 1 ≤ 1000; decide)
      have a2 := add_str (x := z1 ++ st1 u) (y := z2) (by
        have : (z1 ++ st1 u).cps.size = z1.cps.size + 1 := by
          rw [size_tl]
          show (TL.tl (z1 ++ st1 u)).length = _
          rw [TL.tl_append, List.length_append, size_tl]
          rfl
        omega) (by omega)
      have iu := ix_str hk (by decide +kernel)
      rw [hu] at iu
      cases al with
      | true =>
        rw [if_pos rfl] at ho
        subst ho
        simp only [runD_at, entryS_at, slF_t, slF_f, slD_int, slD_str, slD_bl, slD_lst, List.zipWith_cons_cons, List.zipWith_nil_left, List.map, List.length, sSeq_at, sNil_at, sRet_at, sRetN_at, sRetNone_at, sIf_at, sSet_at, sSetN_at, sExpr_at, sPar_at, sTgt_at, sMut_at, sPut_at, sFor_at, sRaise_at, sTry_at, atT_at, Rho.set_mk, gN_at, forL_nil, forL_cons, outR_rt, outR_nx, outR_ex, isLst_int, isLst_bl, isLst_tup, ckFlat_int, ckFlat_bl, e1_at, e2_at, e3c_at, cD_at, aNil_at, aCons_at, eTup_at, eLst_at, toL_at, vS_at, vB_at, eAnd_at, eOr_at, eNot_at, vAnd_at, vOr_at, vNot_at, eIf_at, eSl_at, asBl_bl, asInt_int, asLst_lst, addD_int, addI_int, subD_int, negD_int, ltB_int, leB_int, gtB_int, geB_int, eqB_int, neB_int, eqB_str, neB_str, intK_int, absN, lenK_lst, lenK_tup, ixD_tup0, ixD_tup1, ixD_tup2, ixD_lst0, ixD_lst1, ixD_lst2, ixD_lst3, Res.bind_ok, Res.bind_exc, Res.bind_stuck, andThen_ok, andThen_exc, andS_nx, andS_rt, andS_ex, andS_bk, andS_ct, loopO_nx, loopO_ct, loopO_bk, loopO_rt, loopO_ex, List.getElem?_cons_zero, List.getElem?_cons_succ, List.set_cons_zero, List.set_cons_succ, List.length_cons, List.length_nil, List.replicate, List.append_nil, List.nil_append, List.cons_append, Nat.zero_add, Nat.reduceAdd, Nat.reduceSub, Nat.reduceEqDiff, Nat.reduceLT, Bool.and_true, Bool.true_and, Bool.and_false, Bool.false_and, Bool.not_true, Bool.not_false, Bool.false_eq_true, decide_true, decide_false, decide_eq_true_eq, ite_true, ite_false, if_true, if_false, Bool.and_self, Bool.not_not, and_self, and_true, true_and, not_true_eq_false, not_false_eq_true, ckLen_ok, Nat.reduceLeDiff, fld_name, fld_first, fld_second, fld_needs, tn0, tn1, tn2, onC_dD, onCI_dD, cf_str, cf_tn, ↓eMk_at, dD_fold, frz_at, asStr_str, eJoin_at, ↓eFs_at, catP_nil, empty_app, isLst_str, isLst_dD, isLst_non, nc0, nc1, nc2, nc3, nc4, nc5, nc6, nc7, nc8, nc9, nc10, nc11, nc12, Int.reduceEq, Int.reduceLT, Int.reduceLE, Int.reduceNeg, ok1_ok, wipeR_nil, wipeR_cons, ki_names, ki_present, ki_dishes, ki_longest, onC_ki, onCI_ki, isLst_ki, slLst_hi, slLst_lo, slTup_hi, slTup_lo, fb_w_namelist_0, d3, lc, eJoin_at, asStr_str, jo, slS_ok (z := w) (by omega), hz1, hz2, modD_int (i := (j : Int) + (t : Int)) (j := 8) (by decide), k8, iu, cf_str, a1, a2, ap, reduceIte]
        exact e3
      | false =>
        rw [if_neg (by decide)] at ho
        subst ho
        simp only [runD_at, entryS_at, slF_t, slF_f, slD_int, slD_str, slD_bl, slD_lst, List.zipWith_cons_cons, List.zipWith_nil_left, List.map, List.length, sSeq_at, sNil_at, sRet_at, sRetN_at, sRetNone_at, sIf_at, sSet_at, sSetN_at, sExpr_at, sPar_at, sTgt_at, sMut_at, sPut_at, sFor_at, sRaise_at, sTry_at, atT_at, Rho.set_mk, gN_at, forL_nil, forL_cons, outR_rt, outR_nx, outR_ex, isLst_int, isLst_bl, isLst_tup, ckFlat_int, ckFlat_bl, e1_at, e2_at, e3c_at, cD_at, aNil_at, aCons_at, eTup_at, eLst_at, toL_at, vS_at, vB_at, eAnd_at, eOr_at, eNot_at, vAnd_at, vOr_at, vNot_at, eIf_at, eSl_at, asBl_bl, asInt_int, asLst_lst, addD_int, addI_int, subD_int, negD_int, ltB_int, leB_int, gtB_int, geB_int, eqB_int, neB_int, eqB_str, neB_str, intK_int, absN, lenK_lst, lenK_tup, ixD_tup0, ixD_tup1, ixD_tup2, ixD_lst0, ixD_lst1, ixD_lst2, ixD_lst3, Res.bind_ok, Res.bind_exc, Res.bind_stuck, andThen_ok, andThen_exc, andS_nx, andS_rt, andS_ex, andS_bk, andS_ct, loopO_nx, loopO_ct, loopO_bk, loopO_rt, loopO_ex, List.getElem?_cons_zero, List.getElem?_cons_succ, List.set_cons_zero, List.set_cons_succ, List.length_cons, List.length_nil, List.replicate, List.append_nil, List.nil_append, List.cons_append, Nat.zero_add, Nat.reduceAdd, Nat.reduceSub, Nat.reduceEqDiff, Nat.reduceLT, Bool.and_true, Bool.true_and, Bool.and_false, Bool.false_and, Bool.not_true, Bool.not_false, Bool.false_eq_true, decide_true, decide_false, decide_eq_true_eq, ite_true, ite_false, if_true, if_false, Bool.and_self, Bool.not_not, and_self, and_true, true_and, not_true_eq_false, not_false_eq_true, ckLen_ok, Nat.reduceLeDiff, fld_name, fld_first, fld_second, fld_needs, tn0, tn1, tn2, onC_dD, onCI_dD, cf_str, cf_tn, ↓eMk_at, dD_fold, frz_at, asStr_str, eJoin_at, ↓eFs_at, catP_nil, empty_app, isLst_str, isLst_dD, isLst_non, nc0, nc1, nc2, nc3, nc4, nc5, nc6, nc7, nc8, nc9, nc10, nc11, nc12, Int.reduceEq, Int.reduceLT, Int.reduceLE, Int.reduceNeg, ok1_ok, wipeR_nil, wipeR_cons, ki_names, ki_present, ki_dishes, ki_longest, onC_ki, onCI_ki, isLst_ki, slLst_hi, slLst_lo, slTup_hi, slTup_lo, fb_w_namelist_0, d3, lc, eJoin_at, asStr_str, jo, slS_ok (z := w) (by omega), hz1, hz2, modD_int (i := (j : Int) + (t : Int)) (j := 8) (by decide), k8, iu, cf_str, a1, a2, ap, reduceIte]
        exact e3
  obtain ⟨l', b6, b7, b8, b9, b10, e1, e2, e4, e3⟩ := lp (List.range m.toNat) [] .no .no .no .no .no (by simp; omega) (fun j hj => by have := List.mem_range.mp hj; omega) (fun n hn => by cases hn) (by rw [List.length_range, List.range_eq_range']; rfl) (fun k n hk => by simp at hk)
  refine ⟨l', by simpa using e1, e2, ?_, fun h8 => e4.nodup (Nat.le_trans (Nat.le_of_eq (show l'.length = m.toNat from by simpa using e1)) (by omega))⟩
  have rg : rg1 [.int m] = .ok ((List.range m.toNat).map fun i => .int ((0 : Int) + (i : Nat))) := rg_ok (by omega)
  simp only [runD_at, entryS_at, slF_t, slF_f, slD_int, slD_str, slD_bl, slD_lst, List.zipWith_cons_cons, List.zipWith_nil_left, List.map, List.length, sSeq_at, sNil_at, sRet_at, sRetN_at, sRetNone_at, sIf_at, sSet_at, sSetN_at, sExpr_at, sPar_at, sTgt_at, sMut_at, sPut_at, sFor_at, sRaise_at, sTry_at, atT_at, Rho.set_mk, gN_at, forL_nil, forL_cons, outR_rt, outR_nx, outR_ex, isLst_int, isLst_bl, isLst_tup, ckFlat_int, ckFlat_bl, e1_at, e2_at, e3c_at, cD_at, aNil_at, aCons_at, eTup_at, eLst_at, toL_at, vS_at, vB_at, eAnd_at, eOr_at, eNot_at, vAnd_at, vOr_at, vNot_at, eIf_at, eSl_at, asBl_bl, asInt_int, asLst_lst, addD_int, addI_int, subD_int, negD_int, ltB_int, leB_int, gtB_int, geB_int, eqB_int, neB_int, eqB_str, neB_str, intK_int, absN, lenK_lst, lenK_tup, ixD_tup0, ixD_tup1, ixD_tup2, ixD_lst0, ixD_lst1, ixD_lst2, ixD_lst3, Res.bind_ok, Res.bind_exc, Res.bind_stuck, andThen_ok, andThen_exc, andS_nx, andS_rt, andS_ex, andS_bk, andS_ct, loopO_nx, loopO_ct, loopO_bk, loopO_rt, loopO_ex, List.getElem?_cons_zero, List.getElem?_cons_succ, List.set_cons_zero, List.set_cons_succ, List.length_cons, List.length_nil, List.replicate, List.append_nil, List.nil_append, List.cons_append, Nat.zero_add, Nat.reduceAdd, Nat.reduceSub, Nat.reduceEqDiff, Nat.reduceLT, Bool.and_true, Bool.true_and, Bool.and_false, Bool.false_and, Bool.not_true, Bool.not_false, Bool.false_eq_true, decide_true, decide_false, decide_eq_true_eq, ite_true, ite_false, if_true, if_false, Bool.and_self, Bool.not_not, and_self, and_true, true_and, not_true_eq_false, not_false_eq_true, ckLen_ok, Nat.reduceLeDiff, fld_name, fld_first, fld_second, fld_needs, tn0, tn1, tn2, onC_dD, onCI_dD, cf_str, cf_tn, ↓eMk_at, dD_fold, frz_at, asStr_str, eJoin_at, ↓eFs_at, catP_nil, empty_app, isLst_str, isLst_dD, isLst_non, nc0, nc1, nc2, nc3, nc4, nc5, nc6, nc7, nc8, nc9, nc10, nc11, nc12, Int.reduceEq, Int.reduceLT, Int.reduceLE, Int.reduceNeg, ok1_ok, wipeR_nil, wipeR_cons, ki_names, ki_present, ki_dishes, ki_longest, onC_ki, onCI_ki, isLst_ki, slLst_hi, slLst_lo, slTup_hi, slTup_lo, d0, hal, d1, d2, ckLen_ok (show 0 ≤ 16777216 by decide), rg, reduceIte]
  rw [show ([] : List D) = ([] : List Str).map .str from rfl, e3]
  rfl
theorem namelist_ok (x m : Int) (hm : 0 ≤ m) (hm2 : m ≤ 50) : ∃ names : List Str, names.length = m.toNat ∧ (∀ z ∈ names, NameOk z) ∧ F_w_namelist [.int x, .int m] = .ok (.lst (names.map .str)) := by
  obtain ⟨names, h1, h2, h3, _⟩ := namelist_nd x m hm hm2
  exact ⟨names, h1, h2, h3⟩
theorem rawlist_ok (ns : List Int) (a m : Int) (names : List Str) (ha : 0 ≤ a) (hm : 0 ≤ m) (hm2 : m ≤ 99) (hn : 0 < names.length) (hn2 : names.length ≤ 100) (hN : ∀ z ∈ names, NameOk z) :
    ∃ raw : List Nd, raw.length = m.toNat ∧ (∀ n ∈ raw, NdOk n ∧ n.2.1 ∈ names ∧ n.1 < 31 ∧ n.2.2 ≤ 1000) ∧ F_w_rawlist [.lst (ns.map .int), .int a, .int m, .lst (names.map .str)] = .ok (.lst (raw.map tn)) := by
  unfold F_w_rawlist den_w_rawlist
  have lp : ∀ (js : List Nat) (l : List Nd) (a5 a6 a7 a8 : Sl), l.length + js.length ≤ 99 → (∀ j ∈ js, j < 1000) → (∀ n ∈ l, NdOk n ∧ n.2.1 ∈ names ∧ n.1 < 31 ∧ n.2.2 ≤ 1000) → ∃ (l' : List Nd) (b5 b6 b7 b8 : Sl), l'.length = l.length + js.length ∧ (∀ n ∈ l', NdOk n ∧ n.2.1 ∈ names ∧ n.1 < 31 ∧ n.2.2 ≤ 1000) ∧
      forL (atT (gN 5) fb_w_rawlist_0)
        (js.map fun j => .int ((0 : Int) + (j : Nat))) ⟨[.bo (.lst (ns.map .int)), .sh (.int a), .sh (.int m), .bo (.lst (names.map .str)), .ow (l.map tn), a5, a6, a7, a8], none⟩ = .nx ⟨[.bo (.lst (ns.map .int)), .sh (.int a), .sh (.int m), .bo (.lst (names.map .str)), .ow (l'.map tn), b5, b6, b7, b8], none⟩ := by
    intro js
    induction js with
    | nil => exact fun l a5 a6 a7 a8 _ _ hl => ⟨l, a5, a6, a7, a8, rfl, hl, rfl⟩
    | cons j js ih =>
      intro l a5 a6 a7 a8 h hj hl
      rw [List.length_cons] at h
      have hj0 := hj j List.mem_cons_self
      obtain ⟨x, hx⟩ : ∃ x : Int, ns.getD (a + (j : Int)).toNat 0 + (j : Int) = x := ⟨_, rfl⟩
      obtain ⟨r1, d1, q1⟩ := drw x 1 3 (by decide) (by decide) (by decide)
      obtain ⟨m1, i1, p1, p1'⟩ : ∃ m1 : Int, ixD (.lst [.int 1, .int 3, .int 31]) (.int (r1 : Int)) = .ok (.int m1) ∧ 0 < m1 ∧ m1 ≤ 31 := by
        have : r1 = 0 ∨ r1 = 1 ∨ r1 = 2 := by omega
        rcases this with e | e | e
        · subst e; exact ⟨1, ixD_lst0, by decide, by decide⟩
        · subst e; exact ⟨3, ixD_lst1, by decide, by decide⟩
        · subst e; exact ⟨31, ixD_lst2, by decide, by decide⟩
      obtain ⟨b, d2, q2⟩ := drw x 0 m1 (by decide) (by decide) p1
      obtain ⟨r3, d3, q3⟩ := drw x 3 3 (by decide) (by decide) (by decide)
      obtain ⟨m3, i3, p3, p3'⟩ : ∃ m3 : Int, ixD (.lst [.int 1, .int 4, .int 1000]) (.int (r3 : Int)) = .ok (.int m3) ∧ 0 < m3 ∧ m3 ≤ 1000 := by
        have : r3 = 0 ∨ r3 = 1 ∨ r3 = 2 := by omega
        rcases this with e | e | e
        · subst e; exact ⟨1, ixD_lst0, by decide, by decide⟩
        · subst e; exact ⟨4, ixD_lst1, by decide, by decide⟩
        · subst e; exact ⟨1000, ixD_lst2, by decide, by decide⟩
      obtain ⟨y, d4, q4⟩ := drw x 2 m3 (by decide) (by decide) p3
      obtain ⟨w, d5, q5⟩ := drw x 4 names.length (by decide) (by decide) (by omega)
      have hw : w < names.length := by omega
      have iw : ixD (.lst (names.map .str)) (.int (w : Int)) = .ok (.str names[w]) := by
        rw [ixD_lst (k := w) (by simpa using hw), List.getElem_map]
      obtain ⟨l', b5, b6, b7, b8, e1, e2, e3⟩ := ih (l ++ [((b : Int), names[w], 1 + (y : Int))]) (.sh (.int (j : Int))) (.sh (.int x)) (.sh (.int (b : Int))) (.sh (.int (1 + (y : Int)))) (by rw [List.length_append]; simp only [List.length_cons, List.length_nil]; omega) (fun i hi => hj i (List.mem_cons_of_mem _ hi)) (fun n hn => by
        rcases List.mem_append.mp hn with hn | hn
        · exact hl n hn
        · rw [List.mem_singleton.mp hn]
          exact ⟨⟨by show (0 : Int) ≤ (b : Int); omega, hN _ (List.getElem_mem hw), by show (1 : Int) ≤ 1 + (y : Int); omega⟩, List.getElem_mem hw, by show (b : Int) < 31; omega, by show (1 : Int) + (y : Int) ≤ 1000; omega⟩)
      refine ⟨l', b5, b6, b7, b8, by rw [e1, List.length_append]; simp only [List.length_cons, List.length_nil]; omega, e2, ?_⟩
      rw [List.map_cons, forL_cons, Int.zero_add]
      have pk := pick_i ns (a + (j : Int)) (by omega)
      have ap : appK (l.map tn) [.tup [.int (b : Int), .str names[w], .int (1 + (y : Int))]] = .ok ((l ++ [((b : Int), names[w], 1 + (y : Int))]).map tn) := by
        rw [Dv.app_ok (by rw [List.length_map]; omega), List.map_append]; rfl
      simp only [runD_at, entryS_at, slF_t, slF_f, slD_int, slD_str, slD_bl, slD_lst, List.zipWith_cons_cons, List.zipWith_nil_left, List.map, List.length, sSeq_at, sNil_at, sRet_at, sRetN_at, sRetNone_at, sIf_at, sSet_at, sSetN_at, sExpr_at, sPar_at, sTgt_at, sMut_at, sPut_at, sFor_at, sRaise_at, sTry_at, atT_at, Rho.set_mk, gN_at, forL_nil, forL_cons, outR_rt, outR_nx, outR_ex, isLst_int, isLst_bl, isLst_tup, ckFlat_int, ckFlat_bl, e1_at, e2_at, e3c_at, cD_at, aNil_at, aCons_at, eTup_at, eLst_at, toL_at, vS_at, vB_at, eAnd_at, eOr_at, eNot_at, vAnd_at, vOr_at, vNot_at, eIf_at, eSl_at, asBl_bl, asInt_int, asLst_lst, addD_int, addI_int, subD_int, negD_int, ltB_int, leB_int, gtB_int, geB_int, eqB_int, neB_int, eqB_str, neB_str, intK_int, absN, lenK_lst, lenK_tup, ixD_tup0, ixD_tup1, ixD_tup2, ixD_lst0, ixD_lst1, ixD_lst2, ixD_lst3, Res.bind_ok, Res.bind_exc, Res.bind_stuck, andThen_ok, andThen_exc, andS_nx, andS_rt, andS_ex, andS_bk, andS_ct, loopO_nx, loopO_ct, loopO_bk, loopO_rt, loopO_ex, List.getElem?_cons_zero, List.getElem?_cons_succ, List.set_cons_zero, List.set_cons_succ, List.length_cons, List.length_nil, List.replicate, List.append_nil, List.nil_append, List.cons_append, Nat.zero_add, Nat.reduceAdd, Nat.reduceSub, Nat.reduceEqDiff, Nat.reduceLT, Bool.and_true, Bool.true_and, Bool.and_false, Bool.false_and, Bool.not_true, Bool.not_false, Bool.false_eq_true, decide_true, decide_false, decide_eq_true_eq, ite_true, ite_false, if_true, if_false, Bool.and_self, Bool.not_not, and_self, and_true, true_and, not_true_eq_false, not_false_eq_true, ckLen_ok, Nat.reduceLeDiff, fld_name, fld_first, fld_second, fld_needs, tn0, tn1, tn2, onC_dD, onCI_dD, cf_str, cf_tn, ↓eMk_at, dD_fold, frz_at, asStr_str, eJoin_at, ↓eFs_at, catP_nil, empty_app, isLst_str, isLst_dD, isLst_non, nc0, nc1, nc2, nc3, nc4, nc5, nc6, nc7, nc8, nc9, nc10, nc11, nc12, Int.reduceEq, Int.reduceLT, Int.reduceLE, Int.reduceNeg, ok1_ok, wipeR_nil, wipeR_cons, ki_names, ki_present, ki_dishes, ki_longest, onC_ki, onCI_ki, isLst_ki, slLst_hi, slLst_lo, slTup_hi, slTup_lo, fb_w_rawlist_0, pk, hx, ckLen_ok (show 3 ≤ 16777216 by decide), d1, i1, d2, d3, i3, d4, List.length_map, d5, iw, cf_str, ap, reduceIte]
      exact e3
  obtain ⟨l', b5, b6, b7, b8, e1, e2, e3⟩ := lp (List.range m.toNat) [] .no .no .no .no (by simp; omega) (fun j hj => by have := List.mem_range.mp hj; omega) (fun n hn => by cases hn)
  refine ⟨l', by simpa using e1, e2, ?_⟩
  have rg : rg1 [.int m] = .ok ((List.range m.toNat).map fun i => .int ((0 : Int) + (i : Nat))) := rg_ok (by omega)
  simp only [runD_at, entryS_at, slF_t, slF_f, slD_int, slD_str, slD_bl, slD_lst, List.zipWith_cons_cons, List.zipWith_nil_left, List.map, List.length, sSeq_at, sNil_at, sRet_at, sRetN_at, sRetNone_at, sIf_at, sSet_at, sSetN_at, sExpr_at, sPar_at, sTgt_at, sMut_at, sPut_at, sFor_at, sRaise_at, sTry_at, atT_at, Rho.set_mk, gN_at, forL_nil, forL_cons, outR_rt, outR_nx, outR_ex, isLst_int, isLst_bl, isLst_tup, ckFlat_int, ckFlat_bl, e1_at, e2_at, e3c_at, cD_at, aNil_at, aCons_at, eTup_at, eLst_at, toL_at, vS_at, vB_at, eAnd_at, eOr_at, eNot_at, vAnd_at, vOr_at, vNot_at, eIf_at, eSl_at, asBl_bl, asInt_int, asLst_lst, addD_int, addI_int, subD_int, negD_int, ltB_int, leB_int, gtB_int, geB_int, eqB_int, neB_int, eqB_str, neB_str, intK_int, absN, lenK_lst, lenK_tup, ixD_tup0, ixD_tup1, ixD_tup2, ixD_lst0, ixD_lst1, ixD_lst2, ixD_lst3, Res.bind_ok, Res.bind_exc, Res.bind_stuck, andThen_ok, andThen_exc, andS_nx, andS_rt, andS_ex, andS_bk, andS_ct, loopO_nx, loopO_ct, loopO_bk, loopO_rt, loopO_ex, List.getElem?_cons_zero, List.getElem?_cons_succ, List.set_cons_zero, List.set_cons_succ, List.length_cons, List.length_nil, List.replicate, List.append_nil, List.nil_append, List.cons_append, Nat.zero_add, Nat.reduceAdd, Nat.reduceSub, Nat.reduceEqDiff, Nat.reduceLT, Bool.and_true, Bool.true_and, Bool.and_false, Bool.false_and, Bool.not_true, Bool.not_false, Bool.false_eq_true, decide_true, decide_false, decide_eq_true_eq, ite_true, ite_false, if_true, if_false, Bool.and_self, Bool.not_not, and_self, and_true, true_and, not_true_eq_false, not_false_eq_true, ckLen_ok, Nat.reduceLeDiff, fld_name, fld_first, fld_second, fld_needs, tn0, tn1, tn2, onC_dD, onCI_dD, cf_str, cf_tn, ↓eMk_at, dD_fold, frz_at, asStr_str, eJoin_at, ↓eFs_at, catP_nil, empty_app, isLst_str, isLst_dD, isLst_non, nc0, nc1, nc2, nc3, nc4, nc5, nc6, nc7, nc8, nc9, nc10, nc11, nc12, Int.reduceEq, Int.reduceLT, Int.reduceLE, Int.reduceNeg, ok1_ok, wipeR_nil, wipeR_cons, ki_names, ki_present, ki_dishes, ki_longest, onC_ki, onCI_ki, isLst_ki, slLst_hi, slLst_lo, slTup_hi, slTup_lo, ckLen_ok (show 0 ≤ 16777216 by decide), rg, reduceIte]
  rw [show ([] : List D) = ([] : List Nd).map tn from rfl, e3]
  rfl
end Kx

set_option Elab.async false
set_option linter.all false
set_option maxRecDepth 100000
set_option maxHeartbeats 1000000
namespace Kx
open PySem PySem.Spec L2 Dv
open PyProof.Rows hiding St
/-- the place is found -/
theorem merge_at (l : List Nd) (n : Nd) (s0 : Sl) : ∀ (r : List Nd) (p fuel : Nat), l.drop p = r → r.length < fuel → p ≤ l.length →
    whileN fuel wc_w_merge_0 wb_w_merge_0
      ⟨[s0, .ow (l.map tn), .sh (tn n), .sh (.int (p : Int))], none⟩ = .nx ⟨[s0, .ow (l.map tn), .sh (tn n), .sh (.int ((p + (r.takeWhile (kl · n)).length : Nat) : Int))], none⟩ := by
  intro r
  induction r with
  | nil =>
    intro p fuel h hf hp
    obtain ⟨f, rfl⟩ : ∃ f, fuel = f + 1 := ⟨fuel - 1, by simp at hf; omega⟩
    have : l.length ≤ p := by simpa using h
    rw [whileN_succ]
    simp only [runD_at, entryS_at, slF_t, slF_f, slD_int, slD_str, slD_bl, slD_lst, List.zipWith_cons_cons, List.zipWith_nil_left, List.map, List.length, sSeq_at, sNil_at, sRet_at, sRetN_at, sRetNone_at, sIf_at, sSet_at, sSetN_at, sExpr_at, sPar_at, sTgt_at, sMut_at, sPut_at, sFor_at, sRaise_at, sTry_at, atT_at, Rho.set_mk, gN_at, forL_nil, forL_cons, outR_rt, outR_nx, outR_ex, isLst_int, isLst_bl, isLst_tup, ckFlat_int, ckFlat_bl, e1_at, e2_at, e3c_at, cD_at, aNil_at, aCons_at, eTup_at, eLst_at, toL_at, vS_at, vB_at, eAnd_at, eOr_at, eNot_at, vAnd_at, vOr_at, vNot_at, eIf_at, eSl_at, asBl_bl, asInt_int, asLst_lst, addD_int, addI_int, subD_int, negD_int, ltB_int, leB_int, gtB_int, geB_int, eqB_int, neB_int, eqB_str, neB_str, intK_int, absN, lenK_lst, lenK_tup, ixD_tup0, ixD_tup1, ixD_tup2, ixD_lst0, ixD_lst1, ixD_lst2, ixD_lst3, Res.bind_ok, Res.bind_exc, Res.bind_stuck, andThen_ok, andThen_exc, andS_nx, andS_rt, andS_ex, andS_bk, andS_ct, loopO_nx, loopO_ct, loopO_bk, loopO_rt, loopO_ex, List.getElem?_cons_zero, List.getElem?_cons_succ, List.set_cons_zero, List.set_cons_succ, List.length_cons, List.length_nil, List.replicate, List.append_nil, List.nil_append, List.cons_append, Nat.zero_add, Nat.reduceAdd, Nat.reduceSub, Nat.reduceEqDiff, Nat.reduceLT, Bool.and_true, Bool.true_and, Bool.and_false, Bool.false_and, Bool.not_true, Bool.not_false, Bool.false_eq_true, decide_true, decide_false, decide_eq_true_eq, ite_true, ite_false, if_true, if_false, Bool.and_self, Bool.not_not, and_self, and_true, true_and, not_true_eq_false, not_false_eq_true, ckLen_ok, Nat.reduceLeDiff, fld_name, fld_first, fld_second, fld_needs, tn0, tn1, tn2, onC_dD, onCI_dD, cf_str, cf_tn, ↓eMk_at, dD_fold, frz_at, asStr_str, eJoin_at, ↓eFs_at, catP_nil, empty_app, isLst_str, isLst_dD, isLst_non, nc0, nc1, nc2, nc3, nc4, nc5, nc6, nc7, nc8, nc9, nc10, nc11, nc12, Int.reduceEq, Int.reduceLT, Int.reduceLE, Int.reduceNeg, ok1_ok, wipeR_nil, wipeR_cons, ki_names, ki_present, ki_dishes, ki_longest, onC_ki, onCI_ki, isLst_ki, slLst_hi, slLst_lo, slTup_hi, slTup_lo, wc_w_merge_0, List.length_map, lt_cast, show ¬ p < l.length from by omega, List.takeWhile_nil, reduceIte]
    rfl
  | cons m r ih =>
    intro p fuel h hf hp
    obtain ⟨f, rfl⟩ : ∃ f, fuel = f + 1 := ⟨fuel - 1, by simp at hf; omega⟩
    have hl : p < l.length := by
      rcases Nat.lt_or_ge p l.length with z | z
      · exact z
      · rw [List.drop_of_length_le z] at h; cases h
    rw [List.drop_eq_getElem_cons hl] at h
    injection h with h1 h2
    rw [whileN_succ]
    have c : wc_w_merge_0 ⟨[s0, .ow (l.map tn), .sh (tn n), .sh (.int (p : Int))], none⟩ = .ok (kl m n) := by
      simp only [runD_at, entryS_at, slF_t, slF_f, slD_int, slD_str, slD_bl, slD_lst, List.zipWith_cons_cons, List.zipWith_nil_left, List.map, List.length, sSeq_at, sNil_at, sRet_at, sRetN_at, sRetNone_at, sIf_at, sSet_at, sSetN_at, sExpr_at, sPar_at, sTgt_at, sMut_at, sPut_at, sFor_at, sRaise_at, sTry_at, atT_at, Rho.set_mk, gN_at, forL_nil, forL_cons, outR_rt, outR_nx, outR_ex, isLst_int, isLst_bl, isLst_tup, ckFlat_int, ckFlat_bl, e1_at, e2_at, e3c_at, cD_at, aNil_at, aCons_at, eTup_at, eLst_at, toL_at, vS_at, vB_at, eAnd_at, eOr_at, eNot_at, vAnd_at, vOr_at, vNot_at, eIf_at, eSl_at, asBl_bl, asInt_int, asLst_lst, addD_int, addI_int, subD_int, negD_int, ltB_int, leB_int, gtB_int, geB_int, eqB_int, neB_int, eqB_str, neB_str, intK_int, absN, lenK_lst, lenK_tup, ixD_tup0, ixD_tup1, ixD_tup2, ixD_lst0, ixD_lst1, ixD_lst2, ixD_lst3, Res.bind_ok, Res.bind_exc, Res.bind_stuck, andThen_ok, andThen_exc, andS_nx, andS_rt, andS_ex, andS_bk, andS_ct, loopO_nx, loopO_ct, loopO_bk, loopO_rt, loopO_ex, List.getElem?_cons_zero, List.getElem?_cons_succ, List.set_cons_zero, List.set_cons_succ, List.length_cons, List.length_nil, List.replicate, List.append_nil, List.nil_append, List.cons_append, Nat.zero_add, Nat.reduceAdd, Nat.reduceSub, Nat.reduceEqDiff, Nat.reduceLT, Bool.and_true, Bool.true_and, Bool.and_false, Bool.false_and, Bool.not_true, Bool.not_false, Bool.false_eq_true, decide_true, decide_false, decide_eq_true_eq, ite_true, ite_false, if_true, if_false, Bool.and_self, Bool.not_not, and_self, and_true, true_and, not_true_eq_false, not_false_eq_true, ckLen_ok, Nat.reduceLeDiff, fld_name, fld_first, fld_second, fld_needs, tn0, tn1, tn2, onC_dD, onCI_dD, cf_str, cf_tn, ↓eMk_at, dD_fold, frz_at, asStr_str, eJoin_at, ↓eFs_at, catP_nil, empty_app, isLst_str, isLst_dD, isLst_non, nc0, nc1, nc2, nc3, nc4, nc5, nc6, nc7, nc8, nc9, nc10, nc11, nc12, Int.reduceEq, Int.reduceLT, Int.reduceLE, Int.reduceNeg, ok1_ok, wipeR_nil, wipeR_cons, ki_names, ki_present, ki_dishes, ki_longest, onC_ki, onCI_ki, isLst_ki, slLst_hi, slLst_lo, slTup_hi, slTup_lo, wc_w_merge_0, List.length_map, lt_cast, hl, ix_l hl, tn0, tn1, ckLen_ok (show 2 ≤ 16777216 by decide), ltP_k, h1, reduceIte]
    rw [c]
    cases hk : kl m n with
    | true =>
      simp only [runD_at, entryS_at, slF_t, slF_f, slD_int, slD_str, slD_bl, slD_lst, List.zipWith_cons_cons, List.zipWith_nil_left, List.map, List.length, sSeq_at, sNil_at, sRet_at, sRetN_at, sRetNone_at, sIf_at, sSet_at, sSetN_at, sExpr_at, sPar_at, sTgt_at, sMut_at, sPut_at, sFor_at, sRaise_at, sTry_at, atT_at, Rho.set_mk, gN_at, forL_nil, forL_cons, outR_rt, outR_nx, outR_ex, isLst_int, isLst_bl, isLst_tup, ckFlat_int, ckFlat_bl, e1_at, e2_at, e3c_at, cD_at, aNil_at, aCons_at, eTup_at, eLst_at, toL_at, vS_at, vB_at, eAnd_at, eOr_at, eNot_at, vAnd_at, vOr_at, vNot_at, eIf_at, eSl_at, asBl_bl, asInt_int, asLst_lst, addD_int, addI_int, subD_int, negD_int, ltB_int, leB_int, gtB_int, geB_int, eqB_int, neB_int, eqB_str, neB_str, intK_int, absN, lenK_lst, lenK_tup, ixD_tup0, ixD_tup1, ixD_tup2, ixD_lst0, ixD_lst1, ixD_lst2, ixD_lst3, Res.bind_ok, Res.bind_exc, Res.bind_stuck, andThen_ok, andThen_exc, andS_nx, andS_rt, andS_ex, andS_bk, andS_ct, loopO_nx, loopO_ct, loopO_bk, loopO_rt, loopO_ex, List.getElem?_cons_zero, List.getElem?_cons_succ, List.set_cons_zero, List.set_cons_succ, List.length_cons, List.length_nil, List.replicate, List.append_nil, List.nil_append, List.cons_append, Nat.zero_add, Nat.reduceAdd, Nat.reduceSub, Nat.reduceEqDiff, Nat.reduceLT, Bool.and_true, Bool.true_and, Bool.and_false, Bool.false_and, Bool.not_true, Bool.not_false, Bool.false_eq_true, decide_true, decide_false, decide_eq_true_eq, ite_true, ite_false, if_true, if_false, Bool.and_self, Bool.not_not, and_self, and_true, true_and, not_true_eq_false, not_false_eq_true, ckLen_ok, Nat.reduceLeDiff, fld_name, fld_first, fld_second, fld_needs, tn0, tn1, tn2, onC_dD, onCI_dD, cf_str, cf_tn, ↓eMk_at, dD_fold, frz_at, asStr_str, eJoin_at, ↓eFs_at, catP_nil, empty_app, isLst_str, isLst_dD, isLst_non, nc0, nc1, nc2, nc3, nc4, nc5, nc6, nc7, nc8, nc9, nc10, nc11, nc12, Int.reduceEq, Int.reduceLT, Int.reduceLE, Int.reduceNeg, ok1_ok, wipeR_nil, wipeR_cons, ki_names, ki_present, ki_dishes, ki_longest, onC_ki, onCI_ki, isLst_ki, slLst_hi, slLst_lo, slTup_hi, slTup_lo, wb_w_merge_0, List.takeWhile_cons, hk, reduceIte]
      have := ih (p + 1) f h2 (by simp at hf; omega) (by omega)
      refine Eq.trans this ?_
      rw [show p + 1 + (r.takeWhile (kl · n)).length = p + ((r.takeWhile (kl · n)).length + 1) from by omega]
    | false =>
      simp only [runD_at, entryS_at, slF_t, slF_f, slD_int, slD_str, slD_bl, slD_lst, List.zipWith_cons_cons, List.zipWith_nil_left, List.map, List.length, sSeq_at, sNil_at, sRet_at, sRetN_at, sRetNone_at, sIf_at, sSet_at, sSetN_at, sExpr_at, sPar_at, sTgt_at, sMut_at, sPut_at, sFor_at, sRaise_at, sTry_at, atT_at, Rho.set_mk, gN_at, forL_nil, forL_cons, outR_rt, outR_nx, outR_ex, isLst_int, isLst_bl, isLst_tup, ckFlat_int, ckFlat_bl, e1_at, e2_at, e3c_at, cD_at, aNil_at, aCons_at, eTup_at, eLst_at, toL_at, vS_at, vB_at, eAnd_at, eOr_at, eNot_at, vAnd_at, vOr_at, vNot_at, eIf_at, eSl_at, asBl_bl, asInt_int, asLst_lst, addD_int, addI_int, subD_int, negD_int, ltB_int, leB_int, gtB_int, geB_int, eqB_int, neB_int, eqB_str, neB_str, intK_int, absN, lenK_lst, lenK_tup, ixD_tup0, ixD_tup1, ixD_tup2, ixD_lst0, ixD_lst1, ixD_lst2, ixD_lst3, Res.bind_ok, Res.bind_exc, Res.bind_stuck, andThen_ok, andThen_exc, andS_nx, andS_rt, andS_ex, andS_bk, andS_ct, loopO_nx, loopO_ct, loopO_bk, loopO_rt, loopO_ex, List.getElem?_cons_zero, List.getElem?_cons_succ, List.set_cons_zero, List.set_cons_succ, List.length_cons, List.length_nil, List.replicate, List.append_nil, List.nil_append, List.cons_append, Nat.zero_add, Nat.reduceAdd, Nat.reduceSub, Nat.reduceEqDiff, Nat.reduceLT, Bool.and_true, Bool.true_and, Bool.and_false, Bool.false_and, Bool.not_true, Bool.not_false, Bool.false_eq_true, decide_true, decide_false, decide_eq_true_eq, ite_true, ite_false, if_true, if_false, Bool.and_self, Bool.not_not, and_self, and_true, true_and, not_true_eq_false, not_false_eq_true, ckLen_ok, Nat.reduceLeDiff, fld_name, fld_first, fld_second, fld_needs, tn0, tn1, tn2, onC_dD, onCI_dD, cf_str, cf_tn, ↓eMk_at, dD_fold, frz_at, asStr_str, eJoin_at, ↓eFs_at, catP_nil, empty_app, isLst_str, isLst_dD, isLst_non, nc0, nc1, nc2, nc3, nc4, nc5, nc6, nc7, nc8, nc9, nc10, nc11, nc12, Int.reduceEq, Int.reduceLT, Int.reduceLE, Int.reduceNeg, ok1_ok, wipeR_nil, wipeR_cons, ki_names, ki_present, ki_dishes, ki_longest, onC_ki, onCI_ki, isLst_ki, slLst_hi, slLst_lo, slTup_hi, slTup_lo, List.takeWhile_cons, hk, reduceIte]
      rfl
theorem merge_one (l : List Nd) (n : Nd) (s0 : Sl) (hl : l.length < 99) (p0 : Sl) :
    fb_w_merge_0 ⟨[s0, .ow (l.map tn), .sh (tn n), p0], none⟩ = .nx ⟨[s0, .ow ((mg l n).map tn), .sh (tn n), .sh (.int (at_ l n : Nat))], none⟩ := by
  have w := merge_at l n s0 l 0 100 rfl (by omega) (Nat.zero_le _)
  rw [Nat.zero_add] at w
  have hp : (l.takeWhile (kl · n)).length ≤ l.length := (List.takeWhile_sublist _).length_le
  have w' : whileN 100 wc_w_merge_0 wb_w_merge_0 ⟨[s0, .ow (l.map tn), .sh (tn n), .sh (.int 0)], none⟩ = _ := w
  simp only [runD_at, entryS_at, slF_t, slF_f, slD_int, slD_str, slD_bl, slD_lst, List.zipWith_cons_cons, List.zipWith_nil_left, List.map, List.length, sSeq_at, sNil_at, sRet_at, sRetN_at, sRetNone_at, sIf_at, sSet_at, sSetN_at, sExpr_at, sPar_at, sTgt_at, sMut_at, sPut_at, sFor_at, sRaise_at, sTry_at, atT_at, Rho.set_mk, gN_at, forL_nil, forL_cons, outR_rt, outR_nx, outR_ex, isLst_int, isLst_bl, isLst_tup, ckFlat_int, ckFlat_bl, e1_at, e2_at, e3c_at, cD_at, aNil_at, aCons_at, eTup_at, eLst_at, toL_at, vS_at, vB_at, eAnd_at, eOr_at, eNot_at, vAnd_at, vOr_at, vNot_at, eIf_at, eSl_at, asBl_bl, asInt_int, asLst_lst, addD_int, addI_int, subD_int, negD_int, ltB_int, leB_int, gtB_int, geB_int, eqB_int, neB_int, eqB_str, neB_str, intK_int, absN, lenK_lst, lenK_tup, ixD_tup0, ixD_tup1, ixD_tup2, ixD_lst0, ixD_lst1, ixD_lst2, ixD_lst3, Res.bind_ok, Res.bind_exc, Res.bind_stuck, andThen_ok, andThen_exc, andS_nx, andS_rt, andS_ex, andS_bk, andS_ct, loopO_nx, loopO_ct, loopO_bk, loopO_rt, loopO_ex, List.getElem?_cons_zero, List.getElem?_cons_succ, List.set_cons_zero, List.set_cons_succ, List.length_cons, List.length_nil, List.replicate, List.append_nil, List.nil_append, List.cons_append, Nat.zero_add, Nat.reduceAdd, Nat.reduceSub, Nat.reduceEqDiff, Nat.reduceLT, Bool.and_true, Bool.true_and, Bool.and_false, Bool.false_and, Bool.not_true, Bool.not_false, Bool.false_eq_true, decide_true, decide_false, decide_eq_true_eq, ite_true, ite_false, if_true, if_false, Bool.and_self, Bool.not_not, and_self, and_true, true_and, not_true_eq_false, not_false_eq_true, ckLen_ok, Nat.reduceLeDiff, fld_name, fld_first, fld_second, fld_needs, tn0, tn1, tn2, onC_dD, onCI_dD, cf_str, cf_tn, ↓eMk_at, dD_fold, frz_at, asStr_str, eJoin_at, ↓eFs_at, catP_nil, empty_app, isLst_str, isLst_dD, isLst_non, nc0, nc1, nc2, nc3, nc4, nc5, nc6, nc7, nc8, nc9, nc10, nc11, nc12, Int.reduceEq, Int.reduceLT, Int.reduceLE, Int.reduceNeg, ok1_ok, wipeR_nil, wipeR_cons, ki_names, ki_present, ki_dishes, ki_longest, onC_ki, onCI_ki, isLst_ki, slLst_hi, slLst_lo, slTup_hi, slTup_lo, fb_w_merge_0, w', reduceIte]
  unfold mg
  have e0 : (l.takeWhile (kl · n)).length = at_ l n := rfl
  rw [e0] at hp ⊢
  by_cases h : at_ l n < l.length
  · rw [List.getElem?_eq_getElem h]
    simp only [runD_at, entryS_at, slF_t, slF_f, slD_int, slD_str, slD_bl, slD_lst, List.zipWith_cons_cons, List.zipWith_nil_left, List.map, List.length, sSeq_at, sNil_at, sRet_at, sRetN_at, sRetNone_at, sIf_at, sSet_at, sSetN_at, sExpr_at, sPar_at, sTgt_at, sMut_at, sPut_at, sFor_at, sRaise_at, sTry_at, atT_at, Rho.set_mk, gN_at, forL_nil, forL_cons, outR_rt, outR_nx, outR_ex, isLst_int, isLst_bl, isLst_tup, ckFlat_int, ckFlat_bl, e1_at, e2_at, e3c_at, cD_at, aNil_at, aCons_at, eTup_at, eLst_at, toL_at, vS_at, vB_at, eAnd_at, eOr_at, eNot_at, vAnd_at, vOr_at, vNot_at, eIf_at, eSl_at, asBl_bl, asInt_int, asLst_lst, addD_int, addI_int, subD_int, negD_int, ltB_int, leB_int, gtB_int, geB_int, eqB_int, neB_int, eqB_str, neB_str, intK_int, absN, lenK_lst, lenK_tup, ixD_tup0, ixD_tup1, ixD_tup2, ixD_lst0, ixD_lst1, ixD_lst2, ixD_lst3, Res.bind_ok, Res.bind_exc, Res.bind_stuck, andThen_ok, andThen_exc, andS_nx, andS_rt, andS_ex, andS_bk, andS_ct, loopO_nx, loopO_ct, loopO_bk, loopO_rt, loopO_ex, List.getElem?_cons_zero, List.getElem?_cons_succ, List.set_cons_zero, List.set_cons_succ, List.length_cons, List.length_nil, List.replicate, List.append_nil, List.nil_append, List.cons_append, Nat.zero_add, Nat.reduceAdd, Nat.reduceSub, Nat.reduceEqDiff, Nat.reduceLT, Bool.and_true, Bool.true_and, Bool.and_false, Bool.false_and, Bool.not_true, Bool.not_false, Bool.false_eq_true, decide_true, decide_false, decide_eq_true_eq, ite_true, ite_false, if_true, if_false, Bool.and_self, Bool.not_not, and_self, and_true, true_and, not_true_eq_false, not_false_eq_true, ckLen_ok, Nat.reduceLeDiff, fld_name, fld_first, fld_second, fld_needs, tn0, tn1, tn2, onC_dD, onCI_dD, cf_str, cf_tn, ↓eMk_at, dD_fold, frz_at, asStr_str, eJoin_at, ↓eFs_at, catP_nil, empty_app, isLst_str, isLst_dD, isLst_non, nc0, nc1, nc2, nc3, nc4, nc5, nc6, nc7, nc8, nc9, nc10, nc11, nc12, Int.reduceEq, Int.reduceLT, Int.reduceLE, Int.reduceNeg, ok1_ok, wipeR_nil, wipeR_cons, ki_names, ki_present, ki_dishes, ki_longest, onC_ki, onCI_ki, isLst_ki, slLst_hi, slLst_lo, slTup_hi, slTup_lo, List.length_map, lt_cast, h, ix_l h, tn0, tn1, tn2, cf_str, ckLen_ok (show 3 ≤ 16777216 by decide), reduceIte]
    by_cases c1 : l[at_ l n].1 = n.1
    · by_cases c2 : l[at_ l n].2.1 = n.2.1
      · simp only [runD_at, entryS_at, slF_t, slF_f, slD_int, slD_str, slD_bl, slD_lst, List.zipWith_cons_cons, List.zipWith_nil_left, List.map, List.length, sSeq_at, sNil_at, sRet_at, sRetN_at, sRetNone_at, sIf_at, sSet_at, sSetN_at, sExpr_at, sPar_at, sTgt_at, sMut_at, sPut_at, sFor_at, sRaise_at, sTry_at, atT_at, Rho.set_mk, gN_at, forL_nil, forL_cons, outR_rt, outR_nx, outR_ex, isLst_int, isLst_bl, isLst_tup, ckFlat_int, ckFlat_bl, e1_at, e2_at, e3c_at, cD_at, aNil_at, aCons_at, eTup_at, eLst_at, toL_at, vS_at, vB_at, eAnd_at, eOr_at, eNot_at, vAnd_at, vOr_at, vNot_at, eIf_at, eSl_at, asBl_bl, asInt_int, asLst_lst, addD_int, addI_int, subD_int, negD_int, ltB_int, leB_int, gtB_int, geB_int, eqB_int, neB_int, eqB_str, neB_str, intK_int, absN, lenK_lst, lenK_tup, ixD_tup0, ixD_tup1, ixD_tup2, ixD_lst0, ixD_lst1, ixD_lst2, ixD_lst3, Res.bind_ok, Res.bind_exc, Res.bind_stuck, andThen_ok, andThen_exc, andS_nx, andS_rt, andS_ex, andS_bk, andS_ct, loopO_nx, loopO_ct, loopO_bk, loopO_rt, loopO_ex, List.getElem?_cons_zero, List.getElem?_cons_succ, List.set_cons_zero, List.set_cons_succ, List.length_cons, List.length_nil, List.replicate, List.append_nil, List.nil_append, List.cons_append, Nat.zero_add, Nat.reduceAdd, Nat.reduceSub, Nat.reduceEqDiff, Nat.reduceLT, Bool.and_true, Bool.true_and, Bool.and_false, Bool.false_and, Bool.not_true, Bool.not_false, Bool.false_eq_true, decide_true, decide_false, decide_eq_true_eq, ite_true, ite_false, if_true, if_false, Bool.and_self, Bool.not_not, and_self, and_true, true_and, not_true_eq_false, not_false_eq_true, ckLen_ok, Nat.reduceLeDiff, fld_name, fld_first, fld_second, fld_needs, tn0, tn1, tn2, onC_dD, onCI_dD, cf_str, cf_tn, ↓eMk_at, dD_fold, frz_at, asStr_str, eJoin_at, ↓eFs_at, catP_nil, empty_app, isLst_str, isLst_dD, isLst_non, nc0, nc1, nc2, nc3, nc4, nc5, nc6, nc7, nc8, nc9, nc10, nc11, nc12, Int.reduceEq, Int.reduceLT, Int.reduceLE, Int.reduceNeg, ok1_ok, wipeR_nil, wipeR_cons, ki_names, ki_present, ki_dishes, ki_longest, onC_ki, onCI_ki, isLst_ki, slLst_hi, slLst_lo, slTup_hi, slTup_lo, c1, c2, put_l (ds := l.map tn) (p := at_ l n) (by simpa using h), reduceIte]
        rw [List.map_set]
        rfl
      · simp only [runD_at, entryS_at, slF_t, slF_f, slD_int, slD_str, slD_bl, slD_lst, List.zipWith_cons_cons, List.zipWith_nil_left, List.map, List.length, sSeq_at, sNil_at, sRet_at, sRetN_at, sRetNone_at, sIf_at, sSet_at, sSetN_at, sExpr_at, sPar_at, sTgt_at, sMut_at, sPut_at, sFor_at, sRaise_at, sTry_at, atT_at, Rho.set_mk, gN_at, forL_nil, forL_cons, outR_rt, outR_nx, outR_ex, isLst_int, isLst_bl, isLst_tup, ckFlat_int, ckFlat_bl, e1_at, e2_at, e3c_at, cD_at, aNil_at, aCons_at, eTup_at, eLst_at, toL_at, vS_at, vB_at, eAnd_at, eOr_at, eNot_at, vAnd_at, vOr_at, vNot_at, eIf_at, eSl_at, asBl_bl, asInt_int, asLst_lst, addD_int, addI_int, subD_int, negD_int, ltB_int, leB_int, gtB_int, geB_int, eqB_int, neB_int, eqB_str, neB_str, intK_int, absN, lenK_lst, lenK_tup, ixD_tup0, ixD_tup1, ixD_tup2, ixD_lst0, ixD_lst1, ixD_lst2, ixD_lst3, Res.bind_ok, Res.bind_exc, Res.bind_stuck, andThen_ok, andThen_exc, andS_nx, andS_rt, andS_ex, andS_bk, andS_ct, loopO_nx, loopO_ct, loopO_bk, loopO_rt, loopO_ex, List.getElem?_cons_zero, List.getElem?_cons_succ, List.set_cons_zero, List.set_cons_succ, List.length_cons, List.length_nil, List.replicate, List.append_nil, List.nil_append, List.cons_append, Nat.zero_add, Nat.reduceAdd, Nat.reduceSub, Nat.reduceEqDiff, Nat.reduceLT, Bool.and_true, Bool.true_and, Bool.and_false, Bool.false_and, Bool.not_true, Bool.not_false, Bool.false_eq_true, decide_true, decide_false, decide_eq_true_eq, ite_true, ite_false, if_true, if_false, Bool.and_self, Bool.not_not, and_self, and_true, true_and, not_true_eq_false, not_false_eq_true, ckLen_ok, Nat.reduceLeDiff, fld_name, fld_first, fld_second, fld_needs, tn0, tn1, tn2, onC_dD, onCI_dD, cf_str, cf_tn, ↓eMk_at, dD_fold, frz_at, asStr_str, eJoin_at, ↓eFs_at, catP_nil, empty_app, isLst_str, isLst_dD, isLst_non, nc0, nc1, nc2, nc3, nc4, nc5, nc6, nc7, nc8, nc9, nc10, nc11, nc12, Int.reduceEq, Int.reduceLT, Int.reduceLE, Int.reduceNeg, ok1_ok, wipeR_nil, wipeR_cons, ki_names, ki_present, ki_dishes, ki_longest, onC_ki, onCI_ki, isLst_ki, slLst_hi, slLst_lo, slTup_hi, slTup_lo, c1, c2, ins_l (ds := l.map tn) (p := at_ l n) (by simp; omega) (by omega), reduceIte]
        simp
    · simp only [runD_at, entryS_at, slF_t, slF_f, slD_int, slD_str, slD_bl, slD_lst, List.zipWith_cons_cons, List.zipWith_nil_left, List.map, List.length, sSeq_at, sNil_at, sRet_at, sRetN_at, sRetNone_at, sIf_at, sSet_at, sSetN_at, sExpr_at, sPar_at, sTgt_at, sMut_at, sPut_at, sFor_at, sRaise_at, sTry_at, atT_at, Rho.set_mk, gN_at, forL_nil, forL_cons, outR_rt, outR_nx, outR_ex, isLst_int, isLst_bl, isLst_tup, ckFlat_int, ckFlat_bl, e1_at, e2_at, e3c_at, cD_at, aNil_at, aCons_at, eTup_at, eLst_at, toL_at, vS_at, vB_at, eAnd_at, eOr_at, eNot_at, vAnd_at, vOr_at, vNot_at, eIf_at, eSl_at, asBl_bl, asInt_int, asLst_lst, addD_int, addI_int, subD_int, negD_int, ltB_int, leB_int, gtB_int, geB_int, eqB_int, neB_int, eqB_str, neB_str, intK_int, absN, lenK_lst, lenK_tup, ixD_tup0, ixD_tup1, ixD_tup2, ixD_lst0, ixD_lst1, ixD_lst2, ixD_lst3, Res.bind_ok, Res.bind_exc, Res.bind_stuck, andThen_ok, andThen_exc, andS_nx, andS_rt, andS_ex, andS_bk, andS_ct, loopO_nx, loopO_ct, loopO_bk, loopO_rt, loopO_ex, List.getElem?_cons_zero, List.getElem?_cons_succ, List.set_cons_zero, List.set_cons_succ, List.length_cons, List.length_nil, List.replicate, List.append_nil, List.nil_append, List.cons_append, Nat.zero_add, Nat.reduceAdd, Nat.reduceSub, Nat.reduceEqDiff, Nat.reduceLT, Bool.and_true, Bool.true_and, Bool.and_false, Bool.false_and, Bool.not_true, Bool.not_false, Bool.false_eq_true, decide_true, decide_false, decide_eq_true_eq, ite_true, ite_false, if_true, if_false, Bool.and_self, Bool.not_not, and_self, and_true, true_and, not_true_eq_false, not_false_eq_true, ckLen_ok, Nat.reduceLeDiff, fld_name, fld_first, fld_second, fld_needs, tn0, tn1, tn2, onC_dD, onCI_dD, cf_str, cf_tn, ↓eMk_at, dD_fold, frz_at, asStr_str, eJoin_at, ↓eFs_at, catP_nil, empty_app, isLst_str, isLst_dD, isLst_non, nc0, nc1, nc2, nc3, nc4, nc5, nc6, nc7, nc8, nc9, nc10, nc11, nc12, Int.reduceEq, Int.reduceLT, Int.reduceLE, Int.reduceNeg, ok1_ok, wipeR_nil, wipeR_cons, ki_names, ki_present, ki_dishes, ki_longest, onC_ki, onCI_ki, isLst_ki, slLst_hi, slLst_lo, slTup_hi, slTup_lo, c1, false_and, ins_l (ds := l.map tn) (p := at_ l n) (by simp; omega) (by omega), reduceIte]
      simp
  · rw [List.getElem?_eq_none (by omega)]
    simp only [runD_at, entryS_at, slF_t, slF_f, slD_int, slD_str, slD_bl, slD_lst, List.zipWith_cons_cons, List.zipWith_nil_left, List.map, List.length, sSeq_at, sNil_at, sRet_at, sRetN_at, sRetNone_at, sIf_at, sSet_at, sSetN_at, sExpr_at, sPar_at, sTgt_at, sMut_at, sPut_at, sFor_at, sRaise_at, sTry_at, atT_at, Rho.set_mk, gN_at, forL_nil, forL_cons, outR_rt, outR_nx, outR_ex, isLst_int, isLst_bl, isLst_tup, ckFlat_int, ckFlat_bl, e1_at, e2_at, e3c_at, cD_at, aNil_at, aCons_at, eTup_at, eLst_at, toL_at, vS_at, vB_at, eAnd_at, eOr_at, eNot_at, vAnd_at, vOr_at, vNot_at, eIf_at, eSl_at, asBl_bl, asInt_int, asLst_lst, addD_int, addI_int, subD_int, negD_int, ltB_int, leB_int, gtB_int, geB_int, eqB_int, neB_int, eqB_str, neB_str, intK_int, absN, lenK_lst, lenK_tup, ixD_tup0, ixD_tup1, ixD_tup2, ixD_lst0, ixD_lst1, ixD_lst2, ixD_lst3, Res.bind_ok, Res.bind_exc, Res.bind_stuck, andThen_ok, andThen_exc, andS_nx, andS_rt, andS_ex, andS_bk, andS_ct, loopO_nx, loopO_ct, loopO_bk, loopO_rt, loopO_ex, List.getElem?_cons_zero, List.getElem?_cons_succ, List.set_cons_zero, List.set_cons_succ, List.length_cons, List.length_nil, List.replicate, List.append_nil, List.nil_append, List.cons_append, Nat.zero_add, Nat.reduceAdd, Nat.reduceSub, Nat.reduceEqDiff, Nat.reduceLT, Bool.and_true, Bool.true_and, Bool.and_false, Bool.false_and, Bool.not_true, Bool.not_false, Bool.false_eq_true, decide_true, decide_false, decide_eq_true_eq, ite_true, ite_false, if_true, if_false, Bool.and_self, Bool.not_not, and_self, and_true, true_and, not_true_eq_false, not_false_eq_true, ckLen_ok, Nat.reduceLeDiff, fld_name, fld_first, fld_second, fld_needs, tn0, tn1, tn2, onC_dD, onCI_dD, cf_str, cf_tn, ↓eMk_at, dD_fold, frz_at, asStr_str, eJoin_at, ↓eFs_at, catP_nil, empty_app, isLst_str, isLst_dD, isLst_non, nc0, nc1, nc2, nc3, nc4, nc5, nc6, nc7, nc8, nc9, nc10, nc11, nc12, Int.reduceEq, Int.reduceLT, Int.reduceLE, Int.reduceNeg, ok1_ok, wipeR_nil, wipeR_cons, ki_names, ki_present, ki_dishes, ki_longest, onC_ki, onCI_ki, isLst_ki, slLst_hi, slLst_lo, slTup_hi, slTup_lo, List.length_map, lt_cast, h, ins_l (ds := l.map tn) (p := at_ l n) (by simp; omega) (by omega), reduceIte]
    simp
theorem merge_ok (raw : List Nd) (hl : raw.length ≤ 99) : F_w_merge [.lst (raw.map tn)] = .ok (.lst ((mgs raw).map tn)) := by
  unfold F_w_merge den_w_merge
  have lp : ∀ (rs l : List Nd) (s0 a2 a3 : Sl), l.length + rs.length ≤ 99 → ∃ b2 b3 : Sl,
      forL (atT (gN 2) fb_w_merge_0) (rs.map tn) ⟨[s0, .ow (l.map tn), a2, a3], none⟩ = .nx ⟨[s0, .ow ((rs.foldl mg l).map tn), b2, b3], none⟩ := by
    intro rs
    induction rs with
    | nil => exact fun l s0 a2 a3 _ => ⟨a2, a3, rfl⟩
    | cons n rs ih =>
      intro l s0 a2 a3 h
      rw [List.length_cons] at h
      have one := merge_one l n s0 (by omega) a3
      have ml := mg_len l n
      obtain ⟨b2, b3, e⟩ := ih (mg l n) s0 (.sh (tn n)) (.sh (.int (at_ l n : Nat))) (by omega)
      refine ⟨b2, b3, ?_⟩
      rw [List.map_cons, forL_cons]
      simp only [runD_at, entryS_at, slF_t, slF_f, slD_int, slD_str, slD_bl, slD_lst, List.zipWith_cons_cons, List.zipWith_nil_left, List.map, List.length, sSeq_at, sNil_at, sRet_at, sRetN_at, sRetNone_at, sIf_at, sSet_at, sSetN_at, sExpr_at, sPar_at, sTgt_at, sMut_at, sPut_at, sFor_at, sRaise_at, sTry_at, atT_at, Rho.set_mk, gN_at, forL_nil, forL_cons, outR_rt, outR_nx, outR_ex, isLst_int, isLst_bl, isLst_tup, ckFlat_int, ckFlat_bl, e1_at, e2_at, e3c_at, cD_at, aNil_at, aCons_at, eTup_at, eLst_at, toL_at, vS_at, vB_at, eAnd_at, eOr_at, eNot_at, vAnd_at, vOr_at, vNot_at, eIf_at, eSl_at, asBl_bl, asInt_int, asLst_lst, addD_int, addI_int, subD_int, negD_int, ltB_int, leB_int, gtB_int, geB_int, eqB_int, neB_int, eqB_str, neB_str, intK_int, absN, lenK_lst, lenK_tup, ixD_tup0, ixD_tup1, ixD_tup2, ixD_lst0, ixD_lst1, ixD_lst2, ixD_lst3, Res.bind_ok, Res.bind_exc, Res.bind_stuck, andThen_ok, andThen_exc, andS_nx, andS_rt, andS_ex, andS_bk, andS_ct, loopO_nx, loopO_ct, loopO_bk, loopO_rt, loopO_ex, List.getElem?_cons_zero, List.getElem?_cons_succ, List.set_cons_zero, List.set_cons_succ, List.length_cons, List.length_nil, List.replicate, List.append_nil, List.nil_append, List.cons_append, Nat.zero_add, Nat.reduceAdd, Nat.reduceSub, Nat.reduceEqDiff, Nat.reduceLT, Bool.and_true, Bool.true_and, Bool.and_false, Bool.false_and, Bool.not_true, Bool.not_false, Bool.false_eq_true, decide_true, decide_false, decide_eq_true_eq, ite_true, ite_false, if_true, if_false, Bool.and_self, Bool.not_not, and_self, and_true, true_and, not_true_eq_false, not_false_eq_true, ckLen_ok, Nat.reduceLeDiff, fld_name, fld_first, fld_second, fld_needs, tn0, tn1, tn2, onC_dD, onCI_dD, cf_str, cf_tn, ↓eMk_at, dD_fold, frz_at, asStr_str, eJoin_at, ↓eFs_at, catP_nil, empty_app, isLst_str, isLst_dD, isLst_non, nc0, nc1, nc2, nc3, nc4, nc5, nc6, nc7, nc8, nc9, nc10, nc11, nc12, Int.reduceEq, Int.reduceLT, Int.reduceLE, Int.reduceNeg, ok1_ok, wipeR_nil, wipeR_cons, ki_names, ki_present, ki_dishes, ki_longest, onC_ki, onCI_ki, isLst_ki, slLst_hi, slLst_lo, slTup_hi, slTup_lo, one, reduceIte]
      exact e
  obtain ⟨b2, b3, e⟩ := lp raw [] (.bo (.lst (raw.map tn))) .no .no (by simpa using hl)
  have bi : boItems 0 ⟨[Sl.bo (.lst (raw.map tn)), .ow [], .no, .no], none⟩ = .ok (raw.map tn) := if_pos (fl raw)
  simp only [runD_at, entryS_at, slF_t, slF_f, slD_int, slD_str, slD_bl, slD_lst, List.zipWith_cons_cons, List.zipWith_nil_left, List.map, List.length, sSeq_at, sNil_at, sRet_at, sRetN_at, sRetNone_at, sIf_at, sSet_at, sSetN_at, sExpr_at, sPar_at, sTgt_at, sMut_at, sPut_at, sFor_at, sRaise_at, sTry_at, atT_at, Rho.set_mk, gN_at, forL_nil, forL_cons, outR_rt, outR_nx, outR_ex, isLst_int, isLst_bl, isLst_tup, ckFlat_int, ckFlat_bl, e1_at, e2_at, e3c_at, cD_at, aNil_at, aCons_at, eTup_at, eLst_at, toL_at, vS_at, vB_at, eAnd_at, eOr_at, eNot_at, vAnd_at, vOr_at, vNot_at, eIf_at, eSl_at, asBl_bl, asInt_int, asLst_lst, addD_int, addI_int, subD_int, negD_int, ltB_int, leB_int, gtB_int, geB_int, eqB_int, neB_int, eqB_str, neB_str, intK_int, absN, lenK_lst, lenK_tup, ixD_tup0, ixD_tup1, ixD_tup2, ixD_lst0, ixD_lst1, ixD_lst2, ixD_lst3, Res.bind_ok, Res.bind_exc, Res.bind_stuck, andThen_ok, andThen_exc, andS_nx, andS_rt, andS_ex, andS_bk, andS_ct, loopO_nx, loopO_ct, loopO_bk, loopO_rt, loopO_ex, List.getElem?_cons_zero, List.getElem?_cons_succ, List.set_cons_zero, List.set_cons_succ, List.length_cons, List.length_nil, List.replicate, List.append_nil, List.nil_append, List.cons_append, Nat.zero_add, Nat.reduceAdd, Nat.reduceSub, Nat.reduceEqDiff, Nat.reduceLT, Bool.and_true, Bool.true_and, Bool.and_false, Bool.false_and, Bool.not_true, Bool.not_false, Bool.false_eq_true, decide_true, decide_false, decide_eq_true_eq, ite_true, ite_false, if_true, if_false, Bool.and_self, Bool.not_not, and_self, and_true, true_and, not_true_eq_false, not_false_eq_true, ckLen_ok, Nat.reduceLeDiff, fld_name, fld_first, fld_second, fld_needs, tn0, tn1, tn2, onC_dD, onCI_dD, cf_str, cf_tn, ↓eMk_at, dD_fold, frz_at, asStr_str, eJoin_at, ↓eFs_at, catP_nil, empty_app, isLst_str, isLst_dD, isLst_non, nc0, nc1, nc2, nc3, nc4, nc5, nc6, nc7, nc8, nc9, nc10, nc11, nc12, Int.reduceEq, Int.reduceLT, Int.reduceLE, Int.reduceNeg, ok1_ok, wipeR_nil, wipeR_cons, ki_names, ki_present, ki_dishes, ki_longest, onC_ki, onCI_ki, isLst_ki, slLst_hi, slLst_lo, slTup_hi, slTup_lo, ckLen_ok (show 0 ≤ 16777216 by decide), bi, reduceIte]
  rw [show ([] : List D) = ([] : List Nd).map tn from rfl, e]
  rfl
end Kx

set_option Elab.async false
set_option linter.all false
set_option maxRecDepth 100000
set_option maxHeartbeats 1000000
namespace Kx
open PySem PySem.Spec L2 Dv
open PyProof.Rows hiding St
theorem worth_ok (x : Int) (b : Bool) : ∃ r : Int, F_w_worth [.int x, .bl b] = .ok (.int r) ∧ -1000000000000 ≤ r ∧ r ≤ 1000000000000 := by
  unfold F_w_worth den_w_worth
  have p12 : powD (.int 10) (.int 12) = .ok (.int 1000000000000) := pow_lit (by decide) (by decide)
  obtain ⟨r, d, h1, h2⟩ := draw_ok x 0 19 (by decide) (by decide)
  have d : F_w_draw [.int x, .int 0, .int 19] = .ok (.int r) := d
  cases b with
  | true =>
    simp only [runD_at, entryS_at, slF_t, slF_f, slD_int, slD_str, slD_bl, slD_lst, List.zipWith_cons_cons, List.zipWith_nil_left, List.map, List.length, sSeq_at, sNil_at, sRet_at, sRetN_at, sRetNone_at, sIf_at, sSet_at, sSetN_at, sExpr_at, sPar_at, sTgt_at, sMut_at, sPut_at, sFor_at, sRaise_at, sTry_at, atT_at, Rho.set_mk, gN_at, forL_nil, forL_cons, outR_rt, outR_nx, outR_ex, isLst_int, isLst_bl, isLst_tup, ckFlat_int, ckFlat_bl, e1_at, e2_at, e3c_at, cD_at, aNil_at, aCons_at, eTup_at, eLst_at, toL_at, vS_at, vB_at, eAnd_at, eOr_at, eNot_at, vAnd_at, vOr_at, vNot_at, eIf_at, eSl_at, asBl_bl, asInt_int, asLst_lst, addD_int, addI_int, subD_int, negD_int, ltB_int, leB_int, gtB_int, geB_int, eqB_int, neB_int, eqB_str, neB_str, intK_int, absN, lenK_lst, lenK_tup, ixD_tup0, ixD_tup1, ixD_tup2, ixD_lst0, ixD_lst1, ixD_lst2, ixD_lst3, Res.bind_ok, Res.bind_exc, Res.bind_stuck, andThen_ok, andThen_exc, andS_nx, andS_rt, andS_ex, andS_bk, andS_ct, loopO_nx, loopO_ct, loopO_bk, loopO_rt, loopO_ex, List.getElem?_cons_zero, List.getElem?_cons_succ, List.set_cons_zero, List.set_cons_succ, List.length_cons, List.length_nil, List.replicate, List.append_nil, List.nil_append, List.cons_append, Nat.zero_add, Nat.reduceAdd, Nat.reduceSub, Nat.reduceEqDiff, Nat.reduceLT, Bool.and_true, Bool.true_and, Bool.and_false, Bool.false_and, Bool.not_true, Bool.not_false, Bool.false_eq_true, decide_true, decide_false, decide_eq_true_eq, ite_true, ite_false, if_true, if_false, Bool.and_self, Bool.not_not, and_self, and_true, true_and, not_true_eq_false, not_false_eq_true, ckLen_ok, Nat.reduceLeDiff, fld_name, fld_first, fld_second, fld_needs, tn0, tn1, tn2, onC_dD, onCI_dD, cf_str, cf_tn, ↓eMk_at, dD_fold, frz_at, asStr_str, eJoin_at, ↓eFs_at, catP_nil, empty_app, isLst_str, isLst_dD, isLst_non, nc0, nc1, nc2, nc3, nc4, nc5, nc6, nc7, nc8, nc9, nc10, nc11, nc12, Int.reduceEq, Int.reduceLT, Int.reduceLE, Int.reduceNeg, ok1_ok, wipeR_nil, wipeR_cons, ki_names, ki_present, ki_dishes, ki_longest, onC_ki, onCI_ki, isLst_ki, slLst_hi, slLst_lo, slTup_hi, slTup_lo, d, reduceIte]
    exact ⟨_, rfl, by omega, by omega⟩
  | false =>
    simp only [runD_at, entryS_at, slF_t, slF_f, slD_int, slD_str, slD_bl, slD_lst, List.zipWith_cons_cons, List.zipWith_nil_left, List.map, List.length, sSeq_at, sNil_at, sRet_at, sRetN_at, sRetNone_at, sIf_at, sSet_at, sSetN_at, sExpr_at, sPar_at, sTgt_at, sMut_at, sPut_at, sFor_at, sRaise_at, sTry_at, atT_at, Rho.set_mk, gN_at, forL_nil, forL_cons, outR_rt, outR_nx, outR_ex, isLst_int, isLst_bl, isLst_tup, ckFlat_int, ckFlat_bl, e1_at, e2_at, e3c_at, cD_at, aNil_at, aCons_at, eTup_at, eLst_at, toL_at, vS_at, vB_at, eAnd_at, eOr_at, eNot_at, vAnd_at, vOr_at, vNot_at, eIf_at, eSl_at, asBl_bl, asInt_int, asLst_lst, addD_int, addI_int, subD_int, negD_int, ltB_int, leB_int, gtB_int, geB_int, eqB_int, neB_int, eqB_str, neB_str, intK_int, absN, lenK_lst, lenK_tup, ixD_tup0, ixD_tup1, ixD_tup2, ixD_lst0, ixD_lst1, ixD_lst2, ixD_lst3, Res.bind_ok, Res.bind_exc, Res.bind_stuck, andThen_ok, andThen_exc, andS_nx, andS_rt, andS_ex, andS_bk, andS_ct, loopO_nx, loopO_ct, loopO_bk, loopO_rt, loopO_ex, List.getElem?_cons_zero, List.getElem?_cons_succ, List.set_cons_zero, List.set_cons_succ, List.length_cons, List.length_nil, List.replicate, List.append_nil, List.nil_append, List.cons_append, Nat.zero_add, Nat.reduceAdd, Nat.reduceSub, Nat.reduceEqDiff, Nat.reduceLT, Bool.and_true, Bool.true_and, Bool.and_false, Bool.false_and, Bool.not_true, Bool.not_false, Bool.false_eq_true, decide_true, decide_false, decide_eq_true_eq, ite_true, ite_false, if_true, if_false, Bool.and_self, Bool.not_not, and_self, and_true, true_and, not_true_eq_false, not_false_eq_true, ckLen_ok, Nat.reduceLeDiff, fld_name, fld_first, fld_second, fld_needs, tn0, tn1, tn2, onC_dD, onCI_dD, cf_str, cf_tn, ↓eMk_at, dD_fold, frz_at, asStr_str, eJoin_at, ↓eFs_at, catP_nil, empty_app, isLst_str, isLst_dD, isLst_non, nc0, nc1, nc2, nc3, nc4, nc5, nc6, nc7, nc8, nc9, nc10, nc11, nc12, Int.reduceEq, Int.reduceLT, Int.reduceLE, Int.reduceNeg, ok1_ok, wipeR_nil, wipeR_cons, ki_names, ki_present, ki_dishes, ki_longest, onC_ki, onCI_ki, isLst_ki, slLst_hi, slLst_lo, slTup_hi, slTup_lo, p12, mulD_int (mulOk_r (i := x) (j := 1000003) (by decide) (by decide)), mulD_int (mulOk_l (i := 2) (j := 1000000000000) (by decide) (by decide)), modD_int (i := x * 1000003 + 7919) (j := 2 * 1000000000000 + 1) (by decide), reduceIte]
    exact ⟨_, rfl, by omega, by omega⟩
end Kx

set_option Elab.async false
set_option linter.all false
set_option maxRecDepth 100000
set_option maxHeartbeats 1000000
namespace Kx
open PySem PySem.Spec L2 Dv
open PyProof.Rows hiding St
/-- a dish of the menu -/
theorem broad_one (ns : List Int) (least cell m : Int) (names7 : List Str) (nums : List Int) (n1 : names7.length = 7) (n2 : ∀ z ∈ names7, NameOk z) (m1 : 1 ≤ m) (m2 : m ≤ 7) (k : Nat) (hk : k < 9) (menu : List Mn) (hm : menu.length ≤ 20) (s8 s9 : Sl) :
    ∃ (x : Mn) (t8 t9 : Sl), MnOk (names7.take m.toNat) x ∧ fb_w_broad_0 ⟨[.bo (.lst (ns.map .int)), .sh (.int least), .sh (.int cell), .sh (.int m), .sh (.lst (names7.map .str)), .sh (.int (k : Int)), .sh (.lst (nums.map .int)), .ow (menu.map mnD), s8, s9, .no], none⟩ =
      .nx ⟨[.bo (.lst (ns.map .int)), .sh (.int least), .sh (.int cell), .sh (.int m), .sh (.lst (names7.map .str)), .sh (.int (k : Int)), .sh (.lst (nums.map .int)), .ow ((menu ++ [x]).map mnD), t8, t9, .no], none⟩ := by
  unfold fb_w_broad_0
  obtain ⟨r, d1, q1⟩ := drw cell (3 + (k : Int)) 4 (by omega) (by omega) (by decide)
  obtain ⟨g, d2, q2⟩ := drw cell 11 8 (by decide) (by decide) (by decide)
  have hx : maxK [.int 1, .int m] = .ok (.int m) := by
    show Res.ok (D.int (if m > 1 then m else 1)) = _
    by_cases c : m > 1
    · rw [if_pos c]
    · rw [if_neg c]; congr 2; omega
  obtain ⟨nm, hnm⟩ : ∃ nm, names7.take m.toNat = nm := ⟨_, rfl⟩
  have nml : nm.length = m.toNat := by rw [← hnm, List.length_take, n1]; omega
  have nmo : ∀ z ∈ nm, NameOk z := fun z hz => n2 z (by rw [← hnm] at hz; exact List.mem_of_mem_take hz)
  have sl : slLst none (some m) (.lst (names7.map .str)) = .ok (nm.map .str) := by
    have := slLst_hi (ds := names7.map .str) (p := m.toNat)
    rw [Int.toNat_of_nonneg (by omega)] at this
    rw [this, ← List.map_take, hnm]
  obtain ⟨raw, w1, w2, w3⟩ := rawlist_ok ns (3 + 4 * (k : Int)) (1 + (r : Int)) nm (by omega) (by omega) (by omega) (by omega) (by omega) nmo
  have rl : raw.length = 1 + r := by rw [w1]; omega
  have p1 := pk_ok (ns := ns) (k := 3 + (k : Int)) (by omega)
  have p2 := pk_ok (ns := ns) (k := 4 + (k : Int)) (by omega)
  obtain ⟨f, wf, f1, f2⟩ := worth_ok (pk ns (3 + (k : Int))) true
  obtain ⟨s, ws, s1, s2⟩ := worth_ok (pk ns (4 + (k : Int))) false
  have ml4 : mulD (.int 4) (.int (k : Int)) = .ok (.int (4 * (k : Int))) := mulD_int (mulOk_l (by decide) (by decide))
  have hi7 : ((k : Int) + 3) % 7 = (((k + 3) % 7 : Nat) : Int) := by omega
  have h7 : (k + 3) % 7 < names7.length := by rw [n1]; exact Nat.mod_lt _ (by decide)
  have i7 : ixD (.lst (names7.map .str)) (.int (((k + 3) % 7 : Nat) : Int)) = .ok (.str names7[(k + 3) % 7]) := by
    rw [ixD_lst (k := (k + 3) % 7) (by simpa using h7), List.getElem_map]
  obtain ⟨z, ez⟩ : ∃ z, names7[(k + 3) % 7] = z := ⟨_, rfl⟩
  have hz : NameOk z := by rw [← ez]; exact n2 _ (List.getElem_mem h7)
  rw [ez] at i7
  have md7 : modD (.int ((k : Int) + 3)) (.int 7) = .ok (.int (((k + 3) % 7 : Nat) : Int)) := by rw [modD_int (by decide), hi7]
  -- the needs, perhaps late
  obtain ⟨raw', e1, e2, e3, st⟩ : ∃ raw' : List Nd, raw'.length = 1 + r ∧ (∀ n ∈ raw', NdOk n ∧ n.2.1 ∈ nm ∧ n.1 < 101 ∧ n.2.2 ≤ 1000) ∧ True ∧
      sIf (eAnd (e2 (vB 5) (cD (.int 0)) eqB) (e2 (e1 (aCons (vS 2) (aCons (cD (.int 11)) (aCons (cD (.int 8)) aNil))) F_w_draw) (cD (.int 0)) eqB)) (sSet 8 (toL (eLc [10] (e1 (vS 8) seqItems) (gN 10) l_w_broad_0))) sNil
        ⟨[.bo (.lst (ns.map .int)), .sh (.int least), .sh (.int cell), .sh (.int m), .sh (.lst (names7.map .str)), .sh (.int (k : Int)), .sh (.lst (nums.map .int)), .ow (menu.map mnD), .sh (.lst (raw.map tn)), .sh (.lst [.int f, .int s]), .no], none⟩ =
        .nx ⟨[.bo (.lst (ns.map .int)), .sh (.int least), .sh (.int cell), .sh (.int m), .sh (.lst (names7.map .str)), .sh (.int (k : Int)), .sh (.lst (nums.map .int)), .ow (menu.map mnD), .sh (.lst (raw'.map tn)), .sh (.lst [.int f, .int s]), .no], none⟩ := by
    by_cases c1 : (k : Int) = 0
    · by_cases c2 : (g : Int) = 0
      · refine ⟨raw.map (later 70), by rw [List.length_map, rl], fun n hn => ?_, trivial, ?_⟩
        · obtain ⟨n', hn', rfl⟩ := List.mem_map.mp hn
          obtain ⟨a1, a2, a3, a4⟩ := w2 n' hn'
          have := a1.b
          exact ⟨⟨by show 0 ≤ n'.1 + 70; omega, a1.t, a1.a⟩, a2, by show n'.1 + 70 < 101; omega, a4⟩
        · have lc : eLc [10] (e1 (vS 8) seqItems) (gN 10) l_w_broad_0 ⟨[.bo (.lst (ns.map .int)), .sh (.int least), .sh (.int cell), .sh (.int m), .sh (.lst (names7.map .str)), .sh (.int (k : Int)), .sh (.lst (nums.map .int)), .ow (menu.map mnD), .sh (.lst (raw.map tn)), .sh (.lst [.int f, .int s]), .no], none⟩ = .ok ((raw.map (later 70)).map tn) :=
            eLc_ok rfl rfl (by omega) fun n hn => rfl
          rw [c1] at lc ⊢
          simp only [runD_at, entryS_at, slF_t, slF_f, slD_int, slD_str, slD_bl, slD_lst, List.zipWith_cons_cons, List.zipWith_nil_left, List.map, List.length, sSeq_at, sNil_at, sRet_at, sRetN_at, sRetNone_at, sIf_at, sSet_at, sSetN_at, sExpr_at, sPar_at, sTgt_at, sMut_at, sPut_at, sFor_at, sRaise_at, sTry_at, atT_at, Rho.set_mk, gN_at, forL_nil, forL_cons, outR_rt, outR_nx, outR_ex, isLst_int, isLst_bl, isLst_tup, ckFlat_int, ckFlat_bl, e1_at, e2_at, e3c_at, cD_at, aNil_at, aCons_at, eTup_at, eLst_at, toL_at, vS_at, vB_at, eAnd_at, eOr_at, eNot_at, vAnd_at, vOr_at, vNot_at, eIf_at, eSl_at, asBl_bl, asInt_int, asLst_lst, addD_int, addI_int, subD_int, negD_int, ltB_int, leB_int, gtB_int, geB_int, eqB_int, neB_int, eqB_str, neB_str, intK_int, absN, lenK_lst, lenK_tup, ixD_tup0, ixD_tup1, ixD_tup2, ixD_lst0, ixD_lst1, ixD_lst2, ixD_lst3, Res.bind_ok, Res.bind_exc, Res.bind_stuck, andThen_ok, andThen_exc, andS_nx, andS_rt, andS_ex, andS_bk, andS_ct, loopO_nx, loopO_ct, loopO_bk, loopO_rt, loopO_ex, List.getElem?_cons_zero, List.getElem?_cons_succ, List.set_cons_zero, List.set_cons_succ, List.length_cons, List.length_nil, List.replicate, List.append_nil, List.nil_append, List.cons_append, Nat.zero_add, Nat.reduceAdd, Nat.reduceSub, Nat.reduceEqDiff, Nat.reduceLT, Bool.and_true, Bool.true_and, Bool.and_false, Bool.false_and, Bool.not_true, Bool.not_false, Bool.false_eq_true, decide_true, decide_false, decide_eq_true_eq, ite_true, ite_false, if_true, if_false, Bool.and_self, Bool.not_not, and_self, and_true, true_and, not_true_eq_false, not_false_eq_true, ckLen_ok, Nat.reduceLeDiff, fld_name, fld_first, fld_second, fld_needs, tn0, tn1, tn2, onC_dD, onCI_dD, cf_str, cf_tn, ↓eMk_at, dD_fold, frz_at, asStr_str, eJoin_at, ↓eFs_at, catP_nil, empty_app, isLst_str, isLst_dD, isLst_non, nc0, nc1, nc2, nc3, nc4, nc5, nc6, nc7, nc8, nc9, nc10, nc11, nc12, Int.reduceEq, Int.reduceLT, Int.reduceLE, Int.reduceNeg, ok1_ok, wipeR_nil, wipeR_cons, ki_names, ki_present, ki_dishes, ki_longest, onC_ki, onCI_ki, isLst_ki, slLst_hi, slLst_lo, slTup_hi, slTup_lo, d2, c2, lc, reduceIte]
      · refine ⟨raw, rl, fun n hn => ⟨(w2 n hn).1, (w2 n hn).2.1, by have := (w2 n hn).2.2.1; omega, (w2 n hn).2.2.2⟩, trivial, ?_⟩
        simp only [runD_at, entryS_at, slF_t, slF_f, slD_int, slD_str, slD_bl, slD_lst, List.zipWith_cons_cons, List.zipWith_nil_left, List.map, List.length, sSeq_at, sNil_at, sRet_at, sRetN_at, sRetNone_at, sIf_at, sSet_at, sSetN_at, sExpr_at, sPar_at, sTgt_at, sMut_at, sPut_at, sFor_at, sRaise_at, sTry_at, atT_at, Rho.set_mk, gN_at, forL_nil, forL_cons, outR_rt, outR_nx, outR_ex, isLst_int, isLst_bl, isLst_tup, ckFlat_int, ckFlat_bl, e1_at, e2_at, e3c_at, cD_at, aNil_at, aCons_at, eTup_at, eLst_at, toL_at, vS_at, vB_at, eAnd_at, eOr_at, eNot_at, vAnd_at, vOr_at, vNot_at, eIf_at, eSl_at, asBl_bl, asInt_int, asLst_lst, addD_int, addI_int, subD_int, negD_int, ltB_int, leB_int, gtB_int, geB_int, eqB_int, neB_int, eqB_str, neB_str, intK_int, absN, lenK_lst, lenK_tup, ixD_tup0, ixD_tup1, ixD_tup2, ixD_lst0, ixD_lst1, ixD_lst2, ixD_lst3, Res.bind_ok, Res.bind_exc, Res.bind_stuck, andThen_ok, andThen_exc, andS_nx, andS_rt, andS_ex, andS_bk, andS_ct, loopO_nx, loopO_ct, loopO_bk, loopO_rt, loopO_ex, List.getElem?_cons_zero, List.getElem?_cons_succ, List.set_cons_zero, List.set_cons_succ, List.length_cons, List.length_nil, List.replicate, List.append_nil, List.nil_append, List.cons_append, Nat.zero_add, Nat.reduceAdd, Nat.reduceSub, Nat.reduceEqDiff, Nat.reduceLT, Bool.and_true, Bool.true_and, Bool.and_false, Bool.false_and, Bool.not_true, Bool.not_false, Bool.false_eq_true, decide_true, decide_false, decide_eq_true_eq, ite_true, ite_false, if_true, if_false, Bool.and_self, Bool.not_not, and_self, and_true, true_and, not_true_eq_false, not_false_eq_true, ckLen_ok, Nat.reduceLeDiff, fld_name, fld_first, fld_second, fld_needs, tn0, tn1, tn2, onC_dD, onCI_dD, cf_str, cf_tn, ↓eMk_at, dD_fold, frz_at, asStr_str, eJoin_at, ↓eFs_at, catP_nil, empty_app, isLst_str, isLst_dD, isLst_non, nc0, nc1, nc2, nc3, nc4, nc5, nc6, nc7, nc8, nc9, nc10, nc11, nc12, Int.reduceEq, Int.reduceLT, Int.reduceLE, Int.reduceNeg, ok1_ok, wipeR_nil, wipeR_cons, ki_names, ki_present, ki_dishes, ki_longest, onC_ki, onCI_ki, isLst_ki, slLst_hi, slLst_lo, slTup_hi, slTup_lo, c1, d2, c2, reduceIte]
    · refine ⟨raw, rl, fun n hn => ⟨(w2 n hn).1, (w2 n hn).2.1, by have := (w2 n hn).2.2.1; omega, (w2 n hn).2.2.2⟩, trivial, ?_⟩
      simp only [runD_at, entryS_at, slF_t, slF_f, slD_int, slD_str, slD_bl, slD_lst, List.zipWith_cons_cons, List.zipWith_nil_left, List.map, List.length, sSeq_at, sNil_at, sRet_at, sRetN_at, sRetNone_at, sIf_at, sSet_at, sSetN_at, sExpr_at, sPar_at, sTgt_at, sMut_at, sPut_at, sFor_at, sRaise_at, sTry_at, atT_at, Rho.set_mk, gN_at, forL_nil, forL_cons, outR_rt, outR_nx, outR_ex, isLst_int, isLst_bl, isLst_tup, ckFlat_int, ckFlat_bl, e1_at, e2_at, e3c_at, cD_at, aNil_at, aCons_at, eTup_at, eLst_at, toL_at, vS_at, vB_at, eAnd_at, eOr_at, eNot_at, vAnd_at, vOr_at, vNot_at, eIf_at, eSl_at, asBl_bl, asInt_int, asLst_lst, addD_int, addI_int, subD_int, negD_int, ltB_int, leB_int, gtB_int, geB_int, eqB_int, neB_int, eqB_str, neB_str, intK_int, absN, lenK_lst, lenK_tup, ixD_tup0, ixD_tup1, ixD_tup2, ixD_lst0, ixD_lst1, ixD_lst2, ixD_lst3, Res.bind_ok, Res.bind_exc, Res.bind_stuck, andThen_ok, andThen_exc, andS_nx, andS_rt, andS_ex, andS_bk, andS_ct, loopO_nx, loopO_ct, loopO_bk, loopO_rt, loopO_ex, List.getElem?_cons_zero, List.getElem?_cons_succ, List.set_cons_zero, List.set_cons_succ, List.length_cons, List.length_nil, List.replicate, List.append_nil, List.nil_append, List.cons_append, Nat.zero_add, Nat.reduceAdd, Nat.reduceSub, Nat.reduceEqDiff, Nat.reduceLT, Bool.and_true, Bool.true_and, Bool.and_false, Bool.false_and, Bool.not_true, Bool.not_false, Bool.false_eq_true, decide_true, decide_false, decide_eq_true_eq, ite_true, ite_false, if_true, if_false, Bool.and_self, Bool.not_not, and_self, and_true, true_and, not_true_eq_false, not_false_eq_true, ckLen_ok, Nat.reduceLeDiff, fld_name, fld_first, fld_second, fld_needs, tn0, tn1, tn2, onC_dD, onCI_dD, cf_str, cf_tn, ↓eMk_at, dD_fold, frz_at, asStr_str, eJoin_at, ↓eFs_at, catP_nil, empty_app, isLst_str, isLst_dD, isLst_non, nc0, nc1, nc2, nc3, nc4, nc5, nc6, nc7, nc8, nc9, nc10, nc11, nc12, Int.reduceEq, Int.reduceLT, Int.reduceLE, Int.reduceNeg, ok1_ok, wipeR_nil, wipeR_cons, ki_names, ki_present, ki_dishes, ki_longest, onC_ki, onCI_ki, isLst_ki, slLst_hi, slLst_lo, slTup_hi, slTup_lo, c1, reduceIte]
  have rok : ∀ n ∈ raw', NdOk n := fun n hn => (e2 n hn).1
  have mr := merge_ok raw' (by omega)
  have mll := mgs_le raw'
  have amt := mgs_amount (B := 1000) (by decide) (fun n hn => (rok n hn).a) fun n hn => (e2 n hn).2.2.2
  refine ⟨⟨z, f, s, mgs raw'⟩, .sh (.lst (raw'.map tn)), .sh (.lst [.int f, .int s]), ⟨hz, ⟨by show -_ ≤ f; omega, by show f ≤ _; omega⟩, ⟨by show -_ ≤ s; omega, by show s ≤ _; omega⟩, DOk.mk_raw (by omega) rok, ?_, ?_, ?_, ?_⟩, ?_⟩
  · rw [hnm]
    exact mgs_all (Q := fun n => n.2.1 ∈ nm) (fun a b _ e h => by rw [← e]; exact h) fun n hn => (e2 n hn).2.1
  · exact mgs_all (Q := fun n => n.1 < 101) (fun a b e _ h => by rw [← e]; exact h) fun n hn => (e2 n hn).2.2.1
  · exact fun n hn => by
      have := amt n hn
      have : (raw'.length : Int) * 1000 ≤ 4000 := by omega
      omega
  · show (mgs raw').length ≤ 20
    omega
  refine seq_and (by simp only [runD_at, entryS_at, slF_t, slF_f, slD_int, slD_str, slD_bl, slD_lst, List.zipWith_cons_cons, List.zipWith_nil_left, List.map, List.length, sSeq_at, sNil_at, sRet_at, sRetN_at, sRetNone_at, sIf_at, sSet_at, sSetN_at, sExpr_at, sPar_at, sTgt_at, sMut_at, sPut_at, sFor_at, sRaise_at, sTry_at, atT_at, Rho.set_mk, gN_at, forL_nil, forL_cons, outR_rt, outR_nx, outR_ex, isLst_int, isLst_bl, isLst_tup, ckFlat_int, ckFlat_bl, e1_at, e2_at, e3c_at, cD_at, aNil_at, aCons_at, eTup_at, eLst_at, toL_at, vS_at, vB_at, eAnd_at, eOr_at, eNot_at, vAnd_at, vOr_at, vNot_at, eIf_at, eSl_at, asBl_bl, asInt_int, asLst_lst, addD_int, addI_int, subD_int, negD_int, ltB_int, leB_int, gtB_int, geB_int, eqB_int, neB_int, eqB_str, neB_str, intK_int, absN, lenK_lst, lenK_tup, ixD_tup0, ixD_tup1, ixD_tup2, ixD_lst0, ixD_lst1, ixD_lst2, ixD_lst3, Res.bind_ok, Res.bind_exc, Res.bind_stuck, andThen_ok, andThen_exc, andS_nx, andS_rt, andS_ex, andS_bk, andS_ct, loopO_nx, loopO_ct, loopO_bk, loopO_rt, loopO_ex, List.getElem?_cons_zero, List.getElem?_cons_succ, List.set_cons_zero, List.set_cons_succ, List.length_cons, List.length_nil, List.replicate, List.append_nil, List.nil_append, List.cons_append, Nat.zero_add, Nat.reduceAdd, Nat.reduceSub, Nat.reduceEqDiff, Nat.reduceLT, Bool.and_true, Bool.true_and, Bool.and_false, Bool.false_and, Bool.not_true, Bool.not_false, Bool.false_eq_true, decide_true, decide_false, decide_eq_true_eq, ite_true, ite_false, if_true, if_false, Bool.and_self, Bool.not_not, and_self, and_true, true_and, not_true_eq_false, not_false_eq_true, ckLen_ok, Nat.reduceLeDiff, fld_name, fld_first, fld_second, fld_needs, tn0, tn1, tn2, onC_dD, onCI_dD, cf_str, cf_tn, ↓eMk_at, dD_fold, frz_at, asStr_str, eJoin_at, ↓eFs_at, catP_nil, empty_app, isLst_str, isLst_dD, isLst_non, nc0, nc1, nc2, nc3, nc4, nc5, nc6, nc7, nc8, nc9, nc10, nc11, nc12, Int.reduceEq, Int.reduceLT, Int.reduceLE, Int.reduceNeg, ok1_ok, wipeR_nil, wipeR_cons, ki_names, ki_present, ki_dishes, ki_longest, onC_ki, onCI_ki, isLst_ki, slLst_hi, slLst_lo, slTup_hi, slTup_lo, ml4, d1, hx, sl, w3, reduceIte] <;> (with_reducible exact rfl)) ?_
  refine seq_and (by simp only [runD_at, entryS_at, slF_t, slF_f, slD_int, slD_str, slD_bl, slD_lst, List.zipWith_cons_cons, List.zipWith_nil_left, List.map, List.length, sSeq_at, sNil_at, sRet_at, sRetN_at, sRetNone_at, sIf_at, sSet_at, sSetN_at, sExpr_at, sPar_at, sTgt_at, sMut_at, sPut_at, sFor_at, sRaise_at, sTry_at, atT_at, Rho.set_mk, gN_at, forL_nil, forL_cons, outR_rt, outR_nx, outR_ex, isLst_int, isLst_bl, isLst_tup, ckFlat_int, ckFlat_bl, e1_at, e2_at, e3c_at, cD_at, aNil_at, aCons_at, eTup_at, eLst_at, toL_at, vS_at, vB_at, eAnd_at, eOr_at, eNot_at, vAnd_at, vOr_at, vNot_at, eIf_at, eSl_at, asBl_bl, asInt_int, asLst_lst, addD_int, addI_int, subD_int, negD_int, ltB_int, leB_int, gtB_int, geB_int, eqB_int, neB_int, eqB_str, neB_str, intK_int, absN, lenK_lst, lenK_tup, ixD_tup0, ixD_tup1, ixD_tup2, ixD_lst0, ixD_lst1, ixD_lst2, ixD_lst3, Res.bind_ok, Res.bind_exc, Res.bind_stuck, andThen_ok, andThen_exc, andS_nx, andS_rt, andS_ex, andS_bk, andS_ct, loopO_nx, loopO_ct, loopO_bk, loopO_rt, loopO_ex, List.getElem?_cons_zero, List.getElem?_cons_succ, List.set_cons_zero, List.set_cons_succ, List.length_cons, List.length_nil, List.replicate, List.append_nil, List.nil_append, List.cons_append, Nat.zero_add, Nat.reduceAdd, Nat.reduceSub, Nat.reduceEqDiff, Nat.reduceLT, Bool.and_true, Bool.true_and, Bool.and_false, Bool.false_and, Bool.not_true, Bool.not_false, Bool.false_eq_true, decide_true, decide_false, decide_eq_true_eq, ite_true, ite_false, if_true, if_false, Bool.and_self, Bool.not_not, and_self, and_true, true_and, not_true_eq_false, not_false_eq_true, ckLen_ok, Nat.reduceLeDiff, fld_name, fld_first, fld_second, fld_needs, tn0, tn1, tn2, onC_dD, onCI_dD, cf_str, cf_tn, ↓eMk_at, dD_fold, frz_at, asStr_str, eJoin_at, ↓eFs_at, catP_nil, empty_app, isLst_str, isLst_dD, isLst_non, nc0, nc1, nc2, nc3, nc4, nc5, nc6, nc7, nc8, nc9, nc10, nc11, nc12, Int.reduceEq, Int.reduceLT, Int.reduceLE, Int.reduceNeg, ok1_ok, wipeR_nil, wipeR_cons, ki_names, ki_present, ki_dishes, ki_longest, onC_ki, onCI_ki, isLst_ki, slLst_hi, slLst_lo, slTup_hi, slTup_lo, p1, p2, wf, ws, reduceIte] <;> (with_reducible exact rfl)) ?_
  refine seq_and st ?_
  have ap : appK (menu.map mnD) [.lst [.str z, .int f, .int s, .lst ((mgs raw').map tn)]] = .ok ((menu ++ [(⟨z, f, s, mgs raw'⟩ : Mn)]).map mnD) := by
    rw [Dv.app_ok (by rw [List.length_map]; omega), List.map_append]; rfl
  simp only [runD_at, entryS_at, slF_t, slF_f, slD_int, slD_str, slD_bl, slD_lst, List.zipWith_cons_cons, List.zipWith_nil_left, List.map, List.length, sSeq_at, sNil_at, sRet_at, sRetN_at, sRetNone_at, sIf_at, sSet_at, sSetN_at, sExpr_at, sPar_at, sTgt_at, sMut_at, sPut_at, sFor_at, sRaise_at, sTry_at, atT_at, Rho.set_mk, gN_at, forL_nil, forL_cons, outR_rt, outR_nx, outR_ex, isLst_int, isLst_bl, isLst_tup, ckFlat_int, ckFlat_bl, e1_at, e2_at, e3c_at, cD_at, aNil_at, aCons_at, eTup_at, eLst_at, toL_at, vS_at, vB_at, eAnd_at, eOr_at, eNot_at, vAnd_at, vOr_at, vNot_at, eIf_at, eSl_at, asBl_bl, asInt_int, asLst_lst, addD_int, addI_int, subD_int, negD_int, ltB_int, leB_int, gtB_int, geB_int, eqB_int, neB_int, eqB_str, neB_str, intK_int, absN, lenK_lst, lenK_tup, ixD_tup0, ixD_tup1, ixD_tup2, ixD_lst0, ixD_lst1, ixD_lst2, ixD_lst3, Res.bind_ok, Res.bind_exc, Res.bind_stuck, andThen_ok, andThen_exc, andS_nx, andS_rt, andS_ex, andS_bk, andS_ct, loopO_nx, loopO_ct, loopO_bk, loopO_rt, loopO_ex, List.getElem?_cons_zero, List.getElem?_cons_succ, List.set_cons_zero, List.set_cons_succ, List.length_cons, List.length_nil, List.replicate, List.append_nil, List.nil_append, List.cons_append, Nat.zero_add, Nat.reduceAdd, Nat.reduceSub, Nat.reduceEqDiff, Nat.reduceLT, Bool.and_true, Bool.true_and, Bool.and_false, Bool.false_and, Bool.not_true, Bool.not_false, Bool.false_eq_true, decide_true, decide_false, decide_eq_true_eq, ite_true, ite_false, if_true, if_false, Bool.and_self, Bool.not_not, and_self, and_true, true_and, not_true_eq_false, not_false_eq_true, ckLen_ok, Nat.reduceLeDiff, fld_name, fld_first, fld_second, fld_needs, tn0, tn1, tn2, onC_dD, onCI_dD, cf_str, cf_tn, ↓eMk_at, dD_fold, frz_at, asStr_str, eJoin_at, ↓eFs_at, catP_nil, empty_app, isLst_str, isLst_dD, isLst_non, nc0, nc1, nc2, nc3, nc4, nc5, nc6, nc7, nc8, nc9, nc10, nc11, nc12, Int.reduceEq, Int.reduceLT, Int.reduceLE, Int.reduceNeg, ok1_ok, wipeR_nil, wipeR_cons, ki_names, ki_present, ki_dishes, ki_longest, onC_ki, onCI_ki, isLst_ki, slLst_hi, slLst_lo, slTup_hi, slTup_lo, md7, i7, mr, ap, reduceIte]
theorem broad_ok (ns : List Int) (least : Int) (l0 : 0 ≤ least) (l1 : least ≤ 6) : ∃ (names : List Str) (nums : List Int) (menu : List Mn), F_w_broad [.lst (ns.map .int), .int least] = .ok (.lst (kD names nums menu)) ∧
    KOk names nums menu ∧ least ≤ names.length ∧ names.length ≤ 7 ∧ (∀ k ∈ nums, k ≤ 1000) ∧ menu.length ≤ 8 := by
  unfold F_w_broad den_w_broad
  rw [runD_at, show entryS [false, true] 11 [.lst (ns.map .int), .int least] = ⟨[.bo (.lst (ns.map .int)), .sh (.int least), .no, .no, .no, .no, .no, .no, .no, .no, .no], none⟩ from rfl]
  have p0 := pk_ok (ns := ns) (k := 0) (by decide)
  have p1 := pk_ok (ns := ns) (k := 1) (by decide)
  have p2 := pk_ok (ns := ns) (k := 2) (by decide)
  obtain ⟨cell, hc⟩ : ∃ x, pk ns 0 = x := ⟨_, rfl⟩
  rw [hc] at p0
  obtain ⟨r0, d0, q0⟩ := drw cell 0 (7 - least) (by decide) (by decide) (by omega)
  obtain ⟨r1, d1, q1⟩ := drw cell 1 2 (by decide) (by decide) (by decide)
  obtain ⟨r2, d2, q2⟩ := drw cell 2 9 (by decide) (by decide) (by decide)
  obtain ⟨names7, n1, n2, n3, nd⟩ := namelist_nd (pk ns 1) 7 (by decide) (by decide)
  have n1 : names7.length = 7 := n1
  obtain ⟨m, em⟩ : ∃ m : Int, least + (r0 : Int) = m := ⟨_, rfl⟩
  have m1 : least ≤ m := by omega
  have m2 : m ≤ 6 := by omega
  obtain ⟨W, iW, W1, W2⟩ : ∃ W : Int, ixD (.lst [.int 4, .int 1001]) (.int (r1 : Int)) = .ok (.int W) ∧ 0 < W ∧ W ≤ 1001 := by
    have : r1 = 0 ∨ r1 = 1 := by omega
    rcases this with e | e
    · subst e; exact ⟨4, ixD_lst0, by decide, by decide⟩
    · subst e; exact ⟨1001, ixD_lst1, by decide, by decide⟩
  -- the numbers
  obtain ⟨nums, u1, u2, lc⟩ : ∃ nums : List Int, nums.length = m.toNat ∧ (∀ k ∈ nums, 0 ≤ k ∧ k ≤ 1000) ∧ eLc [5] (e1 (aCons (vB 3) aNil) rg1) (gN 5) l_w_broad_1 ⟨[.bo (.lst (ns.map .int)), .sh (.int least), .sh (.int cell), .sh (.int m), .sh (.lst (names7.map .str)), .no, .no, .no, .no, .no, .no], none⟩ = .ok (nums.map .int) := by
    refine ⟨(List.range m.toNat).map fun i => (dr (pk ns 2) ((0 : Int) + (i : Nat)) W : Int), by rw [List.length_map, List.length_range], fun k hk => ?_, ?_⟩
    · obtain ⟨i, hi, rfl⟩ := List.mem_map.mp hk
      have := List.mem_range.mp hi
      have := dr_lt (x := pk ns 2) (k := (0 : Int) + (i : Nat)) (m := W) (by omega) (by omega) W1
      omega
    · have rg : rg1 [.int m] = .ok ((List.range m.toNat).map fun i => .int ((0 : Int) + (i : Nat))) := rg_ok (by omega)
      refine eLc_of (ds := (List.range m.toNat).map fun i => .int ((0 : Int) + (i : Nat))) rfl (by simp only [runD_at, entryS_at, slF_t, slF_f, slD_int, slD_str, slD_bl, slD_lst, List.zipWith_cons_cons, List.zipWith_nil_left, List.map, List.length, sSeq_at, sNil_at, sRet_at, sRetN_at, sRetNone_at, sIf_at, sSet_at, sSetN_at, sExpr_at, sPar_at, sTgt_at, sMut_at, sPut_at, sFor_at, sRaise_at, sTry_at, atT_at, Rho.set_mk, gN_at, forL_nil, forL_cons, outR_rt, outR_nx, outR_ex, isLst_int, isLst_bl, isLst_tup, ckFlat_int, ckFlat_bl, e1_at, e2_at, e3c_at, cD_at, aNil_at, aCons_at, eTup_at, eLst_at, toL_at, vS_at, vB_at, eAnd_at, eOr_at, eNot_at, vAnd_at, vOr_at, vNot_at, eIf_at, eSl_at, asBl_bl, asInt_int, asLst_lst, addD_int, addI_int, subD_int, negD_int, ltB_int, leB_int, gtB_int, geB_int, eqB_int, neB_int, eqB_str, neB_str, intK_int, absN, lenK_lst, lenK_tup, ixD_tup0, ixD_tup1, ixD_tup2, ixD_lst0, ixD_lst1, ixD_lst2, ixD_lst3, Res.bind_ok, Res.bind_exc, Res.bind_stuck, andThen_ok, andThen_exc, andS_nx, andS_rt, andS_ex, andS_bk, andS_ct, loopO_nx, loopO_ct, loopO_bk, loopO_rt, loopO_ex, List.getElem?_cons_zero, List.getElem?_cons_succ, List.set_cons_zero, List.set_cons_succ, List.length_cons, List.length_nil, List.replicate, List.append_nil, List.nil_append, List.cons_append, Nat.zero_add, Nat.reduceAdd, Nat.reduceSub, Nat.reduceEqDiff, Nat.reduceLT, Bool.and_true, Bool.true_and, Bool.and_false, Bool.false_and, Bool.not_true, Bool.not_false, Bool.false_eq_true, decide_true, decide_false, decide_eq_true_eq, ite_true, ite_false, if_true, if_false, Bool.and_self, Bool.not_not, and_self, and_true, true_and, not_true_eq_false, not_false_eq_true, ckLen_ok, Nat.reduceLeDiff, fld_name, fld_first, fld_second, fld_needs, tn0, tn1, tn2, onC_dD, onCI_dD, cf_str, cf_tn, ↓eMk_at, dD_fold, frz_at, asStr_str, eJoin_at, ↓eFs_at, catP_nil, empty_app, isLst_str, isLst_dD, isLst_non, nc0, nc1, nc2, nc3, nc4, nc5, nc6, nc7, nc8, nc9, nc10, nc11, nc12, Int.reduceEq, Int.reduceLT, Int.reduceLE, Int.reduceNeg, ok1_ok, wipeR_nil, wipeR_cons, ki_names, ki_present, ki_dishes, ki_longest, onC_ki, onCI_ki, isLst_ki, slLst_hi, slLst_lo, slTup_hi, slTup_lo, rg, reduceIte]) (by rw [List.length_map, List.length_range]; omega) ?_
      refine mapL_gen (a := fun i : Nat => .int ((0 : Int) + (i : Nat))) (b := D.int) (g := fun i : Nat => (dr (pk ns 2) ((0 : Int) + (i : Nat)) W : Int)) fun i hi => ?_
      have := List.mem_range.mp hi
      refine lcOne_of (gN_at ..) ?_
      unfold l_w_broad_1
      simp only [runD_at, entryS_at, slF_t, slF_f, slD_int, slD_str, slD_bl, slD_lst, List.zipWith_cons_cons, List.zipWith_nil_left, List.map, List.length, sSeq_at, sNil_at, sRet_at, sRetN_at, sRetNone_at, sIf_at, sSet_at, sSetN_at, sExpr_at, sPar_at, sTgt_at, sMut_at, sPut_at, sFor_at, sRaise_at, sTry_at, atT_at, Rho.set_mk, gN_at, forL_nil, forL_cons, outR_rt, outR_nx, outR_ex, isLst_int, isLst_bl, isLst_tup, ckFlat_int, ckFlat_bl, e1_at, e2_at, e3c_at, cD_at, aNil_at, aCons_at, eTup_at, eLst_at, toL_at, vS_at, vB_at, eAnd_at, eOr_at, eNot_at, vAnd_at, vOr_at, vNot_at, eIf_at, eSl_at, asBl_bl, asInt_int, asLst_lst, addD_int, addI_int, subD_int, negD_int, ltB_int, leB_int, gtB_int, geB_int, eqB_int, neB_int, eqB_str, neB_str, intK_int, absN, lenK_lst, lenK_tup, ixD_tup0, ixD_tup1, ixD_tup2, ixD_lst0, ixD_lst1, ixD_lst2, ixD_lst3, Res.bind_ok, Res.bind_exc, Res.bind_stuck, andThen_ok, andThen_exc, andS_nx, andS_rt, andS_ex, andS_bk, andS_ct, loopO_nx, loopO_ct, loopO_bk, loopO_rt, loopO_ex, List.getElem?_cons_zero, List.getElem?_cons_succ, List.set_cons_zero, List.set_cons_succ, List.length_cons, List.length_nil, List.replicate, List.append_nil, List.nil_append, List.cons_append, Nat.zero_add, Nat.reduceAdd, Nat.reduceSub, Nat.reduceEqDiff, Nat.reduceLT, Bool.and_true, Bool.true_and, Bool.and_false, Bool.false_and, Bool.not_true, Bool.not_false, Bool.false_eq_true, decide_true, decide_false, decide_eq_true_eq, ite_true, ite_false, if_true, if_false, Bool.and_self, Bool.not_not, and_self, and_true, true_and, not_true_eq_false, not_false_eq_true, ckLen_ok, Nat.reduceLeDiff, fld_name, fld_first, fld_second, fld_needs, tn0, tn1, tn2, onC_dD, onCI_dD, cf_str, cf_tn, ↓eMk_at, dD_fold, frz_at, asStr_str, eJoin_at, ↓eFs_at, catP_nil, empty_app, isLst_str, isLst_dD, isLst_non, nc0, nc1, nc2, nc3, nc4, nc5, nc6, nc7, nc8, nc9, nc10, nc11, nc12, Int.reduceEq, Int.reduceLT, Int.reduceLE, Int.reduceNeg, ok1_ok, wipeR_nil, wipeR_cons, ki_names, ki_present, ki_dishes, ki_longest, onC_ki, onCI_ki, isLst_ki, slLst_hi, slLst_lo, slTup_hi, slTup_lo, p2, d1, iW, dr_ok (x := pk ns 2) (k := (0 : Int) + (i : Nat)) (m := W) (by omega) (by omega) W1, reduceIte]
  -- the menu
  have lp : ∀ (ks : List Nat) (menu : List Mn) (s5 s8 s9 : Sl), menu.length + ks.length ≤ 8 → 1 ≤ m → (∀ k ∈ ks, k < 9) → (∀ x ∈ menu, MnOk (names7.take m.toNat) x) → ∃ (menu' : List Mn) (t5 t8 t9 : Sl), menu'.length = menu.length + ks.length ∧ (∀ x ∈ menu', MnOk (names7.take m.toNat) x) ∧
      forL (atT (gN 5) fb_w_broad_0) (ks.map fun i => .int ((0 : Int) + (i : Nat))) ⟨[.bo (.lst (ns.map .int)), .sh (.int least), .sh (.int cell), .sh (.int m), .sh (.lst (names7.map .str)), s5, .sh (.lst (nums.map .int)), .ow (menu.map mnD), s8, s9, .no], none⟩ =
        .nx ⟨[.bo (.lst (ns.map .int)), .sh (.int least), .sh (.int cell), .sh (.int m), .sh (.lst (names7.map .str)), t5, .sh (.lst (nums.map .int)), .ow (menu'.map mnD), t8, t9, .no], none⟩ := by
    intro ks
    induction ks with
    | nil => exact fun menu s5 s8 s9 _ _ _ h => ⟨menu, s5, s8, s9, rfl, h, rfl⟩
    | cons k ks ih =>
      intro menu s5 s8 s9 hl hm hk h
      rw [List.length_cons] at hl
      obtain ⟨x, t8, t9, hx, e⟩ := broad_one ns least cell m names7 nums n1 n2 hm (by omega) k (hk k List.mem_cons_self) menu (by omega) s8 s9
      obtain ⟨menu', t5, t8', t9', a1, a2, a3⟩ := ih (menu ++ [x]) (.sh (.int (k : Int))) t8 t9 (by rw [List.length_append]; simp; omega) hm (fun j hj => hk j (List.mem_cons_of_mem _ hj)) fun y hy => by
        rcases List.mem_append.mp hy with hy | hy
        · exact h y hy
        · rw [List.mem_singleton.mp hy]; exact hx
      refine ⟨menu', t5, t8', t9', by rw [a1, List.length_append]; simp; omega, a2, ?_⟩
      rw [List.map_cons, forL_cons, Int.zero_add]
      refine (congrArg (fun o => loopO o _) e).trans ?_
      exact a3
  have mn : minK [.int 1, .int m] = .ok (.int (if m < 1 then m else 1)) := rfl
  obtain ⟨q, eq⟩ : ∃ q : Int, (r2 : Int) * (if m < 1 then m else 1) = q := ⟨_, rfl⟩
  have q0' : 0 ≤ q ∧ q ≤ 8 ∧ (1 ≤ q → 1 ≤ m) := by
    rw [← eq]
    by_cases c : m < 1
    · rw [if_pos c]
      have : m = 0 := by omega
      rw [this]; omega
    · rw [if_neg c]; omega
  have mq : mulD (.int (r2 : Int)) (.int (if m < 1 then m else 1)) = .ok (.int q) := by
    rw [← eq]; exact mulD_int (mulOk_l (by omega) (by omega))
  obtain ⟨menu, t5, t8, t9, a1, a2, a3⟩ : ∃ (menu : List Mn) (t5 t8 t9 : Sl), menu.length = q.toNat ∧ (∀ x ∈ menu, MnOk (names7.take m.toNat) x) ∧
      forL (atT (gN 5) fb_w_broad_0) ((List.range q.toNat).map fun i => .int ((0 : Int) + (i : Nat))) ⟨[.bo (.lst (ns.map .int)), .sh (.int least), .sh (.int cell), .sh (.int m), .sh (.lst (names7.map .str)), .no, .sh (.lst (nums.map .int)), .ow [], .no, .no, .no], none⟩ =
        .nx ⟨[.bo (.lst (ns.map .int)), .sh (.int least), .sh (.int cell), .sh (.int m), .sh (.lst (names7.map .str)), t5, .sh (.lst (nums.map .int)), .ow (menu.map mnD), t8, t9, .no], none⟩ := by
    by_cases c : 1 ≤ q
    · obtain ⟨menu, t5, t8, t9, a1, a2, a3⟩ := lp (List.range q.toNat) [] .no .no .no (by simp; omega) (q0'.2.2 c) (fun k hk => by have := List.mem_range.mp hk; omega) (fun x hx => by cases hx)
      exact ⟨menu, t5, t8, t9, by simpa using a1, a2, a3⟩
    · have : q.toNat = 0 := by omega
      rw [this]
      exact ⟨[], .no, .no, .no, rfl, (fun x hx => by cases hx), rfl⟩
  have rg : rg1 [.int q] = .ok ((List.range q.toNat).map fun i => .int ((0 : Int) + (i : Nat))) := rg_ok (by omega)
  have sl : slLst none (some m) (.lst (names7.map .str)) = .ok ((names7.take m.toNat).map .str) := by
    have := slLst_hi (ds := names7.map .str) (p := m.toNat)
    rw [Int.toNat_of_nonneg (by omega)] at this
    rw [this, List.map_take]
  have tl : (names7.take m.toNat).length = m.toNat := by rw [List.length_take, n1]; omega
  refine ⟨names7.take m.toNat, nums, menu, ?_, ⟨(nd (by decide)).sublist (List.take_sublist _ _), fun z hz => n2 z (List.mem_of_mem_take hz), by omega, by omega, fun k hk => (u2 k hk).1, fun k hk => by have := (u2 k hk).2; omega, by omega, a2⟩, by omega, by omega, fun k hk => (u2 k hk).2, by omega⟩
  refine outR_and (by simp only [runD_at, entryS_at, slF_t, slF_f, slD_int, slD_str, slD_bl, slD_lst, List.zipWith_cons_cons, List.zipWith_nil_left, List.map, List.length, sSeq_at, sNil_at, sRet_at, sRetN_at, sRetNone_at, sIf_at, sSet_at, sSetN_at, sExpr_at, sPar_at, sTgt_at, sMut_at, sPut_at, sFor_at, sRaise_at, sTry_at, atT_at, Rho.set_mk, gN_at, forL_nil, forL_cons, outR_rt, outR_nx, outR_ex, isLst_int, isLst_bl, isLst_tup, ckFlat_int, ckFlat_bl, e1_at, e2_at, e3c_at, cD_at, aNil_at, aCons_at, eTup_at, eLst_at, toL_at, vS_at, vB_at, eAnd_at, eOr_at, eNot_at, vAnd_at, vOr_at, vNot_at, eIf_at, eSl_at, asBl_bl, asInt_int, asLst_lst, addD_int, addI_int, subD_int, negD_int, ltB_int, leB_int, gtB_int, geB_int, eqB_int, neB_int, eqB_str, neB_str, intK_int, absN, lenK_lst, lenK_tup, ixD_tup0, ixD_tup1, ixD_tup2, ixD_lst0, ixD_lst1, ixD_lst2, ixD_lst3, Res.bind_ok, Res.bind_exc, Res.bind_stuck, andThen_ok, andThen_exc, andS_nx, andS_rt, andS_ex, andS_bk, andS_ct, loopO_nx, loopO_ct, loopO_bk, loopO_rt, loopO_ex, List.getElem?_cons_zero, List.getElem?_cons_succ, List.set_cons_zero, List.set_cons_succ, List.length_cons, List.length_nil, List.replicate, List.append_nil, List.nil_append, List.cons_append, Nat.zero_add, Nat.reduceAdd, Nat.reduceSub, Nat.reduceEqDiff, Nat.reduceLT, Bool.and_true, Bool.true_and, Bool.and_false, Bool.false_and, Bool.not_true, Bool.not_false, Bool.false_eq_true, decide_true, decide_false, decide_eq_true_eq, ite_true, ite_false, if_true, if_false, Bool.and_self, Bool.not_not, and_self, and_true, true_and, not_true_eq_false, not_false_eq_true, ckLen_ok, Nat.reduceLeDiff, fld_name, fld_first, fld_second, fld_needs, tn0, tn1, tn2, onC_dD, onCI_dD, cf_str, cf_tn, ↓eMk_at, dD_fold, frz_at, asStr_str, eJoin_at, ↓eFs_at, catP_nil, empty_app, isLst_str, isLst_dD, isLst_non, nc0, nc1, nc2, nc3, nc4, nc5, nc6, nc7, nc8, nc9, nc10, nc11, nc12, Int.reduceEq, Int.reduceLT, Int.reduceLE, Int.reduceNeg, ok1_ok, wipeR_nil, wipeR_cons, ki_names, ki_present, ki_dishes, ki_longest, onC_ki, onCI_ki, isLst_ki, slLst_hi, slLst_lo, slTup_hi, slTup_lo, p0, reduceIte] <;> (with_reducible exact rfl)) ?_
  refine outR_and (by simp only [runD_at, entryS_at, slF_t, slF_f, slD_int, slD_str, slD_bl, slD_lst, List.zipWith_cons_cons, List.zipWith_nil_left, List.map, List.length, sSeq_at, sNil_at, sRet_at, sRetN_at, sRetNone_at, sIf_at, sSet_at, sSetN_at, sExpr_at, sPar_at, sTgt_at, sMut_at, sPut_at, sFor_at, sRaise_at, sTry_at, atT_at, Rho.set_mk, gN_at, forL_nil, forL_cons, outR_rt, outR_nx, outR_ex, isLst_int, isLst_bl, isLst_tup, ckFlat_int, ckFlat_bl, e1_at, e2_at, e3c_at, cD_at, aNil_at, aCons_at, eTup_at, eLst_at, toL_at, vS_at, vB_at, eAnd_at, eOr_at, eNot_at, vAnd_at, vOr_at, vNot_at, eIf_at, eSl_at, asBl_bl, asInt_int, asLst_lst, addD_int, addI_int, subD_int, negD_int, ltB_int, leB_int, gtB_int, geB_int, eqB_int, neB_int, eqB_str, neB_str, intK_int, absN, lenK_lst, lenK_tup, ixD_tup0, ixD_tup1, ixD_tup2, ixD_lst0, ixD_lst1, ixD_lst2, ixD_lst3, Res.bind_ok, Res.bind_exc, Res.bind_stuck, andThen_ok, andThen_exc, andS_nx, andS_rt, andS_ex, andS_bk, andS_ct, loopO_nx, loopO_ct, loopO_bk, loopO_rt, loopO_ex, List.getElem?_cons_zero, List.getElem?_cons_succ, List.set_cons_zero, List.set_cons_succ, List.length_cons, List.length_nil, List.replicate, List.append_nil, List.nil_append, List.cons_append, Nat.zero_add, Nat.reduceAdd, Nat.reduceSub, Nat.reduceEqDiff, Nat.reduceLT, Bool.and_true, Bool.true_and, Bool.and_false, Bool.false_and, Bool.not_true, Bool.not_false, Bool.false_eq_true, decide_true, decide_false, decide_eq_true_eq, ite_true, ite_false, if_true, if_false, Bool.and_self, Bool.not_not, and_self, and_true, true_and, not_true_eq_false, not_false_eq_true, ckLen_ok, Nat.reduceLeDiff, fld_name, fld_first, fld_second, fld_needs, tn0, tn1, tn2, onC_dD, onCI_dD, cf_str, cf_tn, ↓eMk_at, dD_fold, frz_at, asStr_str, eJoin_at, ↓eFs_at, catP_nil, empty_app, isLst_str, isLst_dD, isLst_non, nc0, nc1, nc2, nc3, nc4, nc5, nc6, nc7, nc8, nc9, nc10, nc11, nc12, Int.reduceEq, Int.reduceLT, Int.reduceLE, Int.reduceNeg, ok1_ok, wipeR_nil, wipeR_cons, ki_names, ki_present, ki_dishes, ki_longest, onC_ki, onCI_ki, isLst_ki, slLst_hi, slLst_lo, slTup_hi, slTup_lo, d0, em, reduceIte] <;> (with_reducible exact rfl)) ?_
  refine outR_and (by simp only [runD_at, entryS_at, slF_t, slF_f, slD_int, slD_str, slD_bl, slD_lst, List.zipWith_cons_cons, List.zipWith_nil_left, List.map, List.length, sSeq_at, sNil_at, sRet_at, sRetN_at, sRetNone_at, sIf_at, sSet_at, sSetN_at, sExpr_at, sPar_at, sTgt_at, sMut_at, sPut_at, sFor_at, sRaise_at, sTry_at, atT_at, Rho.set_mk, gN_at, forL_nil, forL_cons, outR_rt, outR_nx, outR_ex, isLst_int, isLst_bl, isLst_tup, ckFlat_int, ckFlat_bl, e1_at, e2_at, e3c_at, cD_at, aNil_at, aCons_at, eTup_at, eLst_at, toL_at, vS_at, vB_at, eAnd_at, eOr_at, eNot_at, vAnd_at, vOr_at, vNot_at, eIf_at, eSl_at, asBl_bl, asInt_int, asLst_lst, addD_int, addI_int, subD_int, negD_int, ltB_int, leB_int, gtB_int, geB_int, eqB_int, neB_int, eqB_str, neB_str, intK_int, absN, lenK_lst, lenK_tup, ixD_tup0, ixD_tup1, ixD_tup2, ixD_lst0, ixD_lst1, ixD_lst2, ixD_lst3, Res.bind_ok, Res.bind_exc, Res.bind_stuck, andThen_ok, andThen_exc, andS_nx, andS_rt, andS_ex, andS_bk, andS_ct, loopO_nx, loopO_ct, loopO_bk, loopO_rt, loopO_ex, List.getElem?_cons_zero, List.getElem?_cons_succ, List.set_cons_zero, List.set_cons_succ, List.length_cons, List.length_nil, List.replicate, List.append_nil, List.nil_append, List.cons_append, Nat.zero_add, Nat.reduceAdd, Nat.reduceSub, Nat.reduceEqDiff, Nat.reduceLT, Bool.and_true, Bool.true_and, Bool.and_false, Bool.false_and, Bool.not_true, Bool.not_false, Bool.false_eq_true, decide_true, decide_false, decide_eq_true_eq, ite_true, ite_false, if_true, if_false, Bool.and_self, Bool.not_not, and_self, and_true, true_and, not_true_eq_false, not_false_eq_true, ckLen_ok, Nat.reduceLeDiff, fld_name, fld_first, fld_second, fld_needs, tn0, tn1, tn2, onC_dD, onCI_dD, cf_str, cf_tn, ↓eMk_at, dD_fold, frz_at, asStr_str, eJoin_at, ↓eFs_at, catP_nil, empty_app, isLst_str, isLst_dD, isLst_non, nc0, nc1, nc2, nc3, nc4, nc5, nc6, nc7, nc8, nc9, nc10, nc11, nc12, Int.reduceEq, Int.reduceLT, Int.reduceLE, Int.reduceNeg, ok1_ok, wipeR_nil, wipeR_cons, ki_names, ki_present, ki_dishes, ki_longest, onC_ki, onCI_ki, isLst_ki, slLst_hi, slLst_lo, slTup_hi, slTup_lo, p1, n3, reduceIte] <;> (with_reducible exact rfl)) ?_
  refine outR_and (by simp only [runD_at, entryS_at, slF_t, slF_f, slD_int, slD_str, slD_bl, slD_lst, List.zipWith_cons_cons, List.zipWith_nil_left, List.map, List.length, sSeq_at, sNil_at, sRet_at, sRetN_at, sRetNone_at, sIf_at, sSet_at, sSetN_at, sExpr_at, sPar_at, sTgt_at, sMut_at, sPut_at, sFor_at, sRaise_at, sTry_at, atT_at, Rho.set_mk, gN_at, forL_nil, forL_cons, outR_rt, outR_nx, outR_ex, isLst_int, isLst_bl, isLst_tup, ckFlat_int, ckFlat_bl, e1_at, e2_at, e3c_at, cD_at, aNil_at, aCons_at, eTup_at, eLst_at, toL_at, vS_at, vB_at, eAnd_at, eOr_at, eNot_at, vAnd_at, vOr_at, vNot_at, eIf_at, eSl_at, asBl_bl, asInt_int, asLst_lst, addD_int, addI_int, subD_int, negD_int, ltB_int, leB_int, gtB_int, geB_int, eqB_int, neB_int, eqB_str, neB_str, intK_int, absN, lenK_lst, lenK_tup, ixD_tup0, ixD_tup1, ixD_tup2, ixD_lst0, ixD_lst1, ixD_lst2, ixD_lst3, Res.bind_ok, Res.bind_exc, Res.bind_stuck, andThen_ok, andThen_exc, andS_nx, andS_rt, andS_ex, andS_bk, andS_ct, loopO_nx, loopO_ct, loopO_bk, loopO_rt, loopO_ex, List.getElem?_cons_zero, List.getElem?_cons_succ, List.set_cons_zero, List.set_cons_succ, List.length_cons, List.length_nil, List.replicate, List.append_nil, List.nil_append, List.cons_append, Nat.zero_add, Nat.reduceAdd, Nat.reduceSub, Nat.reduceEqDiff, Nat.reduceLT, Bool.and_true, Bool.true_and, Bool.and_false, Bool.false_and, Bool.not_true, Bool.not_false, Bool.false_eq_true, decide_true, decide_false, decide_eq_true_eq, ite_true, ite_false, if_true, if_false, Bool.and_self, Bool.not_not, and_self, and_true, true_and, not_true_eq_false, not_false_eq_true, ckLen_ok, Nat.reduceLeDiff, fld_name, fld_first, fld_second, fld_needs, tn0, tn1, tn2, onC_dD, onCI_dD, cf_str, cf_tn, ↓eMk_at, dD_fold, frz_at, asStr_str, eJoin_at, ↓eFs_at, catP_nil, empty_app, isLst_str, isLst_dD, isLst_non, nc0, nc1, nc2, nc3, nc4, nc5, nc6, nc7, nc8, nc9, nc10, nc11, nc12, Int.reduceEq, Int.reduceLT, Int.reduceLE, Int.reduceNeg, ok1_ok, wipeR_nil, wipeR_cons, ki_names, ki_present, ki_dishes, ki_longest, onC_ki, onCI_ki, isLst_ki, slLst_hi, slLst_lo, slTup_hi, slTup_lo, lc, reduceIte] <;> (with_reducible exact rfl)) ?_
  refine outR_and (by simp only [runD_at, entryS_at, slF_t, slF_f, slD_int, slD_str, slD_bl, slD_lst, List.zipWith_cons_cons, List.zipWith_nil_left, List.map, List.length, sSeq_at, sNil_at, sRet_at, sRetN_at, sRetNone_at, sIf_at, sSet_at, sSetN_at, sExpr_at, sPar_at, sTgt_at, sMut_at, sPut_at, sFor_at, sRaise_at, sTry_at, atT_at, Rho.set_mk, gN_at, forL_nil, forL_cons, outR_rt, outR_nx, outR_ex, isLst_int, isLst_bl, isLst_tup, ckFlat_int, ckFlat_bl, e1_at, e2_at, e3c_at, cD_at, aNil_at, aCons_at, eTup_at, eLst_at, toL_at, vS_at, vB_at, eAnd_at, eOr_at, eNot_at, vAnd_at, vOr_at, vNot_at, eIf_at, eSl_at, asBl_bl, asInt_int, asLst_lst, addD_int, addI_int, subD_int, negD_int, ltB_int, leB_int, gtB_int, geB_int, eqB_int, neB_int, eqB_str, neB_str, intK_int, absN, lenK_lst, lenK_tup, ixD_tup0, ixD_tup1, ixD_tup2, ixD_lst0, ixD_lst1, ixD_lst2, ixD_lst3, Res.bind_ok, Res.bind_exc, Res.bind_stuck, andThen_ok, andThen_exc, andS_nx, andS_rt, andS_ex, andS_bk, andS_ct, loopO_nx, loopO_ct, loopO_bk, loopO_rt, loopO_ex, List.getElem?_cons_zero, List.getElem?_cons_succ, List.set_cons_zero, List.set_cons_succ, List.length_cons, List.length_nil, List.replicate, List.append_nil, List.nil_append, List.cons_append, Nat.zero_add, Nat.reduceAdd, Nat.reduceSub, Nat.reduceEqDiff, Nat.reduceLT, Bool.and_true, Bool.true_and, Bool.and_false, Bool.false_and, Bool.not_true, Bool.not_false, Bool.false_eq_true, decide_true, decide_false, decide_eq_true_eq, ite_true, ite_false, if_true, if_false, Bool.and_self, Bool.not_not, and_self, and_true, true_and, not_true_eq_false, not_false_eq_true, ckLen_ok, Nat.reduceLeDiff, fld_name, fld_first, fld_second, fld_needs, tn0, tn1, tn2, onC_dD, onCI_dD, cf_str, cf_tn, ↓eMk_at, dD_fold, frz_at, asStr_str, eJoin_at, ↓eFs_at, catP_nil, empty_app, isLst_str, isLst_dD, isLst_non, nc0, nc1, nc2, nc3, nc4, nc5, nc6, nc7, nc8, nc9, nc10, nc11, nc12, Int.reduceEq, Int.reduceLT, Int.reduceLE, Int.reduceNeg, ok1_ok, wipeR_nil, wipeR_cons, ki_names, ki_present, ki_dishes, ki_longest, onC_ki, onCI_ki, isLst_ki, slLst_hi, slLst_lo, slTup_hi, slTup_lo, reduceIte] <;> (with_reducible exact rfl)) ?_
  refine outR_and (by simp only [runD_at, entryS_at, slF_t, slF_f, slD_int, slD_str, slD_bl, slD_lst, List.zipWith_cons_cons, List.zipWith_nil_left, List.map, List.length, sSeq_at, sNil_at, sRet_at, sRetN_at, sRetNone_at, sIf_at, sSet_at, sSetN_at, sExpr_at, sPar_at, sTgt_at, sMut_at, sPut_at, sFor_at, sRaise_at, sTry_at, atT_at, Rho.set_mk, gN_at, forL_nil, forL_cons, outR_rt, outR_nx, outR_ex, isLst_int, isLst_bl, isLst_tup, ckFlat_int, ckFlat_bl, e1_at, e2_at, e3c_at, cD_at, aNil_at, aCons_at, eTup_at, eLst_at, toL_at, vS_at, vB_at, eAnd_at, eOr_at, eNot_at, vAnd_at, vOr_at, vNot_at, eIf_at, eSl_at, asBl_bl, asInt_int, asLst_lst, addD_int, addI_int, subD_int, negD_int, ltB_int, leB_int, gtB_int, geB_int, eqB_int, neB_int, eqB_str, neB_str, intK_int, absN, lenK_lst, lenK_tup, ixD_tup0, ixD_tup1, ixD_tup2, ixD_lst0, ixD_lst1, ixD_lst2, ixD_lst3, Res.bind_ok, Res.bind_exc, Res.bind_stuck, andThen_ok, andThen_exc, andS_nx, andS_rt, andS_ex, andS_bk, andS_ct, loopO_nx, loopO_ct, loopO_bk, loopO_rt, loopO_ex, List.getElem?_cons_zero, List.getElem?_cons_succ, List.set_cons_zero, List.set_cons_succ, List.length_cons, List.length_nil, List.replicate, List.append_nil, List.nil_append, List.cons_append, Nat.zero_add, Nat.reduceAdd, Nat.reduceSub, Nat.reduceEqDiff, Nat.reduceLT, Bool.and_true, Bool.true_and, Bool.and_false, Bool.false_and, Bool.not_true, Bool.not_false, Bool.false_eq_true, decide_true, decide_false, decide_eq_true_eq, ite_true, ite_false, if_true, if_false, Bool.and_self, Bool.not_not, and_self, and_true, true_and, not_true_eq_false, not_false_eq_true, ckLen_ok, Nat.reduceLeDiff, fld_name, fld_first, fld_second, fld_needs, tn0, tn1, tn2, onC_dD, onCI_dD, cf_str, cf_tn, ↓eMk_at, dD_fold, frz_at, asStr_str, eJoin_at, ↓eFs_at, catP_nil, empty_app, isLst_str, isLst_dD, isLst_non, nc0, nc1, nc2, nc3, nc4, nc5, nc6, nc7, nc8, nc9, nc10, nc11, nc12, Int.reduceEq, Int.reduceLT, Int.reduceLE, Int.reduceNeg, ok1_ok, wipeR_nil, wipeR_cons, ki_names, ki_present, ki_dishes, ki_longest, onC_ki, onCI_ki, isLst_ki, slLst_hi, slLst_lo, slTup_hi, slTup_lo, d2, mn, mq, rg, a3, reduceIte] <;> (with_reducible exact rfl)) ?_
  simp only [runD_at, entryS_at, slF_t, slF_f, slD_int, slD_str, slD_bl, slD_lst, List.zipWith_cons_cons, List.zipWith_nil_left, List.map, List.length, sSeq_at, sNil_at, sRet_at, sRetN_at, sRetNone_at, sIf_at, sSet_at, sSetN_at, sExpr_at, sPar_at, sTgt_at, sMut_at, sPut_at, sFor_at, sRaise_at, sTry_at, atT_at, Rho.set_mk, gN_at, forL_nil, forL_cons, outR_rt, outR_nx, outR_ex, isLst_int, isLst_bl, isLst_tup, ckFlat_int, ckFlat_bl, e1_at, e2_at, e3c_at, cD_at, aNil_at, aCons_at, eTup_at, eLst_at, toL_at, vS_at, vB_at, eAnd_at, eOr_at, eNot_at, vAnd_at, vOr_at, vNot_at, eIf_at, eSl_at, asBl_bl, asInt_int, asLst_lst, addD_int, addI_int, subD_int, negD_int, ltB_int, leB_int, gtB_int, geB_int, eqB_int, neB_int, eqB_str, neB_str, intK_int, absN, lenK_lst, lenK_tup, ixD_tup0, ixD_tup1, ixD_tup2, ixD_lst0, ixD_lst1, ixD_lst2, ixD_lst3, Res.bind_ok, Res.bind_exc, Res.bind_stuck, andThen_ok, andThen_exc, andS_nx, andS_rt, andS_ex, andS_bk, andS_ct, loopO_nx, loopO_ct, loopO_bk, loopO_rt, loopO_ex, List.getElem?_cons_zero, List.getElem?_cons_succ, List.set_cons_zero, List.set_cons_succ, List.length_cons, List.length_nil, List.replicate, List.append_nil, List.nil_append, List.cons_append, Nat.zero_add, Nat.reduceAdd, Nat.reduceSub, Nat.reduceEqDiff, Nat.reduceLT, Bool.and_true, Bool.true_and, Bool.and_false, Bool.false_and, Bool.not_true, Bool.not_false, Bool.false_eq_true, decide_true, decide_false, decide_eq_true_eq, ite_true, ite_false, if_true, if_false, Bool.and_self, Bool.not_not, and_self, and_true, true_and, not_true_eq_false, not_false_eq_true, ckLen_ok, Nat.reduceLeDiff, fld_name, fld_first, fld_second, fld_needs, tn0, tn1, tn2, onC_dD, onCI_dD, cf_str, cf_tn, ↓eMk_at, dD_fold, frz_at, asStr_str, eJoin_at, ↓eFs_at, catP_nil, empty_app, isLst_str, isLst_dD, isLst_non, nc0, nc1, nc2, nc3, nc4, nc5, nc6, nc7, nc8, nc9, nc10, nc11, nc12, Int.reduceEq, Int.reduceLT, Int.reduceLE, Int.reduceNeg, ok1_ok, wipeR_nil, wipeR_cons, ki_names, ki_present, ki_dishes, ki_longest, onC_ki, onCI_ki, isLst_ki, slLst_hi, slLst_lo, slTup_hi, slTup_lo, sl, reduceIte]
  rfl
end Kx

set_option Elab.async false
set_option linter.all false
set_option maxRecDepth 100000
set_option maxHeartbeats 1000000
namespace Kx
open PySem PySem.Spec L2 Dv
open PyProof.Rows hiding St
theorem is_name_ok {z : Str} (h : NameOk z) : F_is_name [.str z] = .ok (.bl true) := by
  unfold F_is_name den_is_name
  have h1 := h.lo
  have h2 := h.hi
  have ln : lenK [.str z] = .ok (.int (z.cps.size : Int)) := if_pos (show z.cps.size ≤ 16777216 by omega)
  have lp : ∀ (cs : List Nat) (y : Sl), (∀ c ∈ cs, c ∈ letters.cps.toList) → ∃ y', forL (atT (gN 1) fb_is_name_0) (cs.map fun c => .str ⟨#[c]⟩) ⟨[.sh (.str z), y], none⟩ = .nx ⟨[.sh (.str z), y'], none⟩ := by
    intro cs
    induction cs with
    | nil => exact fun y _ => ⟨y, rfl⟩
    | cons d cs ih =>
      intro y hc
      have e : ninStrB (.str ⟨#[d]⟩) (.str "abcdefghijklmnopqrstuvwxyz") = .ok false := by
        show Res.ok (!(!(Builtin.Str.occurrences letters ⟨#[d]⟩ 0 letters.length 1).isEmpty)) = _
        rw [letter_in d (hc d List.mem_cons_self)]; rfl
      obtain ⟨y', e2⟩ := ih (.sh (.str ⟨#[d]⟩)) fun c h => hc c (List.mem_cons_of_mem _ h)
      refine ⟨y', ?_⟩
      rw [List.map_cons]
      simp only [runD_at, entryS_at, slF_t, slF_f, slD_int, slD_str, slD_bl, slD_lst, List.zipWith_cons_cons, List.zipWith_nil_left, List.map, List.length, sSeq_at, sNil_at, sRet_at, sRetN_at, sRetNone_at, sIf_at, sSet_at, sSetN_at, sExpr_at, sPar_at, sTgt_at, sMut_at, sPut_at, sFor_at, sRaise_at, sTry_at, atT_at, Rho.set_mk, gN_at, forL_nil, forL_cons, outR_rt, outR_nx, outR_ex, isLst_int, isLst_bl, isLst_tup, ckFlat_int, ckFlat_bl, e1_at, e2_at, e3c_at, cD_at, aNil_at, aCons_at, eTup_at, eLst_at, toL_at, vS_at, vB_at, eAnd_at, eOr_at, eNot_at, vAnd_at, vOr_at, vNot_at, eIf_at, eSl_at, asBl_bl, asInt_int, asLst_lst, addD_int, addI_int, subD_int, negD_int, ltB_int, leB_int, gtB_int, geB_int, eqB_int, neB_int, eqB_str, neB_str, intK_int, absN, lenK_lst, lenK_tup, ixD_tup0, ixD_tup1, ixD_tup2, ixD_lst0, ixD_lst1, ixD_lst2, ixD_lst3, Res.bind_ok, Res.bind_exc, Res.bind_stuck, andThen_ok, andThen_exc, andS_nx, andS_rt, andS_ex, andS_bk, andS_ct, loopO_nx, loopO_ct, loopO_bk, loopO_rt, loopO_ex, List.getElem?_cons_zero, List.getElem?_cons_succ, List.set_cons_zero, List.set_cons_succ, List.length_cons, List.length_nil, List.replicate, List.append_nil, List.nil_append, List.cons_append, Nat.zero_add, Nat.reduceAdd, Nat.reduceSub, Nat.reduceEqDiff, Nat.reduceLT, Bool.and_true, Bool.true_and, Bool.and_false, Bool.false_and, Bool.not_true, Bool.not_false, Bool.false_eq_true, decide_true, decide_false, decide_eq_true_eq, ite_true, ite_false, if_true, if_false, Bool.and_self, Bool.not_not, and_self, and_true, true_and, not_true_eq_false, not_false_eq_true, ckLen_ok, Nat.reduceLeDiff, fld_name, fld_first, fld_second, fld_needs, tn0, tn1, tn2, onC_dD, onCI_dD, cf_str, cf_tn, ↓eMk_at, dD_fold, frz_at, asStr_str, eJoin_at, ↓eFs_at, catP_nil, empty_app, isLst_str, isLst_dD, isLst_non, nc0, nc1, nc2, nc3, nc4, nc5, nc6, nc7, nc8, nc9, nc10, nc11, nc12, Int.reduceEq, Int.reduceLT, Int.reduceLE, Int.reduceNeg, ok1_ok, wipeR_nil, wipeR_cons, ki_names, ki_present, ki_dishes, ki_longest, onC_ki, onCI_ki, isLst_ki, slLst_hi, slLst_lo, slTup_hi, slTup_lo, fb_is_name_0, e, reduceIte]
      exact e2
  obtain ⟨y', e⟩ := lp z.cps.toList .no h.al
  simp only [runD_at, entryS_at, slF_t, slF_f, slD_int, slD_str, slD_bl, slD_lst, List.zipWith_cons_cons, List.zipWith_nil_left, List.map, List.length, sSeq_at, sNil_at, sRet_at, sRetN_at, sRetNone_at, sIf_at, sSet_at, sSetN_at, sExpr_at, sPar_at, sTgt_at, sMut_at, sPut_at, sFor_at, sRaise_at, sTry_at, atT_at, Rho.set_mk, gN_at, forL_nil, forL_cons, outR_rt, outR_nx, outR_ex, isLst_int, isLst_bl, isLst_tup, ckFlat_int, ckFlat_bl, e1_at, e2_at, e3c_at, cD_at, aNil_at, aCons_at, eTup_at, eLst_at, toL_at, vS_at, vB_at, eAnd_at, eOr_at, eNot_at, vAnd_at, vOr_at, vNot_at, eIf_at, eSl_at, asBl_bl, asInt_int, asLst_lst, addD_int, addI_int, subD_int, negD_int, ltB_int, leB_int, gtB_int, geB_int, eqB_int, neB_int, eqB_str, neB_str, intK_int, absN, lenK_lst, lenK_tup, ixD_tup0, ixD_tup1, ixD_tup2, ixD_lst0, ixD_lst1, ixD_lst2, ixD_lst3, Res.bind_ok, Res.bind_exc, Res.bind_stuck, andThen_ok, andThen_exc, andS_nx, andS_rt, andS_ex, andS_bk, andS_ct, loopO_nx, loopO_ct, loopO_bk, loopO_rt, loopO_ex, List.getElem?_cons_zero, List.getElem?_cons_succ, List.set_cons_zero, List.set_cons_succ, List.length_cons, List.length_nil, List.replicate, List.append_nil, List.nil_append, List.cons_append, Nat.zero_add, Nat.reduceAdd, Nat.reduceSub, Nat.reduceEqDiff, Nat.reduceLT, Bool.and_true, Bool.true_and, Bool.and_false, Bool.false_and, Bool.not_true, Bool.not_false, Bool.false_eq_true, decide_true, decide_false, decide_eq_true_eq, ite_true, ite_false, if_true, if_false, Bool.and_self, Bool.not_not, and_self, and_true, true_and, not_true_eq_false, not_false_eq_true, ckLen_ok, Nat.reduceLeDiff, fld_name, fld_first, fld_second, fld_needs, tn0, tn1, tn2, onC_dD, onCI_dD, cf_str, cf_tn, ↓eMk_at, dD_fold, frz_at, asStr_str, eJoin_at, ↓eFs_at, catP_nil, empty_app, isLst_str, isLst_dD, isLst_non, nc0, nc1, nc2, nc3, nc4, nc5, nc6, nc7, nc8, nc9, nc10, nc11, nc12, Int.reduceEq, Int.reduceLT, Int.reduceLE, Int.reduceNeg, ok1_ok, wipeR_nil, wipeR_cons, ki_names, ki_present, ki_dishes, ki_longest, onC_ki, onCI_ki, isLst_ki, slLst_hi, slLst_lo, slTup_hi, slTup_lo, ln, show (1 : Int) ≤ (z.cps.size : Int) from by omega, show (z.cps.size : Int) ≤ 12 from by omega, show chars (.str z) = .ok (z.cps.toList.map fun c => .str ⟨#[c]⟩) from rfl, e, reduceIte]
/-- the place is found -/
theorem merged_at (l : List Nd) (n : Nd) (s0 : Sl) : ∀ (r : List Nd) (p fuel : Nat), l.drop p = r → r.length < fuel → p ≤ l.length →
    whileN fuel wc_merged_0 wb_merged_0
      ⟨[s0, .ow (l.map tn), .sh (.int n.1), .sh (.str n.2.1), .sh (.int n.2.2), .sh (.int (p : Int))], none⟩ = .nx ⟨[s0, .ow (l.map tn), .sh (.int n.1), .sh (.str n.2.1), .sh (.int n.2.2), .sh (.int ((p + (r.takeWhile (kl · n)).length : Nat) : Int))], none⟩ := by
  intro r
  induction r with
  | nil =>
    intro p fuel h hf hp
    obtain ⟨f, rfl⟩ : ∃ f, fuel = f + 1 := ⟨fuel - 1, by simp at hf; omega⟩
    have : l.length ≤ p := by simpa using h
    rw [whileN_succ]
    simp only [runD_at, entryS_at, slF_t, slF_f, slD_int, slD_str, slD_bl, slD_lst, List.zipWith_cons_cons, List.zipWith_nil_left, List.map, List.length, sSeq_at, sNil_at, sRet_at, sRetN_at, sRetNone_at, sIf_at, sSet_at, sSetN_at, sExpr_at, sPar_at, sTgt_at, sMut_at, sPut_at, sFor_at, sRaise_at, sTry_at, atT_at, Rho.set_mk, gN_at, forL_nil, forL_cons, outR_rt, outR_nx, outR_ex, isLst_int, isLst_bl, isLst_tup, ckFlat_int, ckFlat_bl, e1_at, e2_at, e3c_at, cD_at, aNil_at, aCons_at, eTup_at, eLst_at, toL_at, vS_at, vB_at, eAnd_at, eOr_at, eNot_at, vAnd_at, vOr_at, vNot_at, eIf_at, eSl_at, asBl_bl, asInt_int, asLst_lst, addD_int, addI_int, subD_int, negD_int, ltB_int, leB_int, gtB_int, geB_int, eqB_int, neB_int, eqB_str, neB_str, intK_int, absN, lenK_lst, lenK_tup, ixD_tup0, ixD_tup1, ixD_tup2, ixD_lst0, ixD_lst1, ixD_lst2, ixD_lst3, Res.bind_ok, Res.bind_exc, Res.bind_stuck, andThen_ok, andThen_exc, andS_nx, andS_rt, andS_ex, andS_bk, andS_ct, loopO_nx, loopO_ct, loopO_bk, loopO_rt, loopO_ex, List.getElem?_cons_zero, List.getElem?_cons_succ, List.set_cons_zero, List.set_cons_succ, List.length_cons, List.length_nil, List.replicate, List.append_nil, List.nil_append, List.cons_append, Nat.zero_add, Nat.reduceAdd, Nat.reduceSub, Nat.reduceEqDiff, Nat.reduceLT, Bool.and_true, Bool.true_and, Bool.and_false, Bool.false_and, Bool.not_true, Bool.not_false, Bool.false_eq_true, decide_true, decide_false, decide_eq_true_eq, ite_true, ite_false, if_true, if_false, Bool.and_self, Bool.not_not, and_self, and_true, true_and, not_true_eq_false, not_false_eq_true, ckLen_ok, Nat.reduceLeDiff, fld_name, fld_first, fld_second, fld_needs, tn0, tn1, tn2, onC_dD, onCI_dD, cf_str, cf_tn, ↓eMk_at, dD_fold, frz_at, asStr_str, eJoin_at, ↓eFs_at, catP_nil, empty_app, isLst_str, isLst_dD, isLst_non, nc0, nc1, nc2, nc3, nc4, nc5, nc6, nc7, nc8, nc9, nc10, nc11, nc12, Int.reduceEq, Int.reduceLT, Int.reduceLE, Int.reduceNeg, ok1_ok, wipeR_nil, wipeR_cons, ki_names, ki_present, ki_dishes, ki_longest, onC_ki, onCI_ki, isLst_ki, slLst_hi, slLst_lo, slTup_hi, slTup_lo, wc_merged_0, List.length_map, lt_cast, show ¬ p < l.length from by omega, List.takeWhile_nil, reduceIte]
    rfl
  | cons m r ih =>
    intro p fuel h hf hp
    obtain ⟨f, rfl⟩ : ∃ f, fuel = f + 1 := ⟨fuel - 1, by simp at hf; omega⟩
    have hl : p < l.length := by
      rcases Nat.lt_or_ge p l.length with z | z
      · exact z
      · rw [List.drop_of_length_le z] at h; cases h
    rw [List.drop_eq_getElem_cons hl] at h
    injection h with h1 h2
    rw [whileN_succ]
    have c : wc_merged_0 ⟨[s0, .ow (l.map tn), .sh (.int n.1), .sh (.str n.2.1), .sh (.int n.2.2), .sh (.int (p : Int))], none⟩ = .ok (kl m n) := by
      simp only [runD_at, entryS_at, slF_t, slF_f, slD_int, slD_str, slD_bl, slD_lst, List.zipWith_cons_cons, List.zipWith_nil_left, List.map, List.length, sSeq_at, sNil_at, sRet_at, sRetN_at, sRetNone_at, sIf_at, sSet_at, sSetN_at, sExpr_at, sPar_at, sTgt_at, sMut_at, sPut_at, sFor_at, sRaise_at, sTry_at, atT_at, Rho.set_mk, gN_at, forL_nil, forL_cons, outR_rt, outR_nx, outR_ex, isLst_int, isLst_bl, isLst_tup, ckFlat_int, ckFlat_bl, e1_at, e2_at, e3c_at, cD_at, aNil_at, aCons_at, eTup_at, eLst_at, toL_at, vS_at, vB_at, eAnd_at, eOr_at, eNot_at, vAnd_at, vOr_at, vNot_at, eIf_at, eSl_at, asBl_bl, asInt_int, asLst_lst, addD_int, addI_int, subD_int, negD_int, ltB_int, leB_int, gtB_int, geB_int, eqB_int, neB_int, eqB_str, neB_str, intK_int, absN, lenK_lst, lenK_tup, ixD_tup0, ixD_tup1, ixD_tup2, ixD_lst0, ixD_lst1, ixD_lst2, ixD_lst3, Res.bind_ok, Res.bind_exc, Res.bind_stuck, andThen_ok, andThen_exc, andS_nx, andS_rt, andS_ex, andS_bk, andS_ct, loopO_nx, loopO_ct, loopO_bk, loopO_rt, loopO_ex, List.getElem?_cons_zero, List.getElem?_cons_succ, List.set_cons_zero, List.set_cons_succ, List.length_cons, List.length_nil, List.replicate, List.append_nil, List.nil_append, List.cons_append, Nat.zero_add, Nat.reduceAdd, Nat.reduceSub, Nat.reduceEqDiff, Nat.reduceLT, Bool.and_true, Bool.true_and, Bool.and_false, Bool.false_and, Bool.not_true, Bool.not_false, Bool.false_eq_true, decide_true, decide_false, decide_eq_true_eq, ite_true, ite_false, if_true, if_false, Bool.and_self, Bool.not_not, and_self, and_true, true_and, not_true_eq_false, not_false_eq_true, ckLen_ok, Nat.reduceLeDiff, fld_name, fld_first, fld_second, fld_needs, tn0, tn1, tn2, onC_dD, onCI_dD, cf_str, cf_tn, ↓eMk_at, dD_fold, frz_at, asStr_str, eJoin_at, ↓eFs_at, catP_nil, empty_app, isLst_str, isLst_dD, isLst_non, nc0, nc1, nc2, nc3, nc4, nc5, nc6, nc7, nc8, nc9, nc10, nc11, nc12, Int.reduceEq, Int.reduceLT, Int.reduceLE, Int.reduceNeg, ok1_ok, wipeR_nil, wipeR_cons, ki_names, ki_present, ki_dishes, ki_longest, onC_ki, onCI_ki, isLst_ki, slLst_hi, slLst_lo, slTup_hi, slTup_lo, wc_merged_0, List.length_map, lt_cast, hl, ix_l hl, sl2, ckLen_ok (show 2 ≤ 16777216 by decide), ltP_k, h1, reduceIte]
    rw [c]
    cases hk : kl m n with
    | true =>
      have e : wb_merged_0 ⟨[s0, .ow (l.map tn), .sh (.int n.1), .sh (.str n.2.1), .sh (.int n.2.2), .sh (.int (p : Int))], none⟩ = .nx ⟨[s0, .ow (l.map tn), .sh (.int n.1), .sh (.str n.2.1), .sh (.int n.2.2), .sh (.int ((p + 1 : Nat) : Int))], none⟩ := rfl
      simp only [runD_at, entryS_at, slF_t, slF_f, slD_int, slD_str, slD_bl, slD_lst, List.zipWith_cons_cons, List.zipWith_nil_left, List.map, List.length, sSeq_at, sNil_at, sRet_at, sRetN_at, sRetNone_at, sIf_at, sSet_at, sSetN_at, sExpr_at, sPar_at, sTgt_at, sMut_at, sPut_at, sFor_at, sRaise_at, sTry_at, atT_at, Rho.set_mk, gN_at, forL_nil, forL_cons, outR_rt, outR_nx, outR_ex, isLst_int, isLst_bl, isLst_tup, ckFlat_int, ckFlat_bl, e1_at, e2_at, e3c_at, cD_at, aNil_at, aCons_at, eTup_at, eLst_at, toL_at, vS_at, vB_at, eAnd_at, eOr_at, eNot_at, vAnd_at, vOr_at, vNot_at, eIf_at, eSl_at, asBl_bl, asInt_int, asLst_lst, addD_int, addI_int, subD_int, negD_int, ltB_int, leB_int, gtB_int, geB_int, eqB_int, neB_int, eqB_str, neB_str, intK_int, absN, lenK_lst, lenK_tup, ixD_tup0, ixD_tup1, ixD_tup2, ixD_lst0, ixD_lst1, ixD_lst2, ixD_lst3, Res.bind_ok, Res.bind_exc, Res.bind_stuck, andThen_ok, andThen_exc, andS_nx, andS_rt, andS_ex, andS_bk, andS_ct, loopO_nx, loopO_ct, loopO_bk, loopO_rt, loopO_ex, List.getElem?_cons_zero, List.getElem?_cons_succ, List.set_cons_zero, List.set_cons_succ, List.length_cons, List.length_nil, List.replicate, List.append_nil, List.nil_append, List.cons_append, Nat.zero_add, Nat.reduceAdd, Nat.reduceSub, Nat.reduceEqDiff, Nat.reduceLT, Bool.and_true, Bool.true_and, Bool.and_false, Bool.false_and, Bool.not_true, Bool.not_false, Bool.false_eq_true, decide_true, decide_false, decide_eq_true_eq, ite_true, ite_false, if_true, if_false, Bool.and_self, Bool.not_not, and_self, and_true, true_and, not_true_eq_false, not_false_eq_true, ckLen_ok, Nat.reduceLeDiff, fld_name, fld_first, fld_second, fld_needs, tn0, tn1, tn2, onC_dD, onCI_dD, cf_str, cf_tn, ↓eMk_at, dD_fold, frz_at, asStr_str, eJoin_at, ↓eFs_at, catP_nil, empty_app, isLst_str, isLst_dD, isLst_non, nc0, nc1, nc2, nc3, nc4, nc5, nc6, nc7, nc8, nc9, nc10, nc11, nc12, Int.reduceEq, Int.reduceLT, Int.reduceLE, Int.reduceNeg, ok1_ok, wipeR_nil, wipeR_cons, ki_names, ki_present, ki_dishes, ki_longest, onC_ki, onCI_ki, isLst_ki, slLst_hi, slLst_lo, slTup_hi, slTup_lo, e, List.takeWhile_cons, hk, reduceIte]
      rw [ih (p + 1) f h2 (by simp at hf; omega) (by omega)]
      rw [show p + 1 + (r.takeWhile (kl · n)).length = p + ((r.takeWhile (kl · n)).length + 1) from by omega]
    | false =>
      simp only [runD_at, entryS_at, slF_t, slF_f, slD_int, slD_str, slD_bl, slD_lst, List.zipWith_cons_cons, List.zipWith_nil_left, List.map, List.length, sSeq_at, sNil_at, sRet_at, sRetN_at, sRetNone_at, sIf_at, sSet_at, sSetN_at, sExpr_at, sPar_at, sTgt_at, sMut_at, sPut_at, sFor_at, sRaise_at, sTry_at, atT_at, Rho.set_mk, gN_at, forL_nil, forL_cons, outR_rt, outR_nx, outR_ex, isLst_int, isLst_bl, isLst_tup, ckFlat_int, ckFlat_bl, e1_at, e2_at, e3c_at, cD_at, aNil_at, aCons_at, eTup_at, eLst_at, toL_at, vS_at, vB_at, eAnd_at, eOr_at, eNot_at, vAnd_at, vOr_at, vNot_at, eIf_at, eSl_at, asBl_bl, asInt_int, asLst_lst, addD_int, addI_int, subD_int, negD_int, ltB_int, leB_int, gtB_int, geB_int, eqB_int, neB_int, eqB_str, neB_str, intK_int, absN, lenK_lst, lenK_tup, ixD_tup0, ixD_tup1, ixD_tup2, ixD_lst0, ixD_lst1, ixD_lst2, ixD_lst3, Res.bind_ok, Res.bind_exc, Res.bind_stuck, andThen_ok, andThen_exc, andS_nx, andS_rt, andS_ex, andS_bk, andS_ct, loopO_nx, loopO_ct, loopO_bk, loopO_rt, loopO_ex, List.getElem?_cons_zero, List.getElem?_cons_succ, List.set_cons_zero, List.set_cons_succ, List.length_cons, List.length_nil, List.replicate, List.append_nil, List.nil_append, List.cons_append, Nat.zero_add, Nat.reduceAdd, Nat.reduceSub, Nat.reduceEqDiff, Nat.reduceLT, Bool.and_true, Bool.true_and, Bool.and_false, Bool.false_and, Bool.not_true, Bool.not_false, Bool.false_eq_true, decide_true, decide_false, decide_eq_true_eq, ite_true, ite_false, if_true, if_false, Bool.and_self, Bool.not_not, and_self, and_true, true_and, not_true_eq_false, not_false_eq_true, ckLen_ok, Nat.reduceLeDiff, fld_name, fld_first, fld_second, fld_needs, tn0, tn1, tn2, onC_dD, onCI_dD, cf_str, cf_tn, ↓eMk_at, dD_fold, frz_at, asStr_str, eJoin_at, ↓eFs_at, catP_nil, empty_app, isLst_str, isLst_dD, isLst_non, nc0, nc1, nc2, nc3, nc4, nc5, nc6, nc7, nc8, nc9, nc10, nc11, nc12, Int.reduceEq, Int.reduceLT, Int.reduceLE, Int.reduceNeg, ok1_ok, wipeR_nil, wipeR_cons, ki_names, ki_present, ki_dishes, ki_longest, onC_ki, onCI_ki, isLst_ki, slLst_hi, slLst_lo, slTup_hi, slTup_lo, List.takeWhile_cons, hk, reduceIte]
      rfl
/-- one need is taken up -/
theorem merged_one (l : List Nd) (n : Nd) (s0 : Sl) (hl : l.length < 99) (hL : ∀ m ∈ l, NameOk m.2.1) (hN : NameOk n.2.1) (p0 : Sl) :
    fb_merged_0 ⟨[s0, .ow (l.map tn), .sh (.int n.1), .sh (.str n.2.1), .sh (.int n.2.2), p0], none⟩ = .nx ⟨[s0, .ow ((mg l n).map tn), .sh (.int n.1), .sh (.str n.2.1), .sh (.int n.2.2), .sh (.int (at_ l n : Nat))], none⟩ := by
  have w := merged_at l n s0 l 0 100 rfl (by omega) (Nat.zero_le _)
  rw [Nat.zero_add] at w
  have hp : (l.takeWhile (kl · n)).length ≤ l.length := (List.takeWhile_sublist _).length_le
  have w' : whileN 100 wc_merged_0 wb_merged_0 ⟨[s0, .ow (l.map tn), .sh (.int n.1), .sh (.str n.2.1), .sh (.int n.2.2), .sh (.int 0)], none⟩ = _ := w
  simp only [runD_at, entryS_at, slF_t, slF_f, slD_int, slD_str, slD_bl, slD_lst, List.zipWith_cons_cons, List.zipWith_nil_left, List.map, List.length, sSeq_at, sNil_at, sRet_at, sRetN_at, sRetNone_at, sIf_at, sSet_at, sSetN_at, sExpr_at, sPar_at, sTgt_at, sMut_at, sPut_at, sFor_at, sRaise_at, sTry_at, atT_at, Rho.set_mk, gN_at, forL_nil, forL_cons, outR_rt, outR_nx, outR_ex, isLst_int, isLst_bl, isLst_tup, ckFlat_int, ckFlat_bl, e1_at, e2_at, e3c_at, cD_at, aNil_at, aCons_at, eTup_at, eLst_at, toL_at, vS_at, vB_at, eAnd_at, eOr_at, eNot_at, vAnd_at, vOr_at, vNot_at, eIf_at, eSl_at, asBl_bl, asInt_int, asLst_lst, addD_int, addI_int, subD_int, negD_int, ltB_int, leB_int, gtB_int, geB_int, eqB_int, neB_int, eqB_str, neB_str, intK_int, absN, lenK_lst, lenK_tup, ixD_tup0, ixD_tup1, ixD_tup2, ixD_lst0, ixD_lst1, ixD_lst2, ixD_lst3, Res.bind_ok, Res.bind_exc, Res.bind_stuck, andThen_ok, andThen_exc, andS_nx, andS_rt, andS_ex, andS_bk, andS_ct, loopO_nx, loopO_ct, loopO_bk, loopO_rt, loopO_ex, List.getElem?_cons_zero, List.getElem?_cons_succ, List.set_cons_zero, List.set_cons_succ, List.length_cons, List.length_nil, List.replicate, List.append_nil, List.nil_append, List.cons_append, Nat.zero_add, Nat.reduceAdd, Nat.reduceSub, Nat.reduceEqDiff, Nat.reduceLT, Bool.and_true, Bool.true_and, Bool.and_false, Bool.false_and, Bool.not_true, Bool.not_false, Bool.false_eq_true, decide_true, decide_false, decide_eq_true_eq, ite_true, ite_false, if_true, if_false, Bool.and_self, Bool.not_not, and_self, and_true, true_and, not_true_eq_false, not_false_eq_true, ckLen_ok, Nat.reduceLeDiff, fld_name, fld_first, fld_second, fld_needs, tn0, tn1, tn2, onC_dD, onCI_dD, cf_str, cf_tn, ↓eMk_at, dD_fold, frz_at, asStr_str, eJoin_at, ↓eFs_at, catP_nil, empty_app, isLst_str, isLst_dD, isLst_non, nc0, nc1, nc2, nc3, nc4, nc5, nc6, nc7, nc8, nc9, nc10, nc11, nc12, Int.reduceEq, Int.reduceLT, Int.reduceLE, Int.reduceNeg, ok1_ok, wipeR_nil, wipeR_cons, ki_names, ki_present, ki_dishes, ki_longest, onC_ki, onCI_ki, isLst_ki, slLst_hi, slLst_lo, slTup_hi, slTup_lo, fb_merged_0, w', reduceIte]
  show _ = Out.nx ⟨[s0, .ow ((mg l n).map tn), _, _, _, .sh (.int ((at_ l n : Nat) : Int))], none⟩
  unfold mg
  have e0 : (l.takeWhile (kl · n)).length = at_ l n := rfl
  rw [e0] at hp ⊢
  by_cases h : at_ l n < l.length
  · rw [List.getElem?_eq_getElem h]
    simp only [runD_at, entryS_at, slF_t, slF_f, slD_int, slD_str, slD_bl, slD_lst, List.zipWith_cons_cons, List.zipWith_nil_left, List.map, List.length, sSeq_at, sNil_at, sRet_at, sRetN_at, sRetNone_at, sIf_at, sSet_at, sSetN_at, sExpr_at, sPar_at, sTgt_at, sMut_at, sPut_at, sFor_at, sRaise_at, sTry_at, atT_at, Rho.set_mk, gN_at, forL_nil, forL_cons, outR_rt, outR_nx, outR_ex, isLst_int, isLst_bl, isLst_tup, ckFlat_int, ckFlat_bl, e1_at, e2_at, e3c_at, cD_at, aNil_at, aCons_at, eTup_at, eLst_at, toL_at, vS_at, vB_at, eAnd_at, eOr_at, eNot_at, vAnd_at, vOr_at, vNot_at, eIf_at, eSl_at, asBl_bl, asInt_int, asLst_lst, addD_int, addI_int, subD_int, negD_int, ltB_int, leB_int, gtB_int, geB_int, eqB_int, neB_int, eqB_str, neB_str, intK_int, absN, lenK_lst, lenK_tup, ixD_tup0, ixD_tup1, ixD_tup2, ixD_lst0, ixD_lst1, ixD_lst2, ixD_lst3, Res.bind_ok, Res.bind_exc, Res.bind_stuck, andThen_ok, andThen_exc, andS_nx, andS_rt, andS_ex, andS_bk, andS_ct, loopO_nx, loopO_ct, loopO_bk, loopO_rt, loopO_ex, List.getElem?_cons_zero, List.getElem?_cons_succ, List.set_cons_zero, List.set_cons_succ, List.length_cons, List.length_nil, List.replicate, List.append_nil, List.nil_append, List.cons_append, Nat.zero_add, Nat.reduceAdd, Nat.reduceSub, Nat.reduceEqDiff, Nat.reduceLT, Bool.and_true, Bool.true_and, Bool.and_false, Bool.false_and, Bool.not_true, Bool.not_false, Bool.false_eq_true, decide_true, decide_false, decide_eq_true_eq, ite_true, ite_false, if_true, if_false, Bool.and_self, Bool.not_not, and_self, and_true, true_and, not_true_eq_false, not_false_eq_true, ckLen_ok, Nat.reduceLeDiff, fld_name, fld_first, fld_second, fld_needs, tn0, tn1, tn2, onC_dD, onCI_dD, cf_str, cf_tn, ↓eMk_at, dD_fold, frz_at, asStr_str, eJoin_at, ↓eFs_at, catP_nil, empty_app, isLst_str, isLst_dD, isLst_non, nc0, nc1, nc2, nc3, nc4, nc5, nc6, nc7, nc8, nc9, nc10, nc11, nc12, Int.reduceEq, Int.reduceLT, Int.reduceLE, Int.reduceNeg, ok1_ok, wipeR_nil, wipeR_cons, ki_names, ki_present, ki_dishes, ki_longest, onC_ki, onCI_ki, isLst_ki, slLst_hi, slLst_lo, slTup_hi, slTup_lo, List.length_map, lt_cast, h, ix_l h, sl2, ckLen_ok (show 2 ≤ 16777216 by decide), ckLen_ok (show 3 ≤ 16777216 by decide), eqB_p2 (hL _ (List.getElem_mem h)) hN, reduceIte]
    by_cases c : l[at_ l n].1 = n.1 ∧ l[at_ l n].2.1 = n.2.1
    · simp only [runD_at, entryS_at, slF_t, slF_f, slD_int, slD_str, slD_bl, slD_lst, List.zipWith_cons_cons, List.zipWith_nil_left, List.map, List.length, sSeq_at, sNil_at, sRet_at, sRetN_at, sRetNone_at, sIf_at, sSet_at, sSetN_at, sExpr_at, sPar_at, sTgt_at, sMut_at, sPut_at, sFor_at, sRaise_at, sTry_at, atT_at, Rho.set_mk, gN_at, forL_nil, forL_cons, outR_rt, outR_nx, outR_ex, isLst_int, isLst_bl, isLst_tup, ckFlat_int, ckFlat_bl, e1_at, e2_at, e3c_at, cD_at, aNil_at, aCons_at, eTup_at, eLst_at, toL_at, vS_at, vB_at, eAnd_at, eOr_at, eNot_at, vAnd_at, vOr_at, vNot_at, eIf_at, eSl_at, asBl_bl, asInt_int, asLst_lst, addD_int, addI_int, subD_int, negD_int, ltB_int, leB_int, gtB_int, geB_int, eqB_int, neB_int, eqB_str, neB_str, intK_int, absN, lenK_lst, lenK_tup, ixD_tup0, ixD_tup1, ixD_tup2, ixD_lst0, ixD_lst1, ixD_lst2, ixD_lst3, Res.bind_ok, Res.bind_exc, Res.bind_stuck, andThen_ok, andThen_exc, andS_nx, andS_rt, andS_ex, andS_bk, andS_ct, loopO_nx, loopO_ct, loopO_bk, loopO_rt, loopO_ex, List.getElem?_cons_zero, List.getElem?_cons_succ, List.set_cons_zero, List.set_cons_succ, List.length_cons, List.length_nil, List.replicate, List.append_nil, List.nil_append, List.cons_append, Nat.zero_add, Nat.reduceAdd, Nat.reduceSub, Nat.reduceEqDiff, Nat.reduceLT, Bool.and_true, Bool.true_and, Bool.and_false, Bool.false_and, Bool.not_true, Bool.not_false, Bool.false_eq_true, decide_true, decide_false, decide_eq_true_eq, ite_true, ite_false, if_true, if_false, Bool.and_self, Bool.not_not, and_self, and_true, true_and, not_true_eq_false, not_false_eq_true, ckLen_ok, Nat.reduceLeDiff, fld_name, fld_first, fld_second, fld_needs, tn0, tn1, tn2, onC_dD, onCI_dD, cf_str, cf_tn, ↓eMk_at, dD_fold, frz_at, asStr_str, eJoin_at, ↓eFs_at, catP_nil, empty_app, isLst_str, isLst_dD, isLst_non, nc0, nc1, nc2, nc3, nc4, nc5, nc6, nc7, nc8, nc9, nc10, nc11, nc12, Int.reduceEq, Int.reduceLT, Int.reduceLE, Int.reduceNeg, ok1_ok, wipeR_nil, wipeR_cons, ki_names, ki_present, ki_dishes, ki_longest, onC_ki, onCI_ki, isLst_ki, slLst_hi, slLst_lo, slTup_hi, slTup_lo, c, show ixD (tn l[at_ l n]) (.int 2) = .ok (.int l[at_ l n].2.2) from rfl, put_l (ds := l.map tn) (p := at_ l n) (by simpa using h), reduceIte]
      rw [List.map_set]
      rfl
    · simp only [runD_at, entryS_at, slF_t, slF_f, slD_int, slD_str, slD_bl, slD_lst, List.zipWith_cons_cons, List.zipWith_nil_left, List.map, List.length, sSeq_at, sNil_at, sRet_at, sRetN_at, sRetNone_at, sIf_at, sSet_at, sSetN_at, sExpr_at, sPar_at, sTgt_at, sMut_at, sPut_at, sFor_at, sRaise_at, sTry_at, atT_at, Rho.set_mk, gN_at, forL_nil, forL_cons, outR_rt, outR_nx, outR_ex, isLst_int, isLst_bl, isLst_tup, ckFlat_int, ckFlat_bl, e1_at, e2_at, e3c_at, cD_at, aNil_at, aCons_at, eTup_at, eLst_at, toL_at, vS_at, vB_at, eAnd_at, eOr_at, eNot_at, vAnd_at, vOr_at, vNot_at, eIf_at, eSl_at, asBl_bl, asInt_int, asLst_lst, addD_int, addI_int, subD_int, negD_int, ltB_int, leB_int, gtB_int, geB_int, eqB_int, neB_int, eqB_str, neB_str, intK_int, absN, lenK_lst, lenK_tup, ixD_tup0, ixD_tup1, ixD_tup2, ixD_lst0, ixD_lst1, ixD_lst2, ixD_lst3, Res.bind_ok, Res.bind_exc, Res.bind_stuck, andThen_ok, andThen_exc, andS_nx, andS_rt, andS_ex, andS_bk, andS_ct, loopO_nx, loopO_ct, loopO_bk, loopO_rt, loopO_ex, List.getElem?_cons_zero, List.getElem?_cons_succ, List.set_cons_zero, List.set_cons_succ, List.length_cons, List.length_nil, List.replicate, List.append_nil, List.nil_append, List.cons_append, Nat.zero_add, Nat.reduceAdd, Nat.reduceSub, Nat.reduceEqDiff, Nat.reduceLT, Bool.and_true, Bool.true_and, Bool.and_false, Bool.false_and, Bool.not_true, Bool.not_false, Bool.false_eq_true, decide_true, decide_false, decide_eq_true_eq, ite_true, ite_false, if_true, if_false, Bool.and_self, Bool.not_not, and_self, and_true, true_and, not_true_eq_false, not_false_eq_true, ckLen_ok, Nat.reduceLeDiff, fld_name, fld_first, fld_second, fld_needs, tn0, tn1, tn2, onC_dD, onCI_dD, cf_str, cf_tn, ↓eMk_at, dD_fold, frz_at, asStr_str, eJoin_at, ↓eFs_at, catP_nil, empty_app, isLst_str, isLst_dD, isLst_non, nc0, nc1, nc2, nc3, nc4, nc5, nc6, nc7, nc8, nc9, nc10, nc11, nc12, Int.reduceEq, Int.reduceLT, Int.reduceLE, Int.reduceNeg, ok1_ok, wipeR_nil, wipeR_cons, ki_names, ki_present, ki_dishes, ki_longest, onC_ki, onCI_ki, isLst_ki, slLst_hi, slLst_lo, slTup_hi, slTup_lo, c, ins_l (ds := l.map tn) (p := at_ l n) (by simp; omega) (by omega), reduceIte]
      simp [tn]
  · rw [List.getElem?_eq_none (by omega)]
    simp only [runD_at, entryS_at, slF_t, slF_f, slD_int, slD_str, slD_bl, slD_lst, List.zipWith_cons_cons, List.zipWith_nil_left, List.map, List.length, sSeq_at, sNil_at, sRet_at, sRetN_at, sRetNone_at, sIf_at, sSet_at, sSetN_at, sExpr_at, sPar_at, sTgt_at, sMut_at, sPut_at, sFor_at, sRaise_at, sTry_at, atT_at, Rho.set_mk, gN_at, forL_nil, forL_cons, outR_rt, outR_nx, outR_ex, isLst_int, isLst_bl, isLst_tup, ckFlat_int, ckFlat_bl, e1_at, e2_at, e3c_at, cD_at, aNil_at, aCons_at, eTup_at, eLst_at, toL_at, vS_at, vB_at, eAnd_at, eOr_at, eNot_at, vAnd_at, vOr_at, vNot_at, eIf_at, eSl_at, asBl_bl, asInt_int, asLst_lst, addD_int, addI_int, subD_int, negD_int, ltB_int, leB_int, gtB_int, geB_int, eqB_int, neB_int, eqB_str, neB_str, intK_int, absN, lenK_lst, lenK_tup, ixD_tup0, ixD_tup1, ixD_tup2, ixD_lst0, ixD_lst1, ixD_lst2, ixD_lst3, Res.bind_ok, Res.bind_exc, Res.bind_stuck, andThen_ok, andThen_exc, andS_nx, andS_rt, andS_ex, andS_bk, andS_ct, loopO_nx, loopO_ct, loopO_bk, loopO_rt, loopO_ex, List.getElem?_cons_zero, List.getElem?_cons_succ, List.set_cons_zero, List.set_cons_succ, List.length_cons, List.length_nil, List.replicate, List.append_nil, List.nil_append, List.cons_append, Nat.zero_add, Nat.reduceAdd, Nat.reduceSub, Nat.reduceEqDiff, Nat.reduceLT, Bool.and_true, Bool.true_and, Bool.and_false, Bool.false_and, Bool.not_true, Bool.not_false, Bool.false_eq_true, decide_true, decide_false, decide_eq_true_eq, ite_true, ite_false, if_true, if_false, Bool.and_self, Bool.not_not, and_self, and_true, true_and, not_true_eq_false, not_false_eq_true, ckLen_ok, Nat.reduceLeDiff, fld_name, fld_first, fld_second, fld_needs, tn0, tn1, tn2, onC_dD, onCI_dD, cf_str, cf_tn, ↓eMk_at, dD_fold, frz_at, asStr_str, eJoin_at, ↓eFs_at, catP_nil, empty_app, isLst_str, isLst_dD, isLst_non, nc0, nc1, nc2, nc3, nc4, nc5, nc6, nc7, nc8, nc9, nc10, nc11, nc12, Int.reduceEq, Int.reduceLT, Int.reduceLE, Int.reduceNeg, ok1_ok, wipeR_nil, wipeR_cons, ki_names, ki_present, ki_dishes, ki_longest, onC_ki, onCI_ki, isLst_ki, slLst_hi, slLst_lo, slTup_hi, slTup_lo, List.length_map, lt_cast, h, ins_l (ds := l.map tn) (p := at_ l n) (by simp; omega) (by omega), ckLen_ok (show 3 ≤ 16777216 by decide), reduceIte]
    simp [tn]
theorem merged_ok (raw : List Nd) (hl : raw.length ≤ 99) (hR : ∀ m ∈ raw, NameOk m.2.1) : F_merged [.lst (raw.map tn)] = .ok (.tup ((mgs raw).map tn)) := by
  unfold F_merged den_merged
  have lp : ∀ (rs l : List Nd) (s0 a2 a3 a4 a5 : Sl), l.length + rs.length ≤ 99 → (∀ m ∈ l, NameOk m.2.1) → (∀ m ∈ rs, NameOk m.2.1) → ∃ b2 b3 b4 b5 : Sl,
      forL (atT (gT 3 (gsC (gN 2) (gsC (gN 3) (gsC (gN 4) gsN)))) fb_merged_0)
        (rs.map tn) ⟨[s0, .ow (l.map tn), a2, a3, a4, a5], none⟩ = .nx ⟨[s0, .ow ((rs.foldl mg l).map tn), b2, b3, b4, b5], none⟩ := by
    intro rs
    induction rs with
    | nil => exact fun l s0 a2 a3 a4 a5 _ _ _ => ⟨a2, a3, a4, a5, rfl⟩
    | cons n rs ih =>
      intro l s0 a2 a3 a4 a5 h hL hR
      rw [List.length_cons] at h
      have hn := hR n List.mem_cons_self
      have one := merged_one l n s0 (by omega) hL hn a5
      have ml := mg_len l n
      obtain ⟨b2, b3, b4, b5, e⟩ := ih (mg l n) s0 (.sh (.int n.1)) (.sh (.str n.2.1)) (.sh (.int n.2.2)) (.sh (.int (at_ l n : Nat))) (by omega) (mg_ok (Pn := NameOk) hL hn) (fun m hm => hR m (List.mem_cons_of_mem _ hm))
      refine ⟨b2, b3, b4, b5, ?_⟩
      rw [List.map_cons, forL_cons]
      refine (congrArg (fun o => loopO o _) one).trans ?_
      exact e
  obtain ⟨b2, b3, b4, b5, e⟩ := lp raw [] (.bo (.lst (raw.map tn))) .no .no .no .no (by simpa using hl) (fun m hm => by cases hm) hR
  have bi : boItems 0 ⟨[Sl.bo (.lst (raw.map tn)), .ow [], .no, .no, .no, .no], none⟩ = .ok (raw.map tn) := if_pos (fl raw)
  simp only [runD_at, entryS_at, slF_t, slF_f, slD_int, slD_str, slD_bl, slD_lst, List.zipWith_cons_cons, List.zipWith_nil_left, List.map, List.length, sSeq_at, sNil_at, sRet_at, sRetN_at, sRetNone_at, sIf_at, sSet_at, sSetN_at, sExpr_at, sPar_at, sTgt_at, sMut_at, sPut_at, sFor_at, sRaise_at, sTry_at, atT_at, Rho.set_mk, gN_at, forL_nil, forL_cons, outR_rt, outR_nx, outR_ex, isLst_int, isLst_bl, isLst_tup, ckFlat_int, ckFlat_bl, e1_at, e2_at, e3c_at, cD_at, aNil_at, aCons_at, eTup_at, eLst_at, toL_at, vS_at, vB_at, eAnd_at, eOr_at, eNot_at, vAnd_at, vOr_at, vNot_at, eIf_at, eSl_at, asBl_bl, asInt_int, asLst_lst, addD_int, addI_int, subD_int, negD_int, ltB_int, leB_int, gtB_int, geB_int, eqB_int, neB_int, eqB_str, neB_str, intK_int, absN, lenK_lst, lenK_tup, ixD_tup0, ixD_tup1, ixD_tup2, ixD_lst0, ixD_lst1, ixD_lst2, ixD_lst3, Res.bind_ok, Res.bind_exc, Res.bind_stuck, andThen_ok, andThen_exc, andS_nx, andS_rt, andS_ex, andS_bk, andS_ct, loopO_nx, loopO_ct, loopO_bk, loopO_rt, loopO_ex, List.getElem?_cons_zero, List.getElem?_cons_succ, List.set_cons_zero, List.set_cons_succ, List.length_cons, List.length_nil, List.replicate, List.append_nil, List.nil_append, List.cons_append, Nat.zero_add, Nat.reduceAdd, Nat.reduceSub, Nat.reduceEqDiff, Nat.reduceLT, Bool.and_true, Bool.true_and, Bool.and_false, Bool.false_and, Bool.not_true, Bool.not_false, Bool.false_eq_true, decide_true, decide_false, decide_eq_true_eq, ite_true, ite_false, if_true, if_false, Bool.and_self, Bool.not_not, and_self, and_true, true_and, not_true_eq_false, not_false_eq_true, ckLen_ok, Nat.reduceLeDiff, fld_name, fld_first, fld_second, fld_needs, tn0, tn1, tn2, onC_dD, onCI_dD, cf_str, cf_tn, ↓eMk_at, dD_fold, frz_at, asStr_str, eJoin_at, ↓eFs_at, catP_nil, empty_app, isLst_str, isLst_dD, isLst_non, nc0, nc1, nc2, nc3, nc4, nc5, nc6, nc7, nc8, nc9, nc10, nc11, nc12, Int.reduceEq, Int.reduceLT, Int.reduceLE, Int.reduceNeg, ok1_ok, wipeR_nil, wipeR_cons, ki_names, ki_present, ki_dishes, ki_longest, onC_ki, onCI_ki, isLst_ki, slLst_hi, slLst_lo, slTup_hi, slTup_lo, ckLen_ok (show 0 ≤ 16777216 by decide), bi, reduceIte]
  rw [show ([] : List D) = ([] : List Nd).map tn from rfl, e]
  simp only [runD_at, entryS_at, slF_t, slF_f, slD_int, slD_str, slD_bl, slD_lst, List.zipWith_cons_cons, List.zipWith_nil_left, List.map, List.length, sSeq_at, sNil_at, sRet_at, sRetN_at, sRetNone_at, sIf_at, sSet_at, sSetN_at, sExpr_at, sPar_at, sTgt_at, sMut_at, sPut_at, sFor_at, sRaise_at, sTry_at, atT_at, Rho.set_mk, gN_at, forL_nil, forL_cons, outR_rt, outR_nx, outR_ex, isLst_int, isLst_bl, isLst_tup, ckFlat_int, ckFlat_bl, e1_at, e2_at, e3c_at, cD_at, aNil_at, aCons_at, eTup_at, eLst_at, toL_at, vS_at, vB_at, eAnd_at, eOr_at, eNot_at, vAnd_at, vOr_at, vNot_at, eIf_at, eSl_at, asBl_bl, asInt_int, asLst_lst, addD_int, addI_int, subD_int, negD_int, ltB_int, leB_int, gtB_int, geB_int, eqB_int, neB_int, eqB_str, neB_str, intK_int, absN, lenK_lst, lenK_tup, ixD_tup0, ixD_tup1, ixD_tup2, ixD_lst0, ixD_lst1, ixD_lst2, ixD_lst3, Res.bind_ok, Res.bind_exc, Res.bind_stuck, andThen_ok, andThen_exc, andS_nx, andS_rt, andS_ex, andS_bk, andS_ct, loopO_nx, loopO_ct, loopO_bk, loopO_rt, loopO_ex, List.getElem?_cons_zero, List.getElem?_cons_succ, List.set_cons_zero, List.set_cons_succ, List.length_cons, List.length_nil, List.replicate, List.append_nil, List.nil_append, List.cons_append, Nat.zero_add, Nat.reduceAdd, Nat.reduceSub, Nat.reduceEqDiff, Nat.reduceLT, Bool.and_true, Bool.true_and, Bool.and_false, Bool.false_and, Bool.not_true, Bool.not_false, Bool.false_eq_true, decide_true, decide_false, decide_eq_true_eq, ite_true, ite_false, if_true, if_false, Bool.and_self, Bool.not_not, and_self, and_true, true_and, not_true_eq_false, not_false_eq_true, ckLen_ok, Nat.reduceLeDiff, fld_name, fld_first, fld_second, fld_needs, tn0, tn1, tn2, onC_dD, onCI_dD, cf_str, cf_tn, ↓eMk_at, dD_fold, frz_at, asStr_str, eJoin_at, ↓eFs_at, catP_nil, empty_app, isLst_str, isLst_dD, isLst_non, nc0, nc1, nc2, nc3, nc4, nc5, nc6, nc7, nc8, nc9, nc10, nc11, nc12, Int.reduceEq, Int.reduceLT, Int.reduceLE, Int.reduceNeg, ok1_ok, wipeR_nil, wipeR_cons, ki_names, ki_present, ki_dishes, ki_longest, onC_ki, onCI_ki, isLst_ki, slLst_hi, slLst_lo, slTup_hi, slTup_lo, show tupKF [.lst ((raw.foldl mg []).map tn)] = .ok (.tup ((raw.foldl mg []).map tn)) from if_pos (fl _), isLst_tup, reduceIte]
theorem init_ok (ci c : Addr) {z : Str} {raw : List Nd} (f s : Int) (hz : NameOk z) (h0 : raw ≠ []) (hl : raw.length ≤ 99) (hr : ∀ m ∈ raw, NdOk m) :
    F_Dish__init ci c [.str z, .lst (raw.map tn), .int f, .int s] = .ok [.str z, .int f, .int s, .tup ((mgs raw).map tn)] := by
  unfold F_Dish__init runMk den_Dish__init
  have en : entryM [true, false, true, true] 8 c [.str z, .lst (raw.map tn), .int f, .int s] = ⟨[.oi c [] [], .sh (.str z), .bo (.lst (raw.map tn)), .sh (.int f), .sh (.int s), .no, .no, .no], none⟩ := rfl
  rw [en]
  have hp : 0 < raw.length := List.length_pos_iff.mpr h0
  have lp : ∀ (rs : List Nd) (a5 a6 a7 : Sl), (∀ m ∈ rs, NdOk m) → ∃ b5 b6 b7 : Sl, forL (atT (gT 3 (gsC (gN 5) (gsC (gN 6) (gsC (gN 7) gsN)))) (fb_Dish__init_0 ci c)) (rs.map tn)
      ⟨[.oi c [] [], .sh (.str z), .bo (.lst (raw.map tn)), .sh (.int f), .sh (.int s), a5, a6, a7], none⟩ = .nx ⟨[.oi c [] [], .sh (.str z), .bo (.lst (raw.map tn)), .sh (.int f), .sh (.int s), b5, b6, b7], none⟩ := by
    intro rs
    induction rs with
    | nil => exact fun a5 a6 a7 _ => ⟨a5, a6, a7, rfl⟩
    | cons n rs ih =>
      intro a5 a6 a7 h
      have hn := h n List.mem_cons_self
      obtain ⟨b5, b6, b7, e⟩ := ih (.sh (.int n.1)) (.sh (.str n.2.1)) (.sh (.int n.2.2)) fun m hm => h m (List.mem_cons_of_mem _ hm)
      refine ⟨b5, b6, b7, ?_⟩
      rw [List.map_cons, forL_cons]
      have tg : gT 3 (gsC (gN 5) (gsC (gN 6) (gsC (gN 7) gsN))) (tn n) ⟨[.oi c [] [], .sh (.str z), .bo (.lst (raw.map tn)), .sh (.int f), .sh (.int s), a5, a6, a7], none⟩ = some ⟨[.oi c [] [], .sh (.str z), .bo (.lst (raw.map tn)), .sh (.int f), .sh (.int s), .sh (.int n.1), .sh (.str n.2.1), .sh (.int n.2.2)], none⟩ := rfl
      have b := hn.b
      have a := hn.a
      simp only [runD_at, entryS_at, slF_t, slF_f, slD_int, slD_str, slD_bl, slD_lst, List.zipWith_cons_cons, List.zipWith_nil_left, List.map, List.length, sSeq_at, sNil_at, sRet_at, sRetN_at, sRetNone_at, sIf_at, sSet_at, sSetN_at, sExpr_at, sPar_at, sTgt_at, sMut_at, sPut_at, sFor_at, sRaise_at, sTry_at, atT_at, Rho.set_mk, gN_at, forL_nil, forL_cons, outR_rt, outR_nx, outR_ex, isLst_int, isLst_bl, isLst_tup, ckFlat_int, ckFlat_bl, e1_at, e2_at, e3c_at, cD_at, aNil_at, aCons_at, eTup_at, eLst_at, toL_at, vS_at, vB_at, eAnd_at, eOr_at, eNot_at, vAnd_at, vOr_at, vNot_at, eIf_at, eSl_at, asBl_bl, asInt_int, asLst_lst, addD_int, addI_int, subD_int, negD_int, ltB_int, leB_int, gtB_int, geB_int, eqB_int, neB_int, eqB_str, neB_str, intK_int, absN, lenK_lst, lenK_tup, ixD_tup0, ixD_tup1, ixD_tup2, ixD_lst0, ixD_lst1, ixD_lst2, ixD_lst3, Res.bind_ok, Res.bind_exc, Res.bind_stuck, andThen_ok, andThen_exc, andS_nx, andS_rt, andS_ex, andS_bk, andS_ct, loopO_nx, loopO_ct, loopO_bk, loopO_rt, loopO_ex, List.getElem?_cons_zero, List.getElem?_cons_succ, List.set_cons_zero, List.set_cons_succ, List.length_cons, List.length_nil, List.replicate, List.append_nil, List.nil_append, List.cons_append, Nat.zero_add, Nat.reduceAdd, Nat.reduceSub, Nat.reduceEqDiff, Nat.reduceLT, Bool.and_true, Bool.true_and, Bool.and_false, Bool.false_and, Bool.not_true, Bool.not_false, Bool.false_eq_true, decide_true, decide_false, decide_eq_true_eq, ite_true, ite_false, if_true, if_false, Bool.and_self, Bool.not_not, and_self, and_true, true_and, not_true_eq_false, not_false_eq_true, ckLen_ok, Nat.reduceLeDiff, fld_name, fld_first, fld_second, fld_needs, tn0, tn1, tn2, onC_dD, onCI_dD, cf_str, cf_tn, ↓eMk_at, dD_fold, frz_at, asStr_str, eJoin_at, ↓eFs_at, catP_nil, empty_app, isLst_str, isLst_dD, isLst_non, nc0, nc1, nc2, nc3, nc4, nc5, nc6, nc7, nc8, nc9, nc10, nc11, nc12, Int.reduceEq, Int.reduceLT, Int.reduceLE, Int.reduceNeg, ok1_ok, wipeR_nil, wipeR_cons, ki_names, ki_present, ki_dishes, ki_longest, onC_ki, onCI_ki, isLst_ki, slLst_hi, slLst_lo, slTup_hi, slTup_lo, tg, fb_Dish__init_0, show ¬ (n.1 < 0) from by omega, show ¬ (n.2.2 < 1) from by omega, is_name_ok hn.t, reduceIte]
      exact e
  obtain ⟨b5, b6, b7, e⟩ := lp raw .no .no .no hr
  have bi : boItems 2 ⟨[Sl.oi c [] [], .sh (.str z), .bo (.lst (raw.map tn)), .sh (.int f), .sh (.int s), .no, .no, .no], none⟩ = .ok (raw.map tn) := if_pos (fl raw)
  simp only [runD_at, entryS_at, slF_t, slF_f, slD_int, slD_str, slD_bl, slD_lst, List.zipWith_cons_cons, List.zipWith_nil_left, List.map, List.length, sSeq_at, sNil_at, sRet_at, sRetN_at, sRetNone_at, sIf_at, sSet_at, sSetN_at, sExpr_at, sPar_at, sTgt_at, sMut_at, sPut_at, sFor_at, sRaise_at, sTry_at, atT_at, Rho.set_mk, gN_at, forL_nil, forL_cons, outR_rt, outR_nx, outR_ex, isLst_int, isLst_bl, isLst_tup, ckFlat_int, ckFlat_bl, e1_at, e2_at, e3c_at, cD_at, aNil_at, aCons_at, eTup_at, eLst_at, toL_at, vS_at, vB_at, eAnd_at, eOr_at, eNot_at, vAnd_at, vOr_at, vNot_at, eIf_at, eSl_at, asBl_bl, asInt_int, asLst_lst, addD_int, addI_int, subD_int, negD_int, ltB_int, leB_int, gtB_int, geB_int, eqB_int, neB_int, eqB_str, neB_str, intK_int, absN, lenK_lst, lenK_tup, ixD_tup0, ixD_tup1, ixD_tup2, ixD_lst0, ixD_lst1, ixD_lst2, ixD_lst3, Res.bind_ok, Res.bind_exc, Res.bind_stuck, andThen_ok, andThen_exc, andS_nx, andS_rt, andS_ex, andS_bk, andS_ct, loopO_nx, loopO_ct, loopO_bk, loopO_rt, loopO_ex, List.getElem?_cons_zero, List.getElem?_cons_succ, List.set_cons_zero, List.set_cons_succ, List.length_cons, List.length_nil, List.replicate, List.append_nil, List.nil_append, List.cons_append, Nat.zero_add, Nat.reduceAdd, Nat.reduceSub, Nat.reduceEqDiff, Nat.reduceLT, Bool.and_true, Bool.true_and, Bool.and_false, Bool.false_and, Bool.not_true, Bool.not_false, Bool.false_eq_true, decide_true, decide_false, decide_eq_true_eq, ite_true, ite_false, if_true, if_false, Bool.and_self, Bool.not_not, and_self, and_true, true_and, not_true_eq_false, not_false_eq_true, ckLen_ok, Nat.reduceLeDiff, fld_name, fld_first, fld_second, fld_needs, tn0, tn1, tn2, onC_dD, onCI_dD, cf_str, cf_tn, ↓eMk_at, dD_fold, frz_at, asStr_str, eJoin_at, ↓eFs_at, catP_nil, empty_app, isLst_str, isLst_dD, isLst_non, nc0, nc1, nc2, nc3, nc4, nc5, nc6, nc7, nc8, nc9, nc10, nc11, nc12, Int.reduceEq, Int.reduceLT, Int.reduceLE, Int.reduceNeg, ok1_ok, wipeR_nil, wipeR_cons, ki_names, ki_present, ki_dishes, ki_longest, onC_ki, onCI_ki, isLst_ki, slLst_hi, slLst_lo, slTup_hi, slTup_lo, is_name_ok hz, List.length_map, show ((raw.length : Int) = 0) = False from eq_false (by omega), bi, e, reduceIte]
  rw [fldI_at (d := .str z) rfl rfl (by decide) rfl]
  simp only [runD_at, entryS_at, slF_t, slF_f, slD_int, slD_str, slD_bl, slD_lst, List.zipWith_cons_cons, List.zipWith_nil_left, List.map, List.length, sSeq_at, sNil_at, sRet_at, sRetN_at, sRetNone_at, sIf_at, sSet_at, sSetN_at, sExpr_at, sPar_at, sTgt_at, sMut_at, sPut_at, sFor_at, sRaise_at, sTry_at, atT_at, Rho.set_mk, gN_at, forL_nil, forL_cons, outR_rt, outR_nx, outR_ex, isLst_int, isLst_bl, isLst_tup, ckFlat_int, ckFlat_bl, e1_at, e2_at, e3c_at, cD_at, aNil_at, aCons_at, eTup_at, eLst_at, toL_at, vS_at, vB_at, eAnd_at, eOr_at, eNot_at, vAnd_at, vOr_at, vNot_at, eIf_at, eSl_at, asBl_bl, asInt_int, asLst_lst, addD_int, addI_int, subD_int, negD_int, ltB_int, leB_int, gtB_int, geB_int, eqB_int, neB_int, eqB_str, neB_str, intK_int, absN, lenK_lst, lenK_tup, ixD_tup0, ixD_tup1, ixD_tup2, ixD_lst0, ixD_lst1, ixD_lst2, ixD_lst3, Res.bind_ok, Res.bind_exc, Res.bind_stuck, andThen_ok, andThen_exc, andS_nx, andS_rt, andS_ex, andS_bk, andS_ct, loopO_nx, loopO_ct, loopO_bk, loopO_rt, loopO_ex, List.getElem?_cons_zero, List.getElem?_cons_succ, List.set_cons_zero, List.set_cons_succ, List.length_cons, List.length_nil, List.replicate, List.append_nil, List.nil_append, List.cons_append, Nat.zero_add, Nat.reduceAdd, Nat.reduceSub, Nat.reduceEqDiff, Nat.reduceLT, Bool.and_true, Bool.true_and, Bool.and_false, Bool.false_and, Bool.not_true, Bool.not_false, Bool.false_eq_true, decide_true, decide_false, decide_eq_true_eq, ite_true, ite_false, if_true, if_false, Bool.and_self, Bool.not_not, and_self, and_true, true_and, not_true_eq_false, not_false_eq_true, ckLen_ok, Nat.reduceLeDiff, fld_name, fld_first, fld_second, fld_needs, tn0, tn1, tn2, onC_dD, onCI_dD, cf_str, cf_tn, ↓eMk_at, dD_fold, frz_at, asStr_str, eJoin_at, ↓eFs_at, catP_nil, empty_app, isLst_str, isLst_dD, isLst_non, nc0, nc1, nc2, nc3, nc4, nc5, nc6, nc7, nc8, nc9, nc10, nc11, nc12, Int.reduceEq, Int.reduceLT, Int.reduceLE, Int.reduceNeg, ok1_ok, wipeR_nil, wipeR_cons, ki_names, ki_present, ki_dishes, ki_longest, onC_ki, onCI_ki, isLst_ki, slLst_hi, slLst_lo, slTup_hi, slTup_lo, reduceIte]
  rw [fldI_at (d := .int f) rfl rfl (by decide) rfl]
  simp only [runD_at, entryS_at, slF_t, slF_f, slD_int, slD_str, slD_bl, slD_lst, List.zipWith_cons_cons, List.zipWith_nil_left, List.map, List.length, sSeq_at, sNil_at, sRet_at, sRetN_at, sRetNone_at, sIf_at, sSet_at, sSetN_at, sExpr_at, sPar_at, sTgt_at, sMut_at, sPut_at, sFor_at, sRaise_at, sTry_at, atT_at, Rho.set_mk, gN_at, forL_nil, forL_cons, outR_rt, outR_nx, outR_ex, isLst_int, isLst_bl, isLst_tup, ckFlat_int, ckFlat_bl, e1_at, e2_at, e3c_at, cD_at, aNil_at, aCons_at, eTup_at, eLst_at, toL_at, vS_at, vB_at, eAnd_at, eOr_at, eNot_at, vAnd_at, vOr_at, vNot_at, eIf_at, eSl_at, asBl_bl, asInt_int, asLst_lst, addD_int, addI_int, subD_int, negD_int, ltB_int, leB_int, gtB_int, geB_int, eqB_int, neB_int, eqB_str, neB_str, intK_int, absN, lenK_lst, lenK_tup, ixD_tup0, ixD_tup1, ixD_tup2, ixD_lst0, ixD_lst1, ixD_lst2, ixD_lst3, Res.bind_ok, Res.bind_exc, Res.bind_stuck, andThen_ok, andThen_exc, andS_nx, andS_rt, andS_ex, andS_bk, andS_ct, loopO_nx, loopO_ct, loopO_bk, loopO_rt, loopO_ex, List.getElem?_cons_zero, List.getElem?_cons_succ, List.set_cons_zero, List.set_cons_succ, List.length_cons, List.length_nil, List.replicate, List.append_nil, List.nil_append, List.cons_append, Nat.zero_add, Nat.reduceAdd, Nat.reduceSub, Nat.reduceEqDiff, Nat.reduceLT, Bool.and_true, Bool.true_and, Bool.and_false, Bool.false_and, Bool.not_true, Bool.not_false, Bool.false_eq_true, decide_true, decide_false, decide_eq_true_eq, ite_true, ite_false, if_true, if_false, Bool.and_self, Bool.not_not, and_self, and_true, true_and, not_true_eq_false, not_false_eq_true, ckLen_ok, Nat.reduceLeDiff, fld_name, fld_first, fld_second, fld_needs, tn0, tn1, tn2, onC_dD, onCI_dD, cf_str, cf_tn, ↓eMk_at, dD_fold, frz_at, asStr_str, eJoin_at, ↓eFs_at, catP_nil, empty_app, isLst_str, isLst_dD, isLst_non, nc0, nc1, nc2, nc3, nc4, nc5, nc6, nc7, nc8, nc9, nc10, nc11, nc12, Int.reduceEq, Int.reduceLT, Int.reduceLE, Int.reduceNeg, ok1_ok, wipeR_nil, wipeR_cons, ki_names, ki_present, ki_dishes, ki_longest, onC_ki, onCI_ki, isLst_ki, slLst_hi, slLst_lo, slTup_hi, slTup_lo, reduceIte]
  rw [fldI_at (d := .int s) rfl rfl (by decide) rfl]
  simp only [runD_at, entryS_at, slF_t, slF_f, slD_int, slD_str, slD_bl, slD_lst, List.zipWith_cons_cons, List.zipWith_nil_left, List.map, List.length, sSeq_at, sNil_at, sRet_at, sRetN_at, sRetNone_at, sIf_at, sSet_at, sSetN_at, sExpr_at, sPar_at, sTgt_at, sMut_at, sPut_at, sFor_at, sRaise_at, sTry_at, atT_at, Rho.set_mk, gN_at, forL_nil, forL_cons, outR_rt, outR_nx, outR_ex, isLst_int, isLst_bl, isLst_tup, ckFlat_int, ckFlat_bl, e1_at, e2_at, e3c_at, cD_at, aNil_at, aCons_at, eTup_at, eLst_at, toL_at, vS_at, vB_at, eAnd_at, eOr_at, eNot_at, vAnd_at, vOr_at, vNot_at, eIf_at, eSl_at, asBl_bl, asInt_int, asLst_lst, addD_int, addI_int, subD_int, negD_int, ltB_int, leB_int, gtB_int, geB_int, eqB_int, neB_int, eqB_str, neB_str, intK_int, absN, lenK_lst, lenK_tup, ixD_tup0, ixD_tup1, ixD_tup2, ixD_lst0, ixD_lst1, ixD_lst2, ixD_lst3, Res.bind_ok, Res.bind_exc, Res.bind_stuck, andThen_ok, andThen_exc, andS_nx, andS_rt, andS_ex, andS_bk, andS_ct, loopO_nx, loopO_ct, loopO_bk, loopO_rt, loopO_ex, List.getElem?_cons_zero, List.getElem?_cons_succ, List.set_cons_zero, List.set_cons_succ, List.length_cons, List.length_nil, List.replicate, List.append_nil, List.nil_append, List.cons_append, Nat.zero_add, Nat.reduceAdd, Nat.reduceSub, Nat.reduceEqDiff, Nat.reduceLT, Bool.and_true, Bool.true_and, Bool.and_false, Bool.false_and, Bool.not_true, Bool.not_false, Bool.false_eq_true, decide_true, decide_false, decide_eq_true_eq, ite_true, ite_false, if_true, if_false, Bool.and_self, Bool.not_not, and_self, and_true, true_and, not_true_eq_false, not_false_eq_true, ckLen_ok, Nat.reduceLeDiff, fld_name, fld_first, fld_second, fld_needs, tn0, tn1, tn2, onC_dD, onCI_dD, cf_str, cf_tn, ↓eMk_at, dD_fold, frz_at, asStr_str, eJoin_at, ↓eFs_at, catP_nil, empty_app, isLst_str, isLst_dD, isLst_non, nc0, nc1, nc2, nc3, nc4, nc5, nc6, nc7, nc8, nc9, nc10, nc11, nc12, Int.reduceEq, Int.reduceLT, Int.reduceLE, Int.reduceNeg, ok1_ok, wipeR_nil, wipeR_cons, ki_names, ki_present, ki_dishes, ki_longest, onC_ki, onCI_ki, isLst_ki, slLst_hi, slLst_lo, slTup_hi, slTup_lo, reduceIte]
  rw [fldI_at (d := .tup ((mgs raw).map tn)) (by simp only [runD_at, entryS_at, slF_t, slF_f, slD_int, slD_str, slD_bl, slD_lst, List.zipWith_cons_cons, List.zipWith_nil_left, List.map, List.length, sSeq_at, sNil_at, sRet_at, sRetN_at, sRetNone_at, sIf_at, sSet_at, sSetN_at, sExpr_at, sPar_at, sTgt_at, sMut_at, sPut_at, sFor_at, sRaise_at, sTry_at, atT_at, Rho.set_mk, gN_at, forL_nil, forL_cons, outR_rt, outR_nx, outR_ex, isLst_int, isLst_bl, isLst_tup, ckFlat_int, ckFlat_bl, e1_at, e2_at, e3c_at, cD_at, aNil_at, aCons_at, eTup_at, eLst_at, toL_at, vS_at, vB_at, eAnd_at, eOr_at, eNot_at, vAnd_at, vOr_at, vNot_at, eIf_at, eSl_at, asBl_bl, asInt_int, asLst_lst, addD_int, addI_int, subD_int, negD_int, ltB_int, leB_int, gtB_int, geB_int, eqB_int, neB_int, eqB_str, neB_str, intK_int, absN, lenK_lst, lenK_tup, ixD_tup0, ixD_tup1, ixD_tup2, ixD_lst0, ixD_lst1, ixD_lst2, ixD_lst3, Res.bind_ok, Res.bind_exc, Res.bind_stuck, andThen_ok, andThen_exc, andS_nx, andS_rt, andS_ex, andS_bk, andS_ct, loopO_nx, loopO_ct, loopO_bk, loopO_rt, loopO_ex, List.getElem?_cons_zero, List.getElem?_cons_succ, List.set_cons_zero, List.set_cons_succ, List.length_cons, List.length_nil, List.replicate, List.append_nil, List.nil_append, List.cons_append, Nat.zero_add, Nat.reduceAdd, Nat.reduceSub, Nat.reduceEqDiff, Nat.reduceLT, Bool.and_true, Bool.true_and, Bool.and_false, Bool.false_and, Bool.not_true, Bool.not_false, Bool.false_eq_true, decide_true, decide_false, decide_eq_true_eq, ite_true, ite_false, if_true, if_false, Bool.and_self, Bool.not_not, and_self, and_true, true_and, not_true_eq_false, not_false_eq_true, ckLen_ok, Nat.reduceLeDiff, fld_name, fld_first, fld_second, fld_needs, tn0, tn1, tn2, onC_dD, onCI_dD, cf_str, cf_tn, ↓eMk_at, dD_fold, frz_at, asStr_str, eJoin_at, ↓eFs_at, catP_nil, empty_app, isLst_str, isLst_dD, isLst_non, nc0, nc1, nc2, nc3, nc4, nc5, nc6, nc7, nc8, nc9, nc10, nc11, nc12, Int.reduceEq, Int.reduceLT, Int.reduceLE, Int.reduceNeg, ok1_ok, wipeR_nil, wipeR_cons, ki_names, ki_present, ki_dishes, ki_longest, onC_ki, onCI_ki, isLst_ki, slLst_hi, slLst_lo, slTup_hi, slTup_lo, merged_ok raw hl fun m hm => (hr m hm).t, reduceIte]) rfl (by decide) rfl]
  show (if c = c ∧ _ then _ else _) = _
  exact if_pos ⟨rfl, rfl⟩
/-- a made dish -/
theorem make_ok (ci c : Addr) {z : Str} {raw : List Nd} {f s : Int} (hz : NameOk z) (h0 : raw ≠ []) (hl : raw.length ≤ 99) (hr : ∀ m ∈ raw, NdOk m) {fs : Rho → Res (List D)} {ρ : Rho} (e1 : fs ρ = .ok [.str z, .lst (raw.map tn), .int f, .int s]) :
    eMk c fn_Dish (F_Dish__init ci c) fs ρ = .ok (dD c z f s (mgs raw)) := by
  unfold eMk
  rw [e1, Res.bind_ok, init_ok ci c f s hz h0 hl hr]
  rfl
end Kx

set_option Elab.async false
set_option linter.all false
set_option maxRecDepth 100000
set_option maxHeartbeats 1000000
namespace Kx
open PySem PySem.Spec L2 Dv
open PyProof.Rows hiding St
theorem place_ok (cu ck cd : Addr) {names : List Str} {nums : List Int} {menu : List Mn} {h : Int} {t : Str} (ht : t ∈ names) :
    F_Kitchen_place_of cu ck [kiD ck cd names nums menu h, .str t] = .ok (.int (plc t names : Nat)) := by
  unfold F_Kitchen_place_of den_Kitchen_place_of
  rw [runD_at, show entryS [true, true] 4 [kiD ck cd names nums menu h, .str t] = ⟨[.sh (kiD ck cd names nums menu h), .sh (.str t), .no, .no], none⟩ from rfl]
  have lp : ∀ (zs : List Str) (k : Nat) (s2 s3 : Sl), t ∈ zs → ∃ ρ', forL (atT (gT 2 (gsC (gN 2) (gsC (gN 3) gsN))) (fb_Kitchen_place_of_0 cu ck)) (enumD k (zs.map .str)) ⟨[.sh (kiD ck cd names nums menu h), .sh (.str t), s2, s3], none⟩ = .rt (.int ((k + plc t zs : Nat) : Int)) ρ' := by
    intro zs
    induction zs with
    | nil => exact fun k s2 s3 h => by cases h
    | cons z zs ih =>
      intro k s2 s3 hm
      have tg : gT 2 (gsC (gN 2) (gsC (gN 3) gsN)) (.tup [.int (k : Nat), .str z]) ⟨[.sh (kiD ck cd names nums menu h), .sh (.str t), s2, s3], none⟩ = some ⟨[.sh (kiD ck cd names nums menu h), .sh (.str t), .sh (.int (k : Nat)), .sh (.str z)], none⟩ := rfl
      show ∃ ρ', loopO (atT _ _ (.tup [.int (k : Nat), .str z]) _) _ = _
      by_cases e : z = t
      · refine ⟨⟨[.sh (kiD ck cd names nums menu h), .sh (.str t), .sh (.int (k : Nat)), .sh (.str z)], none⟩, ?_⟩
        have p : plc t (z :: zs) = 0 := if_pos e
        rw [p]
        simp only [runD_at, entryS_at, slF_t, slF_f, slD_int, slD_str, slD_bl, slD_lst, List.zipWith_cons_cons, List.zipWith_nil_left, List.map, List.length, sSeq_at, sNil_at, sRet_at, sRetN_at, sRetNone_at, sIf_at, sSet_at, sSetN_at, sExpr_at, sPar_at, sTgt_at, sMut_at, sPut_at, sFor_at, sRaise_at, sTry_at, atT_at, Rho.set_mk, gN_at, forL_nil, forL_cons, outR_rt, outR_nx, outR_ex, isLst_int, isLst_bl, isLst_tup, ckFlat_int, ckFlat_bl, e1_at, e2_at, e3c_at, cD_at, aNil_at, aCons_at, eTup_at, eLst_at, toL_at, vS_at, vB_at, eAnd_at, eOr_at, eNot_at, vAnd_at, vOr_at, vNot_at, eIf_at, eSl_at, asBl_bl, asInt_int, asLst_lst, addD_int, addI_int, subD_int, negD_int, ltB_int, leB_int, gtB_int, geB_int, eqB_int, neB_int, eqB_str, neB_str, intK_int, absN, lenK_lst, lenK_tup, ixD_tup0, ixD_tup1, ixD_tup2, ixD_lst0, ixD_lst1, ixD_lst2, ixD_lst3, Res.bind_ok, Res.bind_exc, Res.bind_stuck, andThen_ok, andThen_exc, andS_nx, andS_rt, andS_ex, andS_bk, andS_ct, loopO_nx, loopO_ct, loopO_bk, loopO_rt, loopO_ex, List.getElem?_cons_zero, List.getElem?_cons_succ, List.set_cons_zero, List.set_cons_succ, List.length_cons, List.length_nil, List.replicate, List.append_nil, List.nil_append, List.cons_append, Nat.zero_add, Nat.reduceAdd, Nat.reduceSub, Nat.reduceEqDiff, Nat.reduceLT, Bool.and_true, Bool.true_and, Bool.and_false, Bool.false_and, Bool.not_true, Bool.not_false, Bool.false_eq_true, decide_true, decide_false, decide_eq_true_eq, ite_true, ite_false, if_true, if_false, Bool.and_self, Bool.not_not, and_self, and_true, true_and, not_true_eq_false, not_false_eq_true, ckLen_ok, Nat.reduceLeDiff, fld_name, fld_first, fld_second, fld_needs, tn0, tn1, tn2, onC_dD, onCI_dD, cf_str, cf_tn, ↓eMk_at, dD_fold, frz_at, asStr_str, eJoin_at, ↓eFs_at, catP_nil, empty_app, isLst_str, isLst_dD, isLst_non, nc0, nc1, nc2, nc3, nc4, nc5, nc6, nc7, nc8, nc9, nc10, nc11, nc12, Int.reduceEq, Int.reduceLT, Int.reduceLE, Int.reduceNeg, ok1_ok, wipeR_nil, wipeR_cons, ki_names, ki_present, ki_dishes, ki_longest, onC_ki, onCI_ki, isLst_ki, slLst_hi, slLst_lo, slTup_hi, slTup_lo, tg, fb_Kitchen_place_of_0, show (z = t) = True from eq_true e, reduceIte]
        rfl
      · have hm' : t ∈ zs := by
          rcases List.mem_cons.mp hm with q | q
          · exact absurd q.symm e
          · exact q
        obtain ⟨ρ', e2⟩ := ih (k + 1) (.sh (.int (k : Nat))) (.sh (.str z)) hm'
        refine ⟨ρ', ?_⟩
        have p : plc t (z :: zs) = plc t zs + 1 := if_neg e
        rw [p, show k + (plc t zs + 1) = k + 1 + plc t zs from by omega]
        simp only [runD_at, entryS_at, slF_t, slF_f, slD_int, slD_str, slD_bl, slD_lst, List.zipWith_cons_cons, List.zipWith_nil_left, List.map, List.length, sSeq_at, sNil_at, sRet_at, sRetN_at, sRetNone_at, sIf_at, sSet_at, sSetN_at, sExpr_at, sPar_at, sTgt_at, sMut_at, sPut_at, sFor_at, sRaise_at, sTry_at, atT_at, Rho.set_mk, gN_at, forL_nil, forL_cons, outR_rt, outR_nx, outR_ex, isLst_int, isLst_bl, isLst_tup, ckFlat_int, ckFlat_bl, e1_at, e2_at, e3c_at, cD_at, aNil_at, aCons_at, eTup_at, eLst_at, toL_at, vS_at, vB_at, eAnd_at, eOr_at, eNot_at, vAnd_at, vOr_at, vNot_at, eIf_at, eSl_at, asBl_bl, asInt_int, asLst_lst, addD_int, addI_int, subD_int, negD_int, ltB_int, leB_int, gtB_int, geB_int, eqB_int, neB_int, eqB_str, neB_str, intK_int, absN, lenK_lst, lenK_tup, ixD_tup0, ixD_tup1, ixD_tup2, ixD_lst0, ixD_lst1, ixD_lst2, ixD_lst3, Res.bind_ok, Res.bind_exc, Res.bind_stuck, andThen_ok, andThen_exc, andS_nx, andS_rt, andS_ex, andS_bk, andS_ct, loopO_nx, loopO_ct, loopO_bk, loopO_rt, loopO_ex, List.getElem?_cons_zero, List.getElem?_cons_succ, List.set_cons_zero, List.set_cons_succ, List.length_cons, List.length_nil, List.replicate, List.append_nil, List.nil_append, List.cons_append, Nat.zero_add, Nat.reduceAdd, Nat.reduceSub, Nat.reduceEqDiff, Nat.reduceLT, Bool.and_true, Bool.true_and, Bool.and_false, Bool.false_and, Bool.not_true, Bool.not_false, Bool.false_eq_true, decide_true, decide_false, decide_eq_true_eq, ite_true, ite_false, if_true, if_false, Bool.and_self, Bool.not_not, and_self, and_true, true_and, not_true_eq_false, not_false_eq_true, ckLen_ok, Nat.reduceLeDiff, fld_name, fld_first, fld_second, fld_needs, tn0, tn1, tn2, onC_dD, onCI_dD, cf_str, cf_tn, ↓eMk_at, dD_fold, frz_at, asStr_str, eJoin_at, ↓eFs_at, catP_nil, empty_app, isLst_str, isLst_dD, isLst_non, nc0, nc1, nc2, nc3, nc4, nc5, nc6, nc7, nc8, nc9, nc10, nc11, nc12, Int.reduceEq, Int.reduceLT, Int.reduceLE, Int.reduceNeg, ok1_ok, wipeR_nil, wipeR_cons, ki_names, ki_present, ki_dishes, ki_longest, onC_ki, onCI_ki, isLst_ki, slLst_hi, slLst_lo, slTup_hi, slTup_lo, tg, fb_Kitchen_place_of_0, e, reduceIte]
        exact e2
  obtain ⟨ρ', e⟩ := lp names 0 .no .no ht
  rw [Nat.zero_add] at e
  simp only [runD_at, entryS_at, slF_t, slF_f, slD_int, slD_str, slD_bl, slD_lst, List.zipWith_cons_cons, List.zipWith_nil_left, List.map, List.length, sSeq_at, sNil_at, sRet_at, sRetN_at, sRetNone_at, sIf_at, sSet_at, sSetN_at, sExpr_at, sPar_at, sTgt_at, sMut_at, sPut_at, sFor_at, sRaise_at, sTry_at, atT_at, Rho.set_mk, gN_at, forL_nil, forL_cons, outR_rt, outR_nx, outR_ex, isLst_int, isLst_bl, isLst_tup, ckFlat_int, ckFlat_bl, e1_at, e2_at, e3c_at, cD_at, aNil_at, aCons_at, eTup_at, eLst_at, toL_at, vS_at, vB_at, eAnd_at, eOr_at, eNot_at, vAnd_at, vOr_at, vNot_at, eIf_at, eSl_at, asBl_bl, asInt_int, asLst_lst, addD_int, addI_int, subD_int, negD_int, ltB_int, leB_int, gtB_int, geB_int, eqB_int, neB_int, eqB_str, neB_str, intK_int, absN, lenK_lst, lenK_tup, ixD_tup0, ixD_tup1, ixD_tup2, ixD_lst0, ixD_lst1, ixD_lst2, ixD_lst3, Res.bind_ok, Res.bind_exc, Res.bind_stuck, andThen_ok, andThen_exc, andS_nx, andS_rt, andS_ex, andS_bk, andS_ct, loopO_nx, loopO_ct, loopO_bk, loopO_rt, loopO_ex, List.getElem?_cons_zero, List.getElem?_cons_succ, List.set_cons_zero, List.set_cons_succ, List.length_cons, List.length_nil, List.replicate, List.append_nil, List.nil_append, List.cons_append, Nat.zero_add, Nat.reduceAdd, Nat.reduceSub, Nat.reduceEqDiff, Nat.reduceLT, Bool.and_true, Bool.true_and, Bool.and_false, Bool.false_and, Bool.not_true, Bool.not_false, Bool.false_eq_true, decide_true, decide_false, decide_eq_true_eq, ite_true, ite_false, if_true, if_false, Bool.and_self, Bool.not_not, and_self, and_true, true_and, not_true_eq_false, not_false_eq_true, ckLen_ok, Nat.reduceLeDiff, fld_name, fld_first, fld_second, fld_needs, tn0, tn1, tn2, onC_dD, onCI_dD, cf_str, cf_tn, ↓eMk_at, dD_fold, frz_at, asStr_str, eJoin_at, ↓eFs_at, catP_nil, empty_app, isLst_str, isLst_dD, isLst_non, nc0, nc1, nc2, nc3, nc4, nc5, nc6, nc7, nc8, nc9, nc10, nc11, nc12, Int.reduceEq, Int.reduceLT, Int.reduceLE, Int.reduceNeg, ok1_ok, wipeR_nil, wipeR_cons, ki_names, ki_present, ki_dishes, ki_longest, onC_ki, onCI_ki, isLst_ki, slLst_hi, slLst_lo, slTup_hi, slTup_lo, show enumK [.tup (names.map .str)] = .ok (enumD 0 (names.map .str)) from rfl, e, reduceIte]
theorem eqF_str (a b : Str) : eqF (.str a) (.str b) = (a == b) := rfl
theorem in_strs (z : Str) (zs : List Str) : inSeqB (.str z) (.lst (zs.map .str)) = .ok (decide (z ∈ zs)) := by
  have e : (zs.map D.str).all (sameK (.str z)) = true ∧ sameK (.str z) (.str z) = true := by
    refine ⟨?_, rfl⟩
    rw [List.all_eq_true]
    intro d hd
    obtain ⟨y, _, rfl⟩ := List.mem_map.mp hd
    rfl
  show (if (zs.map D.str).all (sameK (.str z)) = true ∧ sameK (.str z) (.str z) = true then Res.ok ((zs.map D.str).any fun y => eqF y (.str z)) else .stuck) = _
  rw [if_pos e]
  congr 1
  rw [List.any_map, Bool.eq_iff_iff, List.any_eq_true, decide_eq_true_eq]
  constructor
  · rintro ⟨x, hx, e⟩
    have : x = z := by simpa [eqF] using e
    rw [← this]; exact hx
  · intro h
    exact ⟨z, h, by simp [eqF]⟩
def isPl : Sl → Bool
  | .no => true | .sh _ => true | _ => false
/-- a tool with its number -/
def tk2 (p : Str × Int) : D := .tup [.str p.1, .int p.2]
theorem fldU_at {c : Addr} {f : Str} {fe : Rho → Res D} {fn : List Str} {ds : List D} {r : List Sl} {S : Option (List Ce)} {d : D} (e : fe ⟨.oi c fn ds :: r, S⟩ = .ok d) (h1 : fn.contains f = true) (h2 : fn.length < 1000) :
    sFldU c 0 f fe ⟨.oi c fn ds :: r, S⟩ = .nx ⟨.oi c fn (setF f d fn ds) :: r, S⟩ := by
  unfold sFldU
  rw [e, andThen_ok]
  show (if c = c ∧ fn.contains f = true ∧ fn.length < 1000 then Out.nx ⟨.oi c fn (setF f d fn ds) :: r, S⟩ else .stuck) = _
  rw [if_pos ⟨rfl, h1, h2⟩]
abbrev kfn : List Str := ["names", "present", "dishes", "longest"]
theorem kinit_ok (ci cu cd ck : Addr) {names : List Str} {nums : List Int} {menu : List Mn} (K : KOk names nums menu) :
    F_Kitchen__init ci cu cd ck [.lst ((names.zip nums).map tk2), .lst (menu.map (mnI cd))] = .ok [.tup (names.map .str), .tup (nums.map .int), .tup (menu.map (mnI cd)), .int (hz menu)] := by
  unfold F_Kitchen__init runMk den_Kitchen__init
  have en : entryM [true, true] 10 ck [.lst ((names.zip nums).map tk2), .lst (menu.map (mnI cd))] = ⟨[.oi ck [] [], .sh (.lst ((names.zip nums).map tk2)), .sh (.lst (menu.map (mnI cd))), .no, .no, .no, .no, .no, .no, .no], none⟩ := rfl
  rw [en]
  obtain ⟨T, hT⟩ : ∃ T, D.lst ((names.zip nums).map tk2) = T := ⟨_, rfl⟩
  obtain ⟨M, hM⟩ : ∃ M, D.lst (menu.map (mnI cd)) = M := ⟨_, rfl⟩
  -- the tools
  have lp1 : ∀ (ps : List (Str × Int)) (acc : List Str) (s4 s5 : Sl), acc.length + ps.length ≤ 99 → (acc ++ ps.map (·.1)).Nodup → (∀ p ∈ ps, NameOk p.1 ∧ 0 ≤ p.2) → isPl s4 = true → isPl s5 = true → ∃ t4 t5 : Sl, isPl t4 = true ∧ isPl t5 = true ∧
      forL (atT (gT 2 (gsC (gN 4) (gsC (gN 5) gsN))) (fb_Kitchen__init_2 ci cu cd ck)) (ps.map tk2) ⟨[.oi ck [] [], .sh T, .sh M, .ow (acc.map .str), s4, s5, .no, .no, .no, .no], none⟩ = .nx ⟨[.oi ck [] [], .sh T, .sh M, .ow ((acc ++ ps.map (·.1)).map .str), t4, t5, .no, .no, .no, .no], none⟩ := by
    intro ps
    induction ps with
    | nil => exact fun acc s4 s5 _ _ _ h4 h5 => ⟨s4, s5, h4, h5, by simp [forL]⟩
    | cons p ps ih =>
      intro acc s4 s5 hl hn hp _ _
      rw [List.length_cons] at hl
      obtain ⟨h1, h2⟩ := hp p List.mem_cons_self
      have hni : ¬ (p.1 ∈ acc) := fun hm => by
        rw [List.map_cons] at hn
        exact (List.nodup_append.mp hn).2.2 p.1 hm p.1 List.mem_cons_self rfl
      have hn' : (acc ++ [p.1] ++ ps.map (·.1)).Nodup := by rw [List.append_assoc]; exact hn
      obtain ⟨t4, t5, g4, g5, e⟩ := ih (acc ++ [p.1]) (.sh (.str p.1)) (.sh (.int p.2)) (by rw [List.length_append]; simp; omega) hn' (fun q hq => hp q (List.mem_cons_of_mem _ hq)) rfl rfl
      refine ⟨t4, t5, g4, g5, ?_⟩
      have tg : gT 2 (gsC (gN 4) (gsC (gN 5) gsN)) (tk2 p) ⟨[.oi ck [] [], .sh T, .sh M, .ow (acc.map .str), s4, s5, .no, .no, .no, .no], none⟩ = some ⟨[.oi ck [] [], .sh T, .sh M, .ow (acc.map .str), .sh (.str p.1), .sh (.int p.2), .no, .no, .no, .no], none⟩ := rfl
      have ap : appK (acc.map .str) [.str p.1] = .ok ((acc ++ [p.1]).map .str) := by
        rw [Dv.app_ok (by rw [List.length_map]; omega), List.map_append]; rfl
      rw [List.map_cons, forL_cons]
      simp only [runD_at, entryS_at, slF_t, slF_f, slD_int, slD_str, slD_bl, slD_lst, List.zipWith_cons_cons, List.zipWith_nil_left, List.map, List.length, sSeq_at, sNil_at, sRet_at, sRetN_at, sRetNone_at, sIf_at, sSet_at, sSetN_at, sExpr_at, sPar_at, sTgt_at, sMut_at, sPut_at, sFor_at, sRaise_at, sTry_at, atT_at, Rho.set_mk, gN_at, forL_nil, forL_cons, outR_rt, outR_nx, outR_ex, isLst_int, isLst_bl, isLst_tup, ckFlat_int, ckFlat_bl, e1_at, e2_at, e3c_at, cD_at, aNil_at, aCons_at, eTup_at, eLst_at, toL_at, vS_at, vB_at, eAnd_at, eOr_at, eNot_at, vAnd_at, vOr_at, vNot_at, eIf_at, eSl_at, asBl_bl, asInt_int, asLst_lst, addD_int, addI_int, subD_int, negD_int, ltB_int, leB_int, gtB_int, geB_int, eqB_int, neB_int, eqB_str, neB_str, intK_int, absN, lenK_lst, lenK_tup, ixD_tup0, ixD_tup1, ixD_tup2, ixD_lst0, ixD_lst1, ixD_lst2, ixD_lst3, Res.bind_ok, Res.bind_exc, Res.bind_stuck, andThen_ok, andThen_exc, andS_nx, andS_rt, andS_ex, andS_bk, andS_ct, loopO_nx, loopO_ct, loopO_bk, loopO_rt, loopO_ex, List.getElem?_cons_zero, List.getElem?_cons_succ, List.set_cons_zero, List.set_cons_succ, List.length_cons, List.length_nil, List.replicate, List.append_nil, List.nil_append, List.cons_append, Nat.zero_add, Nat.reduceAdd, Nat.reduceSub, Nat.reduceEqDiff, Nat.reduceLT, Bool.and_true, Bool.true_and, Bool.and_false, Bool.false_and, Bool.not_true, Bool.not_false, Bool.false_eq_true, decide_true, decide_false, decide_eq_true_eq, ite_true, ite_false, if_true, if_false, Bool.and_self, Bool.not_not, and_self, and_true, true_and, not_true_eq_false, not_false_eq_true, ckLen_ok, Nat.reduceLeDiff, fld_name, fld_first, fld_second, fld_needs, tn0, tn1, tn2, onC_dD, onCI_dD, cf_str, cf_tn, ↓eMk_at, dD_fold, frz_at, asStr_str, eJoin_at, ↓eFs_at, catP_nil, empty_app, isLst_str, isLst_dD, isLst_non, nc0, nc1, nc2, nc3, nc4, nc5, nc6, nc7, nc8, nc9, nc10, nc11, nc12, Int.reduceEq, Int.reduceLT, Int.reduceLE, Int.reduceNeg, ok1_ok, wipeR_nil, wipeR_cons, ki_names, ki_present, ki_dishes, ki_longest, onC_ki, onCI_ki, isLst_ki, slLst_hi, slLst_lo, slTup_hi, slTup_lo, tg, fb_Kitchen__init_2, is_name_ok h1, in_strs, hni, show (p.2 < 0) = False from eq_false (by omega), ap, reduceIte]
      rw [List.append_assoc] at e
      exact e
  have zl : (names.zip nums).map (·.1) = names := List.map_fst_zip (by rw [K.kl]; exact Nat.le_refl _)
  have zr : (names.zip nums).map (·.2) = nums := List.map_snd_zip (by rw [K.kl]; exact Nat.le_refl _)
  have zn : (names.zip nums).length = names.length := by rw [List.length_zip, K.kl, Nat.min_self]
  have kn := K.nl
  have kl := K.kl
  obtain ⟨t4, t5, g4, g5, e1⟩ := lp1 (names.zip nums) [] .no .no (by simp only [List.length_nil]; omega) (by rw [zl]; exact K.nd) (fun p hp => ⟨K.no _ (List.of_mem_zip hp).1, K.k0 _ (List.of_mem_zip hp).2⟩) rfl rfl
  rw [zl, List.nil_append] at e1
  -- the dishes
  have lp2 : ∀ (l : List Nd) (h : Int) (s6 s7 s8 s9 : Sl), (∀ n ∈ l, n.2.1 ∈ names) → ∃ (t7 t8 t9 : Sl),
      forL (atT (gT 3 (gsC (gN 7) (gsC (gN 8) (gsC (gN 9) gsN)))) (fb_Kitchen__init_1 ci cu cd ck)) (l.map tn) ⟨[.oi ck kfn [.tup (names.map .str), .tup (nums.map .int), .tup (menu.map (mnI cd)), .int h], .sh T, .sh M, .ow (names.map .str), t4, t5, s6, s7, s8, s9], none⟩ =
        .nx ⟨[.oi ck kfn [.tup (names.map .str), .tup (nums.map .int), .tup (menu.map (mnI cd)), .int (hzN h l)], .sh T, .sh M, .ow (names.map .str), t4, t5, s6, t7, t8, t9], none⟩ := by
    intro l
    induction l with
    | nil => exact fun h s6 s7 s8 s9 _ => ⟨s7, s8, s9, rfl⟩
    | cons n l ih =>
      intro h s6 s7 s8 s9 hn
      obtain ⟨t7, t8, t9, e⟩ := ih (if h > n.1 + 1 then h else n.1 + 1) s6 (.sh (.int n.1)) (.sh (.str n.2.1)) (.sh (.int n.2.2)) fun m hm => hn m (List.mem_cons_of_mem _ hm)
      refine ⟨t7, t8, t9, ?_⟩
      have tg : gT 3 (gsC (gN 7) (gsC (gN 8) (gsC (gN 9) gsN))) (tn n) ⟨[.oi ck kfn [.tup (names.map .str), .tup (nums.map .int), .tup (menu.map (mnI cd)), .int h], .sh T, .sh M, .ow (names.map .str), t4, t5, s6, s7, s8, s9], none⟩ = some ⟨[.oi ck kfn [.tup (names.map .str), .tup (nums.map .int), .tup (menu.map (mnI cd)), .int h], .sh T, .sh M, .ow (names.map .str), t4, t5, s6, .sh (.int n.1), .sh (.str n.2.1), .sh (.int n.2.2)], none⟩ := rfl
      have pl : F_Kitchen_place_of cu ck [.ins ck kfn [.tup (names.map .str), .tup (nums.map .int), .tup (menu.map (mnI cd)), .int h], .str n.2.1] = .ok (.int (plc n.2.1 names : Nat)) := place_ok cu ck cd (hn n List.mem_cons_self)
      have ms : eMethS ck "place_of" (F_Kitchen_place_of cu ck) 0 (aCons (vS 8) aNil) ⟨[.oi ck kfn [.tup (names.map .str), .tup (nums.map .int), .tup (menu.map (mnI cd)), .int h], .sh T, .sh M, .ow (names.map .str), t4, t5, s6, .sh (.int n.1), .sh (.str n.2.1), .sh (.int n.2.2)], none⟩ = .ok (.int (plc n.2.1 names : Nat)) := by
        show (if ck = ck ∧ kfn.contains "place_of" = false then (aCons (vS 8) aNil _).bind fun ds => plainR (F_Kitchen_place_of cu ck (_ :: ds)) else .stuck) = _
        rw [if_pos ⟨rfl, by decide +kernel⟩]
        simp only [runD_at, entryS_at, slF_t, slF_f, slD_int, slD_str, slD_bl, slD_lst, List.zipWith_cons_cons, List.zipWith_nil_left, List.map, List.length, sSeq_at, sNil_at, sRet_at, sRetN_at, sRetNone_at, sIf_at, sSet_at, sSetN_at, sExpr_at, sPar_at, sTgt_at, sMut_at, sPut_at, sFor_at, sRaise_at, sTry_at, atT_at, Rho.set_mk, gN_at, forL_nil, forL_cons, outR_rt, outR_nx, outR_ex, isLst_int, isLst_bl, isLst_tup, ckFlat_int, ckFlat_bl, e1_at, e2_at, e3c_at, cD_at, aNil_at, aCons_at, eTup_at, eLst_at, toL_at, vS_at, vB_at, eAnd_at, eOr_at, eNot_at, vAnd_at, vOr_at, vNot_at, eIf_at, eSl_at, asBl_bl, asInt_int, asLst_lst, addD_int, addI_int, subD_int, negD_int, ltB_int, leB_int, gtB_int, geB_int, eqB_int, neB_int, eqB_str, neB_str, intK_int, absN, lenK_lst, lenK_tup, ixD_tup0, ixD_tup1, ixD_tup2, ixD_lst0, ixD_lst1, ixD_lst2, ixD_lst3, Res.bind_ok, Res.bind_exc, Res.bind_stuck, andThen_ok, andThen_exc, andS_nx, andS_rt, andS_ex, andS_bk, andS_ct, loopO_nx, loopO_ct, loopO_bk, loopO_rt, loopO_ex, List.getElem?_cons_zero, List.getElem?_cons_succ, List.set_cons_zero, List.set_cons_succ, List.length_cons, List.length_nil, List.replicate, List.append_nil, List.nil_append, List.cons_append, Nat.zero_add, Nat.reduceAdd, Nat.reduceSub, Nat.reduceEqDiff, Nat.reduceLT, Bool.and_true, Bool.true_and, Bool.and_false, Bool.false_and, Bool.not_true, Bool.not_false, Bool.false_eq_true, decide_true, decide_false, decide_eq_true_eq, ite_true, ite_false, if_true, if_false, Bool.and_self, Bool.not_not, and_self, and_true, true_and, not_true_eq_false, not_false_eq_true, ckLen_ok, Nat.reduceLeDiff, fld_name, fld_first, fld_second, fld_needs, tn0, tn1, tn2, onC_dD, onCI_dD, cf_str, cf_tn, ↓eMk_at, dD_fold, frz_at, asStr_str, eJoin_at, ↓eFs_at, catP_nil, empty_app, isLst_str, isLst_dD, isLst_non, nc0, nc1, nc2, nc3, nc4, nc5, nc6, nc7, nc8, nc9, nc10, nc11, nc12, Int.reduceEq, Int.reduceLT, Int.reduceLE, Int.reduceNeg, ok1_ok, wipeR_nil, wipeR_cons, ki_names, ki_present, ki_dishes, ki_longest, onC_ki, onCI_ki, isLst_ki, slLst_hi, slLst_lo, slTup_hi, slTup_lo, pl, reduceIte]
        rfl
      have mx : maxK [.int (n.1 + 1), .int h] = .ok (.int (if h > n.1 + 1 then h else n.1 + 1)) := rfl
      have sf : selfF ck 0 "longest" ⟨[.oi ck kfn [.tup (names.map .str), .tup (nums.map .int), .tup (menu.map (mnI cd)), .int h], .sh T, .sh M, .ow (names.map .str), t4, t5, s6, .sh (.int n.1), .sh (.str n.2.1), .sh (.int n.2.2)], none⟩ = .ok (.int h) := by
        show (if ck = ck then _ else _) = _
        rw [if_pos rfl]
        rfl
      have fu := fldU_at (c := ck) (f := "longest") (fe := Dv.e1 (aCons (e2 (Dv.e1 (aCons (vB 7) aNil) intK) (cD (.int 1)) addI) (aCons (Dv.e1 (aCons (selfF ck 0 "longest") aNil) intK) aNil)) maxK) (fn := kfn) (ds := [.tup (names.map .str), .tup (nums.map .int), .tup (menu.map (mnI cd)), .int h])
        (r := [.sh T, .sh M, .ow (names.map .str), t4, t5, s6, .sh (.int n.1), .sh (.str n.2.1), .sh (.int n.2.2)]) (S := none) (d := .int (if h > n.1 + 1 then h else n.1 + 1)) (by simp only [runD_at, entryS_at, slF_t, slF_f, slD_int, slD_str, slD_bl, slD_lst, List.zipWith_cons_cons, List.zipWith_nil_left, List.map, List.length, sSeq_at, sNil_at, sRet_at, sRetN_at, sRetNone_at, sIf_at, sSet_at, sSetN_at, sExpr_at, sPar_at, sTgt_at, sMut_at, sPut_at, sFor_at, sRaise_at, sTry_at, atT_at, Rho.set_mk, gN_at, forL_nil, forL_cons, outR_rt, outR_nx, outR_ex, isLst_int, isLst_bl, isLst_tup, ckFlat_int, ckFlat_bl, e1_at, e2_at, e3c_at, cD_at, aNil_at, aCons_at, eTup_at, eLst_at, toL_at, vS_at, vB_at, eAnd_at, eOr_at, eNot_at, vAnd_at, vOr_at, vNot_at, eIf_at, eSl_at, asBl_bl, asInt_int, asLst_lst, addD_int, addI_int, subD_int, negD_int, ltB_int, leB_int, gtB_int, geB_int, eqB_int, neB_int, eqB_str, neB_str, intK_int, absN, lenK_lst, lenK_tup, ixD_tup0, ixD_tup1, ixD_tup2, ixD_lst0, ixD_lst1, ixD_lst2, ixD_lst3, Res.bind_ok, Res.bind_exc, Res.bind_stuck, andThen_ok, andThen_exc, andS_nx, andS_rt, andS_ex, andS_bk, andS_ct, loopO_nx, loopO_ct, loopO_bk, loopO_rt, loopO_ex, List.getElem?_cons_zero, List.getElem?_cons_succ, List.set_cons_zero, List.set_cons_succ, List.length_cons, List.length_nil, List.replicate, List.append_nil, List.nil_append, List.cons_append, Nat.zero_add, Nat.reduceAdd, Nat.reduceSub, Nat.reduceEqDiff, Nat.reduceLT, Bool.and_true, Bool.true_and, Bool.and_false, Bool.false_and, Bool.not_true, Bool.not_false, Bool.false_eq_true, decide_true, decide_false, decide_eq_true_eq, ite_true, ite_false, if_true, if_false, Bool.and_self, Bool.not_not, and_self, and_true, true_and, not_true_eq_false, not_false_eq_true, ckLen_ok, Nat.reduceLeDiff, fld_name, fld_first, fld_second, fld_needs, tn0, tn1, tn2, onC_dD, onCI_dD, cf_str, cf_tn, ↓eMk_at, dD_fold, frz_at, asStr_str, eJoin_at, ↓eFs_at, catP_nil, empty_app, isLst_str, isLst_dD, isLst_non, nc0, nc1, nc2, nc3, nc4, nc5, nc6, nc7, nc8, nc9, nc10, nc11, nc12, Int.reduceEq, Int.reduceLT, Int.reduceLE, Int.reduceNeg, ok1_ok, wipeR_nil, wipeR_cons, ki_names, ki_present, ki_dishes, ki_longest, onC_ki, onCI_ki, isLst_ki, slLst_hi, slLst_lo, slTup_hi, slTup_lo, sf, mx, reduceIte]) (by decide +kernel) (by decide)
      rw [List.map_cons, forL_cons]
      have one : atT (gT 3 (gsC (gN 7) (gsC (gN 8) (gsC (gN 9) gsN)))) (fb_Kitchen__init_1 ci cu cd ck) (tn n) ⟨[.oi ck kfn [.tup (names.map .str), .tup (nums.map .int), .tup (menu.map (mnI cd)), .int h], .sh T, .sh M, .ow (names.map .str), t4, t5, s6, s7, s8, s9], none⟩ =
          .nx ⟨[.oi ck kfn [.tup (names.map .str), .tup (nums.map .int), .tup (menu.map (mnI cd)), .int (if h > n.1 + 1 then h else n.1 + 1)], .sh T, .sh M, .ow (names.map .str), t4, t5, s6, .sh (.int n.1), .sh (.str n.2.1), .sh (.int n.2.2)], none⟩ := by
        unfold Dv.atT
        rw [tg]
        unfold fb_Kitchen__init_1
        refine seq_and (by
          rw [sExpr_at, ms]
          rfl) ?_
        exact fu
      rw [one, loopO_nx]
      exact e
  have lp3 : ∀ (ms : List Mn) (h : Int) (s6 s7 s8 s9 : Sl), (∀ m ∈ ms, ∀ n ∈ m.l, n.2.1 ∈ names) → ∃ (t6 t7 t8 t9 : Sl),
      forL (atT (gN 6) (fb_Kitchen__init_0 ci cu cd ck)) (ms.map (mnI cd)) ⟨[.oi ck kfn [.tup (names.map .str), .tup (nums.map .int), .tup (menu.map (mnI cd)), .int h], .sh T, .sh M, .ow (names.map .str), t4, t5, s6, s7, s8, s9], none⟩ =
        .nx ⟨[.oi ck kfn [.tup (names.map .str), .tup (nums.map .int), .tup (menu.map (mnI cd)), .int (ms.foldl (fun h m => hzN h m.l) h)], .sh T, .sh M, .ow (names.map .str), t4, t5, t6, t7, t8, t9], none⟩ := by
    intro ms
    induction ms with
    | nil => exact fun h s6 s7 s8 s9 _ => ⟨s6, s7, s8, s9, rfl⟩
    | cons m ms ih =>
      intro h s6 s7 s8 s9 hm
      obtain ⟨a7, a8, a9, e2⟩ := lp2 m.l h (.sh (mnI cd m)) s7 s8 s9 (hm m List.mem_cons_self)
      obtain ⟨t6, t7, t8, t9, e⟩ := ih (hzN h m.l) (.sh (mnI cd m)) a7 a8 a9 fun x hx => hm x (List.mem_cons_of_mem _ hx)
      refine ⟨t6, t7, t8, t9, ?_⟩
      rw [List.map_cons, forL_cons]
      have fn' : fldD cd "needs" (mnI cd m) = .ok (.tup (m.l.map tn)) := fld_needs ..
      simp only [runD_at, entryS_at, slF_t, slF_f, slD_int, slD_str, slD_bl, slD_lst, List.zipWith_cons_cons, List.zipWith_nil_left, List.map, List.length, sSeq_at, sNil_at, sRet_at, sRetN_at, sRetNone_at, sIf_at, sSet_at, sSetN_at, sExpr_at, sPar_at, sTgt_at, sMut_at, sPut_at, sFor_at, sRaise_at, sTry_at, atT_at, Rho.set_mk, gN_at, forL_nil, forL_cons, outR_rt, outR_nx, outR_ex, isLst_int, isLst_bl, isLst_tup, ckFlat_int, ckFlat_bl, e1_at, e2_at, e3c_at, cD_at, aNil_at, aCons_at, eTup_at, eLst_at, toL_at, vS_at, vB_at, eAnd_at, eOr_at, eNot_at, vAnd_at, vOr_at, vNot_at, eIf_at, eSl_at, asBl_bl, asInt_int, asLst_lst, addD_int, addI_int, subD_int, negD_int, ltB_int, leB_int, gtB_int, geB_int, eqB_int, neB_int, eqB_str, neB_str, intK_int, absN, lenK_lst, lenK_tup, ixD_tup0, ixD_tup1, ixD_tup2, ixD_lst0, ixD_lst1, ixD_lst2, ixD_lst3, Res.bind_ok, Res.bind_exc, Res.bind_stuck, andThen_ok, andThen_exc, andS_nx, andS_rt, andS_ex, andS_bk, andS_ct, loopO_nx, loopO_ct, loopO_bk, loopO_rt, loopO_ex, List.getElem?_cons_zero, List.getElem?_cons_succ, List.set_cons_zero, List.set_cons_succ, List.length_cons, List.length_nil, List.replicate, List.append_nil, List.nil_append, List.cons_append, Nat.zero_add, Nat.reduceAdd, Nat.reduceSub, Nat.reduceEqDiff, Nat.reduceLT, Bool.and_true, Bool.true_and, Bool.and_false, Bool.false_and, Bool.not_true, Bool.not_false, Bool.false_eq_true, decide_true, decide_false, decide_eq_true_eq, ite_true, ite_false, if_true, if_false, Bool.and_self, Bool.not_not, and_self, and_true, true_and, not_true_eq_false, not_false_eq_true, ckLen_ok, Nat.reduceLeDiff, fld_name, fld_first, fld_second, fld_needs, tn0, tn1, tn2, onC_dD, onCI_dD, cf_str, cf_tn, ↓eMk_at, dD_fold, frz_at, asStr_str, eJoin_at, ↓eFs_at, catP_nil, empty_app, isLst_str, isLst_dD, isLst_non, nc0, nc1, nc2, nc3, nc4, nc5, nc6, nc7, nc8, nc9, nc10, nc11, nc12, Int.reduceEq, Int.reduceLT, Int.reduceLE, Int.reduceNeg, ok1_ok, wipeR_nil, wipeR_cons, ki_names, ki_present, ki_dishes, ki_longest, onC_ki, onCI_ki, isLst_ki, slLst_hi, slLst_lo, slTup_hi, slTup_lo, fb_Kitchen__init_0, fn', show seqItems (.tup (m.l.map tn)) = .ok (m.l.map tn) from rfl, e2, reduceIte]
      exact e
  obtain ⟨t6, t7, t8, t9, e3⟩ := lp3 menu 1 .no .no .no .no fun m hm => (K.m m hm).t
  have bi : seqItems T = .ok ((names.zip nums).map tk2) := by rw [← hT]; rfl
  have lc : ∀ (fs : List D) (fn : List Str), eLc [4, 5] (Dv.e1 (vS 1) seqItems) (gT 2 (gsC (gN 4) (gsC (gN 5) gsN))) (l_Kitchen__init_0 ci cu cd ck) ⟨[.oi ck fn fs, .sh T, .sh M, .ow (names.map .str), t4, t5, .no, .no, .no, .no], none⟩ = .ok (nums.map .int) := fun fs fn => by
    refine (eLc_of (ds := (names.zip nums).map tk2) ?_ ?_ ?_ (mapL_gen (b := D.int) (g := fun p : Str × Int => p.2) fun p hp => ?_)).trans (by rw [zr])
    · cases t4 with
      | no => cases t5 with
        | no => rfl
        | sh _ => rfl
        | _ => cases g5
      | sh _ => cases t5 with
        | no => rfl
        | sh _ => rfl
        | _ => cases g5
      | _ => cases g4
    · simp only [runD_at, entryS_at, slF_t, slF_f, slD_int, slD_str, slD_bl, slD_lst, List.zipWith_cons_cons, List.zipWith_nil_left, List.map, List.length, sSeq_at, sNil_at, sRet_at, sRetN_at, sRetNone_at, sIf_at, sSet_at, sSetN_at, sExpr_at, sPar_at, sTgt_at, sMut_at, sPut_at, sFor_at, sRaise_at, sTry_at, atT_at, Rho.set_mk, gN_at, forL_nil, forL_cons, outR_rt, outR_nx, outR_ex, isLst_int, isLst_bl, isLst_tup, ckFlat_int, ckFlat_bl, e1_at, e2_at, e3c_at, cD_at, aNil_at, aCons_at, eTup_at, eLst_at, toL_at, vS_at, vB_at, eAnd_at, eOr_at, eNot_at, vAnd_at, vOr_at, vNot_at, eIf_at, eSl_at, asBl_bl, asInt_int, asLst_lst, addD_int, addI_int, subD_int, negD_int, ltB_int, leB_int, gtB_int, geB_int, eqB_int, neB_int, eqB_str, neB_str, intK_int, absN, lenK_lst, lenK_tup, ixD_tup0, ixD_tup1, ixD_tup2, ixD_lst0, ixD_lst1, ixD_lst2, ixD_lst3, Res.bind_ok, Res.bind_exc, Res.bind_stuck, andThen_ok, andThen_exc, andS_nx, andS_rt, andS_ex, andS_bk, andS_ct, loopO_nx, loopO_ct, loopO_bk, loopO_rt, loopO_ex, List.getElem?_cons_zero, List.getElem?_cons_succ, List.set_cons_zero, List.set_cons_succ, List.length_cons, List.length_nil, List.replicate, List.append_nil, List.nil_append, List.cons_append, Nat.zero_add, Nat.reduceAdd, Nat.reduceSub, Nat.reduceEqDiff, Nat.reduceLT, Bool.and_true, Bool.true_and, Bool.and_false, Bool.false_and, Bool.not_true, Bool.not_false, Bool.false_eq_true, decide_true, decide_false, decide_eq_true_eq, ite_true, ite_false, if_true, if_false, Bool.and_self, Bool.not_not, and_self, and_true, true_and, not_true_eq_false, not_false_eq_true, ckLen_ok, Nat.reduceLeDiff, fld_name, fld_first, fld_second, fld_needs, tn0, tn1, tn2, onC_dD, onCI_dD, cf_str, cf_tn, ↓eMk_at, dD_fold, frz_at, asStr_str, eJoin_at, ↓eFs_at, catP_nil, empty_app, isLst_str, isLst_dD, isLst_non, nc0, nc1, nc2, nc3, nc4, nc5, nc6, nc7, nc8, nc9, nc10, nc11, nc12, Int.reduceEq, Int.reduceLT, Int.reduceLE, Int.reduceNeg, ok1_ok, wipeR_nil, wipeR_cons, ki_names, ki_present, ki_dishes, ki_longest, onC_ki, onCI_ki, isLst_ki, slLst_hi, slLst_lo, slTup_hi, slTup_lo, bi, reduceIte]
    · rw [List.length_map, zn]; omega
    · rfl
  have tn1 : tupKF [.lst (names.map .str)] = .ok (.tup (names.map .str)) := if_pos (fl_str names)
  have tn2 : tupKF [.lst (nums.map .int)] = .ok (.tup (nums.map .int)) := if_pos (fl_int nums)
  have tn3 : tupKF [M] = .ok (.tup (menu.map (mnI cd))) := by rw [← hM]; exact if_pos (fl_mnI cd menu)
  have sd : selfF ck 0 "dishes" ⟨[.oi ck kfn [.tup (names.map .str), .tup (nums.map .int), .tup (menu.map (mnI cd)), .int 1], .sh T, .sh M, .ow (names.map .str), t4, t5, .no, .no, .no, .no], none⟩ = .ok (.tup (menu.map (mnI cd))) := by
    show (if ck = ck then _ else _) = _
    rw [if_pos rfl]
    rfl
  rw [hT, hM]
  have body : (sSeq (sSetN 3 (eLst aNil)) (sSeq (sFor (Dv.e1 (vS 1) seqItems) (gT 2 (gsC (gN 4) (gsC (gN 5) gsN))) (fb_Kitchen__init_2 ci cu cd ck)) (sSeq (sFldI ck 0 "names" (Dv.e1 (aCons (vB 3) aNil) tupKF)) (sSeq (sFldI ck 0 "present" (Dv.e1 (aCons (toL (eLc [4, 5] (Dv.e1 (vS 1) seqItems) (gT 2 (gsC (gN 4) (gsC (gN 5) gsN))) (l_Kitchen__init_0 ci cu cd ck))) aNil) tupKF)) (sSeq (sFldI ck 0 "dishes" (Dv.e1 (aCons (vB 2) aNil) tupKF)) (sSeq (sFldI ck 0 "longest" (cD (.int 1))) (sFor (Dv.e1 (selfF ck 0 "dishes") seqItems) (gN 6) (fb_Kitchen__init_0 ci cu cd ck))))))))
      ⟨[.oi ck [] [], .sh T, .sh M, .no, .no, .no, .no, .no, .no, .no], none⟩ = .nx ⟨[.oi ck kfn [.tup (names.map .str), .tup (nums.map .int), .tup (menu.map (mnI cd)), .int (hz menu)], .sh T, .sh M, .ow (names.map .str), t4, t5, t6, t7, t8, t9], none⟩ := by
    refine seq_and (by simp only [runD_at, entryS_at, slF_t, slF_f, slD_int, slD_str, slD_bl, slD_lst, List.zipWith_cons_cons, List.zipWith_nil_left, List.map, List.length, sSeq_at, sNil_at, sRet_at, sRetN_at, sRetNone_at, sIf_at, sSet_at, sSetN_at, sExpr_at, sPar_at, sTgt_at, sMut_at, sPut_at, sFor_at, sRaise_at, sTry_at, atT_at, Rho.set_mk, gN_at, forL_nil, forL_cons, outR_rt, outR_nx, outR_ex, isLst_int, isLst_bl, isLst_tup, ckFlat_int, ckFlat_bl, e1_at, e2_at, e3c_at, cD_at, aNil_at, aCons_at, eTup_at, eLst_at, toL_at, vS_at, vB_at, eAnd_at, eOr_at, eNot_at, vAnd_at, vOr_at, vNot_at, eIf_at, eSl_at, asBl_bl, asInt_int, asLst_lst, addD_int, addI_int, subD_int, negD_int, ltB_int, leB_int, gtB_int, geB_int, eqB_int, neB_int, eqB_str, neB_str, intK_int, absN, lenK_lst, lenK_tup, ixD_tup0, ixD_tup1, ixD_tup2, ixD_lst0, ixD_lst1, ixD_lst2, ixD_lst3, Res.bind_ok, Res.bind_exc, Res.bind_stuck, andThen_ok, andThen_exc, andS_nx, andS_rt, andS_ex, andS_bk, andS_ct, loopO_nx, loopO_ct, loopO_bk, loopO_rt, loopO_ex, List.getElem?_cons_zero, List.getElem?_cons_succ, List.set_cons_zero, List.set_cons_succ, List.length_cons, List.length_nil, List.replicate, List.append_nil, List.nil_append, List.cons_append, Nat.zero_add, Nat.reduceAdd, Nat.reduceSub, Nat.reduceEqDiff, Nat.reduceLT, Bool.and_true, Bool.true_and, Bool.and_false, Bool.false_and, Bool.not_true, Bool.not_false, Bool.false_eq_true, decide_true, decide_false, decide_eq_true_eq, ite_true, ite_false, if_true, if_false, Bool.and_self, Bool.not_not, and_self, and_true, true_and, not_true_eq_false, not_false_eq_true, ckLen_ok, Nat.reduceLeDiff, fld_name, fld_first, fld_second, fld_needs, tn0, tn1, tn2, onC_dD, onCI_dD, cf_str, cf_tn, ↓eMk_at, dD_fold, frz_at, asStr_str, eJoin_at, ↓eFs_at, catP_nil, empty_app, isLst_str, isLst_dD, isLst_non, nc0, nc1, nc2, nc3, nc4, nc5, nc6, nc7, nc8, nc9, nc10, nc11, nc12, Int.reduceEq, Int.reduceLT, Int.reduceLE, Int.reduceNeg, ok1_ok, wipeR_nil, wipeR_cons, ki_names, ki_present, ki_dishes, ki_longest, onC_ki, onCI_ki, isLst_ki, slLst_hi, slLst_lo, slTup_hi, slTup_lo, reduceIte] <;> (with_reducible exact rfl)) ?_
    refine seq_and (ρ' := ⟨[.oi ck [] [], .sh T, .sh M, .ow (names.map .str), t4, t5, .no, .no, .no, .no], none⟩) (by simp only [runD_at, entryS_at, slF_t, slF_f, slD_int, slD_str, slD_bl, slD_lst, List.zipWith_cons_cons, List.zipWith_nil_left, List.map, List.length, sSeq_at, sNil_at, sRet_at, sRetN_at, sRetNone_at, sIf_at, sSet_at, sSetN_at, sExpr_at, sPar_at, sTgt_at, sMut_at, sPut_at, sFor_at, sRaise_at, sTry_at, atT_at, Rho.set_mk, gN_at, forL_nil, forL_cons, outR_rt, outR_nx, outR_ex, isLst_int, isLst_bl, isLst_tup, ckFlat_int, ckFlat_bl, e1_at, e2_at, e3c_at, cD_at, aNil_at, aCons_at, eTup_at, eLst_at, toL_at, vS_at, vB_at, eAnd_at, eOr_at, eNot_at, vAnd_at, vOr_at, vNot_at, eIf_at, eSl_at, asBl_bl, asInt_int, asLst_lst, addD_int, addI_int, subD_int, negD_int, ltB_int, leB_int, gtB_int, geB_int, eqB_int, neB_int, eqB_str, neB_str, intK_int, absN, lenK_lst, lenK_tup, ixD_tup0, ixD_tup1, ixD_tup2, ixD_lst0, ixD_lst1, ixD_lst2, ixD_lst3, Res.bind_ok, Res.bind_exc, Res.bind_stuck, andThen_ok, andThen_exc, andS_nx, andS_rt, andS_ex, andS_bk, andS_ct, loopO_nx, loopO_ct, loopO_bk, loopO_rt, loopO_ex, List.getElem?_cons_zero, List.getElem?_cons_succ, List.set_cons_zero, List.set_cons_succ, List.length_cons, List.length_nil, List.replicate, List.append_nil, List.nil_append, List.cons_append, Nat.zero_add, Nat.reduceAdd, Nat.reduceSub, Nat.reduceEqDiff, Nat.reduceLT, Bool.and_true, Bool.true_and, Bool.and_false, Bool.false_and, Bool.not_true, Bool.not_false, Bool.false_eq_true, decide_true, decide_false, decide_eq_true_eq, ite_true, ite_false, if_true, if_false, Bool.and_self, Bool.not_not, and_self, and_true, true_and, not_true_eq_false, not_false_eq_true, ckLen_ok, Nat.reduceLeDiff, fld_name, fld_first, fld_second, fld_needs, tn0, tn1, tn2, onC_dD, onCI_dD, cf_str, cf_tn, ↓eMk_at, dD_fold, frz_at, asStr_str, eJoin_at, ↓eFs_at, catP_nil, empty_app, isLst_str, isLst_dD, isLst_non, nc0, nc1, nc2, nc3, nc4, nc5, nc6, nc7, nc8, nc9, nc10, nc11, nc12, Int.reduceEq, Int.reduceLT, Int.reduceLE, Int.reduceNeg, ok1_ok, wipeR_nil, wipeR_cons, ki_names, ki_present, ki_dishes, ki_longest, onC_ki, onCI_ki, isLst_ki, slLst_hi, slLst_lo, slTup_hi, slTup_lo, bi, reduceIte]; exact e1) ?_
    refine seq_and (fldI_at (d := .tup (names.map .str)) (by simp only [runD_at, entryS_at, slF_t, slF_f, slD_int, slD_str, slD_bl, slD_lst, List.zipWith_cons_cons, List.zipWith_nil_left, List.map, List.length, sSeq_at, sNil_at, sRet_at, sRetN_at, sRetNone_at, sIf_at, sSet_at, sSetN_at, sExpr_at, sPar_at, sTgt_at, sMut_at, sPut_at, sFor_at, sRaise_at, sTry_at, atT_at, Rho.set_mk, gN_at, forL_nil, forL_cons, outR_rt, outR_nx, outR_ex, isLst_int, isLst_bl, isLst_tup, ckFlat_int, ckFlat_bl, e1_at, e2_at, e3c_at, cD_at, aNil_at, aCons_at, eTup_at, eLst_at, toL_at, vS_at, vB_at, eAnd_at, eOr_at, eNot_at, vAnd_at, vOr_at, vNot_at, eIf_at, eSl_at, asBl_bl, asInt_int, asLst_lst, addD_int, addI_int, subD_int, negD_int, ltB_int, leB_int, gtB_int, geB_int, eqB_int, neB_int, eqB_str, neB_str, intK_int, absN, lenK_lst, lenK_tup, ixD_tup0, ixD_tup1, ixD_tup2, ixD_lst0, ixD_lst1, ixD_lst2, ixD_lst3, Res.bind_ok, Res.bind_exc, Res.bind_stuck, andThen_ok, andThen_exc, andS_nx, andS_rt, andS_ex, andS_bk, andS_ct, loopO_nx, loopO_ct, loopO_bk, loopO_rt, loopO_ex, List.getElem?_cons_zero, List.getElem?_cons_succ, List.set_cons_zero, List.set_cons_succ, List.length_cons, List.length_nil, List.replicate, List.append_nil, List.nil_append, List.cons_append, Nat.zero_add, Nat.reduceAdd, Nat.reduceSub, Nat.reduceEqDiff, Nat.reduceLT, Bool.and_true, Bool.true_and, Bool.and_false, Bool.false_and, Bool.not_true, Bool.not_false, Bool.false_eq_true, decide_true, decide_false, decide_eq_true_eq, ite_true, ite_false, if_true, if_false, Bool.and_self, Bool.not_not, and_self, and_true, true_and, not_true_eq_false, not_false_eq_true, ckLen_ok, Nat.reduceLeDiff, fld_name, fld_first, fld_second, fld_needs, tn0, tn1, tn2, onC_dD, onCI_dD, cf_str, cf_tn, ↓eMk_at, dD_fold, frz_at, asStr_str, eJoin_at, ↓eFs_at, catP_nil, empty_app, isLst_str, isLst_dD, isLst_non, nc0, nc1, nc2, nc3, nc4, nc5, nc6, nc7, nc8, nc9, nc10, nc11, nc12, Int.reduceEq, Int.reduceLT, Int.reduceLE, Int.reduceNeg, ok1_ok, wipeR_nil, wipeR_cons, ki_names, ki_present, ki_dishes, ki_longest, onC_ki, onCI_ki, isLst_ki, slLst_hi, slLst_lo, slTup_hi, slTup_lo, tn1, reduceIte]) rfl (by decide) rfl) ?_
    refine seq_and (fldI_at (d := .tup (nums.map .int)) (by simp only [runD_at, entryS_at, slF_t, slF_f, slD_int, slD_str, slD_bl, slD_lst, List.zipWith_cons_cons, List.zipWith_nil_left, List.map, List.length, sSeq_at, sNil_at, sRet_at, sRetN_at, sRetNone_at, sIf_at, sSet_at, sSetN_at, sExpr_at, sPar_at, sTgt_at, sMut_at, sPut_at, sFor_at, sRaise_at, sTry_at, atT_at, Rho.set_mk, gN_at, forL_nil, forL_cons, outR_rt, outR_nx, outR_ex, isLst_int, isLst_bl, isLst_tup, ckFlat_int, ckFlat_bl, e1_at, e2_at, e3c_at, cD_at, aNil_at, aCons_at, eTup_at, eLst_at, toL_at, vS_at, vB_at, eAnd_at, eOr_at, eNot_at, vAnd_at, vOr_at, vNot_at, eIf_at, eSl_at, asBl_bl, asInt_int, asLst_lst, addD_int, addI_int, subD_int, negD_int, ltB_int, leB_int, gtB_int, geB_int, eqB_int, neB_int, eqB_str, neB_str, intK_int, absN, lenK_lst, lenK_tup, ixD_tup0, ixD_tup1, ixD_tup2, ixD_lst0, ixD_lst1, ixD_lst2, ixD_lst3, Res.bind_ok, Res.bind_exc, Res.bind_stuck, andThen_ok, andThen_exc, andS_nx, andS_rt, andS_ex, andS_bk, andS_ct, loopO_nx, loopO_ct, loopO_bk, loopO_rt, loopO_ex, List.getElem?_cons_zero, List.getElem?_cons_succ, List.set_cons_zero, List.set_cons_succ, List.length_cons, List.length_nil, List.replicate, List.append_nil, List.nil_append, List.cons_append, Nat.zero_add, Nat.reduceAdd, Nat.reduceSub, Nat.reduceEqDiff, Nat.reduceLT, Bool.and_true, Bool.true_and, Bool.and_false, Bool.false_and, Bool.not_true, Bool.not_false, Bool.false_eq_true, decide_true, decide_false, decide_eq_true_eq, ite_true, ite_false, if_true, if_false, Bool.and_self, Bool.not_not, and_self, and_true, true_and, not_true_eq_false, not_false_eq_true, ckLen_ok, Nat.reduceLeDiff, fld_name, fld_first, fld_second, fld_needs, tn0, tn1, tn2, onC_dD, onCI_dD, cf_str, cf_tn, ↓eMk_at, dD_fold, frz_at, asStr_str, eJoin_at, ↓eFs_at, catP_nil, empty_app, isLst_str, isLst_dD, isLst_non, nc0, nc1, nc2, nc3, nc4, nc5, nc6, nc7, nc8, nc9, nc10, nc11, nc12, Int.reduceEq, Int.reduceLT, Int.reduceLE, Int.reduceNeg, ok1_ok, wipeR_nil, wipeR_cons, ki_names, ki_present, ki_dishes, ki_longest, onC_ki, onCI_ki, isLst_ki, slLst_hi, slLst_lo, slTup_hi, slTup_lo, lc, tn2, reduceIte]) (by decide +kernel) (by decide) rfl) ?_
    refine seq_and (fldI_at (d := .tup (menu.map (mnI cd))) (by simp only [runD_at, entryS_at, slF_t, slF_f, slD_int, slD_str, slD_bl, slD_lst, List.zipWith_cons_cons, List.zipWith_nil_left, List.map, List.length, sSeq_at, sNil_at, sRet_at, sRetN_at, sRetNone_at, sIf_at, sSet_at, sSetN_at, sExpr_at, sPar_at, sTgt_at, sMut_at, sPut_at, sFor_at, sRaise_at, sTry_at, atT_at, Rho.set_mk, gN_at, forL_nil, forL_cons, outR_rt, outR_nx, outR_ex, isLst_int, isLst_bl, isLst_tup, ckFlat_int, ckFlat_bl, e1_at, e2_at, e3c_at, cD_at, aNil_at, aCons_at, eTup_at, eLst_at, toL_at, vS_at, vB_at, eAnd_at, eOr_at, eNot_at, vAnd_at, vOr_at, vNot_at, eIf_at, eSl_at, asBl_bl, asInt_int, asLst_lst, addD_int, addI_int, subD_int, negD_int, ltB_int, leB_int, gtB_int, geB_int, eqB_int, neB_int, eqB_str, neB_str, intK_int, absN, lenK_lst, lenK_tup, ixD_tup0, ixD_tup1, ixD_tup2, ixD_lst0, ixD_lst1, ixD_lst2, ixD_lst3, Res.bind_ok, Res.bind_exc, Res.bind_stuck, andThen_ok, andThen_exc, andS_nx, andS_rt, andS_ex, andS_bk, andS_ct, loopO_nx, loopO_ct, loopO_bk, loopO_rt, loopO_ex, List.getElem?_cons_zero, List.getElem?_cons_succ, List.set_cons_zero, List.set_cons_succ, List.length_cons, List.length_nil, List.replicate, List.append_nil, List.nil_append, List.cons_append, Nat.zero_add, Nat.reduceAdd, Nat.reduceSub, Nat.reduceEqDiff, Nat.reduceLT, Bool.and_true, Bool.true_and, Bool.and_false, Bool.false_and, Bool.not_true, Bool.not_false, Bool.false_eq_true, decide_true, decide_false, decide_eq_true_eq, ite_true, ite_false, if_true, if_false, Bool.and_self, Bool.not_not, and_self, and_true, true_and, not_true_eq_false, not_false_eq_true, ckLen_ok, Nat.reduceLeDiff, fld_name, fld_first, fld_second, fld_needs, tn0, tn1, tn2, onC_dD, onCI_dD, cf_str, cf_tn, ↓eMk_at, dD_fold, frz_at, asStr_str, eJoin_at, ↓eFs_at, catP_nil, empty_app, isLst_str, isLst_dD, isLst_non, nc0, nc1, nc2, nc3, nc4, nc5, nc6, nc7, nc8, nc9, nc10, nc11, nc12, Int.reduceEq, Int.reduceLT, Int.reduceLE, Int.reduceNeg, ok1_ok, wipeR_nil, wipeR_cons, ki_names, ki_present, ki_dishes, ki_longest, onC_ki, onCI_ki, isLst_ki, slLst_hi, slLst_lo, slTup_hi, slTup_lo, tn3, reduceIte]) (by decide +kernel) (by decide) rfl) ?_
    refine seq_and (fldI_at (d := .int 1) rfl (by decide +kernel) (by decide) rfl) ?_
    rw [sFor_at]
    have e3' : Dv.e1 (selfF ck 0 "dishes") seqItems ⟨[.oi ck kfn [.tup (names.map .str), .tup (nums.map .int), .tup (menu.map (mnI cd)), .int 1], .sh T, .sh M, .ow (names.map .str), t4, t5, .no, .no, .no, .no], none⟩ = .ok (menu.map (mnI cd)) := by
      rw [e1_at, sd]; rfl
    refine (congrArg (fun r => andThen _ r _) e3').trans ?_
    exact e3
  rw [body]
  exact if_pos ⟨rfl, rfl⟩
end Kx

set_option Elab.async false
set_option linter.all false
set_option maxRecDepth 100000
set_option maxHeartbeats 1000000
namespace Kx
open PySem PySem.Spec L2 Dv
open PyProof.Rows hiding St
theorem range_zip {α β : Type} (a : α) (b : β) : ∀ {xs : List α} {ys : List β}, ys.length = xs.length → (List.range xs.length).map (fun i => (xs.getD i a, ys.getD i b)) = xs.zip ys := fun {xs ys} h => by
  apply List.ext_getElem
  · rw [List.length_map, List.length_range, List.length_zip, h, Nat.min_self]
  · intro i h1 h2
    rw [List.length_map, List.length_range] at h1
    rw [List.getElem_map, List.getElem_range, List.getElem_zip]
    rw [List.getD_eq_getElem?_getD, List.getD_eq_getElem?_getD, List.getElem?_eq_getElem h1, List.getElem?_eq_getElem (by omega)]
    rfl
theorem built_ok (ci ck cu cd cK : Addr) {names : List Str} {nums : List Int} {menu : List Mn} (K : KOk names nums menu) :
    F_w_built ci ck cu cd cK [.lst (kD names nums menu)] = .ok (kiD cK cd names nums menu (hz menu)) := by
  unfold F_w_built den_w_built
  rw [runD_at, show entryS [true] 4 [.lst (kD names nums menu)] = ⟨[.sh (.lst (kD names nums menu)), .no, .no, .no], none⟩ from rfl]
  have k0 : ixD (.lst (kD names nums menu)) (.int 0) = .ok (.lst (names.map .str)) := rfl
  have k1 : ixD (.lst (kD names nums menu)) (.int 1) = .ok (.lst (nums.map .int)) := rfl
  have k2 : ixD (.lst (kD names nums menu)) (.int 2) = .ok (.lst (menu.map mnD)) := rfl
  have kn := K.nl
  have kl := K.kl
  have km := K.ml
  have lc1 : eLc [2] (Dv.e1 (e2 (vS 0) (cD (.int 2)) ixD) seqItems) (gN 2) (l_w_built_1 ci ck cu cd cK) ⟨[.sh (.lst (kD names nums menu)), .no, .no, .no], none⟩ = .ok (menu.map (mnI cd)) := by
    refine (eLc_of (ds := menu.map mnD) rfl (by simp only [runD_at, entryS_at, slF_t, slF_f, slD_int, slD_str, slD_bl, slD_lst, List.zipWith_cons_cons, List.zipWith_nil_left, List.map, List.length, sSeq_at, sNil_at, sRet_at, sRetN_at, sRetNone_at, sIf_at, sSet_at, sSetN_at, sExpr_at, sPar_at, sTgt_at, sMut_at, sPut_at, sFor_at, sRaise_at, sTry_at, atT_at, Rho.set_mk, gN_at, forL_nil, forL_cons, outR_rt, outR_nx, outR_ex, isLst_int, isLst_bl, isLst_tup, ckFlat_int, ckFlat_bl, e1_at, e2_at, e3c_at, cD_at, aNil_at, aCons_at, eTup_at, eLst_at, toL_at, vS_at, vB_at, eAnd_at, eOr_at, eNot_at, vAnd_at, vOr_at, vNot_at, eIf_at, eSl_at, asBl_bl, asInt_int, asLst_lst, addD_int, addI_int, subD_int, negD_int, ltB_int, leB_int, gtB_int, geB_int, eqB_int, neB_int, eqB_str, neB_str, intK_int, absN, lenK_lst, lenK_tup, ixD_tup0, ixD_tup1, ixD_tup2, ixD_lst0, ixD_lst1, ixD_lst2, ixD_lst3, Res.bind_ok, Res.bind_exc, Res.bind_stuck, andThen_ok, andThen_exc, andS_nx, andS_rt, andS_ex, andS_bk, andS_ct, loopO_nx, loopO_ct, loopO_bk, loopO_rt, loopO_ex, List.getElem?_cons_zero, List.getElem?_cons_succ, List.set_cons_zero, List.set_cons_succ, List.length_cons, List.length_nil, List.replicate, List.append_nil, List.nil_append, List.cons_append, Nat.zero_add, Nat.reduceAdd, Nat.reduceSub, Nat.reduceEqDiff, Nat.reduceLT, Bool.and_true, Bool.true_and, Bool.and_false, Bool.false_and, Bool.not_true, Bool.not_false, Bool.false_eq_true, decide_true, decide_false, decide_eq_true_eq, ite_true, ite_false, if_true, if_false, Bool.and_self, Bool.not_not, and_self, and_true, true_and, not_true_eq_false, not_false_eq_true, ckLen_ok, Nat.reduceLeDiff, fld_name, fld_first, fld_second, fld_needs, tn0, tn1, tn2, onC_dD, onCI_dD, cf_str, cf_tn, ↓eMk_at, dD_fold, frz_at, asStr_str, eJoin_at, ↓eFs_at, catP_nil, empty_app, isLst_str, isLst_dD, isLst_non, nc0, nc1, nc2, nc3, nc4, nc5, nc6, nc7, nc8, nc9, nc10, nc11, nc12, Int.reduceEq, Int.reduceLT, Int.reduceLE, Int.reduceNeg, ok1_ok, wipeR_nil, wipeR_cons, ki_names, ki_present, ki_dishes, ki_longest, onC_ki, onCI_ki, isLst_ki, slLst_hi, slLst_lo, slTup_hi, slTup_lo, k2, reduceIte]; rfl) (by rw [List.length_map]; omega) (mapL_gen (b := mnI cd) (g := id) fun m hm => ?_)).trans (by rw [List.map_id])
    refine lcOne_of (gN_at ..) ?_
    have M := K.m m hm
    unfold l_w_built_1
    have i0 : ixD (mnD m) (.int 0) = .ok (.str m.z) := rfl
    have i1 : ixD (mnD m) (.int 1) = .ok (.int m.f) := rfl
    have i2 : ixD (mnD m) (.int 2) = .ok (.int m.s) := rfl
    have i3 : ixD (mnD m) (.int 3) = .ok (.lst (m.l.map tn)) := rfl
    have mn := M.n
    have I := init_ok ci cd m.f m.s M.z (raw := m.l) (fun e => by have := M.d.h0; rw [e] at this; cases this) (by omega) M.d.ok
    rw [mgs_id M.d.s M.d.p] at I
    simp only [runD_at, entryS_at, slF_t, slF_f, slD_int, slD_str, slD_bl, slD_lst, List.zipWith_cons_cons, List.zipWith_nil_left, List.map, List.length, sSeq_at, sNil_at, sRet_at, sRetN_at, sRetNone_at, sIf_at, sSet_at, sSetN_at, sExpr_at, sPar_at, sTgt_at, sMut_at, sPut_at, sFor_at, sRaise_at, sTry_at, atT_at, Rho.set_mk, gN_at, forL_nil, forL_cons, outR_rt, outR_nx, outR_ex, isLst_int, isLst_bl, isLst_tup, ckFlat_int, ckFlat_bl, e1_at, e2_at, e3c_at, cD_at, aNil_at, aCons_at, eTup_at, eLst_at, toL_at, vS_at, vB_at, eAnd_at, eOr_at, eNot_at, vAnd_at, vOr_at, vNot_at, eIf_at, eSl_at, asBl_bl, asInt_int, asLst_lst, addD_int, addI_int, subD_int, negD_int, ltB_int, leB_int, gtB_int, geB_int, eqB_int, neB_int, eqB_str, neB_str, intK_int, absN, lenK_lst, lenK_tup, ixD_tup0, ixD_tup1, ixD_tup2, ixD_lst0, ixD_lst1, ixD_lst2, ixD_lst3, Res.bind_ok, Res.bind_exc, Res.bind_stuck, andThen_ok, andThen_exc, andS_nx, andS_rt, andS_ex, andS_bk, andS_ct, loopO_nx, loopO_ct, loopO_bk, loopO_rt, loopO_ex, List.getElem?_cons_zero, List.getElem?_cons_succ, List.set_cons_zero, List.set_cons_succ, List.length_cons, List.length_nil, List.replicate, List.append_nil, List.nil_append, List.cons_append, Nat.zero_add, Nat.reduceAdd, Nat.reduceSub, Nat.reduceEqDiff, Nat.reduceLT, Bool.and_true, Bool.true_and, Bool.and_false, Bool.false_and, Bool.not_true, Bool.not_false, Bool.false_eq_true, decide_true, decide_false, decide_eq_true_eq, ite_true, ite_false, if_true, if_false, Bool.and_self, Bool.not_not, and_self, and_true, true_and, not_true_eq_false, not_false_eq_true, ckLen_ok, Nat.reduceLeDiff, fld_name, fld_first, fld_second, fld_needs, tn0, tn1, tn2, onC_dD, onCI_dD, cf_str, cf_tn, ↓eMk_at, dD_fold, frz_at, asStr_str, eJoin_at, ↓eFs_at, catP_nil, empty_app, isLst_str, isLst_dD, isLst_non, nc0, nc1, nc2, nc3, nc4, nc5, nc6, nc7, nc8, nc9, nc10, nc11, nc12, Int.reduceEq, Int.reduceLT, Int.reduceLE, Int.reduceNeg, ok1_ok, wipeR_nil, wipeR_cons, ki_names, ki_present, ki_dishes, ki_longest, onC_ki, onCI_ki, isLst_ki, slLst_hi, slLst_lo, slTup_hi, slTup_lo, i0, i1, i2, i3, show listK [.lst (m.l.map tn)] = .ok (m.l.map tn) from rfl, I, fn_Dish, reduceIte]
    rfl
  have rg : rg1 [.int (names.length : Int)] = .ok ((List.range names.length).map fun i => .int ((0 : Int) + (i : Nat))) := rg_ok (by omega)
  have lc2 : ∀ s1 : Sl, eLc [3] (Dv.e1 (aCons (Dv.e1 (aCons (e2 (vB 0) (cD (.int 0)) ixD) aNil) lenK) aNil) rg1) (gN 3) (l_w_built_0 ci ck cu cd cK) ⟨[.sh (.lst (kD names nums menu)), s1, .no, .no], none⟩ = .ok ((names.zip nums).map tk2) := fun s1 => by
    refine (eLc_of (ds := (List.range names.length).map fun i => .int ((0 : Int) + (i : Nat))) rfl (by simp only [runD_at, entryS_at, slF_t, slF_f, slD_int, slD_str, slD_bl, slD_lst, List.zipWith_cons_cons, List.zipWith_nil_left, List.map, List.length, sSeq_at, sNil_at, sRet_at, sRetN_at, sRetNone_at, sIf_at, sSet_at, sSetN_at, sExpr_at, sPar_at, sTgt_at, sMut_at, sPut_at, sFor_at, sRaise_at, sTry_at, atT_at, Rho.set_mk, gN_at, forL_nil, forL_cons, outR_rt, outR_nx, outR_ex, isLst_int, isLst_bl, isLst_tup, ckFlat_int, ckFlat_bl, e1_at, e2_at, e3c_at, cD_at, aNil_at, aCons_at, eTup_at, eLst_at, toL_at, vS_at, vB_at, eAnd_at, eOr_at, eNot_at, vAnd_at, vOr_at, vNot_at, eIf_at, eSl_at, asBl_bl, asInt_int, asLst_lst, addD_int, addI_int, subD_int, negD_int, ltB_int, leB_int, gtB_int, geB_int, eqB_int, neB_int, eqB_str, neB_str, intK_int, absN, lenK_lst, lenK_tup, ixD_tup0, ixD_tup1, ixD_tup2, ixD_lst0, ixD_lst1, ixD_lst2, ixD_lst3, Res.bind_ok, Res.bind_exc, Res.bind_stuck, andThen_ok, andThen_exc, andS_nx, andS_rt, andS_ex, andS_bk, andS_ct, loopO_nx, loopO_ct, loopO_bk, loopO_rt, loopO_ex, List.getElem?_cons_zero, List.getElem?_cons_succ, List.set_cons_zero, List.set_cons_succ, List.length_cons, List.length_nil, List.replicate, List.append_nil, List.nil_append, List.cons_append, Nat.zero_add, Nat.reduceAdd, Nat.reduceSub, Nat.reduceEqDiff, Nat.reduceLT, Bool.and_true, Bool.true_and, Bool.and_false, Bool.false_and, Bool.not_true, Bool.not_false, Bool.false_eq_true, decide_true, decide_false, decide_eq_true_eq, ite_true, ite_false, if_true, if_false, Bool.and_self, Bool.not_not, and_self, and_true, true_and, not_true_eq_false, not_false_eq_true, ckLen_ok, Nat.reduceLeDiff, fld_name, fld_first, fld_second, fld_needs, tn0, tn1, tn2, onC_dD, onCI_dD, cf_str, cf_tn, ↓eMk_at, dD_fold, frz_at, asStr_str, eJoin_at, ↓eFs_at, catP_nil, empty_app, isLst_str, isLst_dD, isLst_non, nc0, nc1, nc2, nc3, nc4, nc5, nc6, nc7, nc8, nc9, nc10, nc11, nc12, Int.reduceEq, Int.reduceLT, Int.reduceLE, Int.reduceNeg, ok1_ok, wipeR_nil, wipeR_cons, ki_names, ki_present, ki_dishes, ki_longest, onC_ki, onCI_ki, isLst_ki, slLst_hi, slLst_lo, slTup_hi, slTup_lo, k0, List.length_map, rg, reduceIte]) (by rw [List.length_map, List.length_range]; omega) (mapL_gen (b := tk2) (g := fun i : Nat => (names.getD i "", nums.getD i 0)) fun i hi => ?_)).trans (by rw [range_zip ("" : Str) (0 : Int) kl])
    have hi := List.mem_range.mp hi
    refine lcOne_of (gN_at ..) ?_
    unfold l_w_built_0
    have a1 : ixD (.lst (names.map .str)) (.int (i : Int)) = .ok (.str (names.getD i "")) := by
      rw [ixD_lst (k := i) (by simpa using hi), List.getElem_map, List.getD_eq_getElem?_getD, List.getElem?_eq_getElem hi]; rfl
    have a2 : ixD (.lst (nums.map .int)) (.int (i : Int)) = .ok (.int (nums.getD i 0)) := by
      rw [ixD_lst (k := i) (by simpa using (by omega : i < nums.length)), List.getElem_map, List.getD_eq_getElem?_getD, List.getElem?_eq_getElem (by omega)]; rfl
    simp only [runD_at, entryS_at, slF_t, slF_f, slD_int, slD_str, slD_bl, slD_lst, List.zipWith_cons_cons, List.zipWith_nil_left, List.map, List.length, sSeq_at, sNil_at, sRet_at, sRetN_at, sRetNone_at, sIf_at, sSet_at, sSetN_at, sExpr_at, sPar_at, sTgt_at, sMut_at, sPut_at, sFor_at, sRaise_at, sTry_at, atT_at, Rho.set_mk, gN_at, forL_nil, forL_cons, outR_rt, outR_nx, outR_ex, isLst_int, isLst_bl, isLst_tup, ckFlat_int, ckFlat_bl, e1_at, e2_at, e3c_at, cD_at, aNil_at, aCons_at, eTup_at, eLst_at, toL_at, vS_at, vB_at, eAnd_at, eOr_at, eNot_at, vAnd_at, vOr_at, vNot_at, eIf_at, eSl_at, asBl_bl, asInt_int, asLst_lst, addD_int, addI_int, subD_int, negD_int, ltB_int, leB_int, gtB_int, geB_int, eqB_int, neB_int, eqB_str, neB_str, intK_int, absN, lenK_lst, lenK_tup, ixD_tup0, ixD_tup1, ixD_tup2, ixD_lst0, ixD_lst1, ixD_lst2, ixD_lst3, Res.bind_ok, Res.bind_exc, Res.bind_stuck, andThen_ok, andThen_exc, andS_nx, andS_rt, andS_ex, andS_bk, andS_ct, loopO_nx, loopO_ct, loopO_bk, loopO_rt, loopO_ex, List.getElem?_cons_zero, List.getElem?_cons_succ, List.set_cons_zero, List.set_cons_succ, List.length_cons, List.length_nil, List.replicate, List.append_nil, List.nil_append, List.cons_append, Nat.zero_add, Nat.reduceAdd, Nat.reduceSub, Nat.reduceEqDiff, Nat.reduceLT, Bool.and_true, Bool.true_and, Bool.and_false, Bool.false_and, Bool.not_true, Bool.not_false, Bool.false_eq_true, decide_true, decide_false, decide_eq_true_eq, ite_true, ite_false, if_true, if_false, Bool.and_self, Bool.not_not, and_self, and_true, true_and, not_true_eq_false, not_false_eq_true, ckLen_ok, Nat.reduceLeDiff, fld_name, fld_first, fld_second, fld_needs, tn0, tn1, tn2, onC_dD, onCI_dD, cf_str, cf_tn, ↓eMk_at, dD_fold, frz_at, asStr_str, eJoin_at, ↓eFs_at, catP_nil, empty_app, isLst_str, isLst_dD, isLst_non, nc0, nc1, nc2, nc3, nc4, nc5, nc6, nc7, nc8, nc9, nc10, nc11, nc12, Int.reduceEq, Int.reduceLT, Int.reduceLE, Int.reduceNeg, ok1_ok, wipeR_nil, wipeR_cons, ki_names, ki_present, ki_dishes, ki_longest, onC_ki, onCI_ki, isLst_ki, slLst_hi, slLst_lo, slTup_hi, slTup_lo, k0, k1, Int.zero_add, a1, a2, reduceIte]
    rfl
  have I := kinit_ok ck cu cd cK K
  refine outR_and (by simp only [runD_at, entryS_at, slF_t, slF_f, slD_int, slD_str, slD_bl, slD_lst, List.zipWith_cons_cons, List.zipWith_nil_left, List.map, List.length, sSeq_at, sNil_at, sRet_at, sRetN_at, sRetNone_at, sIf_at, sSet_at, sSetN_at, sExpr_at, sPar_at, sTgt_at, sMut_at, sPut_at, sFor_at, sRaise_at, sTry_at, atT_at, Rho.set_mk, gN_at, forL_nil, forL_cons, outR_rt, outR_nx, outR_ex, isLst_int, isLst_bl, isLst_tup, ckFlat_int, ckFlat_bl, e1_at, e2_at, e3c_at, cD_at, aNil_at, aCons_at, eTup_at, eLst_at, toL_at, vS_at, vB_at, eAnd_at, eOr_at, eNot_at, vAnd_at, vOr_at, vNot_at, eIf_at, eSl_at, asBl_bl, asInt_int, asLst_lst, addD_int, addI_int, subD_int, negD_int, ltB_int, leB_int, gtB_int, geB_int, eqB_int, neB_int, eqB_str, neB_str, intK_int, absN, lenK_lst, lenK_tup, ixD_tup0, ixD_tup1, ixD_tup2, ixD_lst0, ixD_lst1, ixD_lst2, ixD_lst3, Res.bind_ok, Res.bind_exc, Res.bind_stuck, andThen_ok, andThen_exc, andS_nx, andS_rt, andS_ex, andS_bk, andS_ct, loopO_nx, loopO_ct, loopO_bk, loopO_rt, loopO_ex, List.getElem?_cons_zero, List.getElem?_cons_succ, List.set_cons_zero, List.set_cons_succ, List.length_cons, List.length_nil, List.replicate, List.append_nil, List.nil_append, List.cons_append, Nat.zero_add, Nat.reduceAdd, Nat.reduceSub, Nat.reduceEqDiff, Nat.reduceLT, Bool.and_true, Bool.true_and, Bool.and_false, Bool.false_and, Bool.not_true, Bool.not_false, Bool.false_eq_true, decide_true, decide_false, decide_eq_true_eq, ite_true, ite_false, if_true, if_false, Bool.and_self, Bool.not_not, and_self, and_true, true_and, not_true_eq_false, not_false_eq_true, ckLen_ok, Nat.reduceLeDiff, fld_name, fld_first, fld_second, fld_needs, tn0, tn1, tn2, onC_dD, onCI_dD, cf_str, cf_tn, ↓eMk_at, dD_fold, frz_at, asStr_str, eJoin_at, ↓eFs_at, catP_nil, empty_app, isLst_str, isLst_dD, isLst_non, nc0, nc1, nc2, nc3, nc4, nc5, nc6, nc7, nc8, nc9, nc10, nc11, nc12, Int.reduceEq, Int.reduceLT, Int.reduceLE, Int.reduceNeg, ok1_ok, wipeR_nil, wipeR_cons, ki_names, ki_present, ki_dishes, ki_longest, onC_ki, onCI_ki, isLst_ki, slLst_hi, slLst_lo, slTup_hi, slTup_lo, lc1, reduceIte] <;> (with_reducible exact rfl)) ?_
  simp only [runD_at, entryS_at, slF_t, slF_f, slD_int, slD_str, slD_bl, slD_lst, List.zipWith_cons_cons, List.zipWith_nil_left, List.map, List.length, sSeq_at, sNil_at, sRet_at, sRetN_at, sRetNone_at, sIf_at, sSet_at, sSetN_at, sExpr_at, sPar_at, sTgt_at, sMut_at, sPut_at, sFor_at, sRaise_at, sTry_at, atT_at, Rho.set_mk, gN_at, forL_nil, forL_cons, outR_rt, outR_nx, outR_ex, isLst_int, isLst_bl, isLst_tup, ckFlat_int, ckFlat_bl, e1_at, e2_at, e3c_at, cD_at, aNil_at, aCons_at, eTup_at, eLst_at, toL_at, vS_at, vB_at, eAnd_at, eOr_at, eNot_at, vAnd_at, vOr_at, vNot_at, eIf_at, eSl_at, asBl_bl, asInt_int, asLst_lst, addD_int, addI_int, subD_int, negD_int, ltB_int, leB_int, gtB_int, geB_int, eqB_int, neB_int, eqB_str, neB_str, intK_int, absN, lenK_lst, lenK_tup, ixD_tup0, ixD_tup1, ixD_tup2, ixD_lst0, ixD_lst1, ixD_lst2, ixD_lst3, Res.bind_ok, Res.bind_exc, Res.bind_stuck, andThen_ok, andThen_exc, andS_nx, andS_rt, andS_ex, andS_bk, andS_ct, loopO_nx, loopO_ct, loopO_bk, loopO_rt, loopO_ex, List.getElem?_cons_zero, List.getElem?_cons_succ, List.set_cons_zero, List.set_cons_succ, List.length_cons, List.length_nil, List.replicate, List.append_nil, List.nil_append, List.cons_append, Nat.zero_add, Nat.reduceAdd, Nat.reduceSub, Nat.reduceEqDiff, Nat.reduceLT, Bool.and_true, Bool.true_and, Bool.and_false, Bool.false_and, Bool.not_true, Bool.not_false, Bool.false_eq_true, decide_true, decide_false, decide_eq_true_eq, ite_true, ite_false, if_true, if_false, Bool.and_self, Bool.not_not, and_self, and_true, true_and, not_true_eq_false, not_false_eq_true, ckLen_ok, Nat.reduceLeDiff, fld_name, fld_first, fld_second, fld_needs, tn0, tn1, tn2, onC_dD, onCI_dD, cf_str, cf_tn, ↓eMk_at, dD_fold, frz_at, asStr_str, eJoin_at, ↓eFs_at, catP_nil, empty_app, isLst_str, isLst_dD, isLst_non, nc0, nc1, nc2, nc3, nc4, nc5, nc6, nc7, nc8, nc9, nc10, nc11, nc12, Int.reduceEq, Int.reduceLT, Int.reduceLE, Int.reduceNeg, ok1_ok, wipeR_nil, wipeR_cons, ki_names, ki_present, ki_dishes, ki_longest, onC_ki, onCI_ki, isLst_ki, slLst_hi, slLst_lo, slTup_hi, slTup_lo, lc2, I, fn_Kitchen, reduceIte]
  rfl
theorem horizon_ok {names : List Str} {nums : List Int} {menu : List Mn} : F_w_horizon [.lst (kD names nums menu)] = .ok (.int (hz menu)) := by
  unfold F_w_horizon den_w_horizon
  rw [runD_at, show entryS [true] 4 [.lst (kD names nums menu)] = ⟨[.sh (.lst (kD names nums menu)), .no, .no, .no], none⟩ from rfl]
  have k2 : ixD (.lst (kD names nums menu)) (.int 2) = .ok (.lst (menu.map mnD)) := rfl
  obtain ⟨S, hS⟩ : ∃ S, Sl.sh (.lst (kD names nums menu)) = S := ⟨_, rfl⟩
  have lp2 : ∀ (l : List Nd) (h : Int) (s2 s3 : Sl), ∃ t3 : Sl, forL (atT (gN 3) fb_w_horizon_1) (l.map tn) ⟨[S, .sh (.int h), s2, s3], none⟩ = .nx ⟨[S, .sh (.int (hzN h l)), s2, t3], none⟩ := by
    intro l
    induction l with
    | nil => exact fun h s2 s3 => ⟨s3, rfl⟩
    | cons n l ih =>
      intro h s2 s3
      obtain ⟨t3, e⟩ := ih (if h > n.1 + 1 then h else n.1 + 1) s2 (.sh (tn n))
      refine ⟨t3, ?_⟩
      rw [List.map_cons, forL_cons]
      have one : Dv.atT (gN 3) fb_w_horizon_1 (tn n) ⟨[S, .sh (.int h), s2, s3], none⟩ = .nx ⟨[S, .sh (.int (if h > n.1 + 1 then h else n.1 + 1)), s2, .sh (tn n)], none⟩ := by
        by_cases c : h < n.1 + 1
        · simp only [runD_at, entryS_at, slF_t, slF_f, slD_int, slD_str, slD_bl, slD_lst, List.zipWith_cons_cons, List.zipWith_nil_left, List.map, List.length, sSeq_at, sNil_at, sRet_at, sRetN_at, sRetNone_at, sIf_at, sSet_at, sSetN_at, sExpr_at, sPar_at, sTgt_at, sMut_at, sPut_at, sFor_at, sRaise_at, sTry_at, atT_at, Rho.set_mk, gN_at, forL_nil, forL_cons, outR_rt, outR_nx, outR_ex, isLst_int, isLst_bl, isLst_tup, ckFlat_int, ckFlat_bl, e1_at, e2_at, e3c_at, cD_at, aNil_at, aCons_at, eTup_at, eLst_at, toL_at, vS_at, vB_at, eAnd_at, eOr_at, eNot_at, vAnd_at, vOr_at, vNot_at, eIf_at, eSl_at, asBl_bl, asInt_int, asLst_lst, addD_int, addI_int, subD_int, negD_int, ltB_int, leB_int, gtB_int, geB_int, eqB_int, neB_int, eqB_str, neB_str, intK_int, absN, lenK_lst, lenK_tup, ixD_tup0, ixD_tup1, ixD_tup2, ixD_lst0, ixD_lst1, ixD_lst2, ixD_lst3, Res.bind_ok, Res.bind_exc, Res.bind_stuck, andThen_ok, andThen_exc, andS_nx, andS_rt, andS_ex, andS_bk, andS_ct, loopO_nx, loopO_ct, loopO_bk, loopO_rt, loopO_ex, List.getElem?_cons_zero, List.getElem?_cons_succ, List.set_cons_zero, List.set_cons_succ, List.length_cons, List.length_nil, List.replicate, List.append_nil, List.nil_append, List.cons_append, Nat.zero_add, Nat.reduceAdd, Nat.reduceSub, Nat.reduceEqDiff, Nat.reduceLT, Bool.and_true, Bool.true_and, Bool.and_false, Bool.false_and, Bool.not_true, Bool.not_false, Bool.false_eq_true, decide_true, decide_false, decide_eq_true_eq, ite_true, ite_false, if_true, if_false, Bool.and_self, Bool.not_not, and_self, and_true, true_and, not_true_eq_false, not_false_eq_true, ckLen_ok, Nat.reduceLeDiff, fld_name, fld_first, fld_second, fld_needs, tn0, tn1, tn2, onC_dD, onCI_dD, cf_str, cf_tn, ↓eMk_at, dD_fold, frz_at, asStr_str, eJoin_at, ↓eFs_at, catP_nil, empty_app, isLst_str, isLst_dD, isLst_non, nc0, nc1, nc2, nc3, nc4, nc5, nc6, nc7, nc8, nc9, nc10, nc11, nc12, Int.reduceEq, Int.reduceLT, Int.reduceLE, Int.reduceNeg, ok1_ok, wipeR_nil, wipeR_cons, ki_names, ki_present, ki_dishes, ki_longest, onC_ki, onCI_ki, isLst_ki, slLst_hi, slLst_lo, slTup_hi, slTup_lo, fb_w_horizon_1, c, reduceIte]
          rw [if_neg (by omega)]
        · simp only [runD_at, entryS_at, slF_t, slF_f, slD_int, slD_str, slD_bl, slD_lst, List.zipWith_cons_cons, List.zipWith_nil_left, List.map, List.length, sSeq_at, sNil_at, sRet_at, sRetN_at, sRetNone_at, sIf_at, sSet_at, sSetN_at, sExpr_at, sPar_at, sTgt_at, sMut_at, sPut_at, sFor_at, sRaise_at, sTry_at, atT_at, Rho.set_mk, gN_at, forL_nil, forL_cons, outR_rt, outR_nx, outR_ex, isLst_int, isLst_bl, isLst_tup, ckFlat_int, ckFlat_bl, e1_at, e2_at, e3c_at, cD_at, aNil_at, aCons_at, eTup_at, eLst_at, toL_at, vS_at, vB_at, eAnd_at, eOr_at, eNot_at, vAnd_at, vOr_at, vNot_at, eIf_at, eSl_at, asBl_bl, asInt_int, asLst_lst, addD_int, addI_int, subD_int, negD_int, ltB_int, leB_int, gtB_int, geB_int, eqB_int, neB_int, eqB_str, neB_str, intK_int, absN, lenK_lst, lenK_tup, ixD_tup0, ixD_tup1, ixD_tup2, ixD_lst0, ixD_lst1, ixD_lst2, ixD_lst3, Res.bind_ok, Res.bind_exc, Res.bind_stuck, andThen_ok, andThen_exc, andS_nx, andS_rt, andS_ex, andS_bk, andS_ct, loopO_nx, loopO_ct, loopO_bk, loopO_rt, loopO_ex, List.getElem?_cons_zero, List.getElem?_cons_succ, List.set_cons_zero, List.set_cons_succ, List.length_cons, List.length_nil, List.replicate, List.append_nil, List.nil_append, List.cons_append, Nat.zero_add, Nat.reduceAdd, Nat.reduceSub, Nat.reduceEqDiff, Nat.reduceLT, Bool.and_true, Bool.true_and, Bool.and_false, Bool.false_and, Bool.not_true, Bool.not_false, Bool.false_eq_true, decide_true, decide_false, decide_eq_true_eq, ite_true, ite_false, if_true, if_false, Bool.and_self, Bool.not_not, and_self, and_true, true_and, not_true_eq_false, not_false_eq_true, ckLen_ok, Nat.reduceLeDiff, fld_name, fld_first, fld_second, fld_needs, tn0, tn1, tn2, onC_dD, onCI_dD, cf_str, cf_tn, ↓eMk_at, dD_fold, frz_at, asStr_str, eJoin_at, ↓eFs_at, catP_nil, empty_app, isLst_str, isLst_dD, isLst_non, nc0, nc1, nc2, nc3, nc4, nc5, nc6, nc7, nc8, nc9, nc10, nc11, nc12, Int.reduceEq, Int.reduceLT, Int.reduceLE, Int.reduceNeg, ok1_ok, wipeR_nil, wipeR_cons, ki_names, ki_present, ki_dishes, ki_longest, onC_ki, onCI_ki, isLst_ki, slLst_hi, slLst_lo, slTup_hi, slTup_lo, fb_w_horizon_1, c, reduceIte]
          congr 4
          by_cases c2 : h > n.1 + 1
          · rw [if_pos c2]
          · rw [if_neg c2]; congr 2; omega
      rw [one, loopO_nx]
      exact e
  have lp3 : ∀ (ms : List Mn) (h : Int) (s2 s3 : Sl), ∃ t2 t3 : Sl, forL (atT (gN 2) fb_w_horizon_0) (ms.map mnD) ⟨[S, .sh (.int h), s2, s3], none⟩ = .nx ⟨[S, .sh (.int (ms.foldl (fun h m => hzN h m.l) h)), t2, t3], none⟩ := by
    intro ms
    induction ms with
    | nil => exact fun h s2 s3 => ⟨s2, s3, rfl⟩
    | cons m ms ih =>
      intro h s2 s3
      obtain ⟨a3, e2⟩ := lp2 m.l h (.sh (mnD m)) s3
      obtain ⟨t2, t3, e⟩ := ih (hzN h m.l) (.sh (mnD m)) a3
      refine ⟨t2, t3, ?_⟩
      rw [List.map_cons, forL_cons]
      have i3 : ixD (mnD m) (.int 3) = .ok (.lst (m.l.map tn)) := rfl
      simp only [runD_at, entryS_at, slF_t, slF_f, slD_int, slD_str, slD_bl, slD_lst, List.zipWith_cons_cons, List.zipWith_nil_left, List.map, List.length, sSeq_at, sNil_at, sRet_at, sRetN_at, sRetNone_at, sIf_at, sSet_at, sSetN_at, sExpr_at, sPar_at, sTgt_at, sMut_at, sPut_at, sFor_at, sRaise_at, sTry_at, atT_at, Rho.set_mk, gN_at, forL_nil, forL_cons, outR_rt, outR_nx, outR_ex, isLst_int, isLst_bl, isLst_tup, ckFlat_int, ckFlat_bl, e1_at, e2_at, e3c_at, cD_at, aNil_at, aCons_at, eTup_at, eLst_at, toL_at, vS_at, vB_at, eAnd_at, eOr_at, eNot_at, vAnd_at, vOr_at, vNot_at, eIf_at, eSl_at, asBl_bl, asInt_int, asLst_lst, addD_int, addI_int, subD_int, negD_int, ltB_int, leB_int, gtB_int, geB_int, eqB_int, neB_int, eqB_str, neB_str, intK_int, absN, lenK_lst, lenK_tup, ixD_tup0, ixD_tup1, ixD_tup2, ixD_lst0, ixD_lst1, ixD_lst2, ixD_lst3, Res.bind_ok, Res.bind_exc, Res.bind_stuck, andThen_ok, andThen_exc, andS_nx, andS_rt, andS_ex, andS_bk, andS_ct, loopO_nx, loopO_ct, loopO_bk, loopO_rt, loopO_ex, List.getElem?_cons_zero, List.getElem?_cons_succ, List.set_cons_zero, List.set_cons_succ, List.length_cons, List.length_nil, List.replicate, List.append_nil, List.nil_append, List.cons_append, Nat.zero_add, Nat.reduceAdd, Nat.reduceSub, Nat.reduceEqDiff, Nat.reduceLT, Bool.and_true, Bool.true_and, Bool.and_false, Bool.false_and, Bool.not_true, Bool.not_false, Bool.false_eq_true, decide_true, decide_false, decide_eq_true_eq, ite_true, ite_false, if_true, if_false, Bool.and_self, Bool.not_not, and_self, and_true, true_and, not_true_eq_false, not_false_eq_true, ckLen_ok, Nat.reduceLeDiff, fld_name, fld_first, fld_second, fld_needs, tn0, tn1, tn2, onC_dD, onCI_dD, cf_str, cf_tn, ↓eMk_at, dD_fold, frz_at, asStr_str, eJoin_at, ↓eFs_at, catP_nil, empty_app, isLst_str, isLst_dD, isLst_non, nc0, nc1, nc2, nc3, nc4, nc5, nc6, nc7, nc8, nc9, nc10, nc11, nc12, Int.reduceEq, Int.reduceLT, Int.reduceLE, Int.reduceNeg, ok1_ok, wipeR_nil, wipeR_cons, ki_names, ki_present, ki_dishes, ki_longest, onC_ki, onCI_ki, isLst_ki, slLst_hi, slLst_lo, slTup_hi, slTup_lo, fb_w_horizon_0, i3, show seqItems (.lst (m.l.map tn)) = .ok (m.l.map tn) from rfl, e2, reduceIte]
      exact e
  obtain ⟨t2, t3, e⟩ := lp3 menu 1 .no .no
  refine outR_and (by simp only [runD_at, entryS_at, slF_t, slF_f, slD_int, slD_str, slD_bl, slD_lst, List.zipWith_cons_cons, List.zipWith_nil_left, List.map, List.length, sSeq_at, sNil_at, sRet_at, sRetN_at, sRetNone_at, sIf_at, sSet_at, sSetN_at, sExpr_at, sPar_at, sTgt_at, sMut_at, sPut_at, sFor_at, sRaise_at, sTry_at, atT_at, Rho.set_mk, gN_at, forL_nil, forL_cons, outR_rt, outR_nx, outR_ex, isLst_int, isLst_bl, isLst_tup, ckFlat_int, ckFlat_bl, e1_at, e2_at, e3c_at, cD_at, aNil_at, aCons_at, eTup_at, eLst_at, toL_at, vS_at, vB_at, eAnd_at, eOr_at, eNot_at, vAnd_at, vOr_at, vNot_at, eIf_at, eSl_at, asBl_bl, asInt_int, asLst_lst, addD_int, addI_int, subD_int, negD_int, ltB_int, leB_int, gtB_int, geB_int, eqB_int, neB_int, eqB_str, neB_str, intK_int, absN, lenK_lst, lenK_tup, ixD_tup0, ixD_tup1, ixD_tup2, ixD_lst0, ixD_lst1, ixD_lst2, ixD_lst3, Res.bind_ok, Res.bind_exc, Res.bind_stuck, andThen_ok, andThen_exc, andS_nx, andS_rt, andS_ex, andS_bk, andS_ct, loopO_nx, loopO_ct, loopO_bk, loopO_rt, loopO_ex, List.getElem?_cons_zero, List.getElem?_cons_succ, List.set_cons_zero, List.set_cons_succ, List.length_cons, List.length_nil, List.replicate, List.append_nil, List.nil_append, List.cons_append, Nat.zero_add, Nat.reduceAdd, Nat.reduceSub, Nat.reduceEqDiff, Nat.reduceLT, Bool.and_true, Bool.true_and, Bool.and_false, Bool.false_and, Bool.not_true, Bool.not_false, Bool.false_eq_true, decide_true, decide_false, decide_eq_true_eq, ite_true, ite_false, if_true, if_false, Bool.and_self, Bool.not_not, and_self, and_true, true_and, not_true_eq_false, not_false_eq_true, ckLen_ok, Nat.reduceLeDiff, fld_name, fld_first, fld_second, fld_needs, tn0, tn1, tn2, onC_dD, onCI_dD, cf_str, cf_tn, ↓eMk_at, dD_fold, frz_at, asStr_str, eJoin_at, ↓eFs_at, catP_nil, empty_app, isLst_str, isLst_dD, isLst_non, nc0, nc1, nc2, nc3, nc4, nc5, nc6, nc7, nc8, nc9, nc10, nc11, nc12, Int.reduceEq, Int.reduceLT, Int.reduceLE, Int.reduceNeg, ok1_ok, wipeR_nil, wipeR_cons, ki_names, ki_present, ki_dishes, ki_longest, onC_ki, onCI_ki, isLst_ki, slLst_hi, slLst_lo, slTup_hi, slTup_lo, reduceIte] <;> (with_reducible exact rfl)) ?_
  have f : Dv.e1 (e2 (vS 0) (cD (.int 2)) ixD) seqItems ⟨[.sh (.lst (kD names nums menu)), .sh (.int 1), .no, .no], none⟩ = .ok (menu.map mnD) := by
    simp only [runD_at, entryS_at, slF_t, slF_f, slD_int, slD_str, slD_bl, slD_lst, List.zipWith_cons_cons, List.zipWith_nil_left, List.map, List.length, sSeq_at, sNil_at, sRet_at, sRetN_at, sRetNone_at, sIf_at, sSet_at, sSetN_at, sExpr_at, sPar_at, sTgt_at, sMut_at, sPut_at, sFor_at, sRaise_at, sTry_at, atT_at, Rho.set_mk, gN_at, forL_nil, forL_cons, outR_rt, outR_nx, outR_ex, isLst_int, isLst_bl, isLst_tup, ckFlat_int, ckFlat_bl, e1_at, e2_at, e3c_at, cD_at, aNil_at, aCons_at, eTup_at, eLst_at, toL_at, vS_at, vB_at, eAnd_at, eOr_at, eNot_at, vAnd_at, vOr_at, vNot_at, eIf_at, eSl_at, asBl_bl, asInt_int, asLst_lst, addD_int, addI_int, subD_int, negD_int, ltB_int, leB_int, gtB_int, geB_int, eqB_int, neB_int, eqB_str, neB_str, intK_int, absN, lenK_lst, lenK_tup, ixD_tup0, ixD_tup1, ixD_tup2, ixD_lst0, ixD_lst1, ixD_lst2, ixD_lst3, Res.bind_ok, Res.bind_exc, Res.bind_stuck, andThen_ok, andThen_exc, andS_nx, andS_rt, andS_ex, andS_bk, andS_ct, loopO_nx, loopO_ct, loopO_bk, loopO_rt, loopO_ex, List.getElem?_cons_zero, List.getElem?_cons_succ, List.set_cons_zero, List.set_cons_succ, List.length_cons, List.length_nil, List.replicate, List.append_nil, List.nil_append, List.cons_append, Nat.zero_add, Nat.reduceAdd, Nat.reduceSub, Nat.reduceEqDiff, Nat.reduceLT, Bool.and_true, Bool.true_and, Bool.and_false, Bool.false_and, Bool.not_true, Bool.not_false, Bool.false_eq_true, decide_true, decide_false, decide_eq_true_eq, ite_true, ite_false, if_true, if_false, Bool.and_self, Bool.not_not, and_self, and_true, true_and, not_true_eq_false, not_false_eq_true, ckLen_ok, Nat.reduceLeDiff, fld_name, fld_first, fld_second, fld_needs, tn0, tn1, tn2, onC_dD, onCI_dD, cf_str, cf_tn, ↓eMk_at, dD_fold, frz_at, asStr_str, eJoin_at, ↓eFs_at, catP_nil, empty_app, isLst_str, isLst_dD, isLst_non, nc0, nc1, nc2, nc3, nc4, nc5, nc6, nc7, nc8, nc9, nc10, nc11, nc12, Int.reduceEq, Int.reduceLT, Int.reduceLE, Int.reduceNeg, ok1_ok, wipeR_nil, wipeR_cons, ki_names, ki_present, ki_dishes, ki_longest, onC_ki, onCI_ki, isLst_ki, slLst_hi, slLst_lo, slTup_hi, slTup_lo, k2, reduceIte]
    rfl
  rw [hS] at f ⊢
  refine outR_and (ρ' := ⟨[S, .sh (.int (hz menu)), t2, t3], none⟩) (by
    rw [sFor_at, f, andThen_ok]
    exact e) ?_
  simp only [runD_at, entryS_at, slF_t, slF_f, slD_int, slD_str, slD_bl, slD_lst, List.zipWith_cons_cons, List.zipWith_nil_left, List.map, List.length, sSeq_at, sNil_at, sRet_at, sRetN_at, sRetNone_at, sIf_at, sSet_at, sSetN_at, sExpr_at, sPar_at, sTgt_at, sMut_at, sPut_at, sFor_at, sRaise_at, sTry_at, atT_at, Rho.set_mk, gN_at, forL_nil, forL_cons, outR_rt, outR_nx, outR_ex, isLst_int, isLst_bl, isLst_tup, ckFlat_int, ckFlat_bl, e1_at, e2_at, e3c_at, cD_at, aNil_at, aCons_at, eTup_at, eLst_at, toL_at, vS_at, vB_at, eAnd_at, eOr_at, eNot_at, vAnd_at, vOr_at, vNot_at, eIf_at, eSl_at, asBl_bl, asInt_int, asLst_lst, addD_int, addI_int, subD_int, negD_int, ltB_int, leB_int, gtB_int, geB_int, eqB_int, neB_int, eqB_str, neB_str, intK_int, absN, lenK_lst, lenK_tup, ixD_tup0, ixD_tup1, ixD_tup2, ixD_lst0, ixD_lst1, ixD_lst2, ixD_lst3, Res.bind_ok, Res.bind_exc, Res.bind_stuck, andThen_ok, andThen_exc, andS_nx, andS_rt, andS_ex, andS_bk, andS_ct, loopO_nx, loopO_ct, loopO_bk, loopO_rt, loopO_ex, List.getElem?_cons_zero, List.getElem?_cons_succ, List.set_cons_zero, List.set_cons_succ, List.length_cons, List.length_nil, List.replicate, List.append_nil, List.nil_append, List.cons_append, Nat.zero_add, Nat.reduceAdd, Nat.reduceSub, Nat.reduceEqDiff, Nat.reduceLT, Bool.and_true, Bool.true_and, Bool.and_false, Bool.false_and, Bool.not_true, Bool.not_false, Bool.false_eq_true, decide_true, decide_false, decide_eq_true_eq, ite_true, ite_false, if_true, if_false, Bool.and_self, Bool.not_not, and_self, and_true, true_and, not_true_eq_false, not_false_eq_true, ckLen_ok, Nat.reduceLeDiff, fld_name, fld_first, fld_second, fld_needs, tn0, tn1, tn2, onC_dD, onCI_dD, cf_str, cf_tn, ↓eMk_at, dD_fold, frz_at, asStr_str, eJoin_at, ↓eFs_at, catP_nil, empty_app, isLst_str, isLst_dD, isLst_non, nc0, nc1, nc2, nc3, nc4, nc5, nc6, nc7, nc8, nc9, nc10, nc11, nc12, Int.reduceEq, Int.reduceLT, Int.reduceLE, Int.reduceNeg, ok1_ok, wipeR_nil, wipeR_cons, ki_names, ki_present, ki_dishes, ki_longest, onC_ki, onCI_ki, isLst_ki, slLst_hi, slLst_lo, slTup_hi, slTup_lo, reduceIte]
end Kx

set_option Elab.async false
set_option linter.all false
set_option maxRecDepth 100000
set_option maxHeartbeats 1000000
namespace Kx
open PySem PySem.Spec L2 Dv
open PyProof.Rows hiding St
def rowD (r : List Int) : D := .tup (r.map .int)
def sD (rows : List (List Int)) : D := .tup (rows.map rowD)
theorem fl_rows (rows : List (List Int)) : flats (rows.map rowD) = true := by
  induction rows with
  | nil => rfl
  | cons r rows ih =>
    show (flats (r.map .int) && flats (rows.map rowD)) = true
    rw [fl_int, ih]; rfl
theorem eqd_row (r : List Int) {k : Nat} : EqD (k + 1) (rowD r) := .tup fun d hd => by
  obtain ⟨i, _, rfl⟩ := List.mem_map.mp hd
  exact .int i
theorem eqd_s (rows : List (List Int)) {k : Nat} : EqD (k + 2) (sD rows) := .tup fun d hd => by
  obtain ⟨r, _, rfl⟩ := List.mem_map.mp hd
  exact eqd_row r
def zr (n : Nat) : List Int := List.replicate n 0
def es (h n : Nat) : List (List Int) := List.replicate h (zr n)
structure SOk (h n : Nat) (rows : List (List Int)) : Prop where
  h : rows.length = h
  n : ∀ r ∈ rows, r.length = n
theorem es_ok (h n : Nat) : SOk h n (es h n) := ⟨by unfold es; rw [List.length_replicate], fun r hr => by
  rw [(List.mem_replicate.mp hr).2]; exact List.length_replicate⟩
section
variable {names : List Str} {nums : List Int} {menu : List Mn}
theorem kd0 : ixD (.lst (kD names nums menu)) (.int 0) = .ok (.lst (names.map .str)) := rfl
theorem kd1 : ixD (.lst (kD names nums menu)) (.int 1) = .ok (.lst (nums.map .int)) := rfl
theorem kd2 : ixD (.lst (kD names nums menu)) (.int 2) = .ok (.lst (menu.map mnD)) := rfl
theorem hz_hi (K : KOk names nums menu) : hz menu ≤ 101 := hz_le (by decide) fun m hm n hn => by
  have := (K.m m hm).b n hn
  omega
theorem hz_nat : ((hz menu).toNat : Int) = hz menu := Int.toNat_of_nonneg (by have := hz_pos menu; omega)
theorem empty_ok (K : KOk names nums menu) : F_w_empty [.lst (kD names nums menu)] = .ok (sD (es (hz menu).toNat names.length)) := by
  unfold F_w_empty den_w_empty
  rw [runD_at, show entryS [true] 3 [.lst (kD names nums menu)] = ⟨[.sh (.lst (kD names nums menu)), .no, .no], none⟩ from rfl]
  have hh := hz_hi K
  have hp := hz_pos menu
  have kn := K.nl
  have rg : rg1 [.int (hz menu)] = .ok ((List.range (hz menu).toNat).map fun i => .int ((0 : Int) + (i : Nat))) := rg_ok (by omega)
  have in1 : ∀ s1 : Sl, eLc [2] (e1 (e2 (vS 0) (cD (.int 0)) ixD) seqItems) (gN 2) l_w_empty_0 ⟨[.sh (.lst (kD names nums menu)), s1, .no], none⟩ = .ok ((zr names.length).map .int) := fun s1 => by
    refine (eLc_of (ds := names.map .str) rfl (by simp only [runD_at, entryS_at, slF_t, slF_f, slD_int, slD_str, slD_bl, slD_lst, List.zipWith_cons_cons, List.zipWith_nil_left, List.map, List.length, sSeq_at, sNil_at, sRet_at, sRetN_at, sRetNone_at, sIf_at, sSet_at, sSetN_at, sExpr_at, sPar_at, sTgt_at, sMut_at, sPut_at, sFor_at, sRaise_at, sTry_at, atT_at, Rho.set_mk, gN_at, forL_nil, forL_cons, outR_rt, outR_nx, outR_ex, isLst_int, isLst_bl, isLst_tup, ckFlat_int, ckFlat_bl, e1_at, e2_at, e3c_at, cD_at, aNil_at, aCons_at, eTup_at, eLst_at, toL_at, vS_at, vB_at, eAnd_at, eOr_at, eNot_at, vAnd_at, vOr_at, vNot_at, eIf_at, eSl_at, asBl_bl, asInt_int, asLst_lst, addD_int, addI_int, subD_int, negD_int, ltB_int, leB_int, gtB_int, geB_int, eqB_int, neB_int, eqB_str, neB_str, intK_int, absN, lenK_lst, lenK_tup, ixD_tup0, ixD_tup1, ixD_tup2, ixD_lst0, ixD_lst1, ixD_lst2, ixD_lst3, Res.bind_ok, Res.bind_exc, Res.bind_stuck, andThen_ok, andThen_exc, andS_nx, andS_rt, andS_ex, andS_bk, andS_ct, loopO_nx, loopO_ct, loopO_bk, loopO_rt, loopO_ex, List.getElem?_cons_zero, List.getElem?_cons_succ, List.set_cons_zero, List.set_cons_succ, List.length_cons, List.length_nil, List.replicate, List.append_nil, List.nil_append, List.cons_append, Nat.zero_add, Nat.reduceAdd, Nat.reduceSub, Nat.reduceEqDiff, Nat.reduceLT, Bool.and_true, Bool.true_and, Bool.and_false, Bool.false_and, Bool.not_true, Bool.not_false, Bool.false_eq_true, decide_true, decide_false, decide_eq_true_eq, ite_true, ite_false, if_true, if_false, Bool.and_self, Bool.not_not, and_self, and_true, true_and, not_true_eq_false, not_false_eq_true, ckLen_ok, Nat.reduceLeDiff, fld_name, fld_first, fld_second, fld_needs, tn0, tn1, tn2, onC_dD, onCI_dD, cf_str, cf_tn, ↓eMk_at, dD_fold, frz_at, asStr_str, eJoin_at, ↓eFs_at, catP_nil, empty_app, isLst_str, isLst_dD, isLst_non, nc0, nc1, nc2, nc3, nc4, nc5, nc6, nc7, nc8, nc9, nc10, nc11, nc12, Int.reduceEq, Int.reduceLT, Int.reduceLE, Int.reduceNeg, ok1_ok, wipeR_nil, wipeR_cons, ki_names, ki_present, ki_dishes, ki_longest, onC_ki, onCI_ki, isLst_ki, slLst_hi, slLst_lo, slTup_hi, slTup_lo, kd0, reduceIte]; rfl) (by rw [List.length_map]; omega) (mapL_gen (b := D.int) (g := fun _ => 0) fun z hz' => rfl)).trans ?_
    congr 2
    unfold zr
    exact List.map_const' ..
  have out1 : eLc [1] (e1 (aCons (e1 (aCons (vS 0) aNil) F_w_horizon) aNil) rg1) (gN 1) l_w_empty_1 ⟨[.sh (.lst (kD names nums menu)), .no, .no], none⟩ = .ok ((es (hz menu).toNat names.length).map rowD) := by
    refine (eLc_of (ds := (List.range (hz menu).toNat).map fun i => .int ((0 : Int) + (i : Nat))) rfl (by simp only [runD_at, entryS_at, slF_t, slF_f, slD_int, slD_str, slD_bl, slD_lst, List.zipWith_cons_cons, List.zipWith_nil_left, List.map, List.length, sSeq_at, sNil_at, sRet_at, sRetN_at, sRetNone_at, sIf_at, sSet_at, sSetN_at, sExpr_at, sPar_at, sTgt_at, sMut_at, sPut_at, sFor_at, sRaise_at, sTry_at, atT_at, Rho.set_mk, gN_at, forL_nil, forL_cons, outR_rt, outR_nx, outR_ex, isLst_int, isLst_bl, isLst_tup, ckFlat_int, ckFlat_bl, e1_at, e2_at, e3c_at, cD_at, aNil_at, aCons_at, eTup_at, eLst_at, toL_at, vS_at, vB_at, eAnd_at, eOr_at, eNot_at, vAnd_at, vOr_at, vNot_at, eIf_at, eSl_at, asBl_bl, asInt_int, asLst_lst, addD_int, addI_int, subD_int, negD_int, ltB_int, leB_int, gtB_int, geB_int, eqB_int, neB_int, eqB_str, neB_str, intK_int, absN, lenK_lst, lenK_tup, ixD_tup0, ixD_tup1, ixD_tup2, ixD_lst0, ixD_lst1, ixD_lst2, ixD_lst3, Res.bind_ok, Res.bind_exc, Res.bind_stuck, andThen_ok, andThen_exc, andS_nx, andS_rt, andS_ex, andS_bk, andS_ct, loopO_nx, loopO_ct, loopO_bk, loopO_rt, loopO_ex, List.getElem?_cons_zero, List.getElem?_cons_succ, List.set_cons_zero, List.set_cons_succ, List.length_cons, List.length_nil, List.replicate, List.append_nil, List.nil_append, List.cons_append, Nat.zero_add, Nat.reduceAdd, Nat.reduceSub, Nat.reduceEqDiff, Nat.reduceLT, Bool.and_true, Bool.true_and, Bool.and_false, Bool.false_and, Bool.not_true, Bool.not_false, Bool.false_eq_true, decide_true, decide_false, decide_eq_true_eq, ite_true, ite_false, if_true, if_false, Bool.and_self, Bool.not_not, and_self, and_true, true_and, not_true_eq_false, not_false_eq_true, ckLen_ok, Nat.reduceLeDiff, fld_name, fld_first, fld_second, fld_needs, tn0, tn1, tn2, onC_dD, onCI_dD, cf_str, cf_tn, ↓eMk_at, dD_fold, frz_at, asStr_str, eJoin_at, ↓eFs_at, catP_nil, empty_app, isLst_str, isLst_dD, isLst_non, nc0, nc1, nc2, nc3, nc4, nc5, nc6, nc7, nc8, nc9, nc10, nc11, nc12, Int.reduceEq, Int.reduceLT, Int.reduceLE, Int.reduceNeg, ok1_ok, wipeR_nil, wipeR_cons, ki_names, ki_present, ki_dishes, ki_longest, onC_ki, onCI_ki, isLst_ki, slLst_hi, slLst_lo, slTup_hi, slTup_lo, horizon_ok, rg, reduceIte]) (by rw [List.length_map, List.length_range]; omega) (mapL_gen (b := rowD) (g := fun _ : Nat => zr names.length) fun i hi => ?_)).trans ?_
    · refine lcOne_of (gN_at ..) ?_
      unfold l_w_empty_1
      simp only [runD_at, entryS_at, slF_t, slF_f, slD_int, slD_str, slD_bl, slD_lst, List.zipWith_cons_cons, List.zipWith_nil_left, List.map, List.length, sSeq_at, sNil_at, sRet_at, sRetN_at, sRetNone_at, sIf_at, sSet_at, sSetN_at, sExpr_at, sPar_at, sTgt_at, sMut_at, sPut_at, sFor_at, sRaise_at, sTry_at, atT_at, Rho.set_mk, gN_at, forL_nil, forL_cons, outR_rt, outR_nx, outR_ex, isLst_int, isLst_bl, isLst_tup, ckFlat_int, ckFlat_bl, e1_at, e2_at, e3c_at, cD_at, aNil_at, aCons_at, eTup_at, eLst_at, toL_at, vS_at, vB_at, eAnd_at, eOr_at, eNot_at, vAnd_at, vOr_at, vNot_at, eIf_at, eSl_at, asBl_bl, asInt_int, asLst_lst, addD_int, addI_int, subD_int, negD_int, ltB_int, leB_int, gtB_int, geB_int, eqB_int, neB_int, eqB_str, neB_str, intK_int, absN, lenK_lst, lenK_tup, ixD_tup0, ixD_tup1, ixD_tup2, ixD_lst0, ixD_lst1, ixD_lst2, ixD_lst3, Res.bind_ok, Res.bind_exc, Res.bind_stuck, andThen_ok, andThen_exc, andS_nx, andS_rt, andS_ex, andS_bk, andS_ct, loopO_nx, loopO_ct, loopO_bk, loopO_rt, loopO_ex, List.getElem?_cons_zero, List.getElem?_cons_succ, List.set_cons_zero, List.set_cons_succ, List.length_cons, List.length_nil, List.replicate, List.append_nil, List.nil_append, List.cons_append, Nat.zero_add, Nat.reduceAdd, Nat.reduceSub, Nat.reduceEqDiff, Nat.reduceLT, Bool.and_true, Bool.true_and, Bool.and_false, Bool.false_and, Bool.not_true, Bool.not_false, Bool.false_eq_true, decide_true, decide_false, decide_eq_true_eq, ite_true, ite_false, if_true, if_false, Bool.and_self, Bool.not_not, and_self, and_true, true_and, not_true_eq_false, not_false_eq_true, ckLen_ok, Nat.reduceLeDiff, fld_name, fld_first, fld_second, fld_needs, tn0, tn1, tn2, onC_dD, onCI_dD, cf_str, cf_tn, ↓eMk_at, dD_fold, frz_at, asStr_str, eJoin_at, ↓eFs_at, catP_nil, empty_app, isLst_str, isLst_dD, isLst_non, nc0, nc1, nc2, nc3, nc4, nc5, nc6, nc7, nc8, nc9, nc10, nc11, nc12, Int.reduceEq, Int.reduceLT, Int.reduceLE, Int.reduceNeg, ok1_ok, wipeR_nil, wipeR_cons, ki_names, ki_present, ki_dishes, ki_longest, onC_ki, onCI_ki, isLst_ki, slLst_hi, slLst_lo, slTup_hi, slTup_lo, in1, show tupKF [.lst ((zr names.length).map .int)] = .ok (.tup ((zr names.length).map .int)) from if_pos (fl_int _), reduceIte]
      rfl
    · congr 2
      unfold es
      rw [List.map_const', List.length_range]
  simp only [runD_at, entryS_at, slF_t, slF_f, slD_int, slD_str, slD_bl, slD_lst, List.zipWith_cons_cons, List.zipWith_nil_left, List.map, List.length, sSeq_at, sNil_at, sRet_at, sRetN_at, sRetNone_at, sIf_at, sSet_at, sSetN_at, sExpr_at, sPar_at, sTgt_at, sMut_at, sPut_at, sFor_at, sRaise_at, sTry_at, atT_at, Rho.set_mk, gN_at, forL_nil, forL_cons, outR_rt, outR_nx, outR_ex, isLst_int, isLst_bl, isLst_tup, ckFlat_int, ckFlat_bl, e1_at, e2_at, e3c_at, cD_at, aNil_at, aCons_at, eTup_at, eLst_at, toL_at, vS_at, vB_at, eAnd_at, eOr_at, eNot_at, vAnd_at, vOr_at, vNot_at, eIf_at, eSl_at, asBl_bl, asInt_int, asLst_lst, addD_int, addI_int, subD_int, negD_int, ltB_int, leB_int, gtB_int, geB_int, eqB_int, neB_int, eqB_str, neB_str, intK_int, absN, lenK_lst, lenK_tup, ixD_tup0, ixD_tup1, ixD_tup2, ixD_lst0, ixD_lst1, ixD_lst2, ixD_lst3, Res.bind_ok, Res.bind_exc, Res.bind_stuck, andThen_ok, andThen_exc, andS_nx, andS_rt, andS_ex, andS_bk, andS_ct, loopO_nx, loopO_ct, loopO_bk, loopO_rt, loopO_ex, List.getElem?_cons_zero, List.getElem?_cons_succ, List.set_cons_zero, List.set_cons_succ, List.length_cons, List.length_nil, List.replicate, List.append_nil, List.nil_append, List.cons_append, Nat.zero_add, Nat.reduceAdd, Nat.reduceSub, Nat.reduceEqDiff, Nat.reduceLT, Bool.and_true, Bool.true_and, Bool.and_false, Bool.false_and, Bool.not_true, Bool.not_false, Bool.false_eq_true, decide_true, decide_false, decide_eq_true_eq, ite_true, ite_false, if_true, if_false, Bool.and_self, Bool.not_not, and_self, and_true, true_and, not_true_eq_false, not_false_eq_true, ckLen_ok, Nat.reduceLeDiff, fld_name, fld_first, fld_second, fld_needs, tn0, tn1, tn2, onC_dD, onCI_dD, cf_str, cf_tn, ↓eMk_at, dD_fold, frz_at, asStr_str, eJoin_at, ↓eFs_at, catP_nil, empty_app, isLst_str, isLst_dD, isLst_non, nc0, nc1, nc2, nc3, nc4, nc5, nc6, nc7, nc8, nc9, nc10, nc11, nc12, Int.reduceEq, Int.reduceLT, Int.reduceLE, Int.reduceNeg, ok1_ok, wipeR_nil, wipeR_cons, ki_names, ki_present, ki_dishes, ki_longest, onC_ki, onCI_ki, isLst_ki, slLst_hi, slLst_lo, slTup_hi, slTup_lo, out1, show tupKF [.lst ((es (hz menu).toNat names.length).map rowD)] = .ok (.tup ((es (hz menu).toNat names.length).map rowD)) from if_pos (fl_rows _), reduceIte]
  rfl
theorem isint_ok (x : Int) : F_w_is_integer [.int x] = .ok (.bl true) := rfl
theorem is_standing_ok (K : KOk names nums menu) {rows : List (List Int)} (S : SOk (hz menu).toNat names.length rows) : F_w_is_standing [sD rows, .lst (kD names nums menu)] = .ok (.bl true) := by
  unfold F_w_is_standing den_w_is_standing
  rw [runD_at, show entryS [true, true] 4 [sD rows, .lst (kD names nums menu)] = ⟨[.sh (sD rows), .sh (.lst (kD names nums menu)), .no, .no], none⟩ from rfl]
  have it : isiK [sD rows, .ty "tuple"] = .ok (.bl true) := rfl
  have ln : lenK [sD rows] = .ok (.int (hz menu)) := by
    have hh := hz_hi K
    have := S.h
    have e : (rows.map rowD).length = (hz menu).toNat := by rw [List.length_map, S.h]
    rw [← hz_nat, ← e]
    rfl
  have ne : ∀ i : Int, neB (.int i) (.int i) = .ok false := fun i => by rw [neB_int]; simp
  obtain ⟨A, hA⟩ : ∃ A, Sl.sh (sD rows) = A := ⟨_, rfl⟩
  have lp1 : ∀ (r : List Int) (s2 s3 : Sl), ∃ t3, forL (atT (gN 3) fb_w_is_standing_1) (r.map .int) ⟨[A, .sh (.lst (kD names nums menu)), s2, s3], none⟩ = .nx ⟨[A, .sh (.lst (kD names nums menu)), s2, t3], none⟩ := by
    intro r
    induction r with
    | nil => exact fun s2 s3 => ⟨s3, rfl⟩
    | cons i r ih =>
      intro s2 s3
      obtain ⟨t3, e⟩ := ih s2 (.sh (.int i))
      refine ⟨t3, ?_⟩
      rw [List.map_cons]
      simp only [runD_at, entryS_at, slF_t, slF_f, slD_int, slD_str, slD_bl, slD_lst, List.zipWith_cons_cons, List.zipWith_nil_left, List.map, List.length, sSeq_at, sNil_at, sRet_at, sRetN_at, sRetNone_at, sIf_at, sSet_at, sSetN_at, sExpr_at, sPar_at, sTgt_at, sMut_at, sPut_at, sFor_at, sRaise_at, sTry_at, atT_at, Rho.set_mk, gN_at, forL_nil, forL_cons, outR_rt, outR_nx, outR_ex, isLst_int, isLst_bl, isLst_tup, ckFlat_int, ckFlat_bl, e1_at, e2_at, e3c_at, cD_at, aNil_at, aCons_at, eTup_at, eLst_at, toL_at, vS_at, vB_at, eAnd_at, eOr_at, eNot_at, vAnd_at, vOr_at, vNot_at, eIf_at, eSl_at, asBl_bl, asInt_int, asLst_lst, addD_int, addI_int, subD_int, negD_int, ltB_int, leB_int, gtB_int, geB_int, eqB_int, neB_int, eqB_str, neB_str, intK_int, absN, lenK_lst, lenK_tup, ixD_tup0, ixD_tup1, ixD_tup2, ixD_lst0, ixD_lst1, ixD_lst2, ixD_lst3, Res.bind_ok, Res.bind_exc, Res.bind_stuck, andThen_ok, andThen_exc, andS_nx, andS_rt, andS_ex, andS_bk, andS_ct, loopO_nx, loopO_ct, loopO_bk, loopO_rt, loopO_ex, List.getElem?_cons_zero, List.getElem?_cons_succ, List.set_cons_zero, List.set_cons_succ, List.length_cons, List.length_nil, List.replicate, List.append_nil, List.nil_append, List.cons_append, Nat.zero_add, Nat.reduceAdd, Nat.reduceSub, Nat.reduceEqDiff, Nat.reduceLT, Bool.and_true, Bool.true_and, Bool.and_false, Bool.false_and, Bool.not_true, Bool.not_false, Bool.false_eq_true, decide_true, decide_false, decide_eq_true_eq, ite_true, ite_false, if_true, if_false, Bool.and_self, Bool.not_not, and_self, and_true, true_and, not_true_eq_false, not_false_eq_true, ckLen_ok, Nat.reduceLeDiff, fld_name, fld_first, fld_second, fld_needs, tn0, tn1, tn2, onC_dD, onCI_dD, cf_str, cf_tn, ↓eMk_at, dD_fold, frz_at, asStr_str, eJoin_at, ↓eFs_at, catP_nil, empty_app, isLst_str, isLst_dD, isLst_non, nc0, nc1, nc2, nc3, nc4, nc5, nc6, nc7, nc8, nc9, nc10, nc11, nc12, Int.reduceEq, Int.reduceLT, Int.reduceLE, Int.reduceNeg, ok1_ok, wipeR_nil, wipeR_cons, ki_names, ki_present, ki_dishes, ki_longest, onC_ki, onCI_ki, isLst_ki, slLst_hi, slLst_lo, slTup_hi, slTup_lo, fb_w_is_standing_1, isint_ok, reduceIte]
      exact e
  have kn := K.nl
  have lp2 : ∀ (rs : List (List Int)) (s2 s3 : Sl), (∀ r ∈ rs, r.length = names.length) → ∃ t2 t3, forL (atT (gN 2) fb_w_is_standing_0) (rs.map rowD) ⟨[A, .sh (.lst (kD names nums menu)), s2, s3], none⟩ = .nx ⟨[A, .sh (.lst (kD names nums menu)), t2, t3], none⟩ := by
    intro rs
    induction rs with
    | nil => exact fun s2 s3 _ => ⟨s2, s3, rfl⟩
    | cons r rs ih =>
      intro s2 s3 h
      obtain ⟨a3, e2⟩ := lp1 r (.sh (rowD r)) s3
      obtain ⟨t2, t3, e⟩ := ih (.sh (rowD r)) a3 fun q hq => h q (List.mem_cons_of_mem _ hq)
      refine ⟨t2, t3, ?_⟩
      rw [List.map_cons]
      have hr := h r List.mem_cons_self
      have lr : lenK [rowD r] = .ok (.int (names.length : Int)) := by
        have e : (r.map D.int).length = names.length := by rw [List.length_map, hr]
        rw [← e]
        rfl
      simp only [runD_at, entryS_at, slF_t, slF_f, slD_int, slD_str, slD_bl, slD_lst, List.zipWith_cons_cons, List.zipWith_nil_left, List.map, List.length, sSeq_at, sNil_at, sRet_at, sRetN_at, sRetNone_at, sIf_at, sSet_at, sSetN_at, sExpr_at, sPar_at, sTgt_at, sMut_at, sPut_at, sFor_at, sRaise_at, sTry_at, atT_at, Rho.set_mk, gN_at, forL_nil, forL_cons, outR_rt, outR_nx, outR_ex, isLst_int, isLst_bl, isLst_tup, ckFlat_int, ckFlat_bl, e1_at, e2_at, e3c_at, cD_at, aNil_at, aCons_at, eTup_at, eLst_at, toL_at, vS_at, vB_at, eAnd_at, eOr_at, eNot_at, vAnd_at, vOr_at, vNot_at, eIf_at, eSl_at, asBl_bl, asInt_int, asLst_lst, addD_int, addI_int, subD_int, negD_int, ltB_int, leB_int, gtB_int, geB_int, eqB_int, neB_int, eqB_str, neB_str, intK_int, absN, lenK_lst, lenK_tup, ixD_tup0, ixD_tup1, ixD_tup2, ixD_lst0, ixD_lst1, ixD_lst2, ixD_lst3, Res.bind_ok, Res.bind_exc, Res.bind_stuck, andThen_ok, andThen_exc, andS_nx, andS_rt, andS_ex, andS_bk, andS_ct, loopO_nx, loopO_ct, loopO_bk, loopO_rt, loopO_ex, List.getElem?_cons_zero, List.getElem?_cons_succ, List.set_cons_zero, List.set_cons_succ, List.length_cons, List.length_nil, List.replicate, List.append_nil, List.nil_append, List.cons_append, Nat.zero_add, Nat.reduceAdd, Nat.reduceSub, Nat.reduceEqDiff, Nat.reduceLT, Bool.and_true, Bool.true_and, Bool.and_false, Bool.false_and, Bool.not_true, Bool.not_false, Bool.false_eq_true, decide_true, decide_false, decide_eq_true_eq, ite_true, ite_false, if_true, if_false, Bool.and_self, Bool.not_not, and_self, and_true, true_and, not_true_eq_false, not_false_eq_true, ckLen_ok, Nat.reduceLeDiff, fld_name, fld_first, fld_second, fld_needs, tn0, tn1, tn2, onC_dD, onCI_dD, cf_str, cf_tn, ↓eMk_at, dD_fold, frz_at, asStr_str, eJoin_at, ↓eFs_at, catP_nil, empty_app, isLst_str, isLst_dD, isLst_non, nc0, nc1, nc2, nc3, nc4, nc5, nc6, nc7, nc8, nc9, nc10, nc11, nc12, Int.reduceEq, Int.reduceLT, Int.reduceLE, Int.reduceNeg, ok1_ok, wipeR_nil, wipeR_cons, ki_names, ki_present, ki_dishes, ki_longest, onC_ki, onCI_ki, isLst_ki, slLst_hi, slLst_lo, slTup_hi, slTup_lo, fb_w_is_standing_0, show isiK [rowD r, .ty "tuple"] = .ok (.bl true) from rfl, lr, kd0, List.length_map, ne, show seqItems (rowD r) = .ok (r.map .int) from rfl, e2, reduceIte]
      exact e
  obtain ⟨t2, t3, e⟩ := lp2 rows .no .no S.n
  refine outR_and (by simp only [runD_at, entryS_at, slF_t, slF_f, slD_int, slD_str, slD_bl, slD_lst, List.zipWith_cons_cons, List.zipWith_nil_left, List.map, List.length, sSeq_at, sNil_at, sRet_at, sRetN_at, sRetNone_at, sIf_at, sSet_at, sSetN_at, sExpr_at, sPar_at, sTgt_at, sMut_at, sPut_at, sFor_at, sRaise_at, sTry_at, atT_at, Rho.set_mk, gN_at, forL_nil, forL_cons, outR_rt, outR_nx, outR_ex, isLst_int, isLst_bl, isLst_tup, ckFlat_int, ckFlat_bl, e1_at, e2_at, e3c_at, cD_at, aNil_at, aCons_at, eTup_at, eLst_at, toL_at, vS_at, vB_at, eAnd_at, eOr_at, eNot_at, vAnd_at, vOr_at, vNot_at, eIf_at, eSl_at, asBl_bl, asInt_int, asLst_lst, addD_int, addI_int, subD_int, negD_int, ltB_int, leB_int, gtB_int, geB_int, eqB_int, neB_int, eqB_str, neB_str, intK_int, absN, lenK_lst, lenK_tup, ixD_tup0, ixD_tup1, ixD_tup2, ixD_lst0, ixD_lst1, ixD_lst2, ixD_lst3, Res.bind_ok, Res.bind_exc, Res.bind_stuck, andThen_ok, andThen_exc, andS_nx, andS_rt, andS_ex, andS_bk, andS_ct, loopO_nx, loopO_ct, loopO_bk, loopO_rt, loopO_ex, List.getElem?_cons_zero, List.getElem?_cons_succ, List.set_cons_zero, List.set_cons_succ, List.length_cons, List.length_nil, List.replicate, List.append_nil, List.nil_append, List.cons_append, Nat.zero_add, Nat.reduceAdd, Nat.reduceSub, Nat.reduceEqDiff, Nat.reduceLT, Bool.and_true, Bool.true_and, Bool.and_false, Bool.false_and, Bool.not_true, Bool.not_false, Bool.false_eq_true, decide_true, decide_false, decide_eq_true_eq, ite_true, ite_false, if_true, if_false, Bool.and_self, Bool.not_not, and_self, and_true, true_and, not_true_eq_false, not_false_eq_true, ckLen_ok, Nat.reduceLeDiff, fld_name, fld_first, fld_second, fld_needs, tn0, tn1, tn2, onC_dD, onCI_dD, cf_str, cf_tn, ↓eMk_at, dD_fold, frz_at, asStr_str, eJoin_at, ↓eFs_at, catP_nil, empty_app, isLst_str, isLst_dD, isLst_non, nc0, nc1, nc2, nc3, nc4, nc5, nc6, nc7, nc8, nc9, nc10, nc11, nc12, Int.reduceEq, Int.reduceLT, Int.reduceLE, Int.reduceNeg, ok1_ok, wipeR_nil, wipeR_cons, ki_names, ki_present, ki_dishes, ki_longest, onC_ki, onCI_ki, isLst_ki, slLst_hi, slLst_lo, slTup_hi, slTup_lo, it, ln, horizon_ok, ne, reduceIte] <;> (with_reducible exact rfl)) ?_
  have f : e1 (vS 0) seqItems ⟨[.sh (sD rows), .sh (.lst (kD names nums menu)), .no, .no], none⟩ = .ok (rows.map rowD) := rfl
  rw [hA] at f ⊢
  refine outR_and (ρ' := ⟨[A, .sh (.lst (kD names nums menu)), t2, t3], none⟩) (by
    rw [sFor_at, f, andThen_ok]
    exact e) ?_
  simp only [runD_at, entryS_at, slF_t, slF_f, slD_int, slD_str, slD_bl, slD_lst, List.zipWith_cons_cons, List.zipWith_nil_left, List.map, List.length, sSeq_at, sNil_at, sRet_at, sRetN_at, sRetNone_at, sIf_at, sSet_at, sSetN_at, sExpr_at, sPar_at, sTgt_at, sMut_at, sPut_at, sFor_at, sRaise_at, sTry_at, atT_at, Rho.set_mk, gN_at, forL_nil, forL_cons, outR_rt, outR_nx, outR_ex, isLst_int, isLst_bl, isLst_tup, ckFlat_int, ckFlat_bl, e1_at, e2_at, e3c_at, cD_at, aNil_at, aCons_at, eTup_at, eLst_at, toL_at, vS_at, vB_at, eAnd_at, eOr_at, eNot_at, vAnd_at, vOr_at, vNot_at, eIf_at, eSl_at, asBl_bl, asInt_int, asLst_lst, addD_int, addI_int, subD_int, negD_int, ltB_int, leB_int, gtB_int, geB_int, eqB_int, neB_int, eqB_str, neB_str, intK_int, absN, lenK_lst, lenK_tup, ixD_tup0, ixD_tup1, ixD_tup2, ixD_lst0, ixD_lst1, ixD_lst2, ixD_lst3, Res.bind_ok, Res.bind_exc, Res.bind_stuck, andThen_ok, andThen_exc, andS_nx, andS_rt, andS_ex, andS_bk, andS_ct, loopO_nx, loopO_ct, loopO_bk, loopO_rt, loopO_ex, List.getElem?_cons_zero, List.getElem?_cons_succ, List.set_cons_zero, List.set_cons_succ, List.length_cons, List.length_nil, List.replicate, List.append_nil, List.nil_append, List.cons_append, Nat.zero_add, Nat.reduceAdd, Nat.reduceSub, Nat.reduceEqDiff, Nat.reduceLT, Bool.and_true, Bool.true_and, Bool.and_false, Bool.false_and, Bool.not_true, Bool.not_false, Bool.false_eq_true, decide_true, decide_false, decide_eq_true_eq, ite_true, ite_false, if_true, if_false, Bool.and_self, Bool.not_not, and_self, and_true, true_and, not_true_eq_false, not_false_eq_true, ckLen_ok, Nat.reduceLeDiff, fld_name, fld_first, fld_second, fld_needs, tn0, tn1, tn2, onC_dD, onCI_dD, cf_str, cf_tn, ↓eMk_at, dD_fold, frz_at, asStr_str, eJoin_at, ↓eFs_at, catP_nil, empty_app, isLst_str, isLst_dD, isLst_non, nc0, nc1, nc2, nc3, nc4, nc5, nc6, nc7, nc8, nc9, nc10, nc11, nc12, Int.reduceEq, Int.reduceLT, Int.reduceLE, Int.reduceNeg, ok1_ok, wipeR_nil, wipeR_cons, ki_names, ki_present, ki_dishes, ki_longest, onC_ki, onCI_ki, isLst_ki, slLst_hi, slLst_lo, slTup_hi, slTup_lo, reduceIte]
theorem same_ok (K : KOk names nums menu) {rows : List (List Int)} (S : SOk (hz menu).toNat names.length rows) : F_w_same [sD rows, sD rows, .lst (kD names nums menu)] = .ok (.bl true) := by
  unfold F_w_same den_w_same
  rw [runD_at, show entryS [true, true, true] 3 [sD rows, sD rows, .lst (kD names nums menu)] = ⟨[.sh (sD rows), .sh (sD rows), .sh (.lst (kD names nums menu))], none⟩ from rfl]
  simp only [runD_at, entryS_at, slF_t, slF_f, slD_int, slD_str, slD_bl, slD_lst, List.zipWith_cons_cons, List.zipWith_nil_left, List.map, List.length, sSeq_at, sNil_at, sRet_at, sRetN_at, sRetNone_at, sIf_at, sSet_at, sSetN_at, sExpr_at, sPar_at, sTgt_at, sMut_at, sPut_at, sFor_at, sRaise_at, sTry_at, atT_at, Rho.set_mk, gN_at, forL_nil, forL_cons, outR_rt, outR_nx, outR_ex, isLst_int, isLst_bl, isLst_tup, ckFlat_int, ckFlat_bl, e1_at, e2_at, e3c_at, cD_at, aNil_at, aCons_at, eTup_at, eLst_at, toL_at, vS_at, vB_at, eAnd_at, eOr_at, eNot_at, vAnd_at, vOr_at, vNot_at, eIf_at, eSl_at, asBl_bl, asInt_int, asLst_lst, addD_int, addI_int, subD_int, negD_int, ltB_int, leB_int, gtB_int, geB_int, eqB_int, neB_int, eqB_str, neB_str, intK_int, absN, lenK_lst, lenK_tup, ixD_tup0, ixD_tup1, ixD_tup2, ixD_lst0, ixD_lst1, ixD_lst2, ixD_lst3, Res.bind_ok, Res.bind_exc, Res.bind_stuck, andThen_ok, andThen_exc, andS_nx, andS_rt, andS_ex, andS_bk, andS_ct, loopO_nx, loopO_ct, loopO_bk, loopO_rt, loopO_ex, List.getElem?_cons_zero, List.getElem?_cons_succ, List.set_cons_zero, List.set_cons_succ, List.length_cons, List.length_nil, List.replicate, List.append_nil, List.nil_append, List.cons_append, Nat.zero_add, Nat.reduceAdd, Nat.reduceSub, Nat.reduceEqDiff, Nat.reduceLT, Bool.and_true, Bool.true_and, Bool.and_false, Bool.false_and, Bool.not_true, Bool.not_false, Bool.false_eq_true, decide_true, decide_false, decide_eq_true_eq, ite_true, ite_false, if_true, if_false, Bool.and_self, Bool.not_not, and_self, and_true, true_and, not_true_eq_false, not_false_eq_true, ckLen_ok, Nat.reduceLeDiff, fld_name, fld_first, fld_second, fld_needs, tn0, tn1, tn2, onC_dD, onCI_dD, cf_str, cf_tn, ↓eMk_at, dD_fold, frz_at, asStr_str, eJoin_at, ↓eFs_at, catP_nil, empty_app, isLst_str, isLst_dD, isLst_non, nc0, nc1, nc2, nc3, nc4, nc5, nc6, nc7, nc8, nc9, nc10, nc11, nc12, Int.reduceEq, Int.reduceLT, Int.reduceLE, Int.reduceNeg, ok1_ok, wipeR_nil, wipeR_cons, ki_names, ki_present, ki_dishes, ki_longest, onC_ki, onCI_ki, isLst_ki, slLst_hi, slLst_lo, slTup_hi, slTup_lo, is_standing_ok K S, eqB_self (eqd_s rows (k := 0)) (by decide), reduceIte]
theorem rep_one {α : Type} (x : α) (n : Nat) : (List.replicate n [x]).flatten = List.replicate n x := by
  induction n with
  | zero => rfl
  | succ n ih => rw [List.replicate_succ, List.flatten_cons, ih]; rfl
theorem mulT_ok {d : D} {k : Nat} (h : k ≤ 1000) : mulT (.tup [d]) (.int (k : Int)) = .ok (.tup (List.replicate k d)) := by
  show (if -1000 ≤ (k : Int) ∧ (k : Int) ≤ 1000 ∧ [d].length ≤ 1000 then Res.ok (D.tup (List.replicate (k : Int).toNat [d]).flatten) else .stuck) = _
  rw [if_pos ⟨by omega, by omega, by simp⟩, Int.toNat_natCast, rep_one]
theorem after_beat_ok {h n : Nat} {rows : List (List Int)} (S : SOk h n rows) (h0 : 0 < h) (h1 : h ≤ 200) (hn : n ≤ 100) : F_after_beat [sD rows] = .ok (sD (rows.drop 1 ++ [zr n])) := by
  unfold F_after_beat den_after_beat
  rw [runD_at, show entryS [true] 1 [sD rows] = ⟨[.sh (sD rows)], none⟩ from rfl]
  have hl := S.h
  have i0 : ixD (sD rows) (.int 0) = .ok (rowD (rows[0]'(by omega))) := by
    have := ixD_tup (ds := rows.map rowD) (k := 0) (by rw [List.length_map]; omega)
    rw [List.getElem_map] at this
    exact this
  have e0 : (rows[0]'(by omega)).length = n := S.n _ (List.getElem_mem _)
  have lr : lenK [rowD (rows[0]'(by omega))] = .ok (.int (n : Int)) := by
    have e : ((rows[0]'(by omega)).map D.int).length = n := by rw [List.length_map, e0]
    rw [← e]
    rfl
  have z : D.tup (List.replicate n (.int 0)) = rowD (zr n) := by
    unfold rowD zr
    rw [List.map_replicate]
  have sl := slTup_lo (ds := rows.map rowD) (p := 1)
  have sl' : slTup (some 1) none (sD rows) = .ok (.tup ((rows.map rowD).drop 1)) := sl
  have ad : addD (.tup ((rows.map rowD).drop 1)) (.tup [rowD (zr n)]) = .ok (sD (rows.drop 1 ++ [zr n])) := by
    show (if ((rows.map rowD).drop 1).length + 1 ≤ line then Res.ok (D.tup ((rows.map rowD).drop 1 ++ [rowD (zr n)])) else .stuck) = _
    rw [if_pos (by rw [List.length_drop, List.length_map]; exact Nat.le_trans (show rows.length - 1 + 1 ≤ 400 by omega) (by decide))]
    unfold sD
    rw [List.map_append, List.map_drop]
    rfl
  simp only [runD_at, entryS_at, slF_t, slF_f, slD_int, slD_str, slD_bl, slD_lst, List.zipWith_cons_cons, List.zipWith_nil_left, List.map, List.length, sSeq_at, sNil_at, sRet_at, sRetN_at, sRetNone_at, sIf_at, sSet_at, sSetN_at, sExpr_at, sPar_at, sTgt_at, sMut_at, sPut_at, sFor_at, sRaise_at, sTry_at, atT_at, Rho.set_mk, gN_at, forL_nil, forL_cons, outR_rt, outR_nx, outR_ex, isLst_int, isLst_bl, isLst_tup, ckFlat_int, ckFlat_bl, e1_at, e2_at, e3c_at, cD_at, aNil_at, aCons_at, eTup_at, eLst_at, toL_at, vS_at, vB_at, eAnd_at, eOr_at, eNot_at, vAnd_at, vOr_at, vNot_at, eIf_at, eSl_at, asBl_bl, asInt_int, asLst_lst, addD_int, addI_int, subD_int, negD_int, ltB_int, leB_int, gtB_int, geB_int, eqB_int, neB_int, eqB_str, neB_str, intK_int, absN, lenK_lst, lenK_tup, ixD_tup0, ixD_tup1, ixD_tup2, ixD_lst0, ixD_lst1, ixD_lst2, ixD_lst3, Res.bind_ok, Res.bind_exc, Res.bind_stuck, andThen_ok, andThen_exc, andS_nx, andS_rt, andS_ex, andS_bk, andS_ct, loopO_nx, loopO_ct, loopO_bk, loopO_rt, loopO_ex, List.getElem?_cons_zero, List.getElem?_cons_succ, List.set_cons_zero, List.set_cons_succ, List.length_cons, List.length_nil, List.replicate, List.append_nil, List.nil_append, List.cons_append, Nat.zero_add, Nat.reduceAdd, Nat.reduceSub, Nat.reduceEqDiff, Nat.reduceLT, Bool.and_true, Bool.true_and, Bool.and_false, Bool.false_and, Bool.not_true, Bool.not_false, Bool.false_eq_true, decide_true, decide_false, decide_eq_true_eq, ite_true, ite_false, if_true, if_false, Bool.and_self, Bool.not_not, and_self, and_true, true_and, not_true_eq_false, not_false_eq_true, ckLen_ok, Nat.reduceLeDiff, fld_name, fld_first, fld_second, fld_needs, tn0, tn1, tn2, onC_dD, onCI_dD, cf_str, cf_tn, ↓eMk_at, dD_fold, frz_at, asStr_str, eJoin_at, ↓eFs_at, catP_nil, empty_app, isLst_str, isLst_dD, isLst_non, nc0, nc1, nc2, nc3, nc4, nc5, nc6, nc7, nc8, nc9, nc10, nc11, nc12, Int.reduceEq, Int.reduceLT, Int.reduceLE, Int.reduceNeg, ok1_ok, wipeR_nil, wipeR_cons, ki_names, ki_present, ki_dishes, ki_longest, onC_ki, onCI_ki, isLst_ki, slLst_hi, slLst_lo, slTup_hi, slTup_lo, sl', i0, lr, mulT_ok (d := .int 0) (k := n) (by omega), z, ad, reduceIte]
  rfl
theorem empty_standing_ok (K : KOk names nums menu) (cK cd : Addr) : F_empty_standing cK [kiD cK cd names nums menu (hz menu)] = .ok (sD (es (hz menu).toNat names.length)) := by
  unfold F_empty_standing den_empty_standing
  rw [runD_at, show entryS [true] 1 [kiD cK cd names nums menu (hz menu)] = ⟨[.sh (kiD cK cd names nums menu (hz menu))], none⟩ from rfl]
  have hh := hz_hi K
  have hp := hz_pos menu
  have kn := K.nl
  have t : F_Kitchen_tools cK [kiD cK cd names nums menu (hz menu)] = .ok (.tup (names.map .str)) := by
    unfold F_Kitchen_tools den_Kitchen_tools
    rw [runD_at, show entryS [true] 1 [kiD cK cd names nums menu (hz menu)] = ⟨[.sh (kiD cK cd names nums menu (hz menu))], none⟩ from rfl]
    simp only [runD_at, entryS_at, slF_t, slF_f, slD_int, slD_str, slD_bl, slD_lst, List.zipWith_cons_cons, List.zipWith_nil_left, List.map, List.length, sSeq_at, sNil_at, sRet_at, sRetN_at, sRetNone_at, sIf_at, sSet_at, sSetN_at, sExpr_at, sPar_at, sTgt_at, sMut_at, sPut_at, sFor_at, sRaise_at, sTry_at, atT_at, Rho.set_mk, gN_at, forL_nil, forL_cons, outR_rt, outR_nx, outR_ex, isLst_int, isLst_bl, isLst_tup, ckFlat_int, ckFlat_bl, e1_at, e2_at, e3c_at, cD_at, aNil_at, aCons_at, eTup_at, eLst_at, toL_at, vS_at, vB_at, eAnd_at, eOr_at, eNot_at, vAnd_at, vOr_at, vNot_at, eIf_at, eSl_at, asBl_bl, asInt_int, asLst_lst, addD_int, addI_int, subD_int, negD_int, ltB_int, leB_int, gtB_int, geB_int, eqB_int, neB_int, eqB_str, neB_str, intK_int, absN, lenK_lst, lenK_tup, ixD_tup0, ixD_tup1, ixD_tup2, ixD_lst0, ixD_lst1, ixD_lst2, ixD_lst3, Res.bind_ok, Res.bind_exc, Res.bind_stuck, andThen_ok, andThen_exc, andS_nx, andS_rt, andS_ex, andS_bk, andS_ct, loopO_nx, loopO_ct, loopO_bk, loopO_rt, loopO_ex, List.getElem?_cons_zero, List.getElem?_cons_succ, List.set_cons_zero, List.set_cons_succ, List.length_cons, List.length_nil, List.replicate, List.append_nil, List.nil_append, List.cons_append, Nat.zero_add, Nat.reduceAdd, Nat.reduceSub, Nat.reduceEqDiff, Nat.reduceLT, Bool.and_true, Bool.true_and, Bool.and_false, Bool.false_and, Bool.not_true, Bool.not_false, Bool.false_eq_true, decide_true, decide_false, decide_eq_true_eq, ite_true, ite_false, if_true, if_false, Bool.and_self, Bool.not_not, and_self, and_true, true_and, not_true_eq_false, not_false_eq_true, ckLen_ok, Nat.reduceLeDiff, fld_name, fld_first, fld_second, fld_needs, tn0, tn1, tn2, onC_dD, onCI_dD, cf_str, cf_tn, ↓eMk_at, dD_fold, frz_at, asStr_str, eJoin_at, ↓eFs_at, catP_nil, empty_app, isLst_str, isLst_dD, isLst_non, nc0, nc1, nc2, nc3, nc4, nc5, nc6, nc7, nc8, nc9, nc10, nc11, nc12, Int.reduceEq, Int.reduceLT, Int.reduceLE, Int.reduceNeg, ok1_ok, wipeR_nil, wipeR_cons, ki_names, ki_present, ki_dishes, ki_longest, onC_ki, onCI_ki, isLst_ki, slLst_hi, slLst_lo, slTup_hi, slTup_lo, reduceIte]
  have hz' : F_Kitchen_horizon cK [kiD cK cd names nums menu (hz menu)] = .ok (.int (hz menu)) := by
    unfold F_Kitchen_horizon den_Kitchen_horizon
    rw [runD_at, show entryS [true] 1 [kiD cK cd names nums menu (hz menu)] = ⟨[.sh (kiD cK cd names nums menu (hz menu))], none⟩ from rfl]
    simp only [runD_at, entryS_at, slF_t, slF_f, slD_int, slD_str, slD_bl, slD_lst, List.zipWith_cons_cons, List.zipWith_nil_left, List.map, List.length, sSeq_at, sNil_at, sRet_at, sRetN_at, sRetNone_at, sIf_at, sSet_at, sSetN_at, sExpr_at, sPar_at, sTgt_at, sMut_at, sPut_at, sFor_at, sRaise_at, sTry_at, atT_at, Rho.set_mk, gN_at, forL_nil, forL_cons, outR_rt, outR_nx, outR_ex, isLst_int, isLst_bl, isLst_tup, ckFlat_int, ckFlat_bl, e1_at, e2_at, e3c_at, cD_at, aNil_at, aCons_at, eTup_at, eLst_at, toL_at, vS_at, vB_at, eAnd_at, eOr_at, eNot_at, vAnd_at, vOr_at, vNot_at, eIf_at, eSl_at, asBl_bl, asInt_int, asLst_lst, addD_int, addI_int, subD_int, negD_int, ltB_int, leB_int, gtB_int, geB_int, eqB_int, neB_int, eqB_str, neB_str, intK_int, absN, lenK_lst, lenK_tup, ixD_tup0, ixD_tup1, ixD_tup2, ixD_lst0, ixD_lst1, ixD_lst2, ixD_lst3, Res.bind_ok, Res.bind_exc, Res.bind_stuck, andThen_ok, andThen_exc, andS_nx, andS_rt, andS_ex, andS_bk, andS_ct, loopO_nx, loopO_ct, loopO_bk, loopO_rt, loopO_ex, List.getElem?_cons_zero, List.getElem?_cons_succ, List.set_cons_zero, List.set_cons_succ, List.length_cons, List.length_nil, List.replicate, List.append_nil, List.nil_append, List.cons_append, Nat.zero_add, Nat.reduceAdd, Nat.reduceSub, Nat.reduceEqDiff, Nat.reduceLT, Bool.and_true, Bool.true_and, Bool.and_false, Bool.false_and, Bool.not_true, Bool.not_false, Bool.false_eq_true, decide_true, decide_false, decide_eq_true_eq, ite_true, ite_false, if_true, if_false, Bool.and_self, Bool.not_not, and_self, and_true, true_and, not_true_eq_false, not_false_eq_true, ckLen_ok, Nat.reduceLeDiff, fld_name, fld_first, fld_second, fld_needs, tn0, tn1, tn2, onC_dD, onCI_dD, cf_str, cf_tn, ↓eMk_at, dD_fold, frz_at, asStr_str, eJoin_at, ↓eFs_at, catP_nil, empty_app, isLst_str, isLst_dD, isLst_non, nc0, nc1, nc2, nc3, nc4, nc5, nc6, nc7, nc8, nc9, nc10, nc11, nc12, Int.reduceEq, Int.reduceLT, Int.reduceLE, Int.reduceNeg, ok1_ok, wipeR_nil, wipeR_cons, ki_names, ki_present, ki_dishes, ki_longest, onC_ki, onCI_ki, isLst_ki, slLst_hi, slLst_lo, slTup_hi, slTup_lo, reduceIte]
  have m2 : mulT (.tup [rowD (zr names.length)]) (.int (hz menu)) = .ok (sD (es (hz menu).toNat names.length)) := by
    have := mulT_ok (d := rowD (zr names.length)) (k := (hz menu).toNat) (by omega)
    rw [hz_nat] at this
    rw [this]
    unfold sD es
    rw [List.map_replicate]
  have z : D.tup (List.replicate names.length (.int 0)) = rowD (zr names.length) := by
    unfold rowD zr
    rw [List.map_replicate]
  simp only [runD_at, entryS_at, slF_t, slF_f, slD_int, slD_str, slD_bl, slD_lst, List.zipWith_cons_cons, List.zipWith_nil_left, List.map, List.length, sSeq_at, sNil_at, sRet_at, sRetN_at, sRetNone_at, sIf_at, sSet_at, sSetN_at, sExpr_at, sPar_at, sTgt_at, sMut_at, sPut_at, sFor_at, sRaise_at, sTry_at, atT_at, Rho.set_mk, gN_at, forL_nil, forL_cons, outR_rt, outR_nx, outR_ex, isLst_int, isLst_bl, isLst_tup, ckFlat_int, ckFlat_bl, e1_at, e2_at, e3c_at, cD_at, aNil_at, aCons_at, eTup_at, eLst_at, toL_at, vS_at, vB_at, eAnd_at, eOr_at, eNot_at, vAnd_at, vOr_at, vNot_at, eIf_at, eSl_at, asBl_bl, asInt_int, asLst_lst, addD_int, addI_int, subD_int, negD_int, ltB_int, leB_int, gtB_int, geB_int, eqB_int, neB_int, eqB_str, neB_str, intK_int, absN, lenK_lst, lenK_tup, ixD_tup0, ixD_tup1, ixD_tup2, ixD_lst0, ixD_lst1, ixD_lst2, ixD_lst3, Res.bind_ok, Res.bind_exc, Res.bind_stuck, andThen_ok, andThen_exc, andS_nx, andS_rt, andS_ex, andS_bk, andS_ct, loopO_nx, loopO_ct, loopO_bk, loopO_rt, loopO_ex, List.getElem?_cons_zero, List.getElem?_cons_succ, List.set_cons_zero, List.set_cons_succ, List.length_cons, List.length_nil, List.replicate, List.append_nil, List.nil_append, List.cons_append, Nat.zero_add, Nat.reduceAdd, Nat.reduceSub, Nat.reduceEqDiff, Nat.reduceLT, Bool.and_true, Bool.true_and, Bool.and_false, Bool.false_and, Bool.not_true, Bool.not_false, Bool.false_eq_true, decide_true, decide_false, decide_eq_true_eq, ite_true, ite_false, if_true, if_false, Bool.and_self, Bool.not_not, and_self, and_true, true_and, not_true_eq_false, not_false_eq_true, ckLen_ok, Nat.reduceLeDiff, fld_name, fld_first, fld_second, fld_needs, tn0, tn1, tn2, onC_dD, onCI_dD, cf_str, cf_tn, ↓eMk_at, dD_fold, frz_at, asStr_str, eJoin_at, ↓eFs_at, catP_nil, empty_app, isLst_str, isLst_dD, isLst_non, nc0, nc1, nc2, nc3, nc4, nc5, nc6, nc7, nc8, nc9, nc10, nc11, nc12, Int.reduceEq, Int.reduceLT, Int.reduceLE, Int.reduceNeg, ok1_ok, wipeR_nil, wipeR_cons, ki_names, ki_present, ki_dishes, ki_longest, onC_ki, onCI_ki, isLst_ki, slLst_hi, slLst_lo, slTup_hi, slTup_lo, t, hz', List.length_map, mulT_ok (d := .int 0) (k := names.length) (by omega), z, m2, reduceIte]
  rfl
theorem some_standing_ok (K : KOk names nums menu) (ns : List Int) (a : Int) (ha : 0 ≤ a) : ∃ rows, F_w_some_standing [.lst (ns.map .int), .int a, .lst (kD names nums menu)] = .ok (sD rows) ∧ SOk (hz menu).toNat names.length rows := by
  unfold F_w_some_standing den_w_some_standing
  rw [runD_at, show entryS [false, true, true] 9 [.lst (ns.map .int), .int a, .lst (kD names nums menu)] = ⟨[.bo (.lst (ns.map .int)), .sh (.int a), .sh (.lst (kD names nums menu)), .no, .no, .no, .no, .no, .no], none⟩ from rfl]
  have hh := hz_hi K
  have hp := hz_pos menu
  have kn := K.nl
  have kl := K.kl
  have lp1 : ∀ (ks : List Nat) (acc : List Int) (A : Sl) (cell : Int) (s3 s4 s7 s8 : Sl), acc.length + ks.length ≤ 100 → (∀ k ∈ ks, k < names.length) → ∃ (acc' : List Int) (t7 t8 : Sl), acc'.length = acc.length + ks.length ∧
      forL (atT (gN 7) fb_w_some_standing_1) (ks.map fun i => .int ((0 : Int) + (i : Nat))) ⟨[A, .sh (.int a), .sh (.lst (kD names nums menu)), s3, s4, .sh (.int cell), .ow (acc.map .int), s7, s8], none⟩ = .nx ⟨[A, .sh (.int a), .sh (.lst (kD names nums menu)), s3, s4, .sh (.int cell), .ow (acc'.map .int), t7, t8], none⟩ := by
    intro ks
    induction ks with
    | nil => exact fun acc A cell s3 s4 s7 s8 _ _ => ⟨acc, s7, s8, rfl, rfl⟩
    | cons k ks ih =>
      intro acc A cell s3 s4 s7 s8 hl hk
      rw [List.length_cons] at hl
      have hk0 := hk k List.mem_cons_self
      have hk1 : k < nums.length := by omega
      have n0 := K.k0 _ (List.getElem_mem hk1)
      have m2 : mulD (.int 2) (.int (k : Int)) = .ok (.int (2 * (k : Int))) := mulD_int (mulOk_l (by decide) (by decide))
      obtain ⟨r, d1, q1⟩ := drw cell (2 * (k : Int)) 6 (by omega) (by omega) (by decide)
      have in1 : ixD (.lst (nums.map .int)) (.int (k : Int)) = .ok (.int nums[k]) := by
        rw [ixD_lst (k := k) (by simpa using hk1), List.getElem_map]
      obtain ⟨w, iw, w1⟩ : ∃ w : Int, ixD (.lst [.int 1, .int 2, .int 3, .int (nums[k] + 2), .int 1, .int 100001]) (.int (r : Int)) = .ok (.int w) ∧ 0 < w := by
        have : r = 0 ∨ r = 1 ∨ r = 2 ∨ r = 3 ∨ r = 4 ∨ r = 5 := by omega
        rcases this with e | e | e | e | e | e
        · subst e; exact ⟨1, ixD_lst (ds := [.int 1, .int 2, .int 3, .int (nums[k] + 2), .int 1, .int 100001]) (k := 0) (by simp), by decide⟩
        · subst e; exact ⟨2, ixD_lst (ds := [.int 1, .int 2, .int 3, .int (nums[k] + 2), .int 1, .int 100001]) (k := 1) (by simp), by decide⟩
        · subst e; exact ⟨3, ixD_lst (ds := [.int 1, .int 2, .int 3, .int (nums[k] + 2), .int 1, .int 100001]) (k := 2) (by simp), by decide⟩
        · subst e; exact ⟨nums[k] + 2, ixD_lst (ds := [.int 1, .int 2, .int 3, .int (nums[k] + 2), .int 1, .int 100001]) (k := 3) (by simp), by omega⟩
        · subst e; exact ⟨1, ixD_lst (ds := [.int 1, .int 2, .int 3, .int (nums[k] + 2), .int 1, .int 100001]) (k := 4) (by simp), by decide⟩
        · subst e; exact ⟨100001, ixD_lst (ds := [.int 1, .int 2, .int 3, .int (nums[k] + 2), .int 1, .int 100001]) (k := 5) (by simp), by decide⟩
      obtain ⟨v, d2, q2⟩ := drw cell (2 * (k : Int) + 1) w (by omega) (by omega) w1
      obtain ⟨acc', t7, t8, e1, e2⟩ := ih (acc ++ [(v : Int)]) A cell s3 s4 (.sh (.int (k : Int))) (.sh (.int w)) (by rw [List.length_append]; simp; omega) fun j hj => hk j (List.mem_cons_of_mem _ hj)
      refine ⟨acc', t7, t8, by rw [e1, List.length_append]; simp; omega, ?_⟩
      rw [List.map_cons, forL_cons, Int.zero_add]
      have ap : appK (acc.map .int) [.int (v : Int)] = .ok ((acc ++ [(v : Int)]).map .int) := by
        rw [Dv.app_ok (by rw [List.length_map]; omega), List.map_append]; rfl
      simp only [runD_at, entryS_at, slF_t, slF_f, slD_int, slD_str, slD_bl, slD_lst, List.zipWith_cons_cons, List.zipWith_nil_left, List.map, List.length, sSeq_at, sNil_at, sRet_at, sRetN_at, sRetNone_at, sIf_at, sSet_at, sSetN_at, sExpr_at, sPar_at, sTgt_at, sMut_at, sPut_at, sFor_at, sRaise_at, sTry_at, atT_at, Rho.set_mk, gN_at, forL_nil, forL_cons, outR_rt, outR_nx, outR_ex, isLst_int, isLst_bl, isLst_tup, ckFlat_int, ckFlat_bl, e1_at, e2_at, e3c_at, cD_at, aNil_at, aCons_at, eTup_at, eLst_at, toL_at, vS_at, vB_at, eAnd_at, eOr_at, eNot_at, vAnd_at, vOr_at, vNot_at, eIf_at, eSl_at, asBl_bl, asInt_int, asLst_lst, addD_int, addI_int, subD_int, negD_int, ltB_int, leB_int, gtB_int, geB_int, eqB_int, neB_int, eqB_str, neB_str, intK_int, absN, lenK_lst, lenK_tup, ixD_tup0, ixD_tup1, ixD_tup2, ixD_lst0, ixD_lst1, ixD_lst2, ixD_lst3, Res.bind_ok, Res.bind_exc, Res.bind_stuck, andThen_ok, andThen_exc, andS_nx, andS_rt, andS_ex, andS_bk, andS_ct, loopO_nx, loopO_ct, loopO_bk, loopO_rt, loopO_ex, List.getElem?_cons_zero, List.getElem?_cons_succ, List.set_cons_zero, List.set_cons_succ, List.length_cons, List.length_nil, List.replicate, List.append_nil, List.nil_append, List.cons_append, Nat.zero_add, Nat.reduceAdd, Nat.reduceSub, Nat.reduceEqDiff, Nat.reduceLT, Bool.and_true, Bool.true_and, Bool.and_false, Bool.false_and, Bool.not_true, Bool.not_false, Bool.false_eq_true, decide_true, decide_false, decide_eq_true_eq, ite_true, ite_false, if_true, if_false, Bool.and_self, Bool.not_not, and_self, and_true, true_and, not_true_eq_false, not_false_eq_true, ckLen_ok, Nat.reduceLeDiff, fld_name, fld_first, fld_second, fld_needs, tn0, tn1, tn2, onC_dD, onCI_dD, cf_str, cf_tn, ↓eMk_at, dD_fold, frz_at, asStr_str, eJoin_at, ↓eFs_at, catP_nil, empty_app, isLst_str, isLst_dD, isLst_non, nc0, nc1, nc2, nc3, nc4, nc5, nc6, nc7, nc8, nc9, nc10, nc11, nc12, Int.reduceEq, Int.reduceLT, Int.reduceLE, Int.reduceNeg, ok1_ok, wipeR_nil, wipeR_cons, ki_names, ki_present, ki_dishes, ki_longest, onC_ki, onCI_ki, isLst_ki, slLst_hi, slLst_lo, slTup_hi, slTup_lo, fb_w_some_standing_1, kd1, in1, m2, d1, iw, d2, ap, reduceIte]
      exact e2
  have rgn : rg1 [.int (names.length : Int)] = .ok ((List.range names.length).map fun i => .int ((0 : Int) + (i : Nat))) := rg_ok (by omega)
  have lp2 : ∀ (js : List Nat) (rows : List (List Int)) (s4 s5 s6 s7 s8 : Sl), rows.length + js.length ≤ 200 → (∀ r ∈ rows, r.length = names.length) → ∃ (rows' : List (List Int)) (t4 t5 t6 t7 t8 : Sl), rows'.length = rows.length + js.length ∧ (∀ r ∈ rows', r.length = names.length) ∧
      forL (atT (gN 4) fb_w_some_standing_0) (js.map fun i => .int ((0 : Int) + (i : Nat))) ⟨[.bo (.lst (ns.map .int)), .sh (.int a), .sh (.lst (kD names nums menu)), .ow (rows.map rowD), s4, s5, s6, s7, s8], none⟩ = .nx ⟨[.bo (.lst (ns.map .int)), .sh (.int a), .sh (.lst (kD names nums menu)), .ow (rows'.map rowD), t4, t5, t6, t7, t8], none⟩ := by
    intro js
    induction js with
    | nil => exact fun rows s4 s5 s6 s7 s8 _ h => ⟨rows, s4, s5, s6, s7, s8, rfl, h, rfl⟩
    | cons j js ih =>
      intro rows s4 s5 s6 s7 s8 hl hr
      rw [List.length_cons] at hl
      have p1 := pk_ok (ns := ns) (k := a + (j : Int)) (by omega)
      obtain ⟨row, a7, a8, e1, e2⟩ := lp1 (List.range names.length) [] (.bo (.lst (ns.map .int))) (pk ns (a + (j : Int)) + (j : Int)) (.ow (rows.map rowD)) (.sh (.int (j : Int))) s7 s8 (by simp; omega) fun k hk => List.mem_range.mp hk
      have rl : row.length = names.length := by rw [e1, List.length_range]; simp
      obtain ⟨rows', t4, t5, t6, t7, t8, g1, g2, g3⟩ := ih (rows ++ [row]) (.sh (.int (j : Int))) (.sh (.int (pk ns (a + (j : Int)) + (j : Int)))) (.ow (row.map .int)) a7 a8 (by rw [List.length_append]; simp; omega) fun q hq => by
        rcases List.mem_append.mp hq with hq | hq
        · exact hr q hq
        · rw [List.mem_singleton.mp hq]; exact rl
      refine ⟨rows', t4, t5, t6, t7, t8, by rw [g1, List.length_append]; simp; omega, g2, ?_⟩
      rw [List.map_cons, forL_cons, Int.zero_add]
      have ap : appK (rows.map rowD) [.tup (row.map .int)] = .ok ((rows ++ [row]).map rowD) := by
        rw [Dv.app_ok (by rw [List.length_map]; omega), List.map_append]; rfl
      have e2' : forL (atT (gN 7) fb_w_some_standing_1) ((List.range names.length).map fun i => .int ((0 : Int) + (i : Nat))) ⟨[.bo (.lst (ns.map .int)), .sh (.int a), .sh (.lst (kD names nums menu)), .ow (rows.map rowD), .sh (.int (j : Int)), .sh (.int (pk ns (a + (j : Int)) + (j : Int))), .ow [], s7, s8], none⟩ = _ := e2
      simp only [runD_at, entryS_at, slF_t, slF_f, slD_int, slD_str, slD_bl, slD_lst, List.zipWith_cons_cons, List.zipWith_nil_left, List.map, List.length, sSeq_at, sNil_at, sRet_at, sRetN_at, sRetNone_at, sIf_at, sSet_at, sSetN_at, sExpr_at, sPar_at, sTgt_at, sMut_at, sPut_at, sFor_at, sRaise_at, sTry_at, atT_at, Rho.set_mk, gN_at, forL_nil, forL_cons, outR_rt, outR_nx, outR_ex, isLst_int, isLst_bl, isLst_tup, ckFlat_int, ckFlat_bl, e1_at, e2_at, e3c_at, cD_at, aNil_at, aCons_at, eTup_at, eLst_at, toL_at, vS_at, vB_at, eAnd_at, eOr_at, eNot_at, vAnd_at, vOr_at, vNot_at, eIf_at, eSl_at, asBl_bl, asInt_int, asLst_lst, addD_int, addI_int, subD_int, negD_int, ltB_int, leB_int, gtB_int, geB_int, eqB_int, neB_int, eqB_str, neB_str, intK_int, absN, lenK_lst, lenK_tup, ixD_tup0, ixD_tup1, ixD_tup2, ixD_lst0, ixD_lst1, ixD_lst2, ixD_lst3, Res.bind_ok, Res.bind_exc, Res.bind_stuck, andThen_ok, andThen_exc, andS_nx, andS_rt, andS_ex, andS_bk, andS_ct, loopO_nx, loopO_ct, loopO_bk, loopO_rt, loopO_ex, List.getElem?_cons_zero, List.getElem?_cons_succ, List.set_cons_zero, List.set_cons_succ, List.length_cons, List.length_nil, List.replicate, List.append_nil, List.nil_append, List.cons_append, Nat.zero_add, Nat.reduceAdd, Nat.reduceSub, Nat.reduceEqDiff, Nat.reduceLT, Bool.and_true, Bool.true_and, Bool.and_false, Bool.false_and, Bool.not_true, Bool.not_false, Bool.false_eq_true, decide_true, decide_false, decide_eq_true_eq, ite_true, ite_false, if_true, if_false, Bool.and_self, Bool.not_not, and_self, and_true, true_and, not_true_eq_false, not_false_eq_true, ckLen_ok, Nat.reduceLeDiff, fld_name, fld_first, fld_second, fld_needs, tn0, tn1, tn2, onC_dD, onCI_dD, cf_str, cf_tn, ↓eMk_at, dD_fold, frz_at, asStr_str, eJoin_at, ↓eFs_at, catP_nil, empty_app, isLst_str, isLst_dD, isLst_non, nc0, nc1, nc2, nc3, nc4, nc5, nc6, nc7, nc8, nc9, nc10, nc11, nc12, Int.reduceEq, Int.reduceLT, Int.reduceLE, Int.reduceNeg, ok1_ok, wipeR_nil, wipeR_cons, ki_names, ki_present, ki_dishes, ki_longest, onC_ki, onCI_ki, isLst_ki, slLst_hi, slLst_lo, slTup_hi, slTup_lo, fb_w_some_standing_0, p1, kd0, List.length_map, rgn, e2', show tupKF [.lst (row.map .int)] = .ok (.tup (row.map .int)) from if_pos (fl_int _), ap, reduceIte]
      exact g3
  obtain ⟨rows, t4, t5, t6, t7, t8, g1, g2, g3⟩ := lp2 (List.range (hz menu).toNat) [] .no .no .no .no .no (by simp; omega) (fun r hr => by cases hr)
  refine ⟨rows, ?_, ⟨by rw [g1, List.length_range]; simp, g2⟩⟩
  have rg : rg1 [.int (hz menu)] = .ok ((List.range (hz menu).toNat).map fun i => .int ((0 : Int) + (i : Nat))) := rg_ok (by omega)
  have g3' : forL (atT (gN 4) fb_w_some_standing_0) ((List.range (hz menu).toNat).map fun i => .int ((0 : Int) + (i : Nat))) ⟨[.bo (.lst (ns.map .int)), .sh (.int a), .sh (.lst (kD names nums menu)), .ow [], .no, .no, .no, .no, .no], none⟩ = _ := g3
  refine outR_and (by simp only [runD_at, entryS_at, slF_t, slF_f, slD_int, slD_str, slD_bl, slD_lst, List.zipWith_cons_cons, List.zipWith_nil_left, List.map, List.length, sSeq_at, sNil_at, sRet_at, sRetN_at, sRetNone_at, sIf_at, sSet_at, sSetN_at, sExpr_at, sPar_at, sTgt_at, sMut_at, sPut_at, sFor_at, sRaise_at, sTry_at, atT_at, Rho.set_mk, gN_at, forL_nil, forL_cons, outR_rt, outR_nx, outR_ex, isLst_int, isLst_bl, isLst_tup, ckFlat_int, ckFlat_bl, e1_at, e2_at, e3c_at, cD_at, aNil_at, aCons_at, eTup_at, eLst_at, toL_at, vS_at, vB_at, eAnd_at, eOr_at, eNot_at, vAnd_at, vOr_at, vNot_at, eIf_at, eSl_at, asBl_bl, asInt_int, asLst_lst, addD_int, addI_int, subD_int, negD_int, ltB_int, leB_int, gtB_int, geB_int, eqB_int, neB_int, eqB_str, neB_str, intK_int, absN, lenK_lst, lenK_tup, ixD_tup0, ixD_tup1, ixD_tup2, ixD_lst0, ixD_lst1, ixD_lst2, ixD_lst3, Res.bind_ok, Res.bind_exc, Res.bind_stuck, andThen_ok, andThen_exc, andS_nx, andS_rt, andS_ex, andS_bk, andS_ct, loopO_nx, loopO_ct, loopO_bk, loopO_rt, loopO_ex, List.getElem?_cons_zero, List.getElem?_cons_succ, List.set_cons_zero, List.set_cons_succ, List.length_cons, List.length_nil, List.replicate, List.append_nil, List.nil_append, List.cons_append, Nat.zero_add, Nat.reduceAdd, Nat.reduceSub, Nat.reduceEqDiff, Nat.reduceLT, Bool.and_true, Bool.true_and, Bool.and_false, Bool.false_and, Bool.not_true, Bool.not_false, Bool.false_eq_true, decide_true, decide_false, decide_eq_true_eq, ite_true, ite_false, if_true, if_false, Bool.and_self, Bool.not_not, and_self, and_true, true_and, not_true_eq_false, not_false_eq_true, ckLen_ok, Nat.reduceLeDiff, fld_name, fld_first, fld_second, fld_needs, tn0, tn1, tn2, onC_dD, onCI_dD, cf_str, cf_tn, ↓eMk_at, dD_fold, frz_at, asStr_str, eJoin_at, ↓eFs_at, catP_nil, empty_app, isLst_str, isLst_dD, isLst_non, nc0, nc1, nc2, nc3, nc4, nc5, nc6, nc7, nc8, nc9, nc10, nc11, nc12, Int.reduceEq, Int.reduceLT, Int.reduceLE, Int.reduceNeg, ok1_ok, wipeR_nil, wipeR_cons, ki_names, ki_present, ki_dishes, ki_longest, onC_ki, onCI_ki, isLst_ki, slLst_hi, slLst_lo, slTup_hi, slTup_lo, reduceIte] <;> (with_reducible exact rfl)) ?_
  refine outR_and (by simp only [runD_at, entryS_at, slF_t, slF_f, slD_int, slD_str, slD_bl, slD_lst, List.zipWith_cons_cons, List.zipWith_nil_left, List.map, List.length, sSeq_at, sNil_at, sRet_at, sRetN_at, sRetNone_at, sIf_at, sSet_at, sSetN_at, sExpr_at, sPar_at, sTgt_at, sMut_at, sPut_at, sFor_at, sRaise_at, sTry_at, atT_at, Rho.set_mk, gN_at, forL_nil, forL_cons, outR_rt, outR_nx, outR_ex, isLst_int, isLst_bl, isLst_tup, ckFlat_int, ckFlat_bl, e1_at, e2_at, e3c_at, cD_at, aNil_at, aCons_at, eTup_at, eLst_at, toL_at, vS_at, vB_at, eAnd_at, eOr_at, eNot_at, vAnd_at, vOr_at, vNot_at, eIf_at, eSl_at, asBl_bl, asInt_int, asLst_lst, addD_int, addI_int, subD_int, negD_int, ltB_int, leB_int, gtB_int, geB_int, eqB_int, neB_int, eqB_str, neB_str, intK_int, absN, lenK_lst, lenK_tup, ixD_tup0, ixD_tup1, ixD_tup2, ixD_lst0, ixD_lst1, ixD_lst2, ixD_lst3, Res.bind_ok, Res.bind_exc, Res.bind_stuck, andThen_ok, andThen_exc, andS_nx, andS_rt, andS_ex, andS_bk, andS_ct, loopO_nx, loopO_ct, loopO_bk, loopO_rt, loopO_ex, List.getElem?_cons_zero, List.getElem?_cons_succ, List.set_cons_zero, List.set_cons_succ, List.length_cons, List.length_nil, List.replicate, List.append_nil, List.nil_append, List.cons_append, Nat.zero_add, Nat.reduceAdd, Nat.reduceSub, Nat.reduceEqDiff, Nat.reduceLT, Bool.and_true, Bool.true_and, Bool.and_false, Bool.false_and, Bool.not_true, Bool.not_false, Bool.false_eq_true, decide_true, decide_false, decide_eq_true_eq, ite_true, ite_false, if_true, if_false, Bool.and_self, Bool.not_not, and_self, and_true, true_and, not_true_eq_false, not_false_eq_true, ckLen_ok, Nat.reduceLeDiff, fld_name, fld_first, fld_second, fld_needs, tn0, tn1, tn2, onC_dD, onCI_dD, cf_str, cf_tn, ↓eMk_at, dD_fold, frz_at, asStr_str, eJoin_at, ↓eFs_at, catP_nil, empty_app, isLst_str, isLst_dD, isLst_non, nc0, nc1, nc2, nc3, nc4, nc5, nc6, nc7, nc8, nc9, nc10, nc11, nc12, Int.reduceEq, Int.reduceLT, Int.reduceLE, Int.reduceNeg, ok1_ok, wipeR_nil, wipeR_cons, ki_names, ki_present, ki_dishes, ki_longest, onC_ki, onCI_ki, isLst_ki, slLst_hi, slLst_lo, slTup_hi, slTup_lo, horizon_ok, rg, g3', reduceIte] <;> (with_reducible exact rfl)) ?_
  simp only [runD_at, entryS_at, slF_t, slF_f, slD_int, slD_str, slD_bl, slD_lst, List.zipWith_cons_cons, List.zipWith_nil_left, List.map, List.length, sSeq_at, sNil_at, sRet_at, sRetN_at, sRetNone_at, sIf_at, sSet_at, sSetN_at, sExpr_at, sPar_at, sTgt_at, sMut_at, sPut_at, sFor_at, sRaise_at, sTry_at, atT_at, Rho.set_mk, gN_at, forL_nil, forL_cons, outR_rt, outR_nx, outR_ex, isLst_int, isLst_bl, isLst_tup, ckFlat_int, ckFlat_bl, e1_at, e2_at, e3c_at, cD_at, aNil_at, aCons_at, eTup_at, eLst_at, toL_at, vS_at, vB_at, eAnd_at, eOr_at, eNot_at, vAnd_at, vOr_at, vNot_at, eIf_at, eSl_at, asBl_bl, asInt_int, asLst_lst, addD_int, addI_int, subD_int, negD_int, ltB_int, leB_int, gtB_int, geB_int, eqB_int, neB_int, eqB_str, neB_str, intK_int, absN, lenK_lst, lenK_tup, ixD_tup0, ixD_tup1, ixD_tup2, ixD_lst0, ixD_lst1, ixD_lst2, ixD_lst3, Res.bind_ok, Res.bind_exc, Res.bind_stuck, andThen_ok, andThen_exc, andS_nx, andS_rt, andS_ex, andS_bk, andS_ct, loopO_nx, loopO_ct, loopO_bk, loopO_rt, loopO_ex, List.getElem?_cons_zero, List.getElem?_cons_succ, List.set_cons_zero, List.set_cons_succ, List.length_cons, List.length_nil, List.replicate, List.append_nil, List.nil_append, List.cons_append, Nat.zero_add, Nat.reduceAdd, Nat.reduceSub, Nat.reduceEqDiff, Nat.reduceLT, Bool.and_true, Bool.true_and, Bool.and_false, Bool.false_and, Bool.not_true, Bool.not_false, Bool.false_eq_true, decide_true, decide_false, decide_eq_true_eq, ite_true, ite_false, if_true, if_false, Bool.and_self, Bool.not_not, and_self, and_true, true_and, not_true_eq_false, not_false_eq_true, ckLen_ok, Nat.reduceLeDiff, fld_name, fld_first, fld_second, fld_needs, tn0, tn1, tn2, onC_dD, onCI_dD, cf_str, cf_tn, ↓eMk_at, dD_fold, frz_at, asStr_str, eJoin_at, ↓eFs_at, catP_nil, empty_app, isLst_str, isLst_dD, isLst_non, nc0, nc1, nc2, nc3, nc4, nc5, nc6, nc7, nc8, nc9, nc10, nc11, nc12, Int.reduceEq, Int.reduceLT, Int.reduceLE, Int.reduceNeg, ok1_ok, wipeR_nil, wipeR_cons, ki_names, ki_present, ki_dishes, ki_longest, onC_ki, onCI_ki, isLst_ki, slLst_hi, slLst_lo, slTup_hi, slTup_lo, show tupKF [.lst (rows.map rowD)] = .ok (.tup (rows.map rowD)) from if_pos (fl_rows _), reduceIte]
  rfl
end
end Kx

set_option Elab.async false
set_option linter.all false
set_option maxRecDepth 100000
set_option maxHeartbeats 1000000
namespace Kx
open PySem PySem.Spec L2 Dv
open PyProof.Rows hiding St
theorem drop_rep {α : Type} (x : α) (n k : Nat) : (List.replicate n x).drop k = List.replicate (n - k) x := by
  rw [List.drop_replicate]
/-- the standing behind b beats -/
def lat (rows : List (List Int)) (n b : Nat) : List (List Int) := rows.drop b ++ List.replicate b (zr n)
theorem lat_ok {h n : Nat} {rows : List (List Int)} (S : SOk h n rows) (b : Nat) (hb : b ≤ h) : SOk h n (lat rows n b) := ⟨by
  unfold lat
  rw [List.length_append, List.length_drop, List.length_replicate, S.h]; omega, fun r hr => by
  rcases List.mem_append.mp hr with hr | hr
  · exact S.n r (List.mem_of_mem_drop hr)
  · rw [(List.mem_replicate.mp hr).2]; exact List.length_replicate⟩
theorem lat_step {h n : Nat} {rows : List (List Int)} (S : SOk h n rows) {b : Nat} (hb : b < h) : (lat rows n b).drop 1 ++ [zr n] = lat rows n (b + 1) := by
  unfold lat
  rw [List.drop_append_of_le_length (by rw [List.length_drop, S.h]; omega), List.drop_drop, List.append_assoc, Nat.add_comm b 1, ← List.replicate_succ', Nat.add_comm 1 b]
theorem law_true (ci ck cu cd cK : Addr) : ∀ ns : List Int, ns.length ≤ 63 → F_law ci ck cu cd cK [.lst (ns.map .int)] = .ok (.bl true) := by
  intro ns hl
  unfold F_law den_law
  rw [runD_at, show entryS [false] 8 [.lst (ns.map .int)] = ⟨[.bo (.lst (ns.map .int)), .no, .no, .no, .no, .no, .no, .no], none⟩ from rfl]
  obtain ⟨names, nums, menu, e1, K, _⟩ := broad_ok ns 0 (by decide) (by decide)
  have e2 := built_ok ci ck cu cd cK K
  have e3 := empty_ok K
  have e4 := empty_standing_ok K cK cd
  have hh := hz_hi K
  have hp := hz_pos menu
  have kn := K.nl
  obtain ⟨rows, e5, S⟩ := some_standing_ok K ns 5 (by decide)
  have E := es_ok (hz menu).toNat names.length
  have m1 := same_ok K E
  obtain ⟨h, hh'⟩ : ∃ h : Nat, (hz menu).toNat = h := ⟨_, rfl⟩
  have hN : h ≤ 101 := by omega
  have hP : 0 < h := by omega
  have same := fun rows S => same_ok K (rows := rows) S
  rw [hh'] at e3 e4 S E m1 same
  obtain ⟨n, hn⟩ : ∃ n : Nat, names.length = n := ⟨_, rfl⟩
  rw [hn] at e3 e4 S E m1 kn same
  obtain ⟨KD, hKD⟩ : ∃ KD, D.lst (kD names nums menu) = KD := ⟨_, rfl⟩
  obtain ⟨R, hR⟩ : ∃ R, kiD cK cd names nums menu (hz menu) = R := ⟨_, rfl⟩
  have al : asLst KD = .ok (kD names nums menu) := by rw [← hKD]; rfl
  rw [hKD] at e1 e2 e3 e5 m1 same
  rw [hR] at e2 e4
  -- the beats
  have lp : ∀ (m b : Nat) (s6 s7 : Sl), b + m = h → ∃ t6 t7 : Sl, forL (atT (gN 6) (fb_law_0 ci ck cu cd cK)) ((List.range' b m).map fun i => .int ((0 : Int) + (i : Nat))) ⟨[.bo (.lst (ns.map .int)), .sh KD, .sh R, .sh (sD (es h n)), .sh (sD rows), .sh (sD (lat rows n b)), s6, s7], none⟩ = .nx ⟨[.bo (.lst (ns.map .int)), .sh KD, .sh R, .sh (sD (es h n)), .sh (sD rows), .sh (sD (lat rows n h)), t6, t7], none⟩ := by
    intro m
    induction m with
    | zero => exact fun b s6 s7 hb => ⟨s6, s7, by rw [show h = b from by omega]; rfl⟩
    | succ m ih =>
      intro b s6 s7 hb
      obtain ⟨t6, t7, e⟩ := ih (b + 1) (.sh (.int (b : Int))) (.sh (sD (lat rows n (b + 1)))) (by omega)
      refine ⟨t6, t7, ?_⟩
      have sl1 : slTup (some ((b : Int) + 1)) none (sD rows) = .ok (.tup ((rows.map rowD).drop (b + 1))) := slTup_lo (ds := rows.map rowD) (p := b + 1)
      have sl2 : slTup none (some ((b : Int) + 1)) (sD (es h n)) = .ok (.tup (((es h n).map rowD).take (b + 1))) := slTup_hi (ds := (es h n).map rowD) (p := b + 1)
      have ad : addD (.tup ((rows.map rowD).drop (b + 1))) (.tup (((es h n).map rowD).take (b + 1))) = .ok (sD (lat rows n (b + 1))) := by
        show (if ((rows.map rowD).drop (b + 1)).length + (((es h n).map rowD).take (b + 1)).length ≤ line then Res.ok (D.tup ((rows.map rowD).drop (b + 1) ++ ((es h n).map rowD).take (b + 1))) else .stuck) = _
        have hE := E.h
        rw [if_pos (by rw [List.length_drop, List.length_map, List.length_take, List.length_map, S.h, hE]; exact Nat.le_trans (show h - (b + 1) + min (b + 1) h ≤ 400 by omega) (show 400 ≤ 16777216 by decide))]
        unfold sD lat es
        rw [List.map_append, List.map_drop, List.map_replicate, List.map_replicate, List.take_replicate, Nat.min_eq_left (by omega)]
      have ab := after_beat_ok (lat_ok S b (by omega)) hP (by omega) (show n ≤ 100 by omega)
      rw [lat_step S (by omega)] at ab
      have sm := same _ (lat_ok S (b + 1) (by omega))
      rw [List.range'_succ, List.map_cons, forL_cons, Int.zero_add]
      simp only [runD_at, entryS_at, slF_t, slF_f, slD_int, slD_str, slD_bl, slD_lst, List.zipWith_cons_cons, List.zipWith_nil_left, List.map, List.length, sSeq_at, sNil_at, sRet_at, sRetN_at, sRetNone_at, sIf_at, sSet_at, sSetN_at, sExpr_at, sPar_at, sTgt_at, sMut_at, sPut_at, sFor_at, sRaise_at, sTry_at, atT_at, Rho.set_mk, gN_at, forL_nil, forL_cons, outR_rt, outR_nx, outR_ex, isLst_int, isLst_bl, isLst_tup, ckFlat_int, ckFlat_bl, e1_at, e2_at, e3c_at, cD_at, aNil_at, aCons_at, eTup_at, eLst_at, toL_at, vS_at, vB_at, eAnd_at, eOr_at, eNot_at, vAnd_at, vOr_at, vNot_at, eIf_at, eSl_at, asBl_bl, asInt_int, asLst_lst, addD_int, addI_int, subD_int, negD_int, ltB_int, leB_int, gtB_int, geB_int, eqB_int, neB_int, eqB_str, neB_str, intK_int, absN, lenK_lst, lenK_tup, ixD_tup0, ixD_tup1, ixD_tup2, ixD_lst0, ixD_lst1, ixD_lst2, ixD_lst3, Res.bind_ok, Res.bind_exc, Res.bind_stuck, andThen_ok, andThen_exc, andS_nx, andS_rt, andS_ex, andS_bk, andS_ct, loopO_nx, loopO_ct, loopO_bk, loopO_rt, loopO_ex, List.getElem?_cons_zero, List.getElem?_cons_succ, List.set_cons_zero, List.set_cons_succ, List.length_cons, List.length_nil, List.replicate, List.append_nil, List.nil_append, List.cons_append, Nat.zero_add, Nat.reduceAdd, Nat.reduceSub, Nat.reduceEqDiff, Nat.reduceLT, Bool.and_true, Bool.true_and, Bool.and_false, Bool.false_and, Bool.not_true, Bool.not_false, Bool.false_eq_true, decide_true, decide_false, decide_eq_true_eq, ite_true, ite_false, if_true, if_false, Bool.and_self, Bool.not_not, and_self, and_true, true_and, not_true_eq_false, not_false_eq_true, ckLen_ok, Nat.reduceLeDiff, fld_name, fld_first, fld_second, fld_needs, tn0, tn1, tn2, onC_dD, onCI_dD, cf_str, cf_tn, ↓eMk_at, dD_fold, frz_at, asStr_str, eJoin_at, ↓eFs_at, catP_nil, empty_app, isLst_str, isLst_dD, isLst_non, nc0, nc1, nc2, nc3, nc4, nc5, nc6, nc7, nc8, nc9, nc10, nc11, nc12, Int.reduceEq, Int.reduceLT, Int.reduceLE, Int.reduceNeg, ok1_ok, wipeR_nil, wipeR_cons, ki_names, ki_present, ki_dishes, ki_longest, onC_ki, onCI_ki, isLst_ki, slLst_hi, slLst_lo, slTup_hi, slTup_lo, fb_law_0, sl1, sl2, ad, ab, sm, reduceIte]
      exact e
  obtain ⟨t6, t7, e6⟩ := lp h 0 .no .no (by omega)
  rw [show lat rows n 0 = rows from by unfold lat; rw [List.drop_zero]; exact List.append_nil _, ← List.range_eq_range'] at e6
  have lh : lat rows n h = es h n := by
    unfold lat es
    rw [List.drop_of_length_le (by rw [S.h]; exact Nat.le_refl _), List.nil_append]
  rw [lh] at e6
  have ln : lenK [sD rows] = .ok (.int (h : Int)) := by
    show Res.ok (D.int ((rows.map rowD).length : Int)) = _
    rw [List.length_map, S.h]
  have rg : rg1 [.int (h : Int)] = .ok ((List.range h).map fun i => .int ((0 : Int) + (i : Nat))) := rg_ok (by omega)
  have ne := neB_self (eqd_s (es h n) (k := 0)) (by decide)
  have ab0 := after_beat_ok E hP (by omega) (show n ≤ 100 by omega)
  have ab1 := after_beat_ok S hP (by omega) (show n ≤ 100 by omega)
  have z0 : (es h n).drop 1 ++ [zr n] = es h n := by
    unfold es
    rw [List.drop_replicate, ← List.replicate_succ']
    congr 1
    omega
  rw [z0] at ab0
  have l1 : rows.drop 1 ++ [zr n] = lat rows n 1 := rfl
  rw [l1] at ab1
  have sl1 : slTup (some 1) none (sD rows) = .ok (.tup ((rows.map rowD).drop 1)) := slTup_lo (ds := rows.map rowD) (p := 1)
  have sl2 : slTup none (some 1) (sD (es h n)) = .ok (.tup (((es h n).map rowD).take 1)) := slTup_hi (ds := (es h n).map rowD) (p := 1)
  have ad : addD (.tup ((rows.map rowD).drop 1)) (.tup (((es h n).map rowD).take 1)) = .ok (sD (lat rows n 1)) := by
    show (if ((rows.map rowD).drop 1).length + (((es h n).map rowD).take 1).length ≤ line then Res.ok (D.tup ((rows.map rowD).drop 1 ++ ((es h n).map rowD).take 1)) else .stuck) = _
    have hE := E.h
    rw [if_pos (by rw [List.length_drop, List.length_map, List.length_take, List.length_map, S.h, hE]; exact Nat.le_trans (show h - 1 + min 1 h ≤ 400 by omega) (show 400 ≤ 16777216 by decide))]
    unfold sD lat es
    rw [List.map_append, List.map_drop, List.map_replicate, List.map_replicate, List.take_replicate, Nat.min_eq_left (by omega)]
  have sm1 := same _ (lat_ok S 1 (by omega))
  refine outR_and (by simp only [runD_at, entryS_at, slF_t, slF_f, slD_int, slD_str, slD_bl, slD_lst, List.zipWith_cons_cons, List.zipWith_nil_left, List.map, List.length, sSeq_at, sNil_at, sRet_at, sRetN_at, sRetNone_at, sIf_at, sSet_at, sSetN_at, sExpr_at, sPar_at, sTgt_at, sMut_at, sPut_at, sFor_at, sRaise_at, sTry_at, atT_at, Rho.set_mk, gN_at, forL_nil, forL_cons, outR_rt, outR_nx, outR_ex, isLst_int, isLst_bl, isLst_tup, ckFlat_int, ckFlat_bl, e1_at, e2_at, e3c_at, cD_at, aNil_at, aCons_at, eTup_at, eLst_at, toL_at, vS_at, vB_at, eAnd_at, eOr_at, eNot_at, vAnd_at, vOr_at, vNot_at, eIf_at, eSl_at, asBl_bl, asInt_int, asLst_lst, addD_int, addI_int, subD_int, negD_int, ltB_int, leB_int, gtB_int, geB_int, eqB_int, neB_int, eqB_str, neB_str, intK_int, absN, lenK_lst, lenK_tup, ixD_tup0, ixD_tup1, ixD_tup2, ixD_lst0, ixD_lst1, ixD_lst2, ixD_lst3, Res.bind_ok, Res.bind_exc, Res.bind_stuck, andThen_ok, andThen_exc, andS_nx, andS_rt, andS_ex, andS_bk, andS_ct, loopO_nx, loopO_ct, loopO_bk, loopO_rt, loopO_ex, List.getElem?_cons_zero, List.getElem?_cons_succ, List.set_cons_zero, List.set_cons_succ, List.length_cons, List.length_nil, List.replicate, List.append_nil, List.nil_append, List.cons_append, Nat.zero_add, Nat.reduceAdd, Nat.reduceSub, Nat.reduceEqDiff, Nat.reduceLT, Bool.and_true, Bool.true_and, Bool.and_false, Bool.false_and, Bool.not_true, Bool.not_false, Bool.false_eq_true, decide_true, decide_false, decide_eq_true_eq, ite_true, ite_false, if_true, if_false, Bool.and_self, Bool.not_not, and_self, and_true, true_and, not_true_eq_false, not_false_eq_true, ckLen_ok, Nat.reduceLeDiff, fld_name, fld_first, fld_second, fld_needs, tn0, tn1, tn2, onC_dD, onCI_dD, cf_str, cf_tn, ↓eMk_at, dD_fold, frz_at, asStr_str, eJoin_at, ↓eFs_at, catP_nil, empty_app, isLst_str, isLst_dD, isLst_non, nc0, nc1, nc2, nc3, nc4, nc5, nc6, nc7, nc8, nc9, nc10, nc11, nc12, Int.reduceEq, Int.reduceLT, Int.reduceLE, Int.reduceNeg, ok1_ok, wipeR_nil, wipeR_cons, ki_names, ki_present, ki_dishes, ki_longest, onC_ki, onCI_ki, isLst_ki, slLst_hi, slLst_lo, slTup_hi, slTup_lo, e1, al, reduceIte] <;> (with_reducible exact rfl)) ?_
  rw [hKD]
  refine outR_and (by simp only [runD_at, entryS_at, slF_t, slF_f, slD_int, slD_str, slD_bl, slD_lst, List.zipWith_cons_cons, List.zipWith_nil_left, List.map, List.length, sSeq_at, sNil_at, sRet_at, sRetN_at, sRetNone_at, sIf_at, sSet_at, sSetN_at, sExpr_at, sPar_at, sTgt_at, sMut_at, sPut_at, sFor_at, sRaise_at, sTry_at, atT_at, Rho.set_mk, gN_at, forL_nil, forL_cons, outR_rt, outR_nx, outR_ex, isLst_int, isLst_bl, isLst_tup, ckFlat_int, ckFlat_bl, e1_at, e2_at, e3c_at, cD_at, aNil_at, aCons_at, eTup_at, eLst_at, toL_at, vS_at, vB_at, eAnd_at, eOr_at, eNot_at, vAnd_at, vOr_at, vNot_at, eIf_at, eSl_at, asBl_bl, asInt_int, asLst_lst, addD_int, addI_int, subD_int, negD_int, ltB_int, leB_int, gtB_int, geB_int, eqB_int, neB_int, eqB_str, neB_str, intK_int, absN, lenK_lst, lenK_tup, ixD_tup0, ixD_tup1, ixD_tup2, ixD_lst0, ixD_lst1, ixD_lst2, ixD_lst3, Res.bind_ok, Res.bind_exc, Res.bind_stuck, andThen_ok, andThen_exc, andS_nx, andS_rt, andS_ex, andS_bk, andS_ct, loopO_nx, loopO_ct, loopO_bk, loopO_rt, loopO_ex, List.getElem?_cons_zero, List.getElem?_cons_succ, List.set_cons_zero, List.set_cons_succ, List.length_cons, List.length_nil, List.replicate, List.append_nil, List.nil_append, List.cons_append, Nat.zero_add, Nat.reduceAdd, Nat.reduceSub, Nat.reduceEqDiff, Nat.reduceLT, Bool.and_true, Bool.true_and, Bool.and_false, Bool.false_and, Bool.not_true, Bool.not_false, Bool.false_eq_true, decide_true, decide_false, decide_eq_true_eq, ite_true, ite_false, if_true, if_false, Bool.and_self, Bool.not_not, and_self, and_true, true_and, not_true_eq_false, not_false_eq_true, ckLen_ok, Nat.reduceLeDiff, fld_name, fld_first, fld_second, fld_needs, tn0, tn1, tn2, onC_dD, onCI_dD, cf_str, cf_tn, ↓eMk_at, dD_fold, frz_at, asStr_str, eJoin_at, ↓eFs_at, catP_nil, empty_app, isLst_str, isLst_dD, isLst_non, nc0, nc1, nc2, nc3, nc4, nc5, nc6, nc7, nc8, nc9, nc10, nc11, nc12, Int.reduceEq, Int.reduceLT, Int.reduceLE, Int.reduceNeg, ok1_ok, wipeR_nil, wipeR_cons, ki_names, ki_present, ki_dishes, ki_longest, onC_ki, onCI_ki, isLst_ki, slLst_hi, slLst_lo, slTup_hi, slTup_lo, e2, reduceIte] <;> (with_reducible exact rfl)) ?_
  refine outR_and (by simp only [runD_at, entryS_at, slF_t, slF_f, slD_int, slD_str, slD_bl, slD_lst, List.zipWith_cons_cons, List.zipWith_nil_left, List.map, List.length, sSeq_at, sNil_at, sRet_at, sRetN_at, sRetNone_at, sIf_at, sSet_at, sSetN_at, sExpr_at, sPar_at, sTgt_at, sMut_at, sPut_at, sFor_at, sRaise_at, sTry_at, atT_at, Rho.set_mk, gN_at, forL_nil, forL_cons, outR_rt, outR_nx, outR_ex, isLst_int, isLst_bl, isLst_tup, ckFlat_int, ckFlat_bl, e1_at, e2_at, e3c_at, cD_at, aNil_at, aCons_at, eTup_at, eLst_at, toL_at, vS_at, vB_at, eAnd_at, eOr_at, eNot_at, vAnd_at, vOr_at, vNot_at, eIf_at, eSl_at, asBl_bl, asInt_int, asLst_lst, addD_int, addI_int, subD_int, negD_int, ltB_int, leB_int, gtB_int, geB_int, eqB_int, neB_int, eqB_str, neB_str, intK_int, absN, lenK_lst, lenK_tup, ixD_tup0, ixD_tup1, ixD_tup2, ixD_lst0, ixD_lst1, ixD_lst2, ixD_lst3, Res.bind_ok, Res.bind_exc, Res.bind_stuck, andThen_ok, andThen_exc, andS_nx, andS_rt, andS_ex, andS_bk, andS_ct, loopO_nx, loopO_ct, loopO_bk, loopO_rt, loopO_ex, List.getElem?_cons_zero, List.getElem?_cons_succ, List.set_cons_zero, List.set_cons_succ, List.length_cons, List.length_nil, List.replicate, List.append_nil, List.nil_append, List.cons_append, Nat.zero_add, Nat.reduceAdd, Nat.reduceSub, Nat.reduceEqDiff, Nat.reduceLT, Bool.and_true, Bool.true_and, Bool.and_false, Bool.false_and, Bool.not_true, Bool.not_false, Bool.false_eq_true, decide_true, decide_false, decide_eq_true_eq, ite_true, ite_false, if_true, if_false, Bool.and_self, Bool.not_not, and_self, and_true, true_and, not_true_eq_false, not_false_eq_true, ckLen_ok, Nat.reduceLeDiff, fld_name, fld_first, fld_second, fld_needs, tn0, tn1, tn2, onC_dD, onCI_dD, cf_str, cf_tn, ↓eMk_at, dD_fold, frz_at, asStr_str, eJoin_at, ↓eFs_at, catP_nil, empty_app, isLst_str, isLst_dD, isLst_non, nc0, nc1, nc2, nc3, nc4, nc5, nc6, nc7, nc8, nc9, nc10, nc11, nc12, Int.reduceEq, Int.reduceLT, Int.reduceLE, Int.reduceNeg, ok1_ok, wipeR_nil, wipeR_cons, ki_names, ki_present, ki_dishes, ki_longest, onC_ki, onCI_ki, isLst_ki, slLst_hi, slLst_lo, slTup_hi, slTup_lo, e3, reduceIte] <;> (with_reducible exact rfl)) ?_
  refine outR_and (by simp only [runD_at, entryS_at, slF_t, slF_f, slD_int, slD_str, slD_bl, slD_lst, List.zipWith_cons_cons, List.zipWith_nil_left, List.map, List.length, sSeq_at, sNil_at, sRet_at, sRetN_at, sRetNone_at, sIf_at, sSet_at, sSetN_at, sExpr_at, sPar_at, sTgt_at, sMut_at, sPut_at, sFor_at, sRaise_at, sTry_at, atT_at, Rho.set_mk, gN_at, forL_nil, forL_cons, outR_rt, outR_nx, outR_ex, isLst_int, isLst_bl, isLst_tup, ckFlat_int, ckFlat_bl, e1_at, e2_at, e3c_at, cD_at, aNil_at, aCons_at, eTup_at, eLst_at, toL_at, vS_at, vB_at, eAnd_at, eOr_at, eNot_at, vAnd_at, vOr_at, vNot_at, eIf_at, eSl_at, asBl_bl, asInt_int, asLst_lst, addD_int, addI_int, subD_int, negD_int, ltB_int, leB_int, gtB_int, geB_int, eqB_int, neB_int, eqB_str, neB_str, intK_int, absN, lenK_lst, lenK_tup, ixD_tup0, ixD_tup1, ixD_tup2, ixD_lst0, ixD_lst1, ixD_lst2, ixD_lst3, Res.bind_ok, Res.bind_exc, Res.bind_stuck, andThen_ok, andThen_exc, andS_nx, andS_rt, andS_ex, andS_bk, andS_ct, loopO_nx, loopO_ct, loopO_bk, loopO_rt, loopO_ex, List.getElem?_cons_zero, List.getElem?_cons_succ, List.set_cons_zero, List.set_cons_succ, List.length_cons, List.length_nil, List.replicate, List.append_nil, List.nil_append, List.cons_append, Nat.zero_add, Nat.reduceAdd, Nat.reduceSub, Nat.reduceEqDiff, Nat.reduceLT, Bool.and_true, Bool.true_and, Bool.and_false, Bool.false_and, Bool.not_true, Bool.not_false, Bool.false_eq_true, decide_true, decide_false, decide_eq_true_eq, ite_true, ite_false, if_true, if_false, Bool.and_self, Bool.not_not, and_self, and_true, true_and, not_true_eq_false, not_false_eq_true, ckLen_ok, Nat.reduceLeDiff, fld_name, fld_first, fld_second, fld_needs, tn0, tn1, tn2, onC_dD, onCI_dD, cf_str, cf_tn, ↓eMk_at, dD_fold, frz_at, asStr_str, eJoin_at, ↓eFs_at, catP_nil, empty_app, isLst_str, isLst_dD, isLst_non, nc0, nc1, nc2, nc3, nc4, nc5, nc6, nc7, nc8, nc9, nc10, nc11, nc12, Int.reduceEq, Int.reduceLT, Int.reduceLE, Int.reduceNeg, ok1_ok, wipeR_nil, wipeR_cons, ki_names, ki_present, ki_dishes, ki_longest, onC_ki, onCI_ki, isLst_ki, slLst_hi, slLst_lo, slTup_hi, slTup_lo, e4, m1, reduceIte] <;> (with_reducible exact rfl)) ?_
  refine outR_and (by simp only [runD_at, entryS_at, slF_t, slF_f, slD_int, slD_str, slD_bl, slD_lst, List.zipWith_cons_cons, List.zipWith_nil_left, List.map, List.length, sSeq_at, sNil_at, sRet_at, sRetN_at, sRetNone_at, sIf_at, sSet_at, sSetN_at, sExpr_at, sPar_at, sTgt_at, sMut_at, sPut_at, sFor_at, sRaise_at, sTry_at, atT_at, Rho.set_mk, gN_at, forL_nil, forL_cons, outR_rt, outR_nx, outR_ex, isLst_int, isLst_bl, isLst_tup, ckFlat_int, ckFlat_bl, e1_at, e2_at, e3c_at, cD_at, aNil_at, aCons_at, eTup_at, eLst_at, toL_at, vS_at, vB_at, eAnd_at, eOr_at, eNot_at, vAnd_at, vOr_at, vNot_at, eIf_at, eSl_at, asBl_bl, asInt_int, asLst_lst, addD_int, addI_int, subD_int, negD_int, ltB_int, leB_int, gtB_int, geB_int, eqB_int, neB_int, eqB_str, neB_str, intK_int, absN, lenK_lst, lenK_tup, ixD_tup0, ixD_tup1, ixD_tup2, ixD_lst0, ixD_lst1, ixD_lst2, ixD_lst3, Res.bind_ok, Res.bind_exc, Res.bind_stuck, andThen_ok, andThen_exc, andS_nx, andS_rt, andS_ex, andS_bk, andS_ct, loopO_nx, loopO_ct, loopO_bk, loopO_rt, loopO_ex, List.getElem?_cons_zero, List.getElem?_cons_succ, List.set_cons_zero, List.set_cons_succ, List.length_cons, List.length_nil, List.replicate, List.append_nil, List.nil_append, List.cons_append, Nat.zero_add, Nat.reduceAdd, Nat.reduceSub, Nat.reduceEqDiff, Nat.reduceLT, Bool.and_true, Bool.true_and, Bool.and_false, Bool.false_and, Bool.not_true, Bool.not_false, Bool.false_eq_true, decide_true, decide_false, decide_eq_true_eq, ite_true, ite_false, if_true, if_false, Bool.and_self, Bool.not_not, and_self, and_true, true_and, not_true_eq_false, not_false_eq_true, ckLen_ok, Nat.reduceLeDiff, fld_name, fld_first, fld_second, fld_needs, tn0, tn1, tn2, onC_dD, onCI_dD, cf_str, cf_tn, ↓eMk_at, dD_fold, frz_at, asStr_str, eJoin_at, ↓eFs_at, catP_nil, empty_app, isLst_str, isLst_dD, isLst_non, nc0, nc1, nc2, nc3, nc4, nc5, nc6, nc7, nc8, nc9, nc10, nc11, nc12, Int.reduceEq, Int.reduceLT, Int.reduceLE, Int.reduceNeg, ok1_ok, wipeR_nil, wipeR_cons, ki_names, ki_present, ki_dishes, ki_longest, onC_ki, onCI_ki, isLst_ki, slLst_hi, slLst_lo, slTup_hi, slTup_lo, e5, reduceIte] <;> (with_reducible exact rfl)) ?_
  refine outR_and (by simp only [runD_at, entryS_at, slF_t, slF_f, slD_int, slD_str, slD_bl, slD_lst, List.zipWith_cons_cons, List.zipWith_nil_left, List.map, List.length, sSeq_at, sNil_at, sRet_at, sRetN_at, sRetNone_at, sIf_at, sSet_at, sSetN_at, sExpr_at, sPar_at, sTgt_at, sMut_at, sPut_at, sFor_at, sRaise_at, sTry_at, atT_at, Rho.set_mk, gN_at, forL_nil, forL_cons, outR_rt, outR_nx, outR_ex, isLst_int, isLst_bl, isLst_tup, ckFlat_int, ckFlat_bl, e1_at, e2_at, e3c_at, cD_at, aNil_at, aCons_at, eTup_at, eLst_at, toL_at, vS_at, vB_at, eAnd_at, eOr_at, eNot_at, vAnd_at, vOr_at, vNot_at, eIf_at, eSl_at, asBl_bl, asInt_int, asLst_lst, addD_int, addI_int, subD_int, negD_int, ltB_int, leB_int, gtB_int, geB_int, eqB_int, neB_int, eqB_str, neB_str, intK_int, absN, lenK_lst, lenK_tup, ixD_tup0, ixD_tup1, ixD_tup2, ixD_lst0, ixD_lst1, ixD_lst2, ixD_lst3, Res.bind_ok, Res.bind_exc, Res.bind_stuck, andThen_ok, andThen_exc, andS_nx, andS_rt, andS_ex, andS_bk, andS_ct, loopO_nx, loopO_ct, loopO_bk, loopO_rt, loopO_ex, List.getElem?_cons_zero, List.getElem?_cons_succ, List.set_cons_zero, List.set_cons_succ, List.length_cons, List.length_nil, List.replicate, List.append_nil, List.nil_append, List.cons_append, Nat.zero_add, Nat.reduceAdd, Nat.reduceSub, Nat.reduceEqDiff, Nat.reduceLT, Bool.and_true, Bool.true_and, Bool.and_false, Bool.false_and, Bool.not_true, Bool.not_false, Bool.false_eq_true, decide_true, decide_false, decide_eq_true_eq, ite_true, ite_false, if_true, if_false, Bool.and_self, Bool.not_not, and_self, and_true, true_and, not_true_eq_false, not_false_eq_true, ckLen_ok, Nat.reduceLeDiff, fld_name, fld_first, fld_second, fld_needs, tn0, tn1, tn2, onC_dD, onCI_dD, cf_str, cf_tn, ↓eMk_at, dD_fold, frz_at, asStr_str, eJoin_at, ↓eFs_at, catP_nil, empty_app, isLst_str, isLst_dD, isLst_non, nc0, nc1, nc2, nc3, nc4, nc5, nc6, nc7, nc8, nc9, nc10, nc11, nc12, Int.reduceEq, Int.reduceLT, Int.reduceLE, Int.reduceNeg, ok1_ok, wipeR_nil, wipeR_cons, ki_names, ki_present, ki_dishes, ki_longest, onC_ki, onCI_ki, isLst_ki, slLst_hi, slLst_lo, slTup_hi, slTup_lo, reduceIte] <;> (with_reducible exact rfl)) ?_
  refine outR_and (by simp only [runD_at, entryS_at, slF_t, slF_f, slD_int, slD_str, slD_bl, slD_lst, List.zipWith_cons_cons, List.zipWith_nil_left, List.map, List.length, sSeq_at, sNil_at, sRet_at, sRetN_at, sRetNone_at, sIf_at, sSet_at, sSetN_at, sExpr_at, sPar_at, sTgt_at, sMut_at, sPut_at, sFor_at, sRaise_at, sTry_at, atT_at, Rho.set_mk, gN_at, forL_nil, forL_cons, outR_rt, outR_nx, outR_ex, isLst_int, isLst_bl, isLst_tup, ckFlat_int, ckFlat_bl, e1_at, e2_at, e3c_at, cD_at, aNil_at, aCons_at, eTup_at, eLst_at, toL_at, vS_at, vB_at, eAnd_at, eOr_at, eNot_at, vAnd_at, vOr_at, vNot_at, eIf_at, eSl_at, asBl_bl, asInt_int, asLst_lst, addD_int, addI_int, subD_int, negD_int, ltB_int, leB_int, gtB_int, geB_int, eqB_int, neB_int, eqB_str, neB_str, intK_int, absN, lenK_lst, lenK_tup, ixD_tup0, ixD_tup1, ixD_tup2, ixD_lst0, ixD_lst1, ixD_lst2, ixD_lst3, Res.bind_ok, Res.bind_exc, Res.bind_stuck, andThen_ok, andThen_exc, andS_nx, andS_rt, andS_ex, andS_bk, andS_ct, loopO_nx, loopO_ct, loopO_bk, loopO_rt, loopO_ex, List.getElem?_cons_zero, List.getElem?_cons_succ, List.set_cons_zero, List.set_cons_succ, List.length_cons, List.length_nil, List.replicate, List.append_nil, List.nil_append, List.cons_append, Nat.zero_add, Nat.reduceAdd, Nat.reduceSub, Nat.reduceEqDiff, Nat.reduceLT, Bool.and_true, Bool.true_and, Bool.and_false, Bool.false_and, Bool.not_true, Bool.not_false, Bool.false_eq_true, decide_true, decide_false, decide_eq_true_eq, ite_true, ite_false, if_true, if_false, Bool.and_self, Bool.not_not, and_self, and_true, true_and, not_true_eq_false, not_false_eq_true, ckLen_ok, Nat.reduceLeDiff, fld_name, fld_first, fld_second, fld_needs, tn0, tn1, tn2, onC_dD, onCI_dD, cf_str, cf_tn, ↓eMk_at, dD_fold, frz_at, asStr_str, eJoin_at, ↓eFs_at, catP_nil, empty_app, isLst_str, isLst_dD, isLst_non, nc0, nc1, nc2, nc3, nc4, nc5, nc6, nc7, nc8, nc9, nc10, nc11, nc12, Int.reduceEq, Int.reduceLT, Int.reduceLE, Int.reduceNeg, ok1_ok, wipeR_nil, wipeR_cons, ki_names, ki_present, ki_dishes, ki_longest, onC_ki, onCI_ki, isLst_ki, slLst_hi, slLst_lo, slTup_hi, slTup_lo, ln, rg, e6, reduceIte] <;> (with_reducible exact rfl)) ?_
  refine outR_and (by simp only [runD_at, entryS_at, slF_t, slF_f, slD_int, slD_str, slD_bl, slD_lst, List.zipWith_cons_cons, List.zipWith_nil_left, List.map, List.length, sSeq_at, sNil_at, sRet_at, sRetN_at, sRetNone_at, sIf_at, sSet_at, sSetN_at, sExpr_at, sPar_at, sTgt_at, sMut_at, sPut_at, sFor_at, sRaise_at, sTry_at, atT_at, Rho.set_mk, gN_at, forL_nil, forL_cons, outR_rt, outR_nx, outR_ex, isLst_int, isLst_bl, isLst_tup, ckFlat_int, ckFlat_bl, e1_at, e2_at, e3c_at, cD_at, aNil_at, aCons_at, eTup_at, eLst_at, toL_at, vS_at, vB_at, eAnd_at, eOr_at, eNot_at, vAnd_at, vOr_at, vNot_at, eIf_at, eSl_at, asBl_bl, asInt_int, asLst_lst, addD_int, addI_int, subD_int, negD_int, ltB_int, leB_int, gtB_int, geB_int, eqB_int, neB_int, eqB_str, neB_str, intK_int, absN, lenK_lst, lenK_tup, ixD_tup0, ixD_tup1, ixD_tup2, ixD_lst0, ixD_lst1, ixD_lst2, ixD_lst3, Res.bind_ok, Res.bind_exc, Res.bind_stuck, andThen_ok, andThen_exc, andS_nx, andS_rt, andS_ex, andS_bk, andS_ct, loopO_nx, loopO_ct, loopO_bk, loopO_rt, loopO_ex, List.getElem?_cons_zero, List.getElem?_cons_succ, List.set_cons_zero, List.set_cons_succ, List.length_cons, List.length_nil, List.replicate, List.append_nil, List.nil_append, List.cons_append, Nat.zero_add, Nat.reduceAdd, Nat.reduceSub, Nat.reduceEqDiff, Nat.reduceLT, Bool.and_true, Bool.true_and, Bool.and_false, Bool.false_and, Bool.not_true, Bool.not_false, Bool.false_eq_true, decide_true, decide_false, decide_eq_true_eq, ite_true, ite_false, if_true, if_false, Bool.and_self, Bool.not_not, and_self, and_true, true_and, not_true_eq_false, not_false_eq_true, ckLen_ok, Nat.reduceLeDiff, fld_name, fld_first, fld_second, fld_needs, tn0, tn1, tn2, onC_dD, onCI_dD, cf_str, cf_tn, ↓eMk_at, dD_fold, frz_at, asStr_str, eJoin_at, ↓eFs_at, catP_nil, empty_app, isLst_str, isLst_dD, isLst_non, nc0, nc1, nc2, nc3, nc4, nc5, nc6, nc7, nc8, nc9, nc10, nc11, nc12, Int.reduceEq, Int.reduceLT, Int.reduceLE, Int.reduceNeg, ok1_ok, wipeR_nil, wipeR_cons, ki_names, ki_present, ki_dishes, ki_longest, onC_ki, onCI_ki, isLst_ki, slLst_hi, slLst_lo, slTup_hi, slTup_lo, ne, ab0, m1, reduceIte] <;> (with_reducible exact rfl)) ?_
  simp only [runD_at, entryS_at, slF_t, slF_f, slD_int, slD_str, slD_bl, slD_lst, List.zipWith_cons_cons, List.zipWith_nil_left, List.map, List.length, sSeq_at, sNil_at, sRet_at, sRetN_at, sRetNone_at, sIf_at, sSet_at, sSetN_at, sExpr_at, sPar_at, sTgt_at, sMut_at, sPut_at, sFor_at, sRaise_at, sTry_at, atT_at, Rho.set_mk, gN_at, forL_nil, forL_cons, outR_rt, outR_nx, outR_ex, isLst_int, isLst_bl, isLst_tup, ckFlat_int, ckFlat_bl, e1_at, e2_at, e3c_at, cD_at, aNil_at, aCons_at, eTup_at, eLst_at, toL_at, vS_at, vB_at, eAnd_at, eOr_at, eNot_at, vAnd_at, vOr_at, vNot_at, eIf_at, eSl_at, asBl_bl, asInt_int, asLst_lst, addD_int, addI_int, subD_int, negD_int, ltB_int, leB_int, gtB_int, geB_int, eqB_int, neB_int, eqB_str, neB_str, intK_int, absN, lenK_lst, lenK_tup, ixD_tup0, ixD_tup1, ixD_tup2, ixD_lst0, ixD_lst1, ixD_lst2, ixD_lst3, Res.bind_ok, Res.bind_exc, Res.bind_stuck, andThen_ok, andThen_exc, andS_nx, andS_rt, andS_ex, andS_bk, andS_ct, loopO_nx, loopO_ct, loopO_bk, loopO_rt, loopO_ex, List.getElem?_cons_zero, List.getElem?_cons_succ, List.set_cons_zero, List.set_cons_succ, List.length_cons, List.length_nil, List.replicate, List.append_nil, List.nil_append, List.cons_append, Nat.zero_add, Nat.reduceAdd, Nat.reduceSub, Nat.reduceEqDiff, Nat.reduceLT, Bool.and_true, Bool.true_and, Bool.and_false, Bool.false_and, Bool.not_true, Bool.not_false, Bool.false_eq_true, decide_true, decide_false, decide_eq_true_eq, ite_true, ite_false, if_true, if_false, Bool.and_self, Bool.not_not, and_self, and_true, true_and, not_true_eq_false, not_false_eq_true, ckLen_ok, Nat.reduceLeDiff, fld_name, fld_first, fld_second, fld_needs, tn0, tn1, tn2, onC_dD, onCI_dD, cf_str, cf_tn, ↓eMk_at, dD_fold, frz_at, asStr_str, eJoin_at, ↓eFs_at, catP_nil, empty_app, isLst_str, isLst_dD, isLst_non, nc0, nc1, nc2, nc3, nc4, nc5, nc6, nc7, nc8, nc9, nc10, nc11, nc12, Int.reduceEq, Int.reduceLT, Int.reduceLE, Int.reduceNeg, ok1_ok, wipeR_nil, wipeR_cons, ki_names, ki_present, ki_dishes, ki_longest, onC_ki, onCI_ki, isLst_ki, slLst_hi, slLst_lo, slTup_hi, slTup_lo, ab1, sl1, sl2, ad, sm1, reduceIte]
end Kx

namespace Kx

end Kx
open PySem PySem.W PyProof.Rows
set_option maxRecDepth 100000 in
set_option maxHeartbeats 0 in
theorem PySem.Challenge.cw_mixpace_k13_empty_standing_and_beat_holds : PySem.Challenge.rw_mixpace_k13_empty_standing_and_beat.Holds := by
  w_on; o_law; k_head; (case hw => w_witness2)
  k_fill
  refine Kx.walk (l := PySem.Challenge.rw_mixpace_k13_empty_standing_and_beat) (cInvalidDish := ?AInvalidDish) (cInvalidKitchen := ?AInvalidKitchen) (cUnknownTool := ?AUnknownTool) (cDish := ?ADish) (cKitchen := ?AKitchen) rfl rfl (Kx.law_true ?AInvalidDish ?AInvalidKitchen ?AUnknownTool ?ADish ?AKitchen) (fun w h Y => PySem.W.kIn_of Y) ?F
  case F =>
    intro w mg fa h KX G hmg
    refine' Kx.all_mk (l := PySem.Challenge.rw_mixpace_k13_empty_standing_and_beat) rfl KX G hmg ?zcDish ?zcInvalidDish ?zcInvalidKitchen ?zcKitchen ?z_LETTERS ?z_LONGEST_NAME ?zcUnknownTool ?za_w_broad ?za_w_built ?za_w_draw ?za_w_empty ?za_w_horizon ?za_w_is_integer ?za_w_is_standing ?za_w_merge ?za_w_namelist ?za_w_pick ?za_w_rawlist ?za_w_same ?za_w_some_standing ?za_w_worth ?za_after_beat ?za_empty_standing ?za_is_name ?za_merged ?z_bool ?z_enumerate ?z_int ?z_isinstance ?z_len ?z_list ?z_max ?z_min ?z_range ?z_tuple ?za_law ?iCUnknownTool ?f_Kitchen_place_of ?f_Dish__init ?f_Kitchen__init ?p1_Kitchen_horizon ?p4_Kitchen_horizon ?p1_Kitchen_tools ?p4_Kitchen_tools ?pgDish ?hdDish ?poDish ?saDish ?pgKitchen ?hdKitchen ?poKitchen ?saKitchen ?kpa_after_beat ?kpa_empty_standing ?kpa_is_name ?kpa_merged ?kpa_w_broad ?kpa_w_built ?kpa_w_draw ?kpa_w_empty ?kpa_w_horizon ?kpa_w_is_integer ?kpa_w_is_standing ?kpa_w_merge ?kpa_w_namelist ?kpa_w_pick ?kpa_w_rawlist ?kpa_w_same ?kpa_w_some_standing ?kpa_w_worth ?kpcInvalidDish ?kpcInvalidKitchen ?b_Kitchen_place_of ?kpa_Kitchen_place_of ?m1Dish ?b_Dish__init ?m4Dish ?m1Kitchen ?b_Kitchen__init ?m4Kitchen ?na_Dish_first ?na_Dish_name ?na_Dish_needs ?na_Dish_second ?na_Kitchen_dishes ?na_Kitchen_longest ?na_Kitchen_names ?na_Kitchen_present ?noUnknownTool_tool ?p2_Kitchen_horizon ?p3_Kitchen_horizon ?p2_Kitchen_tools ?p3_Kitchen_tools ?sbxInvalidDish ?sbxInvalidKitchen ?tIUnknownTool ?tybInvalidDish ?tybInvalidKitchen ?xInvalidDish ?xInvalidKitchen ?xLUnknownTool ?xrUnknownTool ?saUnknownTool ?bexUnknownTool ?tyxUnknownTool ?kpcUnknownTool ?lkUnknownTool ?mrUnknownTool ?z_super ?op_tp ?meUnknownTool ?ivUnknownTool ?l_w_pick ?l_w_draw ?l_w_namelist ?l_w_rawlist ?l_w_worth ?l_w_merge ?l_w_broad ?l_Kitchen_place_of ?l_is_name ?l_Kitchen__init ?kpa_Kitchen__init ?l_merged ?l_Dish__init ?kpa_Dish__init ?l_w_built ?l_w_horizon ?l_w_empty ?l_w_some_standing ?l_w_is_integer ?l_w_is_standing ?l_w_same ?l_after_beat ?l_Kitchen_horizon ?kpa_Kitchen_horizon ?l_Kitchen_tools ?kpa_Kitchen_tools ?l_empty_standing ?l_law ?kpa_law ?coUnknownTool ?cvUnknownTool ?ceUnknownTool ?cc_w_pick ?cc_w_draw ?cc_w_namelist ?cc_w_rawlist ?cc_w_worth ?cc_w_merge ?cc_w_broad ?cc_Kitchen_place_of ?cc_is_name ?cc_Kitchen__init ?cc_merged ?d_Dish__init_first ?d_Dish__init_second ?cc_Dish__init ?cc_w_built ?cc_w_horizon ?cc_w_empty ?cc_w_some_standing ?cc_w_is_integer ?cc_w_is_standing ?cc_w_same ?cc_after_beat ?cc_Kitchen_horizon ?cc_Kitchen_tools ?cc_empty_standing ?cc_law ?cfUnknownTool ?cgUnknownTool
    (case zcDish => k_is)
    (case zcInvalidDish => k_is)
    (case zcInvalidKitchen => k_is)
    (case zcKitchen => k_is)
    (case z_LETTERS => k_is)
    (case z_LONGEST_NAME => k_is)
    (case zcUnknownTool => k_is)
    (case za_w_broad => k_is)
    (case za_w_built => k_is)
    (case za_w_draw => k_is)
    (case za_w_empty => k_is)
    (case za_w_horizon => k_is)
    (case za_w_is_integer => k_is)
    (case za_w_is_standing => k_is)
    (case za_w_merge => k_is)
    (case za_w_namelist => k_is)
    (case za_w_pick => k_is)
    (case za_w_rawlist => k_is)
    (case za_w_same => k_is)
    (case za_w_some_standing => k_is)
    (case za_w_worth => k_is)
    (case za_after_beat => k_is)
    (case za_empty_standing => k_is)
    (case za_is_name => k_is)
    (case za_merged => k_is)
    (case z_bool => k_is)
    (case z_enumerate => k_is)
    (case z_int => k_is)
    (case z_isinstance => k_is)
    (case z_len => k_is)
    (case z_list => k_is)
    (case z_max => k_is)
    (case z_min => k_is)
    (case z_range => k_is)
    (case z_tuple => k_is)
    (case za_law => k_is)
    (case iCUnknownTool => k_is)
    (case f_Kitchen_place_of => k_is)
    (case f_Dish__init => k_is)
    (case f_Kitchen__init => k_is)
    (case p1_Kitchen_horizon => k_is)
    (case p4_Kitchen_horizon => k_is)
    (case p1_Kitchen_tools => k_is)
    (case p4_Kitchen_tools => k_is)
    (case pgDish => k_is)
    (case hdDish => k_is)
    (case poDish => k_is)
    (case saDish => k_is)
    (case pgKitchen => k_is)
    (case hdKitchen => k_is)
    (case poKitchen => k_is)
    (case saKitchen => k_is)
    (case kpa_after_beat => k_is)
    (case kpa_empty_standing => k_is)
    (case kpa_is_name => k_is)
    (case kpa_merged => k_is)
    (case kpa_w_broad => k_is)
    (case kpa_w_built => k_is)
    (case kpa_w_draw => k_is)
    (case kpa_w_empty => k_is)
    (case kpa_w_horizon => k_is)
    (case kpa_w_is_integer => k_is)
    (case kpa_w_is_standing => k_is)
    (case kpa_w_merge => k_is)
    (case kpa_w_namelist => k_is)
    (case kpa_w_pick => k_is)
    (case kpa_w_rawlist => k_is)
    (case kpa_w_same => k_is)
    (case kpa_w_some_standing => k_is)
    (case kpa_w_worth => k_is)
    (case kpcInvalidDish => k_is)
    (case kpcInvalidKitchen => k_is)
    (case b_Kitchen_place_of => k_is)
    (case kpa_Kitchen_place_of => k_is)
    (case m1Dish => k_is)
    (case b_Dish__init => k_is)
    (case m4Dish => k_is)
    (case m1Kitchen => k_is)
    (case b_Kitchen__init => k_is)
    (case m4Kitchen => k_is)
    (case na_Dish_first => k_is)
    (case na_Dish_name => k_is)
    (case na_Dish_needs => k_is)
    (case na_Dish_second => k_is)
    (case na_Kitchen_dishes => k_is)
    (case na_Kitchen_longest => k_is)
    (case na_Kitchen_names => k_is)
    (case na_Kitchen_present => k_is)
    (case noUnknownTool_tool => k_is)
    (case p2_Kitchen_horizon => k_is)
    (case p3_Kitchen_horizon => k_is)
    (case p2_Kitchen_tools => k_is)
    (case p3_Kitchen_tools => k_is)
    (case sbxInvalidDish => k_is)
    (case sbxInvalidKitchen => k_is)
    (case tIUnknownTool => k_is)
    (case tybInvalidDish => k_is)
    (case tybInvalidKitchen => k_is)
    (case xInvalidDish => k_exc)
    (case xInvalidKitchen => k_exc)
    (case xLUnknownTool => k_is)
    (case xrUnknownTool => decide +kernel)
    (case saUnknownTool => k_is)
    (case bexUnknownTool => k_is)
    (case tyxUnknownTool => k_is)
    (case kpcUnknownTool => k_is)
    (case lkUnknownTool => k_is)
    (case mrUnknownTool => k_is)
    (case z_super => k_is)
    (case op_tp => k_is)
    (case meUnknownTool => ks_is)
    (case ivUnknownTool => k_is)
    (case l_w_pick => k_is)
    (case l_w_draw => k_is)
    (case l_w_namelist => k_is)
    (case l_w_rawlist => k_is)
    (case l_w_worth => k_is)
    (case l_w_merge => k_is)
    (case l_w_broad => k_is)
    (case l_Kitchen_place_of => k_is)
    (case l_is_name => k_is)
    (case l_Kitchen__init => k_is)
    (case kpa_Kitchen__init => k_is)
    (case l_merged => k_is)
    (case l_Dish__init => k_is)
    (case kpa_Dish__init => k_is)
    (case l_w_built => k_is)
    (case l_w_horizon => k_is)
    (case l_w_empty => k_is)
    (case l_w_some_standing => k_is)
    (case l_w_is_integer => k_is)
    (case l_w_is_standing => k_is)
    (case l_w_same => k_is)
    (case l_after_beat => k_is)
    (case l_Kitchen_horizon => k_is)
    (case kpa_Kitchen_horizon => k_is)
    (case l_Kitchen_tools => k_is)
    (case kpa_Kitchen_tools => k_is)
    (case l_empty_standing => k_is)
    (case l_law => k_is)
    (case kpa_law => k_is)
    (case coUnknownTool => k_is)
    (case cvUnknownTool => k_is)
    (case ceUnknownTool => k_is)
    (case cc_w_pick => k_is)
    (case cc_w_draw => k_is)
    (case cc_w_namelist => k_is)
    (case cc_w_rawlist => k_is)
    (case cc_w_worth => k_is)
    (case cc_w_merge => k_is)
    (case cc_w_broad => k_is)
    (case cc_Kitchen_place_of => k_is)
    (case cc_is_name => k_is)
    (case cc_Kitchen__init => k_is)
    (case cc_merged => k_is)
    (case d_Dish__init_first => k_is)
    (case d_Dish__init_second => k_is)
    (case cc_Dish__init => k_is)
    (case cc_w_built => k_is)
    (case cc_w_horizon => k_is)
    (case cc_w_empty => k_is)
    (case cc_w_some_standing => k_is)
    (case cc_w_is_integer => k_is)
    (case cc_w_is_standing => k_is)
    (case cc_w_same => k_is)
    (case cc_after_beat => k_is)
    (case cc_Kitchen_horizon => k_is)
    (case cc_Kitchen_tools => k_is)
    (case cc_empty_standing => k_is)
    (case cc_law => k_is)
    (case cfUnknownTool => rfl)
    (case cgUnknownTool => decide +kernel)

