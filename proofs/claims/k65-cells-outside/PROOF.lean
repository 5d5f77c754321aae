import PyProof.Rows.All
import Wide.All
import OpenK.AllK
import Wide.FinOn
import HandS.ForExc
import HandS.ForMost
import HandS.Wide
import HandS.Walk
import HandS.IsInst
import HandS.Zip
import HandS.TupAny
import HandS.Style
import HandS.Iter
import PyProof.Draws
import PyProof.EnumMake
import KE.GoesMore
import HandS.Deep
import PyProof.AutoSeq1
import KE.DataMinMax
import HandS.SortKw
import HandS.Words
import HandS.Ends
import PySem.Challenge.RW_tickless_k65_cells_outside_guards
set_option Elab.async false
set_option linter.all false
set_option maxRecDepth 100000
set_option maxHeartbeats 8000000
set_option maxRecDepth 100000
namespace TK
open PySem PySem.Spec PyProof.Rows L2

/-! ### values without a heap -/
/-- a value: tuples and frozen lists are their items; a list that is still written is its address -/
inductive PV where
  | non | bl (b : Bool) | int (i : Int) | str (x : Str) | tup (xs : List PV) | lst (xs : List PV) | ref (a : Nat) | scr (ns : List Int)
instance : Inhabited PV := ⟨.non⟩

abbrev Sl := List (Option PV)
def getS : Sl → Nat → Option PV
  | [], _ => none
  | x :: _, 0 => x
  | _ :: r, n + 1 => getS r n
def setS : Sl → Nat → Option PV → Sl
  | [], _, _ => []
  | _ :: r, 0, y => y :: r
  | x :: r, n + 1, y => x :: setS r n y
theorem setS_length : ∀ (τ : Sl) (i : Nat) (y : Option PV), (setS τ i y).length = τ.length
  | [], _, _ => rfl
  | _ :: _, 0, _ => rfl
  | _ :: r, n + 1, y => congrArg (· + 1) (setS_length r n y)
theorem getS_setS_same : ∀ {τ : Sl} {i : Nat} {y : Option PV}, i < τ.length → getS (setS τ i y) i = y
  | [], _, _, h => absurd h (Nat.not_lt_zero _)
  | _ :: _, 0, _, _ => rfl
  | _ :: r, n + 1, _, h => getS_setS_same (τ := r) (Nat.lt_of_succ_lt_succ h)
theorem getS_setS_ne : ∀ {τ : Sl} {i j : Nat} {y : Option PV}, j ≠ i → getS (setS τ i y) j = getS τ j
  | [], _, _, _, _ => rfl
  | _ :: _, 0, 0, _, h => absurd rfl h
  | _ :: _, 0, _ + 1, _, _ => rfl
  | _ :: _, _ + 1, 0, _, _ => rfl
  | _ :: r, i + 1, j + 1, _, h => getS_setS_ne (τ := r) (fun e => h (congrArg (· + 1) e))
theorem getS_lt : ∀ {τ : Sl} {i : Nat} {v : PV}, getS τ i = some v → i < τ.length
  | [], _, _, h => nomatch h
  | _ :: _, 0, _, _ => Nat.succ_pos _
  | _ :: r, n + 1, _, h => Nat.succ_lt_succ (getS_lt (τ := r) h)
def wipeS (τ : Sl) : List Nat → Sl
  | [] => τ
  | v :: vs => setS (wipeS τ vs) v none
theorem wipeS_length (τ : Sl) : ∀ vs, (wipeS τ vs).length = τ.length
  | [] => rfl
  | v :: vs => by show (setS (wipeS τ vs) v none).length = _; rw [setS_length, wipeS_length τ vs]
theorem wipeS_some {τ : Sl} {i : Nat} {x : PV} : ∀ {vs : List Nat}, getS (wipeS τ vs) i = some x → getS τ i = some x ∧ i ∉ vs
  | [], h => ⟨h, List.not_mem_nil⟩
  | v :: vs, h => by
    have h' : getS (setS (wipeS τ vs) v none) i = some x := h
    by_cases e : i = v
    · subst e
      have := getS_lt h'
      rw [setS_length] at this
      rw [getS_setS_same this] at h'; cases h'
    · rw [getS_setS_ne e] at h'
      obtain ⟨a, b⟩ := wipeS_some h'
      exact ⟨a, fun hm => (List.mem_cons.mp hm).elim e b⟩

/-- what the proofs follow of the heap: lists that are still written; the law's own pool of draws -/
inductive Cell where
  | lst (xs : List PV)
  | pool
abbrev Store := Nat → Option Cell
def up (st : Store) (a : Nat) (c : Option Cell) : Store := fun b => if b = a then c else st b
theorem up_same {st : Store} {a : Nat} {c : Option Cell} : up st a c a = c := if_pos rfl
theorem up_ne {st : Store} {a b : Nat} {c : Option Cell} (h : b ≠ a) : up st a c b = st b := if_neg h

/-- an exception: its class's name, its attributes -/
abbrev Exn := Str × List (Str × PV)

/-! ### how they lie in the layer's heap -/
abbrev FS := Addr → Prop
def Imm : HO → Prop
  | .tup _ => True
  | .xd _ => True
  | .frz _ _ => True
  | _ => False
def Kp (H : Hp) (F : FS) (H' : Hp) : Prop := ∀ a u, H a = some u → F a ∨ Imm u → H' a = some u
structure Ext (F : FS) (H : Hp) (F' : FS) (H' : Hp) : Prop where
  le : ∀ a, F a → F' a
  kp : Kp H F H'
theorem Ext.refl {F : FS} {H : Hp} : Ext F H F H := ⟨fun _ h => h, fun _ _ h _ => h⟩
theorem Ext.trans {F F1 F2 : FS} {H H1 H2 : Hp} (a : Ext F H F1 H1) (b : Ext F1 H1 F2 H2) : Ext F H F2 H2 :=
  ⟨fun x h => b.le x (a.le x h), fun x u h i => b.kp x u (a.kp x u h i) (i.imp (a.le x) id)⟩

/-- the law's script, known for good -/
def ScrL (K : PySem.W.Frag) (H : Hp) (a : Addr) (ys : List V) : Prop :=
  (∃ o, H a = some (.frz o (.lst ys))) ∨ SqL K (fun _ => none) a ys
theorem sqk {K : PySem.W.Frag} {H : Hp} {a : Addr} {ys : List V} (h : SqL K (fun _ => none) a ys) : SqL K H a ys := by
  rcases h with (h | ⟨_, h⟩) | h
  · cases h
  · cases h
  · exact .inr h
theorem ScrL.sq {K : PySem.W.Frag} {H : Hp} {a : Addr} {ys : List V} (h : ScrL K H a ys) : SqL K H a ys := by
  rcases h with ⟨o, h⟩ | h
  · exact .inl (.inr ⟨o, h⟩)
  · exact sqk h
theorem ScrL.ext {K : PySem.W.Frag} {H H' : Hp} {F F' : FS} {a : Addr} {ys : List V} (x : Ext F H F' H') (h : ScrL K H a ys) : ScrL K H' a ys := by
  rcases h with ⟨o, h⟩ | h
  · exact .inl ⟨o, x.kp _ _ h (.inr trivial)⟩
  · exact .inr h
theorem sqText {K : PySem.W.Frag} {H H' : Hp} {F F' : FS} {a : Addr} {ys : List V} (x : Ext F H F' H') (h : SqT K H a ys) : SqT K H' a ys := by
  rcases h with (h | ⟨o, h⟩) | h
  · exact .inl (.inl (x.kp _ _ h (.inr trivial)))
  · exact .inl (.inr ⟨o, x.kp _ _ h (.inr trivial)⟩)
  · exact .inr h

mutual
inductive DV (K : PySem.W.Frag) (H : Hp) (F : FS) : PV → V → Prop
  | non : DV K H F .non .non
  | bl (b : Bool) : DV K H F (.bl b) (.bl b)
  | int (i : Int) : DV K H F (.int i) (.int i)
  | str (x : Str) : DV K H F (.str x) (.str x)
  | tup {a : Addr} {xs : List PV} {ys : List V} : SqT K H a ys → DVs K H F xs ys → DV K H F (.tup xs) (.ref a)
  | lst {a : Addr} {xs : List PV} {ys : List V} : F a → H a = some (.lst ys) → DVs K H F xs ys → DV K H F (.lst xs) (.ref a)
  | ref (a : Addr) : DV K H F (.ref a) (.ref a)
  | scr {a : Addr} {ns : List Int} : ScrL K H a (ns.map V.int) → DV K H F (.scr ns) (.ref a)
inductive DVs (K : PySem.W.Frag) (H : Hp) (F : FS) : List PV → List V → Prop
  | nil : DVs K H F [] []
  | cons {v : PV} {x : V} {vs : List PV} {xs : List V} : DV K H F v x → DVs K H F vs xs → DVs K H F (v :: vs) (x :: xs)
end
section
variable {K : PySem.W.Frag} {H H' : Hp} {F F' : FS}
mutual
theorem DV.ext (x : Ext F H F' H') : ∀ {v : PV} {y : V}, DV K H F v y → DV K H' F' v y
  | _, _, .non => .non
  | _, _, .bl b => .bl b
  | _, _, .int i => .int i
  | _, _, .str z => .str z
  | _, _, .tup h hs => .tup (sqText x h) (DVs.ext x hs)
  | _, _, .lst f h hs => .lst (x.le _ f) (x.kp _ _ h (.inl f)) (DVs.ext x hs)
  | _, _, .ref a => .ref a
  | _, _, .scr h => .scr (h.ext x)
theorem DVs.ext (x : Ext F H F' H') : ∀ {vs : List PV} {ys : List V}, DVs K H F vs ys → DVs K H' F' vs ys
  | _, _, .nil => .nil
  | _, _, .cons h hs => .cons (DV.ext x h) (DVs.ext x hs)
end
theorem DVs.app1 : ∀ {vs ws : List PV} {ys zs : List V}, DVs K H F vs ys → DVs K H F ws zs → DVs K H F (vs ++ ws) (ys ++ zs)
  | _, _, _, _, .nil, h => h
  | _, _, _, _, .cons a b, h => .cons a (b.app1 h)
theorem DVs.reverse : ∀ {vs : List PV} {ys : List V}, DVs K H F vs ys → DVs K H F vs.reverse ys.reverse
  | _, _, .nil => .nil
  | _, _, .cons a b => by
    rw [List.reverse_cons, List.reverse_cons]
    exact DVs.app1 b.reverse (.cons a .nil)
theorem DVs.length : ∀ {vs : List PV} {ys : List V}, DVs K H F vs ys → vs.length = ys.length
  | _, _, .nil => rfl
  | _, _, .cons _ hs => congrArg (· + 1) hs.length
theorem DVs.get : ∀ {vs : List PV} {ys : List V} {i : Nat} {v : PV}, DVs K H F vs ys → vs[i]? = some v → ∃ y, ys[i]? = some y ∧ DV K H F v y
  | _, _, _, _, .nil, e => by simp at e
  | _, _, 0, _, .cons h _, e => by simp at e; subst e; exact ⟨_, rfl, h⟩
  | _, _, i + 1, _, .cons _ hs, e => by simpa using hs.get (i := i) (by simpa using e)
theorem DVs.get' : ∀ {vs : List PV} {ys : List V} {i : Nat} {y : V}, DVs K H F vs ys → ys[i]? = some y → ∃ v, vs[i]? = some v ∧ DV K H F v y
  | _, _, _, _, .nil, e => by simp at e
  | _, _, 0, _, .cons h _, e => by simp at e; subst e; exact ⟨_, rfl, h⟩
  | _, _, i + 1, _, .cons _ hs, e => by simpa using hs.get' (i := i) (by simpa using e)
theorem DVs.append : ∀ {vs ws : List PV} {ys zs : List V}, DVs K H F vs ys → DVs K H F ws zs → DVs K H F (vs ++ ws) (ys ++ zs)
  | _, _, _, _, .nil, h => h
  | _, _, _, _, .cons a b, h => .cons a (b.append h)
theorem DVs.take : ∀ {vs : List PV} {ys : List V} (n : Nat), DVs K H F vs ys → DVs K H F (vs.take n) (ys.take n)
  | _, _, 0, _ => .nil
  | _, _, _ + 1, .nil => .nil
  | _, _, n + 1, .cons a b => .cons a (b.take n)
theorem DVs.drop : ∀ {vs : List PV} {ys : List V} (n : Nat), DVs K H F vs ys → DVs K H F (vs.drop n) (ys.drop n)
  | _, _, 0, h => h
  | _, _, _ + 1, .nil => .nil
  | _, _, n + 1, .cons _ b => b.drop n
theorem DVs.set {v : PV} {y : V} (h : DV K H F v y) : ∀ {vs : List PV} {ys : List V} (i : Nat), DVs K H F vs ys → DVs K H F (vs.set i v) (ys.set i y)
  | _, _, _, .nil => .nil
  | _, _, 0, .cons _ b => .cons h b
  | _, _, i + 1, .cons a b => .cons a (b.set h i)
theorem DVs.dropLast : ∀ {vs : List PV} {ys : List V}, DVs K H F vs ys → DVs K H F vs.dropLast ys.dropLast
  | _, _, .nil => .nil
  | _, _, .cons a .nil => .nil
  | _, _, .cons a (.cons b c) => .cons a (DVs.dropLast (.cons b c))
theorem DVs.flat {vs : List PV} {ys : List V} (h : DVs K H F vs ys) : ∀ k : Nat, DVs K H F (List.replicate k vs).flatten (List.replicate k ys).flatten
  | 0 => .nil
  | k + 1 => h.append (h.flat k)
theorem DVs.ints : ∀ (ns : List Int), DVs K H F (ns.map PV.int) (ns.map V.int)
  | [] => .nil
  | n :: r => .cons (.int n) (DVs.ints r)
theorem DVs.of_ints : ∀ {ns : List Int} {ys : List V}, DVs K H F (ns.map PV.int) ys → ys = ns.map V.int
  | [], _, .nil => rfl
  | n :: r, _, .cons h hs => by cases h; rw [hs.of_ints]; rfl
end

/-- the pool at a: the script's copy, and four numbers -/
def PoolH (H : Hp) (F : FS) (a : Addr) : Prop :=
  ∃ (q : Addr) (ns : List Int) (x b c d : Int), H a = some (.lst [.ref q, .int x, .int b, .int c, .int d]) ∧ F q ∧ H q = some (.lst (ns.map V.int)) ∧ 0 ≤ x
structure RS (K : PySem.W.Frag) (H : Hp) (F : FS) (st : Store) : Prop where
  lst : ∀ a xs, st a = some (.lst xs) → ¬ F a ∧ ∃ ys, H a = some (.lst ys) ∧ DVs K H F xs ys
  pool : ∀ a, st a = some .pool → ¬ F a ∧ PoolH H F a
  fz : ∀ a, F a → ∃ ys, H a = some (.lst ys)
def RSl (K : PySem.W.Frag) (H : Hp) (F : FS) (τ : Sl) (σ : L2.St) : Prop :=
  τ.length = σ.length ∧ ∀ i v, getS τ i = some v → ∃ x, σ[i]? = some (some x) ∧ DV K H F v x
section
variable {K : PySem.W.Frag} {H H' : Hp} {F F' : FS} {τ : Sl} {σ : L2.St} {st : Store}
theorem RSl.ext (x : Ext F H F' H') (h : RSl K H F τ σ) : RSl K H' F' τ σ :=
  ⟨h.1, fun i v e => let ⟨y, e', d⟩ := h.2 i v e; ⟨y, e', d.ext x⟩⟩
theorem RSl.set {v : PV} {y : V} (h : RSl K H F τ σ) (d : DV K H F v y) (i : Nat) : RSl K H F (setS τ i (some v)) (σ.set i (some y)) := by
  refine ⟨by rw [setS_length, List.length_set]; exact h.1, fun j w e => ?_⟩
  by_cases hj : j = i
  · subst hj
    have hl := getS_lt e
    rw [setS_length] at hl
    rw [getS_setS_same hl] at e
    cases e
    exact ⟨y, by rw [List.getElem?_set_self (by rw [← h.1]; exact hl)], d⟩
  · rw [getS_setS_ne hj] at e
    obtain ⟨z, e', d'⟩ := h.2 j w e
    exact ⟨z, by rw [List.getElem?_set_ne (Ne.symm hj)]; exact e', d'⟩
theorem RSl.wipe (h : RSl K H F τ σ) (vs : List Nat) : RSl K H F (wipeS τ vs) (L2.wipe σ vs) := by
  refine ⟨by rw [wipeS_length, L2.wipe_length]; exact h.1, fun j w e => ?_⟩
  obtain ⟨e1, hn⟩ := wipeS_some e
  obtain ⟨z, e', d'⟩ := h.2 j w e1
  refine ⟨z, ?_, d'⟩
  induction vs with
  | nil => exact e'
  | cons v vs ih =>
    show ((L2.wipe σ vs).set v none)[j]? = _
    have hv : v ≠ j := fun e => hn (e ▸ List.mem_cons_self)
    rw [List.getElem?_set_ne hv]
    exact ih (by
      have e2 : getS (setS (wipeS τ vs) v none) j = some w := e
      rwa [getS_setS_ne (Ne.symm hv)] at e2) (fun hm => hn (List.mem_cons_of_mem _ hm))
theorem RSl.none (h : RSl K H F τ σ) (i : Nat) (y : Option V) (hn : True) : RSl K H F (setS τ i Option.none) (σ.set i y) := by
  refine ⟨by rw [setS_length, List.length_set]; exact h.1, fun j w e => ?_⟩
  by_cases hj : j = i
  · subst hj
    have hl := getS_lt e
    rw [setS_length] at hl
    rw [getS_setS_same hl] at e
    cases e
  · rw [getS_setS_ne hj] at e
    obtain ⟨z, e', d'⟩ := h.2 j w e
    exact ⟨z, by rw [List.getElem?_set_ne (Ne.symm hj)]; exact e', d'⟩

/-- a new object that nothing follows -/
theorem Ext.new {p : Addr} {o : HO} (hp : H p = none) : Ext F H F (upd H p o) := by
  refine ⟨fun _ h => h, fun a u e _ => ?_⟩
  rw [upd_ne (fun z => by rw [z, hp] at e; cases e)]; exact e
theorem RS.nof (r : RS K H F st) {p : Addr} (hp : H p = none) : ¬ F p := fun f => by
  obtain ⟨ys, e⟩ := r.fz p f
  rw [hp] at e; cases e
theorem RS.no {p : Addr} (r : RS K H F st) (hp : H p = none) : st p = Option.none := by
  cases e : st p with
  | none => rfl
  | some c =>
    cases c with
    | lst xs => obtain ⟨_, ys, h, _⟩ := r.lst p xs e; rw [hp] at h; cases h
    | pool => obtain ⟨_, q, ns, x, b, c, d, h, _⟩ := r.pool p e; rw [hp] at h; cases h
theorem PoolH.ext (x : Ext F H F' H') {a : Addr} (h : PoolH H F a) (e : H' a = H a) : PoolH H' F' a := by
  obtain ⟨q, ns, y, b, c, d, h1, h2, h3, h4⟩ := h
  exact ⟨q, ns, y, b, c, d, e.trans h1, x.le _ h2, x.kp _ _ h3 (.inl h2), h4⟩
/-- the followed objects stand; what is frozen stands -/
theorem RS.keep (r : RS K H F st) (x : Ext F H F H') (hs : ∀ a, st a ≠ Option.none → H' a = H a) : RS K H' F st := by
  refine ⟨fun a xs e => ?_, fun a e => ?_, fun a f => ?_⟩
  · obtain ⟨nf, ys, h, d⟩ := r.lst a xs e
    exact ⟨nf, ys, (hs a (by rw [e]; exact fun z => nomatch z)).trans h, d.ext x⟩
  · obtain ⟨nf, h⟩ := r.pool a e
    exact ⟨nf, h.ext x (hs a (by rw [e]; exact fun z => nomatch z))⟩
  · obtain ⟨ys, h⟩ := r.fz a f
    exact ⟨ys, x.kp _ _ h (.inl f)⟩
theorem RS.there (r : RS K H F st) {a : Addr} (h : st a ≠ Option.none) : H a ≠ Option.none := fun e => h (r.no e)
theorem RS.new {p : Addr} {o : HO} (r : RS K H F st) (hp : H p = none) : RS K (upd H p o) F st :=
  r.keep (.new hp) fun a h => upd_ne (fun z => r.there h (z ▸ hp))
/-- a new list, frozen at once -/
theorem Ext.newF {p : Addr} {o : HO} (hp : H p = none) : Ext F H (fun a => F a ∨ a = p) (upd H p o) :=
  ⟨fun _ h => .inl h, (Ext.new (F := F) hp).kp⟩
theorem RS.newF {p : Addr} {ys : List V} (r : RS K H F st) (hp : H p = none) : RS K (upd H p (.lst ys)) (fun a => F a ∨ a = p) st := by
  have x : Ext F H (fun a => F a ∨ a = p) (upd H p (.lst ys)) := .newF hp
  have ne : ∀ a, st a ≠ Option.none → a ≠ p := fun a h z => r.there h (z ▸ hp)
  refine ⟨fun a xs e => ?_, fun a e => ?_, fun a f => ?_⟩
  · obtain ⟨nf, ys, h, d⟩ := r.lst a xs e
    have n := ne a (by rw [e]; exact fun z => nomatch z)
    exact ⟨fun f => f.elim nf n, ys, (upd_ne n).trans h, d.ext x⟩
  · obtain ⟨nf, h⟩ := r.pool a e
    have n := ne a (by rw [e]; exact fun z => nomatch z)
    exact ⟨fun f => f.elim nf n, h.ext x (upd_ne n)⟩
  · rcases f with f | rfl
    · obtain ⟨ys, h⟩ := r.fz a f
      exact ⟨ys, x.kp _ _ h (.inl f)⟩
    · exact ⟨_, upd_same⟩
/-- a followed list takes other items, or a new one is followed -/
theorem Ext.put {p : Addr} {ys : List V} (hF : ¬ F p) (hp : ∀ u, H p = some u → ¬ Imm u) : Ext F H F (upd H p (.lst ys)) := by
  refine ⟨fun _ h => h, fun a u e i => ?_⟩
  have n : a ≠ p := fun z => by
    subst z
    exact i.elim hF (hp u e)
  rw [upd_ne n]; exact e
theorem RS.put {p : Addr} {xs : List PV} {ys : List V} (r : RS K H F st) (hF : ¬ F p) (hp : ∀ u, H p = some u → ¬ Imm u) (d : DVs K H F xs ys) : RS K (upd H p (.lst ys)) F (up st p (some (.lst xs))) := by
  have x : Ext F H F (upd H p (.lst ys)) := .put hF hp
  refine ⟨fun a zs e => ?_, fun a e => ?_, fun a f => ?_⟩
  · by_cases n : a = p
    · subst n
      rw [up_same] at e; cases e
      exact ⟨hF, ys, upd_same, d.ext x⟩
    · rw [up_ne n] at e
      obtain ⟨nf, ys, h, d⟩ := r.lst a zs e
      exact ⟨nf, ys, (upd_ne n).trans h, d.ext x⟩
  · by_cases n : a = p
    · subst n
      rw [up_same] at e; cases e
    · rw [up_ne n] at e
      obtain ⟨nf, h⟩ := r.pool a e
      exact ⟨nf, h.ext x (upd_ne n)⟩
  · obtain ⟨ys, h⟩ := r.fz a f
    exact ⟨ys, x.kp _ _ h (.inl f)⟩
theorem RS.putNew {p : Addr} {xs : List PV} {ys : List V} (r : RS K H F st) (hp : H p = none) (d : DVs K H F xs ys) : RS K (upd H p (.lst ys)) F (up st p (some (.lst xs))) :=
  r.put (r.nof hp) (fun u e => by rw [hp] at e; cases e) d
/-- a followed list is frozen -/
theorem RS.freeze {p : Addr} {xs : List PV} (r : RS K H F st) (e : st p = some (.lst xs)) :
    Ext F H (fun a => F a ∨ a = p) H ∧ RS K H (fun a => F a ∨ a = p) (up st p Option.none) ∧ DV K H (fun a => F a ∨ a = p) (.lst xs) (.ref p) := by
  have x : Ext F H (fun a => F a ∨ a = p) H := ⟨fun _ h => .inl h, fun _ _ h _ => h⟩
  obtain ⟨nf, ys, h, d⟩ := r.lst p xs e
  refine ⟨x, ⟨fun a zs q => ?_, fun a q => ?_, fun a f => ?_⟩, .lst (.inr rfl) h (d.ext x)⟩
  · by_cases n : a = p
    · subst n; rw [up_same] at q; cases q
    · rw [up_ne n] at q
      obtain ⟨nf, ys, h, d⟩ := r.lst a zs q
      exact ⟨fun f => f.elim nf n, ys, h, d.ext x⟩
  · by_cases n : a = p
    · subst n; rw [up_same] at q; cases q
    · rw [up_ne n] at q
      obtain ⟨nf, h⟩ := r.pool a q
      exact ⟨fun f => f.elim nf n, h.ext x rfl⟩
  · rcases f with f | rfl
    · exact r.fz a f
    · exact ⟨ys, h⟩
/-- less may be followed -/
theorem RS.less {st' : Store} (r : RS K H F st) (h : ∀ a c, st' a = some c → st a = some c) : RS K H F st' :=
  ⟨fun a xs e => r.lst a xs (h a _ e), fun a e => r.pool a (h a _ e), r.fz⟩
end

/-- an exception of a class of the program -/
def ExRep (K : PySem.W.Frag) (mg : Str → Option Value) (H : Hp) (F : FS) (e : Exn) (cls : Value) (d : Option Addr) : Prop :=
  ∃ C, cls = .ref C ∧ mg e.1 = some (.ref C) ∧ ∃ (dx : Addr) (fs : List (Str × V)), d = some dx ∧ H dx = some (.xd fs) ∧ ∀ n v, e.2.lookup n = some v → ∃ x, fs.lookup n = some x ∧ DV K H F v x
end TK

set_option maxRecDepth 100000
namespace TK
open PySem PySem.Spec PyProof.Rows L2

/-! ### the small language: a def's body as a term -/
/-- a def's promise: arguments, store, the wanted end, the wanted exception -/
abbrev PSpec := List PV → Store → (PV → Store → Prop) → (Exn → Store → Prop) → Prop

mutual
inductive TG where
  | name (i : Nat)
  | tup (ts : TGs)
inductive TGs where
  | nil
  | cons (t : TG) (ts : TGs)
end
mutual
def TG.slots : TG → List Nat
  | .name i => [i]
  | .tup ts => ts.slots
def TGs.slots : TGs → List Nat
  | .nil => []
  | .cons t ts => t.slots ++ ts.slots
end
mutual
def TG.asg : TG → PV → Sl → Option Sl
  | .name i, v, τ => some (setS τ i (some v))
  | .tup ts, v, τ => match v with
    | .tup xs => ts.asg xs τ
    | _ => none
def TGs.asg : TGs → List PV → Sl → Option Sl
  | .nil, xs, τ => match xs with
    | [] => some τ
    | _ :: _ => none
  | .cons t ts, xs, τ => match xs with
    | [] => none
    | x :: r => (t.asg x τ).bind (ts.asg r)
end

/-- built-in functions -/
inductive BF where
  | len | int | abs | tuple | list | all | any | sum | min2 | max2 | min | max | repr
/-- forms of one part: t[::-1] of a tuple; max(.., default=0) -/
inductive UF where
  | revT | maxD
def maxD0 : List Int → Int
  | [] => 0
  | x :: r => r.foldl max x
/-- methods -/
inductive MF where
  | append | extend | pop | index

mutual
inductive E where
  | var (i : Nat)
  | fvar (i : Nat)
  | int (n : Int)
  | bl (b : Bool)
  | non
  | str (x : Str)
  | glob (x : Str) (v : PV)
  | bin (o : Operator) (m : Bool) (a b : E)
  | neg (a : E)
  | not (a : E)
  | un (f : UF) (a : E)
  | cmp (o : CmpOp) (a b : E)
  | chain (o o' : CmpOp) (a b c : E)
  | bools (o : BoolOp) (es : Es)
  | ite (t : T) (a b : E)
  | tup (es : Es)
  | lst (m : Bool) (es : Es)
  | idx (a i : E)
  | slice (m : Bool) (a : E) (lo hi : OE)
  | call (f : Str) (sp : PSpec) (es : Es)
  | blt (f : BF) (m : Bool) (es : Es)
  | isi (e : E) (ty : Str)
  | meth (f : MF) (o : E) (es : Es)
  | comp (m : Bool) (vs : List Nat) (tg : TG) (it : I) (ts : Ts) (elt : E)
inductive Es where
  | nil
  | cons (e : E) (es : Es)
inductive OE where
  | no
  | yes (e : E)
inductive T where
  | val (e : E)
  | cmp (o : CmpOp) (a b : E)
  | chain (o o' : CmpOp) (a b c : E)
  | not (t : T)
  | bools (o : BoolOp) (ts : Ts)
  | ite (t a b : T)
inductive Ts where
  | nil
  | cons (t : T) (ts : Ts)
inductive I where
  | val (e : E)
  | range1 (a : E)
  | range2 (a b : E)
  | enum (e : E)
  | zip (a b : E)
end

def Es.len : Es → Nat
  | .nil => 0
  | .cons _ es => es.len + 1
/-! ### what operations do -/
abbrev PQ := PV → Store → Prop
abbrev EQ := Exn → Store → Prop
def oP {α : Type} (o : Option α) (k : α → Prop) : Prop :=
  match o with
  | some a => k a
  | none => False
def onBl (v : PV) (k : Bool → Prop) : Prop :=
  match v with
  | .bl b => k b
  | _ => False
def onInt (v : PV) (k : Int → Prop) : Prop :=
  match v with
  | .int b => k b
  | _ => False
def seqOf (st : Store) : PV → Option (List PV)
  | .tup xs => some xs
  | .lst xs => some xs
  | .ref a => match st a with
    | some (.lst xs) => some xs
    | _ => none
  | _ => none
/-- a list's items; the script's too -/
def lstOf (st : Store) : PV → Option (List PV)
  | .lst xs => some xs
  | .ref a => match st a with
    | some (.lst xs) => some xs
    | _ => none
  | _ => none
/-- what a list may be extended by: a list, a tuple -/
def extOf (st : Store) : PV → Option (List PV)
  | .tup xs => some xs
  | v => lstOf st v
def newList (m : Bool) (xs : List PV) (st : Store) (Q : PQ) : Prop :=
  match m with
  | true => ∀ p, st p = none → Q (.ref p) (up st p (some (.lst xs)))
  | false => Q (.lst xs) st
def DivOk (j : Int) : Prop := j ≠ 0 ∧ j.natAbs.log2 < 9000
def binV (o : Operator) (m : Bool) (v w : PV) (st : Store) (Q : PQ) : Prop :=
  match o, v, w with
  | .Add, .int i, .int j => Q (.int (i + j)) st
  | .Add, .str x, .str y => x.length + y.length ≤ sizeLine ∧ Q (.str (x ++ y)) st
  | .Add, .tup xs, .tup ys => xs.length + ys.length ≤ sizeLine ∧ Q (.tup (xs ++ ys)) st
  | .Add, .lst xs, .lst ys => xs.length + ys.length ≤ sizeLine ∧ newList m (xs ++ ys) st Q
  | .Add, .ref a, .lst ys => ∃ xs, st a = some (.lst xs) ∧ xs.length + ys.length ≤ sizeLine ∧ newList m (xs ++ ys) st Q
  | .Add, .lst xs, .ref b => ∃ ys, st b = some (.lst ys) ∧ xs.length + ys.length ≤ sizeLine ∧ newList m (xs ++ ys) st Q
  | .Add, .ref a, .ref b => ∃ xs ys, st a = some (.lst xs) ∧ st b = some (.lst ys) ∧ xs.length + ys.length ≤ sizeLine ∧ newList m (xs ++ ys) st Q
  | .Sub, .int i, .int j => Q (.int (i - j)) st
  | .Mult, .int i, .int j => IntMulOk i j ∧ Q (.int (i * j)) st
  | .Mult, .lst xs, .int k => -(2 ^ 63) ≤ k ∧ k < 2 ^ 63 ∧ xs.length * k.toNat ≤ sizeLine ∧ newList m (List.replicate k.toNat xs).flatten st Q
  | .FloorDiv, .int i, .int j => DivOk j ∧ Q (.int (i.fdiv j)) st
  | .Mod, .int i, .int j => j ≠ 0 ∧ Q (.int (i.fmod j)) st
  | .Pow, .int i, .int j => CPow i j ∧ Q (.int (i ^ j.toNat)) st
  | .BitAnd, .int i, .int j => Q (.int (Builtin.bitAnd i j)) st
  | .BitOr, .int i, .int j => Q (.int (Builtin.bitOr i j)) st
  | _, _, _ => False
def negV (v : PV) (st : Store) (Q : PQ) : Prop :=
  match v with
  | .int i => Q (.int (-i)) st
  | _ => False

/-- data as Python compares and prints it -/
def res (st : Store) : PV → PV
  | .ref a => match st a with
    | some (.lst xs) => .lst xs
    | _ => .ref a
  | v => v
mutual
def toD : PV → PyData
  | .non => .none
  | .bl b => .bool b
  | .int i => .int i
  | .str x => .str x
  | .tup xs => .tuple (toDs xs)
  | .lst xs => .list (toDs xs)
  | .ref _ => .none
  | .scr _ => .none
def toDs : List PV → List PyData
  | [] => []
  | x :: r => toD x :: toDs r
end
mutual
/-- no address within, n levels at most -/
def flat : Nat → PV → Bool
  | n, .tup xs => n != 0 && flats (n - 1) xs
  | n, .lst xs => n != 0 && flats (n - 1) xs
  | _, .ref _ => false
  | _, .scr _ => false
  | _, .str x => PyData.strOk x
  | _, .non => true
  | _, .bl _ => true
  | _, .int _ => true
def flats : Nat → List PV → Bool
  | _, [] => true
  | n, x :: r => flat n x && flats n r
end
mutual
def eqv : PV → PV → Bool
  | .non, w => match w with
    | .non => true
    | _ => false
  | .bl a, w => match w with
    | .bl b => a == b
    | .int j => (if a then 1 else 0) == j
    | _ => false
  | .int i, w => match w with
    | .int j => decide (i = j)
    | .bl b => i == (if b then 1 else 0)
    | _ => false
  | .str x, w => match w with
    | .str y => decide (x = y)
    | _ => false
  | .tup xs, w => match w with
    | .tup ys => eqvs xs ys
    | _ => false
  | .lst xs, w => match w with
    | .lst ys => eqvs xs ys
    | _ => false
  | .ref _, _ => false
  | .scr _, _ => false
def eqvs : List PV → List PV → Bool
  | [], ys => match ys with
    | [] => true
    | _ => false
  | x :: xs, ys => match ys with
    | [] => false
    | y :: ys => eqv x y && eqvs xs ys
end
def isNon : PV → Bool
  | .non => true
  | _ => false
def isSc : PV → Bool
  | .non => true
  | .bl _ => true
  | .int _ => true
  | .str _ => true
  | _ => false
def scP : PV → PV → Bool
  | .non, .non => true | .non, .int _ => true | .int _, .non => true | .non, .bl _ => true | .bl _, .non => true | .non, .str _ => true | .str _, .non => true
  | .int _, .int _ => true | .bl _, .bl _ => true | .str _, .str _ => true
  | .int _, .str _ => true | .str _, .int _ => true | .bl _, .str _ => true | .str _, .bl _ => true
  | _, _ => false
def eqOk (st : Store) (v w : PV) : Prop := scP v w = true ∨ (flat 60 (res st v) = true ∧ flat 60 (res st w) = true)
def inOk (st : Store) (v w : PV) (xs : List PV) : Prop := (isSc v = true ∧ xs.all isSc = true) ∨ (flat 30 v = true ∧ flat 60 (res st w) = true)
def cmpV (o : CmpOp) (v w : PV) (st : Store) (Q : PQ) : Prop :=
  match o with
  | .Eq => eqOk st v w ∧ Q (.bl (eqv (res st v) (res st w))) st
  | .NotEq => eqOk st v w ∧ Q (.bl (!eqv (res st v) (res st w))) st
  | .Lt => match v, w with
    | .int i, .int j => Q (.bl (decide (i < j))) st
    | _, _ => False
  | .LtE => match v, w with
    | .int i, .int j => Q (.bl (decide (i ≤ j))) st
    | _, _ => False
  | .Gt => match v, w with
    | .int i, .int j => Q (.bl (decide (j < i))) st
    | _, _ => False
  | .GtE => match v, w with
    | .int i, .int j => Q (.bl (decide (j ≤ i))) st
    | _, _ => False
  | .Is => match w with
    | .non => Q (.bl (isNon v)) st
    | _ => False
  | .IsNot => match w with
    | .non => Q (.bl (!isNon v)) st
    | _ => False
  | .In => oP (seqOf st w) fun xs => inOk st v w xs ∧ Q (.bl (xs.any fun y => eqv y v)) st
  | .NotIn => oP (seqOf st w) fun xs => inOk st v w xs ∧ Q (.bl (!xs.any fun y => eqv y v)) st
def itemV (i : Int) (v : PV) (st : Store) (Q : PQ) : Prop :=
  match v with
  | .str z => z.length ≤ sizeLine ∧ oP (atI z.cps.toList i) fun c => Q (.str ⟨#[c]⟩) st
  | .tup xs => oP (atI xs i) fun y => Q y st
  | .lst xs => oP (atI xs i) fun y => Q y st
  | .ref a => oP (lstOf st (.ref a)) fun xs => oP (atI xs i) fun y => Q y st
  | _ => False
def idxV (v w : PV) (st : Store) (Q : PQ) : Prop := onInt w fun i => itemV i v st Q
def cutP {α : Type} (xs : List α) (lo hi : Option Int) : List α := (xs.drop (HT.sIx xs.length 0 lo)).take (HT.sIx xs.length xs.length hi - HT.sIx xs.length 0 lo)
def sliceV (m : Bool) (v : PV) (lo hi : Option Int) (st : Store) (Q : PQ) : Prop :=
  match v with
  | .tup xs => Q (.tup (cutP xs lo hi)) st
  | .lst xs => newList m (cutP xs lo hi) st Q
  | .ref a => ∃ xs, st a = some (.lst xs) ∧ newList m (cutP xs lo hi) st Q
  | _ => False
def blsOf : List PV → Option (List Bool)
  | [] => some []
  | .bl b :: r => (blsOf r).map (b :: ·)
  | _ => none
def intsOf : List PV → Option (List Int)
  | [] => some []
  | .int b :: r => (intsOf r).map (b :: ·)
  | _ => none
def maxL : List Int → Int
  | [] => 0
  | x :: r => r.foldl (fun m y => if y > m then y else m) x
def minL : List Int → Int
  | [] => 0
  | x :: r => r.foldl (fun m y => if y < m then y else m) x
def unV (f : UF) (v : PV) (st : Store) (Q : PQ) : Prop :=
  match f, v with
  | .revT, .tup xs => Q (.tup xs.reverse) st
  | .maxD, v => oP (lstOf st v) fun xs => oP (intsOf xs) fun ns => Q (.int (maxD0 ns)) st
  | _, _ => False
/-- what may be printed: numbers below 2 ^ 1900, not too much of it -/
def ShowOk (v : PV) : Prop := (toD v).showable = true ∧ (toD v).shown.length ≤ sizeLine ∧ flat 60 v = true
def bltV (f : BF) (m : Bool) (vs : List PV) (st : Store) (Q : PQ) : Prop :=
  match f, vs with
  | .len, [.str z] => z.length ≤ sizeLine ∧ Q (.int z.length) st
  | .len, [.tup xs] => Q (.int xs.length) st
  | .len, [.lst xs] => Q (.int xs.length) st
  | .len, [.ref a] => oP (lstOf st (.ref a)) fun xs => Q (.int xs.length) st
  | .int, [.int i] => Q (.int i) st
  | .int, [.bl b] => Q (.int (if b then 1 else 0)) st
  | .abs, [.int i] => Q (.int (if i < 0 then -i else i)) st
  | .tuple, [v] => oP (seqOf st v) fun xs => Q (.tup xs) st
  | .list, [.scr ns] => newList m (ns.map PV.int) st Q
  | .list, [.tup xs] => newList m xs st Q
  | .list, [.lst xs] => newList m xs st Q
  | .list, [.ref a] => oP (lstOf st (.ref a)) fun xs => newList m xs st Q
  | .all, [v] => oP (lstOf st v) fun xs => oP (blsOf xs) fun bs => Q (.bl (bs.all id)) st
  | .any, [v] => oP (lstOf st v) fun xs => oP (blsOf xs) fun bs => Q (.bl (bs.any id)) st
  | .sum, [v] => oP (lstOf st v) fun xs => oP (intsOf xs) fun ns => Q (.int ns.sum) st
  | .max, [v] => oP (lstOf st v) fun xs => oP (intsOf xs) fun ns => ns ≠ [] ∧ Q (.int (maxL ns)) st
  | .min, [v] => oP (lstOf st v) fun xs => oP (intsOf xs) fun ns => ns ≠ [] ∧ Q (.int (minL ns)) st
  | .max2, [.int i, .int j] => Q (.int (if j > i then j else i)) st
  | .min2, [.int i, .int j] => Q (.int (if j < i then j else i)) st
  | .repr, [v] => ShowOk (res st v) ∧ Q (.str (toD (res st v)).shown) st
  | _, _ => False
def isiV (ty : Str) : PV → Option Bool
  | .non => some false
  | .bl _ => some (ty == ("int" : Str) || ty == ("bool" : Str))
  | .int _ => some (ty == ("int" : Str))
  | .str _ => some (ty == ("str" : Str))
  | .tup _ => some (ty == ("tuple" : Str))
  | .lst _ => some (ty == ("list" : Str))
  | _ => none
def tyOk (ty : Str) : Bool := ty == ("int" : Str) || ty == ("bool" : Str) || ty == ("str" : Str) || ty == ("tuple" : Str) || ty == ("list" : Str)
def methV (f : MF) (o : PV) (vs : List PV) (st : Store) (Q : PQ) : Prop :=
  match f, o, vs with
  | .append, .ref a, [v] => ∃ xs, st a = some (.lst xs) ∧ xs.length < sizeLine ∧ Q .non (up st a (some (.lst (xs ++ [v]))))
  | .extend, .ref a, [v] => ∃ xs ys, st a = some (.lst xs) ∧ extOf st v = some ys ∧ xs.length + ys.length ≤ sizeLine ∧ Q .non (up st a (some (.lst (xs ++ ys))))
  | .pop, .ref a, [] => ∃ xs y, st a = some (.lst xs) ∧ xs[xs.length - 1]? = some y ∧ Q y (up st a (some (.lst xs.dropLast)))
  | .index, v, [w] => ∃ xs j z, lstOf st v = some xs ∧ isSc w = true ∧ xs.all isSc = true ∧ xs[j]? = some z ∧ eqv z w = true ∧ (∀ (k : Nat) z', k < j → xs[k]? = some z' → eqv z' w = false) ∧ Q (.int j) st
  | _, _, _ => False
/-- a def's call; the wish may be stronger than needed -/
def callS (sp : PSpec) (vs : List PV) (st : Store) (X : EQ) (Q : PQ) : Prop :=
  ∃ (Q0 : PQ) (X0 : EQ), sp vs st Q0 X0 ∧ (∀ v s, Q0 v s → Q v s) ∧ ∀ e s, X0 e s → X e s
def truV (v : PV) (st : Store) (Q : Bool → Store → Prop) : Prop :=
  match v with
  | .bl b => Q b st
  | .non => Q false st
  | .int i => Q (i != 0) st
  | .tup xs => Q (!xs.isEmpty) st
  | .lst xs => Q (!xs.isEmpty) st
  | .ref a => ∃ xs, st a = some (.lst xs) ∧ Q (!xs.isEmpty) st
  | _ => False
def rngL (lo : Int) (n : Nat) : List PV := (List.range n).map fun (k : Nat) => .int (lo + (k : Int))
def enumL : Nat → List PV → List PV
  | _, [] => []
  | k, x :: r => .tup [.int (k : Int), x] :: enumL (k + 1) r
def zipL : List PV → List PV → List PV
  | x :: r, y :: s => .tup [x, y] :: zipL r s
  | _, _ => []
def R62 (j : Int) : Prop := -(2 ^ 62) ≤ j ∧ j < 2 ^ 62
def itV (f : List PV → List PV) (v : PV) (st : Store) (K : List PV → (Store → Prop) → Store → Prop) : Prop :=
  match v with
  | .tup xs => K (f xs) (fun _ => True) st
  | .lst xs => K (f xs) (fun _ => True) st
  | .ref a => oP (lstOf st (.ref a)) fun xs => K (f xs) (fun s => s a = some (.lst xs)) st
  | _ => False
def itVL (f : List PV → List PV) (v : PV) (st : Store) (K : List PV → (Store → Prop) → Store → Prop) : Prop :=
  match v with
  | .lst xs => K (f xs) (fun _ => True) st
  | .ref a => oP (lstOf st (.ref a)) fun xs => K (f xs) (fun s => s a = some (.lst xs)) st
  | _ => False
def zipV (v w : PV) (st : Store) (K : List PV → (Store → Prop) → Store → Prop) : Prop :=
  match v, w with
  | .tup xs, .tup ys => K (zipL xs ys) (fun _ => True) st
  | .lst xs, .lst ys => K (zipL xs ys) (fun _ => True) st
  | _, _ => False
def frzV (v : PV) (st : Store) (Q : PQ) : Prop :=
  match v with
  | .ref a => oP (lstOf st (.ref a)) fun xs => Q (.lst xs) (up st a none)
  | v => Q v st
/-- more is followed -/
def Sub (s t : Store) : Prop := ∀ a c, s a = some c → t a = some c
/-- an element of a comprehension: the store stands, or the element is a new list -/
def lcS (st st' : Store) (y : PV) (st2 : Store) (C : Store → Prop) : Prop :=
  (st2 = st' ∧ C st) ∨ ∃ p xs, st' p = none ∧ y = .ref p ∧ st2 = up st' p (some (.lst xs)) ∧ C (up st p (some (.lst xs)))
/-- a comprehension over items: its tests leave the store as it is, whatever else is followed -/
def lcL (tg : TG) (t : Sl → Store → (Bool → Store → Prop) → Prop) (e : Sl → Store → PQ → Prop) (τ : Sl) (K : List PV → Store → Prop) : List PV → Store → List PV → Prop
  | [], st, acc => K acc st
  | x :: r, st, acc => oP (tg.asg x τ) fun τ1 => ∀ st', Sub st st' → t τ1 st' fun b st1 => st1 = st' ∧ if b = true then e τ1 st' fun y st2 => lcS st st' y st2 fun stn => lcL tg t e τ K r stn (acc ++ [y]) else lcL tg t e τ K r st acc
def I.isR : I → Bool
  | .val _ => false
  | _ => true
def isLst (st : Store) (v : PV) : Prop := oP (lstOf st v) fun _ => True

mutual
def wpE : E → EQ → Sl → Store → PQ → Prop
  | .var i, _, τ, st, Q => oP (getS τ i) fun v => Q v st
  | .fvar i, _, τ, st, Q => oP (getS τ i) fun v => frzV v st Q
  | .int n, _, _, st, Q => Q (.int n) st
  | .bl b, _, _, st, Q => Q (.bl b) st
  | .non, _, _, st, Q => Q .non st
  | .str x, _, _, st, Q => Q (.str x) st
  | .glob _ v, _, _, st, Q => Q v st
  | .bin o m a b, X, τ, st, Q => wpE a X τ st fun v st1 => wpE b X τ st1 fun w st2 => binV o m v w st2 Q
  | .neg a, X, τ, st, Q => wpE a X τ st fun v st1 => negV v st1 Q
  | .not a, X, τ, st, Q => wpE a X τ st fun v st1 => onBl v fun b => Q (.bl (!b)) st1
  | .un f a, X, τ, st, Q => wpE a X τ st fun v st1 => unV f v st1 Q
  | .cmp o a b, X, τ, st, Q => wpE a X τ st fun v st1 => wpE b X τ st1 fun w st2 => cmpV o v w st2 Q
  | .chain o o' a b c, X, τ, st, Q => wpE a X τ st fun v st1 => wpE b X τ st1 fun w st2 => cmpV o v w st2 fun z st3 => onBl z fun k =>
      if k = true then wpE c X τ st3 fun u st4 => cmpV o' w u st4 Q else Q (.bl false) st3
  | .bools o es, X, τ, st, Q => wpBs o es X τ st Q
  | .ite t a b, X, τ, st, Q => wpT t X τ st fun k st1 => if k = true then wpE a X τ st1 Q else wpE b X τ st1 Q
  | .tup es, X, τ, st, Q => wpEs es X τ st fun vs st1 => vs.length ≤ sizeLine ∧ Q (.tup vs) st1
  | .lst m es, X, τ, st, Q => wpEs es X τ st fun vs st1 => vs.length ≤ sizeLine ∧ newList m vs st1 Q
  | .idx a i, X, τ, st, Q => wpE a X τ st fun v st1 => wpE i X τ st1 fun w st2 => idxV v w st2 Q
  | .slice m a lo hi, X, τ, st, Q => wpE a X τ st fun v st1 => wpO lo X τ st1 fun l st2 => wpO hi X τ st2 fun u st3 => sliceV m v l u st3 Q
  | .call _ sp es, X, τ, st, Q => wpEs es X τ st fun vs st1 => callS sp vs st1 X Q
  | .blt f m es, X, τ, st, Q => wpEs es X τ st fun vs st1 => bltV f m vs st1 Q
  | .isi e ty, X, τ, st, Q => wpE e X τ st fun v st1 => oP (isiV ty v) fun b => Q (.bl b) st1
  | .meth f o es, X, τ, st, Q => wpE o X τ st fun v st1 => isLst st1 v ∧ wpEs es X τ st1 fun vs st2 => methV f v vs st2 Q
  | .comp m vs tg it ts elt, X, τ, st, Q => wpI it X τ st fun xs ok st1 => (it.isR = true → xs.length ≤ sizeLine) ∧ ok st1 ∧
      lcL tg (wpTs .And ts fun _ _ => False) (wpE elt fun _ _ => False) (wipeS τ vs) (fun acc st2 => newList m acc st2 Q) xs st1 []
def wpEs : Es → EQ → Sl → Store → (List PV → Store → Prop) → Prop
  | .nil, _, _, st, Q => Q [] st
  | .cons e es, X, τ, st, Q => wpE e X τ st fun v st1 => wpEs es X τ st1 fun vs st2 => Q (v :: vs) st2
def wpBs : BoolOp → Es → EQ → Sl → Store → PQ → Prop
  | _, .nil, _, _, _, _ => False
  | o, .cons e es, X, τ, st, Q => match es with
    | .nil => wpE e X τ st Q
    | .cons _ _ => wpE e X τ st fun v st1 => onBl v fun b => match o with
      | .And => if b = true then wpBs o es X τ st1 Q else Q (.bl false) st1
      | .Or => if b = true then Q (.bl true) st1 else wpBs o es X τ st1 Q
def wpO : OE → EQ → Sl → Store → (Option Int → Store → Prop) → Prop
  | .no, _, _, st, Q => Q none st
  | .yes e, X, τ, st, Q => wpE e X τ st fun v st1 => onInt v fun i => Q (some i) st1
def wpT : T → EQ → Sl → Store → (Bool → Store → Prop) → Prop
  | .val e, X, τ, st, Q => wpE e X τ st fun v st1 => truV v st1 Q
  | .cmp o a b, X, τ, st, Q => wpE a X τ st fun v st1 => wpE b X τ st1 fun w st2 => cmpV o v w st2 fun z st3 => onBl z fun k => Q k st3
  | .chain o o' a b c, X, τ, st, Q => wpE a X τ st fun v st1 => wpE b X τ st1 fun w st2 => cmpV o v w st2 fun z st3 => onBl z fun k =>
      if k = true then wpE c X τ st3 fun u st4 => cmpV o' w u st4 fun y st5 => onBl y fun k' => Q k' st5 else Q false st3
  | .not t, X, τ, st, Q => wpT t X τ st fun k st1 => Q (!k) st1
  | .bools o ts, X, τ, st, Q => wpTs o ts X τ st Q
  | .ite t a b, X, τ, st, Q => wpT t X τ st fun k st1 => if k = true then wpT a X τ st1 Q else wpT b X τ st1 Q
def wpTs : BoolOp → Ts → EQ → Sl → Store → (Bool → Store → Prop) → Prop
  | o, .nil, _, _, st, Q => match o with
    | .And => Q true st
    | .Or => Q false st
  | o, .cons t ts, X, τ, st, Q => wpT t X τ st fun k st1 => match o with
    | .And => if k = true then wpTs o ts X τ st1 Q else Q false st1
    | .Or => if k = true then Q true st1 else wpTs o ts X τ st1 Q
def wpI : I → EQ → Sl → Store → (List PV → (Store → Prop) → Store → Prop) → Prop
  | .val e, X, τ, st, K => wpE e X τ st fun v st1 => itV id v st1 K
  | .range1 a, X, τ, st, K => wpE a X τ st fun v st1 => onInt v fun j => R62 j ∧ K (rngL 0 j.toNat) (fun _ => True) st1
  | .range2 a b, X, τ, st, K => wpE a X τ st fun v st1 => wpE b X τ st1 fun w st2 => onInt v fun i => onInt w fun j => R62 i ∧ R62 j ∧ K (rngL i (j - i).toNat) (fun _ => True) st2
  | .enum e, X, τ, st, K => wpE e X τ st fun v st1 => itV (enumL 0) v st1 K
  | .zip a b, X, τ, st, K => wpE a X τ st fun v st1 => wpE b X τ st1 fun w st2 => zipV v w st2 K
end

/-! ### statements -/
structure PEnds where
  nx : Sl → Store → Prop
  rt : PQ
  bk : Sl → Store → Prop
  ct : Sl → Store → Prop
  ex : Exn → Sl → Store → Prop
mutual
inductive S where
  | asg (tg : TG) (e : E)
  | asgLc (i : Nat) (e : E)
  | setIx (o i e : E)
  | aug (i : Nat) (o : Operator) (e : E)
  | expr (e : E)
  | ret (e : E)
  | retN
  | ite (t : T) (a b : Ss)
  | loop (tg : TG) (it : I) (b : Ss)
  | while (t : T) (b : Ss)
  | pass
  | brk
  | cont
  | never
inductive Ss where
  | nil
  | cons (s : S) (ss : Ss)
end
def setIxV (o i v : PV) (st : Store) (Q : Store → Prop) : Prop :=
  match o, i with
  | .ref a, .int k => ∃ xs j, st a = some (.lst xs) ∧ ixN xs.length k = some j ∧ Q (up st a (some (.lst (xs.set j v))))
  | _, _ => False
def augV (o : Operator) (v w : PV) (st : Store) (Q : PQ) : Prop :=
  match o, v, w with
  | .Add, .int i, .int j => Q (.int (i + j)) st
  | .Sub, .int i, .int j => Q (.int (i - j)) st
  | _, _, _ => False
def forL (tg : TG) (b : PEnds → Sl → Store → Prop) (ok : Store → Prop) : List PV → PEnds → Sl → Store → Prop
  | [], D, τ, st => ok st ∧ D.nx τ st
  | x :: r, D, τ, st => ok st ∧ oP (tg.asg x τ) fun τ1 => b { D with nx := forL tg b ok r D, ct := forL tg b ok r D, bk := D.nx } τ1 st
def whileL (t : Sl → Store → (Bool → Store → Prop) → Prop) (b : PEnds → Sl → Store → Prop) (D : PEnds) (τ : Sl) (st : Store) : Prop :=
  ∃ W : Nat → Sl → Store → Prop, (∃ n, W n τ st) ∧ ∀ n τ st, W n τ st → t τ st fun k st1 => if k = true then
    b { D with nx := fun τ' st' => ∃ m, m < n ∧ W m τ' st', ct := fun τ' st' => ∃ m, m < n ∧ W m τ' st', bk := D.nx } τ st1 else D.nx τ st1
mutual
def wpS : S → PEnds → Sl → Store → Prop
  | .asg tg e, D, τ, st => wpE e (fun x s => D.ex x τ s) τ st fun v st1 => oP (tg.asg v τ) fun τ' => D.nx τ' st1
  | .asgLc i e, D, τ, st => wpE e (fun x s => D.ex x τ s) τ st fun v st1 => D.nx (setS τ i (some v)) st1
  | .setIx o i e, D, τ, st => wpE e (fun x s => D.ex x τ s) τ st fun v st1 => wpE o (fun x s => D.ex x τ s) τ st1 fun ov st2 => wpE i (fun x s => D.ex x τ s) τ st2 fun iv st3 => setIxV ov iv v st3 fun st4 => D.nx τ st4
  | .aug i o e, D, τ, st => oP (getS τ i) fun v => wpE e (fun x s => D.ex x τ s) τ st fun w st1 => augV o v w st1 fun z st2 => D.nx (setS τ i (some z)) st2
  | .expr e, D, τ, st => wpE e (fun x s => D.ex x τ s) τ st fun _ st1 => D.nx τ st1
  | .ret e, D, τ, st => wpE e (fun x s => D.ex x τ s) τ st D.rt
  | .retN, D, _, st => D.rt .non st
  | .ite t a b, D, τ, st => wpT t (fun x s => D.ex x τ s) τ st fun k st1 => if k = true then wpSs a D τ st1 else wpSs b D τ st1
  | .loop tg it b, D, τ, st => wpI it (fun x s => D.ex x τ s) τ st fun xs ok st1 => forL tg (wpSs b) ok xs D τ st1
  | .while t b, D, τ, st => whileL (fun τ st Q => wpT t (fun x s => D.ex x τ s) τ st Q) (wpSs b) D τ st
  | .pass, D, τ, st => D.nx τ st
  | .brk, D, τ, st => D.bk τ st
  | .cont, D, τ, st => D.ct τ st
  | .never, _, _, _ => False
def wpSs : Ss → PEnds → Sl → Store → Prop
  | .nil, D, τ, st => D.nx τ st
  | .cons s ss, D, τ, st => wpS s { D with nx := wpSs ss D } τ st
end
def initS (n : Nat) (vs : List PV) : Sl := vs.map some ++ List.replicate (n - vs.length) none
/-- a def's body: what it leaves behind may be forgotten -/
def wpFn (n : Nat) (b : Ss) (vs : List PV) (st : Store) (Q : PQ) (X : EQ) : Prop :=
  wpSs b ⟨fun _ s => ∃ s0, Sub s0 s ∧ Q .non s0, fun v s => ∃ s0, Sub s0 s ∧ Q v s0, fun _ _ => False, fun _ _ => False, fun e _ s => ∃ s0, Sub s0 s ∧ X e s0⟩ (initS n vs) st
end TK

set_option maxRecDepth 100000
set_option maxHeartbeats 1000000
namespace TK
open PySem PySem.Spec PyProof.Rows L2
/-! ### a weaker wish -/
theorem oP_mono {α : Type} {o : Option α} {k k' : α → Prop} (hk : ∀ a, k a → k' a) (h : oP o k) : oP o k' := by
  cases o with
  | none => exact h
  | some a => exact hk a h
theorem onBl_mono {v : PV} {k k' : Bool → Prop} (hk : ∀ a, k a → k' a) (h : onBl v k) : onBl v k' := by
  cases v with
  | bl b => exact hk b h
  | _ => exact h
theorem onInt_mono {v : PV} {k k' : Int → Prop} (hk : ∀ a, k a → k' a) (h : onInt v k) : onInt v k' := by
  cases v with
  | int b => exact hk b h
  | _ => exact h
section
variable {Q Q' : PQ} {st : Store}
theorem newList_mono {m : Bool} {xs : List PV} (hq : ∀ v s, Q v s → Q' v s) (h : newList m xs st Q) : newList m xs st Q' := by
  cases m with
  | true => exact fun p hp => hq _ _ (h p hp)
  | false => exact hq _ _ h
theorem binV_mono {o : Operator} {m : Bool} {v w : PV} (hq : ∀ v s, Q v s → Q' v s) (h : binV o m v w st Q) : binV o m v w st Q' := by
  unfold binV at h
  split at h <;> first
    | exact h.elim
    | exact hq _ _ h
    | exact ⟨h.1, hq _ _ h.2⟩
    | exact ⟨h.1, newList_mono hq h.2⟩
    | (obtain ⟨a, b, c, d⟩ := h; exact ⟨a, b, c, newList_mono hq d⟩)
    | (obtain ⟨a, b, c⟩ := h; exact ⟨a, b, newList_mono hq c⟩)
    | (obtain ⟨a, b, c, d, e, f⟩ := h; exact ⟨a, b, c, d, e, newList_mono hq f⟩)
    | (obtain ⟨a, b, c, d, e⟩ := h; exact ⟨a, b, c, d, newList_mono hq e⟩)
theorem unV_mono {f : UF} {v : PV} (hq : ∀ v s, Q v s → Q' v s) (h : unV f v st Q) : unV f v st Q' := by
  unfold unV at h
  split at h
  · exact hq _ _ h
  · unfold unV
    exact oP_mono (fun _ h => oP_mono (fun _ h => hq _ _ h) h) h
  · exact h.elim
theorem negV_mono {v : PV} (hq : ∀ v s, Q v s → Q' v s) (h : negV v st Q) : negV v st Q' := by
  unfold negV at h
  split at h
  · exact hq _ _ h
  · exact h.elim
theorem cmpV_mono {o : CmpOp} {v w : PV} (hq : ∀ v s, Q v s → Q' v s) (h : cmpV o v w st Q) : cmpV o v w st Q' := by
  unfold cmpV at h ⊢
  cases o <;> dsimp only at h ⊢
  all_goals first
    | exact ⟨h.1, hq _ _ h.2⟩
    | exact oP_mono (fun xs h => ⟨h.1, hq _ _ h.2⟩) h
    | (split at h <;> first | exact h.elim | exact hq _ _ h)
theorem idxV_mono {v w : PV} (hq : ∀ v s, Q v s → Q' v s) (h : idxV v w st Q) : idxV v w st Q' := by
  unfold idxV at h ⊢
  refine onInt_mono (fun i h => ?_) h
  unfold itemV at h ⊢
  split at h
  · exact ⟨h.1, oP_mono (fun _ h => hq _ _ h) h.2⟩
  · exact oP_mono (fun _ h => hq _ _ h) h
  · exact oP_mono (fun _ h => hq _ _ h) h
  · exact oP_mono (fun _ h => oP_mono (fun _ h => hq _ _ h) h) h
  · exact h.elim
theorem sliceV_mono {m : Bool} {v : PV} {lo hi : Option Int} (hq : ∀ v s, Q v s → Q' v s) (h : sliceV m v lo hi st Q) : sliceV m v lo hi st Q' := by
  unfold sliceV at h
  split at h
  · exact hq _ _ h
  · exact newList_mono hq h
  · obtain ⟨xs, e, h⟩ := h
    exact ⟨xs, e, newList_mono hq h⟩
  · exact h.elim
theorem bltV_mono {f : BF} {m : Bool} {vs : List PV} (hq : ∀ v s, Q v s → Q' v s) (h : bltV f m vs st Q) : bltV f m vs st Q' := by
  unfold bltV at h
  split at h <;> first
    | exact h.elim
    | exact hq _ _ h
    | exact newList_mono hq h
    | exact ⟨h.1, hq _ _ h.2⟩
    | exact oP_mono (fun _ h => hq _ _ h) h
    | exact oP_mono (fun _ h => newList_mono hq h) h
    | exact oP_mono (fun _ h => oP_mono (fun _ h => hq _ _ h) h) h
    | exact oP_mono (fun _ h => oP_mono (fun _ h => ⟨h.1, hq _ _ h.2⟩) h) h
theorem methV_mono {f : MF} {o : PV} {vs : List PV} (hq : ∀ v s, Q v s → Q' v s) (h : methV f o vs st Q) : methV f o vs st Q' := by
  unfold methV at h
  split at h
  · obtain ⟨a, b, c, d⟩ := h; exact ⟨a, b, c, hq _ _ d⟩
  · obtain ⟨a, b, c, d, e, f⟩ := h; exact ⟨a, b, c, d, e, hq _ _ f⟩
  · obtain ⟨a, b, c, d, e⟩ := h; exact ⟨a, b, c, d, hq _ _ e⟩
  · obtain ⟨a, b, z, c, d, e, f, g, i, j⟩ := h; exact ⟨a, b, z, c, d, e, f, g, i, hq _ _ j⟩
  · exact h.elim
theorem augV_mono {o : Operator} {v w : PV} (hq : ∀ v s, Q v s → Q' v s) (h : augV o v w st Q) : augV o v w st Q' := by
  unfold augV at h
  split at h <;> first | exact h.elim | exact hq _ _ h
theorem truV_mono {v : PV} {P P' : Bool → Store → Prop} (hq : ∀ v s, P v s → P' v s) (h : truV v st P) : truV v st P' := by
  unfold truV at h
  split at h <;> first
    | exact hq _ _ h
    | (obtain ⟨xs, e, h⟩ := h; exact ⟨xs, e, hq _ _ h⟩)
    | exact h.elim
theorem callS_mono {sp : PSpec} {vs : List PV} {X X' : EQ} (hx : ∀ e s, X e s → X' e s) (hq : ∀ v s, Q v s → Q' v s) (h : callS sp vs st X Q) : callS sp vs st X' Q' := by
  obtain ⟨Q0, X0, h, a, b⟩ := h
  exact ⟨Q0, X0, h, fun v s q => hq _ _ (a v s q), fun e s q => hx _ _ (b e s q)⟩
theorem setIxV_mono {o i v : PV} {P P' : Store → Prop} (hq : ∀ s, P s → P' s) (h : setIxV o i v st P) : setIxV o i v st P' := by
  unfold setIxV at h
  split at h
  · obtain ⟨xs, j, a, b, c⟩ := h
    exact ⟨xs, j, a, b, hq _ c⟩
  · exact h.elim
theorem frzV_mono {v : PV} (hq : ∀ v s, Q v s → Q' v s) (h : frzV v st Q) : frzV v st Q' := by
  unfold frzV at h ⊢
  split at h
  · exact oP_mono (fun _ h => hq _ _ h) h
  · exact hq _ _ h
theorem itV_mono {f : List PV → List PV} {v : PV} {K K' : List PV → (Store → Prop) → Store → Prop} (hq : ∀ v o s, K v o s → K' v o s) (h : itV f v st K) : itV f v st K' := by
  unfold itV at h ⊢
  split at h <;> first
    | exact hq _ _ _ h
    | exact oP_mono (fun _ h => hq _ _ _ h) h
    | exact h.elim
theorem itVL_mono {f : List PV → List PV} {v : PV} {K K' : List PV → (Store → Prop) → Store → Prop} (hq : ∀ v o s, K v o s → K' v o s) (h : itVL f v st K) : itVL f v st K' := by
  unfold itVL at h ⊢
  split at h <;> first
    | exact hq _ _ _ h
    | exact oP_mono (fun _ h => hq _ _ _ h) h
    | exact h.elim
theorem zipV_mono {v w : PV} {K K' : List PV → (Store → Prop) → Store → Prop} (hq : ∀ v o s, K v o s → K' v o s) (h : zipV v w st K) : zipV v w st K' := by
  unfold zipV at h ⊢
  split at h <;> first
    | exact hq _ _ _ h
    | exact h.elim
end
theorem ite_mono {c : Bool} {P P' R R' : Prop} (h1 : P → P') (h2 : R → R') (h : if c = true then P else R) : if c = true then P' else R' := by
  cases c with
  | true => exact h1 h
  | false => exact h2 h
theorem lcS_mono {st st' : Store} {y : PV} {st2 : Store} {C C' : Store → Prop} (h : ∀ s, C s → C' s) (k : lcS st st' y st2 C) : lcS st st' y st2 C' := by
  rcases k with ⟨a, b⟩ | ⟨p, xs, a, b, c, d⟩
  · exact .inl ⟨a, h _ b⟩
  · exact .inr ⟨p, xs, a, b, c, h _ d⟩
theorem lcL_mono {tg : TG} {t : Sl → Store → (Bool → Store → Prop) → Prop} {e : Sl → Store → PQ → Prop} {τ : Sl}
    (ht : ∀ τ st (P P' : Bool → Store → Prop), (∀ v s, P v s → P' v s) → t τ st P → t τ st P') (he : ∀ τ st (P P' : PQ), (∀ v s, P v s → P' v s) → e τ st P → e τ st P')
    {K K' : List PV → Store → Prop} (hk : ∀ v s, K v s → K' v s) : ∀ {xs : List PV} {st : Store} {acc : List PV}, lcL tg t e τ K xs st acc → lcL tg t e τ K' xs st acc
  | [], _, _, h => hk _ _ h
  | x :: r, st, acc, h => by
    refine oP_mono (fun τ1 h => ?_) h
    intro st' hs
    refine ht _ _ _ _ (fun b s hb => ⟨hb.1, ?_⟩) (h st' hs)
    exact ite_mono (fun hb => he _ _ _ _ (fun y s2 hy => lcS_mono (fun _ h => lcL_mono ht he hk h) hy) hb) (fun hb => lcL_mono ht he hk hb) hb.2
mutual
theorem wpE_mono : ∀ (e : E) {X X' : EQ} {τ : Sl} {st : Store} {Q Q' : PQ}, (∀ e s, X e s → X' e s) → (∀ v s, Q v s → Q' v s) → wpE e X τ st Q → wpE e X' τ st Q'
  | .var i, X, X', τ, st, Q, Q', hx, hq, h => oP_mono (fun _ h => hq _ _ h) h
  | .fvar i, X, X', τ, st, Q, Q', hx, hq, h => oP_mono (fun _ h => frzV_mono hq h) h
  | .int n, X, X', τ, st, Q, Q', hx, hq, h => hq _ _ h
  | .bl n, X, X', τ, st, Q, Q', hx, hq, h => hq _ _ h
  | .non, X, X', τ, st, Q, Q', hx, hq, h => hq _ _ h
  | .str n, X, X', τ, st, Q, Q', hx, hq, h => hq _ _ h
  | .glob x v, X, X', τ, st, Q, Q', hx, hq, h => hq _ _ h
  | .bin o m a b, X, X', τ, st, Q, Q', hx, hq, h => by
    unfold wpE at h ⊢
    exact wpE_mono a hx (fun v s h => wpE_mono b hx (fun w s h => binV_mono hq h) h) h
  | .neg a, X, X', τ, st, Q, Q', hx, hq, h => by
    unfold wpE at h ⊢
    exact wpE_mono a hx (fun v s h => negV_mono hq h) h
  | .un f a, X, X', τ, st, Q, Q', hx, hq, h => by
    unfold wpE at h ⊢
    exact wpE_mono a hx (fun v s h => unV_mono hq h) h
  | .not a, X, X', τ, st, Q, Q', hx, hq, h => by
    unfold wpE at h ⊢
    exact wpE_mono a hx (fun v s h => onBl_mono (fun _ h => hq _ _ h) h) h
  | .cmp o a b, X, X', τ, st, Q, Q', hx, hq, h => by
    unfold wpE at h ⊢
    exact wpE_mono a hx (fun v s h => wpE_mono b hx (fun w s h => cmpV_mono hq h) h) h
  | .chain o o' a b c, X, X', τ, st, Q, Q', hx, hq, h => by
    unfold wpE at h ⊢
    refine wpE_mono a hx (fun v s h => wpE_mono b hx (fun w s h => cmpV_mono (fun z s h => onBl_mono (fun k h => ?_) h) h) h) h
    exact ite_mono (fun h => wpE_mono c hx (fun u s h => cmpV_mono hq h) h) (fun h => hq _ _ h) h
  | .bools o es, X, X', τ, st, Q, Q', hx, hq, h => by
    unfold wpE at h ⊢
    exact wpBs_mono es hx hq h
  | .ite t a b, X, X', τ, st, Q, Q', hx, hq, h => by
    unfold wpE at h ⊢
    exact wpT_mono t hx (fun k s h => ite_mono (fun h => wpE_mono a hx hq h) (fun h => wpE_mono b hx hq h) h) h
  | .tup es, X, X', τ, st, Q, Q', hx, hq, h => by
    unfold wpE at h ⊢
    exact wpEs_mono es hx (fun vs s h => ⟨h.1, hq _ _ h.2⟩) h
  | .lst m es, X, X', τ, st, Q, Q', hx, hq, h => by
    unfold wpE at h ⊢
    exact wpEs_mono es hx (fun vs s h => ⟨h.1, newList_mono hq h.2⟩) h
  | .idx a i, X, X', τ, st, Q, Q', hx, hq, h => by
    unfold wpE at h ⊢
    exact wpE_mono a hx (fun v s h => wpE_mono i hx (fun w s h => idxV_mono hq h) h) h
  | .slice m a lo hi, X, X', τ, st, Q, Q', hx, hq, h => by
    unfold wpE at h ⊢
    exact wpE_mono a hx (fun v s h => wpO_mono lo hx (fun l s h => wpO_mono hi hx (fun u s h => sliceV_mono hq h) h) h) h
  | .call f sp es, X, X', τ, st, Q, Q', hx, hq, h => by
    unfold wpE at h ⊢
    exact wpEs_mono es hx (fun vs s h => callS_mono hx hq h) h
  | .blt f m es, X, X', τ, st, Q, Q', hx, hq, h => by
    unfold wpE at h ⊢
    exact wpEs_mono es hx (fun vs s h => bltV_mono hq h) h
  | .isi e ty, X, X', τ, st, Q, Q', hx, hq, h => by
    unfold wpE at h ⊢
    exact wpE_mono e hx (fun v s h => oP_mono (fun _ h => hq _ _ h) h) h
  | .meth f o es, X, X', τ, st, Q, Q', hx, hq, h => by
    unfold wpE at h ⊢
    exact wpE_mono o hx (fun v s h => ⟨h.1, wpEs_mono es hx (fun vs s h => methV_mono hq h) h.2⟩) h
  | .comp m vs tg it ts elt, X, X', τ, st, Q, Q', hx, hq, h => by
    unfold wpE at h ⊢
    refine wpI_mono it hx (fun xs ok s h => ⟨h.1, h.2.1, ?_⟩) h
    refine lcL_mono ?_ ?_ (fun acc s h => newList_mono hq h) h.2.2
    · exact fun τ st P P' hp h => wpTs_mono ts (fun _ _ z => z) hp h
    · exact fun τ st P P' hp h => wpE_mono elt (fun _ _ z => z) hp h
theorem wpEs_mono : ∀ (e : Es) {X X' : EQ} {τ : Sl} {st : Store} {Q Q' : List PV → Store → Prop}, (∀ e s, X e s → X' e s) → (∀ v s, Q v s → Q' v s) → wpEs e X τ st Q → wpEs e X' τ st Q'
  | .nil, X, X', τ, st, Q, Q', hx, hq, h => hq _ _ h
  | .cons e es, X, X', τ, st, Q, Q', hx, hq, h => by
    unfold wpEs at h ⊢
    exact wpE_mono e hx (fun v s h => wpEs_mono es hx (fun vs s h => hq _ _ h) h) h
theorem wpBs_mono : ∀ (e : Es) {o : BoolOp} {X X' : EQ} {τ : Sl} {st : Store} {Q Q' : PQ}, (∀ e s, X e s → X' e s) → (∀ v s, Q v s → Q' v s) → wpBs o e X τ st Q → wpBs o e X' τ st Q'
  | .nil, o, X, X', τ, st, Q, Q', hx, hq, h => h
  | .cons e .nil, o, X, X', τ, st, Q, Q', hx, hq, h => by
    unfold wpBs at h ⊢
    exact wpE_mono e hx hq h
  | .cons e (.cons e' es), o, X, X', τ, st, Q, Q', hx, hq, h => by
    unfold wpBs at h ⊢
    dsimp only at h ⊢
    refine wpE_mono e hx (fun v s h => onBl_mono (fun b h => ?_) h) h
    cases o with
    | And => exact ite_mono (fun h => wpBs_mono (.cons e' es) hx hq h) (fun h => hq _ _ h) h
    | Or => exact ite_mono (fun h => hq _ _ h) (fun h => wpBs_mono (.cons e' es) hx hq h) h
theorem wpO_mono : ∀ (e : OE) {X X' : EQ} {τ : Sl} {st : Store} {Q Q' : Option Int → Store → Prop}, (∀ e s, X e s → X' e s) → (∀ v s, Q v s → Q' v s) → wpO e X τ st Q → wpO e X' τ st Q'
  | .no, X, X', τ, st, Q, Q', hx, hq, h => hq _ _ h
  | .yes e, X, X', τ, st, Q, Q', hx, hq, h => by
    unfold wpO at h ⊢
    exact wpE_mono e hx (fun v s h => onInt_mono (fun _ h => hq _ _ h) h) h
theorem wpT_mono : ∀ (e : T) {X X' : EQ} {τ : Sl} {st : Store} {Q Q' : Bool → Store → Prop}, (∀ e s, X e s → X' e s) → (∀ v s, Q v s → Q' v s) → wpT e X τ st Q → wpT e X' τ st Q'
  | .val e, X, X', τ, st, Q, Q', hx, hq, h => by
    unfold wpT at h ⊢
    exact wpE_mono e hx (fun v s h => truV_mono hq h) h
  | .cmp o a b, X, X', τ, st, Q, Q', hx, hq, h => by
    unfold wpT at h ⊢
    exact wpE_mono a hx (fun v s h => wpE_mono b hx (fun w s h => cmpV_mono (fun z s h => onBl_mono (fun _ h => hq _ _ h) h) h) h) h
  | .chain o o' a b c, X, X', τ, st, Q, Q', hx, hq, h => by
    unfold wpT at h ⊢
    refine wpE_mono a hx (fun v s h => wpE_mono b hx (fun w s h => cmpV_mono (fun z s h => onBl_mono (fun k h => ?_) h) h) h) h
    exact ite_mono (fun h => wpE_mono c hx (fun u s h => cmpV_mono (fun z s h => onBl_mono (fun _ h => hq _ _ h) h) h) h) (fun h => hq _ _ h) h
  | .not t, X, X', τ, st, Q, Q', hx, hq, h => by
    unfold wpT at h ⊢
    exact wpT_mono t hx (fun k s h => hq _ _ h) h
  | .bools o ts, X, X', τ, st, Q, Q', hx, hq, h => by
    unfold wpT at h ⊢
    exact wpTs_mono ts hx hq h
  | .ite t a b, X, X', τ, st, Q, Q', hx, hq, h => by
    unfold wpT at h ⊢
    exact wpT_mono t hx (fun k s h => ite_mono (fun h => wpT_mono a hx hq h) (fun h => wpT_mono b hx hq h) h) h
theorem wpTs_mono : ∀ (e : Ts) {o : BoolOp} {X X' : EQ} {τ : Sl} {st : Store} {Q Q' : Bool → Store → Prop}, (∀ e s, X e s → X' e s) → (∀ v s, Q v s → Q' v s) → wpTs o e X τ st Q → wpTs o e X' τ st Q'
  | .nil, o, X, X', τ, st, Q, Q', hx, hq, h => by
    unfold wpTs at h ⊢
    cases o <;> exact hq _ _ h
  | .cons t ts, o, X, X', τ, st, Q, Q', hx, hq, h => by
    unfold wpTs at h ⊢
    refine wpT_mono t hx (fun k s h => ?_) h
    cases o with
    | And => exact ite_mono (fun h => wpTs_mono ts hx hq h) (fun h => hq _ _ h) h
    | Or => exact ite_mono (fun h => hq _ _ h) (fun h => wpTs_mono ts hx hq h) h
theorem wpI_mono : ∀ (e : I) {X X' : EQ} {τ : Sl} {st : Store} {Q Q' : List PV → (Store → Prop) → Store → Prop}, (∀ e s, X e s → X' e s) → (∀ v o s, Q v o s → Q' v o s) → wpI e X τ st Q → wpI e X' τ st Q'
  | .val e, X, X', τ, st, Q, Q', hx, hq, h => by
    unfold wpI at h ⊢
    exact wpE_mono e hx (fun v s h => itV_mono hq h) h
  | .range1 a, X, X', τ, st, Q, Q', hx, hq, h => by
    unfold wpI at h ⊢
    exact wpE_mono a hx (fun v s h => onInt_mono (fun j h => ⟨h.1, hq _ _ _ h.2⟩) h) h
  | .range2 a b, X, X', τ, st, Q, Q', hx, hq, h => by
    unfold wpI at h ⊢
    exact wpE_mono a hx (fun v s h => wpE_mono b hx (fun w s h => onInt_mono (fun i h => onInt_mono (fun j h => ⟨h.1, h.2.1, hq _ _ _ h.2.2⟩) h) h) h) h
  | .enum e, X, X', τ, st, Q, Q', hx, hq, h => by
    unfold wpI at h ⊢
    exact wpE_mono e hx (fun v s h => itV_mono hq h) h
  | .zip a b, X, X', τ, st, Q, Q', hx, hq, h => by
    unfold wpI at h ⊢
    exact wpE_mono a hx (fun v s h => wpE_mono b hx (fun w s h => zipV_mono hq h) h) h
end
structure PEnds.Le (D D' : PEnds) : Prop where
  nx : ∀ τ s, D.nx τ s → D'.nx τ s
  rt : ∀ v s, D.rt v s → D'.rt v s
  bk : ∀ τ s, D.bk τ s → D'.bk τ s
  ct : ∀ τ s, D.ct τ s → D'.ct τ s
  ex : ∀ e τ s, D.ex e τ s → D'.ex e τ s
theorem forL_mono {tg : TG} {b : PEnds → Sl → Store → Prop} {ok : Store → Prop} (hb : ∀ (D D' : PEnds) τ st, D.Le D' → b D τ st → b D' τ st) :
    ∀ {xs : List PV} {D D' : PEnds} {τ : Sl} {st : Store}, D.Le D' → forL tg b ok xs D τ st → forL tg b ok xs D' τ st
  | [], _, _, _, _, hd, h => ⟨h.1, hd.nx _ _ h.2⟩
  | x :: r, D, D', τ, st, hd, h => by
    refine ⟨h.1, oP_mono (fun τ1 h => ?_) h.2⟩
    refine hb _ _ _ _ ?_ h
    exact ⟨fun _ _ h => forL_mono hb hd h, hd.rt, fun _ _ h => hd.nx _ _ h, fun _ _ h => forL_mono hb hd h, hd.ex⟩
mutual
theorem wpS_mono : ∀ (s : S) {D D' : PEnds} {τ : Sl} {st : Store}, D.Le D' → wpS s D τ st → wpS s D' τ st
  | .asg tg e, D, D', τ, st, hd, h => by
    unfold wpS at h ⊢
    exact wpE_mono e (fun x s h => hd.ex _ _ _ h) (fun v s h => oP_mono (fun _ h => hd.nx _ _ h) h) h
  | .asgLc i e, D, D', τ, st, hd, h => by
    unfold wpS at h ⊢
    exact wpE_mono e (fun x s h => hd.ex _ _ _ h) (fun v s h => hd.nx _ _ h) h
  | .setIx o i e, D, D', τ, st, hd, h => by
    unfold wpS at h ⊢
    exact wpE_mono e (fun x s h => hd.ex _ _ _ h) (fun v s h => wpE_mono o (fun x s h => hd.ex _ _ _ h) (fun v s h => wpE_mono i (fun x s h => hd.ex _ _ _ h) (fun v s h => setIxV_mono (fun s h => hd.nx _ _ h) h) h) h) h
  | .aug i o e, D, D', τ, st, hd, h => by
    unfold wpS at h ⊢
    exact oP_mono (fun v h => wpE_mono e (fun x s h => hd.ex _ _ _ h) (fun v s h => augV_mono (fun v s h => hd.nx _ _ h) h) h) h
  | .expr e, D, D', τ, st, hd, h => by
    unfold wpS at h ⊢
    exact wpE_mono e (fun x s h => hd.ex _ _ _ h) (fun v s h => hd.nx _ _ h) h
  | .ret e, D, D', τ, st, hd, h => by
    unfold wpS at h ⊢
    exact wpE_mono e (fun x s h => hd.ex _ _ _ h) (fun v s h => hd.rt _ _ h) h
  | .retN, D, D', τ, st, hd, h => hd.rt _ _ h
  | .ite t a b, D, D', τ, st, hd, h => by
    unfold wpS at h ⊢
    exact wpT_mono t (fun x s h => hd.ex _ _ _ h) (fun k s h => ite_mono (fun h => wpSs_mono a hd h) (fun h => wpSs_mono b hd h) h) h
  | .loop tg it b, D, D', τ, st, hd, h => by
    unfold wpS at h ⊢
    refine wpI_mono it (fun x s h => hd.ex _ _ _ h) (fun xs ok s h => ?_) h
    refine forL_mono ?_ hd h
    exact fun D D' τ st hd h => wpSs_mono b hd h
  | .while t b, D, D', τ, st, hd, h => by
    unfold wpS at h ⊢
    obtain ⟨W, w0, h⟩ := h
    refine ⟨W, w0, fun n τ st w => wpT_mono t (fun x s h => hd.ex _ _ _ h) (fun k s h => ?_) (h n τ st w)⟩
    refine ite_mono (fun h => ?_) (fun h => hd.nx _ _ h) h
    refine wpSs_mono b ?_ h
    exact ⟨fun _ _ h => h, hd.rt, fun _ _ h => hd.nx _ _ h, fun _ _ h => h, hd.ex⟩
  | .pass, D, D', τ, st, hd, h => hd.nx _ _ h
  | .brk, D, D', τ, st, hd, h => hd.bk _ _ h
  | .cont, D, D', τ, st, hd, h => hd.ct _ _ h
  | .never, D, D', τ, st, hd, h => h
theorem wpSs_mono : ∀ (s : Ss) {D D' : PEnds} {τ : Sl} {st : Store}, D.Le D' → wpSs s D τ st → wpSs s D' τ st
  | .nil, D, D', τ, st, hd, h => hd.nx _ _ h
  | .cons s ss, D, D', τ, st, hd, h => by
    unfold wpSs at h ⊢
    refine wpS_mono s ?_ h
    exact ⟨fun _ _ h => wpSs_mono ss hd h, hd.rt, hd.bk, hd.ct, hd.ex⟩
end
end TK

set_option maxRecDepth 100000
set_option maxHeartbeats 1000000
namespace TK
open PySem PySem.Spec PyProof.Rows L2

/-! ### is a term the term of this syntax? -/
/-- where one stands: the def's names by slot, the scope, the scope whose names may be stored -/
structure SC where
  N : List Str
  sc : Scope
  tsc : Scope
def visB (sc : Scope) (x : Str) : Bool := match sc.names.lookup x with
  | some .local => true
  | some .cell => true
  | some .free => true
  | _ => false
def locB (sc : Scope) (x : Str) : Bool := match sc.names.lookup x with
  | some .local => true
  | some .cell => true
  | _ => false
def glB (sc : Scope) (x : Str) : Bool := match sc.names.lookup x with
  | some .globalImplicit => !(x == ("__debug__" : Str))
  | _ => false
def notStar : Expr → Bool
  | .Starred _ _ => false
  | _ => true
def notComp : Expr → Bool
  | .ListComp _ _ _ _ => false
  | .SetComp _ _ _ _ => false
  | .DictComp _ _ _ _ _ => false
  | _ => true
def notSet : Expr → Bool
  | .Set _ _ _ => false
  | _ => true
def notTup : Expr → Bool
  | .Tuple _ _ _ => false
  | .List _ _ => false
  | _ => true
def plainT : Expr → Bool
  | .UnaryOp .Not _ _ => false
  | .BoolOp _ _ _ => false
  | .IfExp _ _ _ _ => false
  | .Compare _ _ _ _ => false
  | _ => true
def notCall : Expr → Bool
  | .Call _ _ _ _ => false
  | _ => true
def notSlice : Expr → Bool
  | .Slice _ _ _ _ => false
  | _ => true
def BF.name : BF → Str
  | .len => "len" | .int => "int" | .abs => "abs" | .tuple => "tuple" | .list => "list" | .all => "all" | .any => "any" | .sum => "sum"
  | .min2 => "min" | .max2 => "max" | .min => "min" | .max => "max" | .repr => "repr"
def MF.name : MF → Str
  | .append => "append" | .extend => "extend" | .pop => "pop" | .index => "index"
/-- the part of such a form -/
def unSh (C : SC) : UF → Expr → Option Expr
  | .revT, .Subscript x (.Slice none none (some (.UnaryOp .USub (.Constant (.int 1) _ _) _)) _) _ => some x
  | .maxD, .Call (.Name x _) [y] [⟨some k, .Constant (.int 0) _ _, _⟩] _ => if x = ("max" : Str) ∧ k = ("default" : Str) ∧ glB C.sc x = true ∧ notStar y = true then some y else none
  | _, _ => none
def nmB (C : SC) (i : Nat) (x : Str) : Bool := decide (C.N[i]? = some x) && visB C.sc x && !(x == ("__debug__" : Str)) && !(x == ("__classdict__" : Str))
mutual
def chkG (C : SC) : TG → Expr → Bool
  | .name i, e => match e with
    | .Name x _ => decide (C.N[i]? = some x) && locB C.tsc x
    | _ => false
  | .tup ts, e => match e with
    | .Tuple es _ _ => chkGs C ts es
    | _ => false
def chkGs (C : SC) : TGs → List Expr → Bool
  | .nil, es => match es with
    | [] => true
    | _ :: _ => false
  | .cons t ts, es => match es with
    | [] => false
    | e :: r => notStar e && chkG C t e && chkGs C ts r
end
def ownOf (N : List Str) (vs : List Nat) : List (Str × Nat) := vs.filterMap fun v => N[v]?.map fun x => (x, v)
mutual
def chkE : E → SC → Expr → Bool
  | .var i, C, e => match e with
    | .Name x _ => nmB C i x
    | _ => false
  | .fvar i, C, e => match e with
    | .Name x _ => nmB C i x
    | _ => false
  | .int n, _, e => match e with
    | .Constant (.int m) _ _ => decide (n = m)
    | _ => false
  | .bl n, _, e => match e with
    | .Constant (.bool m) _ _ => n == m
    | _ => false
  | .non, _, e => match e with
    | .Constant .none _ _ => true
    | _ => false
  | .str n, _, e => match e with
    | .Constant (.str m) _ _ => decide (n = m)
    | _ => false
  | .glob n _, C, e => match e with
    | .Name x _ => decide (n = x) && glB C.sc x
    | _ => false
  | .bin o _ a b, C, e => match e with
    | .BinOp x o' y _ => decide (o = o') && chkE a C x && chkE b C y
    | _ => false
  | .neg a, C, e => match e with
    | .UnaryOp .USub x _ => chkE a C x
    | _ => false
  | .not a, C, e => match e with
    | .UnaryOp .Not x _ => chkE a C x
    | _ => false
  | .un f a, C, e => match unSh C f e with
    | some x => chkE a C x
    | none => false
  | .cmp o a b, C, e => match e with
    | .Compare x [o'] [y] _ => decide (o = o') && chkE a C x && notSet y && chkE b C y
    | _ => false
  | .chain o p a b c, C, e => match e with
    | .Compare x [o', p'] [y, z] _ => decide (o = o') && decide (p = p') && chkE a C x && chkE b C y && notSet z && chkE c C z
    | _ => false
  | .bools o es, C, e => match e with
    | .BoolOp o' xs _ => decide (o = o') && chkEs es C xs
    | _ => false
  | .ite t a b, C, e => match e with
    | .IfExp x y z _ => chkT t C x && chkE a C y && chkE b C z
    | _ => false
  | .tup es, C, e => match e with
    | .Tuple xs _ _ => chkEs es C xs
    | _ => false
  | .lst _ es, C, e => match e with
    | .List xs _ => chkEs es C xs
    | _ => false
  | .idx a i, C, e => match e with
    | .Subscript x y _ => chkE a C x && notSlice y && chkE i C y
    | _ => false
  | .slice _ a lo hi, C, e => match e with
    | .Subscript x (.Slice l u none _) _ => chkE a C x && chkO lo C l && chkO hi C u
    | _ => false
  | .call f _ es, C, e => match e with
    | .Call (.Name x _) xs [] _ => decide (f = x) && glB C.sc x && chkEs es C xs
    | _ => false
  | .blt f _ es, C, e => match e with
    | .Call (.Name x _) xs [] _ => decide (f.name = x) && glB C.sc x && !xs.isEmpty && chkEs es C xs
    | _ => false
  | .isi a ty, C, e => match e with
    | .Call (.Name x _) [y, .Name z _] [] _ => decide (x = ("isinstance" : Str)) && glB C.sc x && notStar y && chkE a C y && decide (z = ty) && tyOk ty && glB C.sc z
    | _ => false
  | .meth f o es, C, e => match e with
    | .Call (.Attribute x y ap) xs [] cp => decide (y = f.name) && (ap.endLine == cp.line) && notCall x && decide (xs.length < 30) && chkE o C x && chkEs es C xs
    | _ => false
  | .comp _ vs tg it ts elt, C, e => match e with
    | .ListComp x [⟨g, y, ifs, k⟩] scope _ => k == 0 && decide ((ownOf C.N vs).map (·.2) = vs) && blkC C.N C.sc scope (ownOf C.N vs) && tg.slots.all (fun i => decide (i ∈ vs)) && notSet y && chkI it C g y &&
        chkG ⟨C.N, relS scope C.sc, scope⟩ tg g && chkTs ts ⟨C.N, relS scope C.sc, scope⟩ ifs && decide (ifs.length ≤ 1) && chkE elt ⟨C.N, relS scope C.sc, scope⟩ x
    | _ => false
def chkEs : Es → SC → List Expr → Bool
  | .nil, _, es => match es with
    | [] => true
    | _ :: _ => false
  | .cons a as, C, es => match es with
    | [] => false
    | e :: r => notStar e && chkE a C e && chkEs as C r
def chkO : OE → SC → Option Expr → Bool
  | .no, _, e => match e with
    | none => true
    | some _ => false
  | .yes a, C, e => match e with
    | none => false
    | some x => chkE a C x
def chkT : T → SC → Expr → Bool
  | .val a, C, e => plainT e && chkE a C e
  | .cmp o a b, C, e => match e with
    | .Compare x [o'] [y] _ => decide (o = o') && chkE a C x && notSet y && chkE b C y
    | _ => false
  | .chain o p a b c, C, e => match e with
    | .Compare x [o', p'] [y, z] _ => decide (o = o') && decide (p = p') && chkE a C x && chkE b C y && notSet z && chkE c C z
    | _ => false
  | .not t, C, e => match e with
    | .UnaryOp .Not x _ => chkT t C x
    | _ => false
  | .bools o ts, C, e => match e with
    | .BoolOp o' xs _ => decide (o = o') && !xs.isEmpty && chkTs ts C xs
    | _ => false
  | .ite _ _ _, _, _ => false
def chkTs : Ts → SC → List Expr → Bool
  | .nil, _, es => match es with
    | [] => true
    | _ :: _ => false
  | .cons a as, C, es => match es with
    | [] => false
    | e :: r => chkT a C e && chkTs as C r
def chkI : I → SC → Expr → Expr → Bool
  | .val a, C, _, e => chkE a C e
  | .range1 a, C, _, e => match e with
    | .Call (.Name x _) [y] [] _ => decide (x = ("range" : Str)) && glB C.sc x && notStar y && chkE a C y
    | _ => false
  | .range2 a b, C, _, e => match e with
    | .Call (.Name x _) [y, z] [] _ => decide (x = ("range" : Str)) && glB C.sc x && notStar y && chkE a C y && notStar z && chkE b C z
    | _ => false
  | .enum a, C, g, e => match g, e with
    | .Tuple _ _ _, .Call (.Name x _) [y] [] _ => decide (x = ("enumerate" : Str)) && glB C.sc x && notStar y && chkE a C y
    | _, _ => false
  | .zip a b, C, g, e => match g, e with
    | .Tuple _ _ _, .Call (.Name x _) [y, z] [] _ => decide (x = ("zip" : Str)) && glB C.sc x && notStar y && chkE a C y && notStar z && chkE b C z
    | _, _ => false
end
mutual
def chkS : S → SC → Stmt → Bool
  | .asg tg a, C, s => match s with
    | .Assign [g] e _ => chkG C tg g && notComp e && (notTup g || notTup e) && chkE a C e
    | _ => false
  | .asgLc i a, C, s => match s with
    | .Assign [.Name x p] (.ListComp elt gs scope pos) _ => decide (C.N[i]? = some x) && decide (C.sc.names.lookup x = some .local) && (p.line == pos.line) &&
        !(scope.names.any fun (n, k) => n == x && (k == .local || k == .cell)) && (match a with | .comp _ _ _ _ _ _ => true | _ => false) && chkE a C (.ListComp elt gs scope pos)
    | _ => false
  | .setIx o i a, C, s => match s with
    | .Assign [.Subscript x y _] e _ => notSlice y && chkE o C x && chkE i C y && chkE a C e
    | _ => false
  | .aug i o a, C, s => match s with
    | .AugAssign (.Name x _) o' e _ => decide (C.N[i]? = some x) && locB C.tsc x && decide (o = o') && chkE a C e
    | _ => false
  | .expr a, C, s => match s with
    | .Expr e _ => notComp e && chkE a C e
    | _ => false
  | .ret a, C, s => match s with
    | .Return (some e) _ => chkE a C e
    | _ => false
  | .retN, _, s => match s with
    | .Return none _ => true
    | _ => false
  | .ite t a b, C, s => match s with
    | .If c x y _ => chkT t C c && chkSs a C x && chkSs b C y
    | _ => false
  | .loop tg it b, C, s => match s with
    | .For g e x [] _ => chkG C tg g && notSet e && chkI it C g e && chkSs b C x
    | _ => false
  | .while t b, C, s => match s with
    | .While c x [] _ => chkT t C c && chkSs b C x
    | _ => false
  | .pass, _, s => match s with
    | .Pass _ => true
    | _ => false
  | .brk, _, s => match s with
    | .Break _ => true
    | _ => false
  | .cont, _, s => match s with
    | .Continue _ => true
    | _ => false
  | .never, _, _ => true
def chkSs : Ss → SC → List Stmt → Bool
  | .nil, _, ss => match ss with
    | [] => true
    | _ :: _ => false
  | .cons a as, C, ss => match ss with
    | [] => false
    | s :: r => chkS a C s && chkSs as C r
end

/-! ### what a term asks of the program around it -/
mutual
def needE (pf : Str → PSpec → Nat → Prop) (pg : Str → PV → Prop) : E → Prop
  | .var _ => True
  | .fvar _ => True
  | .int _ => True
  | .bl _ => True
  | .non => True
  | .str _ => True
  | .glob x v => pg x v
  | .bin _ _ a b => needE pf pg a ∧ needE pf pg b
  | .neg a => needE pf pg a
  | .not a => needE pf pg a
  | .un _ a => needE pf pg a
  | .cmp _ a b => needE pf pg a ∧ needE pf pg b
  | .chain _ _ a b c => needE pf pg a ∧ needE pf pg b ∧ needE pf pg c
  | .bools _ es => needEs pf pg es
  | .ite t a b => needT pf pg t ∧ needE pf pg a ∧ needE pf pg b
  | .tup es => needEs pf pg es
  | .lst _ es => needEs pf pg es
  | .idx a i => needE pf pg a ∧ needE pf pg i
  | .slice _ a lo hi => needE pf pg a ∧ needO pf pg lo ∧ needO pf pg hi
  | .call f sp es => pf f sp es.len ∧ needEs pf pg es
  | .blt _ _ es => needEs pf pg es
  | .isi e _ => needE pf pg e
  | .meth _ o es => needE pf pg o ∧ needEs pf pg es
  | .comp _ _ _ it ts elt => needI pf pg it ∧ needTs pf pg ts ∧ needE pf pg elt
def needEs (pf : Str → PSpec → Nat → Prop) (pg : Str → PV → Prop) : Es → Prop
  | .nil => True
  | .cons e es => needE pf pg e ∧ needEs pf pg es
def needO (pf : Str → PSpec → Nat → Prop) (pg : Str → PV → Prop) : OE → Prop
  | .no => True
  | .yes e => needE pf pg e
def needT (pf : Str → PSpec → Nat → Prop) (pg : Str → PV → Prop) : T → Prop
  | .val e => needE pf pg e
  | .cmp _ a b => needE pf pg a ∧ needE pf pg b
  | .chain _ _ a b c => needE pf pg a ∧ needE pf pg b ∧ needE pf pg c
  | .not t => needT pf pg t
  | .bools _ ts => needTs pf pg ts
  | .ite t a b => needT pf pg t ∧ needT pf pg a ∧ needT pf pg b
def needTs (pf : Str → PSpec → Nat → Prop) (pg : Str → PV → Prop) : Ts → Prop
  | .nil => True
  | .cons t ts => needT pf pg t ∧ needTs pf pg ts
def needI (pf : Str → PSpec → Nat → Prop) (pg : Str → PV → Prop) : I → Prop
  | .val e => needE pf pg e
  | .range1 a => needE pf pg a
  | .range2 a b => needE pf pg a ∧ needE pf pg b
  | .enum e => needE pf pg e
  | .zip a b => needE pf pg a ∧ needE pf pg b
end
mutual
def needS (pf : Str → PSpec → Nat → Prop) (pg : Str → PV → Prop) : S → Prop
  | .asg _ e => needE pf pg e
  | .asgLc _ e => needE pf pg e
  | .setIx o i e => needE pf pg o ∧ needE pf pg i ∧ needE pf pg e
  | .aug _ _ e => needE pf pg e
  | .expr e => needE pf pg e
  | .ret e => needE pf pg e
  | .retN => True
  | .ite t a b => needT pf pg t ∧ needSs pf pg a ∧ needSs pf pg b
  | .loop _ it b => needI pf pg it ∧ needSs pf pg b
  | .while t b => needT pf pg t ∧ needSs pf pg b
  | .pass => True
  | .brk => True
  | .cont => True
  | .never => True
def needSs (pf : Str → PSpec → Nat → Prop) (pg : Str → PV → Prop) : Ss → Prop
  | .nil => True
  | .cons s ss => needS pf pg s ∧ needSs pf pg ss
end
end TK

set_option maxRecDepth 100000
set_option maxHeartbeats 2000000
namespace TK
open PySem PySem.Spec PyProof.Rows L2

/-! ### wishes over the layer's heap -/
def LQ (K : PySem.W.Frag) (F : FS) (H : Hp) (Q : VK) : PQ := fun z st' => ∀ F' H' y, Ext F H F' H' → RS K H' F' st' → DV K H' F' z y → Q y H'
section
variable {K : PySem.W.Frag} {F F' : FS} {H H' : Hp} {Q : VK} {st : Store}
theorem LQ.ext (x : Ext F H F' H') : ∀ v s, LQ K F H Q v s → LQ K F' H' Q v s := fun v s h F2 H2 y x2 r d => h F2 H2 y (x.trans x2) r d
theorem LQ.now {z : PV} {y : V} (h : LQ K F H Q z st) (r : RS K H F st) (d : DV K H F z y) : Q y H := h F H y .refl r d
theorem newList_ok {m : Bool} {xs : List PV} {ys : List V} (h : newList m xs st (LQ K F H Q)) (r : RS K H F st) (d : DVs K H F xs ys) : ∀ p, H p = none → Q (.ref p) (upd H p (.lst ys)) := by
  intro p hp
  cases m with
  | true => exact h p (r.no hp) F _ _ (.new hp) (r.putNew hp d) (.ref p)
  | false => exact h (fun a => F a ∨ a = p) _ _ (.newF hp) (r.newF hp) (.lst (.inr rfl) upd_same (d.ext (.newF hp)))
theorem newTup_ok {xs : List PV} {ys : List V} (h : LQ K F H Q (.tup xs) st) (r : RS K H F st) (d : DVs K H F xs ys) : ∀ p, H p = none → Q (.ref p) (upd H p (.tup ys)) := by
  intro p hp
  exact h F _ _ (.new hp) (r.new hp) (.tup (.of upd_same) (d.ext (.new hp)))
theorem lstOf_ok {v : PV} {xs : List PV} {x : V} (r : RS K H F st) (e : lstOf st v = some xs) (d : DV K H F v x) : ∃ a ys, x = .ref a ∧ H a = some (.lst ys) ∧ DVs K H F xs ys := by
  cases d with
  | lst f h hs =>
    have e' : xs = _ := (Option.some.inj e).symm
    subst e'
    exact ⟨_, _, rfl, h, hs⟩
  | ref a =>
    have e' : (match st a with | some (.lst xs) => some xs | _ => none) = some xs := e
    cases q : st a with
    | none => rw [q] at e'; cases e'
    | some c =>
      cases c with
      | lst zs =>
        rw [q] at e'; cases e'
        obtain ⟨_, ys, h, hs⟩ := r.lst a _ q
        exact ⟨a, ys, rfl, h, hs⟩
      | pool => rw [q] at e'; cases e'
  | non => cases e
  | bl _ => cases e
  | int _ => cases e
  | str _ => cases e
  | tup _ _ => cases e
  | scr _ => cases e
theorem seqOf_ok {v : PV} {xs : List PV} {x : V} (r : RS K H F st) (e : seqOf st v = some xs) (d : DV K H F v x) : ∃ a ys, x = .ref a ∧ (SqL K H a ys ∨ SqT K H a ys) ∧ DVs K H F xs ys := by
  cases d with
  | tup h hs =>
    have e' : xs = _ := (Option.some.inj e).symm
    subst e'
    exact ⟨_, _, rfl, .inr h, hs⟩
  | lst f h hs =>
    obtain ⟨a, ys, e1, e2, e3⟩ := lstOf_ok r (show lstOf st (.lst _) = some xs from e) (.lst f h hs)
    exact ⟨a, ys, e1, .inl (.of e2), e3⟩
  | ref a =>
    obtain ⟨a, ys, e1, e2, e3⟩ := lstOf_ok r (show lstOf st (.ref a) = some xs from e) (.ref a)
    exact ⟨a, ys, e1, .inl (.of e2), e3⟩
  | non => cases e
  | bl _ => cases e
  | int _ => cases e
  | str _ => cases e
  | scr _ => cases e
end

/-! ### operators -/
section
variable {X : Cx}
theorem op_mulT : OpR X (binaryOp .Mult) (rI IntMulOk fun i j => .int (i * j)) := opI fun _ _ _ _ _ _ _ hc q => mul_int q hc
theorem op_fdivT : OpR X (binaryOp .FloorDiv) (rI (fun _ j => DivOk j) fun i j => .int (i.fdiv j)) := opI fun _ _ _ _ _ _ _ hc q => floordiv_int hc.1 q (.inl (PyProof.noPylong_of_log2 hc.2))
/-- t + u of tuples, any -/
theorem op_catTT : OpR X (binaryOp .Add) (fun x y H Q => ∃ a b xs ys, x = .ref a ∧ y = .ref b ∧ SqT X.K H a xs ∧ SqT X.K H b ys ∧ xs.length + ys.length ≤ sizeLine ∧
    (xs = [] → Q (.ref b) H) ∧ (xs ≠ [] → ys = [] → Q (.ref a) H) ∧ (xs ≠ [] → ys ≠ [] → ∀ p, H p = none → Q (.ref p) (upd H p (.tup (xs ++ ys))))) := by
  intro pins s σ H x y v u Q I rx ry h
  obtain ⟨a, b, xs, ys, rfl, rfl, ha, hb, hz, q0, q1, q2⟩ := h
  by_cases hx : xs = []
  · subst hx
    cases rx
    cases ry
    obtain ⟨its, r1, ⟨⟨c1, d1, t1, s1⟩, o1, k1, n1, e1⟩, _⟩ := I.tuple ha
    obtain ⟨its2, r2, ⟨⟨c2, d2, t2, s2⟩, o2, k2, n2, e2⟩, _⟩ := I.tuple hb
    simp only at k1 e1 k2 e2
    subst k1 e1 k2 e2
    have hn : its.toArray.isEmpty = true := by cases r1; rfl
    exact concat_meets ⟨_, o1, rfl⟩ ⟨_, o2, rfl⟩ noFill_tuple_add seq_tuple_add PySem.F.slot_tuple_add PySem.F.entry_tuple_add (PySem.F.args_tuple_add_2 _ _)
      (tuple_addW0 a b its.toArray its2.toArray n1 n2 d1 d2 s1 s2 hn) ⟨o1, o2, ⟨.ref b, H, I, rfl, q0 rfl⟩⟩
  · exact op_catT pins s σ H _ _ v u Q I rx ry ⟨a, b, xs, ys, rfl, rfl, ha, hb, hx, hz, q1 hx, fun hy => q2 hx hy⟩
abbrev rB (K : PySem.W.Frag) (f : PV → PV → Store → PQ → Prop) : R2 := fun x y H Q => ∃ F st v w, RS K H F st ∧ DV K H F v x ∧ DV K H F w y ∧ f v w st (LQ K F H Q)
theorem bin_ok {o : Operator} {m : Bool} : OpR X (binaryOp o) (rB X.K (binV o m)) := by
  intro pins s σ H x y vv uu Q I rx ry ⟨F, st, v, w, rs, dv, dw, h⟩
  unfold binV at h
  split at h
  · cases dv; cases dw
    exact op_add pins s σ H _ _ _ _ Q I rx ry ⟨_, _, rfl, rfl, h.now rs (.int _)⟩
  · cases dv; cases dw
    exact op_add_str pins s σ H _ _ _ _ Q I rx ry ⟨_, _, rfl, rfl, h.1, h.2.now rs (.str _)⟩
  · cases dv with
    | tup h1 hs1 =>
      cases dw with
      | tup h2 hs2 =>
        refine op_catTT pins s σ H _ _ _ _ Q I rx ry ⟨_, _, _, _, rfl, rfl, h1, h2, by rw [← hs1.length, ← hs2.length]; exact h.1, fun e => ?_, fun _ e => ?_, fun _ _ => newTup_ok h.2 rs (hs1.append hs2)⟩
        · subst e
          cases hs1
          exact h.2.now rs (.tup h2 hs2)
        · subst e
          cases hs2
          exact h.2.now rs (by rw [List.append_nil]; exact .tup h1 hs1)
  · cases dv with
    | lst f1 h1 hs1 =>
      cases dw with
      | lst f2 h2 hs2 => exact op_cat pins s σ H _ _ _ _ Q I rx ry ⟨_, _, _, _, rfl, rfl, h1, h2, by rw [← hs1.length, ← hs2.length]; exact h.1, newList_ok h.2 rs (hs1.append hs2)⟩
  · obtain ⟨xs, e, hz, h⟩ := h
    cases dv
    obtain ⟨_, zs, h1, hs1⟩ := rs.lst _ _ e
    cases dw with
    | lst f2 h2 hs2 => exact op_cat pins s σ H _ _ _ _ Q I rx ry ⟨_, _, _, _, rfl, rfl, h1, h2, by rw [← hs1.length, ← hs2.length]; exact hz, newList_ok h rs (hs1.append hs2)⟩
  · obtain ⟨ys, e, hz, h⟩ := h
    cases dw
    obtain ⟨_, zs, h2, hs2⟩ := rs.lst _ _ e
    cases dv with
    | lst f1 h1 hs1 => exact op_cat pins s σ H _ _ _ _ Q I rx ry ⟨_, _, _, _, rfl, rfl, h1, h2, by rw [← hs1.length, ← hs2.length]; exact hz, newList_ok h rs (hs1.append hs2)⟩
  · obtain ⟨xs, ys, e, e', hz, h⟩ := h
    cases dv
    cases dw
    obtain ⟨_, zs, h1, hs1⟩ := rs.lst _ _ e
    obtain ⟨_, zs', h2, hs2⟩ := rs.lst _ _ e'
    exact op_cat pins s σ H _ _ _ _ Q I rx ry ⟨_, _, _, _, rfl, rfl, h1, h2, by rw [← hs1.length, ← hs2.length]; exact hz, newList_ok h rs (hs1.append hs2)⟩
  · cases dv; cases dw
    exact op_sub pins s σ H _ _ _ _ Q I rx ry ⟨_, _, rfl, rfl, h.now rs (.int _)⟩
  · cases dv; cases dw
    exact op_mulT pins s σ H _ _ _ _ Q I rx ry ⟨_, _, rfl, rfl, h.1, h.2.now rs (.int _)⟩
  · obtain ⟨h1, h2, h3, h4⟩ := h
    cases dw
    cases dv with
    | lst f1 g1 hs1 => exact op_rep pins s σ H _ _ _ _ Q I rx ry ⟨_, _, _, rfl, rfl, g1, h1, h2, by rw [← hs1.length]; exact h3, newList_ok h4 rs (hs1.flat _)⟩
  · cases dv; cases dw
    exact op_fdivT pins s σ H _ _ _ _ Q I rx ry ⟨_, _, rfl, rfl, h.1, h.2.now rs (.int _)⟩
  · cases dv; cases dw
    exact op_modN pins s σ H _ _ _ _ Q I rx ry ⟨_, _, rfl, rfl, h.1, h.2.now rs (.int _)⟩
  · cases dv; cases dw
    exact op_pow pins s σ H _ _ _ _ Q I rx ry ⟨_, _, rfl, rfl, h.1, h.2.now rs (.int _)⟩
  · cases dv; cases dw
    exact op_and pins s σ H _ _ _ _ Q I rx ry ⟨_, _, rfl, rfl, h.now rs (.int _)⟩
  · cases dv; cases dw
    exact op_or pins s σ H _ _ _ _ Q I rx ry ⟨_, _, rfl, rfl, h.now rs (.int _)⟩
  · exact h.elim

/-! ### comparisons -/
mutual
theorem toD_dp {K : PySem.W.Frag} {H : Hp} {F : FS} : ∀ {n : Nat} {v : PV} {x : V}, flat n v = true → DV K H F v x → Dp K H x (toD v)
  | _, .non, _, _, .non => .non
  | _, .bl _, _, _, .bl b => .bl b
  | _, .int _, _, _, .int b => .int b
  | _, .str _, _, _, .str b => .str b
  | n, .tup xs, _, h, .tup h1 hs => .tup h1 (toD_dps (by have h' : (n != 0 && flats (n - 1) xs) = true := h; exact (Bool.and_eq_true_iff.mp h').2) hs)
  | n, .lst xs, _, h, .lst f h1 hs => .lst (.of h1) (toD_dps (by have h' : (n != 0 && flats (n - 1) xs) = true := h; exact (Bool.and_eq_true_iff.mp h').2) hs)
theorem toD_dps {K : PySem.W.Frag} {H : Hp} {F : FS} : ∀ {n : Nat} {v : List PV} {x : List V}, flats n v = true → DVs K H F v x → DpAll K H x (toDs v)
  | _, [], _, _, .nil => .nil
  | n, x :: r, _, h, .cons d ds => by
    have h' : (flat n x && flats n r) = true := h
    exact .cons (toD_dp (Bool.and_eq_true_iff.mp h').1 d) (toD_dps (Bool.and_eq_true_iff.mp h').2 ds)
end
mutual
theorem toD_lay : ∀ {n : Nat} {v : PV}, flat n v = true → (toD v).canLay0 = true ∧ (toD v).depth ≤ n
  | _, .non, _ => ⟨by simp [toD, PyData.canLay0], by simp [toD, PyData.depth]⟩
  | _, .bl _, _ => ⟨by simp [toD, PyData.canLay0], by simp [toD, PyData.depth]⟩
  | _, .int _, _ => ⟨by simp [toD, PyData.canLay0], by simp [toD, PyData.depth]⟩
  | _, .str x, h => ⟨by have h' : PyData.strOk x = true := h; simpa [toD, PyData.canLay0] using h', by simp [toD, PyData.depth]⟩
  | n, .tup xs, h => by
    have h' : (n != 0 && flats (n - 1) xs) = true := h
    obtain ⟨h1, h2⟩ := Bool.and_eq_true_iff.mp h'
    obtain ⟨a, b⟩ := toD_lays h2
    have h3 : n ≠ 0 := by simpa using h1
    exact ⟨by simpa [toD, PyData.canLay0] using a, by simp only [toD, PyData.depth]; omega⟩
  | n, .lst xs, h => by
    have h' : (n != 0 && flats (n - 1) xs) = true := h
    obtain ⟨h1, h2⟩ := Bool.and_eq_true_iff.mp h'
    obtain ⟨a, b⟩ := toD_lays h2
    have h3 : n ≠ 0 := by simpa using h1
    exact ⟨by simpa [toD, PyData.canLay0] using a, by simp only [toD, PyData.depth]; omega⟩
  | _, .ref _, h => nomatch h
  | _, .scr _, h => nomatch h
theorem toD_lays : ∀ {n : Nat} {v : List PV}, flats n v = true → PyData.canLayAll0 (toDs v) = true ∧ PyData.depthAll (toDs v) ≤ n
  | _, [], _ => ⟨by simp [toDs, PyData.canLayAll0], by simp [toDs, PyData.depthAll]⟩
  | n, x :: r, h => by
    have h' : (flat n x && flats n r) = true := h
    obtain ⟨h1, h2⟩ := Bool.and_eq_true_iff.mp h'
    obtain ⟨a, b⟩ := toD_lay h1
    obtain ⟨c, d⟩ := toD_lays h2
    exact ⟨by simp [toDs, PyData.canLayAll0, a, c], by simp only [toDs, PyData.depthAll]; omega⟩
end
theorem toD_shaped {v : PV} (h : flat 60 v = true) : SeqAt.shaped (toD v) = true := by
  obtain ⟨a, b⟩ := toD_lay h
  unfold SeqAt.shaped
  rw [a, Bool.true_and]
  exact decide_eq_true (by omega)
theorem beq_dec {i j : Int} : (i == j) = decide (i = j) := by
  by_cases e : i = j <;> simp [e]
mutual
theorem toD_eqv : ∀ {n m : Nat} {v w : PV}, flat n v = true → flat m w = true → PyData.eqv (toD v) (toD w) = eqv v w
  | _, _, .non, w, _, hw => by cases w <;> first | (simp [toD, PyData.eqv, eqv]; done) | cases hw
  | _, _, .bl _, w, _, hw => by cases w <;> first | (simp [toD, PyData.eqv, eqv]; done) | cases hw
  | _, _, .int _, w, _, hw => by cases w <;> first | (simp [toD, PyData.eqv, eqv, beq_dec]; done) | cases hw
  | _, _, .str a, w, _, hw => by
    cases w with
    | str b => simp only [toD, PyData.eqv, eqv]; by_cases e : a = b <;> simp [e]
    | ref _ => cases hw
    | scr _ => cases hw
    | _ => simp [toD, PyData.eqv, eqv]
  | n, m, .tup xs, w, h, hw => by
    have h' : (n != 0 && flats (n - 1) xs) = true := h
    cases w with
    | tup ys =>
      have hw' : (m != 0 && flats (m - 1) ys) = true := hw
      simp only [toD, PyData.eqv, eqv]
      exact toD_eqvs (Bool.and_eq_true_iff.mp h').2 (Bool.and_eq_true_iff.mp hw').2
    | ref _ => cases hw
    | scr _ => cases hw
    | _ => simp [toD, PyData.eqv, eqv]
  | n, m, .lst xs, w, h, hw => by
    have h' : (n != 0 && flats (n - 1) xs) = true := h
    cases w with
    | lst ys =>
      have hw' : (m != 0 && flats (m - 1) ys) = true := hw
      simp only [toD, PyData.eqv, eqv]
      exact toD_eqvs (Bool.and_eq_true_iff.mp h').2 (Bool.and_eq_true_iff.mp hw').2
    | ref _ => cases hw
    | scr _ => cases hw
    | _ => simp [toD, PyData.eqv, eqv]
  | _, _, .ref _, _, h, _ => nomatch h
  | _, _, .scr _, _, h, _ => nomatch h
theorem toD_eqvs : ∀ {n m : Nat} {v w : List PV}, flats n v = true → flats m w = true → PyData.eqvAll (toDs v) (toDs w) = eqvs v w
  | _, _, [], w, _, _ => by cases w <;> simp [toDs, PyData.eqvAll, eqvs]
  | n, m, x :: r, w, h, hw => by
    have h' : (flat n x && flats n r) = true := h
    cases w with
    | nil => simp [toDs, PyData.eqvAll, eqvs]
    | cons y s =>
      have hw' : (flat m y && flats m s) = true := hw
      simp only [toDs, PyData.eqvAll, eqvs]
      rw [toD_eqv (Bool.and_eq_true_iff.mp h').1 (Bool.and_eq_true_iff.mp hw').1, toD_eqvs (Bool.and_eq_true_iff.mp h').2 (Bool.and_eq_true_iff.mp hw').2]
end
theorem res_ok {K : PySem.W.Frag} {H : Hp} {F : FS} {st : Store} {v : PV} {x : V} {n : Nat} (r : RS K H F st) (d : DV K H F v x) (h : flat n (res st v) = true) : Dp K H x (toD (res st v)) := by
  cases v with
  | ref a =>
    cases q : st a with
    | none =>
      have e : res st (.ref a) = .ref a := by simp only [res, q]
      rw [e] at h; cases h
    | some c =>
      cases c with
      | pool =>
        have e : res st (.ref a) = .ref a := by simp only [res, q]
        rw [e] at h; cases h
      | lst xs =>
        have e : res st (.ref a) = .lst xs := by simp only [res, q]
        rw [e] at h ⊢
        obtain ⟨_, ys, h1, hs⟩ := r.lst a xs q
        cases d
        have h' : (n != 0 && flats (n - 1) xs) = true := h
        exact .lst (.of h1) (toD_dps (Bool.and_eq_true_iff.mp h').2 hs)
  | non => exact toD_dp h d
  | bl _ => exact toD_dp h d
  | int _ => exact toD_dp h d
  | str _ => exact toD_dp h d
  | tup _ => exact toD_dp h d
  | lst _ => exact toD_dp h d
  | scr _ => cases h
theorem scP_ok {K : PySem.W.Frag} {H : Hp} {F : FS} {st : Store} {v w : PV} {x y : V} (h : scP v w = true) (dv : DV K H F v x) (dw : DV K H F w y) : scal x y = true ∧ decide (x = y) = eqv (res st v) (res st w) := by
  cases dv <;> cases dw <;> first
    | (refine ⟨rfl, ?_⟩; simp [res, eqv]; done)
    | (refine ⟨rfl, ?_⟩; simp only [res, eqv]; rename_i a b; cases a <;> cases b <;> rfl)
    | cases h
theorem sc_flat {v : PV} (h : isSc v = true) {K : PySem.W.Frag} {H : Hp} {F : FS} {x : V} (d : DV K H F v x) : flatV x = true := by
  cases d <;> first | rfl | cases h
theorem sc_flats : ∀ {vs : List PV} {xs : List V}, vs.all isSc = true → ∀ {K : PySem.W.Frag} {H : Hp} {F : FS}, DVs K H F vs xs → xs.all flatV = true
  | [], _, _, _, _, _, .nil => rfl
  | v :: r, _, h, _, _, _, .cons d ds => by
    rw [List.all_cons, Bool.and_eq_true] at h ⊢
    exact ⟨sc_flat h.1 d, sc_flats h.2 ds⟩
theorem sc_eqV {v w : PV} (hv : isSc v = true) (hw : isSc w = true) {K : PySem.W.Frag} {H : Hp} {F : FS} {x y : V} (d : DV K H F v x) (d' : DV K H F w y) : eqV x y = eqv v w := by
  cases d <;> cases d' <;> first
    | exact absurd hv Bool.false_ne_true
    | exact absurd hw Bool.false_ne_true
    | (simp [eqV, eqv, beq_dec]; done)
    | (simp only [eqV, eqv]; rename_i a b; cases a <;> rfl)
    | (simp only [eqV, eqv]; rename_i a b; cases b <;> rfl)
    | (simp only [eqV, eqv]; rename_i a b; by_cases e : a = b <;> simp [e])
theorem sc_any {w : PV} (hw : isSc w = true) {K : PySem.W.Frag} {H : Hp} {F : FS} {y : V} (d' : DV K H F w y) : ∀ {vs : List PV} {xs : List V}, vs.all isSc = true → DVs K H F vs xs → inV y xs = vs.any fun z => eqv z w
  | [], _, _, .nil => rfl
  | v :: r, _, h, .cons d ds => by
    rw [List.all_cons, Bool.and_eq_true] at h
    have ih := sc_any hw d' h.2 ds
    unfold inV at ih ⊢
    rw [List.any_cons, List.any_cons, ih, sc_eqV h.1 hw d d']
theorem isNon_ok {K : PySem.W.Frag} {H : Hp} {F : FS} {v : PV} {x : V} (d : DV K H F v x) : decide (x = .non) = isNon v := by
  cases d <;> simp [isNon]
theorem toD_any {n m : Nat} {v : PV} (hv : flat n v = true) : ∀ {xs : List PV}, flats m xs = true → ((toDs xs).any fun z => PyData.eqv z (toD v)) = xs.any fun y => eqv y v
  | [], _ => by simp [toDs]
  | x :: r, h => by
    have h' : (flat m x && flats m r) = true := h
    obtain ⟨h1, h2⟩ := Bool.and_eq_true_iff.mp h'
    have ih := toD_any hv h2
    simp only [toDs, List.any_cons]
    rw [ih, toD_eqv h1 hv]
def rInT (K : PySem.W.Frag) (neg : Bool) : R2 := fun x y H Q => ∃ d ds, Dp K H x d ∧ (Dp K H y (.list ds) ∨ Dp K H y (.tuple ds)) ∧ d.canLay0 = true ∧ PyData.canLayAll0 ds = true ∧ d.depth ≤ 30 ∧ Q (.bl (if neg = true then !(ds.any fun z => PyData.eqv z d) else ds.any fun z => PyData.eqv z d)) H
theorem op_inT (hu : X.A.units + 64 < cLine) : OpR X (compareOp .In) (rInT X.K false) := by
  intro pins s σ H x y v u Q I rx ry h
  obtain ⟨d, ds, hd, he, sd, se, hdep, q⟩ := h
  obtain ⟨as, r1⟩ := Dp.reads I d x v hd rx
  rcases he with he | he
  · obtain ⟨bs, r2⟩ := Dp.reads I _ y u he ry
    exact SeqAt.in_list_reads r2 r1 se sd (by omega) ⟨.bl _, H, I, rfl, q⟩
  · obtain ⟨bs, r2⟩ := Dp.reads I _ y u he ry
    exact SeqAt.in_tuple_reads r2 r1 se sd (by omega) ⟨.bl _, H, I, rfl, q⟩
theorem op_notInT (hu : X.A.units + 64 < cLine) : OpR X (compareOp .NotIn) (rInT X.K true) := by
  intro pins s σ H x y v u Q I rx ry h
  obtain ⟨d, ds, hd, he, sd, se, hdep, q⟩ := h
  obtain ⟨as, r1⟩ := Dp.reads I d x v hd rx
  rcases he with he | he
  · obtain ⟨bs, r2⟩ := Dp.reads I _ y u he ry
    exact SeqAt.notIn_list_reads r2 r1 se sd (by omega) ⟨.bl _, H, I, rfl, q⟩
  · obtain ⟨bs, r2⟩ := Dp.reads I _ y u he ry
    exact SeqAt.notIn_tuple_reads r2 r1 se sd (by omega) ⟨.bl _, H, I, rfl, q⟩
theorem inT_of {K : PySem.W.Frag} {H : Hp} {F : FS} {st : Store} {v w : PV} {x y : V} {xs : List PV} (rs : RS K H F st) (dv : DV K H F v x) (dw : DV K H F w y) (q : seqOf st w = some xs) (f1 : flat 30 v = true) (f2 : flat 60 (res st w) = true) :
    Dp K H x (toD v) ∧ (Dp K H y (.list (toDs xs)) ∨ Dp K H y (.tuple (toDs xs))) ∧ (toD v).canLay0 = true ∧ PyData.canLayAll0 (toDs xs) = true ∧ (toD v).depth ≤ 30 ∧ ((toDs xs).any fun z => PyData.eqv z (toD v)) = xs.any fun y => eqv y v := by
  obtain ⟨l1, l2⟩ := toD_lay f1
  have key : ∀ zs : List PV, (res st w = .tup zs ∨ res st w = .lst zs) → zs = xs → (Dp K H y (.list (toDs xs)) ∨ Dp K H y (.tuple (toDs xs))) ∧ PyData.canLayAll0 (toDs xs) = true ∧ ((toDs xs).any fun z => PyData.eqv z (toD v)) = xs.any fun y => eqv y v := by
    intro zs hz e
    subst e
    have dr := res_ok rs dw f2
    rcases hz with hz | hz
    · rw [hz] at dr f2
      have h' : (60 != 0 && flats (60 - 1) zs) = true := f2
      have h2 := (Bool.and_eq_true_iff.mp h').2
      exact ⟨.inr dr, (toD_lays h2).1, toD_any f1 h2⟩
    · rw [hz] at dr f2
      have h' : (60 != 0 && flats (60 - 1) zs) = true := f2
      have h2 := (Bool.and_eq_true_iff.mp h').2
      exact ⟨.inl dr, (toD_lays h2).1, toD_any f1 h2⟩
  have hk : ∃ zs : List PV, (res st w = .tup zs ∨ res st w = .lst zs) ∧ zs = xs := by
    cases w with
    | tup zs => exact ⟨zs, .inl rfl, Option.some.inj q⟩
    | lst zs => exact ⟨zs, .inr rfl, Option.some.inj q⟩
    | ref a =>
      cases e : st a with
      | none =>
        have q' : (match st a with | some (.lst xs) => some xs | _ => none) = some xs := q
        rw [e] at q'; cases q'
      | some c =>
        have q' : (match st a with | some (.lst xs) => some xs | _ => none) = some xs := q
        rw [e] at q'
        cases c with
        | pool => cases q'
        | lst zs => exact ⟨zs, .inr (by simp only [res, e]), Option.some.inj q'⟩
    | _ => cases q
  obtain ⟨zs, hz, e⟩ := hk
  obtain ⟨a, b, c⟩ := key zs hz e
  exact ⟨toD_dp f1 dv, a, l1, b, l2, c⟩
theorem cmp_ok {o : CmpOp} (hu : X.A.units + 64 < cLine) : OpR X (compareOp o) (rB X.K (cmpV o)) := by
  intro pins s σ H x y vv uu Q I rx ry ⟨F, st, v, w, rs, dv, dw, h⟩
  unfold cmpV at h
  cases o with
  | Eq =>
    obtain ⟨ok, h⟩ := h
    rcases ok with ok | ⟨f1, f2⟩
    · obtain ⟨e1, e2⟩ := scP_ok (st := st) ok dv dw
      exact op_eq pins s σ H _ _ _ _ Q I rx ry ⟨e1, by rw [e2]; exact h.now rs (.bl _)⟩
    · exact op_eqD hu pins s σ H _ _ _ _ Q I rx ry ⟨_, _, res_ok rs dv f1, res_ok rs dw f2, toD_shaped f1, toD_shaped f2, by rw [toD_eqv f1 f2]; exact h.now rs (.bl _)⟩
  | NotEq =>
    obtain ⟨ok, h⟩ := h
    rcases ok with ok | ⟨f1, f2⟩
    · obtain ⟨e1, e2⟩ := scP_ok (st := st) ok dv dw
      exact op_ne pins s σ H _ _ _ _ Q I rx ry ⟨e1, by rw [e2]; exact h.now rs (.bl _)⟩
    · exact op_neD hu pins s σ H _ _ _ _ Q I rx ry ⟨_, _, res_ok rs dv f1, res_ok rs dw f2, toD_shaped f1, toD_shaped f2, by rw [toD_eqv f1 f2]; exact h.now rs (.bl _)⟩
  | Lt =>
    dsimp only at h
    split at h
    · cases dv; cases dw; exact op_lt pins s σ H _ _ _ _ Q I rx ry ⟨_, _, rfl, rfl, h.now rs (.bl _)⟩
    · exact h.elim
  | LtE =>
    dsimp only at h
    split at h
    · cases dv; cases dw; exact op_le pins s σ H _ _ _ _ Q I rx ry ⟨_, _, rfl, rfl, h.now rs (.bl _)⟩
    · exact h.elim
  | Gt =>
    dsimp only at h
    split at h
    · cases dv; cases dw; exact op_gt pins s σ H _ _ _ _ Q I rx ry ⟨_, _, rfl, rfl, h.now rs (.bl _)⟩
    · exact h.elim
  | GtE =>
    dsimp only at h
    split at h
    · cases dv; cases dw; exact op_ge pins s σ H _ _ _ _ Q I rx ry ⟨_, _, rfl, rfl, h.now rs (.bl _)⟩
    · exact h.elim
  | Is =>
    dsimp only at h
    split at h
    · cases dw; exact op_isN pins s σ H _ _ _ _ Q I rx ry ⟨rfl, by rw [isNon_ok dv]; exact h.now rs (.bl _)⟩
    · exact h.elim
  | IsNot =>
    dsimp only at h
    split at h
    · cases dw; exact op_notN pins s σ H _ _ _ _ Q I rx ry ⟨rfl, by rw [isNon_ok dv]; exact h.now rs (.bl _)⟩
    · exact h.elim
  | In =>
    dsimp only at h
    cases q : seqOf st w with
    | none => rw [q] at h; exact h.elim
    | some xs =>
      rw [q] at h
      obtain ⟨hok, h⟩ := h
      rcases hok with ⟨h1, h2⟩ | ⟨f1, f2⟩
      · obtain ⟨a, ys, rfl, hs, ds⟩ := seqOf_ok rs q dw
        exact op_in_seq pins s σ H _ _ _ _ Q I rx ry ⟨a, ys, rfl, hs, sc_flat h1 dv, sc_flats h2 ds, by rw [if_neg Bool.false_ne_true, sc_any h1 dv h2 ds]; exact h.now rs (.bl _)⟩
      · obtain ⟨k1, k2, k3, k4, k5, k6⟩ := inT_of rs dv dw q f1 f2
        exact op_inT hu pins s σ H _ _ _ _ Q I rx ry ⟨_, _, k1, k2, k3, k4, k5, by rw [if_neg Bool.false_ne_true, k6]; exact h.now rs (.bl _)⟩
  | NotIn =>
    dsimp only at h
    cases q : seqOf st w with
    | none => rw [q] at h; exact h.elim
    | some xs =>
      rw [q] at h
      obtain ⟨hok, h⟩ := h
      rcases hok with ⟨h1, h2⟩ | ⟨f1, f2⟩
      · obtain ⟨a, ys, rfl, hs, ds⟩ := seqOf_ok rs q dw
        exact op_notIn_seq pins s σ H _ _ _ _ Q I rx ry ⟨a, ys, rfl, hs, sc_flat h1 dv, sc_flats h2 ds, by rw [if_pos rfl, sc_any h1 dv h2 ds]; exact h.now rs (.bl _)⟩
      · obtain ⟨k1, k2, k3, k4, k5, k6⟩ := inT_of rs dv dw q f1 f2
        exact op_notInT hu pins s σ H _ _ _ _ Q I rx ry ⟨_, _, k1, k2, k3, k4, k5, by rw [if_pos rfl, k6]; exact h.now rs (.bl _)⟩
end
end TK
namespace PySem.AutoSeq1
theorem tk_ext_tup (l : Addr) (items : Array Value) (n : Nat) (b : Addr) (items2 : Array Value) (n2 : Nat) (dd : Option Addr) (sl : Array (Option Value)) (hs0 : ¬(!items.isEmpty && Builtin.List.listTooLong (items.size + items2.size)) = true) (hs1 : items.size ≤ sizeLine) (hs2 : items.size + items2.size ≤ sizeLine + 1) :
    Meets (Builtin.«list.extend» ⟨[.ref l, .ref b], []⟩) (fun _ R s => s.heap.get? l = some { cls := .type "list", dict := none, data := .seq items n, slots := #[] } ∧ s.heap.get? b = some { cls := .type "tuple", dict := dd, data := .seq items2 n2, slots := sl } ∧ R (.ok (.ret Value.none)) { s with heap := s.heap.update l (Obj.mapSeq fun x => x ++ items2), toks := s.toks }) :=
  .of_wp fun prog w A R s h => by
    obtain ⟨hp, g, d, tk, os⟩ := s; obtain ⟨hl, hb, h⟩ := h; have f1 := idx_int; have f2 := sub_tuple_tuple; have f3 := sub_list_list; have f4 := sub_tuple_list; have f5 := sub_list_tuple;
    have hz' : (items ++ items2).size ≤ sizeLine + 1 := by rw [Array.size_append]; exact hs2
    wp_walk using (wpAny_updateSeq hl rfl (hz := hs1) (_hz' := hz')), wpAny_loadPart' hl, wpAny_loadPart' hb; exact ⟨_, rfl, h⟩
end PySem.AutoSeq1
namespace TK
open PySem PySem.Spec PyProof.Rows L2
section
variable {X : Cx}
def rExtT (K : PySem.W.Frag) : V → List V → Hp → VK → Prop := fun x vs H Q => ∃ l b xs zs, x = .ref l ∧ vs = [.ref b] ∧ H l = some (.lst xs) ∧ SqT K H b zs ∧ xs.length + zs.length ≤ sizeLine ∧ Q .non (upd H l (.lst (xs ++ zs)))
theorem mt_extT : MtM X "list.extend" (rExtT X.K) := by
  intro pins s σ H x vs v us Q I rx rv h
  obtain ⟨l, b, xs, zs, rfl, rfl, hH, hB, hz, q⟩ := h
  cases rx
  obtain ⟨u, rfl, ru⟩ := rv.one
  cases ru
  obtain ⟨z, its, n, r, hl, e⟩ := I.lstM hH
  obtain ⟨its2, r2, ⟨⟨cls, dd, data, sl⟩, e2, hc, n2, hd⟩, hl2⟩ := I.tuple hB
  simp only at hc hd
  subst hc hd
  have hr1 := r.length
  have hr2 := r2.length
  have hsz : its.toArray.size + its2.toArray.size ≤ sizeLine := by rw [List.size_toArray, List.size_toArray]; omega
  have hlong : ¬ (!its.toArray.isEmpty && Builtin.List.listTooLong (its.toArray.size + its2.toArray.size)) = true := by
    rw [notLongL hsz, Bool.and_false]
    exact Bool.false_ne_true
  refine call_meets F.slot_list_extend ⟨_, e, rfl⟩ F.entry_list_extend (F.args_list_extend_2 _ _)
    (AutoSeq1.tk_ext_tup l its.toArray n b its2.toArray n2 dd sl hlong (by rw [List.size_toArray]; omega) (by omega)) ⟨e, e2, ?_⟩
  refine ⟨.non, _, I.lset (its' := its ++ its2) hH e (by simp) (r.append r2) ?_, rfl, q⟩
  rw [List.length_append]
  omega
end
end TK

set_option maxRecDepth 100000
set_option maxHeartbeats 2000000
namespace TK
open PySem PySem.Spec PyProof.Rows L2
/-! ### built-in functions -/
theorem bls_ok {K : PySem.W.Frag} {H : Hp} {F : FS} : ∀ {xs : List PV} {bs : List Bool} {ys : List V}, blsOf xs = some bs → DVs K H F xs ys → ys = bs.map V.bl
  | [], bs, _, e, .nil => by cases (Option.some.inj e); rfl
  | .bl b :: r, bs, _, e, .cons d ds => by
    have e' : (blsOf r).map (b :: ·) = some bs := e
    cases q : blsOf r with
    | none => rw [q] at e'; cases e'
    | some cs =>
      rw [q] at e'; cases e'
      cases d
      rw [bls_ok q ds]
      rfl
  | .non :: _, _, _, e, _ => nomatch e
  | .int _ :: _, _, _, e, _ => nomatch e
  | .str _ :: _, _, _, e, _ => nomatch e
  | .tup _ :: _, _, _, e, _ => nomatch e
  | .lst _ :: _, _, _, e, _ => nomatch e
  | .ref _ :: _, _, _, e, _ => nomatch e
  | .scr _ :: _, _, _, e, _ => nomatch e
theorem ints_ok {K : PySem.W.Frag} {H : Hp} {F : FS} : ∀ {xs : List PV} {bs : List Int} {ys : List V}, intsOf xs = some bs → DVs K H F xs ys → ys = bs.map V.int
  | [], bs, _, e, .nil => by cases (Option.some.inj e); rfl
  | .int b :: r, bs, _, e, .cons d ds => by
    have e' : (intsOf r).map (b :: ·) = some bs := e
    cases q : intsOf r with
    | none => rw [q] at e'; cases e'
    | some cs =>
      rw [q] at e'; cases e'
      cases d
      rw [ints_ok q ds]
      rfl
  | .non :: _, _, _, e, _ => nomatch e
  | .bl _ :: _, _, _, e, _ => nomatch e
  | .str _ :: _, _, _, e, _ => nomatch e
  | .tup _ :: _, _, _, e, _ => nomatch e
  | .lst _ :: _, _, _, e, _ => nomatch e
  | .ref _ :: _, _, _, e, _ => nomatch e
  | .scr _ :: _, _, _, e, _ => nomatch e
theorem max_fold : ∀ (r : List Int) (x : Int), (r.foldl (fun m y => if y > m then y else m) x ∈ x :: r) ∧ ∀ y ∈ x :: r, y ≤ r.foldl (fun m y => if y > m then y else m) x
  | [], x => ⟨List.mem_singleton.mpr rfl, fun y hy => by rw [List.mem_singleton.mp hy]; exact Int.le_refl _⟩
  | z :: r, x => by
    obtain ⟨a, b⟩ := max_fold r (if z > x then z else x)
    rw [List.foldl_cons]
    have hm : (if z > x then z else x) = z ∨ (if z > x then z else x) = x := by split <;> simp
    have h1 : z ≤ (if z > x then z else x) := by split <;> omega
    have h2 : x ≤ (if z > x then z else x) := by split <;> omega
    have h0 := b _ List.mem_cons_self
    refine ⟨?_, fun y hy => ?_⟩
    · rcases List.mem_cons.mp a with e | e
      · rcases hm with h | h <;> rw [e, h] <;> simp
      · exact List.mem_cons_of_mem _ (List.mem_cons_of_mem _ e)
    · rcases List.mem_cons.mp hy with rfl | hy
      · exact Int.le_trans h2 h0
      · rcases List.mem_cons.mp hy with rfl | hy
        · exact Int.le_trans h1 h0
        · exact b y (List.mem_cons_of_mem _ hy)
theorem min_fold : ∀ (r : List Int) (x : Int), (r.foldl (fun m y => if y < m then y else m) x ∈ x :: r) ∧ ∀ y ∈ x :: r, r.foldl (fun m y => if y < m then y else m) x ≤ y
  | [], x => ⟨List.mem_singleton.mpr rfl, fun y hy => by rw [List.mem_singleton.mp hy]; exact Int.le_refl _⟩
  | z :: r, x => by
    obtain ⟨a, b⟩ := min_fold r (if z < x then z else x)
    rw [List.foldl_cons]
    have hm : (if z < x then z else x) = z ∨ (if z < x then z else x) = x := by split <;> simp
    have h1 : (if z < x then z else x) ≤ z := by split <;> omega
    have h2 : (if z < x then z else x) ≤ x := by split <;> omega
    have h0 := b _ List.mem_cons_self
    refine ⟨?_, fun y hy => ?_⟩
    · rcases List.mem_cons.mp a with e | e
      · rcases hm with h | h <;> rw [e, h] <;> simp
      · exact List.mem_cons_of_mem _ (List.mem_cons_of_mem _ e)
    · rcases List.mem_cons.mp hy with rfl | hy
      · exact Int.le_trans h0 h2
      · rcases List.mem_cons.mp hy with rfl | hy
        · exact Int.le_trans h0 h1
        · exact b y (List.mem_cons_of_mem _ hy)
theorem maxL_mem {ns : List Int} (h : ns ≠ []) : maxL ns ∈ ns := by
  cases ns with
  | nil => exact absurd rfl h
  | cons x r => exact (max_fold r x).1
theorem maxL_ge {ns : List Int} : ∀ y ∈ ns, y ≤ maxL ns := by
  cases ns with
  | nil => exact fun _ h => nomatch h
  | cons x r => exact (max_fold r x).2
theorem minL_mem {ns : List Int} (h : ns ≠ []) : minL ns ∈ ns := by
  cases ns with
  | nil => exact absurd rfl h
  | cons x r => exact (min_fold r x).1
theorem minL_le {ns : List Int} : ∀ y ∈ ns, minL ns ≤ y := by
  cases ns with
  | nil => exact fun _ h => nomatch h
  | cons x r => exact (min_fold r x).2
theorem len_pos {ns : List Int} (h : ns ≠ []) : 0 < ns.length := by
  cases ns with
  | nil => exact absurd rfl h
  | cons x r => exact Nat.succ_pos _
mutual
theorem toD_nodict : ∀ v : PV, (toD v).hasDict = false
  | .non => by simp [toD, PyData.hasDict]
  | .bl _ => by simp [toD, PyData.hasDict]
  | .int _ => by simp [toD, PyData.hasDict]
  | .str _ => by simp [toD, PyData.hasDict]
  | .tup xs => by simp only [toD, PyData.hasDict]; exact toD_nodicts xs
  | .lst xs => by simp only [toD, PyData.hasDict]; exact toD_nodicts xs
  | .ref _ => by simp [toD, PyData.hasDict]
  | .scr _ => by simp [toD, PyData.hasDict]
theorem toD_nodicts : ∀ v : List PV, PyData.hasDictAll (toDs v) = false
  | [] => by simp [toDs, PyData.hasDictAll]
  | x :: r => by simp only [toDs, PyData.hasDictAll]; rw [toD_nodict x, toD_nodicts r]; rfl
end
section
variable {X : Cx}
abbrev rC (K : PySem.W.Frag) (f : List PV → Store → PQ → Prop) : List V → Hp → VK → Prop := fun xs H Q => ∃ F st vs, RS K H F st ∧ DVs K H F vs xs ∧ f vs st (LQ K F H Q)
theorem call_repr (hg : X.A.guards = some []) (hu : X.A.units + 64 < cLine) : CallR X (.builtin "repr") (fun xs H Q => ∃ v d, xs = [v] ∧ Dp X.K H v d ∧ d.hasDict = false ∧ d.showable = true ∧ d.shown.length ≤ sizeLine ∧ d.depth ≤ 60 ∧ Q (.str d.shown) H) := by
  intro pins s σ H xs us Q I r h
  obtain ⟨v, d, rfl, dp, nd, sh, sz, dd, q⟩ := h
  obtain ⟨u, rfl, ru⟩ := vals1 r
  obtain ⟨as, rd⟩ := Dp.reads I d v u dp ru
  cases dp with
  | non =>
    cases ru
    refine PySem.P.repr_of_none ⟨.str "None", H, I.tok _, ⟨_, rfl⟩, ?_⟩
    simpa [PyData.shown] using q
  | bl b =>
    cases ru
    refine PySem.P.repr_of_bool ⟨.str (if b then "True" else "False"), H, I.tok _, ⟨_, rfl⟩, ?_⟩
    simpa [PyData.shown] using q
  | int i =>
    obtain ⟨t, rfl⟩ := ru
    refine PySem.P.repr_of_int (by simpa [PyData.showable] using sh) ⟨.str (toString i), H, I.tok _, ⟨_, rfl⟩, ?_⟩
    simpa [PyData.shown] using q
  | str x =>
    obtain ⟨t, rfl⟩ := ru
    refine PySem.P.repr_of_str (hsz := by simpa [PyData.shown] using sz) ⟨.str (reprText x), H, I.tok _, ⟨_, rfl⟩, ?_⟩
    simpa [PyData.shown] using q
  | lst h1 h2 =>
    cases ru
    exact repr_of_reads' rd sh (fun z => by rw [nd] at z; cases z) hg (by omega) (fun _ _ e => e) (fun h' u tk hk => ⟨.str _, H, I.kept (t' := tk) hk, ⟨u, rfl⟩, q⟩) sz
  | tup h1 h2 =>
    cases ru
    exact repr_of_reads' rd sh (fun z => by rw [nd] at z; cases z) hg (by omega) (fun _ _ e => e) (fun h' u tk hk => ⟨.str _, H, I.kept (t' := tk) hk, ⟨u, rfl⟩, q⟩) sz
/-- which built-in it is -/
def BF.isTy : BF → Bool
  | .int => true
  | .tuple => true
  | .list => true
  | _ => false
def BF.id : BF → String
  | .len => "len" | .int => "int" | .abs => "abs" | .tuple => "tuple" | .list => "list" | .all => "all" | .any => "any" | .sum => "sum"
  | .min2 => "min" | .max2 => "max" | .min => "min" | .max => "max" | .repr => "repr"
def BF.val (f : BF) : Value := if f.isTy then .type f.id else .builtin f.id
theorem blt_ok {f : BF} {m : Bool} (hc : X.calm = true) (hg : X.A.guards = some []) (hu : X.A.units + 64 < cLine) : CallR X f.val (rC X.K (bltV f m)) := by
  intro pins s σ H xs us Q I r ⟨F, st, vs, rs, ds, h⟩
  have one : ∀ {v : PV} {xs : List V}, DVs X.K H F [v] xs → ∃ x, xs = [x] ∧ DV X.K H F v x := fun ds => by
    cases ds with
    | cons d ds => cases ds; exact ⟨_, rfl, d⟩
  have two : ∀ {v w : PV} {xs : List V}, DVs X.K H F [v, w] xs → ∃ x y, xs = [x, y] ∧ DV X.K H F v x ∧ DV X.K H F w y := fun ds => by
    cases ds with
    | cons d ds => cases ds with
      | cons d' ds => cases ds; exact ⟨_, _, rfl, d, d'⟩
  unfold bltV at h
  split at h
  · obtain ⟨x, rfl, d⟩ := one ds
    cases d
    exact call_len_str pins s σ H _ us Q I r ⟨_, rfl, h.1, h.2.now rs (.int _)⟩
  · obtain ⟨x, rfl, d⟩ := one ds
    cases d with
    | tup h1 hs => exact call_len_seq pins s σ H _ us Q I r ⟨_, _, rfl, .inr h1, by rw [← hs.length]; exact h.now rs (.int _)⟩
  · obtain ⟨x, rfl, d⟩ := one ds
    cases d with
    | lst f1 h1 hs => exact call_len_seq pins s σ H _ us Q I r ⟨_, _, rfl, .inl (.of h1), by rw [← hs.length]; exact h.now rs (.int _)⟩
  · obtain ⟨x, rfl, d⟩ := one ds
    rename_i a
    cases q : lstOf st (.ref a) with
    | none => rw [q] at h; exact h.elim
    | some zs =>
      rw [q] at h
      obtain ⟨b, ys, rfl, h1, hs⟩ := lstOf_ok rs q d
      exact call_len_seq pins s σ H _ us Q I r ⟨_, _, rfl, .inl (.of h1), by rw [← hs.length]; exact LQ.now h rs (.int _)⟩
  · obtain ⟨x, rfl, d⟩ := one ds
    cases d
    exact call_int1 pins s σ H _ us Q I r (.inl ⟨_, rfl, h.now rs (.int _)⟩)
  · obtain ⟨x, rfl, d⟩ := one ds
    cases d
    exact call_int1 pins s σ H _ us Q I r (.inr ⟨_, rfl, h.now rs (.int _)⟩)
  · obtain ⟨x, rfl, d⟩ := one ds
    cases d
    exact call_abs pins s σ H _ us Q I r ⟨_, rfl, h.now rs (.int _)⟩
  · obtain ⟨x, rfl, d⟩ := one ds
    rename_i v
    cases q : seqOf st v with
    | none => rw [q] at h; exact h.elim
    | some zs =>
      rw [q] at h
      cases d with
      | tup h1 hs =>
        cases (Option.some.inj q)
        exact call_tuple_of pins s σ H _ us Q I r ⟨_, _, rfl, .inr ⟨h1, LQ.now h rs (.tup h1 hs)⟩⟩
      | lst f1 h1 hs =>
        cases (Option.some.inj q)
        exact call_tuple_of pins s σ H _ us Q I r ⟨_, _, rfl, .inl ⟨.of h1, newTup_ok h rs hs⟩⟩
      | ref a =>
        obtain ⟨b, ys, e, h1, hs⟩ := lstOf_ok rs (show lstOf st (.ref a) = some zs from q) (.ref a)
        cases e
        exact call_tuple_of pins s σ H _ us Q I r ⟨_, _, rfl, .inl ⟨.of h1, newTup_ok h rs hs⟩⟩
      | non => cases q
      | bl _ => cases q
      | int _ => cases q
      | str _ => cases q
      | scr _ => cases q
  · obtain ⟨x, rfl, d⟩ := one ds
    cases d with
    | scr h1 => exact call_list_of pins s σ H _ us Q I r ⟨_, _, rfl, .inl h1.sq, newList_ok h rs (DVs.ints _)⟩
  · obtain ⟨x, rfl, d⟩ := one ds
    cases d with
    | tup h1 hs => exact call_list_of pins s σ H _ us Q I r ⟨_, _, rfl, .inr h1, newList_ok h rs hs⟩
  · obtain ⟨x, rfl, d⟩ := one ds
    cases d with
    | lst f1 h1 hs => exact call_list_of pins s σ H _ us Q I r ⟨_, _, rfl, .inl (.of h1), newList_ok h rs hs⟩
  · obtain ⟨x, rfl, d⟩ := one ds
    rename_i a
    cases q : lstOf st (.ref a) with
    | none => rw [q] at h; exact h.elim
    | some zs =>
      rw [q] at h
      obtain ⟨b, ys, rfl, h1, hs⟩ := lstOf_ok rs q d
      exact call_list_of pins s σ H _ us Q I r ⟨_, _, rfl, .inl (.of h1), newList_ok h rs hs⟩
  · obtain ⟨x, rfl, d⟩ := one ds
    rename_i v
    cases q : lstOf st v with
    | none => rw [q] at h; exact h.elim
    | some zs =>
      rw [q] at h
      have h : oP (blsOf zs) _ := h
      cases q2 : blsOf zs with
      | none => rw [q2] at h; exact h.elim
      | some bs =>
        rw [q2] at h
        obtain ⟨b, ys, rfl, h1, hs⟩ := lstOf_ok rs q d
        rw [bls_ok q2 hs] at h1
        exact cr_all hc pins s σ H _ us Q I r ⟨_, bs, rfl, .of h1, LQ.now h rs (.bl _)⟩
  · obtain ⟨x, rfl, d⟩ := one ds
    rename_i v
    cases q : lstOf st v with
    | none => rw [q] at h; exact h.elim
    | some zs =>
      rw [q] at h
      have h : oP (blsOf zs) _ := h
      cases q2 : blsOf zs with
      | none => rw [q2] at h; exact h.elim
      | some bs =>
        rw [q2] at h
        obtain ⟨b, ys, rfl, h1, hs⟩ := lstOf_ok rs q d
        rw [bls_ok q2 hs] at h1
        exact cr_any hc pins s σ H _ us Q I r ⟨_, bs, rfl, .of h1, LQ.now h rs (.bl _)⟩
  · obtain ⟨x, rfl, d⟩ := one ds
    rename_i v
    cases q : lstOf st v with
    | none => rw [q] at h; exact h.elim
    | some zs =>
      rw [q] at h
      have h : oP (intsOf zs) _ := h
      cases q2 : intsOf zs with
      | none => rw [q2] at h; exact h.elim
      | some bs =>
        rw [q2] at h
        obtain ⟨b, ys, rfl, h1, hs⟩ := lstOf_ok rs q d
        rw [ints_ok q2 hs] at h1
        exact cr_sum hc pins s σ H _ us Q I r ⟨_, bs, rfl, .of h1, LQ.now h rs (.int _)⟩
  · obtain ⟨x, rfl, d⟩ := one ds
    rename_i v
    cases q : lstOf st v with
    | none => rw [q] at h; exact h.elim
    | some zs =>
      rw [q] at h
      have h : oP (intsOf zs) _ := h
      cases q2 : intsOf zs with
      | none => rw [q2] at h; exact h.elim
      | some bs =>
        rw [q2] at h
        obtain ⟨ne, h⟩ := h
        obtain ⟨b, ys, rfl, h1, hs⟩ := lstOf_ok rs q d
        rw [ints_ok q2 hs] at h1
        refine cr_max hc pins s σ H _ us Q I r ⟨_, bs, rfl, .of h1, len_pos ne, fun k hk hge => ?_⟩
        have e : k = maxL bs := Int.le_antisymm (maxL_ge k hk) (hge _ (maxL_mem ne))
        rw [e]
        exact LQ.now h rs (.int _)
  · obtain ⟨x, rfl, d⟩ := one ds
    rename_i v
    cases q : lstOf st v with
    | none => rw [q] at h; exact h.elim
    | some zs =>
      rw [q] at h
      have h : oP (intsOf zs) _ := h
      cases q2 : intsOf zs with
      | none => rw [q2] at h; exact h.elim
      | some bs =>
        rw [q2] at h
        obtain ⟨ne, h⟩ := h
        obtain ⟨b, ys, rfl, h1, hs⟩ := lstOf_ok rs q d
        rw [ints_ok q2 hs] at h1
        refine cr_min hc pins s σ H _ us Q I r ⟨_, bs, rfl, .of h1, len_pos ne, fun k hk hge => ?_⟩
        have e : k = minL bs := Int.le_antisymm (hge _ (minL_mem ne)) (minL_le k hk)
        rw [e]
        exact LQ.now h rs (.int _)
  · obtain ⟨x, y, rfl, d, d'⟩ := two ds
    cases d; cases d'
    exact call_max2 hc pins s σ H _ us Q I r ⟨_, _, rfl, h.now rs (.int _)⟩
  · obtain ⟨x, y, rfl, d, d'⟩ := two ds
    cases d; cases d'
    exact call_min2 hc pins s σ H _ us Q I r ⟨_, _, rfl, h.now rs (.int _)⟩
  · obtain ⟨x, rfl, d⟩ := one ds
    obtain ⟨⟨h1, h2, h3⟩, h⟩ := h
    exact call_repr hg hu pins s σ H _ us Q I r ⟨_, _, rfl, res_ok rs d h3, toD_nodict _, h1, h2, (toD_lay h3).2, h.now rs (.str _)⟩
  · exact h.elim

/-! ### isinstance -/
def tyName : PV → String
  | .non => "NoneType" | .bl _ => "bool" | .int _ => "int" | .str _ => "str" | .tup _ => "tuple" | _ => "list"
theorem kit_table : (["NoneType", "bool", "int", "str", "tuple", "list"].all fun t => ["int", "bool", "str", "tuple", "list"].all fun c =>
    decide (kitB t c = some (t == c || (t == "bool" && c == "int")))) = true := by decide +kernel
theorem kit_ok {t c : String} (ht : t ∈ ["NoneType", "bool", "int", "str", "tuple", "list"]) (hc : c ∈ ["int", "bool", "str", "tuple", "list"]) : kitB t c = some (t == c || (t == "bool" && c == "int")) := by
  have h := List.all_eq_true.mp (List.all_eq_true.mp kit_table t ht) c hc
  exact of_decide_eq_true h
def tyStr (ty : Str) : Option String := if ty = ("int" : Str) then some "int" else if ty = ("bool" : Str) then some "bool" else if ty = ("str" : Str) then some "str" else if ty = ("tuple" : Str) then some "tuple" else if ty = ("list" : Str) then some "list" else none
theorem tyStr_ok {ty : Str} (h : tyOk ty = true) : ∃ c : String, c ∈ ["int", "bool", "str", "tuple", "list"] ∧ ty = Str.ofString c ∧ bootBuiltins ty = some (.type c) := by
  unfold tyOk at h
  simp only [Bool.or_eq_true, beq_iff_eq] at h
  rcases h with (((h | h) | h) | h) | h <;> subst h
  · exact ⟨"int", by decide, rfl, by decide +kernel⟩
  · exact ⟨"bool", by decide, rfl, by decide +kernel⟩
  · exact ⟨"str", by decide, rfl, by decide +kernel⟩
  · exact ⟨"tuple", by decide, rfl, by decide +kernel⟩
  · exact ⟨"list", by decide, rfl, by decide +kernel⟩
theorem TyX_ok {K : PySem.W.Frag} {H : Hp} {F : FS} {v : PV} {x : V} (d : DV K H F v x) (hv : ∀ a, v ≠ .ref a) (hs : ∀ a, v ≠ .scr a) : TyX K H x (.type (tyName v)) ∧ tyName v ∈ ["NoneType", "bool", "int", "str", "tuple", "list"] := by
  cases d with
  | non => exact ⟨.base .non, by decide⟩
  | bl b => exact ⟨.base (.bl b), by simp [tyName]⟩
  | int b => exact ⟨.base (.int b), by simp [tyName]⟩
  | str b => exact ⟨.base (.str b), by simp [tyName]⟩
  | tup h hs =>
    refine ⟨?_, by simp [tyName]⟩
    rcases h with (h | ⟨o, h⟩) | ⟨o, its, n, h, hc, _⟩
    · exact .base (.tup h)
    · exact .fTuple h
    · exact .kTuple h hc
  | lst f h hs => exact ⟨.base (.lst h), by simp [tyName]⟩
  | ref a => exact absurd rfl (hv a)
  | scr h => exact absurd rfl (hs _)
theorem isi_val {ty : Str} {c : String} (hc : c ∈ ["int", "bool", "str", "tuple", "list"]) (e : ty = Str.ofString c) {v : PV} {b : Bool} (h : isiV ty v = some b) :
    (∀ a, v ≠ .ref a) ∧ (∀ a, v ≠ .scr a) ∧ (tyName v == c || (tyName v == "bool" && c == "int")) = b := by
  subst e
  simp only [List.mem_cons, List.not_mem_nil, or_false] at hc
  cases v with
  | ref a => cases h
  | scr a => cases h
  | non =>
    have h' : some false = some b := h
    cases h'
    refine ⟨(fun a z => by cases z), (fun a z => by cases z), ?_⟩
    rcases hc with rfl | rfl | rfl | rfl | rfl <;> decide
  | bl _ =>
    have h' : some _ = some b := h
    cases h'
    refine ⟨(fun a z => by cases z), (fun a z => by cases z), ?_⟩
    rcases hc with rfl | rfl | rfl | rfl | rfl <;> (simp only [tyName]; decide +kernel)
  | int _ =>
    have h' : some _ = some b := h
    cases h'
    refine ⟨(fun a z => by cases z), (fun a z => by cases z), ?_⟩
    rcases hc with rfl | rfl | rfl | rfl | rfl <;> (simp only [tyName]; decide +kernel)
  | str _ =>
    have h' : some _ = some b := h
    cases h'
    refine ⟨(fun a z => by cases z), (fun a z => by cases z), ?_⟩
    rcases hc with rfl | rfl | rfl | rfl | rfl <;> (simp only [tyName]; decide +kernel)
  | tup _ =>
    have h' : some _ = some b := h
    cases h'
    refine ⟨(fun a z => by cases z), (fun a z => by cases z), ?_⟩
    rcases hc with rfl | rfl | rfl | rfl | rfl <;> (simp only [tyName]; decide +kernel)
  | lst _ =>
    have h' : some _ = some b := h
    cases h'
    refine ⟨(fun a z => by cases z), (fun a z => by cases z), ?_⟩
    rcases hc with rfl | rfl | rfl | rfl | rfl <;> (simp only [tyName]; decide +kernel)

/-! ### items, slices -/
theorem atI_map {K : PySem.W.Frag} {H : Hp} {F : FS} {xs : List PV} {ys : List V} {i : Int} {v : PV} (ds : DVs K H F xs ys) (e : atI xs i = some v) : ∃ y, atI ys i = some y ∧ DV K H F v y := by
  unfold atI at e ⊢
  rw [← ds.length]
  cases q : ixN xs.length i with
  | none => rw [q] at e; cases e
  | some j =>
    rw [q] at e
    exact ds.get e
theorem ix_ok : IxR X (rB X.K idxV) := by
  intro value slice pins s σ H x y vv uu Q I rx ry ⟨F, st, v, w, rs, dv, dw, h⟩ hs
  unfold idxV at h
  cases dw with
  | int i =>
    replace h : itemV i v st (LQ X.K F H Q) := h
    unfold itemV at h
    split at h
    · cases dv
      rename_i z
      cases q : atI z.cps.toList i with
      | none => rw [q] at h; exact h.2.elim
      | some c =>
        rw [q] at h
        exact ix_str value slice pins s σ H _ _ _ _ Q I rx ry ⟨z, i, c, rfl, rfl, h.1, q, LQ.now h.2 rs (.str _)⟩ hs
    · rename_i xs
      cases q : atI xs i with
      | none => rw [q] at h; exact h.elim
      | some c =>
        rw [q] at h
        cases dv with
        | tup h1 ds =>
          obtain ⟨y, e, d⟩ := atI_map ds q
          exact ix_tup value slice pins s σ H _ _ _ _ Q I rx ry ⟨_, _, i, y, rfl, rfl, h1, e, LQ.now h rs d⟩ hs
    · rename_i xs
      cases q : atI xs i with
      | none => rw [q] at h; exact h.elim
      | some c =>
        rw [q] at h
        cases dv with
        | lst f1 h1 ds =>
          obtain ⟨y, e, d⟩ := atI_map ds q
          exact ix_list value slice pins s σ H _ _ _ _ Q I rx ry ⟨_, _, i, y, rfl, rfl, .of h1, e, LQ.now h rs d⟩ hs
    · rename_i a
      cases q : lstOf st (.ref a) with
      | none => rw [q] at h; exact h.elim
      | some zs =>
        rw [q] at h
        have h : oP (atI zs i) _ := h
        cases q2 : atI zs i with
        | none => rw [q2] at h; exact h.elim
        | some c =>
          rw [q2] at h
          obtain ⟨b, ys, rfl, h1, ds⟩ := lstOf_ok rs q dv
          obtain ⟨y, e, d⟩ := atI_map ds q2
          exact ix_list value slice pins s σ H _ _ _ _ Q I rx ry ⟨_, _, i, y, rfl, rfl, .of h1, e, LQ.now h rs d⟩ hs
    · exact h.elim
  | _ => exact h.elim
theorem cut_ok {K : PySem.W.Frag} {H : Hp} {F : FS} {xs : List PV} {ys : List V} (ds : DVs K H F xs ys) (lo hi : Option Int) : DVs K H F (cutP xs lo hi) (cutV ys lo hi) := by
  unfold cutP cutV
  rw [ds.length]
  exact (ds.drop _).take _
theorem sl_ok {m : Bool} : SlR X (fun x lo hi H Q => ∃ F st v, RS X.K H F st ∧ DV X.K H F v x ∧ sliceV m v lo hi st (LQ X.K F H Q)) := by
  intro pins s σ H x v' vl vu lo hi sl Q I rx hs pl pu ⟨F, st, v, rs, dv, h⟩
  unfold sliceV at h
  split at h
  · cases dv with
    | tup h1 ds =>
      refine sl_tupA pins s σ H _ v' vl vu lo hi sl Q I rx hs pl pu ⟨_, _, rfl, h1, fun hw => ?_, fun _ => newTup_ok h rs (cut_ok ds lo hi)⟩
      refine LQ.now h rs ?_
      rw [← ds.length] at hw
      unfold cutP
      rw [hw.1, hw.2, List.drop_zero, Nat.sub_zero, List.take_length]
      exact .tup h1 ds
  · cases dv with
    | lst f1 h1 ds => exact sl_list pins s σ H _ v' vl vu lo hi sl Q I rx hs pl pu ⟨_, _, rfl, .of h1, newList_ok h rs (cut_ok ds lo hi)⟩
  · obtain ⟨xs, e, h⟩ := h
    cases dv
    obtain ⟨_, ys, h1, ds⟩ := rs.lst _ _ e
    exact sl_list pins s σ H _ v' vl vu lo hi sl Q I rx hs pl pu ⟨_, _, rfl, .of h1, newList_ok h rs (cut_ok ds lo hi)⟩
  · exact h.elim

/-! ### methods of lists -/
def MF.id : MF → String
  | .append => "list.append" | .extend => "list.extend" | .pop => "list.pop" | .index => "list.index"
theorem put_ok {K : PySem.W.Frag} {F : FS} {H : Hp} {Q : VK} {st : Store} {a : Addr} {xs : List PV} {ys ws : List V} {z : PV} {y : V} (h : LQ K F H Q z (up st a (some (.lst xs)))) (r : RS K H F st) (nf : ¬ F a) (ha : H a = some (.lst ws)) (ds : DVs K H F xs ys) (d : DV K H F z y) :
    Q y (upd H a (.lst ys)) := by
  have ni : ∀ u, H a = some u → ¬ Imm u := fun u e => by
    rw [ha] at e; cases e; exact fun z => z
  exact h F _ _ (.put nf ni) (r.put nf ni ds) (d.ext (.put nf ni))
theorem meth_ok {f : MF} : MtR X f.id (fun x xs H Q => ∃ F st v vs, RS X.K H F st ∧ DV X.K H F v x ∧ DVs X.K H F vs xs ∧ methV f v vs st (LQ X.K F H Q)) := by
  intro pins s σ H x xs v' us Q I rx r ⟨F, st, v, vs, rs, dv, ds, h⟩
  unfold methV at h
  split at h
  · obtain ⟨zs, e, hz, h⟩ := h
    cases dv
    cases ds with
    | cons d ds =>
      cases ds
      obtain ⟨nf, ys, h1, dz⟩ := rs.lst _ _ e
      exact mt_append pins s σ H _ _ v' us Q I rx r ⟨_, ys, _, rfl, rfl, h1, by rw [← dz.length]; exact hz, put_ok h rs nf h1 (dz.append (.cons d .nil)) .non⟩
  · obtain ⟨zs, ws, e, e', hz, h⟩ := h
    cases dv
    cases ds with
    | cons d ds =>
      cases ds
      obtain ⟨nf, ys, h1, dz⟩ := rs.lst _ _ e
      cases d with
      | tup hs dw =>
        cases (Option.some.inj e')
        exact mt_extT pins s σ H _ _ v' us Q I rx r ⟨_, _, ys, _, rfl, rfl, h1, hs, by rw [← dz.length, ← dw.length]; exact hz, put_ok h rs nf h1 (dz.append dw) .non⟩
      | lst f hf dw =>
        obtain ⟨b, us', eb, h2, dw⟩ := lstOf_ok rs (show lstOf _ (.lst _) = some ws from e') (.lst f hf dw)
        cases eb
        exact mt_extend pins s σ H _ _ v' us Q I rx r ⟨_, _, ys, us', rfl, rfl, h1, h2, by rw [← dz.length, ← dw.length]; exact hz, put_ok h rs nf h1 (dz.append dw) .non⟩
      | ref a' =>
        obtain ⟨b, us', eb, h2, dw⟩ := lstOf_ok rs (show lstOf _ (.ref a') = some ws from e') (.ref a')
        cases eb
        exact mt_extend pins s σ H _ _ v' us Q I rx r ⟨_, _, ys, us', rfl, rfl, h1, h2, by rw [← dz.length, ← dw.length]; exact hz, put_ok h rs nf h1 (dz.append dw) .non⟩
      | _ => cases e'
  · obtain ⟨zs, y, e, e', h⟩ := h
    cases dv
    cases ds
    obtain ⟨nf, ys, h1, dz⟩ := rs.lst _ _ e
    rw [dz.length] at e'
    obtain ⟨y', e2, dy⟩ := dz.get e'
    exact mt_pop pins s σ H _ _ v' us Q I rx r ⟨_, ys, y', rfl, rfl, h1, e2, put_ok h rs nf h1 dz.dropLast dy⟩
  · rename_i w
    obtain ⟨zs, j, z, e, hw, hall, hz, he, hno, h⟩ := h
    cases ds with
    | cons d ds =>
      cases ds
      obtain ⟨b, ys, rfl, h1, dz⟩ := lstOf_ok rs e dv
      obtain ⟨z', e2, dzz⟩ := dz.get hz
      have sc : ∀ {k : Nat} {q : PV}, zs[k]? = some q → isSc q = true := fun hq => List.all_eq_true.mp hall _ (List.mem_of_getElem? hq)
      refine mt_index pins s σ H _ _ v' us Q I rx r ⟨b, ys, _, j, z', rfl, rfl, .of h1, sc_flat hw d, sc_flats hall dz, e2, by rw [sc_eqV (sc hz) hw dzz d]; exact he, fun k q hk hq => ?_, h.now rs (.int _)⟩
      obtain ⟨q', e3, dq⟩ := dz.get' hq
      rw [sc_eqV (sc e3) hw dq d]
      exact hno k q' hk e3
  · exact h.elim
theorem set_ok : PSet X (fun o i v H Q => ∃ F st ov iv vv, RS X.K H F st ∧ DV X.K H F ov o ∧ DV X.K H F iv i ∧ DV X.K H F vv v ∧ setIxV ov iv vv st (fun st' => ∀ F' H', Ext F H F' H' → RS X.K H' F' st' → Q H')) := by
  intro pins s σ H o i v ov iv u Q I ro ri rv ⟨F, st, o', i', v', rs, d1, d2, d3, h⟩
  unfold setIxV at h
  split at h
  · obtain ⟨xs, j, e, e2, h⟩ := h
    cases d1; cases d2
    obtain ⟨nf, ys, h1, dz⟩ := rs.lst _ _ e
    have ni : ∀ u, H _ = some u → ¬ Imm u := fun u e => by
      rw [h1] at e; cases e; exact fun z => z
    exact set_list pins s σ H _ _ _ ov iv u Q I ro ri rv ⟨_, ys, _, j, rfl, rfl, h1, by rw [← dz.length]; exact e2, h F _ (.put nf ni) (rs.put nf ni (dz.set d3 j))⟩
  · exact h.elim
end
end TK

set_option maxRecDepth 100000
set_option maxHeartbeats 2000000
namespace TK
open PySem PySem.Spec PyProof.Rows L2

/-! ### readings by the small language -/
def LE (K : PySem.W.Frag) (mg : Str → Option Value) (F : FS) (H : Hp) (E : XK) : EQ := fun e st' => ∀ F' H' cls d, Ext F H F' H' → RS K H' F' st' → ExRep K mg H' F' e cls d → E cls d H'
abbrev LX (X : Cx) (W : WX) (σ : L2.St) (F : FS) (H : Hp) : EQ := LE X.K X.mg F H (fun cls d H' => W cls d σ H')
theorem LE.ext {K : PySem.W.Frag} {mg : Str → Option Value} {F F' : FS} {H H' : Hp} {E : XK} (x : Ext F H F' H') : ∀ e s, LE K mg F H E e s → LE K mg F' H' E e s := fun e s h F2 H2 cls d x2 r q => h F2 H2 cls d (x.trans x2) r q
def tl (X : Cx) (W : WX) (w : EQ → Sl → Store → PQ → Prop) : TE := fun σ H Q => ∃ F τ st, RS X.K H F st ∧ RSl X.K H F τ σ ∧ w (LX X W σ F H) τ st (LQ X.K F H Q)
def tlA (X : Cx) (W : WX) (w : EQ → Sl → Store → (List PV → Store → Prop) → Prop) : TA := fun σ H Q => ∃ F τ st, RS X.K H F st ∧ RSl X.K H F τ σ ∧
  w (LX X W σ F H) τ st fun vs st' => ∀ F' H' ys, Ext F H F' H' → RS X.K H' F' st' → DVs X.K H' F' vs ys → Q ys H'
def tlT (X : Cx) (W : WX) (w : EQ → Sl → Store → (Bool → Store → Prop) → Prop) : TT := fun σ H Q => ∃ F τ st, RS X.K H F st ∧ RSl X.K H F τ σ ∧
  w (LX X W σ F H) τ st fun b st' => ∀ F' H', Ext F H F' H' → RS X.K H' F' st' → Q b H'
def tlO (X : Cx) (W : WX) (w : EQ → Sl → Store → (Option Int → Store → Prop) → Prop) : TO := fun σ H Q => ∃ F τ st, RS X.K H F st ∧ RSl X.K H F τ σ ∧
  w (LX X W σ F H) τ st fun b st' => ∀ F' H', Ext F H F' H' → RS X.K H' F' st' → Q b H'
/-- a walk over items -/
structure WP (K : PySem.W.Frag) (J : It) (F0 : FS) (H0 : Hp) (xs : List PV) (ok : Store → Prop) : Prop where
  mono : ∀ s t, Sub s t → ok s → ok t
  go : ∀ i F H st, i < xs.length → Ext F0 H0 F H → RS K H F st → ok st → J.go i H
  stop : ∀ F H st, Ext F0 H0 F H → RS K H F st → ok st → J.stop xs.length H
  yld : ∀ i F H st x H', i < xs.length → Ext F0 H0 F H → RS K H F st → ok st → J.yld i H x H' → Ext F H F H' ∧ RS K H' F st ∧ ∃ v, xs[i]? = some v ∧ DV K H' F v x
def tlI (X : Cx) (W : WX) (r : Bool) (w : EQ → Sl → Store → (List PV → (Store → Prop) → Store → Prop) → Prop) : TI := fun σ H R => ∃ F τ st, RS X.K H F st ∧ RSl X.K H F τ σ ∧
  w (LX X W σ F H) τ st fun xs ok st' => ∀ F' H' J, Ext F H F' H' → RS X.K H' F' st' → WP X.K J F' H' xs ok → (r = false → xs.length ≤ sizeLine) → R J H'

theorem impE {X : Cx} {e : Expr} {t t' : TE} (h : PE X e t) (i : ∀ σ H Q, t' σ H Q → t σ H Q) : PE X e t' := ⟨fun pins s σ H Q I q => h.run pins s σ H Q I (i σ H Q q)⟩
theorem impT {X : Cx} {e : Expr} {t t' : TT} (h : PT X e t) (i : ∀ σ H Q, t' σ H Q → t σ H Q) : PT X e t' := ⟨fun pins s σ H Q I q => h.run pins s σ H Q I (i σ H Q q)⟩
theorem impW {X : Cx} {e : Expr} {t t' : TT} (h : PW X e t) (i : ∀ σ H Q, t' σ H Q → t σ H Q) : PW X e t' := ⟨fun wh pins s σ H Q I q => h.run wh pins s σ H Q I (i σ H Q q)⟩
theorem impA {X : Cx} {e : List Expr} {t t' : TA} (h : PA X e t) (i : ∀ σ H Q, t' σ H Q → t σ H Q) : PA X e t' := ⟨fun pos pins s σ H Q I q => h.run pos pins s σ H Q I (i σ H Q q)⟩
theorem impO {X : Cx} {e : Option Expr} {t t' : TO} (h : PO X e t) (i : ∀ σ H Q, t' σ H Q → t σ H Q) : PO X e t' := ⟨fun pins s σ H Q I q => h.run pins s σ H Q I (i σ H Q q)⟩
theorem impI {X : Cx} {g e : Expr} {t t' : TI} (h : PI X g e t) (i : ∀ σ H Q, t' σ H Q → t σ H Q) : PI X g e t' := ⟨fun pins s σ H Q I q => h.run pins s σ H Q I (i σ H Q q)⟩
theorem impTs {X : Cx} {e : List Expr} {t t' : TT} (h : PTs X e t) (i : ∀ σ H Q, t' σ H Q → t σ H Q) : PTs X e t' := ⟨fun pins s σ H Q I q => h.run pins s σ H Q I (i σ H Q q)⟩
theorem impS {X : Cx} {e : Stmt} {t t' : TS} (h : PS X e t) (i : ∀ D σ H, t' D σ H → t D σ H) : PS X e t' := ⟨fun pins s σ H D I q => h.run pins s σ H D I (i D σ H q)⟩
theorem impSs {X : Cx} {e : List Stmt} {t t' : TS} (h : PSs X e t) (i : ∀ D σ H, t' D σ H → t D σ H) : PSs X e t' := ⟨fun pins s σ H D I q => h.run pins s σ H D I (i D σ H q)⟩
theorem impG {X : Cx} {e : Expr} {t t' : L2.TG} (h : PG X e t) (i : ∀ v σ H Q, t' v σ H Q → t v σ H Q) : PG X e t' := ⟨fun pins s σ H v u Q I r q => h.run pins s σ H v u Q I r (i v σ H Q q)⟩

section
variable {X : Cx} {W : WX} {σ : L2.St} {F0 F : FS} {H0 H : Hp} {τ : Sl} {st : Store}
theorem tl_go {wa : EQ → Sl → Store → PQ → Prop} {K0 : PQ} {Q1 : VK} (m : ∀ {X X' : EQ} {τ st} {Q Q' : PQ}, (∀ e s, X e s → X' e s) → (∀ v s, Q v s → Q' v s) → wa X τ st Q → wa X' τ st Q')
    (e0 : Ext F0 H0 F H) (rs : RS X.K H F st) (sl : RSl X.K H F τ σ) (h : wa (LX X W σ F0 H0) τ st K0)
    (n : ∀ F1 H1 x v st1, Ext F H F1 H1 → RS X.K H1 F1 st1 → RSl X.K H1 F1 τ σ → DV X.K H1 F1 v x → K0 v st1 → Q1 x H1) : tl X W wa σ H Q1 :=
  ⟨F, τ, st, rs, sl, m (LE.ext e0) (fun v st1 hk F1 H1 x e1 rs1 d => n F1 H1 x v st1 e1 rs1 (sl.ext e1) d hk) h⟩
theorem tlA_go {wa : EQ → Sl → Store → (List PV → Store → Prop) → Prop} {K0 : List PV → Store → Prop} {Q1 : List V → Hp → Prop} (m : ∀ {X X' : EQ} {τ st} {Q Q' : List PV → Store → Prop}, (∀ e s, X e s → X' e s) → (∀ v s, Q v s → Q' v s) → wa X τ st Q → wa X' τ st Q')
    (e0 : Ext F0 H0 F H) (rs : RS X.K H F st) (sl : RSl X.K H F τ σ) (h : wa (LX X W σ F0 H0) τ st K0)
    (n : ∀ F1 H1 x v st1, Ext F H F1 H1 → RS X.K H1 F1 st1 → RSl X.K H1 F1 τ σ → DVs X.K H1 F1 v x → K0 v st1 → Q1 x H1) : tlA X W wa σ H Q1 :=
  ⟨F, τ, st, rs, sl, m (LE.ext e0) (fun v st1 hk F1 H1 x e1 rs1 d => n F1 H1 x v st1 e1 rs1 (sl.ext e1) d hk) h⟩
theorem tlT_go {wa : EQ → Sl → Store → (Bool → Store → Prop) → Prop} {K0 : Bool → Store → Prop} {Q1 : Bool → Hp → Prop} (m : ∀ {X X' : EQ} {τ st} {Q Q' : Bool → Store → Prop}, (∀ e s, X e s → X' e s) → (∀ v s, Q v s → Q' v s) → wa X τ st Q → wa X' τ st Q')
    (e0 : Ext F0 H0 F H) (rs : RS X.K H F st) (sl : RSl X.K H F τ σ) (h : wa (LX X W σ F0 H0) τ st K0)
    (n : ∀ F1 H1 v st1, Ext F H F1 H1 → RS X.K H1 F1 st1 → RSl X.K H1 F1 τ σ → K0 v st1 → Q1 v H1) : tlT X W wa σ H Q1 :=
  ⟨F, τ, st, rs, sl, m (LE.ext e0) (fun v st1 hk F1 H1 e1 rs1 => n F1 H1 v st1 e1 rs1 (sl.ext e1) hk) h⟩
theorem tlO_go {wa : EQ → Sl → Store → (Option Int → Store → Prop) → Prop} {K0 : Option Int → Store → Prop} {Q1 : Option Int → Hp → Prop} (m : ∀ {X X' : EQ} {τ st} {Q Q' : Option Int → Store → Prop}, (∀ e s, X e s → X' e s) → (∀ v s, Q v s → Q' v s) → wa X τ st Q → wa X' τ st Q')
    (e0 : Ext F0 H0 F H) (rs : RS X.K H F st) (sl : RSl X.K H F τ σ) (h : wa (LX X W σ F0 H0) τ st K0)
    (n : ∀ F1 H1 v st1, Ext F H F1 H1 → RS X.K H1 F1 st1 → RSl X.K H1 F1 τ σ → K0 v st1 → Q1 v H1) : tlO X W wa σ H Q1 :=
  ⟨F, τ, st, rs, sl, m (LE.ext e0) (fun v st1 hk F1 H1 e1 rs1 => n F1 H1 v st1 e1 rs1 (sl.ext e1) hk) h⟩
theorem tlI_go {r : Bool} {wa : EQ → Sl → Store → (List PV → (Store → Prop) → Store → Prop) → Prop} {K0 : List PV → (Store → Prop) → Store → Prop} {Q1 : It → Hp → Prop} (m : ∀ {X X' : EQ} {τ st} {Q Q' : List PV → (Store → Prop) → Store → Prop}, (∀ e s, X e s → X' e s) → (∀ v o s, Q v o s → Q' v o s) → wa X τ st Q → wa X' τ st Q')
    (e0 : Ext F0 H0 F H) (rs : RS X.K H F st) (sl : RSl X.K H F τ σ) (h : wa (LX X W σ F0 H0) τ st K0)
    (n : ∀ F1 H1 J xs ok st1, Ext F H F1 H1 → RS X.K H1 F1 st1 → RSl X.K H1 F1 τ σ → WP X.K J F1 H1 xs ok → (r = false → xs.length ≤ sizeLine) → K0 xs ok st1 → Q1 J H1) : tlI X W r wa σ H Q1 :=
  ⟨F, τ, st, rs, sl, m (LE.ext e0) (fun xs ok st1 hk F1 H1 J e1 rs1 wp hz => n F1 H1 J xs ok st1 e1 rs1 (sl.ext e1) wp hz hk) h⟩
end

/-! ### a def, called -/
/-- a def's promise, laid into the layer's heap -/
def liftSp (K : PySem.W.Frag) (mg : Str → Option Value) (n : Nat) (sp : PSpec) : Sp := fun vs H Q E => ∃ F st pvs, RS K H F st ∧ DVs K H F pvs vs ∧ vs.length = n ∧ callS sp pvs st (LE K mg F H E) (LQ K F H Q)
structure FnG (P : Program) (w : World) (K : PySem.W.Frag) (mg : Str → Option Value) (base : Heap) (k : Nat) (f : Addr) (fd : FuncData) (ps : List Str) (sp : Sp) : Prop where
  len : ∀ vs H Q E, sp vs H Q E → vs.length = ps.length
  run : ∀ (A : Around) (outer : List Env) (s : Shared) (H : Hp) (args : Args) (us : List Value) (vs : List V) (Q : VK) (E : XK), A.guards = some [] → Room k A →
    Env0 P w K mg base A outer s H → BindsTo s fd args (ps.zip us) → Vals vs us → sp vs H Q E →
    codeAny (model P w) A (.call (.ref f) args) (CR (L2.CX P w) outer P w H s Q E) s
theorem FnG.mono {P : Program} {w : World} {K : PySem.W.Frag} {mg : Str → Option Value} {base : Heap} {j k : Nat} {f : Addr} {fd : FuncData} {ps : List Str} {sp : Sp} (F : FnG P w K mg base j f fd ps sp) (h : j ≤ k) : FnG P w K mg base k f fd ps sp :=
  ⟨F.len, fun A outer s H args us vs Q E hg hr => F.run A outer s H args us vs Q E hg (hr.mono h)⟩
/-- the program around a body: what runs, what the module's names hold -/
structure Wd where
  P : Program
  w : World
  K : PySem.W.Frag
  mg : Str → Option Value
  base : Heap
def HasFn (Γ : Wd) (k : Nat) (f : Str) (sp : PSpec) (n : Nat) : Prop := ∃ (fa : Addr) (fd : FuncData) (ps : List Str), Γ.mg f = some (.ref fa) ∧ PySem.W.keepIn Γ.K (.ref fa) = true ∧ Binds Γ.K fd ps [] ∧ ps.length = n ∧
  FnG Γ.P Γ.w Γ.K Γ.mg Γ.base k fa fd ps (liftSp Γ.K Γ.mg n sp)
theorem HasFn.mono {Γ : Wd} {j k : Nat} {f : Str} {sp : PSpec} {n : Nat} (h : HasFn Γ j f sp n) (hk : j ≤ k) : HasFn Γ k f sp n := by
  obtain ⟨fa, fd, ps, a, b, c, d, e⟩ := h
  exact ⟨fa, fd, ps, a, b, c, d, e.mono hk⟩
def HasGl (Γ : Wd) (x : Str) (v : PV) : Prop := ∃ (u : Value) (y : V), Γ.mg x = some u ∧ L2.RelV y u ∧ ∀ H F, DV Γ.K H F v y
abbrev wdX (X : Cx) : Wd := ⟨X.prog, X.w, X.K, X.mg, X.base⟩
section
variable {X : Cx} {pins : List (Addr × Obj)} {σ : L2.St} {H : Hp} {s : Shared} {W : WX}
theorem run_g {k : Nat} {f : Addr} {fd : FuncData} {ps : List Str} {sp : Sp} {Q : VK} {E : XK} {us : List Value} {vs : List V} (F : FnG X.prog X.w X.K X.mg X.base k f fd ps sp) (hg : X.A.guards = some []) (hr : Room k X.A) (hb : Binds X.K fd ps [])
    (hx : PassesAt (L2.CX X.prog X.w) X σ E) (I : L2.Inv X pins σ H s) (r : Vals vs us) (h : sp vs H Q E) : wpAny (model X.prog X.w) X.A (call (.ref f) us) (EP X pins σ Q) X.xe s := by
  have hl : us.length = ps.length := by
    rw [← r.length]
    exact F.len _ _ _ _ h
  have hz : (us ++ ([] : List Value)).length = ps.length := by
    rw [List.append_nil]; exact hl
  have b := hb s us I.kIn hz
  rw [List.append_nil] at b
  refine wpAny_call (codeAny_mono (F.run X.A X.stack s H ⟨us, []⟩ us vs Q E hg hr I.env0 b r h) fun q s' hq => ?_)
  cases q with
  | error e => exact hx pins H s e s' I hq
  | ok fl =>
    cases fl with
    | ret u => exact I.after hq
    | _ => exact hq.elim
end

/-! ### where a term is read -/
def bltNames : List Str := ["len", "int", "abs", "tuple", "list", "all", "any", "sum", "min", "max", "repr", "isinstance", "range", "enumerate", "zip", "bool", "str"]
structure CxOk (X : Cx) (C : SC) (k : Nat) (W : WX) : Prop where
  hN : X.N = C.N
  nd : C.N.Nodup
  hsc : X.env.scope = C.sc
  calm : X.calm = true
  kindF : C.sc.kind = .function
  room : Room k X.A
  gds : X.A.guards = some []
  tk : L2.Takes X W
  po : PassesOwn (model X.prog X.w) X.A X.env X.xe
  tg : ∀ x, locB C.tsc x = true → Loc C.sc x ∧ (X.fn x = true ∨ C.sc.names.lookup x = some .local)
  blt : ∀ x ∈ bltNames, X.mg x = none
section
variable {X : Cx} {C : SC} {k : Nat} {W : WX}
theorem CxOk.vis (ok : CxOk X C k W) {x : Str} (h : visB C.sc x = true) : Vis X.env.scope x := by
  rw [ok.hsc]
  unfold visB at h
  split at h <;> first | exact .inl ‹_› | exact .inr (.inl ‹_›) | exact .inr (.inr ‹_›) | cases h
theorem CxOk.gl (ok : CxOk X C k W) {x : Str} (h : glB C.sc x = true) : Gl X x ∧ (x == ("__debug__" : Str)) = false := by
  unfold glB at h
  split at h
  · rename_i e
    refine ⟨?_, by simpa using h⟩
    show X.env.scope.names.lookup x = _
    rw [ok.hsc]; exact e
  · cases h
theorem CxOk.bn (ok : CxOk X C k W) (f : BF) : X.mg f.name = none := by
  refine ok.blt _ ?_
  cases f <;> decide +kernel
theorem boot_bf (f : BF) : bootBuiltins f.name = some f.val ∧ f.name ≠ "__name__" := by
  cases f <;> exact ⟨by decide +kernel, by decide +kernel⟩
theorem nm_ok (ok : CxOk X C k W) {i : Nat} {x : Str} {pos : Pos} (h : nmB C i x = true) : PE X (.Name x pos) (tVar i) := by
  unfold nmB at h
  simp only [Bool.and_eq_true, decide_eq_true_eq, Bool.not_eq_true'] at h
  obtain ⟨⟨⟨h1, h2⟩, h3⟩, h4⟩ := h
  exact pe_var (by rw [ok.hN]; exact h1) (ok.vis h2) h3 h4
theorem star_cons {e : Expr} {es : List Expr} {env : Env} (h : notStar e = true) : starEach (e :: es) env = (false, eval e env) :: starEach es env := by
  cases e <;> first | rfl | cases h
theorem chkEs_star : ∀ {as : Es} {C : SC} {es : List Expr}, chkEs as C es = true → ∀ env : Env, (starEach es env).all (fun x => !x.1) = true
  | .nil, C, es, h, env => by
    cases es with
    | nil => rfl
    | cons e r => cases h
  | .cons a as, C, es, h, env => by
    cases es with
    | nil => cases h
    | cons e r =>
      have h' : (notStar e && chkE a C e && chkEs as C r) = true := h
      simp only [Bool.and_eq_true] at h'
      rw [star_cons h'.1.1, List.all_cons, chkEs_star h'.2 env]
      rfl
theorem backTo_any {l : List (Bool × Sem Value)} {pos : Pos} (h : l.all (fun x => !x.1) = true) : (backTo pos l).any (·.1) = false := by
  unfold backTo
  rw [List.any_map, List.any_eq_false]
  intro x hx
  have := List.all_eq_true.mp h x hx
  simpa using this
theorem backTo_all {l : List (Bool × Sem Value)} {pos : Pos} (h : l.all (fun x => !x.1) = true) : (backTo pos l).all (fun x => !x.1) = true := by
  unfold backTo
  rw [List.all_map, List.all_eq_true]
  intro x hx
  exact List.all_eq_true.mp h x hx
end
theorem chkEs_len : ∀ {as : Es} {C : SC} {es : List Expr}, chkEs as C es = true → es.length = as.len
  | .nil, C, es, h => by
    cases es with
    | nil => rfl
    | cons e r => cases h
  | .cons a as, C, es, h => by
    cases es with
    | nil => cases h
    | cons e r =>
      have h' : (notStar e && chkE a C e && chkEs as C r) = true := h
      simp only [Bool.and_eq_true] at h'
      exact congrArg (· + 1) (chkEs_len h'.2)
theorem wpEs_len : ∀ (es : Es) {X : EQ} {τ : Sl} {st : Store} {Q : List PV → Store → Prop}, wpEs es X τ st Q → wpEs es X τ st fun vs s => vs.length = es.len ∧ Q vs s
  | .nil, _, _, _, _, h => ⟨rfl, h⟩
  | .cons e es, X, τ, st, Q, h => by
    unfold wpEs at h ⊢
    exact wpE_mono e (fun _ _ h => h) (fun v s h => wpEs_mono es (fun _ _ h => h) (fun vs s h => ⟨congrArg (· + 1) h.1, h.2⟩) (wpEs_len es h)) h
end TK

set_option maxRecDepth 100000
set_option maxHeartbeats 4000000
namespace TK
open PySem PySem.Spec PyProof.Rows L2
open PySem.AutoSeq1 (wpAny_loadPart')
/-! ### enumerate over a tuple -/
theorem meets_enumT (l : Addr) (items : Array Value) (n : Nat) (dct : Option Addr) (sl : Array (Option Value)) :
    Meets (Builtin.«enumerate.__new__» ⟨[.type "enumerate", .ref l], []⟩) (fun _ R s => s.heap.get? l = some { cls := .type "tuple", dict := dct, data := .seq items n, slots := sl } ∧
      R (.ok (.ret (.ref (s.heap.push { cls := .type "tuple_iterator", data := .fields #[.ref l, .int 0 0] }).objs.size)))
        { s with heap := (s.heap.push { cls := .type "tuple_iterator", data := .fields #[.ref l, .int 0 0] }).push { cls := .type "enumerate", data := .fields #[.none, .bool false, .ref s.heap.objs.size, rawInt 0, .none, .none] } }) :=
  .of_wp fun prog w A R s h => by
    obtain ⟨hp, g, d, tk, os⟩ := s; obtain ⟨hl, h⟩ := h
    have hsub := sub_enumerate
    have hL : Heap.IsTuple (Shared.heap ⟨hp, g, d, tk, os⟩) l items := ⟨_, hl, rfl, n, rfl⟩
    wp_walk using wpAny_loadPart' hl
    refine wpAny_stack_any fun st => wpAny_pure ?_
    split
    · rename_i c _ _ _ _ _
      cases (c == Value.type "enumerate")
      · wp_walk using wpAny_loadPart' hl, wpAny_pyIter_tuple hL
        exact ⟨_, rfl, h⟩
      · wp_walk using wpAny_loadPart' hl, wpAny_pyIter_tuple hL
        exact ⟨_, rfl, h⟩
    · wp_walk using wpAny_loadPart' hl, wpAny_pyIter_tuple hL
      exact ⟨_, rfl, h⟩
theorem call_enumT {prog : Program} {w : World} {A : Around} {E : Value → Shared → Prop} {s : Shared} {l : Addr} {items : Array Value} {Q : Value → Shared → Prop} (hL : s.heap.IsTuple l items)
    (h : ∀ h', IsEnum h' (s.heap.objs.size + 1) s.heap.objs.size 0 .none → h'.IsTupleIter s.heap.objs.size l 0 → h'.objs.size = s.heap.objs.size + 2 →
      (∀ b o, s.heap.get? b = some o → h'.get? b = some o) → Q (.ref (s.heap.objs.size + 1)) { s with heap := h' }) :
    wpAny (model prog w) A (call (.type "enumerate") [.ref l]) Q E s := by
  obtain ⟨⟨c, dct, dt, sl⟩, hl, hc, n, hd⟩ := hL
  replace hc : c = .type "tuple" := hc
  replace hd : dt = .seq items n := hd
  subst hc hd
  refine callType_new F.called_enumerate (by decide) (F.typeCall_enumerate_1 _) (F.newCall_enumerate_1 _) (fun obj => F.args_object_init_2 obj _) F.entry_enumerate_new
    (meets_enumT l items n dct sl) ⟨hl, ?_⟩
  have hz : (s.heap.push { cls := .type "tuple_iterator", data := .fields #[.ref l, .int 0 0] }).objs.size = s.heap.objs.size + 1 := Heap.size_push ..
  show _ ∧ _
  rw [hz]
  have he : IsEnum ((s.heap.push { cls := .type "tuple_iterator", data := .fields #[.ref l, .int 0 0] }).push
      { cls := .type "enumerate", data := .fields #[.none, .bool false, .ref s.heap.objs.size, rawInt 0, .none, .none] }) (s.heap.objs.size + 1) s.heap.objs.size 0 .none := by
    have := Heap.get?_push_size (s.heap.push { cls := .type "tuple_iterator", data := .fields #[.ref l, .int 0 0] })
      (o := { cls := .type "enumerate", data := .fields #[.none, .bool false, .ref s.heap.objs.size, rawInt 0, .none, .none] }) rfl
    rw [hz] at this; exact this
  refine ⟨⟨_, he, rfl⟩, h _ he ⟨_, Heap.get?_push_of_some _ (Heap.get?_push_size _ rfl), rfl, rfl⟩ (by rw [Heap.size_push, hz]) fun b o x => Heap.get?_push_of_some _ (Heap.get?_push_of_some _ x)⟩

def IteT (K : PySem.W.Frag) (a : Addr) : It :=
  ⟨fun i H => ∃ (xs : List V) (x : V), SqT K H a xs ∧ xs[i]? = some x, fun i H v H' => ∃ T x, v = .ref T ∧ H T = none ∧ H' = upd H T (.tup [.int (i : Nat), x]) ∧ ∀ xs, SqT K H a xs → xs[i]? = some x, fun i H => ∃ xs : List V, SqT K H a xs ∧ xs.length ≤ i⟩
theorem turn_enumT {P : Program} {w : World} {K : PySem.W.Frag} {elts : List Expr} {kk : Nat} {tpos : Pos} (a e it : Addr) :
    Turn P w K (.Tuple elts kk tpos) (IteT K a) [e, it] e (fun i h => (∃ old, IsEnum h e it ((i : Nat) : Int) old) ∧ h.IsTupleIter it a i ∧ e ≠ it) where
  mem := by simp
  obj := fun i h st b hb => by
    obtain ⟨⟨old, he⟩, ⟨o, ho, hc, hd⟩, _⟩ := st
    have e' : b = e ∨ b = it := by simpa using hb
    rcases e' with z | z
    · rw [z]; exact ⟨_, he, fun v q => nomatch q⟩
    · rw [z]; exact ⟨o, ho, fun v q => by rw [hd] at q; cases q⟩
  keep := fun i h h' st k => let ⟨⟨old, he⟩, hi, hne⟩ := st; ⟨⟨old, k e (by simp) _ he⟩, hi.at fun o q => k it (by simp) o q, hne⟩
  item := by
    intro X hP hw hK hc i pins s σ H E I hf st hg
    subst hP hw hK
    obtain ⟨⟨old, he⟩, hit, hne⟩ := st
    obtain ⟨xs, x, hq, hx⟩ := hg
    obtain ⟨its, rv, p, hz⟩ := I.tuple hq
    obtain ⟨u, hu, ru⟩ := rv.get hx
    have hel : e < s.heap.objs.size := Heap.lt_size he
    have hil : it < s.heap.objs.size := by obtain ⟨_, q, _⟩ := hit; exact Heap.lt_size q
    have pT : s.heap.IsTuple a its.toArray := p
    have hai : a ≠ it := fun z => by
      obtain ⟨o, h1, h2, _⟩ := hit
      obtain ⟨o2, h3, h4, _⟩ := pT
      rw [z, h1] at h3
      cases h3
      rw [h2] at h4
      exact absurd h4 (by decide)
    have hae : a ≠ e := fun z => by
      obtain ⟨o2, h3, h4, _⟩ := pT
      rw [z, he] at h3
      cases h3
      have h5 : Value.type "enumerate" = Value.type "tuple" := h4
      exact absurd h5 (by decide)
    have hh : X.A.in1.handled = none := I.ok.hd hc
    have hltI : i < its.toArray.size := by
      have := (List.getElem?_eq_some_iff.mp hu).1
      simpa using this
    refine wpAny_pyNext_enum_itemD (Draws.tuple hh it a hai its.toArray) he ⟨hit, pT⟩ hltI hne (by simp [hne, Ne.symm hae]) fun y h' tk hy ho hst hT hsz hk => ?_
    have ey : y = u := by
      have hy' : its.toArray[i]? = some y := hy
      rw [List.getElem?_toArray, hu] at hy'
      exact (Option.some.inj hy').symm
    subst ey
    refine ⟨_, rfl, wpAny_letOwnedTupleGo_enum (s := { s with heap := h', toks := tk + 1 }) ho fun h'' he' sb => ?_⟩
    have hT2 : h''.get? s.heap.objs.size = some { cls := .type "tuple", data := .seq #[.int i tk, y] } := (sb.2 _ (Nat.ne_of_gt hel)).trans hT
    have new : ObjOk X.prog X.w (upd H s.heap.objs.size (.tup [.int (i : Nat), x])) h'' s.heap.objs.size (.tup [.int (i : Nat), x]) :=
      ⟨by show 2 ≤ sizeLine; decide, [.int i tk, y], .cons ⟨_, rfl⟩ (.cons ru .nil), ⟨_, hT2, rfl, _, rfl⟩⟩
    have I1 : Inv X pins σ (upd H s.heap.objs.size (.tup [.int (i : Nat), x])) { s with heap := h'', toks := tk + 1 } :=
      I.turnedNew (ch := [e, it]) (fun b ob hb q => (sb.2 b (fun z => hb (by simp [z]))).trans (hk b ob (fun z => hb (by simp [z])) (fun z => hb (by simp [z])) q)) hf (Nat.le_refl _) new
    refine ⟨.ref s.heap.objs.size, _, I1, rfl, ⟨_, x, rfl, I.hok.fresh (Nat.le_refl _), rfl, fun ys hy => by rw [I.tuple_inj hy hq]; exact hx⟩, ⟨⟨y, ?_⟩, hst.1.at fun o q => (sb.2 it (Ne.symm hne)).trans q, hne⟩, fun b hb => ?_⟩
    · have e1 : ((i + 1 : Nat) : Int) = (i : Int) + 1 := by omega
      rw [e1]; exact he'
    · have hb' : b < s.heap.objs.size := by
        have e' : b = e ∨ b = it := by simpa using hb
        rcases e' with z | z
        · rw [z]; exact hel
        · rw [z]; exact hil
      rw [upd_ne (Nat.ne_of_lt hb')]
      exact (hf b hb).1
  done := by
    intro X hP hw hK hc i pins s σ H E I hf st hg
    subst hP hw hK
    obtain ⟨⟨old, he⟩, hit, hne⟩ := st
    obtain ⟨xs, hq, hx⟩ := hg
    obtain ⟨its, rv, p, hz⟩ := I.tuple hq
    obtain ⟨f0, f1, f2, f3, f4, f5⟩ := hf it (by simp)
    have hl := rv.length
    have pT : s.heap.IsTuple a its.toArray := p
    have hh : X.A.in1.handled = none := I.ok.hd hc
    have hno : its.toArray[i]? = none := by
      rw [List.getElem?_toArray]
      exact List.getElem?_eq_none (by omega)
    have hai : a ≠ it := fun z => by
      obtain ⟨o, h1, h2, _⟩ := hit
      obtain ⟨o2, h3, h4, _⟩ := pT
      rw [z, h1] at h3
      cases h3
      rw [h2] at h4
      exact absurd h4 (by decide)
    have D : Draws X.prog X.w X.A.in1 it [it, a] i (fun _ _ => False) (fun j h => j = i ∧ h.IsTupleIter it a i ∧ h.IsTuple a its.toArray) :=
      { live := fun _ _ st => let ⟨o, ho, _⟩ := st.2.1; ⟨o, ho⟩
        frame := fun _ _ _ st hk => ⟨st.1, st.2.1.at fun o e => hk it (by simp) o e, st.2.2.at fun o e => hk a (by simp) o e⟩
        item := fun j s Q E hj st hQ => absurd st.1 (Nat.ne_of_lt hj)
        done := fun s Q E st hE => wpAny_nextOf_tuple_end hh st.2.1 st.2.2 hno hE }
    exact wpAny_pyNext_enum_endD D he ⟨rfl, hit, pT⟩ fun h' eb => ⟨rfl, I.turned (t' := s.toks) (fun b o hb q => eb b o hb q) f0 f1 f3 f4 f5⟩
  self := fun A i s Q E st h => let ⟨⟨_, he⟩, _⟩ := st; wpAny_pyIter_enum he h

/-- enumerate over a list or a tuple -/
def iEnumA (K : PySem.W.Frag) (ta : TA) : TI := fun σ H R => ta σ H fun vs H1 => ∃ a xs, vs = [.ref a] ∧ ((SqL K H1 a xs ∧ R (Ite K a) H1) ∨ (SqT K H1 a xs ∧ R (IteT K a) H1))
theorem pi_enumA {X : Cx} {e : Expr} {ta : TA} {p pos tpos : Pos} {elts : List Expr} {kk : Nat} (hg : Gl X "enumerate") (hm : X.mg "enumerate" = none) (ha : PA X [e] ta) (hs : starEach [e] X.env = [(false, eval e X.env)] := by rfl) :
    PI X (.Tuple elts kk tpos) (.Call (.Name "enumerate" p) [e] [] pos) (iEnumA X.K ta) := by
  refine ⟨fun pins s σ H R I h => ?_⟩
  refine Call_ (ld_blt I hg hm boot_enumerate (PyProof.Rows.callWith_type1 (thn (ha.run pos pins s σ H _ I h) fun us s1 ⟨vs, H1, I1, r1, q1⟩ => ?_) hs rfl))
  obtain ⟨a, xs, ex, q⟩ := q1
  subst ex
  cases r1 with
  | cons r rr =>
    cases rr
    cases r
    have fpk : ∀ b, b ∈ [s1.heap.objs.size + 1, s1.heap.objs.size] → s1.heap.objs.size ≤ b := fun b hb => by
      have e' : b = s1.heap.objs.size + 1 ∨ b = s1.heap.objs.size := by simpa using hb
      rcases e' with z | z
      · rw [z]; exact Nat.le_add_right _ _
      · rw [z]; exact Nat.le_refl _
    rcases q with ⟨hq, q⟩ | ⟨hq, q⟩
    · obtain ⟨its, rv, p', hz⟩ := I1.list hq
      refine call_enumerate_list p'.isList fun h' he hit hsz hk => wpAny_pyIter_enum he ?_
      have I2 : Inv X pins σ H1 { s1 with heap := h' } := I1.kept (t' := s1.toks) hk
      refine ⟨s1.heap.objs.size + 1, [s1.heap.objs.size + 1, s1.heap.objs.size], _, _, H1, rfl, I2, turn_enum a (s1.heap.objs.size + 1) s1.heap.objs.size, ⟨⟨.none, he⟩, hit, Nat.succ_ne_self _⟩, fun b hb => ?_, q⟩
      exact I1.fpOk (fpk b hb) (I1.hok.fresh (fpk b hb))
    · obtain ⟨its, rv, p', hz⟩ := I1.tuple hq
      refine call_enumT (show s1.heap.IsTuple a its.toArray from p') fun h' he hit hsz hk => wpAny_pyIter_enum he ?_
      have I2 : Inv X pins σ H1 { s1 with heap := h' } := I1.kept (t' := s1.toks) hk
      refine ⟨s1.heap.objs.size + 1, [s1.heap.objs.size + 1, s1.heap.objs.size], _, _, H1, rfl, I2, turn_enumT a (s1.heap.objs.size + 1) s1.heap.objs.size, ⟨⟨.none, he⟩, hit, Nat.succ_ne_self _⟩, fun b hb => ?_, q⟩
      exact I1.fpOk (fpk b hb) (I1.hok.fresh (fpk b hb))
end TK
namespace TK
open PySem PySem.Spec PyProof.Rows L2 HT
section
variable {prog : Program} {w : World} {A : Around} {E : Value → Shared → Prop} {s : Shared}
theorem sliceApplied_rev {sl : Addr} {vs : Value} {n : Nat} {Q : Int × Int × Nat → Shared → Prop} (hs : s.heap.IsSliceOf sl .none .none vs) (ps : IsPart vs (some (-1)))
    (h : Q ((n : Int) - 1, -1, n) s) : wpAny (model prog w) A (Builtin.Slice.sliceApplied (.ref sl) (pure (n : Int))) Q E s := by
  obtain ⟨os, hos, hcs, hds⟩ := id hs
  unfold Builtin.Slice.sliceApplied Builtin.Slice.sliceFields
  refine wpAny_bind (wpAny_bind (wpAny_field hos hds (x := .none) rfl (wpAny_bind (wpAny_field hos hds (x := .none) rfl (wpAny_bind (wpAny_field hos hds (x := vs) rfl (wpAny_pure ?_)))))))
  refine wpAny_bind (slicePart_ ps ?_)
  show wpAny _ _ (if ((-1 : Int) == 0) = true then _ else _) _ _ s
  rw [if_neg (by decide)]
  refine wpAny_bind (slicePart_none (wpAny_bind (slicePart_none (wpAny_bind (wpAny_pure ?_)))))
  show wpAny _ _ (match Builtin.Slice.sliceAdjust none none (-1) (n : Int) with | (lo, hi) => pure (lo, (-1 : Int), Builtin.Slice.slicePlaces lo hi (-1))) _ _ s
  have e1 : Builtin.Slice.sliceAdjust none none (-1) (n : Int) = ((n : Int) - 1, -1) := rfl
  rw [e1]
  show wpAny _ _ (pure ((n : Int) - 1, (-1 : Int), Builtin.Slice.slicePlaces ((n : Int) - 1) (-1) (-1))) _ _ s
  have e2 : Builtin.Slice.slicePlaces ((n : Int) - 1) (-1) (-1) = n := by
    unfold Builtin.Slice.slicePlaces
    have h1 : ¬ ((-1 : Int) > 0) := by decide
    simp only [h1, if_false]
    have h3 : (-(-1 : Int)) = 1 := by decide
    rw [h3, Int.ediv_one]
    split <;> omega
  rw [e2]
  exact wpAny_pure h
theorem pick_rev (xs : Array Value) : ((List.range xs.size).filterMap fun (m : Nat) => xs[(((xs.size : Int) - 1) + (m : Int) * (-1)).toNat]?).toArray = xs.toList.reverse.toArray := by
  have e : (List.range xs.size).filterMap (fun (m : Nat) => xs[(((xs.size : Int) - 1) + (m : Int) * (-1)).toNat]?) = ((List.range xs.size).map fun k => xs.size - 1 - k).filterMap (xs[·]?) := by
    rw [List.filterMap_map]
    have gen : ∀ l : List Nat, (∀ m ∈ l, m < xs.size) → l.filterMap (fun (m : Nat) => xs[(((xs.size : Int) - 1) + (m : Int) * (-1)).toNat]?) = l.filterMap ((fun x => xs[x]?) ∘ fun k => xs.size - 1 - k) := by
      intro l
      induction l with
      | nil => intro _; rfl
      | cons m r ih =>
        intro h
        have := h m List.mem_cons_self
        have e : (((xs.size : Int) - 1) + (m : Int) * (-1)).toNat = xs.size - 1 - m := by omega
        rw [List.filterMap_cons, List.filterMap_cons, ih fun y hy => h y (List.mem_cons_of_mem _ hy), e]
        rfl
    exact gen _ fun m hm => List.mem_range.mp hm
  rw [e, PySem.W.krv_range, List.filterMap_reverse, PySem.W.krv_all]
theorem getItem_tuple_rev {t sl : Addr} {items : Array Value} {vs : Value} {Q : Value → Shared → Prop} (ht : IsTup s.heap t items) (hs : s.heap.IsSliceOf sl .none .none vs) (ps : IsPart vs (some (-1)))
    (h : Q (.ref s.heap.objs.size) { s with heap := s.heap.push { cls := .type "tuple", data := .seq items.toList.reverse.toArray } })
    (hsz : items.size ≤ sizeLine) : wpAny (model prog w) A (getItem (.ref t) (.ref sl)) Q E s := by
  have htake : sizeOk (.seq items.toList.reverse.toArray) := by
    show items.toList.reverse.toArray.size ≤ sizeLine
    rw [List.size_toArray, List.length_reverse, Array.length_toList]
    exact hsz
  obtain ⟨os, hos, hcs, hds⟩ := id hs
  have hTs : s.TypeIs (.ref sl) "slice" := ⟨os, hos, hcs⟩
  unfold getItem
  try with_reducible refine wpAny_holding ?_
  first | refine wpAny_bind (wpAny_pure ?_) | skip
  refine wpAny_bind (wpAny_sequenceKey ht.typeIs (by decide) ?_)
  refine wpAny_bind (wpAny_callSpecial?_slot (name := Str.ofString "__getitem__") ht.typeIs PyProof.Rows.slot_tuple_getitem
    (wpAny_call_entry PyProof.Rows.slot_tuple_getitem ht.typeIs entry_tuple_getitem ?_ (args_tuple_getitem _ _)))
  show wpAny _ _ (Builtin.Tuple.tupleItemsOf (.ref t) >>= _) _ _ s
  refine wpAny_bind (tupleItemsOf_ ht ?_)
  refine wpAny_bind (wpAny_typeOf hTs ?_)
  rw [if_pos (by decide)]
  refine wpAny_bind (sliceApplied_rev hs ps ?_)
  have hno : ¬ ((((items.size : Int) - 1) == 0 && (-1 : Int) == 1 && items.size == items.size) = true) := by
    intro q
    rw [Bool.and_eq_true, Bool.and_eq_true] at q
    have q1 : (-1 : Int) = 1 := eq_of_beq q.1.2
    omega
  show wpAny _ _ (if (((items.size : Int) - 1) == 0 && (-1 : Int) == 1 && items.size == items.size) = true then _ else _) _ _ s
  rw [if_neg hno, pick_rev]
  first
    | exact wpAny_bind (m := Builtin.Tuple.tupleExact _) (wpAny_newObj_type (wpAny_pure ⟨_, rfl, wpAny_pure h⟩) htake)
    | exact wpAny_bind (m := Builtin.Tuple.tupleExact _) (wpAny_newObj_type (wpAny_bind (wpAny_pure (wpAny_pure ⟨_, rfl, wpAny_pure h⟩))) htake)
    | exact wpAny_bind (wpAny_bind (m := Builtin.Tuple.tupleExact _) (wpAny_newObj_type (wpAny_pure (wpAny_pure ⟨_, rfl, wpAny_pure h⟩)) htake))
    | exact wpAny_bind (wpAny_bind (m := Builtin.Tuple.tupleExact _) (wpAny_newObj_type (wpAny_pure ⟨_, rfl, wpAny_pure h⟩) htake))
end
section
variable {X : Cx}
/-- t[::-1] of a tuple -/
def tRevT (K : PySem.W.Frag) (te : TE) : TE := fun σ H Q => te σ H fun x H1 => ∃ a xs, x = .ref a ∧ SqT K H1 a xs ∧ ∀ p, H1 p = none → Q (.ref p) (upd H1 p (.tup xs.reverse))
theorem pe_revT {e : Expr} {te : TE} {k : Nat} {p1 p2 p3 pos : Pos} (he : PE X e te) : PE X (.Subscript e (.Slice none none (some (.UnaryOp .USub (.Constant (.int 1) k p1) p2)) p3) pos) (tRevT X.K te) := by
  refine ⟨fun pins s σ H Q I h => ?_⟩
  refine Subscript_ (thn (he.run pins s σ H _ I h) fun v s1 ⟨x, H1, I1, r1, q1⟩ => ?_)
  obtain ⟨a, xs, ex, hx, q⟩ := q1
  subst ex
  cases r1
  have hst : PO X (some (.UnaryOp .USub (.Constant (.int 1) k p1) p2)) (tPart (tUn (rU fun i => .int (-i)) (tC (.int 1)))) := po_some (pe_un un_neg pe_int)
  refine wpAny_Slice (thn (po_none.run pins s1 σ H1 (fun o H2 => o = none ∧ H2 = H1) I1 ⟨rfl, rfl⟩) fun vl s2 ⟨l, H2, I2, pl, el, e2⟩ => ?_)
  subst el e2
  refine thn (po_none.run pins s2 σ H2 (fun o H3 => o = none ∧ H3 = H2) I2 ⟨rfl, rfl⟩) fun vu s3 ⟨u, H3, I3, pu, eu, e3⟩ => ?_
  subst eu e3
  refine thn (hst.run pins s3 σ H3 (fun o H4 => o = some (-1) ∧ H4 = H3) I3 ⟨1, rfl, -1, rfl, rfl, rfl⟩) fun vs s4 ⟨o, H4, I4, ps, eo, e4⟩ => ?_
  subst eo e4
  cases pl
  cases pu
  have I5 : Inv X pins σ H4 { s4 with heap := s4.heap.push { cls := .type "slice", data := .fields #[.none, .none, vs] } } := I4.kept (t' := s4.toks) fun b ob q => Heap.get?_push_of_some _ q
  obtain ⟨its, r, ht, hz⟩ := I5.tuple hx
  have hlen := r.length
  show wpAny (model X.prog X.w) X.A (subscriptTail e (.Slice none none (some (.UnaryOp .USub (.Constant (.int 1) k p1) p2)) p3) (.ref a) (.ref s4.heap.objs.size)) (EP X pins σ Q) X.xe { s4 with heap := s4.heap.push { cls := .type "slice", data := .fields #[.none, .none, vs] } }
  refine tail_any (ops := [.ref a, .ref s4.heap.objs.size]) ht.typeIs (PyProof.Rows.slot_tuple_getitem.lookup) ?_ (by with_unfolding_all rfl)
  refine getItem_tuple_rev ht (Heap.IsSliceOf.new _ .none .none vs) ps ?_ (by rw [List.size_toArray]; omega)
  refine ⟨.ref _, _, I5.laid (t' := s4.toks) (o := .tup xs.reverse) (fun b ob q => Heap.get?_push_of_some _ q) (Nat.le_refl _) ?_, rfl, q _ (I5.hok.fresh (Nat.le_refl _))⟩
  exact ⟨by rw [List.length_reverse]; exact hz, _, r.reverse, IsTup.new _ _⟩
end
end TK
namespace TK
open PySem PySem.Spec PyProof.Rows L2 HT
theorem ints_all (h : Heap) : ∀ {vs : List Value} {xs : List Int}, IntsAre vs xs → ReadsAll h vs (xs.map PyData.int) []
  | _, _, .nil => .nil
  | _, _, .cons n t r => .cons (.int n t) (ints_all h r)
theorem depth_ints : ∀ ns : List Int, PyData.depthAll (ns.map PyData.int) ≤ 1
  | [] => by decide
  | n :: r => by
    have := depth_ints r
    show max (PyData.depth (.int n)) (PyData.depthAll (r.map PyData.int)) ≤ 1
    have e : PyData.depth (.int n) ≤ 1 := by simp [PyData.depth]
    omega
theorem alike_ints (ns : List Int) : PySem.W.AlikeAll (ns.map PyData.int) := by
  refine ⟨fun x hx y hy => ?_, fun x hx => ?_⟩
  · obtain ⟨a, _, rfl⟩ := List.mem_map.mp hx
    obtain ⟨b, _, rfl⟩ := List.mem_map.mp hy
    rfl
  · obtain ⟨a, _, rfl⟩ := List.mem_map.mp hx
    exact fun e => nomatch e
section
variable {X : Cx}
def rMaxD0 (K : PySem.W.Frag) : List V → List V → Hp → VK → Prop := fun vs zs H Q => ∃ (a : Addr) (ns : List Int), vs = [V.ref a] ∧ zs = [.int 0] ∧ SqL K H a (ns.map V.int) ∧ Q (.int (maxD0 ns)) H
theorem call_maxD (hc : X.calm = true) (hu : X.A.units + 64 < cLine) : CallRK X (.builtin "max") ["default"] (rMaxD0 X.K) := by
  intro pins s σ H xs zs us ws Q I rx rz h
  obtain ⟨a, ns, rfl, rfl, hs, q⟩ := h
  obtain ⟨its, rv, hl, _⟩ := I.list hs
  rw [Vals.ref1 rx]
  cases rz with
  | cons r0 rz =>
    cases rz
    obtain ⟨t0, rfl⟩ := r0
    have hd := depth_ints ns
    refine PySem.W.max_list_default (I.ok.hd hc) hl.isList (ints_all _ rv.ints) (alike_ints ns) (by omega) (fun e h' tk k => ?_) fun y ys i v h' tk bs e hv hr k => ?_
    · cases ns with
      | nil => exact ⟨.int 0, H, I.kept k, ⟨_, rfl⟩, q⟩
      | cons n r => cases e
    · cases ns with
      | nil => cases e
      | cons n r =>
        rw [List.map_cons] at e
        cases e
        rw [PySem.W.maxD_ints] at hr
        cases hr with
        | int i t => exact ⟨.int _, H, I.kept k, ⟨_, rfl⟩, q⟩
theorem pe_maxD {y : Expr} {te : TE} {p q pos kpos : Pos} {k : Nat} (hc : X.calm = true) (hu : X.A.units + 64 < cLine) (hg : Gl X "max") (hm : X.mg "max" = none) (ha : PE X y te) (hst : ∀ env, starEach [y] env = (false, eval y env) :: starEach [] env) :
    PE X (.Call (.Name "max" p) [y] [⟨some "default", .Constant (.int 0) k q, kpos⟩] pos) (tCKw (rMaxD0 X.K) (tCons te tNil) (tCons (tC (.int 0)) tNil)) := by
  have e0 := hst X.env
  refine pe_callBK (call_maxD hc hu) hg hm PyProof.Rows.Boot.«max» (pa_cons ha pa_nil e0) (pk_cons pe_int pk_nil) (by decide) (by decide) (by rw [e0]; rfl) (by rw [e0]; rfl)
end
end TK

set_option maxRecDepth 100000
set_option maxHeartbeats 4000000
namespace TK
open PySem PySem.Spec PyProof.Rows L2

/-! ### what is walked -/
section
variable {X : Cx} {pins : List (Addr × Obj)} {σ : L2.St} {H1 : Hp} {s1 : Shared} {a : Addr} {ys : List V} {tg : Expr} {R : It → Hp → Prop}
theorem iter_l (J : L2.Inv X pins σ H1 s1) (hq : SqL X.K H1 a ys) (q : R (Itl X.K a) H1) : wpAny (model X.prog X.w) X.A (pyIter (.ref a)) (PIE X pins σ tg R) X.xe s1 := by
  obtain ⟨its, rv, p, hz⟩ := J.list hq
  refine wpAny_pyIter_list p.isList ?_
  refine ⟨s1.heap.objs.size, [s1.heap.objs.size], _, _, H1, rfl, ?_, turn_list a _, ⟨_, Heap.get?_push_size _ rfl, rfl, rfl⟩, fun b hb => ?_, q⟩
  · exact J.kept (t' := s1.toks) fun c o e => Heap.get?_push_of_some _ e
  · rw [List.mem_singleton.mp hb]
    exact J.fpOk (Nat.le_refl _) (J.hok.fresh (Nat.le_refl _))
theorem iter_t (J : L2.Inv X pins σ H1 s1) (hq : SqT X.K H1 a ys) (q : R (Itt X.K a) H1) : wpAny (model X.prog X.w) X.A (pyIter (.ref a)) (PIE X pins σ tg R) X.xe s1 := by
  obtain ⟨its, rv, p, hz⟩ := J.tuple hq
  refine wpAny_pyIter_tuple (show s1.heap.IsTuple a its.toArray from p) ?_
  refine ⟨s1.heap.objs.size, [s1.heap.objs.size], _, _, H1, rfl, ?_, turn_tuple a _, ⟨_, Heap.get?_push_size _ rfl, rfl, rfl⟩, fun b hb => ?_, q⟩
  · exact J.kept (t' := s1.toks) fun c o e => Heap.get?_push_of_some _ e
  · rw [List.mem_singleton.mp hb]
    exact J.fpOk (Nat.le_refl _) (J.hok.fresh (Nat.le_refl _))
end
section
variable {K : PySem.W.Frag} {F0 : FS} {H0 : Hp} {a b : Addr} {xs zs : List PV} {ys ws : List V}
theorem wp_list (f : F0 a) (h : H0 a = some (.lst ys)) (ds : DVs K H0 F0 xs ys) : WP K (Itl K a) F0 H0 xs (fun _ => True) := by
  have at_ : ∀ {F H}, Ext F0 H0 F H → SqL K H a ys := fun e => .of (e.kp _ _ h (.inl f))
  refine ⟨fun _ _ _ h => h, fun i F H st hi e r _ => ?_, fun F H st e r _ => ⟨ys, at_ e, by rw [ds.length]; exact Nat.le_refl _⟩, fun i F H st x H' hi e r _ y => ?_⟩
  · rw [ds.length] at hi
    exact ⟨ys, ys[i], at_ e, by simp [hi]⟩
  · obtain ⟨rfl, y⟩ := y
    obtain ⟨v, hv, dv⟩ := ds.get' (y ys (at_ e))
    exact ⟨.refl, r, v, hv, dv.ext e⟩
theorem wp_ref (xs : List PV) : WP K (Itl K a) F0 H0 xs (fun s => s a = some (.lst xs)) := by
  refine ⟨fun _ _ hs h => hs _ _ h, fun i F H st hi e r o => ?_, fun F H st e r o => ?_, fun i F H st x H' hi e r o y => ?_⟩
  · obtain ⟨_, ys, h, ds⟩ := r.lst a xs o
    rw [ds.length] at hi
    exact ⟨ys, ys[i], .of h, by simp [hi]⟩
  · obtain ⟨_, ys, h, ds⟩ := r.lst a xs o
    exact ⟨ys, .of h, by rw [ds.length]; exact Nat.le_refl _⟩
  · obtain ⟨rfl, y⟩ := y
    obtain ⟨_, ys, h, ds⟩ := r.lst a xs o
    obtain ⟨v, hv, dv⟩ := ds.get' (y ys (.of h))
    exact ⟨.refl, r, v, hv, dv⟩
theorem wp_tup (h : SqT K H0 a ys) (ds : DVs K H0 F0 xs ys) : WP K (Itt K a) F0 H0 xs (fun _ => True) := by
  refine ⟨fun _ _ _ h => h, fun i F H st hi e r _ => ?_, fun F H st e r _ => ⟨ys, sqText e h, by rw [ds.length]; exact Nat.le_refl _⟩, fun i F H st x H' hi e r _ y => ?_⟩
  · rw [ds.length] at hi
    exact ⟨ys, ys[i], sqText e h, by simp [hi]⟩
  · obtain ⟨rfl, y⟩ := y
    obtain ⟨v, hv, dv⟩ := ds.get' (y ys (sqText e h))
    exact ⟨.refl, r, v, hv, dv.ext e⟩
theorem rngL_len (lo : Int) (n : Nat) : (rngL lo n).length = n := by unfold rngL; rw [List.length_map, List.length_range]
theorem rngL_get {lo : Int} {n i : Nat} (h : i < n) : (rngL lo n)[i]? = some (.int (lo + i)) := by
  unfold rngL
  rw [List.getElem?_map, List.getElem?_range h]; rfl
theorem wp_rng (lo : Int) (n : Nat) : WP K (Itr lo n) F0 H0 (rngL lo n) (fun _ => True) := by
  refine ⟨fun _ _ _ h => h, fun i F H st hi e r _ => ?_, fun F H st e r _ => ?_, fun i F H st x H' hi e r _ y => ?_⟩
  · rw [rngL_len] at hi; exact hi
  · rw [rngL_len]; exact Nat.le_refl n
  · obtain ⟨rfl, rfl⟩ := y
    rw [rngL_len] at hi
    exact ⟨.refl, r, _, rngL_get hi, .int _⟩
theorem enumL_len : ∀ (k : Nat) (xs : List PV), (enumL k xs).length = xs.length
  | _, [] => rfl
  | k, _ :: r => congrArg (· + 1) (enumL_len (k + 1) r)
theorem enumL_get : ∀ {k i : Nat} {xs : List PV} {v : PV}, xs[i]? = some v → (enumL k xs)[i]? = some (.tup [.int ((k + i : Nat) : Int), v])
  | _, _, [], _, h => by simp at h
  | k, 0, x :: r, v, h => by simp at h; subst h; rfl
  | k, i + 1, x :: r, v, h => by
    have := enumL_get (k := k + 1) (i := i) (xs := r) (v := v) (by simpa using h)
    show (enumL (k + 1) r)[i]? = _
    rw [this]
    have e : k + 1 + i = k + (i + 1) := by omega
    rw [e]
theorem pair_ok {F : FS} {H : Hp} {st : Store} {T : Addr} {v w : PV} {x y : V} (r : RS K H F st) (hT : H T = none) (d : DV K H F v x) (d' : DV K H F w y) :
    Ext F H F (upd H T (.tup [x, y])) ∧ RS K (upd H T (.tup [x, y])) F st ∧ DV K (upd H T (.tup [x, y])) F (.tup [v, w]) (.ref T) :=
  ⟨.new hT, r.new hT, .tup (.of upd_same) (.cons (d.ext (.new hT)) (.cons (d'.ext (.new hT)) .nil))⟩
theorem wp_enumL (f : F0 a) (h : H0 a = some (.lst ys)) (ds : DVs K H0 F0 xs ys) : WP K (Ite K a) F0 H0 (enumL 0 xs) (fun _ => True) := by
  have at_ : ∀ {F H}, Ext F0 H0 F H → SqL K H a ys := fun e => .of (e.kp _ _ h (.inl f))
  refine ⟨fun _ _ _ h => h, fun i F H st hi e r _ => ?_, fun F H st e r _ => ⟨ys, at_ e, by rw [enumL_len, ds.length]; exact Nat.le_refl _⟩, fun i F H st x H' hi e r _ y => ?_⟩
  · rw [enumL_len, ds.length] at hi
    exact ⟨ys, ys[i], at_ e, by simp [hi]⟩
  · obtain ⟨T, z, rfl, hT, rfl, y⟩ := y
    obtain ⟨v, hv, dv⟩ := ds.get' (y ys (at_ e))
    obtain ⟨p1, p2, p3⟩ := pair_ok r hT (.int (i : Nat)) (dv.ext e)
    refine ⟨p1, p2, _, enumL_get hv, ?_⟩
    rw [Nat.zero_add]; exact p3
theorem wp_enumR (xs : List PV) : WP K (Ite K a) F0 H0 (enumL 0 xs) (fun s => s a = some (.lst xs)) := by
  refine ⟨fun _ _ hs h => hs _ _ h, fun i F H st hi e r o => ?_, fun F H st e r o => ?_, fun i F H st x H' hi e r o y => ?_⟩
  · obtain ⟨_, ys, h, ds⟩ := r.lst a xs o
    rw [enumL_len, ds.length] at hi
    exact ⟨ys, ys[i], .of h, by simp [hi]⟩
  · obtain ⟨_, ys, h, ds⟩ := r.lst a xs o
    exact ⟨ys, .of h, by rw [enumL_len, ds.length]; exact Nat.le_refl _⟩
  · obtain ⟨T, z, rfl, hT, rfl, y⟩ := y
    obtain ⟨_, ys, h, ds⟩ := r.lst a xs o
    obtain ⟨v, hv, dv⟩ := ds.get' (y ys (.of h))
    obtain ⟨p1, p2, p3⟩ := pair_ok r hT (.int (i : Nat)) dv
    refine ⟨p1, p2, _, enumL_get hv, ?_⟩
    rw [Nat.zero_add]; exact p3
theorem wp_enumT (h : SqT K H0 a ys) (ds : DVs K H0 F0 xs ys) : WP K (IteT K a) F0 H0 (enumL 0 xs) (fun _ => True) := by
  refine ⟨fun _ _ _ h => h, fun i F H st hi e r _ => ?_, fun F H st e r _ => ⟨ys, sqText e h, by rw [enumL_len, ds.length]; exact Nat.le_refl _⟩, fun i F H st x H' hi e r _ y => ?_⟩
  · rw [enumL_len, ds.length] at hi
    exact ⟨ys, ys[i], sqText e h, by simp [hi]⟩
  · obtain ⟨T, z, rfl, hT, rfl, y⟩ := y
    obtain ⟨v, hv, dv⟩ := ds.get' (y ys (sqText e h))
    obtain ⟨p1, p2, p3⟩ := pair_ok r hT (.int (i : Nat)) (dv.ext e)
    refine ⟨p1, p2, _, enumL_get hv, ?_⟩
    rw [Nat.zero_add]; exact p3
theorem zipL_len : ∀ (xs zs : List PV), (zipL xs zs).length = min xs.length zs.length
  | [], _ => by simp [zipL]
  | _ :: _, [] => by simp [zipL]
  | x :: r, y :: s => by show (zipL r s).length + 1 = _; rw [zipL_len r s, List.length_cons, List.length_cons]; omega
theorem zipL_get : ∀ {i : Nat} {xs zs : List PV} {v w : PV}, xs[i]? = some v → zs[i]? = some w → (zipL xs zs)[i]? = some (.tup [v, w])
  | _, [], _, _, _, h, _ => by simp at h
  | _, _ :: _, [], _, _, _, h => by simp at h
  | 0, x :: r, y :: s, v, w, h, h' => by simp at h h'; subst h h'; rfl
  | i + 1, x :: r, y :: s, v, w, h, h' => zipL_get (i := i) (xs := r) (zs := s) (by simpa using h) (by simpa using h')
theorem wp_zipL (f : F0 a) (h : H0 a = some (.lst ys)) (ds : DVs K H0 F0 xs ys) (f' : F0 b) (h' : H0 b = some (.lst ws)) (ds' : DVs K H0 F0 zs ws) : WP K (Itz K a b) F0 H0 (zipL xs zs) (fun _ => True) := by
  have at_ : ∀ {F H}, Ext F0 H0 F H → SqL K H a ys ∧ SqL K H b ws := fun e => ⟨.of (e.kp _ _ h (.inl f)), .of (e.kp _ _ h' (.inl f'))⟩
  refine ⟨fun _ _ _ h => h, fun i F H st hi e r _ => ?_, fun F H st e r _ => ⟨ys, ws, (at_ e).1, (at_ e).2, by rw [zipL_len, ds.length, ds'.length]; omega⟩, fun i F H st x H' hi e r _ y => ?_⟩
  · rw [zipL_len, ds.length, ds'.length] at hi
    have h1 : i < ys.length := by omega
    have h2 : i < ws.length := by omega
    exact ⟨ys, ws, ys[i], ws[i], (at_ e).1, (at_ e).2, by simp [h1], by simp [h2]⟩
  · obtain ⟨T, z, z', rfl, hT, rfl, y, y'⟩ := y
    obtain ⟨v, hv, dv⟩ := ds.get' (y ys (at_ e).1)
    obtain ⟨v', hv', dv'⟩ := ds'.get' (y' ws (at_ e).2)
    obtain ⟨p1, p2, p3⟩ := pair_ok r hT (dv.ext e) (dv'.ext e)
    exact ⟨p1, p2, _, zipL_get hv hv', p3⟩
theorem wp_zipT (h : SqT K H0 a ys) (ds : DVs K H0 F0 xs ys) (h' : SqT K H0 b ws) (ds' : DVs K H0 F0 zs ws) : WP K (RZ.ItzT K a b) F0 H0 (zipL xs zs) (fun _ => True) := by
  have at_ : ∀ {F H}, Ext F0 H0 F H → SqT K H a ys ∧ SqT K H b ws := fun e => ⟨sqText e h, sqText e h'⟩
  refine ⟨fun _ _ _ h => h, fun i F H st hi e r _ => ?_, fun F H st e r _ => ⟨ys, ws, (at_ e).1, (at_ e).2, by rw [zipL_len, ds.length, ds'.length]; omega⟩, fun i F H st x H' hi e r _ y => ?_⟩
  · rw [zipL_len, ds.length, ds'.length] at hi
    have h1 : i < ys.length := by omega
    have h2 : i < ws.length := by omega
    exact ⟨ys, ws, ys[i], ws[i], (at_ e).1, (at_ e).2, by simp [h1], by simp [h2]⟩
  · obtain ⟨T, z, z', rfl, hT, rfl, y, y'⟩ := y
    obtain ⟨v, hv, dv⟩ := ds.get' (y ys (at_ e).1)
    obtain ⟨v', hv', dv'⟩ := ds'.get' (y' ws (at_ e).2)
    obtain ⟨p1, p2, p3⟩ := pair_ok r hT (dv.ext e) (dv'.ext e)
    exact ⟨p1, p2, _, zipL_get hv hv', p3⟩
end

/-! ### targets -/
section
variable {X : Cx} {C : SC} {k : Nat} {W : WX}
/-- a target's reading -/
def tlG (K : PySem.W.Frag) (tg : TG) : L2.TG := fun v σ H Q => ∃ F τ τ' pv, RSl K H F τ σ ∧ DV K H F pv v ∧ tg.asg pv τ = some τ' ∧
  ∀ σ' : L2.St, RSl K H F τ' σ' → (∀ j, j ∉ tg.slots → σ'[j]? = σ[j]?) → Q σ' H
def tlGs (K : PySem.W.Frag) (tg : TGs) : L2.TGs := fun vs σ H Q => ∃ F τ τ' pvs, RSl K H F τ σ ∧ DVs K H F pvs vs ∧ tg.asg pvs τ = some τ' ∧
  ∀ σ' : L2.St, RSl K H F τ' σ' → (∀ j, j ∉ tg.slots → σ'[j]? = σ[j]?) → Q σ' H
theorem chkGs_star : ∀ {ts : TGs} {es : List Expr}, chkGs C ts es = true → ∀ env : Env, (assignEach es env).findIdx? (·.1) = none
  | .nil, es, h, env => by
    cases es with
    | nil => rfl
    | cons e r => cases h
  | .cons t ts, es, h, env => by
    cases es with
    | nil => cases h
    | cons e r =>
      have h' : (notStar e && chkG C t e && chkGs C ts r) = true := h
      simp only [Bool.and_eq_true] at h'
      have e1 : assignEach (e :: r) env = (false, assign e env) :: assignEach r env := by
        have := h'.1.1
        cases e <;> first | rfl | cases this
      rw [e1, List.findIdx?_cons, chkGs_star h'.2 env]
      rfl
theorem chkGs_len : ∀ {ts : TGs} {es : List Expr}, chkGs C ts es = true → ∀ (env : Env) {pvs : List PV} {τ τ' : Sl}, ts.asg pvs τ = some τ' → pvs.length = (assignEach es env).length
  | .nil, es, h, env, pvs, τ, τ', q => by
    cases es with
    | nil =>
      cases pvs with
      | nil => rfl
      | cons _ _ => cases q
    | cons e r => cases h
  | .cons t ts, es, h, env, pvs, τ, τ', q => by
    cases es with
    | nil => cases h
    | cons e r =>
      have h' : (notStar e && chkG C t e && chkGs C ts r) = true := h
      simp only [Bool.and_eq_true] at h'
      have e1 : assignEach (e :: r) env = (false, assign e env) :: assignEach r env := by
        have := h'.1.1
        cases e <;> first | rfl | cases this
      rw [e1]
      cases pvs with
      | nil => cases q
      | cons v vs =>
        have q' : (t.asg v τ).bind (ts.asg vs) = some τ' := q
        cases q1 : t.asg v τ with
        | none => rw [q1] at q'; cases q'
        | some τ1 =>
          rw [q1] at q'
          exact congrArg (· + 1) (chkGs_len h'.2 env (show ts.asg vs τ1 = some τ' from q'))
mutual
theorem sG : ∀ (tg : TG) {g : Expr}, CxOk X C k W → chkG C tg g = true → PG X g (tlG X.K tg)
  | .name i, g, ok, h => by
    unfold chkG at h
    split at h
    · simp only [Bool.and_eq_true, decide_eq_true_eq] at h
      obtain ⟨l1, l2⟩ := ok.tg _ h.2
      refine impG (pg_name (i := i) (by rw [ok.hN]; exact ok.nd) (by rw [ok.hN]; exact h.1) (by rw [ok.hsc]; exact l1) (by rw [ok.hsc]; exact l2)) fun v σ H Q q => ?_
      obtain ⟨F, τ, τ', pv, sl, d, e, q⟩ := q
      cases (Option.some.inj e)
      exact q _ (sl.set d i) fun j hj => List.getElem?_set_ne (fun z => hj (List.mem_singleton.mpr z.symm))
    · cases h
  | .tup ts, g, ok, h => by
    unfold chkG at h
    split at h
    · refine impG (pg_tup ok.calm (sGs ts ok h) rfl (chkGs_star h _)) fun v σ H Q q => ?_
      obtain ⟨F, τ, τ', pv, sl, d, e, q⟩ := q
      cases d with
      | tup h1 ds =>
        have e' : ts.asg _ τ = some τ' := e
        exact ⟨_, _, rfl, h1, by rw [← ds.length]; exact chkGs_len h _ e', F, τ, τ', _, sl, ds, e', q⟩
      | _ => cases e
    · cases h
theorem sGs : ∀ (tg : TGs) {gs : List Expr}, CxOk X C k W → chkGs C tg gs = true → PGs X gs (tlGs X.K tg)
  | .nil, gs, ok, h => by
    cases gs with
    | nil =>
      refine ⟨fun pins s σ H vs us Q I r q => ?_⟩
      obtain ⟨F, τ, τ', pvs, sl, ds, e, q⟩ := q
      cases ds with
      | nil =>
        cases (Option.some.inj e)
        exact pgs_nil.run pins s σ H _ us Q I r ⟨rfl, q _ sl fun _ _ => rfl⟩
      | cons _ _ => cases e
    | cons e r => cases h
  | .cons t ts, gs, ok, h => by
    cases gs with
    | nil => cases h
    | cons g r =>
      have h' : (notStar g && chkG C t g && chkGs C ts r) = true := h
      simp only [Bool.and_eq_true] at h'
      have e1 : (assignEach (g :: r) X.env).map (·.2) = assign g X.env :: (assignEach r X.env).map (·.2) := by
        have := h'.1.1
        cases g <;> first | rfl | cases this
      refine ⟨fun pins s σ H vs us Q I rr q => ?_⟩
      obtain ⟨F, τ, τ', pvs, sl, ds, e, q⟩ := q
      cases ds with
      | nil => cases e
      | @cons pv v pvs vs d ds =>
        have e' : (t.asg pv τ).bind (ts.asg pvs) = some τ' := e
        cases q1 : t.asg pv τ with
        | none => rw [q1] at e'; cases e'
        | some τ1 =>
          rw [q1] at e'
          refine (pgs_cons (sG t ok h'.1.2) (sGs ts ok h'.2) e1).run pins s σ H _ us Q I rr ⟨v, vs, rfl, F, τ, τ1, pv, sl, d, q1, fun σ1 sl1 k1 => ?_⟩
          refine ⟨F, τ1, τ', pvs, sl1, ds, e', fun σ2 sl2 k2 => q σ2 sl2 fun j hj => ?_⟩
          have hj' : j ∉ t.slots ++ ts.slots := hj
          rw [List.mem_append, not_or] at hj'
          exact (k2 j hj'.2).trans (k1 j hj'.1)
end
end
end TK

set_option maxRecDepth 100000
set_option maxHeartbeats 8000000
namespace TK
open PySem PySem.Spec PyProof.Rows L2
section
variable {X : Cx} {C : SC} {k : Nat} {W : WX}
theorem nobeh {o : CmpOp} {e : Expr} (h : notSet e = true) : behindInMarks o e = false := by
  cases e <;> first | rfl | cases h
theorem lastm {o p : CmpOp} {a b : Expr} (h : notSet b = true) : lastMarks [o, p] [a, b] = false := by
  show behindInMarks p b = false
  exact nobeh h
theorem plainIx {e : Expr} (h : notSlice e = true) : PlainIx e := by
  intro o i
  cases e <;> first | rfl | cases h
theorem attr_whole {e : Expr} (h : notCall e = true) (a : Str) (env : Env) (t : Sem Value) : attributeBase e a env t = t := by
  cases e <;> first | rfl | cases h
theorem plain_isTrue {e : Expr} (h : plainT e = true) (env : Env) : ∀ whole, isTrue e env whole = (do let v ← whole; standAt e.pos; holding [v] (truthy v)) := by
  intro whole
  cases e with
  | UnaryOp o x p => cases o <;> first | (with_unfolding_all rfl) | cases h
  | BoolOp _ _ _ => cases h
  | IfExp _ _ _ _ => cases h
  | Compare _ _ _ _ => cases h
  | _ => with_unfolding_all rfl
theorem folded {e : Expr} (h : notSet e = true) (env : Env) : ∀ x, foldedSetIterable e env x = pure x := by
  intro x
  cases e <;> first | rfl | cases h
theorem tru_lift {F : FS} {H : Hp} {st : Store} {v : PV} {x : V} {P : Bool → Store → Prop} (rs : RS X.K H F st) (d : DV X.K H F v x) (h : truV v st P) : ∃ b, TruV X.K x H b ∧ P b st := by
  unfold truV at h
  split at h
  · cases d; exact ⟨_, rfl, h⟩
  · cases d; exact ⟨_, rfl, h⟩
  · cases d; exact ⟨_, rfl, h⟩
  · cases d with
    | tup h1 ds => exact ⟨_, .inr (.inl ⟨_, h1, rfl⟩), by cases ds <;> exact h⟩
  · cases d with
    | lst f h1 ds => exact ⟨_, .inl ⟨_, .of h1, rfl⟩, by cases ds <;> exact h⟩
  · obtain ⟨xs, e, h⟩ := h
    cases d
    obtain ⟨_, ys, h1, ds⟩ := rs.lst _ _ e
    exact ⟨_, .inl ⟨_, .of h1, rfl⟩, by cases ds <;> exact h⟩
  · exact h.elim
abbrev pfX (X : Cx) (k : Nat) : Str → PSpec → Nat → Prop := HasFn (wdX X) k
abbrev pgX (X : Cx) : Str → PV → Prop := HasGl (wdX X)
/-- the context of a comprehension's block -/
theorem CxOk.blk {vs : List Nat} {scope : Scope} (ok : CxOk X C k W) (hblk0 : blkC C.N C.sc scope (ownOf C.N vs) = true) (s : Shared) (H : Hp) (a : Addr) (cl : List (Str × Addr)) (fp : List Addr) :
    CxOk (X.blk s H scope (compEnvC scope cl a X.env) fp) ⟨C.N, relS scope C.sc, scope⟩ k (fun _ _ _ _ => False) where
  hN := ok.hN
  nd := ok.nd
  hsc := by
    show relS scope X.env.scope = _
    rw [ok.hsc]
  calm := ok.calm
  kindF := by
    have := (blkOk_by hblk0).kind
    exact this
  room := ok.room
  gds := ok.gds
  tk := fun u s' ⟨_, _, _, _, _, _, _, _, _, _, _, _, _, _, _, _, w⟩ => w
  po := PassesOwn.never
  tg := fun x hx => by
    have hx' : locB scope x = true := hx
    unfold locB at hx'
    have key : ∀ kd, kd ≠ NameKind.free → scope.names.lookup x = some kd → (relS scope C.sc).names.lookup x = some kd := fun kd h1 h2 => lookup_relS_keep h1 h2
    split at hx'
    · rename_i e
      have := key _ (by decide) e
      exact ⟨.inl this, .inr this⟩
    · rename_i e
      refine ⟨.inr (key _ (by decide) e), .inl ?_⟩
      show (scope.names.lookup x == some NameKind.cell) = true
      rw [e]; rfl
    · cases hx'
  blt := ok.blt
theorem tyStr_more (ok : CxOk X C k W) {ty : Str} {c : String} (hc : c ∈ ["int", "bool", "str", "tuple", "list"]) (e : ty = Str.ofString c) : X.mg ty = none ∧ ty ≠ ("__name__" : Str) := by
  simp only [List.mem_cons, List.not_mem_nil, or_false] at hc
  subst e
  rcases hc with rfl | rfl | rfl | rfl | rfl <;> exact ⟨ok.blt _ (by decide +kernel), by decide +kernel⟩
theorem needTs_one {pf : Str → PSpec → Nat → Prop} {pg : Str → PV → Prop} {t : T} (h : needTs pf pg (.cons t .nil)) : needT pf pg t := h.1

mutual
theorem asg_length : ∀ {tg : TG} {v : PV} {τ τ1 : Sl}, tg.asg v τ = some τ1 → τ1.length = τ.length
  | .name i, v, τ, τ1, h => by
    cases (Option.some.inj h)
    exact setS_length _ _ _
  | .tup ts, v, τ, τ1, h => by
    cases v with
    | tup xs => exact asgs_length (show ts.asg xs τ = some τ1 from h)
    | _ => cases h
theorem asgs_length : ∀ {tg : TGs} {v : List PV} {τ τ1 : Sl}, tg.asg v τ = some τ1 → τ1.length = τ.length
  | .nil, v, τ, τ1, h => by
    cases v with
    | nil => cases (Option.some.inj h); rfl
    | cons _ _ => cases h
  | .cons t ts, v, τ, τ1, h => by
    cases v with
    | nil => cases h
    | cons x r =>
      have h' : (t.asg x τ).bind (ts.asg r) = some τ1 := h
      cases q : t.asg x τ with
      | none => rw [q] at h'; cases h'
      | some τ2 =>
        rw [q] at h'
        exact (asgs_length (show ts.asg r τ2 = some τ1 from h')).trans (asg_length q)
end
theorem wipe_get (σ : L2.St) (j : Nat) : ∀ vs : List Nat, (L2.wipe σ vs)[j]? = if j ∈ vs then σ[j]?.map (fun _ => none) else σ[j]?
  | [] => by simp [L2.wipe]
  | v :: vs => by
    show ((L2.wipe σ vs).set v none)[j]? = _
    by_cases e : v = j
    · subst e
      by_cases hv : v < (L2.wipe σ vs).length
      · rw [List.getElem?_set_self hv, if_pos List.mem_cons_self]
        rw [L2.wipe_length] at hv
        rw [List.getElem?_eq_getElem hv]; rfl
      · rw [List.getElem?_eq_none (by rw [List.length_set]; omega), if_pos List.mem_cons_self]
        rw [L2.wipe_length] at hv
        rw [List.getElem?_eq_none (by omega)]; rfl
    · rw [List.getElem?_set_ne e, wipe_get σ j vs]
      by_cases hm : j ∈ vs
      · rw [if_pos hm, if_pos (List.mem_cons_of_mem _ hm)]
      · rw [if_neg hm, if_neg (fun z => (List.mem_cons.mp z).elim (fun z => e z.symm) hm)]
theorem wipe_same {σ σ2 : L2.St} {vs : List Nat} (hl : σ2.length = σ.length) (h : ∀ j, j ∉ vs → σ2[j]? = (L2.wipe σ vs)[j]?) : L2.wipe σ2 vs = L2.wipe σ vs := by
  apply List.ext_getElem?
  intro j
  rw [wipe_get, wipe_get]
  by_cases hm : j ∈ vs
  · rw [if_pos hm, if_pos hm]
    by_cases hj : j < σ.length
    · rw [List.getElem?_eq_getElem hj, List.getElem?_eq_getElem (by omega)]; rfl
    · rw [List.getElem?_eq_none (by omega), List.getElem?_eq_none (by omega)]
  · rw [if_neg hm, if_neg hm, h j hm, wipe_get, if_neg hm]
theorem lc_sound {F1 : FS} {H1 : Hp} {st1 : Store} {τ : Sl} {σ : L2.St} {vs : List Nat} {tg : TG} {t : EQ → Sl → Store → (Bool → Store → Prop) → Prop} {e : EQ → Sl → Store → PQ → Prop} {J : It} {xs : List PV} {oks : Store → Prop} {m : Bool} {Q : VK} {Q0 : PQ}
    {tt : TT} {te : TE} (hsl : tg.slots.all (fun i => decide (i ∈ vs)) = true) (rs1 : RS X.K H1 F1 st1) (sl1 : RSl X.K H1 F1 τ σ) (wp : WP X.K J F1 H1 xs oks) (hok : oks st1) (hlen : xs.length ≤ sizeLine)
    (hq : ∀ {ys : List PV} {s : Store}, newList m ys s Q0 → newList m ys s (LQ X.K F1 H1 Q))
    (h : lcL tg (t fun _ _ => False) (e fun _ _ => False) (wipeS τ vs) (fun acc s => newList m acc s Q0) xs st1 [])
    (ht : ∀ σ H P, (∃ F τ st, RS X.K H F st ∧ RSl X.K H F τ σ ∧ t (fun _ _ => False) τ st fun b st' => ∀ F' H', Ext F H F' H' → RS X.K H' F' st' → P b H') → tt σ H P)
    (he : ∀ σ H P, (∃ F τ st, RS X.K H F st ∧ RSl X.K H F τ σ ∧ e (fun _ _ => False) τ st (LQ X.K F H P)) → te σ H P)
    (mt : ∀ {τ st} {P P' : Bool → Store → Prop}, (∀ v s, P v s → P' v s) → t (fun _ _ => False) τ st P → t (fun _ _ => False) τ st P')
    (me : ∀ {τ st} {P P' : PQ}, (∀ v s, P v s → P' v s) → e (fun _ _ => False) τ st P → e (fun _ _ => False) τ st P') :
    ∀ D, H1 D = none → ∃ Wv : Nat → Nat → Hp → Prop, (∃ m, Wv 0 m (upd H1 D (.lst []))) ∧ ∀ i m H, Wv i m H →
      (J.stop i H ∧ Q (.ref D) H) ∨ (J.go i H ∧ ∃ Nx : Hp → Prop, (∀ H', Nx H' → ∃ m', m' < m ∧ Wv (i + 1) m' H') ∧ ∀ x H', J.yld i H x H' → tlG X.K tg x (L2.wipe σ vs) H' fun σ2 H2 => L2.wipe σ2 vs = L2.wipe σ vs ∧ tt σ2 H2 fun b H3 =>
        if b = true then te σ2 H3 fun y H4 => ∃ acc, H4 D = some (.lst acc) ∧ acc.length < sizeLine ∧ Nx (upd H4 D (.lst (acc ++ [y]))) else Nx H3) := by
  intro D hD
  have stD := rs1.no hD
  refine ⟨fun i n H => n = xs.length - i ∧ i ≤ xs.length ∧ ∃ F2 stb acc, Sub st1 stb ∧ stb D = none ∧ Ext F1 H1 F2 H ∧ RS X.K H F2 (up stb D (some (.lst acc))) ∧ acc.length ≤ i ∧ lcL tg (t fun _ _ => False) (e fun _ _ => False) (wipeS τ vs) (fun acc s => newList m acc s Q0) (xs.drop i) stb acc,
    ⟨xs.length, rfl, Nat.zero_le _, F1, st1, [], fun _ _ h => h, stD, .new hD, rs1.putNew hD .nil, Nat.zero_le _, h⟩, ?_⟩
  rintro i n H ⟨rfl, hi, F2, stb, acc, sb, sbD, x2, r2, hl, h2⟩
  have subb : Sub stb (up stb D (some (.lst acc))) := fun a c ha => by
    have n : a ≠ D := fun z => by rw [z, sbD] at ha; cases ha
    rw [up_ne n]; exact ha
  have sub : Sub st1 (up stb D (some (.lst acc))) := fun a c ha => subb a c (sb a c ha)
  by_cases hlt : i < xs.length
  · refine .inr ⟨wp.go i F2 H _ hlt x2 r2 (wp.mono _ _ sub hok), fun H' => ∃ F3 stn acc', Sub st1 stn ∧ stn D = none ∧ Ext F1 H1 F3 H' ∧ RS X.K H' F3 (up stn D (some (.lst acc'))) ∧ acc'.length ≤ i + 1 ∧ lcL tg (t fun _ _ => False) (e fun _ _ => False) (wipeS τ vs) (fun acc s => newList m acc s Q0) (xs.drop (i + 1)) stn acc',
      fun H' ⟨F3, stn, acc', a1, a2, a3, a4, a5, a6⟩ => ⟨xs.length - (i + 1), by omega, rfl, hlt, F3, stn, acc', a1, a2, a3, a4, a5, a6⟩, fun x H' y => ?_⟩
    obtain ⟨x3, r3, v, hv, dv⟩ := wp.yld i F2 H _ x H' hlt x2 r2 (wp.mono _ _ sub hok) y
    have hd : xs.drop i = v :: xs.drop (i + 1) := by
      rw [List.drop_eq_getElem_cons hlt]
      rw [List.getElem?_eq_getElem hlt] at hv
      rw [Option.some.inj hv]
    rw [hd] at h2
    have x13 := x2.trans x3
    cases ea : tg.asg v (wipeS τ vs) with
    | none =>
      have h3 : oP (tg.asg v (wipeS τ vs)) _ := h2
      rw [ea] at h3; exact h3.elim
    | some τ1 =>
      have h3 : oP (tg.asg v (wipeS τ vs)) _ := h2
      rw [ea] at h3
      refine ⟨F2, wipeS τ vs, τ1, v, (sl1.ext x13).wipe vs, dv, ea, fun σ2 sl2 k2 => ⟨?_, ?_⟩⟩
      · refine wipe_same ?_ fun j hj => k2 j fun z => hj (of_decide_eq_true (List.all_eq_true.mp hsl j z))
        have l1 := sl2.1
        have l2 := (sl1.wipe vs).1
        have l3 := L2.wipe_length σ vs
        have l4 : τ1.length = (wipeS τ vs).length := asg_length ea
        omega
      · refine ht _ _ _ ⟨F2, τ1, _, r3, sl2, mt (fun b s hb => ?_) (h3 _ subb)⟩
        obtain ⟨es, hb⟩ := hb
        subst es
        intro F4 H4 x4 r4
        cases b with
        | true =>
          refine he _ _ _ ⟨F4, τ1, _, r4, sl2.ext x4, me (fun y s hy => ?_) hb⟩
          intro F5 H5 y' x5 r5 d5
          have hy' : ∃ stn, Sub st1 stn ∧ stn D = none ∧ s = up stn D (some (.lst acc)) ∧ lcL tg (t fun _ _ => False) (e fun _ _ => False) (wipeS τ vs) (fun acc s => newList m acc s Q0) (xs.drop (i + 1)) stn (acc ++ [y]) := by
            rcases hy with ⟨es, hy⟩ | ⟨p, zs, hp, ey, es, hy⟩
            · exact ⟨stb, sb, sbD, es, hy⟩
            · have pD : p ≠ D := fun z => by rw [z, up_same] at hp; cases hp
              rw [up_ne pD] at hp
              refine ⟨up stb p (some (.lst zs)), fun a c ha => ?_, by rw [up_ne (Ne.symm pD)]; exact sbD, ?_, hy⟩
              · have hb := sb a c ha
                have n : a ≠ p := fun z => by rw [z, hp] at hb; cases hb
                rw [up_ne n]; exact hb
              · rw [es]
                funext b
                by_cases n : b = D
                · subst n; rw [up_ne (Ne.symm pD), up_same, up_same]
                · by_cases n2 : b = p
                  · subst n2; rw [up_same, up_ne n, up_same]
                  · rw [up_ne n2, up_ne n, up_ne n, up_ne n2]
          obtain ⟨stn, sn, snD, es, hzz⟩ := hy'
          subst es
          obtain ⟨nf, ys, hH, ds⟩ := r5.lst D acc up_same
          have ni : ∀ u, H5 D = some u → ¬ Imm u := fun u e => by
            rw [hH] at e; cases e; exact fun z => z
          refine ⟨ys, hH, by rw [← ds.length]; omega, F5, stn, acc ++ [y], sn, snD, ?_, ?_, by rw [List.length_append]; exact Nat.succ_le_succ hl, hzz⟩
          · exact ((x13.trans x4).trans x5).trans (.put nf ni)
          · have := r5.put nf ni (ds.append (.cons d5 .nil))
            have eup : up (up stn D (some (.lst acc))) D (some (.lst (acc ++ [y]))) = up stn D (some (.lst (acc ++ [y]))) := by
              funext b; unfold up; split <;> rfl
            rw [eup] at this
            exact this
        | false => exact ⟨F4, stb, acc, sb, sbD, x13.trans x4, r4, Nat.le_succ_of_le hl, hb⟩
  · have e : i = xs.length := by omega
    subst e
    refine .inl ⟨wp.stop F2 H _ x2 r2 (wp.mono _ _ sub hok), ?_⟩
    rw [List.drop_length] at h2
    have h3 := hq h2
    have stl : up stb D (some (.lst acc)) D = some (.lst acc) := up_same
    have edn : up (up stb D (some (.lst acc))) D Option.none = stb := by
      funext b
      by_cases n : b = D
      · subst n; rw [up_same, sbD]
      · rw [up_ne n, up_ne n]
    cases m with
    | true => exact h3 D sbD F2 H _ x2 r2 (.ref D)
    | false =>
      obtain ⟨x4, r4, d4⟩ := r2.freeze stl
      rw [edn] at r4
      exact h3 _ H _ (x2.trans x4) r4 d4

mutual
theorem sE : ∀ (e : E) {X : Cx} {C : SC} {k : Nat} {W : WX} {x : Expr}, CxOk X C k W → chkE e C x = true → needE (pfX X k) (pgX X) e → PE X x (tl X W (wpE e))
  | .var i, X, C, k, W, x, ok, hc, hn => by
    unfold chkE at hc
    split at hc
    · refine impE (nm_ok ok hc) fun σ H Q q => ?_
      obtain ⟨F, τ, st, rs, sl, h⟩ := q
      unfold wpE at h
      cases e : getS τ i with
      | none => rw [e] at h; exact h.elim
      | some v =>
        rw [e] at h
        obtain ⟨y, e', d⟩ := sl.2 i v e
        exact ⟨y, e', LQ.now h rs d⟩
    · cases hc
  | .fvar i, X, C, k, W, x, ok, hc, hn => by
    unfold chkE at hc
    split at hc
    · refine impE (nm_ok ok hc) fun σ H Q q => ?_
      obtain ⟨F, τ, st, rs, sl, h⟩ := q
      unfold wpE at h
      cases e : getS τ i with
      | none => rw [e] at h; exact h.elim
      | some v =>
        rw [e] at h
        replace h : frzV v st (LQ X.K F H Q) := h
        obtain ⟨y, e', d⟩ := sl.2 i v e
        refine ⟨y, e', ?_⟩
        unfold frzV at h
        split at h
        · rename_i a
          cases q : st a with
          | none =>
            have e2 : lstOf st (.ref a) = none := by simp only [lstOf, q]
            rw [e2] at h; exact h.elim
          | some c =>
            cases c with
            | pool =>
              have e2 : lstOf st (.ref a) = none := by simp only [lstOf, q]
              rw [e2] at h; exact h.elim
            | lst xs =>
              have e2 : lstOf st (.ref a) = some xs := by simp only [lstOf, q]
              rw [e2] at h
              obtain ⟨x1, r1, d1⟩ := rs.freeze q
              cases d
              exact h _ _ _ x1 r1 d1
        · exact LQ.now h rs d
    · cases hc
  | .int n, X, C, k, W, x, ok, hc, hn => by
    unfold chkE at hc
    split at hc
    · have e := of_decide_eq_true hc
      subst e
      refine impE pe_int fun σ H Q q => ?_
      obtain ⟨F, τ, st, rs, sl, h⟩ := q
      exact LQ.now h rs (.int n)
    · cases hc
  | .bl n, X, C, k, W, x, ok, hc, hn => by
    unfold chkE at hc
    split at hc
    · have e := eq_of_beq hc
      subst e
      refine impE pe_bl fun σ H Q q => ?_
      obtain ⟨F, τ, st, rs, sl, h⟩ := q
      exact LQ.now h rs (.bl n)
    · cases hc
  | .non, X, C, k, W, x, ok, hc, hn => by
    unfold chkE at hc
    split at hc
    · refine impE pe_non fun σ H Q q => ?_
      obtain ⟨F, τ, st, rs, sl, h⟩ := q
      exact LQ.now h rs .non
    · cases hc
  | .str n, X, C, k, W, x, ok, hc, hn => by
    unfold chkE at hc
    split at hc
    · have e := of_decide_eq_true hc
      subst e
      refine impE pe_str fun σ H Q q => ?_
      obtain ⟨F, τ, st, rs, sl, h⟩ := q
      exact LQ.now h rs (.str n)
    · cases hc
  | .glob n v, X, C, k, W, x, ok, hc, hn => by
    unfold chkE at hc
    split at hc
    · simp only [Bool.and_eq_true, decide_eq_true_eq] at hc
      obtain ⟨e, hg⟩ := hc
      subst e
      obtain ⟨g1, g2⟩ := ok.gl hg
      obtain ⟨u, y, h1, h2, h3⟩ := hn
      refine impE (pe_glob g1 h1 h2 g2) fun σ H Q q => ?_
      obtain ⟨F, τ, st, rs, sl, h⟩ := q
      exact LQ.now h rs (h3 H F)
    · cases hc
  | .bin o m a b, X, C, k, W, x, ok, hc, hn => by
    unfold chkE at hc
    split at hc
    · simp only [Bool.and_eq_true, decide_eq_true_eq] at hc
      obtain ⟨⟨e, h1⟩, h2⟩ := hc
      subst e
      refine impE (pe_op (bin_ok (m := m)) (sE a ok h1 hn.1) (sE b ok h2 hn.2)) fun σ H Q q => ?_
      obtain ⟨F, τ, st, rs, sl, h⟩ := q
      unfold wpE at h
      refine tl_go (wpE_mono a) .refl rs sl h fun F1 H1 y v st1 e1 rs1 sl1 d1 h1 => ?_
      refine tl_go (wpE_mono b) e1 rs1 sl1 h1 fun F2 H2 z w st2 e2 rs2 sl2 d2 h2 => ?_
      exact ⟨F2, st2, v, w, rs2, d1.ext e2, d2, binV_mono (LQ.ext (e1.trans e2)) h2⟩
    · cases hc
  | .neg a, X, C, k, W, x, ok, hc, hn => by
    unfold chkE at hc
    split at hc
    · refine impE (pe_un un_neg (sE a ok hc hn)) fun σ H Q q => ?_
      obtain ⟨F, τ, st, rs, sl, h⟩ := q
      unfold wpE at h
      refine tl_go (wpE_mono a) .refl rs sl h fun F1 H1 y v st1 e1 rs1 sl1 d1 h1 => ?_
      unfold negV at h1
      split at h1
      · cases d1; exact ⟨_, rfl, h1 F1 H1 _ e1 rs1 (.int _)⟩
      · exact h1.elim
    · cases hc
  | .un f a, X, C, k, W, x, ok, hc, hn => by
    unfold chkE at hc
    split at hc
    · rename_i y hy
      unfold unSh at hy
      split at hy
      · cases hy
        refine impE (pe_revT (sE a ok hc hn)) fun σ H Q q => ?_
        obtain ⟨F, τ, st, rs, sl, h⟩ := q
        unfold wpE at h
        refine tl_go (wpE_mono a) .refl rs sl h fun F1 H1 y v st1 e1 rs1 sl1 d1 h1 => ?_
        cases d1 with
        | tup hs ds => exact ⟨_, _, rfl, hs, fun p hp => h1 F1 _ _ (e1.trans (.new hp)) (rs1.new hp) (.tup (.inl (.inl upd_same)) ((ds.ext (.new hp)).reverse))⟩
        | _ => exact False.elim h1
      · split at hy
        · rename_i hcond
          cases hy
          obtain ⟨rfl, rfl, hg, hst⟩ := hcond
          refine impE (pe_maxD ok.calm ok.room.units (ok.gl hg).1 (ok.blt _ (by decide +kernel)) (sE a ok hc hn) (fun env => star_cons hst)) fun σ H Q q => ?_
          obtain ⟨F, τ, st, rs, sl, h⟩ := q
          unfold wpE at h
          refine tl_go (wpE_mono a) .refl rs sl h fun F1 H1 y v st1 e1 rs1 sl1 d1 h1 => ?_
          have h1 : oP (lstOf st1 v) fun xs => oP (intsOf xs) fun ns => LQ X.K F H Q (.int (maxD0 ns)) st1 := h1
          cases q : lstOf st1 v with
          | none => rw [q] at h1; exact h1.elim
          | some zs =>
            rw [q] at h1
            have h1 : oP (intsOf zs) _ := h1
            cases q2 : intsOf zs with
            | none => rw [q2] at h1; exact h1.elim
            | some bs =>
              rw [q2] at h1
              obtain ⟨b, ys, rfl, h2, hs⟩ := lstOf_ok rs1 q d1
              rw [ints_ok q2 hs] at h2
              exact ⟨_, bs, rfl, rfl, .of h2, h1 F1 H1 _ e1 rs1 (.int _)⟩
        · cases hy
      · cases hy
    · cases hc
  | .not a, X, C, k, W, x, ok, hc, hn => by
    unfold chkE at hc
    split at hc
    · refine impE (pe_not (sE a ok hc hn)) fun σ H Q q => ?_
      obtain ⟨F, τ, st, rs, sl, h⟩ := q
      unfold wpE at h
      refine tl_go (wpE_mono a) .refl rs sl h fun F1 H1 y v st1 e1 rs1 sl1 d1 h1 => ?_
      cases d1 with
      | bl b => exact ⟨_, rfl, h1 F1 H1 _ e1 rs1 (.bl _)⟩
      | _ => exact h1.elim
    · cases hc
  | .cmp o a b, X, C, k, W, x, ok, hc, hn => by
    unfold chkE at hc
    split at hc
    · simp only [Bool.and_eq_true, decide_eq_true_eq] at hc
      obtain ⟨⟨⟨e, h1⟩, h3⟩, h2⟩ := hc
      subst e
      refine impE (pe_cmpR (cmp_ok ok.room.units) (sE a ok h1 hn.1) (sE b ok h2 hn.2) (nobeh h3)) fun σ H Q q => ?_
      obtain ⟨F, τ, st, rs, sl, h⟩ := q
      unfold wpE at h
      refine tl_go (wpE_mono a) .refl rs sl h fun F1 H1 y v st1 e1 rs1 sl1 d1 h1 => ?_
      refine tl_go (wpE_mono b) e1 rs1 sl1 h1 fun F2 H2 z w st2 e2 rs2 sl2 d2 h2 => ?_
      exact ⟨F2, st2, v, w, rs2, d1.ext e2, d2, cmpV_mono (LQ.ext (e1.trans e2)) h2⟩
    · cases hc
  | .chain o o' a b c, X, C, k, W, x, ok, hc, hn => by
    unfold chkE at hc
    split at hc
    · simp only [Bool.and_eq_true, decide_eq_true_eq] at hc
      obtain ⟨⟨⟨⟨⟨e, e'⟩, h1⟩, h2⟩, h4⟩, h3⟩ := hc
      subst e e'
      refine impE (pe_chain (cmp_ok ok.room.units) (cmp_ok ok.room.units) (sE a ok h1 hn.1) (sE b ok h2 hn.2.1) (sE c ok h3 hn.2.2) (lastm h4)) fun σ H Q q => ?_
      obtain ⟨F, τ, st, rs, sl, h⟩ := q
      unfold wpE at h
      refine tl_go (wpE_mono a) .refl rs sl h fun F1 H1 y v st1 e1 rs1 sl1 d1 h1 => ?_
      refine tl_go (wpE_mono b) e1 rs1 sl1 h1 fun F2 H2 z w st2 e2 rs2 sl2 d2 h2 => ?_
      refine ⟨F2, st2, v, w, rs2, d1.ext e2, d2, cmpV_mono (fun r st3 h3 => ?_) h2⟩
      intro F3 H3 u e3 rs3 d3
      have e13 := (e1.trans e2).trans e3
      cases d3 with
      | bl b =>
        refine ⟨b, rfl, ?_⟩
        have h3 : (if b = true then wpE c (LX X W σ F H) τ st3 fun u st4 => cmpV o' w u st4 (LQ X.K F H Q) else LQ X.K F H Q (.bl false) st3) := h3
        cases b with
        | false => exact h3 F3 H3 _ e13 rs3 (.bl _)
        | true =>
          refine tl_go (wpE_mono c) e13 rs3 (sl2.ext e3) h3 fun F4 H4 z4 w4 st4 e4 rs4 sl4 d4 h4 => ?_
          exact ⟨F4, st4, w, w4, rs4, d2.ext (e3.trans e4), d4, cmpV_mono (LQ.ext (e13.trans e4)) h4⟩
      | _ => exact h3.elim
    · cases hc
  | .bools o es, X, C, k, W, x, ok, hc, hn => by
    unfold chkE at hc
    split at hc
    · simp only [Bool.and_eq_true, decide_eq_true_eq] at hc
      obtain ⟨e, h1⟩ := hc
      subst e
      refine impE (sBs es ok h1 hn) fun σ H Q q => ?_
      obtain ⟨F, τ, st, rs, sl, h⟩ := q
      unfold wpE at h
      exact ⟨F, τ, st, rs, sl, h⟩
    · cases hc
  | .ite t a b, X, C, k, W, x, ok, hc, hn => by
    unfold chkE at hc
    split at hc
    · simp only [Bool.and_eq_true] at hc
      obtain ⟨⟨h1, h2⟩, h3⟩ := hc
      refine impE (pe_ifExp (sT t ok h1 hn.1) (sE a ok h2 hn.2.1) (sE b ok h3 hn.2.2)) fun σ H Q q => ?_
      obtain ⟨F, τ, st, rs, sl, h⟩ := q
      unfold wpE at h
      refine tlT_go (wpT_mono t) .refl rs sl h fun F1 H1 c st1 e1 rs1 sl1 h1 => ?_
      cases c with
      | true => exact tl_go (wpE_mono a) e1 rs1 sl1 h1 fun F2 H2 z w st2 e2 rs2 sl2 d2 h2 => h2 F2 H2 z (e1.trans e2) rs2 d2
      | false => exact tl_go (wpE_mono b) e1 rs1 sl1 h1 fun F2 H2 z w st2 e2 rs2 sl2 d2 h2 => h2 F2 H2 z (e1.trans e2) rs2 d2
    · cases hc
  | .tup es, X, C, k, W, x, ok, hc, hn => by
    unfold chkE at hc
    split at hc
    · refine impE (pe_tup (sA es ok hc hn)) fun σ H Q q => ?_
      obtain ⟨F, τ, st, rs, sl, h⟩ := q
      unfold wpE at h
      refine tlA_go (wpEs_mono es) .refl rs sl h fun F1 H1 y v st1 e1 rs1 sl1 d1 h1 => ?_
      exact ⟨by rw [← d1.length]; exact h1.1, newTup_ok (LQ.ext e1 _ _ h1.2) rs1 d1⟩
    · cases hc
  | .lst m es, X, C, k, W, x, ok, hc, hn => by
    unfold chkE at hc
    split at hc
    · refine impE (pe_lst (sA es ok hc hn)) fun σ H Q q => ?_
      obtain ⟨F, τ, st, rs, sl, h⟩ := q
      unfold wpE at h
      refine tlA_go (wpEs_mono es) .refl rs sl h fun F1 H1 y v st1 e1 rs1 sl1 d1 h1 => ?_
      exact ⟨by rw [← d1.length]; exact h1.1, newList_ok (newList_mono (LQ.ext e1) h1.2) rs1 d1⟩
    · cases hc
  | .idx a i, X, C, k, W, x, ok, hc, hn => by
    unfold chkE at hc
    split at hc
    · simp only [Bool.and_eq_true] at hc
      obtain ⟨⟨h1, h2⟩, h3⟩ := hc
      refine impE (pe_ix ix_ok (sE a ok h1 hn.1) (sE i ok h3 hn.2) (plainIx h2)) fun σ H Q q => ?_
      obtain ⟨F, τ, st, rs, sl, h⟩ := q
      unfold wpE at h
      refine tl_go (wpE_mono a) .refl rs sl h fun F1 H1 y v st1 e1 rs1 sl1 d1 h1 => ?_
      refine tl_go (wpE_mono i) e1 rs1 sl1 h1 fun F2 H2 z w st2 e2 rs2 sl2 d2 h2 => ?_
      exact ⟨F2, st2, v, w, rs2, d1.ext e2, d2, idxV_mono (LQ.ext (e1.trans e2)) h2⟩
    · cases hc
  | .slice m a lo hi, X, C, k, W, x, ok, hc, hn => by
    unfold chkE at hc
    split at hc
    · simp only [Bool.and_eq_true] at hc
      obtain ⟨⟨h1, h2⟩, h3⟩ := hc
      refine impE (pe_slice (sl_ok (m := m)) (sE a ok h1 hn.1) (sO lo ok h2 hn.2.1) (sO hi ok h3 hn.2.2)) fun σ H Q q => ?_
      obtain ⟨F, τ, st, rs, sl, h⟩ := q
      unfold wpE at h
      refine tl_go (wpE_mono a) .refl rs sl h fun F1 H1 y v st1 e1 rs1 sl1 d1 h1 => ?_
      refine tlO_go (wpO_mono lo) e1 rs1 sl1 h1 fun F2 H2 l st2 e2 rs2 sl2 h2 => ?_
      refine tlO_go (wpO_mono hi) (e1.trans e2) rs2 sl2 h2 fun F3 H3 u st3 e3 rs3 sl3 h3 => ?_
      exact ⟨F3, st3, v, rs3, d1.ext (e2.trans e3), sliceV_mono (LQ.ext ((e1.trans e2).trans e3)) h3⟩
    · cases hc
  | .call f sp es, X, C, k, W, x, ok, hc, hn => by
    unfold chkE at hc
    split at hc
    · rename_i p xs pos
      simp only [Bool.and_eq_true, decide_eq_true_eq] at hc
      obtain ⟨⟨e, hg⟩, h1⟩ := hc
      subst e
      obtain ⟨g1, g2⟩ := ok.gl hg
      obtain ⟨⟨fa, fd, ps, m1, m2, m3, m4, m5⟩, hn2⟩ := hn
      have ha := sA es ok h1 hn2
      refine ⟨fun pins s σ H Q I q => ?_⟩
      obtain ⟨F, τ, st, rs, sl, h⟩ := q
      unfold wpE at h
      have hA : tlA X W (wpEs es) σ H (fun ys H1 => liftSp X.K X.mg es.len sp ys H1 Q (WE W σ)) := by
        refine tlA_go (wpEs_mono es) .refl rs sl (wpEs_len es h) fun F1 H1 y v st1 e1 rs1 sl1 d1 h1 => ?_
        exact ⟨F1, st1, v, rs1, d1, by rw [← d1.length]; exact h1.1, callS_mono (LE.ext e1) (LQ.ext e1) h1.2⟩
      refine wpAny_Call_Name_kw (ld_glob I g1 m1 ?_ g2)
      cases xs with
      | nil =>
        have hnil : es = .nil := by
          cases es with
          | nil => rfl
          | cons _ _ => cases h1
        subst hnil
        refine PySem.W.callWith_K0 I.kIn m2 (run_g (us := []) (vs := []) m5 ok.gds ok.room m3 (passAt ok.tk σ) I .nil ?_)
        obtain ⟨F1, τ1, st1, rs1, sl1, h1⟩ := hA
        exact h1 F1 H [] .refl rs1 .nil
      | cons x0 xr =>
        have hst : notStar x0 = true := by
          cases es with
          | nil => cases h1
          | cons a as =>
            have h' : (notStar x0 && chkE a C x0 && chkEs as C xr) = true := h1
            simp only [Bool.and_eq_true] at h'
            exact h'.1.1
        have hall := chkEs_star h1 X.env
        rw [star_cons hst, List.all_cons, Bool.and_eq_true] at hall
        refine PySem.W.callWith_K (h₀ := X.base) I.ok.mod.kin m2 (thn (ha.run pos pins s σ H _ I hA) fun us s1 ⟨vs, H1, I1, r, q⟩ => ⟨I1.kIn, ?_⟩) (star_cons hst) (backTo_any hall.2)
        exact run_g m5 ok.gds ok.room m3 (passAt ok.tk σ) I1 r q
    · cases hc
  | .blt f m es, X, C, k, W, x, ok, hc, hn => by
    unfold chkE at hc
    split at hc
    · rename_i p xs pos
      simp only [Bool.and_eq_true, decide_eq_true_eq] at hc
      obtain ⟨⟨⟨e, hg⟩, hne⟩, h1⟩ := hc
      subst e
      obtain ⟨g1, g2⟩ := ok.gl hg
      obtain ⟨b1, b2⟩ := boot_bf f
      have ha := sA es ok h1 hn
      cases xs with
      | nil => cases hne
      | cons x0 xr =>
        have hst : notStar x0 = true := by
          cases es with
          | nil => cases h1
          | cons a as =>
            have h' : (notStar x0 && chkE a C x0 && chkEs as C xr) = true := h1
            simp only [Bool.and_eq_true] at h'
            exact h'.1.1
        have hall := chkEs_star h1 X.env
        rw [star_cons hst, List.all_cons, Bool.and_eq_true] at hall
        have fin : ∀ σ H Q, tl X W (wpE (.blt f m es)) σ H Q → tCB (rC X.K (bltV f m)) (tlA X W (wpEs es)) σ H Q := fun σ H Q q => by
          obtain ⟨F, τ, st, rs, sl, h⟩ := q
          unfold wpE at h
          refine tlA_go (wpEs_mono es) .refl rs sl h fun F1 H1 y v st1 e1 rs1 sl1 d1 h1 => ?_
          exact ⟨F1, st1, v, rs1, d1, bltV_mono (LQ.ext e1) h1⟩
        have hb := blt_ok (X := X) (f := f) (m := m) ok.calm ok.gds ok.room.units
        cases ht : f.isTy with
        | true =>
          have ev : f.val = .type f.id := by unfold BF.val; rw [ht]; rfl
          rw [ev] at hb b1
          exact impE (pe_callTy hb g1 (ok.bn f) b1 ha b2 g2 (star_cons hst) (backTo_any hall.2)) fin
        | false =>
          have ev : f.val = .builtin f.id := by unfold BF.val; rw [ht]; rfl
          rw [ev] at hb b1
          exact impE (pe_callB hb g1 (ok.bn f) b1 ha b2 g2 (star_cons hst) (backTo_any hall.2)) fin
    · cases hc
  | .isi a ty, X, C, k, W, x, ok, hc, hn => by
    unfold chkE at hc
    split at hc
    · simp only [Bool.and_eq_true, decide_eq_true_eq] at hc
      obtain ⟨⟨⟨⟨⟨⟨e, hg⟩, hst⟩, h1⟩, e2⟩, ht⟩, hg2⟩ := hc
      subst e e2
      obtain ⟨g1, g2⟩ := ok.gl hg
      obtain ⟨g3, g4⟩ := ok.gl hg2
      obtain ⟨c, hcm, ec, bc⟩ := tyStr_ok ht
      have m1 : X.mg ("isinstance" : Str) = none := ok.blt _ (by decide +kernel)
      obtain ⟨m2, ne⟩ := tyStr_more ok hcm ec
      refine impE (pe_callB call_isi g1 m1 (by decide +kernel) (pa_cons (sE a ok h1 hn) (pa_cons (pe_bltn g3 m2 bc (v := .ty c) rfl ne g4) pa_nil rfl) (star_cons hst)) (by decide) g2 (star_cons hst) rfl) fun σ H Q q => ?_
      obtain ⟨F, τ, st, rs, sl, h⟩ := q
      unfold wpE at h
      refine tl_go (wpE_mono a) .refl rs sl h fun F1 H1 y v st1 e1 rs1 sl1 d1 h1 => ?_
      cases e : isiV _ v with
      | none => rw [e] at h1; exact h1.elim
      | some b =>
        rw [e] at h1
        obtain ⟨n1, n2, n3⟩ := isi_val hcm ec e
        obtain ⟨t1, t2⟩ := TyX_ok d1 n1 n2
        exact ⟨y, .ty c, _, _, b, rfl, .ty c, t1, by rw [kit_ty (kit_ok t2 hcm), n3], h1 F1 H1 _ e1 rs1 (.bl b)⟩
    · cases hc
  | .meth f o es, X, C, k, W, x, ok, hc, hn => by
    unfold chkE at hc
    split at hc
    · rename_i xs cp
      simp only [Bool.and_eq_true, decide_eq_true_eq] at hc
      obtain ⟨⟨⟨⟨⟨e, hl⟩, hno⟩, h30⟩, h1⟩, h2⟩ := hc
      subst e
      have ho := sE o ok h1 hn.1
      have ha := sA es ok h2 hn.2
      have slot : Slot "list" f.name f.id := by
        cases f
        · exact PySem.F.slot_list_append
        · exact PySem.F.slot_list_extend
        · exact PySem.F.slot_list_pop
        · exact PySem.F.slot_list_index
      have hty : typeOf (.builtin f.id) = pure (.type "method_descriptor") := by
        cases f
        · exact PySem.F.type_list_append
        · exact PySem.F.type_list_extend
        · exact PySem.F.type_list_pop
        · exact PySem.F.type_list_index
      have ty : ∀ {F H st v x}, RS X.K H F st → DV X.K H F v x → isLst st v → tyV X.K "list" x H := fun {F H st v x} rs d h => by
        unfold isLst at h
        cases e : lstOf st v with
        | none => rw [e] at h; exact h.elim
        | some xs =>
          obtain ⟨a, ys, rfl, h1, _⟩ := lstOf_ok rs e d
          exact .inl ⟨rfl, ys, .of h1⟩
      cases xs with
      | nil =>
        have hnil : es = .nil := by
          cases es with
          | nil => rfl
          | cons _ _ => cases h2
        subst hnil
        refine impE (pe_bm0 PySem.F.plainAttrs_list slot hty meth_ok ho (attr_whole hno _ _ _) hl) fun σ H Q q => ?_
        obtain ⟨F, τ, st, rs, sl, h⟩ := q
        unfold wpE at h
        refine tl_go (wpE_mono o) .refl rs sl h fun F1 H1 y v st1 e1 rs1 sl1 d1 h1 => ?_
        have h2 : methV f v [] st1 (LQ X.K F H Q) := h1.2
        exact ⟨ty rs1 d1 h1.1, F1, st1, v, [], rs1, d1, .nil, methV_mono (LQ.ext e1) h2⟩
      | cons x0 xr =>
        have hst : notStar x0 = true := by
          cases es with
          | nil => cases h2
          | cons a as =>
            have h' : (notStar x0 && chkE a C x0 && chkEs as C xr) = true := h2
            simp only [Bool.and_eq_true] at h'
            exact h'.1.1
        have hall := chkEs_star h2 X.env
        have hall' := hall
        rw [star_cons hst, List.all_cons, Bool.and_eq_true] at hall'
        have hfew : ((backTo cp (starEach (x0 :: xr) X.env)).all (fun x => !x.1) && (backToKw cp (keywordEach [] X.env)).all (fun x => x.1.isSome)
            && decide ((x0 :: xr).length + ([] : List Keyword).length + (if ([] : List Keyword).isEmpty then 0 else 1) < 30)) = true := by
          rw [backTo_all hall]
          show (true && true && decide ((x0 :: xr).length + 0 + 0 < 30)) = true
          rw [Bool.true_and, Bool.true_and]
          exact decide_eq_true h30
        refine impE (pe_bm PySem.F.plainAttrs_list slot hty meth_ok ho ha (attr_whole hno _ _ _) hfew hl (star_cons hst) (backTo_any hall'.2)) fun σ H Q q => ?_
        obtain ⟨F, τ, st, rs, sl, h⟩ := q
        unfold wpE at h
        refine tl_go (wpE_mono o) .refl rs sl h fun F1 H1 y v st1 e1 rs1 sl1 d1 h1 => ?_
        refine ⟨ty rs1 d1 h1.1, tlA_go (wpEs_mono es) e1 rs1 sl1 h1.2 fun F2 H2 z w st2 e2 rs2 sl2 d2 h2 => ?_⟩
        exact ⟨F2, st2, v, w, rs2, d1.ext e2, d2, methV_mono (LQ.ext (e1.trans e2)) h2⟩
    · cases hc
  | .comp m vs tg it ts elt, X, C, k, W, x, ok, hc, hn => by
    unfold chkE at hc
    split at hc
    · rename_i x0 g y ifs kz scope pos
      simp only [Bool.and_eq_true, decide_eq_true_eq] at hc
      obtain ⟨⟨⟨⟨⟨⟨⟨⟨⟨hk, hown⟩, hblk⟩, hsl⟩, hset⟩, h1⟩, h2⟩, h3⟩, h4⟩, h5⟩ := hc
      have ek := eq_of_beq hk
      subst ek
      have hb := fun s H a cl fp => ok.blk (vs := vs) (scope := scope) hblk s H a cl fp
      have hbk : BlkOk X.N X.env.scope scope (ownOf C.N vs) := by rw [ok.hN, ok.hsc]; exact blkOk_by hblk
      have := pe_lc (X := X) (elt := x0) (tg := g) (iter := y) (ifs := ifs) (scope := scope) (own := ownOf C.N vs) (pos := pos) (g := tlG X.K tg) (tt := tlT X (fun _ _ _ _ => False) (wpTs .And ts)) (te := tl X (fun _ _ _ _ => False) (wpE elt)) ok.calm (by rw [ok.hN]; exact ok.nd) (sI it ok h1 hn.1) hbk
        (fun s H a cl fp => sG tg (hb s H a cl fp) h2)
        (fun s H a cl fp => sPTs ts (hb s H a cl fp) h3 h4 hn.2.1)
        (fun s H a cl fp => sE elt (hb s H a cl fp) h5 hn.2.2) (folded hset _)
      rw [hown] at this
      refine impE this fun σ H Q q => ?_
      obtain ⟨F, τ, st, rs, sl, h⟩ := q
      unfold wpE at h
      refine tlI_go (wpI_mono it) .refl rs sl h fun F1 H1 J xs oks st1 e1 rs1 sl1 wp hz h6 => ?_
      obtain ⟨h7, h8, h9⟩ := h6
      have hlen : xs.length ≤ sizeLine := by
        cases hr : it.isR with
        | true => exact h7 hr
        | false => exact hz hr
      have hlc := lc_sound (X := X) (tt := tlT X (fun _ _ _ _ => False) (wpTs .And ts)) (te := tl X (fun _ _ _ _ => False) (wpE elt)) hsl rs1 sl1 wp h8 hlen (newList_mono (LQ.ext e1)) h9
        (fun σ H P q => let ⟨F, τ, st, rs, sl, h⟩ := q; ⟨F, τ, st, rs, sl, wpTs_mono ts (fun _ _ z => z.elim) (fun _ _ h => h) h⟩)
        (fun σ H P q => let ⟨F, τ, st, rs, sl, h⟩ := q; ⟨F, τ, st, rs, sl, wpE_mono elt (fun _ _ z => z.elim) (fun _ _ h => h) h⟩) (fun hp h => wpTs_mono ts (fun _ _ z => z) hp h) (fun hp h => wpE_mono elt (fun _ _ z => z) hp h)
      exact hlc
    · cases hc
theorem sA : ∀ (e : Es) {X : Cx} {C : SC} {k : Nat} {W : WX} {x : List Expr}, CxOk X C k W → chkEs e C x = true → needEs (pfX X k) (pgX X) e → PA X x (tlA X W (wpEs e))
  | .nil, X, C, k, W, xs, ok, hc, hn => by
    cases xs with
    | nil =>
      refine impA pa_nil fun σ H Q q => ?_
      obtain ⟨F, τ, st, rs, sl, h⟩ := q
      exact h F H [] .refl rs .nil
    | cons _ _ => cases hc
  | .cons a as, X, C, k, W, xs, ok, hc, hn => by
    cases xs with
    | nil => cases hc
    | cons x r =>
      have h' : (notStar x && chkE a C x && chkEs as C r) = true := hc
      simp only [Bool.and_eq_true] at h'
      refine impA (pa_cons (sE a ok h'.1.2 hn.1) (sA as ok h'.2 hn.2) (star_cons h'.1.1)) fun σ H Q q => ?_
      obtain ⟨F, τ, st, rs, sl, h⟩ := q
      unfold wpEs at h
      refine tl_go (wpE_mono a) .refl rs sl h fun F1 H1 y v st1 e1 rs1 sl1 d1 h1 => ?_
      refine tlA_go (wpEs_mono as) e1 rs1 sl1 h1 fun F2 H2 z w st2 e2 rs2 sl2 d2 h2 => ?_
      exact h2 F2 H2 _ (e1.trans e2) rs2 (.cons (d1.ext e2) d2)
theorem sBs : ∀ (e : Es) {o : BoolOp} {X : Cx} {C : SC} {k : Nat} {W : WX} {x : List Expr} {pos : Pos}, CxOk X C k W → chkEs e C x = true → needEs (pfX X k) (pgX X) e → PE X (.BoolOp o x pos) (tl X W (wpBs o e))
  | .nil, o, X, C, k, W, xs, pos, ok, hc, hn => ⟨fun pins s σ H Q I ⟨F, τ, st, rs, sl, h⟩ => h.elim⟩
  | .cons a .nil, o, X, C, k, W, xs, pos, ok, hc, hn => by
    cases xs with
    | nil => cases hc
    | cons x r =>
      have h' : (notStar x && chkE a C x && chkEs .nil C r) = true := hc
      simp only [Bool.and_eq_true] at h'
      cases r with
      | cons _ _ => cases h'.2
      | nil =>
        refine impE (pe_one (sE a ok h'.1.2 hn.1)) fun σ H Q q => ?_
        obtain ⟨F, τ, st, rs, sl, h⟩ := q
        unfold wpBs at h
        exact ⟨F, τ, st, rs, sl, h⟩
  | .cons a (.cons b bs), o, X, C, k, W, xs, pos, ok, hc, hn => by
    cases xs with
    | nil => cases hc
    | cons x r =>
      have h' : (notStar x && chkE a C x && chkEs (.cons b bs) C r) = true := hc
      simp only [Bool.and_eq_true] at h'
      cases r with
      | nil => cases h'.2
      | cons y r =>
        have ih := sBs (.cons b bs) (o := o) (pos := pos) ok h'.2 hn.2
        cases o with
        | And =>
          refine impE (pe_and (sE a ok h'.1.2 hn.1) ih) fun σ H Q q => ?_
          obtain ⟨F, τ, st, rs, sl, h⟩ := q
          unfold wpBs at h
          dsimp only at h
          refine tl_go (wpE_mono a) .refl rs sl h fun F1 H1 y v st1 e1 rs1 sl1 d1 h1 => ?_
          cases d1 with
          | bl c =>
            refine ⟨c, rfl, ?_⟩
            cases c with
            | true => exact tl_go (wpBs_mono (.cons b bs)) e1 rs1 sl1 h1 fun F2 H2 z w st2 e2 rs2 sl2 d2 h2 => h2 F2 H2 z (e1.trans e2) rs2 d2
            | false => exact h1 F1 H1 _ e1 rs1 (.bl _)
          | _ => exact h1.elim
        | Or =>
          refine impE (pe_or (sE a ok h'.1.2 hn.1) ih) fun σ H Q q => ?_
          obtain ⟨F, τ, st, rs, sl, h⟩ := q
          unfold wpBs at h
          dsimp only at h
          refine tl_go (wpE_mono a) .refl rs sl h fun F1 H1 y v st1 e1 rs1 sl1 d1 h1 => ?_
          cases d1 with
          | bl c =>
            refine ⟨c, rfl, ?_⟩
            cases c with
            | false => exact tl_go (wpBs_mono (.cons b bs)) e1 rs1 sl1 h1 fun F2 H2 z w st2 e2 rs2 sl2 d2 h2 => h2 F2 H2 z (e1.trans e2) rs2 d2
            | true => exact h1 F1 H1 _ e1 rs1 (.bl _)
          | _ => exact h1.elim
theorem sO : ∀ (e : OE) {X : Cx} {C : SC} {k : Nat} {W : WX} {x : Option Expr}, CxOk X C k W → chkO e C x = true → needO (pfX X k) (pgX X) e → PO X x (tlO X W (wpO e))
  | .no, X, C, k, W, x, ok, hc, hn => by
    cases x with
    | some _ => cases hc
    | none =>
      refine impO po_none fun σ H Q q => ?_
      obtain ⟨F, τ, st, rs, sl, h⟩ := q
      exact h F H .refl rs
  | .yes a, X, C, k, W, x, ok, hc, hn => by
    cases x with
    | none => cases hc
    | some x =>
      refine impO (po_some (sE a ok hc hn)) fun σ H Q q => ?_
      obtain ⟨F, τ, st, rs, sl, h⟩ := q
      unfold wpO at h
      refine tl_go (wpE_mono a) .refl rs sl h fun F1 H1 y v st1 e1 rs1 sl1 d1 h1 => ?_
      cases d1 with
      | int i => exact ⟨i, rfl, h1 F1 H1 e1 rs1⟩
      | _ => exact h1.elim
theorem sT : ∀ (e : T) {X : Cx} {C : SC} {k : Nat} {W : WX} {x : Expr}, CxOk X C k W → chkT e C x = true → needT (pfX X k) (pgX X) e → PT X x (tlT X W (wpT e))
  | .val a, X, C, k, W, x, ok, hc, hn => by
    have hc' : (plainT x && chkE a C x) = true := hc
    simp only [Bool.and_eq_true] at hc'
    refine impT (pt_truth (sE a ok hc'.2 hn) (plain_isTrue hc'.1 _)) fun σ H Q q => ?_
    obtain ⟨F, τ, st, rs, sl, h⟩ := q
    unfold wpT at h
    refine tl_go (wpE_mono a) .refl rs sl h fun F1 H1 y v st1 e1 rs1 sl1 d1 h1 => ?_
    obtain ⟨b, h2, h3⟩ := tru_lift rs1 d1 h1
    exact ⟨b, h2, h3 F1 H1 e1 rs1⟩
  | .cmp o a b, X, C, k, W, x, ok, hc, hn => by
    unfold chkT at hc
    split at hc
    · simp only [Bool.and_eq_true, decide_eq_true_eq] at hc
      obtain ⟨⟨⟨e, h1⟩, h3⟩, h2⟩ := hc
      subst e
      refine impT (pt_cmpR (cmp_ok ok.room.units) (sE a ok h1 hn.1) (sE b ok h2 hn.2) (nobeh h3)) fun σ H Q q => ?_
      obtain ⟨F, τ, st, rs, sl, h⟩ := q
      unfold wpT at h
      refine tl_go (wpE_mono a) .refl rs sl h fun F1 H1 y v st1 e1 rs1 sl1 d1 h1 => ?_
      refine tl_go (wpE_mono b) e1 rs1 sl1 h1 fun F2 H2 z w st2 e2 rs2 sl2 d2 h2 => ?_
      refine ⟨F2, st2, v, w, rs2, d1.ext e2, d2, cmpV_mono (fun r st3 h3 => ?_) h2⟩
      intro F3 H3 u e3 rs3 d3
      cases d3 with
      | bl c => exact ⟨c, rfl, h3 F3 H3 ((e1.trans e2).trans e3) rs3⟩
      | _ => exact h3.elim
    · cases hc
  | .chain o o' a b c, X, C, k, W, x, ok, hc, hn => by
    unfold chkT at hc
    split at hc
    · simp only [Bool.and_eq_true, decide_eq_true_eq] at hc
      obtain ⟨⟨⟨⟨⟨e, e'⟩, h1⟩, h2⟩, h4⟩, h3⟩ := hc
      subst e e'
      refine impT (pt_chain (cmp_ok ok.room.units) (cmp_ok ok.room.units) (sE a ok h1 hn.1) (sE b ok h2 hn.2.1) (sE c ok h3 hn.2.2) (lastm h4)) fun σ H Q q => ?_
      obtain ⟨F, τ, st, rs, sl, h⟩ := q
      unfold wpT at h
      refine tl_go (wpE_mono a) .refl rs sl h fun F1 H1 y v st1 e1 rs1 sl1 d1 h1 => ?_
      refine tl_go (wpE_mono b) e1 rs1 sl1 h1 fun F2 H2 z w st2 e2 rs2 sl2 d2 h2 => ?_
      refine ⟨F2, st2, v, w, rs2, d1.ext e2, d2, cmpV_mono (fun r st3 h3 => ?_) h2⟩
      intro F3 H3 u e3 rs3 d3
      have e13 := (e1.trans e2).trans e3
      cases d3 with
      | bl b =>
        refine ⟨b, rfl, ?_⟩
        cases b with
        | false => exact ⟨false, rfl, h3 F3 H3 e13 rs3⟩
        | true =>
          refine tl_go (wpE_mono c) e13 rs3 (sl2.ext e3) h3 fun F4 H4 z4 w4 st4 e4 rs4 sl4 d4 h4 => ?_
          refine ⟨F4, st4, w, w4, rs4, d2.ext (e3.trans e4), d4, cmpV_mono (fun r st5 h5 => ?_) h4⟩
          intro F5 H5 u5 e5 rs5 d5
          cases d5 with
          | bl c => exact ⟨c, rfl, h5 F5 H5 ((e13.trans e4).trans e5) rs5⟩
          | _ => exact h5.elim
      | _ => exact h3.elim
    · cases hc
  | .not t, X, C, k, W, x, ok, hc, hn => by
    unfold chkT at hc
    split at hc
    · refine impT (pt_not (sT t ok hc hn)) fun σ H Q q => ?_
      obtain ⟨F, τ, st, rs, sl, h⟩ := q
      unfold wpT at h
      exact tlT_go (wpT_mono t) .refl rs sl h fun F1 H1 c st1 e1 rs1 sl1 h1 => h1 F1 H1 e1 rs1
    · cases hc
  | .bools o ts, X, C, k, W, x, ok, hc, hn => by
    unfold chkT at hc
    split at hc
    · rename_i o' xs pos
      simp only [Bool.and_eq_true, decide_eq_true_eq] at hc
      obtain ⟨⟨e, hne⟩, h1⟩ := hc
      subst e
      have hne' : xs ≠ [] := by
        intro z; subst z; cases hne
      refine impT (PW.pt (sTs ts (o := o) ok h1 hne' hn)) fun σ H Q q => ?_
      obtain ⟨F, τ, st, rs, sl, h⟩ := q
      unfold wpT at h
      exact ⟨F, τ, st, rs, sl, h⟩
    · cases hc
  | .ite _ _ _, X, C, k, W, x, ok, hc, hn => by
    unfold chkT at hc
    cases hc
theorem sTs : ∀ (e : Ts) {o : BoolOp} {X : Cx} {C : SC} {k : Nat} {W : WX} {x : List Expr} {pos : Pos}, CxOk X C k W → chkTs e C x = true → x ≠ [] → needTs (pfX X k) (pgX X) e → PW X (.BoolOp o x pos) (tlT X W (wpTs o e))
  | .nil, o, X, C, k, W, xs, pos, ok, hc, hne, hn => by
    cases xs with
    | nil => exact absurd rfl hne
    | cons _ _ => cases hc
  | .cons t .nil, o, X, C, k, W, xs, pos, ok, hc, hne, hn => by
    cases xs with
    | nil => cases hc
    | cons x r =>
      have h' : (chkT t C x && chkTs .nil C r) = true := hc
      simp only [Bool.and_eq_true] at h'
      cases r with
      | cons _ _ => cases h'.2
      | nil =>
        cases o with
        | And =>
          refine impW (pw_and1 (sT t ok h'.1 hn.1)) fun σ H Q q => ?_
          obtain ⟨F, τ, st, rs, sl, h⟩ := q
          unfold wpTs at h
          refine tlT_go (wpT_mono t) .refl rs sl h fun F1 H1 c st1 e1 rs1 sl1 h1 => ?_
          cases c with
          | true => exact h1 F1 H1 e1 rs1
          | false => exact h1 F1 H1 e1 rs1
        | Or =>
          refine impW (pw_or1 (sT t ok h'.1 hn.1)) fun σ H Q q => ?_
          obtain ⟨F, τ, st, rs, sl, h⟩ := q
          unfold wpTs at h
          refine tlT_go (wpT_mono t) .refl rs sl h fun F1 H1 c st1 e1 rs1 sl1 h1 => ?_
          cases c with
          | true => exact h1 F1 H1 e1 rs1
          | false => exact h1 F1 H1 e1 rs1
  | .cons t (.cons u us), o, X, C, k, W, xs, pos, ok, hc, hne, hn => by
    cases xs with
    | nil => cases hc
    | cons x r =>
      have h' : (chkT t C x && chkTs (.cons u us) C r) = true := hc
      simp only [Bool.and_eq_true] at h'
      cases r with
      | nil => cases h'.2
      | cons y r =>
        have ih := sTs (.cons u us) (o := o) (pos := pos) ok h'.2 (fun z => nomatch z) hn.2
        cases o with
        | And =>
          refine impW (pw_and (sT t ok h'.1 hn.1) ih) fun σ H Q q => ?_
          obtain ⟨F, τ, st, rs, sl, h⟩ := q
          have h : wpT t (LX X W σ F H) τ st fun k st1 => if k = true then wpTs .And (.cons u us) (LX X W σ F H) τ st1 _ else _ := h
          refine tlT_go (wpT_mono t) .refl rs sl h fun F1 H1 c st1 e1 rs1 sl1 h1 => ?_
          cases c with
          | true => exact tlT_go (wpTs_mono (.cons u us)) e1 rs1 sl1 h1 fun F2 H2 c st2 e2 rs2 sl2 h2 => h2 F2 H2 (e1.trans e2) rs2
          | false => exact h1 F1 H1 e1 rs1
        | Or =>
          refine impW (pw_or (sT t ok h'.1 hn.1) ih) fun σ H Q q => ?_
          obtain ⟨F, τ, st, rs, sl, h⟩ := q
          have h : wpT t (LX X W σ F H) τ st fun k st1 => if k = true then _ else wpTs .Or (.cons u us) (LX X W σ F H) τ st1 _ := h
          refine tlT_go (wpT_mono t) .refl rs sl h fun F1 H1 c st1 e1 rs1 sl1 h1 => ?_
          cases c with
          | false => exact tlT_go (wpTs_mono (.cons u us)) e1 rs1 sl1 h1 fun F2 H2 c st2 e2 rs2 sl2 h2 => h2 F2 H2 (e1.trans e2) rs2
          | true => exact h1 F1 H1 e1 rs1
theorem sI : ∀ (e : I) {X : Cx} {C : SC} {k : Nat} {W : WX} {g x : Expr}, CxOk X C k W → chkI e C g x = true → needI (pfX X k) (pgX X) e → PI X g x (tlI X W e.isR (wpI e))
  | .val a, X, C, k, W, g, x, ok, hc, hn => by
    refine ⟨fun pins s σ H R I q => ?_⟩
    obtain ⟨F, τ, st, rs, sl, h⟩ := q
    unfold wpI at h
    refine thn ((sE a ok hc hn).run pins s σ H (fun x H1 => ∃ b ys, x = .ref b ∧ ((SqL X.K H1 b ys ∧ (ys.length ≤ sizeLine → R (Itl X.K b) H1)) ∨ (SqT X.K H1 b ys ∧ (ys.length ≤ sizeLine → R (Itt X.K b) H1)))) I ?_) fun v s1 ⟨y, H1, I1, r1, q1⟩ => ?_
    · refine tl_go (wpE_mono a) .refl rs sl h fun F1 H1 y v st1 e1 rs1 sl1 d1 h1 => ?_
      unfold itV at h1
      split at h1
      · cases d1 with
        | tup hq ds => exact ⟨_, _, rfl, .inr ⟨hq, fun hz => h1 F1 H1 _ e1 rs1 (wp_tup hq ds) fun _ => Nat.le_trans (Nat.le_of_eq ds.length) hz⟩⟩
      · cases d1 with
        | lst f hq ds => exact ⟨_, _, rfl, .inl ⟨.of hq, fun hz => h1 F1 H1 _ e1 rs1 (wp_list f hq ds) fun _ => Nat.le_trans (Nat.le_of_eq ds.length) hz⟩⟩
      · rename_i a'
        cases e : lstOf st1 (.ref a') with
        | none => rw [e] at h1; exact h1.elim
        | some zs =>
          rw [e] at h1
          obtain ⟨b, ys, rfl, hq, ds⟩ := lstOf_ok rs1 e d1
          cases d1
          exact ⟨_, _, rfl, .inl ⟨.of hq, fun hz => h1 F1 H1 _ e1 rs1 (wp_ref zs) fun _ => Nat.le_trans (Nat.le_of_eq ds.length) hz⟩⟩
      · exact h1.elim
    · obtain ⟨b, ys, rfl, q⟩ := q1
      cases r1
      rcases q with ⟨hq, q⟩ | ⟨hq, q⟩
      · obtain ⟨_, _, _, hz⟩ := I1.list hq
        exact iter_l I1 hq (q hz)
      · obtain ⟨_, _, _, hz⟩ := I1.tuple hq
        exact iter_t I1 hq (q hz)
  | .range1 a, X, C, k, W, g, x, ok, hc, hn => by
    unfold chkI at hc
    split at hc
    · simp only [Bool.and_eq_true, decide_eq_true_eq] at hc
      obtain ⟨⟨⟨e, hg⟩, hst⟩, h1⟩ := hc
      subst e
      refine impI (pi_range1 (ok.gl hg).1 (ok.blt _ (by decide +kernel)) (pa_cons (sE a ok h1 hn) pa_nil (star_cons hst)) (star_cons hst)) fun σ H R q => ?_
      obtain ⟨F, τ, st, rs, sl, h⟩ := q
      unfold wpI at h
      refine tl_go (wpE_mono a) .refl rs sl h fun F1 H1 y v st1 e1 rs1 sl1 d1 h1 => ?_
      cases d1 with
      | int j => exact ⟨j, rfl, h1.1.1, h1.1.2, h1.2 F1 H1 _ e1 rs1 (wp_rng 0 _) (fun z => nomatch z)⟩
      | _ => exact h1.elim
    · cases hc
  | .range2 a b, X, C, k, W, g, x, ok, hc, hn => by
    unfold chkI at hc
    split at hc
    · simp only [Bool.and_eq_true, decide_eq_true_eq] at hc
      obtain ⟨⟨⟨⟨⟨e, hg⟩, hst⟩, h1⟩, hst2⟩, h2⟩ := hc
      subst e
      have hs2 : starEach [_, _] X.env = [(false, eval _ X.env), (false, eval _ X.env)] := (star_cons hst).trans (congrArg _ (star_cons hst2))
      refine impI (pi_range2 (ok.gl hg).1 (ok.blt _ (by decide +kernel)) (pa_cons (sE a ok h1 hn.1) (pa_cons (sE b ok h2 hn.2) pa_nil (star_cons hst2)) (star_cons hst)) hs2 (star_cons hst2)) fun σ H R q => ?_
      obtain ⟨F, τ, st, rs, sl, h⟩ := q
      unfold wpI at h
      refine tl_go (wpE_mono a) .refl rs sl h fun F1 H1 y v st1 e1 rs1 sl1 d1 h1 => ?_
      refine tl_go (wpE_mono b) e1 rs1 sl1 h1 fun F2 H2 z w st2 e2 rs2 sl2 d2 h2 => ?_
      cases d1 with
      | int i =>
        cases d2 with
        | int j => exact ⟨i, j, rfl, ⟨h2.1.1, h2.1.2, h2.2.1.1, h2.2.1.2⟩, h2.2.2 F2 H2 _ (e1.trans e2) rs2 (wp_rng i _) (fun z => nomatch z)⟩
        | _ => exact h2.elim
      | _ => exact h2.elim
    · cases hc
  | .enum a, X, C, k, W, g, x, ok, hc, hn => by
    unfold chkI at hc
    split at hc
    · simp only [Bool.and_eq_true, decide_eq_true_eq] at hc
      obtain ⟨⟨⟨e, hg⟩, hst⟩, h1⟩ := hc
      subst e
      refine impI (pi_enumA (ok.gl hg).1 (ok.blt _ (by decide +kernel)) (pa_cons (sE a ok h1 hn) pa_nil (star_cons hst)) (star_cons hst)) fun σ H R q => ?_
      obtain ⟨F, τ, st, rs, sl, h⟩ := q
      unfold wpI at h
      refine tl_go (wpE_mono a) .refl rs sl h fun F1 H1 y v st1 e1 rs1 sl1 d1 h1 => ?_
      unfold itV at h1
      split at h1
      · cases d1 with
        | tup hq ds => exact ⟨_, _, rfl, .inr ⟨hq, h1 F1 H1 _ e1 rs1 (wp_enumT hq ds) (fun z => nomatch z)⟩⟩
      · cases d1 with
        | lst f hq ds => exact ⟨_, _, rfl, .inl ⟨.of hq, h1 F1 H1 _ e1 rs1 (wp_enumL f hq ds) (fun z => nomatch z)⟩⟩
      · rename_i a'
        cases e : lstOf st1 (.ref a') with
        | none => rw [e] at h1; exact h1.elim
        | some zs =>
          rw [e] at h1
          obtain ⟨b, ys, rfl, hq, ds⟩ := lstOf_ok rs1 e d1
          cases d1
          exact ⟨_, _, rfl, .inl ⟨.of hq, h1 F1 H1 _ e1 rs1 (wp_enumR zs) (fun z => nomatch z)⟩⟩
      · exact h1.elim
    · cases hc
  | .zip a b, X, C, k, W, g, x, ok, hc, hn => by
    unfold chkI at hc
    split at hc
    · simp only [Bool.and_eq_true, decide_eq_true_eq] at hc
      obtain ⟨⟨⟨⟨⟨e, hg⟩, hst⟩, h1⟩, hst2⟩, h2⟩ := hc
      subst e
      have hs2 : starEach [_, _] X.env = [(false, eval _ X.env), (false, eval _ X.env)] := (star_cons hst).trans (congrArg _ (star_cons hst2))
      refine impI (RZ.pi_zipA (ok.gl hg).1 (ok.blt _ (by decide +kernel)) (pa_cons (sE a ok h1 hn.1) (pa_cons (sE b ok h2 hn.2) pa_nil (star_cons hst2)) (star_cons hst)) (star_cons hst) (by rw [star_cons hst2]; rfl)) fun σ H R q => ?_
      obtain ⟨F, τ, st, rs, sl, h⟩ := q
      unfold wpI at h
      refine tl_go (wpE_mono a) .refl rs sl h fun F1 H1 y v st1 e1 rs1 sl1 d1 h1 => ?_
      refine tl_go (wpE_mono b) e1 rs1 sl1 h1 fun F2 H2 z w st2 e2 rs2 sl2 d2 h2 => ?_
      unfold zipV at h2
      split at h2
      · cases d1 with
        | tup hq ds =>
          cases d2 with
          | tup hq' ds' =>
            have := sqText e2 hq
            exact ⟨_, _, _, _, rfl, .inr ⟨this, hq', h2 F2 H2 _ (e1.trans e2) rs2 (wp_zipT this (ds.ext e2) hq' ds') (fun z => nomatch z)⟩⟩
      · cases d1 with
        | lst f hq ds =>
          cases d2 with
          | lst f' hq' ds' =>
            have := e2.kp _ _ hq (.inl f)
            exact ⟨_, _, _, _, rfl, .inl ⟨.of this, .of hq', h2 F2 H2 _ (e1.trans e2) rs2 (wp_zipL (e2.le _ f) this (ds.ext e2) f' hq' ds') (fun z => nomatch z)⟩⟩
      · exact h2.elim
    · cases hc
theorem sPTs : ∀ (e : Ts) {X : Cx} {C : SC} {k : Nat} {W : WX} {x : List Expr}, CxOk X C k W → chkTs e C x = true → x.length ≤ 1 → needTs (pfX X k) (pgX X) e → PTs X x (tlT X W (wpTs .And e))
  | .nil, X, C, k, W, xs, ok, hc, hl, hn => by
    cases xs with
    | cons _ _ => cases hc
    | nil =>
      refine impTs pts_nil fun σ H Q q => ?_
      obtain ⟨F, τ, st, rs, sl, h⟩ := q
      exact h F H .refl rs
  | .cons t .nil, X, C, k, W, xs, ok, hc, hl, hn => by
    cases xs with
    | nil => cases hc
    | cons x r =>
      have h' : (chkT t C x && chkTs .nil C r) = true := hc
      simp only [Bool.and_eq_true] at h'
      cases r with
      | cons _ _ => cases h'.2
      | nil =>
        refine impTs (pts_one (sT t ok h'.1 hn.1)) fun σ H Q q => ?_
        obtain ⟨F, τ, st, rs, sl, h⟩ := q
        unfold wpTs at h
        refine tlT_go (wpT_mono t) .refl rs sl h fun F1 H1 c st1 e1 rs1 sl1 h1 => ?_
        cases c with
        | true => exact h1 F1 H1 e1 rs1
        | false => exact h1 F1 H1 e1 rs1
  | .cons t (.cons u us), X, C, k, W, xs, ok, hc, hl, hn => by
    cases xs with
    | nil => cases hc
    | cons x r =>
      have h' : (chkT t C x && chkTs (.cons u us) C r) = true := hc
      simp only [Bool.and_eq_true] at h'
      cases r with
      | nil => cases h'.2
      | cons y r => exact absurd hl (by simp)
end
end
end TK

set_option maxRecDepth 100000
set_option maxHeartbeats 8000000
namespace TK
open PySem PySem.Spec PyProof.Rows L2
/-! ### statements -/
def PD (X : Cx) (W : WX) (D : Ends) (F : FS) (H : Hp) : PEnds where
  nx := fun τ' st' => ∀ F' H' σ', Ext F H F' H' → RS X.K H' F' st' → RSl X.K H' F' τ' σ' → D.nx σ' H'
  rt := LQ X.K F H D.rt
  bk := fun τ' st' => ∀ F' H' σ', Ext F H F' H' → RS X.K H' F' st' → RSl X.K H' F' τ' σ' → D.bk σ' H'
  ct := fun τ' st' => ∀ F' H' σ', Ext F H F' H' → RS X.K H' F' st' → RSl X.K H' F' τ' σ' → D.ct σ' H'
  ex := fun e τ' st' => ∀ F' H' σ' cls d, Ext F H F' H' → RS X.K H' F' st' → RSl X.K H' F' τ' σ' → ExRep X.K X.mg H' F' e cls d → W cls d σ' H'
theorem PD.ext {X : Cx} {W : WX} {D : Ends} {F F1 : FS} {H H1 : Hp} (x : Ext F H F1 H1) : (PD X W D F H).Le (PD X W D F1 H1) :=
  ⟨fun _ _ h F' H' σ' e => h F' H' σ' (x.trans e), fun _ _ h F' H' y e => h F' H' y (x.trans e), fun _ _ h F' H' σ' e => h F' H' σ' (x.trans e), fun _ _ h F' H' σ' e => h F' H' σ' (x.trans e), fun _ _ _ h F' H' σ' c d e => h F' H' σ' c d (x.trans e)⟩
theorem PD.lx {X : Cx} {W : WX} {D : Ends} {F : FS} {H : Hp} {τ : Sl} {σ : L2.St} (sl : RSl X.K H F τ σ) : ∀ e s, (PD X W D F H).ex e τ s → LX X W σ F H e s :=
  fun e s h F' H' c d x r q => h F' H' σ c d x r (sl.ext x) q
def tls (X : Cx) (W : WX) (w : PEnds → Sl → Store → Prop) : TS := fun D σ H => ∃ F τ st, RS X.K H F st ∧ RSl X.K H F τ σ ∧ w (PD X W D F H) τ st
section
variable {X : Cx} {C : SC} {k : Nat} {W : WX}
theorem notComp_swaps {e : Expr} (h : notComp e = true) (t : Option Expr) (n : Nat) (env : Env) : swapsWith e t n env = pure false := by
  cases e <;> first | rfl | cases h
theorem noswap {g e : Expr} {env : Env} (h : (notTup g || notTup e) = true) : swappedStores [g] e env = pure none := by
  rcases Bool.or_eq_true_iff.mp h with h | h
  · cases g <;> first | rfl | cases h
  · cases e with
    | Tuple _ _ _ => cases h
    | _ =>
      unfold swappedStores
      split
      · rename_i e1
        split at e1 <;> first | (rename_i hh; cases hh; done) | cases e1
      · rfl
theorem chkG_star {tg : TG} {g : Expr} (h : chkG C tg g = true) : notStar g = true := by
  cases g with
  | Starred _ _ => cases tg <;> cases h
  | _ => rfl
theorem assign_one {g : Expr} {env : Env} (h : notStar g = true) : (assignEach [g] env).map (·.2) = [assign g env] := by
  cases g <;> first | rfl | cases h
theorem aug_ok {o : Operator} : PIp X o (rB X.K (augV o)) := by
  intro pins s σ H x y vv uu Q I rx ry ⟨F, st, v, w, rs, dv, dw, h⟩
  unfold augV at h
  split at h
  · cases dv; cases dw
    exact iop_add pins s σ H _ _ _ _ Q I rx ry ⟨_, _, rfl, rfl, h.now rs (.int _)⟩
  · cases dv; cases dw
    exact iop_sub pins s σ H _ _ _ _ Q I rx ry ⟨_, _, rfl, rfl, h.now rs (.int _)⟩
  · exact h.elim
/-- an expression, then a target -/
theorem sS_asg {tg : TG} {a : E} {D : Ends} {σ : L2.St} {H : Hp} (q : tls X W (wpS (.asg tg a)) D σ H) : tAsg (tl X W (wpE a)) (tlG X.K tg) D σ H := by
  obtain ⟨F, τ, st, rs, sl, h⟩ := q
  unfold wpS at h
  refine tl_go (wpE_mono a) .refl rs sl (wpE_mono a (PD.lx sl) (fun _ _ h => h) h) fun F1 H1 y v st1 e1 rs1 sl1 d1 h1 => ?_
  cases e : tg.asg v τ with
  | none => rw [e] at h1; exact h1.elim
  | some τ' =>
    rw [e] at h1
    exact ⟨F1, τ, τ', v, sl1, d1, e, fun σ' sl' _ => h1 F1 H1 σ' e1 rs1 sl'⟩
mutual
theorem sS : ∀ (s : S) {X : Cx} {C : SC} {k : Nat} {W : WX} {x : Stmt}, CxOk X C k W → chkS s C x = true → needS (pfX X k) (pgX X) s → PS X x (tls X W (wpS s))
  | .asg tg a, X, C, k, W, x, ok, hc, hn => by
    unfold chkS at hc
    split at hc
    · simp only [Bool.and_eq_true] at hc
      obtain ⟨⟨⟨h1, h2⟩, h3⟩, h4⟩ := hc
      exact impS (ps_asg (sE a ok h4 hn) (sG tg ok h1) (notComp_swaps h2 _ _ _) (noswap h3) (assign_one (chkG_star h1))) fun D σ H q => sS_asg q
    · cases hc
  | .asgLc i a, X, C, k, W, x, ok, hc, hn => by
    unfold chkS at hc
    split at hc
    · rename_i y py elt gs scope pos spos
      simp only [Bool.and_eq_true, decide_eq_true_eq] at hc
      obtain ⟨⟨⟨⟨⟨g1, g2⟩, g3⟩, g4⟩, g5⟩, g6⟩ := hc
      cases a with
      | comp m vs tg it ts elt' =>
        unfold chkE at g6
        split at g6
        · rename_i x0 g y ifs kz scope' pos' e6
          cases e6
          simp only [Bool.and_eq_true, decide_eq_true_eq] at g6
          obtain ⟨⟨⟨⟨⟨⟨⟨⟨⟨hk, hown⟩, hblk⟩, hsl⟩, hset⟩, h1⟩, h2⟩, h3⟩, h4⟩, h5⟩ := g6
          have ek := eq_of_beq hk
          subst ek
          have hb := fun s H a cl fp => ok.blk (vs := vs) (scope := scope) hblk s H a cl fp
          have hbk : BlkOk X.N X.env.scope scope (ownOf C.N vs) := by rw [ok.hN, ok.hsc]; exact blkOk_by hblk
          have hsw := sw_true (elt := elt) (gs := [⟨g, y, ifs, 0⟩]) (pos := pos) (py := py) (l := spos.line) (env := X.env) (by rw [ok.hsc]; have := ok.kindF; exact this) (by rw [ok.hsc]; exact g2) g3 (scope := scope) (by simpa using g4)
          have := ps_setLc (X := X) (i := i) (py := py) (elt := elt) (tg := g) (iter := y) (ifs := ifs) (scope := scope) (own := ownOf C.N vs) (pos := pos) (spos := spos) (g := tlG X.K tg) (tt := tlT X (fun _ _ _ _ => False) (wpTs .And ts)) (te := tl X (fun _ _ _ _ => False) (wpE elt'))
            ok.calm (by rw [ok.hN]; exact ok.nd) (by rw [ok.hN]; exact g1) (by rw [ok.hsc]; exact g2) hsw (sI it ok h1 hn.1) hbk
            (fun s H a cl fp => sG tg (hb s H a cl fp) h2)
            (fun s H a cl fp => sPTs ts (hb s H a cl fp) h3 h4 hn.2.1)
            (fun s H a cl fp => sE elt' (hb s H a cl fp) h5 hn.2.2) (folded hset _)
          rw [hown] at this
          refine impS this fun D σ H q => ?_
          obtain ⟨F, τ, st, rs, sl, h⟩ := q
          unfold wpS at h
          have h := wpE_mono (.comp m vs tg it ts elt') (PD.lx sl) (fun _ _ h => h) h
          unfold wpE at h
          refine tlI_go (wpI_mono it) .refl rs sl h fun F1 H1 J xs oks st1 e1 rs1 sl1 wp hz h6 => ?_
          obtain ⟨h7, h8, h9⟩ := h6
          have hlen : xs.length ≤ sizeLine := by
            cases hr : it.isR with
            | true => exact h7 hr
            | false => exact hz hr
          have hlc := lc_sound (X := X) (Q := fun x H1 => gName i x σ H1 D.nx) (tt := tlT X (fun _ _ _ _ => False) (wpTs .And ts)) (te := tl X (fun _ _ _ _ => False) (wpE elt')) hsl rs1 sl1 wp h8 hlen
            (fun {ys s} h => newList_mono (fun v s h2 => (fun F2 H2 y x2 r2 d2 => h2 F2 H2 _ (e1.trans x2) r2 ((sl1.ext x2).set d2 i) : LQ X.K F1 H1 (fun x H1 => gName i x σ H1 D.nx) v s)) h) h9
            (fun σ H P q => let ⟨F, τ, st, rs, sl, h⟩ := q; ⟨F, τ, st, rs, sl, wpTs_mono ts (fun _ _ z => z.elim) (fun _ _ h => h) h⟩)
            (fun σ H P q => let ⟨F, τ, st, rs, sl, h⟩ := q; ⟨F, τ, st, rs, sl, wpE_mono elt' (fun _ _ z => z.elim) (fun _ _ h => h) h⟩) (fun hp h => wpTs_mono ts (fun _ _ z => z) hp h) (fun hp h => wpE_mono elt' (fun _ _ z => z) hp h)
          exact hlc
        · cases g6
      | _ => cases g5
    · cases hc
  | .setIx o i a, X, C, k, W, x, ok, hc, hn => by
    unfold chkS at hc
    split at hc
    · rename_i y z ps e ps'
      simp only [Bool.and_eq_true] at hc
      obtain ⟨⟨⟨h1, h2⟩, h3⟩, h4⟩ := hc
      have hz : ∀ v, assign (.Subscript y z ps) X.env v = (do
          let ov ← holding [v] (eval y X.env)
          let iv ← holding [v, ov] (eval z X.env)
          standAt ps
          holding [v, ov, iv] (setItem ov iv v)
          release [v, ov, iv] []) := by
        intro v
        cases z <;> first | rfl | cases h1
      have hs : swapsWithSole [.Subscript y z ps] e ps'.line X.env = pure false := by
        show swapsWith e (some (.Subscript y z ps)) ps'.line X.env = pure false
        cases e <;> rfl
      refine impS (ps_asg (sE a ok h4 hn.2.2) (pg_sub (sE o ok h2 hn.1) (sE i ok h3 hn.2.1) set_ok hz) hs rfl rfl) fun D σ H q => ?_
      obtain ⟨F, τ, st, rs, sl, h⟩ := q
      unfold wpS at h
      refine tl_go (wpE_mono a) .refl rs sl (wpE_mono a (PD.lx sl) (fun _ _ h => h) h) fun F1 H1 y v st1 e1 rs1 sl1 d1 h1 => ?_
      refine tl_go (wpE_mono o) e1 rs1 sl1 (wpE_mono o (PD.lx sl) (fun _ _ h => h) h1) fun F2 H2 y2 v2 st2 e2 rs2 sl2 d2 h2 => ?_
      refine tl_go (wpE_mono i) (e1.trans e2) rs2 sl2 (wpE_mono i (PD.lx sl) (fun _ _ h => h) h2) fun F3 H3 y3 v3 st3 e3 rs3 sl3 d3 h3 => ?_
      refine ⟨F3, st3, v2, v3, v, rs3, d2.ext e3, d3, d1.ext (e2.trans e3), setIxV_mono (fun s4 h4 F4 H4 e4 rs4 => ?_) h3⟩
      exact h4 F4 H4 σ (((e1.trans e2).trans e3).trans e4) rs4 (sl3.ext e4)
    · cases hc
  | .aug i o a, X, C, k, W, x, ok, hc, hn => by
    unfold chkS at hc
    split at hc
    · simp only [Bool.and_eq_true, decide_eq_true_eq] at hc
      obtain ⟨⟨⟨h1, h2⟩, h3⟩, h4⟩ := hc
      subst h3
      obtain ⟨l1, l2⟩ := ok.tg _ h2
      refine impS (ps_aug (i := i) (by rw [ok.hN]; exact ok.nd) (by rw [ok.hN]; exact h1) (by rw [ok.hsc]; exact l1) (sE a ok h4 hn) aug_ok (by rw [ok.hsc]; exact l2)) fun D σ H q => ?_
      obtain ⟨F, τ, st, rs, sl, h⟩ := q
      unfold wpS at h
      cases e : getS τ i with
      | none => rw [e] at h; exact h.elim
      | some v =>
        rw [e] at h
        obtain ⟨y, e', d⟩ := sl.2 i v e
        refine ⟨y, e', tl_go (wpE_mono a) .refl rs sl (wpE_mono a (PD.lx sl) (fun _ _ h => h) h) fun F1 H1 y1 v1 st1 e1 rs1 sl1 d1 h1 => ?_⟩
        refine ⟨F1, st1, v, v1, rs1, d.ext e1, d1, augV_mono (fun z s2 h2 F2 H2 y2 e2 rs2 d2 => ?_) h1⟩
        exact h2 F2 H2 _ (e1.trans e2) rs2 ((sl1.ext e2).set d2 i)
    · cases hc
  | .expr a, X, C, k, W, x, ok, hc, hn => by
    unfold chkS at hc
    split at hc
    · simp only [Bool.and_eq_true] at hc
      refine impS (ps_expr (sE a ok hc.2 hn) (notComp_swaps hc.1 _ _ _)) fun D σ H q => ?_
      obtain ⟨F, τ, st, rs, sl, h⟩ := q
      unfold wpS at h
      exact tl_go (wpE_mono a) .refl rs sl (wpE_mono a (PD.lx sl) (fun _ _ h => h) h) fun F1 H1 y1 v1 st1 e1 rs1 sl1 d1 h1 => h1 F1 H1 σ e1 rs1 sl1
    · cases hc
  | .ret a, X, C, k, W, x, ok, hc, hn => by
    unfold chkS at hc
    split at hc
    · refine impS (ps_ret (sE a ok hc hn)) fun D σ H q => ?_
      obtain ⟨F, τ, st, rs, sl, h⟩ := q
      unfold wpS at h
      exact ⟨F, τ, st, rs, sl, wpE_mono a (PD.lx sl) (fun _ _ h => h) h⟩
    · cases hc
  | .retN, X, C, k, W, x, ok, hc, hn => by
    unfold chkS at hc
    split at hc
    · refine impS ps_retN fun D σ H q => ?_
      obtain ⟨F, τ, st, rs, sl, h⟩ := q
      exact h F H _ .refl rs .non
    · cases hc
  | .ite t a b, X, C, k, W, x, ok, hc, hn => by
    unfold chkS at hc
    split at hc
    · simp only [Bool.and_eq_true] at hc
      obtain ⟨⟨h1, h2⟩, h3⟩ := hc
      refine impS (ps_if (sT t ok h1 hn.1) (sSs a ok h2 hn.2.1) (sSs b ok h3 hn.2.2)) fun D σ H q => ?_
      obtain ⟨F, τ, st, rs, sl, h⟩ := q
      unfold wpS at h
      refine tlT_go (wpT_mono t) .refl rs sl (wpT_mono t (PD.lx sl) (fun _ _ h => h) h) fun F1 H1 c st1 e1 rs1 sl1 h1 => ?_
      cases c with
      | true => exact ⟨F1, τ, st1, rs1, sl1, wpSs_mono a (PD.ext e1) h1⟩
      | false => exact ⟨F1, τ, st1, rs1, sl1, wpSs_mono b (PD.ext e1) h1⟩
    · cases hc
  | .loop tg it b, X, C, k, W, x, ok, hc, hn => by
    unfold chkS at hc
    split at hc
    · simp only [Bool.and_eq_true] at hc
      obtain ⟨⟨⟨h1, h2⟩, h3⟩, h4⟩ := hc
      refine impS (ps_for ok.po ok.calm (sI it ok h3 hn.1) (sG tg ok h1) (sSs b ok h4 hn.2) (folded h2 _)) fun D σ H q => ?_
      obtain ⟨F, τ, st, rs, sl, h⟩ := q
      unfold wpS at h
      refine tlI_go (wpI_mono it) .refl rs sl (wpI_mono it (PD.lx sl) (fun _ _ _ h => h) h) fun F1 H1 J xs oks st1 e1 rs1 sl1 wp hz h6 => ?_
      refine ⟨fun i m σ H2 => m = xs.length - i ∧ i ≤ xs.length ∧ ∃ F2 τ2 st2, Ext F1 H1 F2 H2 ∧ RS X.K H2 F2 st2 ∧ RSl X.K H2 F2 τ2 σ ∧ forL tg (wpSs b) oks (xs.drop i) (PD X W D F H) τ2 st2,
        ⟨xs.length, rfl, Nat.zero_le _, F1, τ, st1, .refl, rs1, sl1, h6⟩, ?_⟩
      rintro i m σ2 H2 ⟨rfl, hi, F2, τ2, st2, x2, r2, sl2, hf⟩
      by_cases hlt : i < xs.length
      · have hd : xs.drop i = xs[i] :: xs.drop (i + 1) := List.drop_eq_getElem_cons hlt
        rw [hd] at hf
        have hf' : oks st2 ∧ oP (tg.asg xs[i] τ2) fun τ1 => wpSs b { PD X W D F H with nx := forL tg (wpSs b) oks (xs.drop (i + 1)) (PD X W D F H), ct := forL tg (wpSs b) oks (xs.drop (i + 1)) (PD X W D F H), bk := (PD X W D F H).nx } τ1 st2 := hf
        refine .inr ⟨wp.go i F2 H2 _ hlt x2 r2 hf'.1, fun σ' H' => ∃ F3 τ3 st3, Ext F1 H1 F3 H' ∧ RS X.K H' F3 st3 ∧ RSl X.K H' F3 τ3 σ' ∧ forL tg (wpSs b) oks (xs.drop (i + 1)) (PD X W D F H) τ3 st3,
          fun σ' H' ⟨F3, τ3, st3, a1, a2, a3, a4⟩ => ⟨xs.length - (i + 1), by omega, rfl, hlt, F3, τ3, st3, a1, a2, a3, a4⟩, fun x H' y => ?_⟩
        obtain ⟨x3, r3, v, hv, dv⟩ := wp.yld i F2 H2 _ x H' hlt x2 r2 hf'.1 y
        rw [List.getElem?_eq_getElem hlt] at hv
        cases (Option.some.inj hv)
        have h8 := hf'.2
        cases ea : tg.asg xs[i] τ2 with
        | none => rw [ea] at h8; exact h8.elim
        | some τ3 =>
          rw [ea] at h8
          refine ⟨F2, τ2, τ3, _, sl2.ext x3, dv, ea, fun σ3 sl3 _ => ⟨F2, τ3, st2, r3, sl3, wpSs_mono b ?_ h8⟩⟩
          have x13 := x2.trans x3
          have le := PD.ext (X := X) (W := W) (D := D) (e1.trans x13)
          exact ⟨fun τ' s' h F' H'' σ' x4 r4 sl4 => ⟨F', τ', s', x13.trans x4, r4, sl4, h⟩, le.rt, le.nx, fun τ' s' h F' H'' σ' x4 r4 sl4 => ⟨F', τ', s', x13.trans x4, r4, sl4, h⟩, le.ex⟩
      · have e : i = xs.length := by omega
        subst e
        rw [List.drop_length] at hf
        exact .inl ⟨wp.stop F2 H2 _ x2 r2 hf.1, hf.2 F2 H2 σ2 (e1.trans x2) r2 sl2⟩
    · cases hc
  | .while t b, X, C, k, W, x, ok, hc, hn => by
    unfold chkS at hc
    split at hc
    · simp only [Bool.and_eq_true] at hc
      refine impS (ps_while ok.po (sT t ok hc.1 hn.1) (sSs b ok hc.2 hn.2)) fun D σ H q => ?_
      obtain ⟨F, τ, st, rs, sl, h⟩ := q
      unfold wpS at h
      obtain ⟨Wv, ⟨n0, w0⟩, h⟩ := h
      refine ⟨fun n σ2 H2 => ∃ F2 τ2 st2, Ext F H F2 H2 ∧ RS X.K H2 F2 st2 ∧ RSl X.K H2 F2 τ2 σ2 ∧ Wv n τ2 st2, ⟨n0, F, τ, st, .refl, rs, sl, w0⟩, ?_⟩
      rintro n σ2 H2 ⟨F2, τ2, st2, x2, r2, sl2, w2⟩
      have h2 := h n τ2 st2 w2
      refine ⟨F2, τ2, st2, r2, sl2, wpT_mono t (fun e s h => PD.lx sl2 e s ((PD.ext x2).ex _ _ _ h)) (fun c s hcs => ?_) h2⟩
      intro F3 H3 x3 r3
      have x13 := x2.trans x3
      have le := PD.ext (X := X) (W := W) (D := D) x13
      cases c with
      | true =>
        refine ⟨fun σ' H' => ∃ m, m < n ∧ ∃ F4 τ4 st4, Ext F H F4 H' ∧ RS X.K H' F4 st4 ∧ RSl X.K H' F4 τ4 σ' ∧ Wv m τ4 st4, fun σ' H' ⟨m, hm, q⟩ => ⟨m, hm, q⟩, F3, τ2, s, r3, sl2.ext x3, wpSs_mono b ?_ hcs⟩
        exact ⟨fun τ' s' ⟨m, hm, hw⟩ F' H'' σ' x4 r4 sl4 => ⟨m, hm, F', τ', s', x13.trans x4, r4, sl4, hw⟩, le.rt, le.nx, fun τ' s' ⟨m, hm, hw⟩ F' H'' σ' x4 r4 sl4 => ⟨m, hm, F', τ', s', x13.trans x4, r4, sl4, hw⟩, le.ex⟩
      | false => exact hcs F3 H3 σ2 x13 r3 (sl2.ext x3)
    · cases hc
  | .pass, X, C, k, W, x, ok, hc, hn => by
    unfold chkS at hc
    split at hc
    · refine impS ps_pass fun D σ H q => ?_
      obtain ⟨F, τ, st, rs, sl, h⟩ := q
      exact h F H σ .refl rs sl
    · cases hc
  | .brk, X, C, k, W, x, ok, hc, hn => by
    unfold chkS at hc
    split at hc
    · refine impS ps_break fun D σ H q => ?_
      obtain ⟨F, τ, st, rs, sl, h⟩ := q
      exact h F H σ .refl rs sl
    · cases hc
  | .cont, X, C, k, W, x, ok, hc, hn => by
    unfold chkS at hc
    split at hc
    · refine impS ps_continue fun D σ H q => ?_
      obtain ⟨F, τ, st, rs, sl, h⟩ := q
      exact h F H σ .refl rs sl
    · cases hc
  | .never, X, C, k, W, x, ok, hc, hn => by
    refine impS ps_never fun D σ H q => ?_
    obtain ⟨F, τ, st, rs, sl, h⟩ := q
    exact h
theorem sSs : ∀ (s : Ss) {X : Cx} {C : SC} {k : Nat} {W : WX} {x : List Stmt}, CxOk X C k W → chkSs s C x = true → needSs (pfX X k) (pgX X) s → PSs X x (tls X W (wpSs s))
  | .nil, X, C, k, W, xs, ok, hc, hn => by
    cases xs with
    | cons _ _ => cases hc
    | nil =>
      refine impSs pss_nil fun D σ H q => ?_
      obtain ⟨F, τ, st, rs, sl, h⟩ := q
      exact h F H σ .refl rs sl
  | .cons s ss, X, C, k, W, xs, ok, hc, hn => by
    cases xs with
    | nil => cases hc
    | cons x r =>
      have h' : (chkS s C x && chkSs ss C r) = true := hc
      simp only [Bool.and_eq_true] at h'
      refine impSs (pss_cons (sS s ok h'.1 hn.1) (sSs ss ok h'.2 hn.2)) fun D σ H q => ?_
      obtain ⟨F, τ, st, rs, sl, h⟩ := q
      unfold wpSs at h
      refine ⟨F, τ, st, rs, sl, wpS_mono s ?_ h⟩
      exact ⟨fun τ' s' h F' H' σ' e r sl => ⟨F', τ', s', r, sl, wpSs_mono ss (PD.ext e) h⟩, fun _ _ h => h, fun _ _ h => h, fun _ _ h => h, fun _ _ _ h => h⟩
end
end
end TK

set_option maxRecDepth 100000
set_option maxHeartbeats 4000000
namespace TK
open PySem PySem.Spec PyProof.Rows L2
/-! ### a def by its body -/
theorem getS_some : ∀ {τ : Sl} {i : Nat} {v : PV}, getS τ i = some v → τ[i]? = some (some v)
  | [], _, _, h => by cases h
  | _ :: _, 0, _, h => by
    have h' : _ = some _ := h
    rw [List.getElem?_cons_zero]; exact congrArg some h'
  | _ :: r, i + 1, v, h => by
    rw [List.getElem?_cons_succ]
    exact getS_some (τ := r) h
theorem start_init {K : PySem.W.Frag} {H : Hp} {F : FS} {N : List Str} {pvs : List PV} {vs : List V} (d : DVs K H F pvs vs) : RSl K H F (initS N.length pvs) (L2.start N vs) := by
  have hl := d.length
  refine ⟨by unfold initS L2.start; simp only [List.length_append, List.length_map, List.length_replicate]; omega, fun i v e => ?_⟩
  have hi : (initS N.length pvs)[i]? = some (some v) := getS_some e
  unfold initS at hi
  by_cases h : i < pvs.length
  · rw [List.getElem?_append_left (by simpa using h), List.getElem?_map] at hi
    cases e2 : pvs[i]? with
    | none => rw [e2] at hi; cases hi
    | some w =>
      rw [e2] at hi; cases hi
      obtain ⟨y, e3, dy⟩ := d.get e2
      refine ⟨y, ?_, dy⟩
      unfold L2.start
      rw [List.getElem?_append_left (by simpa [← hl] using h), List.getElem?_map, e3]; rfl
  · rw [List.getElem?_append_right (by simpa using h), List.getElem?_replicate] at hi
    split at hi <;> cases hi
theorem fnG_of {P : Program} {w : World} {K : PySem.W.Frag} {mg : Str → Option Value} {base : Heap} {k n : Nat} {f : Addr} {fd : FuncData} {x qual : Str} {st : Stmt} {N ps : List Str} {sp : PSpec} {body : Ss}
    (F : L2.Fun K x qual st f fd) (S : FnScope N ps (defScope st)) (hbl : ∀ x ∈ bltNames, mg x = none) (hpn : ps.length = n)
    (hc : chkSs body ⟨N, defScope st, defScope st⟩ (defBody st) = true) (hn : needSs (HasFn ⟨P, w, K, mg, base⟩ k) (HasGl ⟨P, w, K, mg, base⟩) body)
    (hs : ∀ vs s Q X, vs.length = n → sp vs s Q X → wpFn N.length body vs s Q X) : FnG P w K mg base (k + 1) f fd ps (liftSp K mg n sp) := by
  obtain ⟨oc, od, kV, doc, pm, an, cdv, ct, osl, rfl, lk, hcd⟩ := F.ex
  refine ⟨fun vs H Q E ⟨_, _, _, _, _, h, _⟩ => h.trans hpn.symm, fun A outer s H args us vs Q E hg hr e0 hb r hsp => ?_⟩
  obtain ⟨F0, s0, pvs, rs, dvs, hl, Q0, X0, hsp0, hQ0, hX0⟩ := hsp
  have hl' : vs.length = ps.length := hl.trans hpn.symm
  have KX : K.In s.heap := e0.mod.kin.keeps fun b o e => (e0.bs b o e).1
  have lim : s.heap.NoLimit := e0.mod.nolimit.keeps fun b o e => (e0.bs b o e).1
  have hkind : ∀ y ∈ ps.zip us, (defScope st).names.lookup y.1 = some .local ∨ ((defScope st).names.lookup y.1 = some .cell ∧ ((cellsFrom (s.heap.objs.size + 1) (defScope st).names []).lookup y.1).isSome = true) := fun ⟨n, v⟩ hy => by
    rcases S.par n (List.of_mem_zip hy).1 with q | q
    · exact .inl q
    · exact .inr ⟨q, PySem.W.cellsFrom_some _ _ _ (.inl q)⟩
  refine codeAny_call_function hr.depth (KX _ _ lk) rfl S.co S.gen rfl (PySem.W.codeRec_of KX hcd) (hb _ _ _ _ ?_)
  refine wpAny_newFunctionEnv_cells S.kind hkind fun env he s1 x => ?_
  subst he
  refine ⟨lim.keeps x.toInCall.keep, codeAny_func ?_⟩
  have hroom := hr.deeper (envOfC qual (defScope st) s.heap.objs.size f cdv)
  have ok : CxOk (cxOf (L2.CX P w) P w K mg base N qual (defScope st) f cdv A outer s H E) ⟨N, defScope st, defScope st⟩ k (fun cls d _ H => E cls d H) :=
    { hN := rfl, nd := S.nd, hsc := rfl, calm := rfl, kindF := S.kind, room := hroom, gds := hg, tk := takes_of rfl rfl rfl rfl, po := passes_of rfl, blt := hbl
      tg := fun y hy => by
        unfold locB at hy
        refine ⟨?_, .inl rfl⟩
        split at hy
        · exact .inl ‹_›
        · exact .inr ‹_›
        · cases hy }
  have ht := sSs body ok hc hn
  have hq : tls (cxOf (L2.CX P w) P w K mg base N qual (defScope st) f cdv A outer s H E) (fun cls d _ H => E cls d H) (wpSs body) { nx := fun _ H' => Q .non H', rt := Q } (L2.start N vs) H := by
    have hw := hs pvs s0 Q0 X0 (dvs.length.trans hl) hsp0
    unfold wpFn at hw
    refine ⟨F0, initS N.length pvs, s0, rs, start_init dvs, wpSs_mono body ⟨?_, ?_, ?_, ?_, ?_⟩ hw⟩
    · rintro τ' s' ⟨s2, sub, h⟩ F' H' σ' ex r' _
      exact hQ0 _ _ h F' H' _ ex (r'.less sub) .non
    · rintro v s' ⟨s2, sub, h⟩ F' H' y ex r' d'
      exact hQ0 _ _ h F' H' y ex (r'.less sub) d'
    · exact fun _ _ h => h.elim
    · exact fun _ _ h => h.elim
    · rintro e τ' s' ⟨s2, sub, h⟩ F' H' σ' cls d ex r' _ rep
      exact hX0 _ _ h F' H' cls d ex (r'.less sub) rep
  have I : Inv (cxOf (L2.CX P w) P w K mg base N qual (defScope st) f cdv A outer s H E) [] (L2.start N vs) H s1 := inv_start S hr.hd e0 hl' r x
  refine wpAny_mono (ht.run [] s1 (L2.start N vs) H _ I hq) (fun fl s' hs => ?_) fun e s' hs => hs
  have fin : ∀ {σ' : L2.St} {H' : Hp} {v : V} {u : Value}, Inv (cxOf (L2.CX P w) P w K mg base N qual (defScope st) f cdv A outer s H E) [] σ' H' s' → RelV v u → Q v H' → CE outer P w H s Q u s' :=
    fun {σ' H' v u} J rv q => ⟨v, H', J.os, J.bare, J.base, J.hok, rv, q⟩
  cases fl with
  | ret u =>
    obtain ⟨v, σ', H', J, rv, q⟩ := hs
    exact fin J rv q
  | next =>
    obtain ⟨σ', H', J, q⟩ := hs
    exact fin (v := V.non) (u := Value.none) J rfl q
  | brk =>
    obtain ⟨_, _, _, q⟩ := hs
    exact False.elim q
  | cont =>
    obtain ⟨_, _, _, q⟩ := hs
    exact False.elim q
/-- every parameter is given by position -/
theorem hasFn_of {P : Program} {w : World} {K : PySem.W.Frag} {mg : Str → Option Value} {base : Heap} {k n : Nat} {f : Addr} {fd : FuncData} {x : Str} {st : Stmt} {N ps : List Str} {sp : PSpec} {body : Ss}
    (F : L2.Fun K x x st f fd) (hm : mg x = some (.ref f)) (b : Binds K fd ps []) (S : FnScope N ps (defScope st)) (hbl : ∀ x ∈ bltNames, mg x = none) (hpn : ps.length = n)
    (hc : chkSs body ⟨N, defScope st, defScope st⟩ (defBody st) = true) (hn : needSs (HasFn ⟨P, w, K, mg, base⟩ k) (HasGl ⟨P, w, K, mg, base⟩) body)
    (hs : ∀ vs s Q X, vs.length = n → sp vs s Q X → wpFn N.length body vs s Q X) : HasFn ⟨P, w, K, mg, base⟩ (k + 1) x sp n :=
  ⟨f, fd, ps, hm, F.kp, b, hpn, fnG_of F S hbl hpn hc hn hs⟩
theorem HasGl.int {Γ : Wd} {x : Str} {n : Int} {t : Tok} (h : Γ.mg x = some (.int n t)) : HasGl Γ x (.int n) := ⟨_, .int n, h, ⟨t, rfl⟩, fun _ _ => .int n⟩
theorem HasGl.str {Γ : Wd} {x : Str} {n : Str} {t : Tok} (h : Γ.mg x = some (.str n t)) : HasGl Γ x (.str n) := ⟨_, .str n, h, ⟨t, rfl⟩, fun _ _ => .str n⟩

theorem HasGl.tup {Γ : Wd} {x : Str} {a : Addr} {xs : List PV} {ys : List V} {o : Obj} {its : Array Value} {n : Nat} (h : Γ.mg x = some (.ref a)) (hk : Γ.K.lookup a = some o) (hc : o.cls = .type "tuple") (hd : o.data = .seq its n) (hz : its.size ≤ sizeLine) (hv : Vals ys its.toList)
    (hx : ∀ H F, DVs Γ.K H F xs ys) : HasGl Γ x (.tup xs) := ⟨_, .ref a, h, rfl, fun H F => .tup (.inr ⟨o, its, n, hk, hc, hd, hz, hv⟩) (hx H F)⟩
/-- a tuple of two numbers, ZERO for one -/
theorem HasGl.two {Γ : Wd} {x : Str} {a : Addr} {i j : Int} {od : Option Addr} {t u : Tok} {n : Nat} {sl : Array (Option Value)} (h : Γ.mg x = some (.ref a)) (hk : Γ.K.lookup a = some ⟨.type "tuple", od, .seq #[.int i t, .int j u] n, sl⟩) :
    HasGl Γ x (.tup [.int i, .int j]) :=
  .tup (ys := [.int i, .int j]) h hk rfl rfl (show 2 ≤ sizeLine by decide) (.cons ⟨_, rfl⟩ (.cons ⟨_, rfl⟩ .nil)) fun _ _ => .cons (.int i) (.cons (.int j) .nil)

/-! ### the law's own head -/
/-- a law's promise: a short script, and it answers True -/
def lawSp : PSpec := fun vs st Q _ => ∃ ns : List Int, vs = [.scr ns] ∧ ns.length ≤ 63 ∧ ∀ s, Q (.bl true) s
theorem scr_of {K : PySem.W.Frag} {H : Hp} {a : Addr} {ys : List V} (hO : Only H) (h : SqL K H a ys) : ScrL K H a ys := by
  rcases h with (h | h) | h
  · rcases hO a with z | ⟨o, xs, z⟩
    · rw [z] at h; cases h
    · rw [z] at h; cases h
  · exact .inl h
  · exact .inr (.inr h)
theorem lawcall {P : Program} {w : World} {K : PySem.W.Frag} {mg mb : Str → Option Value} {k : Nat} {fa a : Addr} {fd : FuncData} {x : Str} {s₁ : Shared} {vs : List Value} {ns : List Int}
    (KX : K.In s₁.heap) (hns : s₁.heap.Ns mainGlobals mg) (hb : s₁.heap.Ns builtinsNs mb) (hbb : ∀ x : Str, x ≠ "__name__" → mb x = bootBuiltins x) (hlim : s₁.heap.NoLimit) (hg : s₁.gens = #[])
    (ha : s₁.heap.get? a = some { cls := .type "list", data := .seq vs.toArray }) (hi : IntsAre vs ns) (hl : ns.length ≤ 63) (hr : Room k callerA)
    (F : ∀ base : Heap, K.In base → base.Ns mainGlobals mg → FnG P w K mg base k fa fd [x] (liftSp K mg 1 lawSp)) (hbind : ∀ (s : Shared) (u : Value), BindsTo s fd ⟨[u], []⟩ [(x, u)]) :
    codeAny (model P w) callerA (.call (.ref fa) ⟨[.ref a], []⟩) (fun r s' => r = .ok (.ret (.bool true)) ∧ OldK s₁.heap s'.heap ∧ s'.os = s₁.os ∧ AllBare s'.gens) s₁ := by
  have rv := vals_ints hi
  have lenV := hi.length
  have hlz : ns.length ≤ sizeLine := Nat.le_trans hl (by decide)
  have core : ∀ H : Hp, Only H → SqL K H a (ns.map V.int) → HOk P w H s₁.heap → (∀ b, H b ≠ none → b = a) → (H a ≠ none → K.lookup a = none) →
      codeAny (model P w) callerA (.call (.ref fa) ⟨[.ref a], []⟩) (fun r s' => r = .ok (.ret (.bool true)) ∧ OldK s₁.heap s'.heap ∧ s'.os = s₁.os ∧ AllBare s'.gens) s₁ := by
    intro H hO hS hok hA hK
    have base_of : ∀ {b : Addr} {o : Obj}, s₁.heap.get? b = some o → H b = none → (hidT s₁.heap H).get? b = some o := fun e n => hidT_get e n
    have noA : ∀ {b : Addr} {o : Obj} {es : Array DictEntry} {ep : Nat}, s₁.heap.get? b = some o → o.data = .dict es ep → H b = none := fun {b o es ep} e d => by
      cases q : H b with
      | none => rfl
      | some u =>
        have e' : b = a := hA b (by rw [q]; simp)
        subst e'
        rw [ha] at e; cases e
        have d' : Data.seq vs.toArray _ = Data.dict es ep := d
        cases d'
    have nsK : ∀ {b : Addr} {m : Str → Option Value}, s₁.heap.Ns b m → (hidT s₁.heap H).Ns b m := fun {b m} ⟨o, es, ep, e, d, r⟩ => ⟨o, es, ep, base_of e (noA e d), d, r⟩
    have hKb : K.In (hidT s₁.heap H) := fun b o e => base_of (KX b o e) (by
      cases q : H b with
      | none => rfl
      | some u =>
        have e' : b = a := hA b (by rw [q]; simp)
        subst e'
        rw [hK (by rw [q]; simp)] at e; cases e)
    have hM : Mod K mg (hidT s₁.heap H) := ⟨hKb, nsK hns, ⟨mb, nsK hb, hbb⟩, let ⟨mc, h1, h2⟩ := hlim; ⟨mc, nsK h1, h2⟩⟩
    have e0 : Env0 P w K mg (hidT s₁.heap H) callerA [] s₁ H := ⟨rfl, hM, fun b o e => of_hidT e, Nat.le_of_eq (hidT_size _ _), trivial, fun b hb => absurd (show b ∈ ([] : List Addr) from hb) (by simp), hok, .of_eq hg⟩
    have hsp : liftSp K mg 1 lawSp [.ref a] H (fun v _ => v = .bl true) fun _ _ _ => False :=
      ⟨fun _ => False, fun _ => none, [.scr ns], ⟨fun _ _ e => (nomatch e), fun _ e => (nomatch e), fun _ f => f.elim⟩, .cons (.scr (scr_of hO hS)) .nil, rfl,
        fun v _ => v = .bl true, fun _ _ => False, ⟨ns, rfl, hl, fun _ => rfl⟩, fun v s e F' H' y _ _ d => by subst e; cases d; rfl, fun _ _ h => h.elim⟩
    refine codeAny_mono ((F _ hKb (nsK hns)).run callerA [] s₁ H ⟨[.ref a], []⟩ [.ref a] [.ref a] _ _ rfl hr e0 (hbind s₁ (.ref a)) (.cons rfl .nil) hsp) fun r s' h => ?_
    cases r with
    | error e => exact (by
        obtain ⟨_, _, _, _, _, _, _, _, _, _, _, _, h⟩ := h
        exact h.elim)
    | ok fl =>
      cases fl with
      | next => exact False.elim h
      | brk => exact False.elim h
      | cont => exact False.elim h
      | ret u =>
        obtain ⟨v, H', os, bare, un, hok', r', q⟩ := h
        have q' : v = .bl true := q
        subst q'
        obtain rfl : u = Value.bool true := r'
        refine ⟨rfl, OldK.of_keep fun b o e => ?_, os, bare⟩
        cases q : H b with
        | none => exact un.keep b o e q (by intro z; exact absurd (show b ∈ ([] : List Addr) from z) (by simp)) (by simp)
        | some u =>
          rcases hO b with z | ⟨ob, xs, z⟩
          · rw [q] at z; cases z
          · have z2 := un.frzs b ob _ z
            obtain ⟨e1, _⟩ := hok b _ z
            obtain ⟨e2, _⟩ := hok' b _ z2
            rw [e] at e1; cases e1
            exact e2
  cases hk : K.lookup a with
  | some o =>
    have e := KX a o hk
    rw [ha] at e
    cases e
    refine core (fun _ => none) (fun _ => .inl rfl) (.inr ⟨_, vs.toArray, _, hk, rfl, rfl, rfl, by rw [List.size_toArray, lenV]; exact hlz, by simpa using rv⟩) (fun b u z => by have z' : (none : Option HO) = some u := z; cases z') (fun b z => absurd rfl z) fun z => absurd rfl z
  | none =>
    refine core (fun b => if b = a then some (.frz { cls := .type "list", data := .seq vs.toArray } (.lst (ns.map V.int))) else none) (fun b => ?_) (.inl (.inr ⟨{ cls := .type "list", data := .seq vs.toArray }, if_pos rfl⟩)) (fun b u z => ?_) (fun b z => ?_) fun _ => hk
    · by_cases hb : b = a
      · exact .inr ⟨_, _, if_pos hb⟩
      · exact .inl (if_neg hb)
    · by_cases hb : b = a
      · have z' := (if_pos hb).symm.trans z
        cases z'
        subst hb
        exact ⟨ha, by rw [List.length_map]; exact hlz, vs, _, rv, ha⟩
      · have z' := (if_neg hb).symm.trans z
        cases z'
    · by_cases hb : b = a
      · exact hb
      · exact absurd (if_neg hb) z
/-- the goal that k_fill leaves, from the law's def -/
theorem walk_of {l : PySem.W.OpenLaw} {k : Nat} {q : Program} {loose : List Str} {XP : (Str → Option Value) → Heap → Prop} {YP : World → Heap → Prop} {d : DefRec} {K : Params → PySem.W.Frag} {x : Str}
    (hn : l.most = some 63) (hdf : d.params.defaults = []) (hr : Room k callerA)
    (hY : ∀ (w : World) (h : Heap), YP w h → (K w.params).In h)
    (F : ∀ (w : World) (mg : Str → Option Value) (fa : Addr) (h : Heap), (K w.params).In h → h.Ns mainGlobals mg → mg d.name = some (.ref fa) →
      ∃ fd : FuncData, (∀ (s : Shared) (u : Value), BindsTo s fd ⟨[u], []⟩ [(x, u)]) ∧
        ∀ base : Heap, (K w.params).In base → base.Ns mainGlobals mg → FnG l.prog w (K w.params) mg base k fa fd [x] (liftSp (K w.params) mg 1 lawSp)) :
    PySem.W.WalkO q loose XP YP l.row.toRowW d [] (fun f vs => PySem.call f vs) := by
  refine Att.attach_call hn hdf fun w s₀ s₁ mg mb fa o pm cd doc a vs ns G Y ho hd hcd hmg hobj hints hlen hg => ?_
  have KX := hY w _ Y
  obtain ⟨fd, hb, hF⟩ := F w mg fa _ KX G.T.g hmg
  exact lawcall KX G.T.g G.T.b G.T.builtins G.T.nolimit hg hobj hints hlen hr hF hb
end TK

set_option maxRecDepth 100000
set_option maxHeartbeats 4000000
namespace TK
open PySem PySem.Spec PyProof.Rows L2
/-! ### promises that bear weaker wishes -/
def Mono (sp : PSpec) : Prop := ∀ vs st (Q Q' : PQ) (X X' : EQ), (∀ v s, Q v s → Q' v s) → (∀ e s, X e s → X' e s) → sp vs st Q X → sp vs st Q' X'
theorem callS_eq {sp : PSpec} (m : Mono sp) {vs : List PV} {st : Store} {X : EQ} {Q : PQ} : callS sp vs st X Q = sp vs st Q X :=
  propext ⟨fun ⟨_, _, h, hq, hx⟩ => m _ _ _ _ _ _ hq hx h, fun h => ⟨Q, X, h, fun _ _ h => h, fun _ _ h => h⟩⟩
theorem callS_of {sp : PSpec} {vs : List PV} {st : Store} {X : EQ} {Q : PQ} (h : sp vs st Q X) : callS sp vs st X Q := ⟨Q, X, h, fun _ _ h => h, fun _ _ h => h⟩
/-! ### stepping -/
/-- the statements that are left -/
theorem wpSs_ex : Nonempty { f : Ss → PEnds → Sl → Store → Prop // f = wpSs } := ⟨⟨wpSs, rfl⟩⟩
/-- wpSs under a name that does not unfold -/
noncomputable def wpSsC : { f : Ss → PEnds → Sl → Store → Prop // f = wpSs } := Classical.choice wpSs_ex
noncomputable def Nx (ss : Ss) (D : PEnds) (τ : Sl) (st : Store) : Prop := wpSsC.1 ss D τ st
theorem Nx_eq {ss : Ss} {D : PEnds} {τ : Sl} {st : Store} : Nx ss D τ st = wpSs ss D τ st := congrFun (congrFun (congrFun (congrFun wpSsC.2 ss) D) τ) st
theorem Nx_fun {ss : Ss} {D : PEnds} : Nx ss D = wpSs ss D := by funext τ st; exact Nx_eq
theorem ss_nil {D : PEnds} {τ : Sl} {st : Store} : wpSs .nil D τ st = D.nx τ st := rfl
noncomputable def PEnds.nxt (D : PEnds) (ss : Ss) : PEnds := { D with nx := Nx ss D }
def PEnds.lp (D : PEnds) (J : Sl → Store → Prop) : PEnds := { D with nx := J, ct := J, bk := D.nx }
theorem ss_cons {s : S} {ss : Ss} {D : PEnds} {τ : Sl} {st : Store} : wpSs (.cons s ss) D τ st = wpS s (D.nxt ss) τ st := by
  unfold PEnds.nxt
  rw [Nx_fun]; rfl
theorem nxt_nx {D : PEnds} {ss : Ss} : (D.nxt ss).nx = Nx ss D := rfl
theorem nxt_rt {D : PEnds} {ss : Ss} : (D.nxt ss).rt = D.rt := rfl
theorem nxt_bk {D : PEnds} {ss : Ss} : (D.nxt ss).bk = D.bk := rfl
theorem nxt_ct {D : PEnds} {ss : Ss} : (D.nxt ss).ct = D.ct := rfl
theorem lp_nx {D : PEnds} {J : Sl → Store → Prop} : (D.lp J).nx = J := rfl
theorem lp_rt {D : PEnds} {J : Sl → Store → Prop} : (D.lp J).rt = D.rt := rfl
theorem lp_bk {D : PEnds} {J : Sl → Store → Prop} : (D.lp J).bk = D.nx := rfl
theorem lp_ct {D : PEnds} {J : Sl → Store → Prop} : (D.lp J).ct = J := rfl
theorem Nx_nil {D : PEnds} : Nx .nil D = D.nx := by funext τ st; exact Nx_eq
/-- an if: its arms are looked at later -/
noncomputable def Arm (ss : Ss) (D : PEnds) (τ : Sl) (st : Store) : Prop := wpSsC.1 ss D τ st
theorem Arm_eq {ss : Ss} {D : PEnds} {τ : Sl} {st : Store} : Arm ss D τ st = wpSs ss D τ st := congrFun (congrFun (congrFun (congrFun wpSsC.2 ss) D) τ) st
/-- the def's ends -/
def fnEnds (Q : PQ) (X : EQ) : PEnds := ⟨fun _ s => ∃ s0, Sub s0 s ∧ Q .non s0, fun v s => ∃ s0, Sub s0 s ∧ Q v s0, fun _ _ => False, fun _ _ => False, fun e _ s => ∃ s0, Sub s0 s ∧ X e s0⟩
theorem fn_eq {n : Nat} {b : Ss} {vs : List PV} {st : Store} {Q : PQ} {X : EQ} : wpFn n b vs st Q X = wpSs b (fnEnds Q X) (initS n vs) st := rfl
theorem fnRet {Q : PQ} {X : EQ} {v : PV} {s : Store} (s0 : Store) (hs : Sub s0 s) (h : Q v s0) : (fnEnds Q X).rt v s := ⟨s0, hs, h⟩
theorem Sub.rfl {s : Store} : Sub s s := fun _ _ h => h
theorem fnRet1 {Q : PQ} {X : EQ} {v : PV} {s : Store} (h : Q v s) : (fnEnds Q X).rt v s := ⟨s, .rfl, h⟩
theorem fnNx1 {Q : PQ} {X : EQ} {τ : Sl} {s : Store} (h : Q .non s) : (fnEnds Q X).nx τ s := ⟨s, .rfl, h⟩
theorem sub_new {s : Store} {p : Addr} {c : Option Cell} (h : s p = none) : Sub s (up s p c) := fun a d e => by
  by_cases n : a = p
  · subst n; rw [h] at e; cases e
  · rw [up_ne n]; exact e
theorem up_up {s : Store} {p : Addr} {c d : Option Cell} : up (up s p c) p d = up s p d := by
  funext a
  by_cases n : a = p
  · subst n; rw [up_same, up_same]
  · rw [up_ne n, up_ne n, up_ne n]
theorem up_id {s : Store} {p : Addr} {c : Option Cell} (h : s p = c) : up s p c = s := by
  funext a
  by_cases n : a = p
  · subst n; rw [up_same, h]
  · rw [up_ne n]
/-! ### loops -/
/-- a loop over items: what holds ahead of the rest -/
theorem for_ind {tg : TG} {b : Ss} {ok : Store → Prop} {D : PEnds} (J : List PV → Sl → Store → Prop)
    (hstep : ∀ x r τ st, J (x :: r) τ st → ok st ∧ oP (tg.asg x τ) fun τ1 => wpSs b (D.lp (J r)) τ1 st)
    (hend : ∀ τ st, J [] τ st → ok st ∧ D.nx τ st) : ∀ xs τ st, J xs τ st → forL tg (wpSs b) ok xs D τ st
  | [], τ, st, h => hend τ st h
  | x :: r, τ, st, h => by
    refine ⟨(hstep x r τ st h).1, ?_⟩
    have h2 := (hstep x r τ st h).2
    have ih := for_ind J hstep hend r
    cases e : tg.asg x τ with
    | none => rw [e] at h2; exact h2.elim
    | some τ1 =>
      rw [e] at h2
      refine wpSs_mono b ?_ h2
      exact ⟨fun _ _ h => ih _ _ h, fun _ _ h => h, fun _ _ h => h, fun _ _ h => ih _ _ h, fun _ _ _ h => h⟩
/-- .. by the number of items that are done -/
theorem for_at {tg : TG} {b : Ss} {ok : Store → Prop} {D : PEnds} {xs : List PV} (J : Nat → Sl → Store → Prop)
    (hstep : ∀ i x τ st, xs[i]? = some x → J i τ st → ok st ∧ oP (tg.asg x τ) fun τ1 => wpSs b (D.lp (J (i + 1))) τ1 st)
    (hend : ∀ τ st, J xs.length τ st → ok st ∧ D.nx τ st) {τ : Sl} {st : Store} (h : J 0 τ st) : forL tg (wpSs b) ok xs D τ st := by
  refine for_ind (fun r τ st => ∃ i, r = xs.drop i ∧ i ≤ xs.length ∧ J i τ st) ?_ ?_ xs τ st ⟨0, by simp, Nat.zero_le _, h⟩
  · rintro x r τ st ⟨i, e, hi, h⟩
    have hx : xs[i]? = some x := by
      have := congrArg (·[0]?) e
      simpa using this.symm
    obtain ⟨h1, h2⟩ := hstep i x τ st hx h
    refine ⟨h1, ?_⟩
    have hl : i < xs.length := by
      rcases Nat.lt_or_ge i xs.length with h | h
      · exact h
      · rw [List.getElem?_eq_none h] at hx; cases hx
    have er : r = xs.drop (i + 1) := by
      rw [List.drop_eq_getElem_cons hl] at e
      exact (List.cons.inj e).2
    cases e2 : tg.asg x τ with
    | none => rw [e2] at h2; exact h2.elim
    | some τ1 =>
      rw [e2] at h2
      refine wpSs_mono b ?_ h2
      exact ⟨fun _ _ h => ⟨i + 1, er, hl, h⟩, fun _ _ h => h, fun _ _ h => h, fun _ _ h => ⟨i + 1, er, hl, h⟩, fun _ _ _ h => h⟩
  · rintro τ st ⟨i, e, hi, h⟩
    have : i = xs.length := by
      have := congrArg List.length e
      simp only [List.length_nil, List.length_drop] at this
      omega
    subst this
    exact hend τ st h
/-! ### calls: another look at the same heap -/
theorem HasFn.view {Γ : Wd} {k n : Nat} {f : Str} {sp sp' : PSpec} (h : HasFn Γ k f sp n)
    (c : ∀ vs st Q X H F, RS Γ.K H F st → sp' vs st Q X → ∃ st2 Q2, RS Γ.K H F st2 ∧ sp vs st2 Q2 (fun _ _ => False) ∧ ∀ v s2 H' F', Ext F H F' H' → RS Γ.K H' F' s2 → Q2 v s2 → ∃ s, RS Γ.K H' F' s ∧ Q v s) :
    HasFn Γ k f sp' n := by
  obtain ⟨fa, fd, ps, h1, h2, h3, h4, hf⟩ := h
  refine ⟨fa, fd, ps, h1, h2, h3, h4, ⟨fun vs H Q E ⟨_, _, _, _, _, h, _⟩ => h.trans h4.symm, fun A outer s H args us vs Q E hg hr e0 hb r hsp => ?_⟩⟩
  refine hf.run A outer s H args us vs Q E hg hr e0 hb r ?_
  obtain ⟨F, st, pvs, rs, d, hl, Q0, X0, h0, hq, hx⟩ := hsp
  obtain ⟨st2, Q2, rs2, hs2, hc⟩ := c pvs st Q0 X0 H F rs h0
  refine ⟨F, st2, pvs, rs2, d, hl, Q2, fun _ _ => False, hs2, fun v s2 h2 F' H' y ex r' dv => ?_, fun _ _ h => h.elim⟩
  obtain ⟨s, rs', hq'⟩ := hc v s2 H' F' ex r' h2
  exact hq v s hq' F' H' y ex rs' dv
end TK

namespace TK
open PySem PySem.Spec PyProof.Rows L2
/-! ### the same readings, what is still to come under a name -/
/-- a proposition that does not unfold by itself -/
theorem Blk_ex : Nonempty { f : Prop → Prop // f = id } := ⟨⟨id, rfl⟩⟩
noncomputable def BlkC : { f : Prop → Prop // f = id } := Classical.choice Blk_ex
noncomputable def Blk (p : Prop) : Prop := BlkC.1 p
theorem Blk_eq {p : Prop} : Blk p = p := congrFun BlkC.2 p
def KEx (D : PEnds) (τ : Sl) : EQ := fun x s => D.ex x τ s
theorem ex_nxt {D : PEnds} {ss : Ss} {τ : Sl} : KEx (D.nxt ss) τ = KEx D τ := rfl
theorem ex_lp {D : PEnds} {J : Sl → Store → Prop} {τ : Sl} : KEx (D.lp J) τ = KEx D τ := rfl
def KV (st : Store) (Q : PQ) (v : PV) : Prop := Q v st
noncomputable def KF (st : Store) (Q : PQ) (v : PV) : Prop := Blk (frzV v st Q)
theorem f_KF {st : Store} {Q : PQ} : KF st Q = fun v => frzV v st Q := by funext v; exact Blk_eq
noncomputable def KBin2 (o : Operator) (m : Bool) (v : PV) (Q : PQ) (w : PV) (st : Store) : Prop := Blk (binV o m v w st Q)
theorem f_KBin2 {o : Operator} {m : Bool} {v : PV} {Q : PQ} : KBin2 o m v Q = fun w st => binV o m v w st Q := by funext w st; exact Blk_eq
noncomputable def KBin1 (o : Operator) (m : Bool) (b : E) (X : EQ) (τ : Sl) (Q : PQ) (v : PV) (st : Store) : Prop := Blk (wpE b X τ st (KBin2 o m v Q))
theorem f_KBin1 {o : Operator} {m : Bool} {b : E} {X : EQ} {τ : Sl} {Q : PQ} : KBin1 o m b X τ Q = fun v st => wpE b X τ st (KBin2 o m v Q) := by funext v st; exact Blk_eq
noncomputable def KNeg (Q : PQ) (v : PV) (st : Store) : Prop := Blk (negV v st Q)
theorem f_KNeg {Q : PQ} : KNeg Q = fun v st => negV v st Q := by funext v st; exact Blk_eq
noncomputable def KUn (f : UF) (Q : PQ) (v : PV) (st : Store) : Prop := Blk (unV f v st Q)
theorem f_KUn {f : UF} {Q : PQ} : KUn f Q = fun v st => unV f v st Q := by funext v st; exact Blk_eq
noncomputable def KNot2 (Q : PQ) (st : Store) (b : Bool) : Prop := Blk (Q (.bl (!b)) st)
theorem f_KNot2 {Q : PQ} {st : Store} : KNot2 Q st = fun b => Q (.bl (!b)) st := by funext b; exact Blk_eq
noncomputable def KNot (Q : PQ) (v : PV) (st : Store) : Prop := Blk (onBl v (KNot2 Q st))
theorem f_KNot {Q : PQ} : KNot Q = fun v st => onBl v (KNot2 Q st) := by funext v st; exact Blk_eq
noncomputable def KCmp2 (o : CmpOp) (v : PV) (Q : PQ) (w : PV) (st : Store) : Prop := Blk (cmpV o v w st Q)
theorem f_KCmp2 {o : CmpOp} {v : PV} {Q : PQ} : KCmp2 o v Q = fun w st => cmpV o v w st Q := by funext w st; exact Blk_eq
noncomputable def KCmp1 (o : CmpOp) (b : E) (X : EQ) (τ : Sl) (Q : PQ) (v : PV) (st : Store) : Prop := Blk (wpE b X τ st (KCmp2 o v Q))
theorem f_KCmp1 {o : CmpOp} {b : E} {X : EQ} {τ : Sl} {Q : PQ} : KCmp1 o b X τ Q = fun v st => wpE b X τ st (KCmp2 o v Q) := by funext v st; exact Blk_eq
noncomputable def KCh4 (o : CmpOp) (c : E) (X : EQ) (τ : Sl) (w : PV) (Q : PQ) (st : Store) (k : Bool) : Prop := Blk (if k = true then wpE c X τ st (KCmp2 o w Q) else Q (.bl false) st)
theorem f_KCh4 {o : CmpOp} {c : E} {X : EQ} {τ : Sl} {w : PV} {Q : PQ} {st : Store} : KCh4 o c X τ w Q st = fun k => if k = true then wpE c X τ st (KCmp2 o w Q) else Q (.bl false) st := by funext k; exact Blk_eq
noncomputable def KCh3 (o : CmpOp) (c : E) (X : EQ) (τ : Sl) (w : PV) (Q : PQ) (z : PV) (st : Store) : Prop := Blk (onBl z (KCh4 o c X τ w Q st))
theorem f_KCh3 {o : CmpOp} {c : E} {X : EQ} {τ : Sl} {w : PV} {Q : PQ} : KCh3 o c X τ w Q = fun z st => onBl z (KCh4 o c X τ w Q st) := by funext z st; exact Blk_eq
noncomputable def KCh2 (o o' : CmpOp) (c : E) (X : EQ) (τ : Sl) (v : PV) (Q : PQ) (w : PV) (st : Store) : Prop := Blk (cmpV o v w st (KCh3 o' c X τ w Q))
theorem f_KCh2 {o : CmpOp} {o' : CmpOp} {c : E} {X : EQ} {τ : Sl} {v : PV} {Q : PQ} : KCh2 o o' c X τ v Q = fun w st => cmpV o v w st (KCh3 o' c X τ w Q) := by funext w st; exact Blk_eq
noncomputable def KCh1 (o o' : CmpOp) (b c : E) (X : EQ) (τ : Sl) (Q : PQ) (v : PV) (st : Store) : Prop := Blk (wpE b X τ st (KCh2 o o' c X τ v Q))
theorem f_KCh1 {o : CmpOp} {o' : CmpOp} {b : E} {c : E} {X : EQ} {τ : Sl} {Q : PQ} : KCh1 o o' b c X τ Q = fun v st => wpE b X τ st (KCh2 o o' c X τ v Q) := by funext v st; exact Blk_eq
noncomputable def KBs2 (o : BoolOp) (es : Es) (X : EQ) (τ : Sl) (Q : PQ) (st : Store) (b : Bool) : Prop := Blk (match o with | .And => if b = true then wpBs .And es X τ st Q else Q (.bl false) st | .Or => if b = true then Q (.bl true) st else wpBs .Or es X τ st Q)
theorem f_KBs2 {o : BoolOp} {es : Es} {X : EQ} {τ : Sl} {Q : PQ} {st : Store} : KBs2 o es X τ Q st = fun b => match o with | .And => if b = true then wpBs .And es X τ st Q else Q (.bl false) st | .Or => if b = true then Q (.bl true) st else wpBs .Or es X τ st Q := by funext b; exact Blk_eq
noncomputable def KBs (o : BoolOp) (es : Es) (X : EQ) (τ : Sl) (Q : PQ) (v : PV) (st : Store) : Prop := Blk (onBl v (KBs2 o es X τ Q st))
theorem f_KBs {o : BoolOp} {es : Es} {X : EQ} {τ : Sl} {Q : PQ} : KBs o es X τ Q = fun v st => onBl v (KBs2 o es X τ Q st) := by funext v st; exact Blk_eq
noncomputable def KIf (a b : E) (X : EQ) (τ : Sl) (Q : PQ) (k : Bool) (st : Store) : Prop := Blk (if k = true then wpE a X τ st Q else wpE b X τ st Q)
theorem f_KIf {a : E} {b : E} {X : EQ} {τ : Sl} {Q : PQ} : KIf a b X τ Q = fun k st => if k = true then wpE a X τ st Q else wpE b X τ st Q := by funext k st; exact Blk_eq
noncomputable def KTup (Q : PQ) (vs : List PV) (st : Store) : Prop := Blk (vs.length ≤ sizeLine ∧ Q (.tup vs) st)
theorem f_KTup {Q : PQ} : KTup Q = fun vs st => vs.length ≤ sizeLine ∧ Q (.tup vs) st := by funext vs st; exact Blk_eq
noncomputable def KLst (m : Bool) (Q : PQ) (vs : List PV) (st : Store) : Prop := Blk (vs.length ≤ sizeLine ∧ newList m vs st Q)
theorem f_KLst {m : Bool} {Q : PQ} : KLst m Q = fun vs st => vs.length ≤ sizeLine ∧ newList m vs st Q := by funext vs st; exact Blk_eq
noncomputable def KIdx2 (v : PV) (Q : PQ) (w : PV) (st : Store) : Prop := Blk (idxV v w st Q)
theorem f_KIdx2 {v : PV} {Q : PQ} : KIdx2 v Q = fun w st => idxV v w st Q := by funext w st; exact Blk_eq
noncomputable def KIdx1 (i : E) (X : EQ) (τ : Sl) (Q : PQ) (v : PV) (st : Store) : Prop := Blk (wpE i X τ st (KIdx2 v Q))
theorem f_KIdx1 {i : E} {X : EQ} {τ : Sl} {Q : PQ} : KIdx1 i X τ Q = fun v st => wpE i X τ st (KIdx2 v Q) := by funext v st; exact Blk_eq
noncomputable def KSl3 (m : Bool) (v : PV) (l : Option Int) (Q : PQ) (u : Option Int) (st : Store) : Prop := Blk (sliceV m v l u st Q)
theorem f_KSl3 {m : Bool} {v : PV} {l : Option Int} {Q : PQ} : KSl3 m v l Q = fun u st => sliceV m v l u st Q := by funext u st; exact Blk_eq
noncomputable def KSl2 (m : Bool) (hi : OE) (X : EQ) (τ : Sl) (v : PV) (Q : PQ) (l : Option Int) (st : Store) : Prop := Blk (wpO hi X τ st (KSl3 m v l Q))
theorem f_KSl2 {m : Bool} {hi : OE} {X : EQ} {τ : Sl} {v : PV} {Q : PQ} : KSl2 m hi X τ v Q = fun l st => wpO hi X τ st (KSl3 m v l Q) := by funext l st; exact Blk_eq
noncomputable def KSl1 (m : Bool) (lo hi : OE) (X : EQ) (τ : Sl) (Q : PQ) (v : PV) (st : Store) : Prop := Blk (wpO lo X τ st (KSl2 m hi X τ v Q))
theorem f_KSl1 {m : Bool} {lo : OE} {hi : OE} {X : EQ} {τ : Sl} {Q : PQ} : KSl1 m lo hi X τ Q = fun v st => wpO lo X τ st (KSl2 m hi X τ v Q) := by funext v st; exact Blk_eq
noncomputable def KCall (sp : PSpec) (X : EQ) (Q : PQ) (vs : List PV) (st : Store) : Prop := Blk (callS sp vs st X Q)
theorem f_KCall {sp : PSpec} {X : EQ} {Q : PQ} : KCall sp X Q = fun vs st => callS sp vs st X Q := by funext vs st; exact Blk_eq
noncomputable def KBlt (f : BF) (m : Bool) (Q : PQ) (vs : List PV) (st : Store) : Prop := Blk (bltV f m vs st Q)
theorem f_KBlt {f : BF} {m : Bool} {Q : PQ} : KBlt f m Q = fun vs st => bltV f m vs st Q := by funext vs st; exact Blk_eq
noncomputable def KIsi2 (Q : PQ) (st : Store) (b : Bool) : Prop := Blk (Q (.bl b) st)
theorem f_KIsi2 {Q : PQ} {st : Store} : KIsi2 Q st = fun b => Q (.bl b) st := by funext b; exact Blk_eq
noncomputable def KIsi (ty : Str) (Q : PQ) (v : PV) (st : Store) : Prop := Blk (oP (isiV ty v) (KIsi2 Q st))
theorem f_KIsi {ty : Str} {Q : PQ} : KIsi ty Q = fun v st => oP (isiV ty v) (KIsi2 Q st) := by funext v st; exact Blk_eq
noncomputable def KMe2 (f : MF) (v : PV) (Q : PQ) (vs : List PV) (st : Store) : Prop := Blk (methV f v vs st Q)
theorem f_KMe2 {f : MF} {v : PV} {Q : PQ} : KMe2 f v Q = fun vs st => methV f v vs st Q := by funext vs st; exact Blk_eq
noncomputable def KMe1 (f : MF) (es : Es) (X : EQ) (τ : Sl) (Q : PQ) (v : PV) (st : Store) : Prop := Blk (isLst st v ∧ wpEs es X τ st (KMe2 f v Q))
theorem f_KMe1 {f : MF} {es : Es} {X : EQ} {τ : Sl} {Q : PQ} : KMe1 f es X τ Q = fun v st => isLst st v ∧ wpEs es X τ st (KMe2 f v Q) := by funext v st; exact Blk_eq
noncomputable def KComp2 (m : Bool) (Q : PQ) (acc : List PV) (st : Store) : Prop := Blk (newList m acc st Q)
theorem f_KComp2 {m : Bool} {Q : PQ} : KComp2 m Q = fun acc st => newList m acc st Q := by funext acc st; exact Blk_eq
noncomputable def KComp (m : Bool) (vs : List Nat) (tg : TG) (r : Bool) (ts : Ts) (elt : E) (τ : Sl) (Q : PQ) (xs : List PV) (ok : Store → Prop) (st : Store) : Prop := Blk ((r = true → xs.length ≤ sizeLine) ∧ ok st ∧ lcL tg (wpTs .And ts fun _ _ => False) (wpE elt fun _ _ => False) (wipeS τ vs) (KComp2 m Q) xs st [])
theorem f_KComp {m : Bool} {vs : List Nat} {tg : TG} {r : Bool} {ts : Ts} {elt : E} {τ : Sl} {Q : PQ} : KComp m vs tg r ts elt τ Q = fun xs ok st => (r = true → xs.length ≤ sizeLine) ∧ ok st ∧ lcL tg (wpTs .And ts fun _ _ => False) (wpE elt fun _ _ => False) (wipeS τ vs) (KComp2 m Q) xs st [] := by funext xs ok st; exact Blk_eq
noncomputable def KEs2 (v : PV) (Q : List PV → Store → Prop) (vs : List PV) (st : Store) : Prop := Blk (Q (v :: vs) st)
theorem f_KEs2 {v : PV} {Q : List PV → Store → Prop} : KEs2 v Q = fun vs st => Q (v :: vs) st := by funext vs st; exact Blk_eq
noncomputable def KEs1 (es : Es) (X : EQ) (τ : Sl) (Q : List PV → Store → Prop) (v : PV) (st : Store) : Prop := Blk (wpEs es X τ st (KEs2 v Q))
theorem f_KEs1 {es : Es} {X : EQ} {τ : Sl} {Q : List PV → Store → Prop} : KEs1 es X τ Q = fun v st => wpEs es X τ st (KEs2 v Q) := by funext v st; exact Blk_eq
noncomputable def KO2 (Q : Option Int → Store → Prop) (st : Store) (i : Int) : Prop := Blk (Q (some i) st)
theorem f_KO2 {Q : Option Int → Store → Prop} {st : Store} : KO2 Q st = fun i => Q (some i) st := by funext i; exact Blk_eq
noncomputable def KO (Q : Option Int → Store → Prop) (v : PV) (st : Store) : Prop := Blk (onInt v (KO2 Q st))
theorem f_KO {Q : Option Int → Store → Prop} : KO Q = fun v st => onInt v (KO2 Q st) := by funext v st; exact Blk_eq
noncomputable def KTv (Q : Bool → Store → Prop) (v : PV) (st : Store) : Prop := Blk (truV v st Q)
theorem f_KTv {Q : Bool → Store → Prop} : KTv Q = fun v st => truV v st Q := by funext v st; exact Blk_eq
noncomputable def KT4 (Q : Bool → Store → Prop) (st : Store) (k : Bool) : Prop := Blk (Q k st)
theorem f_KT4 {Q : Bool → Store → Prop} {st : Store} : KT4 Q st = fun k => Q k st := by funext k; exact Blk_eq
noncomputable def KT3 (Q : Bool → Store → Prop) (z : PV) (st : Store) : Prop := Blk (onBl z (KT4 Q st))
theorem f_KT3 {Q : Bool → Store → Prop} : KT3 Q = fun z st => onBl z (KT4 Q st) := by funext z st; exact Blk_eq
noncomputable def KT2 (o : CmpOp) (v : PV) (Q : Bool → Store → Prop) (w : PV) (st : Store) : Prop := Blk (cmpV o v w st (KT3 Q))
theorem f_KT2 {o : CmpOp} {v : PV} {Q : Bool → Store → Prop} : KT2 o v Q = fun w st => cmpV o v w st (KT3 Q) := by funext w st; exact Blk_eq
noncomputable def KT1 (o : CmpOp) (b : E) (X : EQ) (τ : Sl) (Q : Bool → Store → Prop) (v : PV) (st : Store) : Prop := Blk (wpE b X τ st (KT2 o v Q))
theorem f_KT1 {o : CmpOp} {b : E} {X : EQ} {τ : Sl} {Q : Bool → Store → Prop} : KT1 o b X τ Q = fun v st => wpE b X τ st (KT2 o v Q) := by funext v st; exact Blk_eq
noncomputable def KTc4 (o : CmpOp) (c : E) (X : EQ) (τ : Sl) (w : PV) (Q : Bool → Store → Prop) (st : Store) (k : Bool) : Prop := Blk (if k = true then wpE c X τ st (KT2 o w Q) else Q false st)
theorem f_KTc4 {o : CmpOp} {c : E} {X : EQ} {τ : Sl} {w : PV} {Q : Bool → Store → Prop} {st : Store} : KTc4 o c X τ w Q st = fun k => if k = true then wpE c X τ st (KT2 o w Q) else Q false st := by funext k; exact Blk_eq
noncomputable def KTc3 (o : CmpOp) (c : E) (X : EQ) (τ : Sl) (w : PV) (Q : Bool → Store → Prop) (z : PV) (st : Store) : Prop := Blk (onBl z (KTc4 o c X τ w Q st))
theorem f_KTc3 {o : CmpOp} {c : E} {X : EQ} {τ : Sl} {w : PV} {Q : Bool → Store → Prop} : KTc3 o c X τ w Q = fun z st => onBl z (KTc4 o c X τ w Q st) := by funext z st; exact Blk_eq
noncomputable def KTc2 (o o' : CmpOp) (c : E) (X : EQ) (τ : Sl) (v : PV) (Q : Bool → Store → Prop) (w : PV) (st : Store) : Prop := Blk (cmpV o v w st (KTc3 o' c X τ w Q))
theorem f_KTc2 {o : CmpOp} {o' : CmpOp} {c : E} {X : EQ} {τ : Sl} {v : PV} {Q : Bool → Store → Prop} : KTc2 o o' c X τ v Q = fun w st => cmpV o v w st (KTc3 o' c X τ w Q) := by funext w st; exact Blk_eq
noncomputable def KTc1 (o o' : CmpOp) (b c : E) (X : EQ) (τ : Sl) (Q : Bool → Store → Prop) (v : PV) (st : Store) : Prop := Blk (wpE b X τ st (KTc2 o o' c X τ v Q))
theorem f_KTc1 {o : CmpOp} {o' : CmpOp} {b : E} {c : E} {X : EQ} {τ : Sl} {Q : Bool → Store → Prop} : KTc1 o o' b c X τ Q = fun v st => wpE b X τ st (KTc2 o o' c X τ v Q) := by funext v st; exact Blk_eq
noncomputable def KTn (Q : Bool → Store → Prop) (k : Bool) (st : Store) : Prop := Blk (Q (!k) st)
theorem f_KTn {Q : Bool → Store → Prop} : KTn Q = fun k st => Q (!k) st := by funext k st; exact Blk_eq
noncomputable def KTs (o : BoolOp) (ts : Ts) (X : EQ) (τ : Sl) (Q : Bool → Store → Prop) (k : Bool) (st : Store) : Prop := Blk (match o with | .And => if k = true then wpTs .And ts X τ st Q else Q false st | .Or => if k = true then Q true st else wpTs .Or ts X τ st Q)
theorem f_KTs {o : BoolOp} {ts : Ts} {X : EQ} {τ : Sl} {Q : Bool → Store → Prop} : KTs o ts X τ Q = fun k st => match o with | .And => if k = true then wpTs .And ts X τ st Q else Q false st | .Or => if k = true then Q true st else wpTs .Or ts X τ st Q := by funext k st; exact Blk_eq
noncomputable def KTi (a b : T) (X : EQ) (τ : Sl) (Q : Bool → Store → Prop) (k : Bool) (st : Store) : Prop := Blk (if k = true then wpT a X τ st Q else wpT b X τ st Q)
theorem f_KTi {a : T} {b : T} {X : EQ} {τ : Sl} {Q : Bool → Store → Prop} : KTi a b X τ Q = fun k st => if k = true then wpT a X τ st Q else wpT b X τ st Q := by funext k st; exact Blk_eq
noncomputable def KI1 (Q : List PV → (Store → Prop) → Store → Prop) (v : PV) (st : Store) : Prop := Blk (itV id v st Q)
theorem f_KI1 {Q : List PV → (Store → Prop) → Store → Prop} : KI1 Q = fun v st => itV id v st Q := by funext v st; exact Blk_eq
noncomputable def KR12 (Q : List PV → (Store → Prop) → Store → Prop) (st : Store) (j : Int) : Prop := Blk (R62 j ∧ Q (rngL 0 j.toNat) (fun _ => True) st)
theorem f_KR12 {Q : List PV → (Store → Prop) → Store → Prop} {st : Store} : KR12 Q st = fun j => R62 j ∧ Q (rngL 0 j.toNat) (fun _ => True) st := by funext j; exact Blk_eq
noncomputable def KR1 (Q : List PV → (Store → Prop) → Store → Prop) (v : PV) (st : Store) : Prop := Blk (onInt v (KR12 Q st))
theorem f_KR1 {Q : List PV → (Store → Prop) → Store → Prop} : KR1 Q = fun v st => onInt v (KR12 Q st) := by funext v st; exact Blk_eq
noncomputable def KR2d (Q : List PV → (Store → Prop) → Store → Prop) (st : Store) (i j : Int) : Prop := Blk (R62 i ∧ R62 j ∧ Q (rngL i (j - i).toNat) (fun _ => True) st)
theorem f_KR2d {Q : List PV → (Store → Prop) → Store → Prop} {st : Store} {i : Int} : KR2d Q st i = fun j => R62 i ∧ R62 j ∧ Q (rngL i (j - i).toNat) (fun _ => True) st := by funext j; exact Blk_eq
noncomputable def KR2c (Q : List PV → (Store → Prop) → Store → Prop) (st : Store) (w : PV) (i : Int) : Prop := Blk (onInt w (KR2d Q st i))
theorem f_KR2c {Q : List PV → (Store → Prop) → Store → Prop} {st : Store} {w : PV} : KR2c Q st w = fun i => onInt w (KR2d Q st i) := by funext i; exact Blk_eq
noncomputable def KR2b (v : PV) (Q : List PV → (Store → Prop) → Store → Prop) (w : PV) (st : Store) : Prop := Blk (onInt v (KR2c Q st w))
theorem f_KR2b {v : PV} {Q : List PV → (Store → Prop) → Store → Prop} : KR2b v Q = fun w st => onInt v (KR2c Q st w) := by funext w st; exact Blk_eq
noncomputable def KR2a (b : E) (X : EQ) (τ : Sl) (Q : List PV → (Store → Prop) → Store → Prop) (v : PV) (st : Store) : Prop := Blk (wpE b X τ st (KR2b v Q))
theorem f_KR2a {b : E} {X : EQ} {τ : Sl} {Q : List PV → (Store → Prop) → Store → Prop} : KR2a b X τ Q = fun v st => wpE b X τ st (KR2b v Q) := by funext v st; exact Blk_eq
noncomputable def KEn (Q : List PV → (Store → Prop) → Store → Prop) (v : PV) (st : Store) : Prop := Blk (itV (enumL 0) v st Q)
theorem f_KEn {Q : List PV → (Store → Prop) → Store → Prop} : KEn Q = fun v st => itV (enumL 0) v st Q := by funext v st; exact Blk_eq
noncomputable def KZ2 (v : PV) (Q : List PV → (Store → Prop) → Store → Prop) (w : PV) (st : Store) : Prop := Blk (zipV v w st Q)
theorem f_KZ2 {v : PV} {Q : List PV → (Store → Prop) → Store → Prop} : KZ2 v Q = fun w st => zipV v w st Q := by funext w st; exact Blk_eq
noncomputable def KZ1 (b : E) (X : EQ) (τ : Sl) (Q : List PV → (Store → Prop) → Store → Prop) (v : PV) (st : Store) : Prop := Blk (wpE b X τ st (KZ2 v Q))
theorem f_KZ1 {b : E} {X : EQ} {τ : Sl} {Q : List PV → (Store → Prop) → Store → Prop} : KZ1 b X τ Q = fun v st => wpE b X τ st (KZ2 v Q) := by funext v st; exact Blk_eq
noncomputable def KNx (D : PEnds) (st : Store) (τ : Sl) : Prop := Blk (D.nx τ st)
theorem f_KNx {D : PEnds} {st : Store} : KNx D st = fun τ => D.nx τ st := by funext τ; exact Blk_eq
noncomputable def KAsg (tg : TG) (τ : Sl) (D : PEnds) (v : PV) (st : Store) : Prop := Blk (oP (tg.asg v τ) (KNx D st))
theorem f_KAsg {tg : TG} {τ : Sl} {D : PEnds} : KAsg tg τ D = fun v st => oP (tg.asg v τ) (KNx D st) := by funext v st; exact Blk_eq
noncomputable def KAsgN (i : Nat) (τ : Sl) (D : PEnds) (v : PV) (st : Store) : Prop := Blk (D.nx (setS τ i (some v)) st)
theorem f_KAsgN {i : Nat} {τ : Sl} {D : PEnds} : KAsgN i τ D = fun v st => D.nx (setS τ i (some v)) st := by funext v st; exact Blk_eq
noncomputable def KSx4 (τ : Sl) (D : PEnds) (st : Store) : Prop := Blk (D.nx τ st)
theorem f_KSx4 {τ : Sl} {D : PEnds} : KSx4 τ D = fun st => D.nx τ st := by funext st; exact Blk_eq
noncomputable def KSx3 (v ov : PV) (τ : Sl) (D : PEnds) (iv : PV) (st : Store) : Prop := Blk (setIxV ov iv v st (KSx4 τ D))
theorem f_KSx3 {v : PV} {ov : PV} {τ : Sl} {D : PEnds} : KSx3 v ov τ D = fun iv st => setIxV ov iv v st (KSx4 τ D) := by funext iv st; exact Blk_eq
noncomputable def KSx2 (v : PV) (i : E) (τ : Sl) (D : PEnds) (ov : PV) (st : Store) : Prop := Blk (wpE i (KEx D τ) τ st (KSx3 v ov τ D))
theorem f_KSx2 {v : PV} {i : E} {τ : Sl} {D : PEnds} : KSx2 v i τ D = fun ov st => wpE i (KEx D τ) τ st (KSx3 v ov τ D) := by funext ov st; exact Blk_eq
noncomputable def KSx1 (o i : E) (τ : Sl) (D : PEnds) (v : PV) (st : Store) : Prop := Blk (wpE o (KEx D τ) τ st (KSx2 v i τ D))
theorem f_KSx1 {o : E} {i : E} {τ : Sl} {D : PEnds} : KSx1 o i τ D = fun v st => wpE o (KEx D τ) τ st (KSx2 v i τ D) := by funext v st; exact Blk_eq
noncomputable def KAug2 (i : Nat) (o : Operator) (v : PV) (τ : Sl) (D : PEnds) (w : PV) (st : Store) : Prop := Blk (augV o v w st (KAsgN i τ D))
theorem f_KAug2 {i : Nat} {o : Operator} {v : PV} {τ : Sl} {D : PEnds} : KAug2 i o v τ D = fun w st => augV o v w st (KAsgN i τ D) := by funext w st; exact Blk_eq
noncomputable def KAug1 (i : Nat) (o : Operator) (e : E) (τ : Sl) (D : PEnds) (st : Store) (v : PV) : Prop := Blk (wpE e (KEx D τ) τ st (KAug2 i o v τ D))
theorem f_KAug1 {i : Nat} {o : Operator} {e : E} {τ : Sl} {D : PEnds} {st : Store} : KAug1 i o e τ D st = fun v => wpE e (KEx D τ) τ st (KAug2 i o v τ D) := by funext v; exact Blk_eq
noncomputable def KExpr (τ : Sl) (D : PEnds) (v : PV) (st : Store) : Prop := Blk (D.nx τ st)
theorem f_KExpr {τ : Sl} {D : PEnds} : KExpr τ D = fun v st => D.nx τ st := by funext v st; exact Blk_eq
noncomputable def KArm (a b : Ss) (τ : Sl) (D : PEnds) (k : Bool) (st : Store) : Prop := Blk (if k = true then Arm a D τ st else Arm b D τ st)
theorem f_KArm {a : Ss} {b : Ss} {τ : Sl} {D : PEnds} : KArm a b τ D = fun k st => if k = true then Arm a D τ st else Arm b D τ st := by funext k st; exact Blk_eq
noncomputable def KLoop (tg : TG) (b : Ss) (τ : Sl) (D : PEnds) (xs : List PV) (ok : Store → Prop) (st : Store) : Prop := Blk (forL tg (wpSs b) ok xs D τ st)
theorem f_KLoop {tg : TG} {b : Ss} {τ : Sl} {D : PEnds} : KLoop tg b τ D = fun xs ok st => forL tg (wpSs b) ok xs D τ st := by funext xs ok st; exact Blk_eq
noncomputable def KWt (t : T) (D : PEnds) (τ : Sl) (st : Store) (Q : Bool → Store → Prop) : Prop := Blk (wpT t (KEx D τ) τ st Q)
theorem f_KWt {t : T} {D : PEnds} : KWt t D = fun τ st Q => wpT t (KEx D τ) τ st Q := by funext τ st Q; exact Blk_eq
section
variable {X : EQ} {τ : Sl} {st : Store} {Q : PQ}
theorem e_var {i : Nat} : wpE (.var i) X τ st Q = oP (getS τ i) (KV st Q) := rfl
theorem e_fvar {i : Nat} : wpE (.fvar i) X τ st Q = oP (getS τ i) (KF st Q) := by first | (simp only [f_KF]; done) | (simp only [f_KF]; rfl)
theorem e_int {n : Int} : wpE (.int n) X τ st Q = Q (.int n) st := rfl
theorem e_bl {n : Bool} : wpE (.bl n) X τ st Q = Q (.bl n) st := rfl
theorem e_non  : wpE .non X τ st Q = Q .non st := rfl
theorem e_str {n : Str} : wpE (.str n) X τ st Q = Q (.str n) st := rfl
theorem e_glob {n : Str} {v : PV} : wpE (.glob n v) X τ st Q = Q v st := rfl
theorem e_bin {o : Operator} {m : Bool} {a b : E} : wpE (.bin o m a b) X τ st Q = wpE a X τ st (KBin1 o m b X τ Q) := by first | (simp only [f_KBin1, f_KBin2]; done) | (simp only [f_KBin1, f_KBin2]; rfl)
theorem e_neg {a : E} : wpE (.neg a) X τ st Q = wpE a X τ st (KNeg Q) := by first | (simp only [f_KNeg]; done) | (simp only [f_KNeg]; rfl)
theorem e_un {f : UF} {a : E} : wpE (.un f a) X τ st Q = wpE a X τ st (KUn f Q) := by first | (simp only [f_KUn]; done) | (simp only [f_KUn]; rfl)
theorem e_not {a : E} : wpE (.not a) X τ st Q = wpE a X τ st (KNot Q) := by first | (simp only [f_KNot, f_KNot2]; done) | (simp only [f_KNot, f_KNot2]; rfl)
theorem e_cmp {o : CmpOp} {a b : E} : wpE (.cmp o a b) X τ st Q = wpE a X τ st (KCmp1 o b X τ Q) := by first | (simp only [f_KCmp1, f_KCmp2]; done) | (simp only [f_KCmp1, f_KCmp2]; rfl)
theorem e_chain {o o' : CmpOp} {a b c : E} : wpE (.chain o o' a b c) X τ st Q = wpE a X τ st (KCh1 o o' b c X τ Q) := by first | (simp only [f_KCh1, f_KCh2, f_KCh3, f_KCh4, f_KCmp2]; done) | (simp only [f_KCh1, f_KCh2, f_KCh3, f_KCh4, f_KCmp2]; rfl)
theorem e_bools {o : BoolOp} {es : Es} : wpE (.bools o es) X τ st Q = wpBs o es X τ st Q := rfl
theorem e_ite {t : T} {a b : E} : wpE (.ite t a b) X τ st Q = wpT t X τ st (KIf a b X τ Q) := by first | (simp only [f_KIf]; done) | (simp only [f_KIf]; rfl)
theorem e_tup {es : Es} : wpE (.tup es) X τ st Q = wpEs es X τ st (KTup Q) := by first | (simp only [f_KTup]; done) | (simp only [f_KTup]; rfl)
theorem e_lst {m : Bool} {es : Es} : wpE (.lst m es) X τ st Q = wpEs es X τ st (KLst m Q) := by first | (simp only [f_KLst]; done) | (simp only [f_KLst]; rfl)
theorem e_idx {a i : E} : wpE (.idx a i) X τ st Q = wpE a X τ st (KIdx1 i X τ Q) := by first | (simp only [f_KIdx1, f_KIdx2]; done) | (simp only [f_KIdx1, f_KIdx2]; rfl)
theorem e_slice {m : Bool} {a : E} {lo hi : OE} : wpE (.slice m a lo hi) X τ st Q = wpE a X τ st (KSl1 m lo hi X τ Q) := by first | (simp only [f_KSl1, f_KSl2, f_KSl3]; done) | (simp only [f_KSl1, f_KSl2, f_KSl3]; rfl)
theorem e_call {f : Str} {sp : PSpec} {es : Es} : wpE (.call f sp es) X τ st Q = wpEs es X τ st (KCall sp X Q) := by first | (simp only [f_KCall]; done) | (simp only [f_KCall]; rfl)
theorem e_blt {f : BF} {m : Bool} {es : Es} : wpE (.blt f m es) X τ st Q = wpEs es X τ st (KBlt f m Q) := by first | (simp only [f_KBlt]; done) | (simp only [f_KBlt]; rfl)
theorem e_isi {e : E} {ty : Str} : wpE (.isi e ty) X τ st Q = wpE e X τ st (KIsi ty Q) := by first | (simp only [f_KIsi, f_KIsi2]; done) | (simp only [f_KIsi, f_KIsi2]; rfl)
theorem e_meth {f : MF} {o : E} {es : Es} : wpE (.meth f o es) X τ st Q = wpE o X τ st (KMe1 f es X τ Q) := by first | (simp only [f_KMe1, f_KMe2]; done) | (simp only [f_KMe1, f_KMe2]; rfl)
theorem e_comp {m : Bool} {vs : List Nat} {tg : TG} {it : I} {ts : Ts} {elt : E} : wpE (.comp m vs tg it ts elt) X τ st Q = wpI it X τ st (KComp m vs tg it.isR ts elt τ Q) := by first | (simp only [f_KComp, f_KComp2]; done) | (simp only [f_KComp, f_KComp2]; rfl)
theorem es_nil {R : List PV → Store → Prop} : wpEs .nil X τ st R = R [] st := rfl
theorem es_cons {e : E} {es : Es} {R : List PV → Store → Prop} : wpEs (.cons e es) X τ st R = wpE e X τ st (KEs1 es X τ R) := by first | (simp only [f_KEs1, f_KEs2]; done) | (simp only [f_KEs1, f_KEs2]; rfl)
theorem bs_one {o : BoolOp} {e : E} : wpBs o (.cons e .nil) X τ st Q = wpE e X τ st Q := rfl
theorem bs_and {e e' : E} {es : Es} : wpBs .And (.cons e (.cons e' es)) X τ st Q = wpE e X τ st (KBs .And (.cons e' es) X τ Q) := by first | (simp only [f_KBs, f_KBs2]; done) | (simp only [f_KBs, f_KBs2]; rfl)
theorem bs_or {e e' : E} {es : Es} : wpBs .Or (.cons e (.cons e' es)) X τ st Q = wpE e X τ st (KBs .Or (.cons e' es) X τ Q) := by first | (simp only [f_KBs, f_KBs2]; done) | (simp only [f_KBs, f_KBs2]; rfl)
theorem o_no {R : Option Int → Store → Prop} : wpO .no X τ st R = R none st := rfl
theorem o_yes {e : E} {R : Option Int → Store → Prop} : wpO (.yes e) X τ st R = wpE e X τ st (KO R) := by first | (simp only [f_KO, f_KO2]; done) | (simp only [f_KO, f_KO2]; rfl)
theorem t_val {e : E} {R : Bool → Store → Prop} : wpT (.val e) X τ st R = wpE e X τ st (KTv R) := by first | (simp only [f_KTv]; done) | (simp only [f_KTv]; rfl)
theorem t_cmp {o : CmpOp} {a b : E} {R : Bool → Store → Prop} : wpT (.cmp o a b) X τ st R = wpE a X τ st (KT1 o b X τ R) := by first | (simp only [f_KT1, f_KT2, f_KT3, f_KT4]; done) | (simp only [f_KT1, f_KT2, f_KT3, f_KT4]; rfl)
theorem t_chain {o o' : CmpOp} {a b c : E} {R : Bool → Store → Prop} : wpT (.chain o o' a b c) X τ st R = wpE a X τ st (KTc1 o o' b c X τ R) := by first | (simp only [f_KT2, f_KT3, f_KT4, f_KTc1, f_KTc2, f_KTc3, f_KTc4]; done) | (simp only [f_KT2, f_KT3, f_KT4, f_KTc1, f_KTc2, f_KTc3, f_KTc4]; rfl)
theorem t_not {t : T} {R : Bool → Store → Prop} : wpT (.not t) X τ st R = wpT t X τ st (KTn R) := by first | (simp only [f_KTn]; done) | (simp only [f_KTn]; rfl)
theorem t_bools {o : BoolOp} {ts : Ts} {R : Bool → Store → Prop} : wpT (.bools o ts) X τ st R = wpTs o ts X τ st R := rfl
theorem t_ite {t a b : T} {R : Bool → Store → Prop} : wpT (.ite t a b) X τ st R = wpT t X τ st (KTi a b X τ R) := by first | (simp only [f_KTi]; done) | (simp only [f_KTi]; rfl)
theorem ts_nilA {R : Bool → Store → Prop} : wpTs .And .nil X τ st R = R true st := rfl
theorem ts_nilO {R : Bool → Store → Prop} : wpTs .Or .nil X τ st R = R false st := rfl
theorem ts_and {t : T} {ts : Ts} {R : Bool → Store → Prop} : wpTs .And (.cons t ts) X τ st R = wpT t X τ st (KTs .And ts X τ R) := by first | (simp only [f_KTs]; done) | (simp only [f_KTs]; rfl)
theorem ts_or {t : T} {ts : Ts} {R : Bool → Store → Prop} : wpTs .Or (.cons t ts) X τ st R = wpT t X τ st (KTs .Or ts X τ R) := by first | (simp only [f_KTs]; done) | (simp only [f_KTs]; rfl)
theorem i_val {e : E} {R : List PV → (Store → Prop) → Store → Prop} : wpI (.val e) X τ st R = wpE e X τ st (KI1 R) := by first | (simp only [f_KI1]; done) | (simp only [f_KI1]; rfl)
theorem i_r1 {e : E} {R : List PV → (Store → Prop) → Store → Prop} : wpI (.range1 e) X τ st R = wpE e X τ st (KR1 R) := by first | (simp only [f_KR1, f_KR12]; done) | (simp only [f_KR1, f_KR12]; rfl)
theorem i_r2 {a b : E} {R : List PV → (Store → Prop) → Store → Prop} : wpI (.range2 a b) X τ st R = wpE a X τ st (KR2a b X τ R) := by first | (simp only [f_KR2a, f_KR2b, f_KR2c, f_KR2d]; done) | (simp only [f_KR2a, f_KR2b, f_KR2c, f_KR2d]; rfl)
theorem i_en {e : E} {R : List PV → (Store → Prop) → Store → Prop} : wpI (.enum e) X τ st R = wpE e X τ st (KEn R) := by first | (simp only [f_KEn]; done) | (simp only [f_KEn]; rfl)
theorem i_zip {a b : E} {R : List PV → (Store → Prop) → Store → Prop} : wpI (.zip a b) X τ st R = wpE a X τ st (KZ1 b X τ R) := by first | (simp only [f_KZ1, f_KZ2]; done) | (simp only [f_KZ1, f_KZ2]; rfl)
end
section
variable {D : PEnds} {τ : Sl} {st : Store}
theorem s_asgN {i : Nat} {e : E} : wpS (.asg (.name i) e) D τ st = wpE e (KEx D τ) τ st (KAsgN i τ D) := by first | (simp only [f_KAsgN]; done) | (simp only [f_KAsgN]; rfl)
theorem s_asgT {ts : TGs} {e : E} : wpS (.asg (.tup ts) e) D τ st = wpE e (KEx D τ) τ st (KAsg (.tup ts) τ D) := by first | (simp only [f_KAsg, f_KNx]; done) | (simp only [f_KAsg, f_KNx]; rfl)
theorem s_asgLc {i : Nat} {e : E} : wpS (.asgLc i e) D τ st = wpE e (KEx D τ) τ st (KAsgN i τ D) := by first | (simp only [f_KAsgN]; done) | (simp only [f_KAsgN]; rfl)
theorem s_setIx {o i e : E} : wpS (.setIx o i e) D τ st = wpE e (KEx D τ) τ st (KSx1 o i τ D) := by first | (simp only [f_KSx1, f_KSx2, f_KSx3, f_KSx4]; done) | (simp only [f_KSx1, f_KSx2, f_KSx3, f_KSx4]; rfl)
theorem s_aug {i : Nat} {o : Operator} {e : E} : wpS (.aug i o e) D τ st = oP (getS τ i) (KAug1 i o e τ D st) := by first | (simp only [f_KAsgN, f_KAug1, f_KAug2]; done) | (simp only [f_KAsgN, f_KAug1, f_KAug2]; rfl)
theorem s_expr {e : E} : wpS (.expr e) D τ st = wpE e (KEx D τ) τ st (KExpr τ D) := by first | (simp only [f_KExpr]; done) | (simp only [f_KExpr]; rfl)
theorem s_ret {e : E} : wpS (.ret e) D τ st = wpE e (KEx D τ) τ st D.rt := rfl
theorem s_retN  : wpS .retN D τ st = D.rt .non st := rfl
theorem s_ite {t : T} {a b : Ss} : wpS (.ite t a b) D τ st = wpT t (KEx D τ) τ st (KArm a b τ D) := by
  have e : KArm a b τ D = fun k st1 => if k = true then wpSs a D τ st1 else wpSs b D τ st1 := by
    funext k st1; unfold KArm; rw [Blk_eq, Arm_eq, Arm_eq]
  rw [e]; rfl
theorem s_loop {tg : TG} {it : I} {b : Ss} : wpS (.loop tg it b) D τ st = wpI it (KEx D τ) τ st (KLoop tg b τ D) := by first | (simp only [f_KLoop]; done) | (simp only [f_KLoop]; rfl)
theorem s_while {t : T} {b : Ss} : wpS (.while t b) D τ st = whileL (KWt t D) (wpSs b) D τ st := by first | (simp only [f_KWt]; done) | (simp only [f_KWt]; rfl)
theorem s_pass  : wpS .pass D τ st = D.nx τ st := rfl
theorem s_brk  : wpS .brk D τ st = D.bk τ st := rfl
theorem s_cont  : wpS .cont D τ st = D.ct τ st := rfl
end
theorem rt_fn {Q : PQ} {X : EQ} {v : PV} {s : Store} : (fnEnds Q X).rt v s = ∃ s0, Sub s0 s ∧ Q v s0 := rfl
theorem nx_fn {Q : PQ} {X : EQ} {τ : Sl} {s : Store} : (fnEnds Q X).nx τ s = ∃ s0, Sub s0 s ∧ Q .non s0 := rfl
theorem oP_some {α : Type} {a : α} {k : α → Prop} : oP (some a) k = k a := rfl
theorem oP_none {α : Type} {k : α → Prop} : oP none k = False := rfl
theorem onBl_eq {b : Bool} {k : Bool → Prop} : onBl (.bl b) k = k b := rfl
theorem onInt_eq {b : Int} {k : Int → Prop} : onInt (.int b) k = k b := rfl
theorem natc0 : ((0 : Nat) : Int) = 0 := rfl
theorem natc1 : ((1 : Nat) : Int) = 1 := rfl
theorem natc2 : ((2 : Nat) : Int) = 2 := rfl
theorem natc3 : ((3 : Nat) : Int) = 3 := rfl
theorem natc4 : ((4 : Nat) : Int) = 4 := rfl
theorem natc5 : ((5 : Nat) : Int) = 5 := rfl
theorem natc6 : ((6 : Nat) : Int) = 6 := rfl
theorem natc7 : ((7 : Nat) : Int) = 7 := rfl
theorem natc8 : ((8 : Nat) : Int) = 8 := rfl
theorem isNon_non : isNon .non = true := rfl
theorem isNon_int {i : Int} : isNon (.int i) = false := rfl
theorem isNon_bl {i : Bool} : isNon (.bl i) = false := rfl
theorem isNon_str {i : Str} : isNon (.str i) = false := rfl
theorem isNon_tup {i : List PV} : isNon (.tup i) = false := rfl
theorem isNon_lst {i : List PV} : isNon (.lst i) = false := rfl
theorem isNon_ref {i : Nat} : isNon (.ref i) = false := rfl
theorem getS_0 {x : Option PV} {r : Sl} : getS (x :: r) 0 = x := rfl
theorem getS_s {x : Option PV} {r : Sl} {n : Nat} : getS (x :: r) (n + 1) = getS r n := rfl
/-- an item at a number of the text -/
theorem atI_nat {α : Type} {xs : List α} {n : Nat} : atI xs (n : Int) = xs[n]? := by
  unfold atI ixN
  rw [if_pos (by omega)]
  by_cases h : n < xs.length
  · rw [if_pos (by omega)]; simp
  · rw [if_neg (by omega)]
    simp only [Option.bind_none]
    exact (List.getElem?_eq_none (by omega)).symm
theorem atI_0 {α : Type} {x : α} {r : List α} : atI (x :: r) 0 = some x := atI_nat (n := 0)
theorem atI_1 {α : Type} {x y : α} {r : List α} : atI (x :: y :: r) 1 = some y := atI_nat (n := 1)
theorem atI_2 {α : Type} {x y z : α} {r : List α} : atI (x :: y :: z :: r) 2 = some z := atI_nat (n := 2)
theorem atI_3 {α : Type} {x y z u : α} {r : List α} : atI (x :: y :: z :: u :: r) 3 = some u := atI_nat (n := 3)
theorem atI_4 {α : Type} {x y z u v : α} {r : List α} : atI (x :: y :: z :: u :: v :: r) 4 = some v := atI_nat (n := 4)
theorem atI_of {α : Type} {xs : List α} {i : Int} (h0 : 0 ≤ i) (h : i < xs.length) : atI xs i = some (xs[i.toNat]'(by omega)) := by
  obtain ⟨n, rfl⟩ := Int.eq_ofNat_of_zero_le h0
  rw [atI_nat]
  exact List.getElem?_eq_getElem _
theorem atI_int {ns : List Int} {i : Int} (h0 : 0 ≤ i) (h : i < ns.length) : atI (ns.map PV.int) i = some (.int (ns[i.toNat]'(by omega))) := by
  rw [atI_of h0 (by simpa using h)]
  simp
theorem ixN_nat {n m : Nat} (h : m < n) : ixN n (m : Int) = some m := by
  unfold ixN
  rw [if_pos (by omega), if_pos (by omega)]; simp
theorem while_ind {t : T} {b : Ss} {D : PEnds} (W : Nat → Sl → Store → Prop)
    (h : ∀ n τ st, W n τ st → wpT t (KEx D τ) τ st fun k st1 => if k = true then wpSs b (D.lp fun τ' st' => ∃ m, m < n ∧ W m τ' st') τ st1 else D.nx τ st1)
    {τ : Sl} {st : Store} (n : Nat) (h0 : W n τ st) : whileL (KWt t D) (wpSs b) D τ st := by
  rw [f_KWt]
  exact ⟨W, ⟨n, h0⟩, h⟩

theorem Arm_nil {D : PEnds} : Arm .nil D = D.nx := by funext τ st; exact Arm_eq
theorem sz_0 : (0 ≤ sizeLine) = True := eq_true (by decide)
theorem sz_1 : (1 ≤ sizeLine) = True := eq_true (by decide)
theorem sz_2 : (2 ≤ sizeLine) = True := eq_true (by decide)
theorem sz_3 : (3 ≤ sizeLine) = True := eq_true (by decide)
theorem sz_4 : (4 ≤ sizeLine) = True := eq_true (by decide)
theorem sz_5 : (5 ≤ sizeLine) = True := eq_true (by decide)
theorem sz_6 : (6 ≤ sizeLine) = True := eq_true (by decide)
theorem sz_7 : (7 ≤ sizeLine) = True := eq_true (by decide)
theorem sz_8 : (8 ≤ sizeLine) = True := eq_true (by decide)
theorem sz_9 : (9 ≤ sizeLine) = True := eq_true (by decide)
theorem sz_10 : (10 ≤ sizeLine) = True := eq_true (by decide)
theorem sz_11 : (11 ≤ sizeLine) = True := eq_true (by decide)
theorem sz_12 : (12 ≤ sizeLine) = True := eq_true (by decide)
theorem cp_2 : CPow 10 2 = True := eq_true (by unfold CPow; decide)
theorem cp_3 : CPow 10 3 = True := eq_true (by unfold CPow; decide)
theorem cp_4 : CPow 10 4 = True := eq_true (by unfold CPow; decide)
theorem cp_5 : CPow 10 5 = True := eq_true (by unfold CPow; decide)
theorem cp_6 : CPow 10 6 = True := eq_true (by unfold CPow; decide)
theorem cp_7 : CPow 10 7 = True := eq_true (by unfold CPow; decide)
theorem cp_12 : CPow 10 12 = True := eq_true (by unfold CPow; decide)
theorem cp_20 : CPow 10 20 = True := eq_true (by unfold CPow; decide)
theorem cp_30 : CPow 10 30 = True := eq_true (by unfold CPow; decide)
theorem cp_38 : CPow 10 38 = True := eq_true (by unfold CPow; decide)
theorem cp_39 : CPow 10 39 = True := eq_true (by unfold CPow; decide)
theorem cp_40 : CPow 10 40 = True := eq_true (by unfold CPow; decide)
/-! ### operations on followed lists -/
def KSet2 (a : Nat) (v : PV) (st : Store) (Q : Store → Prop) (xs : List PV) (j : Nat) : Prop := Q (up st a (some (.lst (xs.set j v))))
def KSet1 (a : Nat) (k : Int) (v : PV) (st : Store) (Q : Store → Prop) (xs : List PV) : Prop := oP (ixN xs.length k) (KSet2 a v st Q xs)
def KApp (a : Nat) (v : PV) (st : Store) (Q : PQ) (xs : List PV) : Prop := xs.length < sizeLine ∧ Q .non (up st a (some (.lst (xs ++ [v]))))
def KExt (a : Nat) (w : PV) (st : Store) (Q : PQ) (xs : List PV) : Prop := oP (extOf st w) fun ys => xs.length + ys.length ≤ sizeLine ∧ Q .non (up st a (some (.lst (xs ++ ys))))
def KPop (a : Nat) (st : Store) (Q : PQ) (xs : List PV) : Prop := oP (xs[xs.length - 1]?) fun y => Q y (up st a (some (.lst xs.dropLast)))
def KAddL (m : Bool) (w : PV) (st : Store) (Q : PQ) (xs : List PV) : Prop := oP (lstOf st w) fun ys => xs.length + ys.length ≤ sizeLine ∧ newList m (xs ++ ys) st Q
def KCut (m : Bool) (lo hi : Option Int) (st : Store) (Q : PQ) (xs : List PV) : Prop := newList m (cutP xs lo hi) st Q
def KTru (st : Store) (Q : Bool → Store → Prop) (xs : List PV) : Prop := Q (!xs.isEmpty) st
theorem lstOf_ref {st : Store} {a : Nat} {xs : List PV} : lstOf st (.ref a) = some xs ↔ st a = some (.lst xs) := by
  show (match st a with
    | some (.lst xs) => some xs
    | _ => none) = some xs ↔ _
  cases h : st a with
  | none => simp
  | some c => cases c <;> simp
theorem oP_iff {α : Type} {o : Option α} {k : α → Prop} : oP o k ↔ ∃ a, o = some a ∧ k a := by
  cases o with
  | none => simp [oP]
  | some a => simp [oP]
theorem v_set {a : Nat} {k : Int} {v : PV} {st : Store} {Q : Store → Prop} : setIxV (.ref a) (.int k) v st Q = oP (lstOf st (.ref a)) (KSet1 a k v st Q) := by
  refine propext ⟨fun ⟨xs, j, h1, h2, h3⟩ => oP_iff.mpr ⟨xs, lstOf_ref.mpr h1, oP_iff.mpr ⟨j, h2, h3⟩⟩, fun h => ?_⟩
  obtain ⟨xs, h1, h2⟩ := oP_iff.mp h
  obtain ⟨j, h2, h3⟩ := oP_iff.mp h2
  exact ⟨xs, j, lstOf_ref.mp h1, h2, h3⟩
theorem v_app {a : Nat} {v : PV} {st : Store} {Q : PQ} : methV .append (.ref a) [v] st Q = oP (lstOf st (.ref a)) (KApp a v st Q) := by
  refine propext ⟨fun ⟨xs, h1, h2⟩ => oP_iff.mpr ⟨xs, lstOf_ref.mpr h1, h2⟩, fun h => ?_⟩
  obtain ⟨xs, h1, h2⟩ := oP_iff.mp h
  exact ⟨xs, lstOf_ref.mp h1, h2⟩
theorem v_ext {a : Nat} {w : PV} {st : Store} {Q : PQ} : methV .extend (.ref a) [w] st Q = oP (lstOf st (.ref a)) (KExt a w st Q) := by
  refine propext ⟨fun ⟨xs, ys, h1, h2, h3⟩ => oP_iff.mpr ⟨xs, lstOf_ref.mpr h1, oP_iff.mpr ⟨ys, h2, h3⟩⟩, fun h => ?_⟩
  obtain ⟨xs, h1, h2⟩ := oP_iff.mp h
  obtain ⟨ys, h2, h3⟩ := oP_iff.mp h2
  exact ⟨xs, ys, lstOf_ref.mp h1, h2, h3⟩
theorem v_pop {a : Nat} {st : Store} {Q : PQ} : methV .pop (.ref a) [] st Q = oP (lstOf st (.ref a)) (KPop a st Q) := by
  refine propext ⟨fun ⟨xs, ys, h1, h2, h3⟩ => oP_iff.mpr ⟨xs, lstOf_ref.mpr h1, oP_iff.mpr ⟨ys, h2, h3⟩⟩, fun h => ?_⟩
  obtain ⟨xs, h1, h2⟩ := oP_iff.mp h
  obtain ⟨ys, h2, h3⟩ := oP_iff.mp h2
  exact ⟨xs, ys, lstOf_ref.mp h1, h2, h3⟩
theorem v_addRL {m : Bool} {a : Nat} {ys : List PV} {st : Store} {Q : PQ} : binV .Add m (.ref a) (.lst ys) st Q = oP (lstOf st (.ref a)) (KAddL m (.lst ys) st Q) := by
  refine propext ⟨fun ⟨xs, h1, h2⟩ => oP_iff.mpr ⟨xs, lstOf_ref.mpr h1, h2⟩, fun h => ?_⟩
  obtain ⟨xs, h1, h2⟩ := oP_iff.mp h
  exact ⟨xs, lstOf_ref.mp h1, h2⟩
theorem v_addLR {m : Bool} {a : Nat} {xs : List PV} {st : Store} {Q : PQ} : binV .Add m (.lst xs) (.ref a) st Q = KAddL m (.ref a) st Q xs := by
  refine propext ⟨fun ⟨ys, h1, h2⟩ => oP_iff.mpr ⟨ys, lstOf_ref.mpr h1, h2⟩, fun h => ?_⟩
  obtain ⟨ys, h1, h2⟩ := oP_iff.mp h
  exact ⟨ys, lstOf_ref.mp h1, h2⟩
theorem v_addRR {m : Bool} {a b : Nat} {st : Store} {Q : PQ} : binV .Add m (.ref a) (.ref b) st Q = oP (lstOf st (.ref a)) (KAddL m (.ref b) st Q) := by
  refine propext ⟨fun ⟨xs, ys, h1, h2, h3⟩ => oP_iff.mpr ⟨xs, lstOf_ref.mpr h1, oP_iff.mpr ⟨ys, lstOf_ref.mpr h2, h3⟩⟩, fun h => ?_⟩
  obtain ⟨xs, h1, h2⟩ := oP_iff.mp h
  obtain ⟨ys, h2, h3⟩ := oP_iff.mp h2
  exact ⟨xs, ys, lstOf_ref.mp h1, lstOf_ref.mp h2, h3⟩
theorem v_cut {m : Bool} {a : Nat} {lo hi : Option Int} {st : Store} {Q : PQ} : sliceV m (.ref a) lo hi st Q = oP (lstOf st (.ref a)) (KCut m lo hi st Q) := by
  refine propext ⟨fun ⟨xs, h1, h2⟩ => oP_iff.mpr ⟨xs, lstOf_ref.mpr h1, h2⟩, fun h => ?_⟩
  obtain ⟨xs, h1, h2⟩ := oP_iff.mp h
  exact ⟨xs, lstOf_ref.mp h1, h2⟩
theorem v_tru {a : Nat} {st : Store} {Q : Bool → Store → Prop} : truV (.ref a) st Q = oP (lstOf st (.ref a)) (KTru st Q) := by
  refine propext ⟨fun ⟨xs, h1, h2⟩ => oP_iff.mpr ⟨xs, lstOf_ref.mpr h1, h2⟩, fun h => ?_⟩
  obtain ⟨xs, h1, h2⟩ := oP_iff.mp h
  exact ⟨xs, lstOf_ref.mp h1, h2⟩
theorem ix_50 : ixN 5 0 = some 0 := rfl
theorem ix_51 : ixN 5 1 = some 1 := rfl
theorem ix_52 : ixN 5 2 = some 2 := rfl
theorem ix_53 : ixN 5 3 = some 3 := rfl
theorem ix_54 : ixN 5 4 = some 4 := rfl
theorem inOk_sc {st : Store} {v w : PV} {xs : List PV} (h : isSc v = true) (k : xs.all isSc = true) : inOk st v w xs := .inl ⟨h, k⟩
/-! ### operations whose wish is looked at later -/
def KItL (i : Int) (st : Store) (Q : PQ) (xs : List PV) : Prop := oP (atI xs i) (KV st Q)
def KLen (st : Store) (Q : PQ) (xs : List PV) : Prop := Q (.int xs.length) st
def KTupB (st : Store) (Q : PQ) (xs : List PV) : Prop := Q (.tup xs) st
def KListB (m : Bool) (st : Store) (Q : PQ) (xs : List PV) : Prop := newList m xs st Q
def KAll2 (st : Store) (Q : PQ) (bs : List Bool) : Prop := Q (.bl (bs.all id)) st
def KAll (st : Store) (Q : PQ) (xs : List PV) : Prop := oP (blsOf xs) (KAll2 st Q)
def KAny2 (st : Store) (Q : PQ) (bs : List Bool) : Prop := Q (.bl (bs.any id)) st
def KAny (st : Store) (Q : PQ) (xs : List PV) : Prop := oP (blsOf xs) (KAny2 st Q)
def KSum2 (st : Store) (Q : PQ) (ns : List Int) : Prop := Q (.int ns.sum) st
def KSum (st : Store) (Q : PQ) (xs : List PV) : Prop := oP (intsOf xs) (KSum2 st Q)
def KMax2 (st : Store) (Q : PQ) (ns : List Int) : Prop := ns ≠ [] ∧ Q (.int (maxL ns)) st
def KMax (st : Store) (Q : PQ) (xs : List PV) : Prop := oP (intsOf xs) (KMax2 st Q)
def KMin2 (st : Store) (Q : PQ) (ns : List Int) : Prop := ns ≠ [] ∧ Q (.int (minL ns)) st
def KMin (st : Store) (Q : PQ) (xs : List PV) : Prop := oP (intsOf xs) (KMin2 st Q)
def KIn (v w : PV) (st : Store) (Q : PQ) (xs : List PV) : Prop := inOk st v w xs ∧ Q (.bl (xs.any fun y => eqv y v)) st
def KNotIn (v w : PV) (st : Store) (Q : PQ) (xs : List PV) : Prop := inOk st v w xs ∧ Q (.bl (!xs.any fun y => eqv y v)) st
def KItR (f : List PV → List PV) (a : Nat) (st : Store) (Q : List PV → (Store → Prop) → Store → Prop) (xs : List PV) : Prop := Q (f xs) (fun s => s a = some (.lst xs)) st
def KFrz (a : Nat) (st : Store) (Q : PQ) (xs : List PV) : Prop := Q (.lst xs) (up st a none)
section
variable {m : Bool} {st : Store} {Q : PQ} {v : PV} {a : Nat} {xs : List PV} {i : Int}
theorem v_itT  : itemV i (.tup xs) st Q = oP (atI xs i) (KV st Q) := rfl
theorem v_itL  : itemV i (.lst xs) st Q = oP (atI xs i) (KV st Q) := rfl
theorem v_itR  : itemV i (.ref a) st Q = oP (lstOf st (.ref a)) (KItL i st Q) := rfl
theorem v_lenR  : bltV .len m [.ref a] st Q = oP (lstOf st (.ref a)) (KLen st Q) := rfl
theorem v_tuple  : bltV .tuple m [v] st Q = oP (seqOf st v) (KTupB st Q) := rfl
theorem v_listR  : bltV .list m [.ref a] st Q = oP (lstOf st (.ref a)) (KListB m st Q) := rfl
theorem v_all  : bltV .all m [v] st Q = oP (lstOf st v) (KAll st Q) := rfl
theorem v_any  : bltV .any m [v] st Q = oP (lstOf st v) (KAny st Q) := rfl
theorem v_sum  : bltV .sum m [v] st Q = oP (lstOf st v) (KSum st Q) := rfl
theorem v_max  : bltV .max m [v] st Q = oP (lstOf st v) (KMax st Q) := rfl
theorem v_min  : bltV .min m [v] st Q = oP (lstOf st v) (KMin st Q) := rfl
theorem v_in {w : PV} : cmpV .In v w st Q = oP (seqOf st w) (KIn v w st Q) := rfl
theorem v_notIn {w : PV} : cmpV .NotIn v w st Q = oP (seqOf st w) (KNotIn v w st Q) := rfl
theorem v_it {f : List PV → List PV} {K : List PV → (Store → Prop) → Store → Prop} : itV f (.ref a) st K = oP (lstOf st (.ref a)) (KItR f a st K) := rfl
theorem v_itL2 {f : List PV → List PV} {K : List PV → (Store → Prop) → Store → Prop} : itVL f (.ref a) st K = oP (lstOf st (.ref a)) (KItR f a st K) := rfl
theorem v_frz  : frzV (.ref a) st Q = oP (lstOf st (.ref a)) (KFrz a st Q) := rfl
end
section
variable {st : Store} {Q : PQ} {i j : Int} {a b : Bool}
theorem v_eqII : cmpV .Eq (.int i) (.int j) st Q = Q (.bl (decide (i = j))) st := by
  show (eqOk st (.int i) (.int j) ∧ Q (.bl (eqv (.int i) (.int j))) st) = _
  rw [show eqv (.int i) (.int j) = decide (i = j) by unfold eqv; rfl]
  exact propext ⟨fun h => h.2, fun h => ⟨.inl rfl, h⟩⟩
theorem v_neII : cmpV .NotEq (.int i) (.int j) st Q = Q (.bl (!decide (i = j))) st := by
  show (eqOk st (.int i) (.int j) ∧ Q (.bl (!eqv (.int i) (.int j))) st) = _
  rw [show eqv (.int i) (.int j) = decide (i = j) by unfold eqv; rfl]
  exact propext ⟨fun h => h.2, fun h => ⟨.inl rfl, h⟩⟩
theorem v_eqSS {x y : Str} : cmpV .Eq (.str x) (.str y) st Q = Q (.bl (decide (x = y))) st := by
  show (eqOk st (.str x) (.str y) ∧ Q (.bl (eqv (.str x) (.str y))) st) = _
  rw [show eqv (.str x) (.str y) = decide (x = y) by unfold eqv; rfl]
  exact propext ⟨fun h => h.2, fun h => ⟨.inl rfl, h⟩⟩
theorem v_eqBB : cmpV .Eq (.bl a) (.bl b) st Q = Q (.bl (a == b)) st := by
  show (eqOk st (.bl a) (.bl b) ∧ Q (.bl (eqv (.bl a) (.bl b))) st) = _
  rw [show eqv (.bl a) (.bl b) = (a == b) by unfold eqv; rfl]
  exact propext ⟨fun h => h.2, fun h => ⟨.inl rfl, h⟩⟩
theorem v_neBB : cmpV .NotEq (.bl a) (.bl b) st Q = Q (.bl (!(a == b))) st := by
  show (eqOk st (.bl a) (.bl b) ∧ Q (.bl (!eqv (.bl a) (.bl b))) st) = _
  rw [show eqv (.bl a) (.bl b) = (a == b) by unfold eqv; rfl]
  exact propext ⟨fun h => h.2, fun h => ⟨.inl rfl, h⟩⟩
end
end TK

set_option maxRecDepth 100000
set_option maxHeartbeats 4000000
namespace TK
open PySem PySem.Spec PyProof.Rows L2
/-! ### the drawing of numbers from the script -/
/-- a number one may divide by -/
def Sm (n : Int) : Prop := n.natAbs < 2 ^ 8000
theorem Sm.of {n : Int} (h : n.natAbs ≤ 10 ^ 100) : Sm n := Nat.lt_of_le_of_lt h (by decide)
theorem Sm.div {n : Int} (h : Sm n) (h0 : n ≠ 0) : DivOk n := ⟨h0, Nat.lt_of_lt_of_le ((Nat.log2_lt (by omega)).mpr h) (by decide)⟩
theorem Sm.lit {n : Nat} (h : n < 2 ^ 8000) : Sm (n : Int) := h
def poolC (ns : List Int) (x b c d : Int) : Cell := .lst [.lst (ns.map .int), .int x, .int b, .int c, .int d]
theorem unpool {K : PySem.W.Frag} {H : Hp} {F : FS} {st : Store} {p : Addr} (r : RS K H F st) (e : st p = some .pool) : ∃ ns x b c d, 0 ≤ x ∧ RS K H F (up st p (some (poolC ns x b c d))) := by
  obtain ⟨nf, q, ns, x, b, c, d, h1, h2, h3, h4⟩ := r.pool p e
  refine ⟨ns, x, b, c, d, h4, fun a xs z => ?_, fun a z => ?_, r.fz⟩
  · by_cases n : a = p
    · subst n
      rw [up_same] at z; cases z
      exact ⟨nf, _, h1, .cons (.lst h2 h3 (DVs.ints ns)) (.cons (.int _) (.cons (.int _) (.cons (.int _) (.cons (.int _) .nil))))⟩
    · rw [up_ne n] at z; exact r.lst a xs z
  · by_cases n : a = p
    · subst n; rw [up_same] at z; cases z
    · rw [up_ne n] at z; exact r.pool a z
theorem repool {K : PySem.W.Frag} {H : Hp} {F : FS} {st : Store} {p : Addr} {ns : List Int} {x b c d : Int} (r : RS K H F (up st p (some (poolC ns x b c d)))) (hx : 0 ≤ x) : RS K H F (up st p (some .pool)) := by
  refine ⟨fun a xs z => ?_, fun a z => ?_, r.fz⟩
  · by_cases n : a = p
    · subst n; rw [up_same] at z; cases z
    · rw [up_ne n] at z; exact r.lst a xs (by rw [up_ne n]; exact z)
  · by_cases n : a = p
    · subst n
      obtain ⟨nf, ys, h, d⟩ := r.lst a _ up_same
      refine ⟨nf, ?_⟩
      cases d with
      | cons d0 d =>
        cases d with
        | cons d1 d => cases d with
          | cons d2 d => cases d with
            | cons d3 d => cases d with
              | cons d4 d => cases d with
                | nil =>
                  cases d1; cases d2; cases d3; cases d4
                  cases d0 with
                  | lst f e dd => exact ⟨_, ns, _, _, _, _, h, f, e.trans (by rw [dd.of_ints]), hx⟩
    · rw [up_ne n] at z; exact r.pool a (by rw [up_ne n]; exact z)
/-- a list-level promise, told of the pool -/
def sl__law_pool : PSpec
  | [.scr ns], st, Q, _ => ∀ p, st p = none → Q (.ref p) (up st p (some (poolC ns 0 0 7 0)))
  | _, _, _, _ => False
def sp__law_pool : PSpec
  | [.scr _], st, Q, _ => ∀ p, st p = none → Q (.ref p) (up st p (some .pool))
  | _, _, _, _ => False
def sp__law_mix : PSpec
  | [.ref p], st, Q, _ => ∃ ns x b c d, st p = some (poolC ns x b c d) ∧ ∀ c' d', 0 ≤ c' → Q (.int c') (up st p (some (poolC ns x b c' d')))
  | _, _, _, _ => False
def sl__law_draw : PSpec
  | [.ref p, .int many], st, Q, _ => ∃ ns x b c d, st p = some (poolC ns x b c d) ∧ 0 ≤ x ∧ Sm many ∧ ∀ r x' b' c' d', 0 ≤ x' → 0 ≤ r → (2 ≤ many → r < many) → (many < 2 → r = 0) → Q (.int r) (up st p (some (poolC ns x' b' c' d')))
  | _, _, _, _ => False
def sp__law_draw : PSpec
  | [.ref p, .int many], st, Q, _ => st p = some .pool ∧ Sm many ∧ ∀ r, 0 ≤ r → (2 ≤ many → r < many) → (many < 2 → r = 0) → Q (.int r) st
  | _, _, _, _ => False
theorem pool_view {Γ : Wd} {k : Nat} (h : HasFn Γ k "_law_pool" sl__law_pool 1) : HasFn Γ k "_law_pool" sp__law_pool 1 := by
  refine h.view fun vs st Q X H F rs hs => ?_
  unfold sp__law_pool at hs
  split at hs
  · rename_i ns
    refine ⟨st, fun v s => ∃ p, st p = none ∧ v = .ref p ∧ s = up st p (some (poolC ns 0 0 7 0)), rs, fun p hp => ⟨p, hp, rfl, rfl⟩, ?_⟩
    rintro v s2 H' F' _ r2 ⟨p, hp, rfl, rfl⟩
    exact ⟨_, repool r2 (Int.le_refl 0), hs p hp⟩
  · exact hs.elim
theorem draw_view {Γ : Wd} {k : Nat} (h : HasFn Γ k "_law_draw" sl__law_draw 2) : HasFn Γ k "_law_draw" sp__law_draw 2 := by
  refine h.view fun vs st Q X H F rs hs => ?_
  unfold sp__law_draw at hs
  split at hs
  · rename_i p many
    obtain ⟨h1, h2, h3⟩ := hs
    obtain ⟨ns, x, b, c, d, hx, rs2⟩ := unpool rs h1
    refine ⟨_, fun v s => ∃ r x' b' c' d', v = .int r ∧ 0 ≤ x' ∧ 0 ≤ r ∧ (2 ≤ many → r < many) ∧ (many < 2 → r = 0) ∧ s = up (up st p (some (poolC ns x b c d))) p (some (poolC ns x' b' c' d')), rs2, ⟨ns, x, b, c, d, up_same, hx, h2, fun r x' b' c' d' a1 a2 a3 a4 => ⟨r, x', b', c', d', rfl, a1, a2, a3, a4, rfl⟩⟩, ?_⟩
    rintro v s2 H' F' _ r2 ⟨r, x', b', c', d', rfl, a1, a2, a3, a4, rfl⟩
    rw [up_up] at r2
    have r3 := repool r2 a1
    rw [up_id h1] at r3
    exact ⟨st, r3, h3 r a2 a3 a4⟩
  · exact hs.elim
end TK

set_option maxRecDepth 100000
set_option maxHeartbeats 4000000
namespace TK
open PySem PySem.Spec PyProof.Rows L2
/-! ### how long a value's text is, at most -/
def Pn (n : Int) : Prop := n.natAbs < 10 ^ 570
mutual
def shOk : Nat → PV → Prop
  | _, .non => True
  | _, .bl _ => True
  | _, .int i => Pn i
  | n, .tup xs => n ≠ 0 ∧ shOks (n - 1) xs
  | n, .lst xs => n ≠ 0 ∧ shOks (n - 1) xs
  | _, _ => False
def shOks : Nat → List PV → Prop
  | _, [] => True
  | n, x :: r => shOk n x ∧ shOks n r
end
mutual
def wgt : PV → Nat
  | .tup xs => wgts xs + 3
  | .lst xs => wgts xs + 3
  | _ => 571
def wgts : List PV → Nat
  | [] => 0
  | x :: r => wgt x + 2 + wgts r
end
theorem ten_pow (k : Nat) : ((10 : Int) ^ k) = ((10 ^ k : Nat) : Int) := by
  first
    | exact (Int.natCast_pow 10 k).symm
    | simp
theorem shown_int {i : Int} (h : Pn i) : (Str.ofString (toString i)).length ≤ 571 := by
  unfold Pn at h
  cases i with
  | ofNat m =>
    exact Nat.le_succ_of_le (toString_length_le (v := (m : Int)) (k := 570) (by omega) (by decide) (by rw [ten_pow]; exact Int.ofNat_lt.mpr h))
  | negSucc m =>
    have e : toString (Int.negSucc m) = "-" ++ toString (((m + 1 : Nat)) : Int) := rfl
    have h2 : (Str.ofString (toString (((m + 1 : Nat)) : Int))).length ≤ 570 := toString_length_le (v := ((m + 1 : Nat) : Int)) (k := 570) (by omega) (by decide) (by rw [ten_pow]; exact Int.ofNat_lt.mpr h)
    have l : ∀ s : String, (Str.ofString s).length = s.toList.length := fun s => by
      have := congrArg List.length (signs_ofString s)
      rw [List.length_map] at this
      exact this
    rw [e, l, String.toList_append, List.length_append, ← l, ← l]
    have : (Str.ofString "-").length = 1 := rfl
    omega
theorem piled_all : ∀ (ts : List Str), (listText ts).length ≤ piled ts + 2 ∧ (tupleText ts).length ≤ piled ts + 3
  | [] => ⟨by decide, by decide⟩
  | t :: r => by
    refine ⟨?_, ?_⟩
    · unfold listText
      rw [strLen_append]
      show (textFrom 1 (("[" : Str) ++ (if 0 > 0 then ", " else "" : String) ++ t) r).length + _ ≤ _
      rw [textFrom_length_pos _ _ _ (by decide), piled_cons, strLen_append, strLen_append]
      have e1 : (("[" : String) : Str).length = 1 := rfl
      have e2 : ((if 0 > 0 then ", " else "" : String) : Str).length = 0 := rfl
      have e3 : (("]" : String) : Str).length = 1 := rfl
      omega
    · unfold tupleText
      rw [strLen_append, strLen_append]
      have e1 : ((("(" : String) : Str)).length = 1 := rfl
      have e3 : (((if (t :: r).length == 1 then ",)" else ")" : String) : Str)).length ≤ 2 := by split <;> decide
      have := join_length_add (t :: r) (by simp)
      omega
mutual
theorem show_le : ∀ (n : Nat) (v : PV), n ≤ 60 → shOk n v → (toD v).showable = true ∧ (toD v).shown.length ≤ wgt v ∧ flat n v = true
  | _, .non, _, _ => ⟨rfl, by decide, by simp only [flat]⟩
  | _, .bl b, _, _ => ⟨rfl, by cases b <;> decide, by simp only [flat]⟩
  | _, .int i, _, h => by
    unfold shOk at h
    refine ⟨?_, ?_, by simp only [flat]⟩
    · simp only [toD, PyData.showable, decide_eq_true_eq]
      exact log2_small (Nat.lt_of_lt_of_le h (by decide))
    · simp only [toD, PyData.shown, wgt]
      exact shown_int h
  | n, .tup xs, hn, h => by
    unfold shOk at h
    obtain ⟨h1, h2⟩ := h
    obtain ⟨a, b, c⟩ := shows_le (n - 1) xs (by omega) h2
    refine ⟨?_, ?_, ?_⟩
    · simp only [toD, PyData.showable]; exact a
    · simp only [toD, PyData.shown, wgt]
      exact Nat.le_trans (piled_all _).2 (by omega)
    · simp only [flat, c, Bool.and_true]; simpa using h1
  | n, .lst xs, hn, h => by
    unfold shOk at h
    obtain ⟨h1, h2⟩ := h
    obtain ⟨a, b, c⟩ := shows_le (n - 1) xs (by omega) h2
    refine ⟨?_, ?_, ?_⟩
    · simp only [toD, PyData.showable]; exact a
    · simp only [toD, PyData.shown, wgt]
      exact Nat.le_trans (piled_all _).1 (by omega)
    · simp only [flat, c, Bool.and_true]; simpa using h1
  | _, .str _, _, h => by unfold shOk at h; exact h.elim
  | _, .ref _, _, h => by unfold shOk at h; exact h.elim
  | _, .scr _, _, h => by unfold shOk at h; exact h.elim
theorem shows_le : ∀ (n : Nat) (xs : List PV), n ≤ 60 → shOks n xs → PyData.showableAll (toDs xs) = true ∧ piled (PyData.shownAll (toDs xs)) ≤ wgts xs ∧ flats n xs = true
  | _, [], _, _ => ⟨rfl, by decide, by simp only [flats]⟩
  | n, x :: r, hn, h => by
    unfold shOks at h
    obtain ⟨a, b, c⟩ := show_le n x hn h.1
    obtain ⟨a2, b2, c2⟩ := shows_le n r hn h.2
    refine ⟨?_, ?_, ?_⟩
    · simp only [toDs, PyData.showableAll, a, a2, Bool.and_self]
    · simp only [toDs, PyData.shownAll, wgts]
      rw [piled_cons]; omega
    · simp only [flats, c, c2, Bool.and_self]
end
theorem flat_mono : True := trivial
theorem showOk_of {v : PV} (h : shOk 60 v) (hw : wgt v ≤ sizeLine) : ShowOk v :=
  let ⟨a, b, c⟩ := show_le 60 v (Nat.le_refl _) h
  ⟨a, Nat.le_trans b hw, c⟩
end TK

set_option maxRecDepth 100000
set_option maxHeartbeats 4000000
namespace TK
open PySem PySem.Spec PyProof.Rows L2
/-- a comprehension over the images of a list -/
theorem lc_encA {α : Type} {enc : α → PV} {tg : TG} {t : Sl → Store → (Bool → Store → Prop) → Prop} {e : Sl → Store → PQ → Prop} {τ : Sl} {st : Store} {K : List PV → Store → Prop} (f : α → Bool) (g : α → PV) :
    ∀ (l : List α) (acc : List PV), (∀ x ∈ l, ∃ τ1, tg.asg (enc x) τ = some τ1 ∧ ∀ st', Sub st st' → (∀ Q, Q (f x) st' → t τ1 st' Q) ∧ (f x = true → ∀ Q, Q (g x) st' → e τ1 st' Q)) → K (acc ++ (l.filter f).map g) st → lcL tg t e τ K (l.map enc) st acc
  | [], acc, _, h => by
    show K acc st
    simpa using h
  | x :: r, acc, hx, h => by
    obtain ⟨τ1, h1, h2⟩ := hx x List.mem_cons_self
    have hr := fun y hy => hx y (List.mem_cons_of_mem _ hy)
    rw [List.map_cons]
    unfold lcL
    rw [h1]
    intro st' sub
    obtain ⟨h3, h4⟩ := h2 st' sub
    refine h3 _ ⟨rfl, ?_⟩
    cases e : f x with
    | true =>
      rw [if_pos rfl]
      refine h4 e _ (.inl ⟨rfl, lc_encA f g r _ hr ?_⟩)
      rw [List.filter_cons_of_pos e, List.map_cons] at h
      simpa using h
    | false =>
      rw [if_neg (by decide)]
      refine lc_encA f g r _ hr ?_
      rw [List.filter_cons_of_neg (by rw [e]; decide)] at h
      exact h
/-- a comprehension whose tests and elements are known -/
theorem lc_pure {tg : TG} {t : Sl → Store → (Bool → Store → Prop) → Prop} {e : Sl → Store → PQ → Prop} {τ : Sl} {st : Store} {K : List PV → Store → Prop} (f : PV → Bool) (g : PV → PV)
    (xs acc : List PV) (hx : ∀ x ∈ xs, ∃ τ1, tg.asg x τ = some τ1 ∧ ∀ st', Sub st st' → (∀ Q, Q (f x) st' → t τ1 st' Q) ∧ (f x = true → ∀ Q, Q (g x) st' → e τ1 st' Q)) (h : K (acc ++ (xs.filter f).map g) st) : lcL tg t e τ K xs st acc := by
  have := lc_encA (enc := id) (K := K) f g xs acc hx h
  rwa [List.map_id] at this
/-- .. without a test -/
theorem lc_map {tg : TG} {e : Sl → Store → PQ → Prop} {t : Sl → Store → (Bool → Store → Prop) → Prop} {τ : Sl} {st : Store} {K : List PV → Store → Prop} (g : PV → PV)
    (xs : List PV) (ht : ∀ τ1 st' Q, Q true st' → t τ1 st' Q) (hx : ∀ x ∈ xs, ∃ τ1, tg.asg x τ = some τ1 ∧ ∀ st', Sub st st' → ∀ Q, Q (g x) st' → e τ1 st' Q) (h : K (xs.map g) st) : lcL tg t e τ K xs st [] :=
  lc_pure (fun _ => true) g xs [] (fun x hm => let ⟨τ1, a, b⟩ := hx x hm; ⟨τ1, a, fun st' sub => ⟨fun Q q => ht _ _ _ q, fun _ Q q => b st' sub Q q⟩⟩) (by rw [List.filter_eq_self.mpr (fun _ _ => rfl)]; exact h)
/-- slices from the start, to the end -/
theorem cut_to {α : Type} {xs : List α} {k : Int} (h : 0 ≤ k) : cutP xs none (some k) = xs.take k.toNat := by
  obtain ⟨n, rfl⟩ := Int.eq_ofNat_of_zero_le h
  unfold cutP
  rw [HT.sIx_nat, HT.sIx_none, List.drop_zero, Int.toNat_natCast, Nat.sub_zero, List.take_eq_take_iff]
  omega
theorem cut_from {α : Type} {xs : List α} {k : Int} (h : 0 ≤ k) : cutP xs (some k) none = xs.drop k.toNat := by
  obtain ⟨n, rfl⟩ := Int.eq_ofNat_of_zero_le h
  unfold cutP
  rw [HT.sIx_nat, HT.sIx_none, Int.toNat_natCast]
  by_cases hn : n ≤ xs.length
  · rw [Nat.min_eq_left hn]
    exact List.take_of_length_le (by rw [List.length_drop]; omega)
  · rw [Nat.min_eq_right (by omega), Nat.sub_self, List.take_zero]
    exact (List.drop_eq_nil_of_le (by omega)).symm

/-- .. with a test -/
theorem lc_filter {α : Type} {enc : α → PV} {tg : TG} {t : Sl → Store → (Bool → Store → Prop) → Prop} {e : Sl → Store → PQ → Prop} {τ : Sl} {st : Store} {K : List PV → Store → Prop} (f : α → Bool) (g : α → PV) (l : List α)
    (hx : ∀ x ∈ l, ∃ τ1, tg.asg (enc x) τ = some τ1 ∧ ∀ st', Sub st st' → (∀ Q, Q (f x) st' → t τ1 st' Q) ∧ (f x = true → ∀ Q, Q (g x) st' → e τ1 st' Q)) (h : K ((l.filter f).map g) st) : lcL tg t e τ K (l.map enc) st [] :=
  lc_encA f g l [] hx (by simpa using h)
/-- .. without one -/
theorem lc_enc {α : Type} {enc : α → PV} {tg : TG} {t : Sl → Store → (Bool → Store → Prop) → Prop} {e : Sl → Store → PQ → Prop} {τ : Sl} {st : Store} {K : List PV → Store → Prop} (g : α → PV) (l : List α) (ht : ∀ τ1 st' Q, Q true st' → t τ1 st' Q)
    (hx : ∀ x ∈ l, ∃ τ1, tg.asg (enc x) τ = some τ1 ∧ ∀ st', Sub st st' → ∀ Q, Q (g x) st' → e τ1 st' Q) (h : K (l.map g) st) : lcL tg t e τ K (l.map enc) st [] :=
  lc_encA (fun _ => true) g l [] (fun x hm => let ⟨τ1, a, b⟩ := hx x hm; ⟨τ1, a, fun st' sub => ⟨fun Q q => ht _ _ _ q, fun _ Q q => b st' sub Q q⟩⟩) (by rw [List.filter_eq_self.mpr (fun _ _ => rfl)]; exact h)
/-- a comprehension whose elements are new lists -/
theorem lc_new {α : Type} {enc : α → PV} {tg : TG} {t : Sl → Store → (Bool → Store → Prop) → Prop} {e : Sl → Store → PQ → Prop} {τ : Sl} {K : List PV → Store → Prop} (g : α → List PV) (ht : ∀ τ1 st' Q, Q true st' → t τ1 st' Q) :
    ∀ (l : List α) (st : Store) (acc : List PV), (∀ x ∈ l, ∃ τ1, tg.asg (enc x) τ = some τ1 ∧ ∀ st' Q, Sub st st' → (∀ p, st' p = none → Q (.ref p) (up st' p (some (.lst (g x))))) → e τ1 st' Q) →
      (∀ (ps : List Nat) (s : Store), ps.length = l.length → Sub st s → (∀ (i p : Nat) (x : α), ps[i]? = some p → l[i]? = some x → s p = some (.lst (g x)) ∧ st p = none) → ps.Nodup → K (acc ++ ps.map .ref) s) → lcL tg t e τ K (l.map enc) st acc
  | [], st, acc, _, h => by
    have := h [] st rfl (fun _ _ h => h) (fun i p x h => by simp at h) List.nodup_nil
    show K acc st
    simpa using this
  | x :: r, st, acc, hx, h => by
    obtain ⟨τ1, h1, h2⟩ := hx x List.mem_cons_self
    rw [List.map_cons]
    unfold lcL
    rw [h1]
    intro st' sub
    refine ht _ _ _ ⟨rfl, ?_⟩
    rw [if_pos rfl]
    refine h2 st' _ sub fun p hp => .inr ⟨p, g x, hp, rfl, rfl, ?_⟩
    have hp0 : st p = none := by
      cases e : st p with
      | none => rfl
      | some c => rw [sub _ _ e] at hp; cases hp
    have sub1 : Sub st (up st p (some (.lst (g x)))) := sub_new hp0
    refine lc_new g ht r _ _ (fun y hy => ?_) fun ps s hl hs hps hnd => ?_
    · obtain ⟨τ2, k1, k2⟩ := hx y (List.mem_cons_of_mem _ hy)
      exact ⟨τ2, k1, fun st2 Q s2 q => k2 st2 Q (fun a c ha => s2 a c (sub1 a c ha)) q⟩
    · have := h (p :: ps) s (by rw [List.length_cons, hl, List.length_cons]) (fun a c ha => hs a c (sub1 a c ha)) (fun i q y hi hy => ?_) (List.nodup_cons.mpr ⟨fun hm => ?_, hnd⟩)
      · rw [List.map_cons] at this
        rw [List.append_assoc]
        exact this
      · cases i with
        | zero =>
          simp only [List.getElem?_cons_zero, Option.some.injEq] at hi hy
          subst hi hy
          exact ⟨hs _ _ up_same, hp0⟩
        | succ i =>
          simp only [List.getElem?_cons_succ] at hi hy
          obtain ⟨a, b⟩ := hps i q y hi hy
          refine ⟨a, ?_⟩
          have n : q ≠ p := fun z => by rw [z, up_same] at b; cases b
          rwa [up_ne n] at b
      · obtain ⟨i, hi, e⟩ := List.getElem_of_mem hm
        have hir : i < r.length := by omega
        obtain ⟨_, b⟩ := hps i p (r[i]) (by rw [List.getElem?_eq_getElem hi, e]) (List.getElem?_eq_getElem hir)
        rw [up_same] at b; cases b
/-- a list with its numbers -/
theorem enumL_map {α : Type} (enc : α → PV) : ∀ (k : Nat) (l : List α), enumL k (l.map enc) = (l.zipIdx k).map fun p => .tup [.int (p.2 : Int), enc p.1]
  | _, [] => rfl
  | k, x :: r => by
    rw [List.map_cons, List.zipIdx_cons, List.map_cons, ← enumL_map enc (k + 1) r]
    rfl
end TK

open TK in
local macro_rules | `(tactic| simp_all only [$xs,*]) => `(tactic| simp only [ss_nil, Blk_eq, ss_cons, nxt_nx, nxt_rt, nxt_bk, nxt_ct, lp_nx, lp_rt, lp_bk, lp_ct, ex_nxt, ex_lp, KV, KF, KBin2, KBin1, KNeg, KUn, KNot2, KNot, KCmp2, KCmp1, KCh4, KCh3, KCh2, KCh1, KBs2, KBs, KIf, KTup, KLst, KIdx2, KIdx1, KSl3, KSl2, KSl1, KCall, KBlt, KIsi2, KIsi, KMe2, KMe1, KComp2, KComp, KEs2, KEs1, KO2, KO, KTv, KT4, KT3, KT2, KT1, KTc4, KTc3, KTc2, KTc1, KTn, KTs, KTi, KI1, KR12, KR1, KR2d, KR2c, KR2b, KR2a, KEn, KZ2, KZ1, KNx, KAsg, KAsgN, KSx4, KSx3, KSx2, KSx1, KAug2, KAug1, KExpr, KArm, KLoop, KWt, e_var, e_fvar, e_int, e_bl, e_non, e_str, e_glob, e_bin, e_neg, e_un, e_not, e_cmp, e_chain, e_bools, e_ite, e_tup, e_lst, e_idx, e_slice, e_call, e_blt, e_isi, e_meth, e_comp, es_nil, es_cons, bs_one, bs_and, bs_or, o_no, o_yes, t_val, t_cmp, t_chain, t_not, t_bools, t_ite, ts_nilA, ts_nilO, ts_and, ts_or, i_val, i_r1, i_r2, i_en, i_zip, s_asgN, s_asgT, s_asgLc, s_setIx, s_aug, s_expr, s_ret, s_retN, s_ite, s_loop, s_while, s_pass, s_brk, s_cont, rt_fn, nx_fn, oP_some, oP_none, ↓v_itT, ↓v_itL, ↓v_itR, ↓v_lenR, ↓v_tuple, ↓v_listR, ↓v_all, ↓v_any, ↓v_sum, ↓v_max, ↓v_min, ↓v_in, ↓v_notIn, ↓v_it, ↓v_itL2, ↓v_frz, KItL, KLen, KTupB, KListB, KAll2, KAll, KAny2, KAny, KSum2, KSum, KMax2, KMax, KMin2, KMin, KIn, KNotIn, KItR, KFrz, ↓v_eqII, ↓v_eqSS, ↓v_neII, ↓v_eqBB, ↓v_neBB, ↓v_set, ↓v_app, ↓v_ext, ↓v_pop, ↓v_addRL, ↓v_addLR, ↓v_addRR, ↓v_cut, ↓v_tru, KSet1, KSet2, KApp, KExt, KPop, KAddL, KCut, KTru, List.set_cons_zero, List.set_cons_succ, onBl_eq, onInt_eq, getS_0, getS_s, getS, setS, wipeS, TG.asg, TGs.asg, Option.bind_some, binV, unV, negV, cmpV, idxV, itemV, sliceV, bltV, isiV, methV, truV, setIxV, augV, newList, frzV, itV, itVL, zipV, lstOf, extOf, seqOf, isLst, natc0, natc1, natc2, natc3, natc4, natc5, natc6, natc7, natc8, isNon_non, isNon_int, isNon_bl, isNon_str, isNon_tup, isNon_lst, isNon_ref, atI_0, atI_1, atI_2, atI_3, atI_4, callS_eq, Bool.not_true, Bool.not_false, ite_true, ite_false, reduceIte, reduceCtorEq, Bool.false_eq_true, decide_eq_true_eq, decide_true, decide_false, decide_not, Bool.not_eq_true', decide_eq_false_iff_not, initS, List.map_cons, List.map_nil, List.length_cons, List.length_nil, List.cons_append, List.nil_append, Nat.reduceAdd, Nat.reduceSub, List.replicate_succ, List.replicate_zero, up_same, Option.some.injEq, Cell.lst.injEq, exists_eq_left', exists_eq_left, true_and, and_true, true_or, inOk, PV.int.injEq, Int.reduceLT, Int.reduceLE, Int.reduceAdd, Int.reduceMul, Int.reduceNeg, Int.reduceSub, Int.reduceToNat, Int.reducePow, id_eq, not_true_eq_false, not_false_eq_true, Nat.zero_add, I.isR, false_implies, true_implies, forall_const, $xs,*])

set_option maxRecDepth 100000
set_option maxHeartbeats 4000000
namespace TK
open PySem PySem.Spec PyProof.Rows L2
-- _law_pool
def b__law_pool : Ss :=
  (.cons (.ret (.lst true (.cons (.blt .list false (.cons (.var 0) .nil)) (.cons (.int 0) (.cons (.int 0) (.cons (.int 7) (.cons (.int 0) .nil))))))) .nil)
def n__law_pool : List Str := ["script"]
-- _law_mix
def b__law_mix : Ss :=
  (.cons (.setIx (.var 0) (.int 4) (.bin .Add false (.idx (.var 0) (.int 4)) (.int 1))) (.cons (.asg (.name 1) (.bin .Mod false (.blt .int false (.cons (.bin .Add false (.bin .Add false (.bin .Mult false (.idx (.var 0) (.int 3)) (.int 48271)) (.bin .Mult false (.idx (.var 0) (.int 4)) (.int 69621))) (.int 11)) .nil)) (.int 2147483647))) (.cons (.setIx (.var 0) (.int 3) (.bin .Mod false (.blt .int false (.cons (.bin .Add false (.bin .Add false (.bin .Mult false (.var 1) (.int 16807)) (.bin .Mult false (.idx (.var 0) (.int 4)) (.int 40692))) (.int 5)) .nil)) (.int 1000000007))) (.cons (.ret (.idx (.var 0) (.int 3))) .nil))))
def n__law_mix : List Str := ["pool", "first"]
-- _law_draw
def b__law_draw : Ss :=
  (.cons (.ite (.cmp .Lt (.var 1) (.int 2)) (.cons (.ret (.int 0)) .nil) .nil) (.cons (.ite (.cmp .Gt (.idx (.var 0) (.int 2)) (.int 0)) (.cons (.asg (.name 2) (.bin .Mod false (.blt .int false (.cons (.idx (.var 0) (.int 2)) .nil)) (.var 1))) (.cons (.setIx (.var 0) (.int 2) (.bin .FloorDiv false (.idx (.var 0) (.int 2)) (.var 1))) (.cons (.ret (.var 2)) .nil))) .nil) (.cons (.ite (.cmp .Lt (.idx (.var 0) (.int 1)) (.blt .len false (.cons (.idx (.var 0) (.int 0)) .nil))) (.cons (.asg (.name 3) (.idx (.idx (.var 0) (.int 0)) (.idx (.var 0) (.int 1)))) (.cons (.setIx (.var 0) (.int 1) (.bin .Add false (.idx (.var 0) (.int 1)) (.int 1))) (.cons (.ite (.cmp .GtE (.var 3) (.bin .Pow false (.int 10) (.int 18))) (.cons (.setIx (.var 0) (.int 2) (.bin .FloorDiv false (.var 3) (.var 1))) (.cons (.ret (.bin .Mod false (.blt .int false (.cons (.var 3) .nil)) (.var 1))) .nil)) .nil) (.cons (.setIx (.var 0) (.int 3) (.bin .Mod false (.blt .int false (.cons (.bin .Add false (.bin .Add false (.bin .Mult false (.idx (.var 0) (.int 3)) (.int 31)) (.bin .Mult false (.int 2) (.blt .abs false (.cons (.var 3) .nil)))) (.ite (.cmp .Lt (.var 3) (.int 0)) (.int 1) (.int 0))) .nil)) (.int 1000000007))) .nil)))) .nil) (.cons (.ret (.bin .Mod false (.blt .int false (.cons (.bin .FloorDiv false (.call "_law_mix" sp__law_mix (.cons (.var 0) .nil)) (.int 11)) .nil)) (.var 1))) .nil))))
def n__law_draw : List Str := ["pool", "many", "told", "cell"]
theorem w__law_pool : ∀ vs s Q X, vs.length = 1 → sl__law_pool vs s Q X → wpFn n__law_pool.length b__law_pool vs s Q X := by
  intro vs s Q X hl h
  unfold sl__law_pool at h
  split at h
  · rename_i ns
    rw [fn_eq]
    unfold b__law_pool n__law_pool
    simp_all only [ss_nil]
    exact ⟨by decide, fun p hp => ⟨_, .rfl, h p hp⟩⟩
  · exact h.elim
theorem w__law_mix : ∀ vs s Q X, vs.length = 1 → sp__law_mix vs s Q X → wpFn n__law_mix.length b__law_mix vs s Q X := by
  intro vs s Q X hl h
  unfold sp__law_mix at h
  split at h
  · rename_i p
    rw [fn_eq]
    unfold b__law_mix n__law_mix
    obtain ⟨ns, x, b, c, d, hp, h⟩ := h
    simp_all only [ss_nil, hp, poolC, ix_50, ix_51, ix_52, ix_53, ix_54, up_up]
    rw [Nx_eq]
    simp_all only [ss_nil, hp, poolC, ix_50, ix_51, ix_52, ix_53, ix_54, up_up]
    refine ⟨CMul.ok (by unfold CMul; omega), CMul.ok (by unfold CMul; omega), by decide, ?_⟩
    rw [Nx_eq]
    simp_all only [ss_nil, hp, poolC, ix_50, ix_51, ix_52, ix_53, ix_54, up_up]
    refine ⟨CMul.ok (by unfold CMul; omega), CMul.ok (by unfold CMul; omega), by decide, ?_⟩
    rw [Nx_eq]
    simp_all only [ss_nil, hp, poolC, ix_50, ix_51, ix_52, ix_53, ix_54, up_up]
    exact ⟨_, .rfl, h _ _ (Int.fmod_nonneg_of_pos _ (by decide))⟩
  · exact h.elim
theorem w__law_draw : ∀ vs s Q X, vs.length = 2 → sl__law_draw vs s Q X → wpFn n__law_draw.length b__law_draw vs s Q X := by
  intro vs s Q X hl h
  unfold sl__law_draw at h
  split at h
  · rename_i p many
    rw [fn_eq]
    unfold b__law_draw n__law_draw
    obtain ⟨ns, x, b, c, d, hp, hx, hm, h⟩ := h
    -- what is drawn is below many
    have low : ∀ z : Int, ¬ many < 2 → 0 ≤ z.fmod many ∧ (2 ≤ many → z.fmod many < many) ∧ (many < 2 → z.fmod many = 0) := fun z hz =>
      ⟨Int.fmod_nonneg_of_pos z (by omega), fun _ => Int.fmod_lt_of_pos z (by omega), fun h => absurd h hz⟩
    simp_all only [ss_nil, hp, poolC]
    split
    · (first | rw [Nx_eq] | rw [Arm_eq] | skip); (try simp_all only [ss_nil])
      have e := h 0 x b c d hx (Int.le_refl 0) (fun _ => by omega) (fun _ => rfl)
      rw [up_id hp] at e
      exact ⟨s, .rfl, e⟩
    · rename_i hmany
      have dv : DivOk many := hm.div (by omega)
      have m0 : many ≠ 0 := by omega
      (first | rw [Nx_eq] | rw [Arm_eq] | skip); (try simp_all only [ss_nil, Nx_eq, hp, poolC])
      split
      · (first | rw [Nx_eq] | rw [Arm_eq] | skip); (try simp_all only [ss_nil, hp, poolC, m0, ne_eq])
        (first | rw [Nx_eq] | rw [Arm_eq] | skip); (try simp_all only [ss_nil, hp, poolC, ix_52, up_up])
        refine ⟨dv, ?_⟩
        (first | rw [Nx_eq] | rw [Arm_eq] | skip); (try simp_all only [ss_nil])
        obtain ⟨l1, l2, l3⟩ := low b hmany
        exact ⟨_, .rfl, h _ _ _ _ _ hx l1 l2 l3⟩
      · (first | rw [Nx_eq] | rw [Arm_eq] | skip); (try simp_all only [ss_nil, Nx_eq, hp, poolC])
        split
        · rename_i hlt
          rw [List.length_map] at hlt
          (first | rw [Nx_eq] | rw [Arm_eq] | skip); (try simp_all only [ss_nil, hp, poolC, atI_int hx hlt])
          generalize ns[x.toNat]'(by omega) = z
          (first | rw [Nx_eq] | rw [Arm_eq] | skip); (try simp_all only [ss_nil, hp, poolC, ix_51])
          (first | rw [Nx_eq] | rw [Arm_eq] | skip); (try simp_all only [ss_nil, hp, poolC])
          refine ⟨by unfold CPow; decide, ?_⟩
          split
          · (first | rw [Nx_eq] | rw [Arm_eq] | skip); (try simp_all only [ss_nil, hp, poolC, ix_52, up_up])
            refine ⟨dv, ?_⟩
            (first | rw [Nx_eq] | rw [Arm_eq] | skip); (try simp_all only [ss_nil, m0, ne_eq])
            obtain ⟨l1, l2, l3⟩ := low z hmany
            exact ⟨_, .rfl, h _ _ _ _ _ (by omega) l1 l2 l3⟩
          · (first | rw [Nx_eq] | rw [Arm_eq] | skip); (try simp_all only [ss_nil, Nx_eq, hp, poolC, ix_53, up_up])
            refine ⟨CMul.ok (by unfold CMul; omega), CMul.ok (by unfold CMul; omega), ?_⟩
            split
            all_goals
              refine ⟨by decide, ?_⟩
              refine callS_of ⟨ns, x + 1, b, _, d, up_same, fun c' d' hc => ?_⟩
              simp_all only [ss_nil, up_up]
              refine ⟨⟨by decide, by decide⟩, ?_⟩
              simp_all only [ss_nil, m0, ne_eq]
              obtain ⟨l1, l2, l3⟩ := low (c'.fdiv 11) hmany
              exact ⟨_, .rfl, h _ _ _ _ _ (by omega) l1 l2 l3⟩
        · (first | rw [Nx_eq] | rw [Arm_eq] | skip); (try simp_all only [ss_nil, Nx_eq, hp, poolC])
          refine callS_of ⟨ns, x, b, c, d, hp, fun c' d' hc => ?_⟩
          simp_all only [ss_nil]
          refine ⟨⟨by decide, by decide⟩, ?_⟩
          simp_all only [ss_nil, m0, ne_eq]
          obtain ⟨l1, l2, l3⟩ := low (c'.fdiv 11) hmany
          exact ⟨_, .rfl, h _ _ _ _ _ hx l1 l2 l3⟩
  · exact h.elim

def pickR (xs : List PV) (st : Store) (Q : PQ) : Prop := xs ≠ [] ∧ xs.length ≤ 10 ^ 9 ∧ ∀ (i : Nat) v, xs[i]? = some v → Q v st
def sp__law_pick : PSpec
  | [.ref p, m], st, Q, _ => st p = some .pool ∧ (match m with
    | .lst xs => pickR xs st Q
    | .tup xs => pickR xs st Q
    | _ => False)
  | _, _, _, _ => False
def b__law_pick : Ss :=
  (.cons (.ret (.idx (.var 1) (.call "_law_draw" sp__law_draw (.cons (.var 0) (.cons (.blt .len false (.cons (.var 1) .nil)) .nil))))) .nil)
def n__law_pick : List Str := ["pool", "menu"]

theorem w__law_pick : ∀ vs s Q X, vs.length = 2 → sp__law_pick vs s Q X → wpFn n__law_pick.length b__law_pick vs s Q X := by
  intro vs s Q X hl h
  unfold sp__law_pick at h
  split at h
  · rename_i p m
    rw [fn_eq]
    unfold b__law_pick n__law_pick
    obtain ⟨hp, h⟩ := h
    have go : ∀ xs : List PV, pickR xs s Q → Sm xs.length ∧ ∀ r : Int, 0 ≤ r → (2 ≤ (xs.length : Int) → r < xs.length) → ((xs.length : Int) < 2 → r = 0) → ∃ v, atI xs r = some v ∧ Q v s := by
      rintro xs ⟨h0, hb, hq⟩
      have hpos : 0 < xs.length := List.length_pos_iff.mpr h0
      refine ⟨.of (by omega), fun r r0 r1 r2 => ?_⟩
      have hr : r < xs.length := by omega
      exact ⟨_, atI_of r0 hr, hq r.toNat _ (List.getElem?_eq_getElem _)⟩
    cases m with
    | lst xs =>
      obtain ⟨h1, h2⟩ := go xs h
      simp_all only [ss_nil]
      refine callS_of ⟨hp, h1, fun r r0 r1 r2 => ?_⟩
      obtain ⟨v, e, q⟩ := h2 r r0 r1 r2
      simp_all only [ss_nil, e]
      exact ⟨s, .rfl, q⟩
    | tup xs =>
      obtain ⟨h1, h2⟩ := go xs h
      simp_all only [ss_nil]
      refine callS_of ⟨hp, h1, fun r r0 r1 r2 => ?_⟩
      obtain ⟨v, e, q⟩ := h2 r r0 r1 r2
      simp_all only [ss_nil, e]
      exact ⟨s, .rfl, q⟩
    | _ => exact h.elim
  · exact h.elim
/-- is it a whole number? -/
def isI : PV → Bool
  | .int _ => true
  | _ => false
def noRef : PV → Bool
  | .ref _ => false
  | .scr _ => false
  | _ => true
def sp__law_int : PSpec
  | [v], st, Q, _ => noRef v = true ∧ Q (.bl (isI v)) st
  | _, _, _, _ => False
def b__law_int : Ss :=
  (.cons (.ret (.bools .And (.cons (.isi (.var 0) "int") (.cons (.not (.isi (.var 0) "bool")) .nil)))) .nil)
def n__law_int : List Str := ["value"]

theorem w__law_int : ∀ vs s Q X, vs.length = 1 → sp__law_int vs s Q X → wpFn n__law_int.length b__law_int vs s Q X := by
  intro vs s Q X hl h
  unfold sp__law_int at h
  split at h
  · rename_i v
    rw [fn_eq]
    unfold b__law_int n__law_int
    obtain ⟨hv, h⟩ := h
    cases v <;> first | (cases hv; done) | (simp_all only [ss_nil]; exact ⟨s, .rfl, h⟩)
  · exact h.elim
end TK

set_option maxRecDepth 100000
set_option maxHeartbeats 4000000
namespace TK
open PySem PySem.Spec PyProof.Rows L2
theorem res_of {st : Store} {v : PV} (h : noRef v = true) : res st v = v := by
  cases v <;> first | rfl | cases h
/-- equal ones are told the same -/
def sp__law_same : PSpec
  | [v, w], st, Q, _ => v = w ∧ noRef v = true ∧ ShowOk v ∧ Q (.bl true) st
  | _, _, _, _ => False
def b__law_same : Ss :=
  (.cons (.ret (.cmp .Eq (.blt .repr false (.cons (.var 0) .nil)) (.blt .repr false (.cons (.var 1) .nil)))) .nil)
def n__law_same : List Str := ["value", "due"]

theorem w__law_same : ∀ vs s Q X, vs.length = 2 → sp__law_same vs s Q X → wpFn n__law_same.length b__law_same vs s Q X := by
  intro vs s Q X hl h
  unfold sp__law_same at h
  split at h
  · rename_i v w
    rw [fn_eq]
    unfold b__law_same n__law_same
    obtain ⟨rfl, hn, hs, h⟩ := h
    simp_all only [ss_nil, res_of hn]
    exact ⟨hs, hs, s, .rfl, h⟩
  · exact h.elim
def sp__law_gcd : PSpec
  | [.int a, .int b], st, Q, _ => Q (.int (Int.gcd a b)) st
  | _, _, _, _ => False
def b__law_gcd_1 : Ss :=
  (.cons (.asg (.name 2) (.bin .Mod false (.blt .int false (.cons (.var 0) .nil)) (.var 1))) (.cons (.asg (.name 0) (.var 1)) (.cons (.asg (.name 1) (.var 2)) .nil)))
def b__law_gcd : Ss :=
  (.cons (.asg (.name 0) (.blt .abs false (.cons (.var 0) .nil))) (.cons (.asg (.name 1) (.blt .abs false (.cons (.var 1) .nil))) (.cons (.while (.cmp .Gt (.var 1) (.int 0)) b__law_gcd_1) (.cons (.ret (.var 0)) .nil))))
def n__law_gcd : List Str := ["a", "b", "rest"]

theorem fmod_gcd (a b : Nat) (hb : 0 < b) : ((a : Int).fmod b) = ((a % b : Nat) : Int) := by
  rw [Int.fmod_eq_emod_of_nonneg _ (by omega)]; rfl
theorem w__law_gcd : ∀ vs s Q X, vs.length = 2 → sp__law_gcd vs s Q X → wpFn n__law_gcd.length b__law_gcd vs s Q X := by
  intro vs s Q X hl h
  unfold sp__law_gcd at h
  split at h
  · rename_i a b
    rw [fn_eq]
    unfold b__law_gcd n__law_gcd
    have ab : ∀ z : Int, (if z < 0 then -z else z) = (z.natAbs : Int) := fun z => by split <;> omega
    simp_all only [ss_nil, ab]
    (first | rw [Nx_eq] | rw [Arm_eq] | skip); (try simp_all only [ss_nil, ab])
    (first | rw [Nx_eq] | rw [Arm_eq] | skip); (try simp_all only [ss_nil])
    refine while_ind (fun n τ st => ∃ (x y : Nat) (o : Option PV), τ = [some (.int x), some (.int y), o] ∧ st = s ∧ y = n ∧ Nat.gcd x y = Int.gcd a b) ?_ b.natAbs ⟨a.natAbs, b.natAbs, none, rfl, rfl, rfl, rfl⟩
    rintro n τ st ⟨x, y, o, rfl, rfl, rfl, hg⟩
    simp_all only [ss_nil]
    split
    · rename_i hy
      have hy' : 0 < y := by omega
      unfold b__law_gcd_1
      simp_all only [ss_nil]
      refine ⟨by omega, ?_⟩
      (first | rw [Nx_eq] | rw [Arm_eq] | skip); (try simp_all only [ss_nil])
      (first | rw [Nx_eq] | rw [Arm_eq] | skip); (try simp_all only [ss_nil, Nx_eq])
      refine ⟨x % y, Nat.mod_lt _ hy', y, x % y, some (.int (x % y : Nat)), by rw [fmod_gcd x y hy'], rfl, ?_⟩
      rw [← hg, Nat.gcd_comm x y, Nat.gcd_rec y x, Nat.gcd_comm]
    · rename_i hy
      have : y = 0 := by omega
      subst this
      (first | rw [Nx_eq] | rw [Arm_eq] | skip); (try simp_all only [ss_nil])
      rw [Nat.gcd_zero_right] at hg
      subst hg
      exact ⟨st, .rfl, h⟩
  · exact h.elim
end TK

set_option maxRecDepth 100000
set_option maxHeartbeats 4000000
namespace TK
open PySem PySem.Spec PyProof.Rows L2
/-! ### ratios -/
/-- a ratio as the program holds it -/
def ratV (r : Rat) : PV := .tup [.int r.num, .int r.den]
def Sz (n : Int) : Prop := n.natAbs < 2 ^ 3900
def SzR (r : Rat) : Prop := Sz r.num ∧ Sz r.den
theorem Sz.of {n : Int} (h : n.natAbs ≤ 10 ^ 1000) : Sz n := Nat.lt_of_le_of_lt h (by decide)
theorem Sz.sm {n : Int} (h : Sz n) : Sm n := Nat.lt_of_lt_of_le h (Nat.pow_le_pow_right (by decide) (by decide))
theorem Sz.mulSm {m n : Int} (h : Sz m) (k : Sz n) : Sm (m * n) := by
  unfold Sm
  rw [Int.natAbs_mul]
  exact Nat.lt_of_lt_of_le (Nat.mul_lt_mul_of_lt_of_lt h k) (by rw [← Nat.pow_add]; exact Nat.pow_le_pow_right (by decide) (by decide))
theorem Sz.ok {m n : Int} (h : Sz m) (k : Sz n) : IntMulOk m n :=
  .of_le (intBits_le_iff.mpr h) (intBits_le_iff.mpr k) (by decide)
theorem divInt_num_le {n d : Int} (h : d ≠ 0) : (Rat.divInt n d).num.natAbs ≤ n.natAbs := by
  rw [Rat.num_divInt]
  refine Nat.le_trans (Int.natAbs_ediv_le_natAbs _ _) ?_
  rw [Int.natAbs_mul]
  rw [Int.natAbs_sign_of_ne_zero h, Nat.one_mul]
  exact Nat.le_refl _
theorem divInt_den_le {n d : Int} (h : d ≠ 0) : (Rat.divInt n d).den ≤ d.natAbs := by
  rw [Rat.den_divInt, if_neg h]
  exact Nat.div_le_self _ _
def sp__law_ratio : PSpec
  | [.int n, .int d], st, Q, _ => d ≠ 0 ∧ Sm d ∧ Q (ratV (Rat.divInt n d)) st
  | _, _, _, _ => False
def b__law_ratio : Ss :=
  (.cons (.ite (.cmp .Lt (.var 1) (.int 0)) (.cons (.asg (.name 0) (.neg (.var 0))) (.cons (.asg (.name 1) (.neg (.var 1))) .nil)) .nil) (.cons (.asg (.name 2) (.call "_law_gcd" sp__law_gcd (.cons (.var 0) (.cons (.var 1) .nil)))) (.cons (.ret (.tup (.cons (.bin .FloorDiv false (.var 0) (.var 2)) (.cons (.bin .FloorDiv false (.var 1) (.var 2)) .nil)))) .nil)))
def n__law_ratio : List Str := ["n", "d", "g"]

theorem w__law_ratio : ∀ vs s Q X, vs.length = 2 → sp__law_ratio vs s Q X → wpFn n__law_ratio.length b__law_ratio vs s Q X := by
  intro vs s Q X hl h
  unfold sp__law_ratio at h
  split at h
  · rename_i n d
    rw [fn_eq]
    unfold b__law_ratio n__law_ratio
    obtain ⟨h0, hs, h⟩ := h
    have key : ∀ n d : Int, 0 < d → Sm d → Q (ratV (Rat.divInt n d)) s → wpSs (.cons (.asg (.name 2) (.call "_law_gcd" sp__law_gcd (.cons (.var 0) (.cons (.var 1) .nil)))) (.cons (.ret (.tup (.cons (.bin .FloorDiv false (.var 0) (.var 2)) (.cons (.bin .FloorDiv false (.var 1) (.var 2)) .nil)))) .nil)) (fnEnds Q X) [some (.int n), some (.int d), none] s := by
      intro n d hd hs h
      simp_all only [ss_nil]
      refine callS_of ?_
      unfold sp__law_gcd
      simp_all only [ss_nil]
      have hg0 : 0 < Int.gcd n d := Int.gcd_pos_of_ne_zero_right _ (by omega)
      have hg1 : Int.gcd n d ≤ d.natAbs := Int.gcd_le_natAbs_right _ (by omega)
      have hdv : DivOk (Int.gcd n d) := Sm.div (Nat.lt_of_le_of_lt (by simpa using hg1) hs) (by omega)
      (first | rw [Nx_eq] | rw [Arm_eq] | skip); (try simp_all only [ss_nil])
      refine ⟨hdv, hdv, by decide, s, .rfl, ?_⟩
      have e1 : n.fdiv (Int.gcd n d) = (Rat.divInt n d).num := by
        rw [Rat.num_divInt, Int.sign_eq_one_of_pos hd, Int.one_mul, Int.gcd_comm, Int.fdiv_eq_ediv_of_nonneg _ (by omega)]
      have e2 : d.fdiv (Int.gcd n d) = ((Rat.divInt n d).den : Int) := by
        rw [Rat.den_divInt, if_neg (by omega), Int.gcd_comm, Int.fdiv_eq_ediv_of_nonneg _ (by omega)]
        rw [Int.natCast_ediv]
        congr 1
        omega
      rw [e1, e2]
      exact h
    simp_all only [ss_nil]
    split
    · rename_i hd
      (first | rw [Nx_eq] | rw [Arm_eq] | skip); (try simp_all only [ss_nil])
      (first | rw [Nx_eq] | rw [Arm_eq] | skip); (try simp_all only [ss_nil])
      (first | rw [Nx_eq] | rw [Arm_eq] | skip); (try simp_all only [ss_nil])
      rw [Nx_eq]
      refine key (-n) (-d) (by omega) (by unfold Sm at hs ⊢; omega) ?_
      rw [Rat.neg_divInt_neg]
      exact h
    · (first | rw [Nx_eq] | rw [Arm_eq] | skip); (try simp_all only [ss_nil])
      rw [Nx_eq]
      exact key n d (by omega) hs h
  · exact h.elim

/-- a ratio of small numbers -/
def Bd (k : Nat) (r : Rat) : Prop := r.num.natAbs < 2 ^ k ∧ r.den < 2 ^ k
/-- a value that tells a ratio, in lowest terms or not -/
def Fr (k : Nat) (v : PV) (r : Rat) : Prop := ∃ n d : Int, v = .tup [.int n, .int d] ∧ 0 < d ∧ n.natAbs < 2 ^ k ∧ d.natAbs < 2 ^ k ∧ r = Rat.divInt n d
theorem pow2_le {a b : Nat} (h : a ≤ b) : 2 ^ a ≤ 2 ^ b := Nat.pow_le_pow_right (by decide) h
theorem Bd.mono {a b : Nat} {r : Rat} (h : Bd a r) (k : a ≤ b) : Bd b r := ⟨Nat.lt_of_lt_of_le h.1 (pow2_le k), Nat.lt_of_lt_of_le h.2 (pow2_le k)⟩
theorem Fr.mono {a b : Nat} {v : PV} {r : Rat} (h : Fr a v r) (k : a ≤ b) : Fr b v r := by
  obtain ⟨n, d, e, h1, h2, h3, h4⟩ := h
  exact ⟨n, d, e, h1, Nat.lt_of_lt_of_le h2 (pow2_le k), Nat.lt_of_lt_of_le h3 (pow2_le k), h4⟩
theorem Fr.bd {a : Nat} {v : PV} {r : Rat} (h : Fr a v r) : Bd a r := by
  obtain ⟨n, d, _, h1, h2, h3, rfl⟩ := h
  exact ⟨Nat.lt_of_le_of_lt (divInt_num_le (by omega)) h2, Nat.lt_of_le_of_lt (divInt_den_le (by omega)) h3⟩
theorem Bd.fr {a : Nat} {r : Rat} (h : Bd a r) : Fr a (ratV r) r :=
  ⟨r.num, r.den, rfl, by have := r.den_nz; omega, h.1, h.2, (Rat.num_divInt_den r).symm⟩
theorem Bd.of_divInt {k : Nat} {n d : Int} (h0 : d ≠ 0) (h : n.natAbs < 2 ^ k) (h2 : d.natAbs < 2 ^ k) : Bd k (Rat.divInt n d) :=
  ⟨Nat.lt_of_le_of_lt (divInt_num_le h0) h, Nat.lt_of_le_of_lt (divInt_den_le h0) h2⟩
theorem mul_pow {a b x y : Nat} (h : x < 2 ^ a) (k : y < 2 ^ b) : x * y < 2 ^ (a + b) := by
  rw [Nat.pow_add]; exact Nat.mul_lt_mul_of_lt_of_lt h k
theorem sum_pow {a x y : Nat} (h : x < 2 ^ a) (k : y < 2 ^ a) : x + y < 2 ^ (a + 1) := by
  rw [Nat.pow_succ]; omega
theorem two_mul_abs {n d m e : Int} {a b : Nat} (h1 : n.natAbs < 2 ^ a) (h2 : d.natAbs < 2 ^ a) (h3 : m.natAbs < 2 ^ b) (h4 : e.natAbs < 2 ^ b) :
    (n * e + m * d).natAbs < 2 ^ (a + b + 1) ∧ (n * e - m * d).natAbs < 2 ^ (a + b + 1) ∧ (d * e).natAbs < 2 ^ (a + b + 1) := by
  have e1 : (n * e).natAbs < 2 ^ (a + b) := by rw [Int.natAbs_mul]; exact mul_pow h1 h4
  have e2 : (m * d).natAbs < 2 ^ (a + b) := by rw [Int.natAbs_mul, Nat.mul_comm]; exact mul_pow h2 h3
  have e3 : (d * e).natAbs < 2 ^ (a + b) := by rw [Int.natAbs_mul]; exact mul_pow h2 h4
  have := sum_pow e1 e2
  refine ⟨by omega, by omega, Nat.lt_of_lt_of_le e3 (pow2_le (by omega))⟩
theorem divInt_add {a b c d : Int} (hb : b ≠ 0) (hd : d ≠ 0) : Rat.divInt (a * d + c * b) (b * d) = Rat.divInt a b + Rat.divInt c d := (Rat.divInt_add_divInt a c hb hd).symm
theorem divInt_sub {a b c d : Int} (hb : b ≠ 0) (hd : d ≠ 0) : Rat.divInt (a * d - c * b) (b * d) = Rat.divInt a b - Rat.divInt c d := (Rat.divInt_sub_divInt a c hb hd).symm
theorem Fr.add {a b : Nat} {v w : PV} {x y : Rat} (h : Fr a v x) (k : Fr b w y) : Bd (a + b + 1) (x + y) ∧ Bd (a + b + 1) (x - y) := by
  obtain ⟨n, d, _, h1, h2, h3, rfl⟩ := h
  obtain ⟨m, e, _, k1, k2, k3, rfl⟩ := k
  obtain ⟨z1, z2, z3⟩ := two_mul_abs h2 h3 k2 k3
  have nz : d * e ≠ 0 := Int.mul_ne_zero (by omega) (by omega)
  rw [← divInt_add (by omega) (by omega), ← divInt_sub (by omega) (by omega)]
  exact ⟨.of_divInt nz z1 z3, .of_divInt nz z2 z3⟩
theorem Bd.add {a b : Nat} {x y : Rat} (h : Bd a x) (k : Bd b y) : Bd (a + b + 1) (x + y) := (h.fr.add k.fr).1
theorem Bd.sub {a b : Nat} {x y : Rat} (h : Bd a x) (k : Bd b y) : Bd (a + b + 1) (x - y) := (h.fr.add k.fr).2
def sp__law_plus : PSpec
  | [a, b], st, Q, _ => ∃ x y : Rat, Fr 3900 a x ∧ Fr 3900 b y ∧ Q (ratV (x + y)) st
  | _, _, _, _ => False
def b__law_plus : Ss :=
  (.cons (.ret (.call "_law_ratio" sp__law_ratio (.cons (.bin .Add false (.bin .Mult false (.idx (.var 0) (.int 0)) (.idx (.var 1) (.int 1))) (.bin .Mult false (.idx (.var 1) (.int 0)) (.idx (.var 0) (.int 1)))) (.cons (.bin .Mult false (.idx (.var 0) (.int 1)) (.idx (.var 1) (.int 1))) .nil)))) .nil)
def n__law_plus : List Str := ["a", "b"]

theorem w__law_plus : ∀ vs s Q X, vs.length = 2 → sp__law_plus vs s Q X → wpFn n__law_plus.length b__law_plus vs s Q X := by
  intro vs s Q X hl h
  unfold sp__law_plus at h
  split at h
  · rename_i a b
    rw [fn_eq]
    unfold b__law_plus n__law_plus
    obtain ⟨x, y, ⟨n, d, rfl, h1, h2, h3, rfl⟩, ⟨m, e, rfl, k1, k2, k3, rfl⟩, h⟩ := h
    simp_all only [ss_nil]
    refine ⟨Sz.ok h2 k3, Sz.ok k2 h3, Sz.ok h3 k3, callS_of ⟨Int.mul_ne_zero (by omega) (by omega), Sz.mulSm h3 k3, s, .rfl, ?_⟩⟩
    rw [divInt_add (by omega) (by omega)]
    exact h
  · exact h.elim
def sp__law_less_by : PSpec
  | [a, b], st, Q, _ => ∃ x y : Rat, Fr 3900 a x ∧ Fr 3900 b y ∧ Q (ratV (x - y)) st
  | _, _, _, _ => False
def b__law_less_by : Ss :=
  (.cons (.ret (.call "_law_ratio" sp__law_ratio (.cons (.bin .Sub false (.bin .Mult false (.idx (.var 0) (.int 0)) (.idx (.var 1) (.int 1))) (.bin .Mult false (.idx (.var 1) (.int 0)) (.idx (.var 0) (.int 1)))) (.cons (.bin .Mult false (.idx (.var 0) (.int 1)) (.idx (.var 1) (.int 1))) .nil)))) .nil)
def n__law_less_by : List Str := ["a", "b"]

theorem w__law_less_by : ∀ vs s Q X, vs.length = 2 → sp__law_less_by vs s Q X → wpFn n__law_less_by.length b__law_less_by vs s Q X := by
  intro vs s Q X hl h
  unfold sp__law_less_by at h
  split at h
  · rename_i a b
    rw [fn_eq]
    unfold b__law_less_by n__law_less_by
    obtain ⟨x, y, ⟨n, d, rfl, h1, h2, h3, rfl⟩, ⟨m, e, rfl, k1, k2, k3, rfl⟩, h⟩ := h
    simp_all only [ss_nil]
    refine ⟨Sz.ok h2 k3, Sz.ok k2 h3, Sz.ok h3 k3, callS_of ⟨Int.mul_ne_zero (by omega) (by omega), Sz.mulSm h3 k3, s, .rfl, ?_⟩⟩
    rw [divInt_sub (by omega) (by omega)]
    exact h
  · exact h.elim
/-- a wide number: below 10 ** 40 -/
def sp__law_wide : PSpec
  | [.ref p], st, Q, _ => st p = some .pool ∧ ∀ r : Int, 0 ≤ r → r < 10 ^ 40 → Q (.int r) st
  | _, _, _, _ => False
def b__law_wide_1 : Ss :=
  (.cons (.asg (.name 1) (.bin .Add false (.bin .Mult false (.var 1) (.bin .Pow false (.int 10) (.int 7))) (.call "_law_draw" sp__law_draw (.cons (.var 0) (.cons (.bin .Pow false (.int 10) (.int 7)) .nil))))) .nil)
def b__law_wide : Ss :=
  (.cons (.asg (.name 1) (.call "_law_draw" sp__law_draw (.cons (.var 0) (.cons (.bin .Pow false (.int 10) (.int 5)) .nil)))) (.cons (.loop (.name 2) (.range1 (.int 5)) b__law_wide_1) (.cons (.ret (.var 1)) .nil)))
def n__law_wide : List Str := ["pool", "told", "turn"]

theorem w__law_wide : ∀ vs s Q X, vs.length = 1 → sp__law_wide vs s Q X → wpFn n__law_wide.length b__law_wide vs s Q X := by
  intro vs s Q X hl h
  unfold sp__law_wide at h
  split at h
  · rename_i p
    rw [fn_eq]
    unfold b__law_wide n__law_wide
    obtain ⟨hp, h⟩ := h
    simp_all only [ss_nil]
    refine ⟨by unfold CPow; decide, callS_of ⟨hp, .of (by decide), fun r r0 r1 _ => ?_⟩⟩
    have r1 := r1 (by decide)
    simp_all only [ss_nil]
    (first | rw [Nx_eq] | rw [Arm_eq] | skip); (try simp_all only [ss_nil])
    refine ⟨by unfold R62; decide, ?_⟩
    refine for_at (fun i τ st => st = s ∧ ∃ (z : Int) (o : Option PV), τ = [some (.ref p), some (.int z), o] ∧ 0 ≤ z ∧ z < 10 ^ (5 + 7 * i)) ?_ ?_ ⟨rfl, r, none, rfl, r0, by simpa using r1⟩
    · rintro i x τ st hi ⟨rfl, z, o, rfl, z0, z1⟩
      have hi5 : i < 5 := by
        have := (List.getElem?_eq_some_iff.mp hi).1
        simpa [rngL] using this
      unfold b__law_wide_1
      refine ⟨trivial, ?_⟩
      simp_all only [ss_nil]
      refine ⟨by unfold CPow; decide, CMul.ok (by unfold CMul; omega), by unfold CPow; decide, callS_of ⟨hp, .of (by decide), fun u u0 u1 _ => ?_⟩⟩
      have u1 := u1 (by decide)
      simp_all only [ss_nil]
      (first | rw [Nx_eq] | rw [Arm_eq] | skip); (try simp_all only [ss_nil])
      refine ⟨_, _, rfl, by omega, ?_⟩
      have e : (10 : Int) ^ (5 + 7 * (i + 1)) = 10 ^ (5 + 7 * i) * 10000000 := by
        rw [show 5 + 7 * (i + 1) = (5 + 7 * i) + 7 by omega, Int.pow_add]; rfl
      rw [e]
      have := Int.mul_le_mul_of_nonneg_right (show z + 1 ≤ 10 ^ (5 + 7 * i) by omega) (show (0 : Int) ≤ 10000000 by decide)
      omega
    · rintro τ st ⟨rfl, z, o, rfl, z0, z1⟩
      refine ⟨trivial, ?_⟩
      simp_all only [ss_nil]
      (first | rw [Nx_eq] | rw [Arm_eq] | skip); (try simp_all only [ss_nil])
      exact ⟨st, .rfl, h z z0 (by simpa [rngL] using z1)⟩
  · exact h.elim

/-- a number of the law: at most 10 ** 40 away from 0 -/
def sp__law_number : PSpec
  | [.ref p], st, Q, _ => st p = some .pool ∧ ∀ r : Int, -(10 ^ 40) ≤ r → r ≤ 10 ^ 40 → Q (.int r) st
  | _, _, _, _ => False
def b__law_number : Ss :=
  (.cons (.asg (.name 1) (.call "_law_draw" sp__law_draw (.cons (.var 0) (.cons (.int 8) .nil)))) (.cons (.asg (.name 2) (.call "_law_draw" sp__law_draw (.cons (.var 0) (.cons (.int 13) .nil)))) (.cons (.ite (.bools .Or (.cons (.cmp .Eq (.var 1) (.int 3)) (.cons (.cmp .Eq (.var 1) (.int 4)) .nil))) (.cons (.asg (.name 2) (.call "_law_draw" sp__law_draw (.cons (.var 0) (.cons (.int 1000) .nil)))) .nil) (.cons (.ite (.cmp .Eq (.var 1) (.int 5)) (.cons (.asg (.name 2) (.bin .Add false (.bin .Pow false (.int 10) (.int 6)) (.call "_law_draw" sp__law_draw (.cons (.var 0) (.cons (.bin .Mult false (.int 9) (.bin .Pow false (.int 10) (.int 6))) .nil))))) .nil) (.cons (.ite (.cmp .Eq (.var 1) (.int 6)) (.cons (.asg (.name 2) (.call "_law_wide" sp__law_wide (.cons (.var 0) .nil))) .nil) (.cons (.ite (.cmp .Eq (.var 1) (.int 7)) (.cons (.asg (.name 2) (.bin .Sub false (.bin .Sub false (.call "_law_pick" sp__law_pick (.cons (.var 0) (.cons (.lst false (.cons (.bin .Pow false (.int 10) (.int 39)) (.cons (.bin .Pow false (.int 10) (.int 40)) .nil))) .nil))) (.int 1)) (.var 2))) .nil) .nil) .nil)) .nil)) .nil)) (.cons (.ite (.cmp .Eq (.call "_law_draw" sp__law_draw (.cons (.var 0) (.cons (.int 2) .nil))) (.int 1)) (.cons (.ret (.neg (.var 2))) .nil) .nil) (.cons (.ret (.var 2)) .nil)))))
def n__law_number : List Str := ["pool", "way", "told"]

theorem w__law_number : ∀ vs s Q X, vs.length = 1 → sp__law_number vs s Q X → wpFn n__law_number.length b__law_number vs s Q X := by
  intro vs s Q X hl h
  unfold sp__law_number at h
  split at h
  · rename_i p
    rw [fn_eq]
    unfold b__law_number n__law_number
    obtain ⟨hp, h⟩ := h
    simp_all only [ss_nil]
    refine callS_of ⟨hp, .of (by decide), fun way w0 w1 _ => ?_⟩
    simp_all only [ss_nil]
    (first | rw [Nx_eq] | rw [Arm_eq] | skip); (try simp_all only [ss_nil])
    refine callS_of ⟨hp, .of (by decide), fun t t0 t1 _ => ?_⟩
    have t1 := t1 (by decide)
    simp_all only [ss_nil]
    -- what comes last
    have fin : ∀ z : Int, 0 ≤ z → z ≤ 10 ^ 40 → Nx (.cons (.ite (.cmp .Eq (.call "_law_draw" sp__law_draw (.cons (.var 0) (.cons (.int 2) .nil))) (.int 1)) (.cons (.ret (.neg (.var 2))) .nil) .nil) (.cons (.ret (.var 2)) .nil)) (fnEnds Q X) [some (.ref p), some (.int way), some (.int z)] s := by
      intro z z0 z1
      (first | rw [Nx_eq] | rw [Arm_eq] | skip); (try simp_all only [ss_nil])
      refine callS_of ⟨hp, .of (by decide), fun u u0 u1 _ => ?_⟩
      simp_all only [ss_nil]
      split
      · (first | rw [Nx_eq] | rw [Arm_eq] | skip); (try simp_all only [ss_nil])
        exact ⟨s, .rfl, h _ (by omega) (by omega)⟩
      · (first | rw [Nx_eq] | rw [Arm_eq] | skip); (try simp_all only [ss_nil, Nx_eq])
        exact ⟨s, .rfl, h _ (by omega) (by omega)⟩
    (first | rw [Nx_eq] | rw [Arm_eq] | skip); (try simp_all only [ss_nil])
    have dr : ∀ (z : Int) (τ : Sl) (K : PQ) (X : EQ), Sm z → (∀ u, 0 ≤ u → (2 ≤ z → u < z) → K (.int u) s) → callS sp__law_draw [.ref p, .int z] s X K := fun z τ K X hz hk => callS_of ⟨hp, hz, fun u u0 u1 _ => hk u u0 u1⟩
    split
    · (first | rw [Nx_eq] | rw [Arm_eq] | skip); (try simp_all only [ss_nil])
      refine dr _ [] _ _ (.of (by decide)) fun u u0 u1 => ?_
      have u1 := u1 (by decide)
      simp_all only [ss_nil]
      (first | rw [Nx_eq] | rw [Arm_eq] | skip); (try simp_all only [ss_nil])
      first | exact fin _ (by omega) (by omega) | (simp only [Nx_nil, nxt_nx]; exact fin _ (by omega) (by omega))
    · split
      · (first | rw [Nx_eq] | rw [Arm_eq] | skip); (try simp_all only [ss_nil])
        refine dr _ [] _ _ (.of (by decide)) fun u u0 u1 => ?_
        have u1 := u1 (by decide)
        simp_all only [ss_nil]
        (first | rw [Nx_eq] | rw [Arm_eq] | skip); (try simp_all only [ss_nil])
        first | exact fin _ (by omega) (by omega) | (simp only [Nx_nil, nxt_nx]; exact fin _ (by omega) (by omega))
      · (first | rw [Nx_eq] | rw [Arm_eq] | skip); (try simp_all only [ss_nil])
        split
        · (first | rw [Nx_eq] | rw [Arm_eq] | skip); (try simp_all only [ss_nil])
          refine ⟨by unfold CPow; decide, by unfold CPow; decide, CMul.ok (by unfold CMul; omega), ?_⟩
          refine dr _ [] _ _ (.of (by decide)) fun u u0 u1 => ?_
          have u1 := u1 (by decide)
          simp_all only [ss_nil]
          (first | rw [Nx_eq] | rw [Arm_eq] | skip); (try simp_all only [ss_nil])
          first | exact fin _ (by omega) (by omega) | (simp only [Nx_nil, nxt_nx]; exact fin _ (by omega) (by omega))
        · (first | rw [Nx_eq] | rw [Arm_eq] | skip); (try simp_all only [ss_nil])
          split
          · (first | rw [Nx_eq] | rw [Arm_eq] | skip); (try simp_all only [ss_nil])
            refine callS_of ⟨hp, fun u u0 u1 => ?_⟩
            simp_all only [ss_nil]
            (first | rw [Nx_eq] | rw [Arm_eq] | skip); (try simp_all only [ss_nil])
            first | exact fin _ (by omega) (by omega) | (simp only [Nx_nil, nxt_nx]; exact fin _ (by omega) (by omega))
          · (first | rw [Nx_eq] | rw [Arm_eq] | skip); (try simp_all only [ss_nil])
            split
            · (first | rw [Nx_eq] | rw [Arm_eq] | skip); (try simp_all only [ss_nil])
              refine ⟨by unfold CPow; decide, by unfold CPow; decide, by decide, callS_of ⟨hp, ?_, by decide, fun i v hv => ?_⟩⟩
              · simp
              · have hv' : v = .int (10 ^ 39) ∨ v = .int (10 ^ 40) := by
                  match i, hv with
                  | 0, e => exact .inl (by simpa using e.symm)
                  | 1, e => exact .inr (by simpa using e.symm)
                  | i + 2, e => simp at e
                rcases hv' with rfl | rfl
                · simp_all only [ss_nil]
                  (first | rw [Nx_eq] | rw [Arm_eq] | skip); (try simp_all only [ss_nil])
                  first | exact fin _ (by omega) (by omega) | (simp only [Nx_nil, nxt_nx]; exact fin _ (by omega) (by omega))
                · simp_all only [ss_nil]
                  (first | rw [Nx_eq] | rw [Arm_eq] | skip); (try simp_all only [ss_nil])
                  first | exact fin _ (by omega) (by omega) | (simp only [Nx_nil, nxt_nx]; exact fin _ (by omega) (by omega))
            · (first | rw [Nx_eq] | rw [Arm_eq] | skip); (try simp_all only [ss_nil])
              first | exact fin _ (by omega) (by omega) | (simp only [Nx_nil, nxt_nx]; exact fin _ (by omega) (by omega))
  · exact h.elim
end TK

set_option maxRecDepth 100000
set_option maxHeartbeats 4000000
namespace TK
open PySem PySem.Spec PyProof.Rows L2
/-! ### codes -/
/-- a code of a bound, or none -/
def codV : Option Int → PV
  | none => .non
  | some c => .int c
def joinC : Option Int → Option Int → Option Int
  | some a, some b => some (a + b - (if a % 2 = 1 ∨ b % 2 = 1 then 1 else 0))
  | _, _ => none
theorem bnot (x : Int) : Builtin.bitNot x = -x - 1 := by unfold Builtin.bitNot; omega
theorem nat_or1 (n : Nat) : n ||| 1 = if n % 2 = 1 then n else n + 1 := by
  have h := Nat.or_mod_two_eq_one (a := n) (b := 1)
  have h2 : (n ||| 1) / 2 = n / 2 := by
    rw [Nat.or_div_two]; simp
  split <;> omega
theorem nat_and2 (a b : Nat) : (a &&& b) % 2 = if a % 2 = 1 ∧ b % 2 = 1 then 1 else 0 := by
  have h := Nat.and_mod_two_eq_one (a := a) (b := b)
  split
  · rename_i g; exact h.mpr g
  · rename_i g
    have : ¬ (a &&& b) % 2 = 1 := fun e => g (h.mp e)
    omega
theorem nat_or2 (a b : Nat) : (a ||| b) % 2 = if a % 2 = 1 ∨ b % 2 = 1 then 1 else 0 := by
  have h := Nat.or_mod_two_eq_one (a := a) (b := b)
  split
  · rename_i g; exact h.mpr g
  · rename_i g
    have : ¬ (a ||| b) % 2 = 1 := fun e => g (h.mp e)
    omega
theorem and_par (x y : Int) : Builtin.bitAnd x y % 2 = if x % 2 = 1 ∧ y % 2 = 1 then 1 else 0 := by
  unfold Builtin.bitAnd
  by_cases hx : 0 ≤ x <;> by_cases hy : 0 ≤ y <;> simp only [hx, hy, decide_true, decide_false]
  · have := nat_and2 x.toNat y.toNat
    split at this <;> split <;> omega
  · have := nat_and2 x.toNat (Builtin.bitNot y).toNat
    rw [bnot] at this ⊢
    split at this <;> split <;> omega
  · have := nat_and2 y.toNat (Builtin.bitNot x).toNat
    rw [bnot] at this ⊢
    split at this <;> split <;> omega
  · have := nat_or2 (Builtin.bitNot x).toNat (Builtin.bitNot y).toNat
    rw [bnot, bnot] at this
    rw [bnot, bnot, bnot]
    split at this <;> split <;> omega
theorem or_par (x y : Int) : Builtin.bitOr x y % 2 = if x % 2 = 1 ∨ y % 2 = 1 then 1 else 0 := by
  unfold Builtin.bitOr
  have := and_par (Builtin.bitNot x) (Builtin.bitNot y)
  rw [bnot x, bnot y] at this
  rw [bnot, bnot, bnot]
  split at this <;> split <;> omega
theorem or_one (a b : Int) : Builtin.bitAnd (Builtin.bitOr a b) 1 = if a % 2 = 1 ∨ b % 2 = 1 then 1 else 0 := by
  rw [bitAnd_m1, or_par]
theorem or1 (a : Int) : Builtin.bitOr a 1 = if a % 2 = 1 then a else a + 1 := by
  unfold Builtin.bitOr Builtin.bitAnd
  rw [bnot 1]
  by_cases hx : 0 ≤ Builtin.bitNot a
  · simp only [hx, decide_true, show decide (0 ≤ (-1 - 1 : Int)) = false by decide]
    have e : (Builtin.bitNot (-1 - 1)).toNat = 1 := by decide
    rw [e, Nat.and_one_is_mod]
    rw [bnot] at hx ⊢
    rw [bnot]
    split <;> omega
  · simp only [hx, decide_false, show decide (0 ≤ (-1 - 1 : Int)) = false by decide]
    have e : (Builtin.bitNot (-1 - 1)).toNat = 1 := by decide
    rw [e, nat_or1]
    simp only [bnot] at hx ⊢
    split <;> split <;> omega
def sp_joined_code : PSpec
  | [a, b], st, Q, _ => ∃ x y, a = codV x ∧ b = codV y ∧ Q (codV (joinC x y)) st
  | _, _, _, _ => False
def b_joined_code : Ss :=
  (.cons (.ite (.bools .Or (.cons (.cmp .Is (.var 0) .non) (.cons (.cmp .Is (.var 1) .non) .nil))) (.cons (.ret .non) .nil) .nil) (.cons (.ret (.bin .Sub false (.bin .Add false (.var 0) (.var 1)) (.bin .BitAnd false (.bin .BitOr false (.var 0) (.var 1)) (.int 1)))) .nil))
def n_joined_code : List Str := ["a", "b"]

theorem w_joined_code : ∀ vs s Q X, vs.length = 2 → sp_joined_code vs s Q X → wpFn n_joined_code.length b_joined_code vs s Q X := by
  intro vs s Q X hl h
  unfold sp_joined_code at h
  split at h
  · rename_i a b
    rw [fn_eq]
    unfold b_joined_code n_joined_code
    obtain ⟨x, y, rfl, rfl, h⟩ := h
    cases x <;> cases y
    · simp_all only [ss_nil, codV, Arm_eq]; exact ⟨s, .rfl, h⟩
    · simp_all only [ss_nil, codV, Arm_eq]; exact ⟨s, .rfl, h⟩
    · simp_all only [ss_nil, codV, Arm_eq]; exact ⟨s, .rfl, h⟩
    · simp_all only [ss_nil, codV, Arm_eq, Nx_eq, or_one]; exact ⟨s, .rfl, h⟩
  · exact h.elim
def tightC : Option Int → Option Int → Option Int
  | none, y => y
  | x, none => x
  | some a, some b => some (if b < a then b else a)
def sp_tighter : PSpec
  | [a, b], st, Q, _ => ∃ x y, a = codV x ∧ b = codV y ∧ Q (codV (tightC x y)) st
  | _, _, _, _ => False
def b_tighter : Ss :=
  (.cons (.ite (.cmp .Is (.var 0) .non) (.cons (.ret (.var 1)) .nil) .nil) (.cons (.ite (.cmp .Is (.var 1) .non) (.cons (.ret (.var 0)) .nil) .nil) (.cons (.ret (.blt .min2 false (.cons (.var 0) (.cons (.var 1) .nil)))) .nil)))
def n_tighter : List Str := ["a", "b"]

theorem w_tighter : ∀ vs s Q X, vs.length = 2 → sp_tighter vs s Q X → wpFn n_tighter.length b_tighter vs s Q X := by
  intro vs s Q X hl h
  unfold sp_tighter at h
  split at h
  · rename_i a b
    rw [fn_eq]
    unfold b_tighter n_tighter
    obtain ⟨x, y, rfl, rfl, h⟩ := h
    cases x <;> cases y
    · simp_all only [ss_nil, codV, Arm_eq]; exact ⟨s, .rfl, h⟩
    · simp_all only [ss_nil, codV, Arm_eq]; exact ⟨s, .rfl, h⟩
    · simp_all only [ss_nil, codV, Arm_eq, Nx_eq]; exact ⟨s, .rfl, h⟩
    · simp_all only [ss_nil, codV, Arm_eq, Nx_eq]; exact ⟨s, .rfl, h⟩
  · exact h.elim
def isTightC : Option Int → Option Int → Bool
  | _, none => true
  | none, _ => false
  | some a, some b => decide (a ≤ b)
def sp_is_tight : PSpec
  | [a, b], st, Q, _ => ∃ x y, a = codV x ∧ b = codV y ∧ Q (.bl (isTightC x y)) st
  | _, _, _, _ => False
def b_is_tight : Ss :=
  (.cons (.ite (.cmp .Is (.var 1) .non) (.cons (.ret (.bl true)) .nil) .nil) (.cons (.ite (.cmp .Is (.var 0) .non) (.cons (.ret (.bl false)) .nil) .nil) (.cons (.ret (.cmp .LtE (.var 0) (.var 1))) .nil)))
def n_is_tight : List Str := ["a", "b"]

theorem w_is_tight : ∀ vs s Q X, vs.length = 2 → sp_is_tight vs s Q X → wpFn n_is_tight.length b_is_tight vs s Q X := by
  intro vs s Q X hl h
  unfold sp_is_tight at h
  split at h
  · rename_i a b
    rw [fn_eq]
    unfold b_is_tight n_is_tight
    obtain ⟨x, y, rfl, rfl, h⟩ := h
    cases x <;> cases y
    · simp_all only [ss_nil, codV, Arm_eq]; exact ⟨s, .rfl, h⟩
    · simp_all only [ss_nil, codV, Arm_eq, Nx_eq]; exact ⟨s, .rfl, h⟩
    · simp_all only [ss_nil, codV, Arm_eq, Nx_eq]; exact ⟨s, .rfl, h⟩
    · simp_all only [ss_nil, codV, Arm_eq, Nx_eq]; exact ⟨s, .rfl, h⟩
  · exact h.elim
def sp_closed_up : PSpec
  | [a], st, Q, _ => ∃ x, a = codV x ∧ Q (codV (x.map fun c => if c % 2 = 1 then c else c + 1)) st
  | _, _, _, _ => False
def b_closed_up : Ss :=
  (.cons (.ite (.cmp .Is (.var 0) .non) (.cons (.ret .non) .nil) .nil) (.cons (.ret (.bin .BitOr false (.var 0) (.int 1))) .nil))
def n_closed_up : List Str := ["code"]

theorem w_closed_up : ∀ vs s Q X, vs.length = 1 → sp_closed_up vs s Q X → wpFn n_closed_up.length b_closed_up vs s Q X := by
  intro vs s Q X hl h
  unfold sp_closed_up at h
  split at h
  · rename_i a
    rw [fn_eq]
    unfold b_closed_up n_closed_up
    obtain ⟨x, rfl, h⟩ := h
    cases x
    · simp_all only [ss_nil, codV, Arm_eq]; exact ⟨s, .rfl, h⟩
    · simp_all only [ss_nil, codV, Arm_eq, Nx_eq, or1]; exact ⟨s, .rfl, h⟩
  · exact h.elim
end TK

set_option maxRecDepth 100000
set_option maxHeartbeats 4000000
namespace TK
open PySem PySem.Spec PyProof.Rows L2
/-! ### codes against ratios -/
/-- does the code let it? -/
def letsC : Option Int → Rat → Bool
  | none, _ => true
  | some c, r => if c % 2 = 0 then decide (r < ((c / 2 : Int) : Rat)) else decide (r ≤ ((c / 2 : Int) : Rat))
theorem letsC_some {c : Int} {r : Rat} : letsC (some c) r = if c % 2 = 0 then decide (r < ((c / 2 : Int) : Rat)) else decide (r ≤ ((c / 2 : Int) : Rat)) := rfl
theorem lt_divInt {n d e : Int} (h : 0 < d) : (Rat.divInt n d < (e : Rat)) ↔ n < e * d := by
  have hd : (0 : Rat) < (d : Rat) := Rat.intCast_pos.mpr h
  rw [Rat.divInt_eq_div, Rat.div_lt_iff hd, ← Rat.intCast_mul, Rat.intCast_lt_intCast]
theorem le_divInt {n d e : Int} (h : 0 < d) : (Rat.divInt n d ≤ (e : Rat)) ↔ n ≤ e * d := by
  have hd : (0 : Rat) < (d : Rat) := Rat.intCast_pos.mpr h
  rw [← Rat.not_lt, Rat.divInt_eq_div, Rat.lt_div_iff hd, ← Rat.intCast_mul, Rat.intCast_lt_intCast, Int.not_lt]
def sp__law_lets : PSpec
  | [c, v], st, Q, _ => ∃ x r, c = codV x ∧ (∀ z, x = some z → z.natAbs < 2 ^ 3900) ∧ Fr 3900 v r ∧ Q (.bl (letsC x r)) st
  | _, _, _, _ => False
theorem two_ok : DivOk 2 := ⟨by decide, by decide⟩
theorem fdiv2 (c : Int) : c.fdiv 2 = c / 2 := Int.fdiv_eq_ediv_of_nonneg c (by decide)
def b__law_lets : Ss :=
  (.cons (.ite (.cmp .Is (.var 0) .non) (.cons (.ret (.bl true)) .nil) .nil) (.cons (.asg (.name 2) (.bin .Mult false (.bin .FloorDiv false (.var 0) (.int 2)) (.idx (.var 1) (.int 1)))) (.cons (.ite (.cmp .Eq (.bin .Mult false (.bin .FloorDiv false (.var 0) (.int 2)) (.int 2)) (.var 0)) (.cons (.ret (.cmp .Lt (.idx (.var 1) (.int 0)) (.var 2))) .nil) .nil) (.cons (.ret (.cmp .LtE (.idx (.var 1) (.int 0)) (.var 2))) .nil))))
def n__law_lets : List Str := ["code", "value", "edge"]
theorem w__law_lets : ∀ vs s Q X, vs.length = 2 → sp__law_lets vs s Q X → wpFn n__law_lets.length b__law_lets vs s Q X := by
  intro vs s Q X hl h
  unfold sp__law_lets at h
  split at h
  · rename_i c v
    rw [fn_eq]
    unfold b__law_lets n__law_lets
    obtain ⟨x, r, rfl, hb, ⟨n, d, rfl, h1, h2, h3, rfl⟩, h⟩ := h
    cases x with
    | none =>
      simp_all only [ss_nil, codV]
      (first | rw [Nx_eq] | rw [Arm_eq] | skip); (try simp_all only [ss_nil])
      exact ⟨s, .rfl, h⟩
    | some c =>
      have hc := hb c rfl
      have hc2 : (c / 2).natAbs < 2 ^ 3900 := by omega
      simp_all only [ss_nil, codV]
      (first | rw [Nx_eq] | rw [Arm_eq] | skip); (try simp_all only [ss_nil, Nx_eq, ss_nil, fdiv2])
      refine ⟨two_ok, Sz.ok hc2 h3, ?_⟩
      refine ⟨two_ok, CMul.ok (by unfold CMul; omega), ?_⟩
      have e : (c / 2 * 2 = c) ↔ c % 2 = 0 := by omega
      have h' : Q (.bl (letsC (some c) (Rat.divInt n d))) s := h
      rw [letsC_some] at h'
      by_cases hp : c % 2 = 0
      · rw [if_pos hp] at h'
        simp only [lt_divInt h1] at h'
        simp_all only [ss_nil, e, hp, Arm_eq]
        exact ⟨s, .rfl, h'⟩
      · rw [if_neg hp] at h'
        simp only [le_divInt h1] at h'
        simp_all only [ss_nil, e, hp, Arm_eq, Nx_eq]
        exact ⟨s, .rfl, h'⟩
  · exact h.elim
/-- what stands at the end of a code -/
def tipR (c part : Int) : Rat := ((c / 2 : Int) : Rat) - (if c % 2 = 0 then Rat.divInt 1 part else 0)
theorem tip_even {h part : Int} (hp : 0 < part) : Rat.divInt (h * part - 1) part = (h : Rat) - Rat.divInt 1 part := by
  have hd : (part : Rat) ≠ 0 := by
    intro e
    have := Rat.intCast_eq_zero_iff.mp e
    omega
  rw [Rat.divInt_eq_div, Rat.divInt_eq_div, Rat.intCast_sub, Rat.intCast_mul]
  grind
def sp__law_tip : PSpec
  | [.int c, .int part], st, Q, _ => 0 < part ∧ part.natAbs < 2 ^ 200 ∧ c.natAbs < 2 ^ 200 ∧ ∀ v, Fr 401 v (tipR c part) → Q v st
  | _, _, _, _ => False
def b__law_tip : Ss :=
  (.cons (.ite (.cmp .Eq (.bin .Mult false (.bin .FloorDiv false (.var 0) (.int 2)) (.int 2)) (.var 0)) (.cons (.ret (.tup (.cons (.bin .Sub false (.bin .Mult false (.bin .FloorDiv false (.var 0) (.int 2)) (.var 1)) (.int 1)) (.cons (.var 1) .nil)))) .nil) .nil) (.cons (.ret (.tup (.cons (.bin .FloorDiv false (.var 0) (.int 2)) (.cons (.int 1) .nil)))) .nil))
def n__law_tip : List Str := ["code", "part"]
theorem w__law_tip : ∀ vs s Q X, vs.length = 2 → sp__law_tip vs s Q X → wpFn n__law_tip.length b__law_tip vs s Q X := by
  intro vs s Q X hl h
  unfold sp__law_tip at h
  split at h
  · rename_i c part
    rw [fn_eq]
    unfold b__law_tip n__law_tip
    obtain ⟨h0, hp, hc, h⟩ := h
    have hc2 : (c / 2).natAbs < 2 ^ 200 := by omega
    have hm : (c / 2 * part).natAbs < 2 ^ 400 := by
      rw [Int.natAbs_mul]; exact mul_pow hc2 hp
    have one : (1 : Nat) < 2 ^ 401 := by decide
    have e : (c / 2 * 2 = c) ↔ c % 2 = 0 := by omega
    simp_all only [ss_nil, fdiv2]
    refine ⟨two_ok, CMul.ok (by unfold CMul; omega), ?_⟩
    by_cases hp2 : c % 2 = 0
    · simp_all only [ss_nil, e, hp2, Arm_eq, fdiv2]
      refine ⟨two_ok, Sz.ok (Nat.lt_of_lt_of_le hc2 (pow2_le (by decide))) (Nat.lt_of_lt_of_le hp (pow2_le (by decide))), by decide, s, .rfl, h _ ⟨_, _, rfl, h0, ?_, Nat.lt_of_lt_of_le hp (pow2_le (by decide)), ?_⟩⟩
      · rw [Nat.pow_succ]; omega
      · unfold tipR; rw [if_pos hp2, tip_even h0]
    · simp_all only [ss_nil, e, hp2, Arm_eq, Nx_eq, fdiv2]
      refine ⟨two_ok, by decide, s, .rfl, h _ ⟨_, _, rfl, by decide, Nat.lt_of_lt_of_le hc2 (pow2_le (by decide)), one, ?_⟩⟩
      unfold tipR; rw [if_neg hp2]
      rw [Rat.divInt_eq_div]
      grind
  · exact h.elim
def sp__law_lower : PSpec
  | [.ref p, .int c, .int part], st, Q, _ => st p = some .pool ∧ 0 < part ∧ part.natAbs < 2 ^ 200 ∧ c.natAbs < 2 ^ 200 ∧ ∀ r, r ≤ tipR c part → Bd 420 r → Q (ratV r) st
  | _, _, _, _ => False
def b__law_lower : Ss :=
  (.cons (.ret (.call "_law_less_by" sp__law_less_by (.cons (.call "_law_tip" sp__law_tip (.cons (.var 1) (.cons (.var 2) .nil))) (.cons (.call "_law_ratio" sp__law_ratio (.cons (.call "_law_draw" sp__law_draw (.cons (.var 0) (.cons (.int 20) .nil))) (.cons (.bin .Add false (.int 1) (.call "_law_draw" sp__law_draw (.cons (.var 0) (.cons (.int 9) .nil)))) .nil))) .nil)))) .nil)
def n__law_lower : List Str := ["pool", "code", "part"]
theorem w__law_lower : ∀ vs s Q X, vs.length = 3 → sp__law_lower vs s Q X → wpFn n__law_lower.length b__law_lower vs s Q X := by
  intro vs s Q X hl h
  unfold sp__law_lower at h
  split at h
  · rename_i p c part
    rw [fn_eq]
    unfold b__law_lower n__law_lower
    obtain ⟨hp, h0, h1, h2, h⟩ := h
    simp_all only [ss_nil]
    refine callS_of ⟨h0, h1, h2, fun v hv => ?_⟩
    simp_all only [ss_nil]
    refine callS_of ⟨hp, .of (by decide), fun a a0 a1 _ => ?_⟩
    have a1 := a1 (by decide)
    simp_all only [ss_nil]
    refine callS_of ⟨hp, .of (by decide), fun b b0 b1 _ => ?_⟩
    have b1 := b1 (by decide)
    simp_all only [ss_nil]
    refine callS_of ⟨by omega, .of (by omega), ?_⟩
    simp_all only [ss_nil]
    have hq : Bd 10 (Rat.divInt a (1 + b)) := .of_divInt (by omega) (by omega) (by omega)
    refine callS_of ⟨_, _, hv.mono (by decide), (hq.fr.mono (by decide)), s, .rfl, h _ ?_ ((hv.add hq.fr).2.mono (by decide))⟩
    have : (0 : Rat) ≤ Rat.divInt a (1 + b) := Rat.divInt_nonneg a0 (by omega)
    grind
  · exact h.elim
end TK

set_option maxRecDepth 100000
set_option maxHeartbeats 4000000
namespace TK
open PySem PySem.Spec PyProof.Rows L2
/-! ### the plain law of codes -/
theorem E_pos {part : Int} (h : 0 < part) : (0 : Rat) < Rat.divInt 1 part := by
  rw [Rat.divInt_eq_div, Rat.lt_div_iff (Rat.intCast_pos.mpr h)]
  grind
theorem E_mul {m part : Int} (hp : 0 < part) (h : m < part) : (m : Rat) * Rat.divInt 1 part < 1 := by
  have hd : (part : Rat) ≠ 0 := fun e => by
    have := Rat.intCast_eq_zero_iff.mp e
    omega
  have e : (m : Rat) * Rat.divInt 1 part = Rat.divInt m part := by
    rw [Rat.divInt_eq_div, Rat.divInt_eq_div]; grind
  rw [e]
  have := (lt_divInt (n := m) (e := 1) hp).mpr (by omega)
  simpa using this
theorem lets_mono {x : Option Int} {r r' : Rat} (h : r' ≤ r) (k : letsC x r = true) : letsC x r' = true := by
  cases x with
  | none => rfl
  | some c =>
    rw [letsC_some] at k ⊢
    split at k
    · have k := of_decide_eq_true k
      rw [if_pos ‹_›]
      exact decide_eq_true (by grind)
    · have k := of_decide_eq_true k
      rw [if_neg ‹_›]
      exact decide_eq_true (by grind)
/-- a code by its half and whether it has its end -/
theorem lets_even {h : Int} {r : Rat} : letsC (some (2 * h)) r = decide (r < (h : Rat)) := by
  rw [letsC_some, if_pos (by omega), show 2 * h / 2 = h by omega]
theorem lets_odd {h : Int} {r : Rat} : letsC (some (2 * h + 1)) r = decide (r ≤ (h : Rat)) := by
  rw [letsC_some, if_neg (by omega), show (2 * h + 1) / 2 = h by omega]
theorem tip_ev {h part : Int} : tipR (2 * h) part = (h : Rat) - Rat.divInt 1 part := by
  unfold tipR; rw [if_pos (by omega), show 2 * h / 2 = h by omega]
theorem tip_od {h part : Int} : tipR (2 * h + 1) part = (h : Rat) := by
  unfold tipR; rw [if_neg (by omega), show (2 * h + 1) / 2 = h by omega]; grind
theorem half (c : Int) : (∃ h, c = 2 * h) ∨ ∃ h, c = 2 * h + 1 := by
  rcases Int.emod_two_eq c with h | h
  · exact .inl ⟨c / 2, by omega⟩
  · exact .inr ⟨c / 2, by omega⟩
/-- a code that lets a value and none tighter does: z lets r, z - 1 does not -/
def Just (z : Int) (r : Rat) : Prop := letsC (some z) r = true ∧ letsC (some (z - 1)) r = false
theorem just_even {h : Int} {r : Rat} (h1 : r < (h : Rat)) (h2 : (h : Rat) - 1 < r) : Just (2 * h) r := by
  refine ⟨by rw [lets_even]; exact decide_eq_true h1, ?_⟩
  rw [show 2 * h - 1 = 2 * (h - 1) + 1 by omega, lets_odd]
  refine decide_eq_false ?_
  rw [Rat.intCast_sub]
  have : ((1 : Int) : Rat) = 1 := rfl
  grind
theorem just_odd {h : Int} {r : Rat} (h1 : r = (h : Rat)) : Just (2 * h + 1) r := by
  subst h1
  refine ⟨by rw [lets_odd]; exact decide_eq_true Rat.le_refl, ?_⟩
  rw [show 2 * h + 1 - 1 = 2 * h by omega, lets_even]
  exact decide_eq_false Rat.lt_irrefl
theorem join_ee {a b : Int} : joinC (some (2 * a)) (some (2 * b)) = some (2 * (a + b)) := by
  show some (2 * a + 2 * b - (if (2 * a) % 2 = 1 ∨ (2 * b) % 2 = 1 then 1 else 0)) = _
  rw [if_neg (by omega)]; congr 1; omega
theorem join_eo {a b : Int} : joinC (some (2 * a)) (some (2 * b + 1)) = some (2 * (a + b)) := by
  show some (2 * a + (2 * b + 1) - (if (2 * a) % 2 = 1 ∨ (2 * b + 1) % 2 = 1 then 1 else 0)) = _
  rw [if_pos (by omega)]; congr 1; omega
theorem join_oe {a b : Int} : joinC (some (2 * a + 1)) (some (2 * b)) = some (2 * (a + b)) := by
  show some (2 * a + 1 + 2 * b - (if (2 * a + 1) % 2 = 1 ∨ (2 * b) % 2 = 1 then 1 else 0)) = _
  rw [if_pos (by omega)]; congr 1; omega
theorem join_oo {a b : Int} : joinC (some (2 * a + 1)) (some (2 * b + 1)) = some (2 * (a + b) + 1) := by
  show some (2 * a + 1 + (2 * b + 1) - (if (2 * a + 1) % 2 = 1 ∨ (2 * b + 1) % 2 = 1 then 1 else 0)) = _
  rw [if_pos (by omega)]; congr 1; omega
theorem join_none (x : Option Int) : joinC x none = none := by cases x <;> rfl
theorem join_comm (x y : Option Int) : joinC x y = joinC y x := by
  cases x <;> cases y <;> try rfl
  rename_i a b
  show some _ = some _
  congr 1
  by_cases h1 : a % 2 = 1 <;> by_cases h2 : b % 2 = 1 <;> simp [h1, h2] <;> omega
theorem join_assoc (x y z : Option Int) : joinC (joinC x y) z = joinC x (joinC y z) := by
  cases x with
  | none => rfl
  | some a => cases y with
    | none => rfl
    | some b => cases z with
      | none => rw [join_none, join_none, join_none]
      | some c =>
        rcases half a with ⟨a, rfl⟩ | ⟨a, rfl⟩ <;> rcases half b with ⟨b, rfl⟩ | ⟨b, rfl⟩ <;> rcases half c with ⟨c, rfl⟩ | ⟨c, rfl⟩ <;>
          simp only [join_ee, join_eo, join_oe, join_oo, Int.add_assoc]
theorem join_unit (x : Option Int) : joinC x (some 1) = x := by
  cases x with
  | none => rfl
  | some a =>
    show some _ = some _
    rw [if_pos (.inr (by decide))]; congr 1; omega
/-- all codes joined -/
def foldC : List (Option Int) → Option Int
  | [] => some 1
  | x :: r => joinC x (foldC r)
theorem foldC_append : ∀ a b : List (Option Int), foldC (a ++ b) = joinC (foldC a) (foldC b)
  | [], b => by show foldC b = joinC (some 1) (foldC b); rw [join_comm, join_unit]
  | x :: a, b => by
    show joinC x (foldC (a ++ b)) = joinC (joinC x (foldC a)) (foldC b)
    rw [foldC_append a b, join_assoc]
theorem foldC_none : ∀ {l : List (Option Int)}, foldC l = none ↔ none ∈ l
  | [] => by simp [foldC]
  | none :: r => by simp [foldC, joinC]
  | some a :: r => by
    have ih := foldC_none (l := r)
    show joinC (some a) (foldC r) = none ↔ _
    cases e : foldC r with
    | none => rw [e] at ih; simp [join_none, ih.mp rfl]
    | some b => rw [e] at ih; simp [joinC] at ih ⊢; exact ih
/-- the sum of the ends -/
def tips (part : Int) : List Int → Rat
  | [] => 0
  | c :: r => tipR c part + tips part r
/-- how many have no end -/
def evens : List Int → Int
  | [] => 0
  | c :: r => (if c % 2 = 0 then 1 else 0) + evens r
theorem evens_le : ∀ l : List Int, 0 ≤ evens l ∧ evens l ≤ l.length
  | [] => ⟨by decide, by decide⟩
  | c :: r => by
    have := evens_le r
    show 0 ≤ (if c % 2 = 0 then 1 else 0) + evens r ∧ (if c % 2 = 0 then 1 else 0) + evens r ≤ ((r.length + 1 : Nat) : Int)
    split <;> omega
theorem fold_tips (part : Int) : ∀ l : List Int, ∃ h : Int, foldC (l.map some) = some (if evens l = 0 then 2 * h + 1 else 2 * h) ∧ tips part l = (h : Rat) - (evens l : Rat) * Rat.divInt 1 part
  | [] => ⟨0, rfl, by show (0 : Rat) = ((0 : Int) : Rat) - ((0 : Int) : Rat) * _; grind⟩
  | c :: r => by
    obtain ⟨h, e1, e2⟩ := fold_tips part r
    have hr := evens_le r
    show ∃ h, joinC (some c) (foldC (r.map some)) = _ ∧ tipR c part + tips part r = _
    rw [e1, e2]
    rcases half c with ⟨a, rfl⟩ | ⟨a, rfl⟩
    · have ev : evens (2 * a :: r) = 1 + evens r := by show (if 2 * a % 2 = 0 then 1 else 0) + evens r = _; rw [if_pos (by omega)]
      refine ⟨a + h, ?_, ?_⟩
      · rw [ev, if_neg (show ¬ 1 + evens r = 0 by omega)]
        split
        · exact join_eo
        · exact join_ee
      · rw [ev, tip_ev, Rat.intCast_add, Rat.intCast_add]
        have : ((1 : Int) : Rat) = 1 := rfl
        grind
    · have ev : evens ((2 * a + 1) :: r) = evens r := by show (if (2 * a + 1) % 2 = 0 then 1 else 0) + evens r = _; rw [if_neg (by omega)]; omega
      refine ⟨a + h, ?_, ?_⟩
      · rw [ev]
        split
        · exact join_oo
        · exact join_oe
      · rw [ev, tip_od, Rat.intCast_add]
        grind
theorem fold_just {part : Int} {l : List Int} {z : Int} (hp : (l.length : Int) < part) (hz : foldC (l.map some) = some z) : Just z (tips part l) := by
  obtain ⟨h, e1, e2⟩ := fold_tips part l
  have hl := evens_le l
  have hp0 : 0 < part := by omega
  rw [hz] at e1
  have e1 := Option.some.inj e1
  rw [e2]
  by_cases h0 : evens l = 0
  · rw [if_pos h0] at e1
    subst e1
    rw [h0]
    exact just_odd (by have : ((0 : Int) : Rat) = 0 := rfl; grind)
  · rw [if_neg h0] at e1
    subst e1
    have p1 := E_pos hp0
    have p2 := E_mul (m := evens l) hp0 (by omega)
    have p3 : (0 : Rat) < (evens l : Rat) := Rat.intCast_pos.mpr (by omega)
    have p4 := Rat.mul_pos p3 p1
    exact just_even (by grind) (by grind)
theorem join_just {a b part : Int} (hp : 3 ≤ part) : ∃ z, joinC (some a) (some b) = some z ∧ Just z (tipR a part + tipR b part) := by
  have e : foldC ([a, b].map some) = joinC (some a) (some b) := by
    show joinC (some a) (joinC (some b) (some 1)) = _
    rw [join_unit]
  cases e2 : joinC (some a) (some b) with
  | none => simp [joinC] at e2
  | some z =>
    refine ⟨z, rfl, ?_⟩
    have := fold_just (part := part) (l := [a, b]) (by show (2 : Int) < part; omega) (e.trans e2)
    have e3 : tips part [a, b] = tipR a part + tipR b part := by show tipR a part + (tipR b part + 0) = _; grind
    rw [e3] at this
    exact this
theorem tight_tip {x : Int} {y : Int} {part : Int} (hp : 2 ≤ part) : letsC (some y) (tipR x part) = decide (x ≤ y) := by
  have p1 := E_pos (show 0 < part by omega)
  have p2 := E_mul (m := 1) (show 0 < part by omega) (by omega)
  have o1 : ((1 : Int) : Rat) = 1 := rfl
  have cast : ∀ a b : Int, ((a : Rat) < (b : Rat)) ↔ a < b := fun _ _ => Rat.intCast_lt_intCast
  have castle : ∀ a b : Int, ((a : Rat) ≤ (b : Rat)) ↔ a ≤ b := fun _ _ => Rat.intCast_le_intCast
  have gap : ∀ a b : Int, ¬ a ≤ b → (b : Rat) + 1 ≤ (a : Rat) := fun a b h => by
    have := (castle (b + 1) a).mpr (by omega)
    rw [Rat.intCast_add] at this
    grind
  rcases half x with ⟨a, rfl⟩ | ⟨a, rfl⟩ <;> rcases half y with ⟨b, rfl⟩ | ⟨b, rfl⟩ <;> simp only [tip_ev, tip_od, lets_even, lets_odd] <;> rw [decide_eq_decide]
  · rw [show 2 * a ≤ 2 * b ↔ a ≤ b by omega]
    by_cases h : a ≤ b
    · have := (castle a b).mpr h
      exact ⟨fun _ => h, fun _ => by grind⟩
    · have := gap a b h
      exact ⟨fun q => by grind, fun q => absurd q h⟩
  · rw [show 2 * a ≤ 2 * b + 1 ↔ a ≤ b by omega]
    by_cases h : a ≤ b
    · have := (castle a b).mpr h
      exact ⟨fun _ => h, fun _ => by grind⟩
    · have := gap a b h
      exact ⟨fun q => by grind, fun q => absurd q h⟩
  · rw [cast]; omega
  · rw [castle]; omega
theorem lets_le {a b : Int} {r : Rat} (h : a ≤ b) (k : letsC (some a) r = true) : letsC (some b) r = true := by
  have castle : ∀ a b : Int, a ≤ b → ((a : Rat) ≤ (b : Rat)) := fun _ _ h => Rat.intCast_le_intCast.mpr h
  have castlt : ∀ a b : Int, a < b → ((a : Rat) < (b : Rat)) := fun _ _ h => Rat.intCast_lt_intCast.mpr h
  rcases half a with ⟨a, rfl⟩ | ⟨a, rfl⟩ <;> rcases half b with ⟨b, rfl⟩ | ⟨b, rfl⟩ <;> simp only [lets_even, lets_odd, decide_eq_true_eq] at k ⊢
  · have := castle a b (by omega); grind
  · have := castle a b (by omega); grind
  · have := castlt a b (by omega); grind
  · have := castle a b (by omega); grind
theorem tight_lets (x y : Option Int) (r : Rat) : letsC (tightC x y) r = (letsC x r && letsC y r) := by
  cases x with
  | none => cases y <;> simp [tightC, letsC]
  | some a => cases y with
    | none => simp [tightC, letsC]
    | some b =>
      show letsC (some (if b < a then b else a)) r = _
      split
      · rename_i h
        cases e : letsC (some b) r with
        | false => simp
        | true => rw [lets_le (show b ≤ a by omega) e]; rfl
      · rename_i h
        cases e : letsC (some a) r with
        | false => simp
        | true => rw [lets_le (show a ≤ b by omega) e]; rfl
theorem tight_pick (x y : Option Int) : tightC x y = if isTightC x y = true then x else y := by
  cases x <;> cases y <;> simp [tightC, isTightC]
  split <;> split <;> simp_all <;> omega
end TK

set_option maxRecDepth 100000
set_option maxHeartbeats 4000000
namespace TK
open PySem PySem.Spec PyProof.Rows L2
/-! ### machines, as plain data -/
inductive Sg where
  | lt | le | eq | ge | gt
deriving DecidableEq
def sgS : Sg → Str
  | .lt => "<" | .le => "<=" | .eq => "=" | .ge => ">=" | .gt => ">"
/-- a test: clock (from 1), sign, number -/
structure Tt where
  c : Nat
  s : Sg
  n : Nat
structure Dd where
  letter : Str
  src : Nat
  guard : List Tt
  backs : List Nat
  tgt : Nat
  price : Nat
structure Mc where
  k : Nat
  rooms : List (List Tt × Nat)
  deeds : List Dd
def tV (t : Tt) : PV := .tup [.int t.c, .str (sgS t.s), .int t.n]
def rmV (r : List Tt × Nat) : PV := .tup [.tup (r.1.map tV), .int r.2]
def dV (d : Dd) : PV := .tup [.str d.letter, .int d.src, .tup (d.guard.map tV), .tup (d.backs.map fun (b : Nat) => .int (b : Int)), .int d.tgt, .int d.price]
def mV (m : Mc) : PV := .tup [.int m.k, .tup (m.rooms.map rmV), .tup (m.deeds.map dV)]
/-- a test against a value -/
def sgH (s : Sg) (r : Rat) (n : Nat) : Bool := match s with
  | .lt => decide (r < ((n : Int) : Rat))
  | .le => decide (r ≤ ((n : Int) : Rat))
  | .eq => decide (r = ((n : Int) : Rat))
  | .ge => decide (((n : Int) : Rat) ≤ r)
  | .gt => decide (((n : Int) : Rat) < r)
def Tt.ok (k : Nat) (t : Tt) : Prop := 1 ≤ t.c ∧ t.c ≤ k ∧ t.n ≤ 1000
def Tt.holds (vals : List Rat) (t : Tt) : Bool := sgH t.s (vals.getD (t.c - 1) 0) t.n
/-- the values of the clocks -/
def vsV (vals : List Rat) : PV := .tup (vals.map ratV)
def VB (b : Nat) (vals : List Rat) : Prop := ∀ r ∈ vals, Bd b r
theorem divInt_lt_iff {n d e : Int} (h : 0 < d) : ((e : Rat) < Rat.divInt n d) ↔ e * d < n := by
  have hd : (0 : Rat) < (d : Rat) := Rat.intCast_pos.mpr h
  rw [Rat.divInt_eq_div, Rat.lt_div_iff hd, ← Rat.intCast_mul, Rat.intCast_lt_intCast]
theorem divInt_lt_iff' {n d e : Int} (h : 0 < d) : (Rat.divInt n d < (e : Rat)) ↔ n < e * d := by
  have hd : (0 : Rat) < (d : Rat) := Rat.intCast_pos.mpr h
  rw [Rat.divInt_eq_div, Rat.div_lt_iff hd, ← Rat.intCast_mul, Rat.intCast_lt_intCast]
/-- a comparison with a whole number, as the program makes it -/
def sp_compared : PSpec
  | [v, .str x, .int n], st, Q, _ => ∃ (r : Rat) (s : Sg) (m : Nat), Fr 3900 v r ∧ x = sgS s ∧ n = m ∧ m ≤ 1000 ∧ Q (.bl (sgH s r m)) st
  | _, _, _, _ => False
theorem sg_iff (s : Sg) : (sgS s = ("<" : Str) ↔ s = .lt) ∧ (sgS s = ("<=" : Str) ↔ s = .le) ∧ (sgS s = ("=" : Str) ↔ s = .eq) ∧ (sgS s = (">=" : Str) ↔ s = .ge) := by
  cases s <;> decide
def b_compared : Ss :=
  (.cons (.asg (.name 3) (.idx (.var 0) (.int 0))) (.cons (.asg (.name 4) (.bin .Mult false (.var 2) (.idx (.var 0) (.int 1)))) (.cons (.ite (.cmp .Eq (.var 1) (.str "<")) (.cons (.ret (.cmp .Lt (.var 3) (.var 4))) .nil) .nil) (.cons (.ite (.cmp .Eq (.var 1) (.str "<=")) (.cons (.ret (.cmp .LtE (.var 3) (.var 4))) .nil) .nil) (.cons (.ite (.cmp .Eq (.var 1) (.str "=")) (.cons (.ret (.cmp .Eq (.var 3) (.var 4))) .nil) .nil) (.cons (.ite (.cmp .Eq (.var 1) (.str ">=")) (.cons (.ret (.cmp .GtE (.var 3) (.var 4))) .nil) .nil) (.cons (.ret (.cmp .Gt (.var 3) (.var 4))) .nil)))))))
def n_compared : List Str := ["value", "sign", "number", "left", "right"]
theorem w_compared : ∀ vs s Q X, vs.length = 3 → sp_compared vs s Q X → wpFn n_compared.length b_compared vs s Q X := by
  intro vs s Q X hl h
  unfold sp_compared at h
  split at h
  · rename_i v x n
    rw [fn_eq]
    unfold b_compared n_compared
    obtain ⟨r, sg, m, ⟨a, d, rfl, h1, h2, h3, rfl⟩, rfl, rfl, hm, h⟩ := h
    obtain ⟨g1, g2, g3, g4⟩ := sg_iff sg
    have mk : IntMulOk (m : Int) d := CMul.ok (.inl ⟨by omega, by omega⟩)
    have e1 := @divInt_lt_iff' a d m h1
    have e2 := @divInt_lt_iff a d m h1
    have e3 : (Rat.divInt a d ≤ ((m : Int) : Rat)) ↔ a ≤ m * d := by rw [← Rat.not_lt, e2, Int.not_lt]
    have e4 : (((m : Int) : Rat) ≤ Rat.divInt a d) ↔ m * d ≤ a := by rw [← Rat.not_lt, e1, Int.not_lt]
    have e5 : (Rat.divInt a d = ((m : Int) : Rat)) ↔ a = m * d := ⟨fun e => Int.le_antisymm (e3.mp (by rw [e]; exact Rat.le_refl)) (e4.mp (by rw [e]; exact Rat.le_refl)), fun e => Rat.le_antisymm (e3.mpr (by omega)) (e4.mpr (by omega))⟩
    simp_all only [ss_nil]
    (first | rw [Nx_eq] | rw [Arm_eq] | skip); (try simp_all only [ss_nil])
    refine ⟨mk, ?_⟩
    (first | rw [Nx_eq] | rw [Arm_eq] | skip); (try simp_all only [ss_nil])
    (first | rw [Nx_eq] | rw [Arm_eq] | skip); (try simp_all only [ss_nil])
    cases sg <;> unfold sgH at h <;> simp only [e1, e2, e3, e4, e5] at h
    · simp_all only [ss_nil, g1, Arm_eq]
      exact ⟨s, .rfl, h⟩
    · simp_all only [ss_nil, g1, g2, Arm_eq, Nx_eq]
      exact ⟨s, .rfl, h⟩
    · simp_all only [ss_nil, g1, g2, g3, Arm_eq, Nx_eq]
      exact ⟨s, .rfl, h⟩
    · simp_all only [ss_nil, g1, g2, g3, g4, Arm_eq, Nx_eq]
      exact ⟨s, .rfl, h⟩
    · simp_all only [ss_nil, g1, g2, g3, g4, Arm_eq, Nx_eq]
      exact ⟨s, .rfl, h⟩
  · exact h.elim
end TK

set_option maxRecDepth 100000
set_option maxHeartbeats 4000000
namespace TK
open PySem PySem.Spec PyProof.Rows L2
/-! ### the program's own reckoning: as the law's -/
def sp_common_factor : PSpec
  | [.int a, .int b], st, Q, _ => Q (.int (Int.gcd a b)) st
  | _, _, _, _ => False
def b_common_factor_1 : Ss :=
  (.cons (.asg (.name 2) (.bin .Mod false (.blt .int false (.cons (.var 0) .nil)) (.var 1))) (.cons (.asg (.name 0) (.var 1)) (.cons (.asg (.name 1) (.var 2)) .nil)))
def b_common_factor : Ss :=
  (.cons (.asg (.name 0) (.blt .abs false (.cons (.var 0) .nil))) (.cons (.asg (.name 1) (.blt .abs false (.cons (.var 1) .nil))) (.cons (.while (.cmp .Gt (.var 1) (.int 0)) b_common_factor_1) (.cons (.ret (.var 0)) .nil))))
def n_common_factor : List Str := ["a", "b", "rest"]

theorem w_common_factor : ∀ vs s Q X, vs.length = 2 → sp_common_factor vs s Q X → wpFn n_common_factor.length b_common_factor vs s Q X := by
  intro vs s Q X hl h
  unfold sp_common_factor at h
  split at h
  · rename_i a b
    rw [fn_eq]
    unfold b_common_factor n_common_factor
    have ab : ∀ z : Int, (if z < 0 then -z else z) = (z.natAbs : Int) := fun z => by split <;> omega
    simp_all only [ss_nil, ab]
    (first | rw [Nx_eq] | rw [Arm_eq] | skip); (try simp_all only [ss_nil, ab])
    (first | rw [Nx_eq] | rw [Arm_eq] | skip); (try simp_all only [ss_nil])
    refine while_ind (fun n τ st => ∃ (x y : Nat) (o : Option PV), τ = [some (.int x), some (.int y), o] ∧ st = s ∧ y = n ∧ Nat.gcd x y = Int.gcd a b) ?_ b.natAbs ⟨a.natAbs, b.natAbs, none, rfl, rfl, rfl, rfl⟩
    rintro n τ st ⟨x, y, o, rfl, rfl, rfl, hg⟩
    simp_all only [ss_nil]
    split
    · rename_i hy
      have hy' : 0 < y := by omega
      unfold b_common_factor_1
      simp_all only [ss_nil]
      refine ⟨by omega, ?_⟩
      (first | rw [Nx_eq] | rw [Arm_eq] | skip); (try simp_all only [ss_nil])
      (first | rw [Nx_eq] | rw [Arm_eq] | skip); (try simp_all only [ss_nil, Nx_eq])
      refine ⟨x % y, Nat.mod_lt _ hy', y, x % y, some (.int (x % y : Nat)), by rw [fmod_gcd x y hy'], rfl, ?_⟩
      rw [← hg, Nat.gcd_comm x y, Nat.gcd_rec y x, Nat.gcd_comm]
    · rename_i hy
      have : y = 0 := by omega
      subst this
      (first | rw [Nx_eq] | rw [Arm_eq] | skip); (try simp_all only [ss_nil])
      rw [Nat.gcd_zero_right] at hg
      subst hg
      exact ⟨st, .rfl, h⟩
  · exact h.elim
def sp_lowest_terms : PSpec
  | [.int n, .int d], st, Q, _ => d ≠ 0 ∧ Sm d ∧ Q (ratV (Rat.divInt n d)) st
  | _, _, _, _ => False
def b_lowest_terms : Ss :=
  (.cons (.ite (.cmp .Lt (.var 1) (.int 0)) (.cons (.asg (.name 0) (.neg (.var 0))) (.cons (.asg (.name 1) (.neg (.var 1))) .nil)) .nil) (.cons (.asg (.name 2) (.call "common_factor" sp_common_factor (.cons (.var 0) (.cons (.var 1) .nil)))) (.cons (.ret (.tup (.cons (.bin .FloorDiv false (.var 0) (.var 2)) (.cons (.bin .FloorDiv false (.var 1) (.var 2)) .nil)))) .nil)))
def n_lowest_terms : List Str := ["n", "d", "factor"]

theorem w_lowest_terms : ∀ vs s Q X, vs.length = 2 → sp_lowest_terms vs s Q X → wpFn n_lowest_terms.length b_lowest_terms vs s Q X := by
  intro vs s Q X hl h
  unfold sp_lowest_terms at h
  split at h
  · rename_i n d
    rw [fn_eq]
    unfold b_lowest_terms n_lowest_terms
    obtain ⟨h0, hs, h⟩ := h
    have key : ∀ n d : Int, 0 < d → Sm d → Q (ratV (Rat.divInt n d)) s → wpSs (.cons (.asg (.name 2) (.call "common_factor" sp_common_factor (.cons (.var 0) (.cons (.var 1) .nil)))) (.cons (.ret (.tup (.cons (.bin .FloorDiv false (.var 0) (.var 2)) (.cons (.bin .FloorDiv false (.var 1) (.var 2)) .nil)))) .nil)) (fnEnds Q X) [some (.int n), some (.int d), none] s := by
      intro n d hd hs h
      simp_all only [ss_nil]
      refine callS_of ?_
      unfold sp_common_factor
      simp_all only [ss_nil]
      have hg0 : 0 < Int.gcd n d := Int.gcd_pos_of_ne_zero_right _ (by omega)
      have hg1 : Int.gcd n d ≤ d.natAbs := Int.gcd_le_natAbs_right _ (by omega)
      have hdv : DivOk (Int.gcd n d) := Sm.div (Nat.lt_of_le_of_lt (by simpa using hg1) hs) (by omega)
      (first | rw [Nx_eq] | rw [Arm_eq] | skip); (try simp_all only [ss_nil])
      refine ⟨hdv, hdv, by decide, s, .rfl, ?_⟩
      have e1 : n.fdiv (Int.gcd n d) = (Rat.divInt n d).num := by
        rw [Rat.num_divInt, Int.sign_eq_one_of_pos hd, Int.one_mul, Int.gcd_comm, Int.fdiv_eq_ediv_of_nonneg _ (by omega)]
      have e2 : d.fdiv (Int.gcd n d) = ((Rat.divInt n d).den : Int) := by
        rw [Rat.den_divInt, if_neg (by omega), Int.gcd_comm, Int.fdiv_eq_ediv_of_nonneg _ (by omega)]
        rw [Int.natCast_ediv]
        congr 1
        omega
      rw [e1, e2]
      exact h
    simp_all only [ss_nil]
    split
    · rename_i hd
      (first | rw [Nx_eq] | rw [Arm_eq] | skip); (try simp_all only [ss_nil])
      (first | rw [Nx_eq] | rw [Arm_eq] | skip); (try simp_all only [ss_nil])
      (first | rw [Nx_eq] | rw [Arm_eq] | skip); (try simp_all only [ss_nil])
      rw [Nx_eq]
      refine key (-n) (-d) (by omega) (by unfold Sm at hs ⊢; omega) ?_
      rw [Rat.neg_divInt_neg]
      exact h
    · (first | rw [Nx_eq] | rw [Arm_eq] | skip); (try simp_all only [ss_nil])
      rw [Nx_eq]
      exact key n d (by omega) hs h
  · exact h.elim

def sp_plus : PSpec
  | [a, b], st, Q, _ => ∃ x y : Rat, Fr 3900 a x ∧ Fr 3900 b y ∧ Q (ratV (x + y)) st
  | _, _, _, _ => False
def b_plus : Ss :=
  (.cons (.ret (.call "lowest_terms" sp_lowest_terms (.cons (.bin .Add false (.bin .Mult false (.idx (.var 0) (.int 0)) (.idx (.var 1) (.int 1))) (.bin .Mult false (.idx (.var 1) (.int 0)) (.idx (.var 0) (.int 1)))) (.cons (.bin .Mult false (.idx (.var 0) (.int 1)) (.idx (.var 1) (.int 1))) .nil)))) .nil)
def n_plus : List Str := ["a", "b"]

theorem w_plus : ∀ vs s Q X, vs.length = 2 → sp_plus vs s Q X → wpFn n_plus.length b_plus vs s Q X := by
  intro vs s Q X hl h
  unfold sp_plus at h
  split at h
  · rename_i a b
    rw [fn_eq]
    unfold b_plus n_plus
    obtain ⟨x, y, ⟨n, d, rfl, h1, h2, h3, rfl⟩, ⟨m, e, rfl, k1, k2, k3, rfl⟩, h⟩ := h
    simp_all only [ss_nil]
    refine ⟨Sz.ok h2 k3, Sz.ok k2 h3, Sz.ok h3 k3, callS_of ⟨Int.mul_ne_zero (by omega) (by omega), Sz.mulSm h3 k3, s, .rfl, ?_⟩⟩
    rw [divInt_add (by omega) (by omega)]
    exact h
  · exact h.elim
def sp__law_compare : PSpec
  | [v, .str x, .int n], st, Q, _ => ∃ (r : Rat) (s : Sg) (m : Nat), Fr 3900 v r ∧ x = sgS s ∧ n = m ∧ m ≤ 1000 ∧ Q (.bl (sgH s r m)) st
  | _, _, _, _ => False
def b__law_compare : Ss :=
  (.cons (.asg (.name 3) (.idx (.var 0) (.int 0))) (.cons (.asg (.name 4) (.bin .Mult false (.var 2) (.idx (.var 0) (.int 1)))) (.cons (.ite (.cmp .Eq (.var 1) (.str "<")) (.cons (.ret (.cmp .Lt (.var 3) (.var 4))) .nil) .nil) (.cons (.ite (.cmp .Eq (.var 1) (.str "<=")) (.cons (.ret (.cmp .LtE (.var 3) (.var 4))) .nil) .nil) (.cons (.ite (.cmp .Eq (.var 1) (.str "=")) (.cons (.ret (.cmp .Eq (.var 3) (.var 4))) .nil) .nil) (.cons (.ite (.cmp .Eq (.var 1) (.str ">=")) (.cons (.ret (.cmp .GtE (.var 3) (.var 4))) .nil) .nil) (.cons (.ret (.cmp .Gt (.var 3) (.var 4))) .nil)))))))
def n__law_compare : List Str := ["value", "sign", "number", "left", "right"]
theorem w__law_compare : ∀ vs s Q X, vs.length = 3 → sp__law_compare vs s Q X → wpFn n__law_compare.length b__law_compare vs s Q X := by
  intro vs s Q X hl h
  unfold sp__law_compare at h
  split at h
  · rename_i v x n
    rw [fn_eq]
    unfold b__law_compare n__law_compare
    obtain ⟨r, sg, m, ⟨a, d, rfl, h1, h2, h3, rfl⟩, rfl, rfl, hm, h⟩ := h
    obtain ⟨g1, g2, g3, g4⟩ := sg_iff sg
    have mk : IntMulOk (m : Int) d := CMul.ok (.inl ⟨by omega, by omega⟩)
    have e1 := @divInt_lt_iff' a d m h1
    have e2 := @divInt_lt_iff a d m h1
    have e3 : (Rat.divInt a d ≤ ((m : Int) : Rat)) ↔ a ≤ m * d := by rw [← Rat.not_lt, e2, Int.not_lt]
    have e4 : (((m : Int) : Rat) ≤ Rat.divInt a d) ↔ m * d ≤ a := by rw [← Rat.not_lt, e1, Int.not_lt]
    have e5 : (Rat.divInt a d = ((m : Int) : Rat)) ↔ a = m * d := ⟨fun e => Int.le_antisymm (e3.mp (by rw [e]; exact Rat.le_refl)) (e4.mp (by rw [e]; exact Rat.le_refl)), fun e => Rat.le_antisymm (e3.mpr (by omega)) (e4.mpr (by omega))⟩
    simp_all only [ss_nil]
    (first | rw [Nx_eq] | rw [Arm_eq] | skip); (try simp_all only [ss_nil])
    refine ⟨mk, ?_⟩
    (first | rw [Nx_eq] | rw [Arm_eq] | skip); (try simp_all only [ss_nil])
    (first | rw [Nx_eq] | rw [Arm_eq] | skip); (try simp_all only [ss_nil])
    cases sg <;> unfold sgH at h <;> simp only [e1, e2, e3, e4, e5] at h
    · simp_all only [ss_nil, g1, Arm_eq]
      exact ⟨s, .rfl, h⟩
    · simp_all only [ss_nil, g1, g2, Arm_eq, Nx_eq]
      exact ⟨s, .rfl, h⟩
    · simp_all only [ss_nil, g1, g2, g3, Arm_eq, Nx_eq]
      exact ⟨s, .rfl, h⟩
    · simp_all only [ss_nil, g1, g2, g3, g4, Arm_eq, Nx_eq]
      exact ⟨s, .rfl, h⟩
    · simp_all only [ss_nil, g1, g2, g3, g4, Arm_eq, Nx_eq]
      exact ⟨s, .rfl, h⟩
  · exact h.elim
end TK

set_option maxRecDepth 100000
set_option maxHeartbeats 4000000
namespace TK
open PySem PySem.Spec PyProof.Rows L2
/-! ### tests against values -/
theorem vs_get {b : Nat} {vals : List Rat} (hv : VB b vals) {t : Tt} (ht : t.ok vals.length) : atI (vals.map ratV) ((t.c : Int) - 1) = some (ratV (vals.getD (t.c - 1) 0)) ∧ Bd b (vals.getD (t.c - 1) 0) := by
  obtain ⟨h1, h2, _⟩ := ht
  have hl : t.c - 1 < vals.length := by omega
  have e : ((t.c : Int) - 1) = ((t.c - 1 : Nat) : Int) := by omega
  have eg : vals.getD (t.c - 1) 0 = vals[t.c - 1] := by rw [List.getD_eq_getElem?_getD, List.getElem?_eq_getElem hl]; rfl
  rw [e, atI_nat, List.getElem?_map, List.getElem?_eq_getElem hl, eg]
  exact ⟨rfl, hv _ (List.getElem_mem hl)⟩
def sp_meets : PSpec
  | [a, b], st, Q, _ => ∃ (t : Tt) (vals : List Rat), a = tV t ∧ b = vsV vals ∧ t.ok vals.length ∧ VB 3900 vals ∧ Q (.bl (t.holds vals)) st
  | _, _, _, _ => False
def b_meets : Ss :=
  (.cons (.ret (.call "compared" sp_compared (.cons (.idx (.var 1) (.bin .Sub false (.idx (.var 0) (.int 0)) (.int 1))) (.cons (.idx (.var 0) (.int 1)) (.cons (.idx (.var 0) (.int 2)) .nil))))) .nil)
def n_meets : List Str := ["test", "values"]
theorem w_meets : ∀ vs s Q X, vs.length = 2 → sp_meets vs s Q X → wpFn n_meets.length b_meets vs s Q X := by
  intro vs s Q X hl h
  unfold sp_meets at h
  split at h
  · rename_i a b
    rw [fn_eq]
    unfold b_meets n_meets
    obtain ⟨t, vals, rfl, rfl, ht, hv, h⟩ := h
    obtain ⟨e, hb⟩ := vs_get hv ht
    simp_all only [ss_nil, tV, vsV, e]
    exact callS_of ⟨_, t.s, t.n, hb.fr, rfl, rfl, ht.2.2, s, .rfl, h⟩
  · exact h.elim
/-- tests given as a tuple or a list -/
def sp_meets_all : PSpec
  | [.tup xs, b], st, Q, _ => ∃ (ts : List Tt) (vals : List Rat), xs = ts.map tV ∧ b = vsV vals ∧ (∀ t ∈ ts, t.ok vals.length) ∧ ts.length ≤ 10 ^ 6 ∧ VB 3900 vals ∧ Q (.bl (ts.all (Tt.holds vals))) st
  | _, _, _, _ => False
def b_meets_all : Ss :=
  (.cons (.ret (.blt .all false (.cons (.comp false [2] (.name 2) (.val (.var 0)) .nil (.call "meets" sp_meets (.cons (.var 2) (.cons (.var 1) .nil)))) .nil))) .nil)
def n_meets_all : List Str := ["tests", "values", "test"]
theorem bls_of : ∀ bs : List Bool, blsOf (bs.map PV.bl) = some bs
  | [] => rfl
  | b :: r => by
    show (blsOf (r.map PV.bl)).map (b :: ·) = _
    rw [bls_of r]; rfl
theorem w_meets_all : ∀ vs s Q X, vs.length = 2 → sp_meets_all vs s Q X → wpFn n_meets_all.length b_meets_all vs s Q X := by
  intro vs s Q X hl h
  unfold sp_meets_all at h
  split at h
  · rename_i xs b
    rw [fn_eq]
    unfold b_meets_all n_meets_all
    obtain ⟨ts, vals, rfl, rfl, hts, hlen, hv, h⟩ := h
    simp_all only [ss_nil]
    refine lc_enc (fun t => .bl (t.holds vals)) ts (fun τ1 st' Q q => by simp_all only [ss_nil]; exact q) (fun t ht => ⟨_, rfl, fun st' sub K hk => ?_⟩) ?_
    · simp_all only [ss_nil]
      exact callS_of ⟨t, vals, rfl, rfl, hts t ht, hv, hk⟩
    have e : (ts.map fun t => PV.bl (t.holds vals)) = (ts.map (Tt.holds vals)).map PV.bl := by rw [List.map_map]; rfl
    simp_all only [ss_nil, e, bls_of]
    refine ⟨s, .rfl, ?_⟩
    have e2 : (ts.map (Tt.holds vals)).all id = ts.all (Tt.holds vals) := by rw [List.all_map]; rfl
    rw [e2]
    exact h
  · exact h.elim
end TK

set_option maxRecDepth 100000
set_option maxHeartbeats 4000000
namespace TK
open PySem PySem.Spec PyProof.Rows L2
/-! ### steps of a machine -/
structure Mc.ok (m : Mc) : Prop where
  k : m.k ≤ 1000
  rooms : m.rooms ≠ []
  nrooms : m.rooms.length ≤ 1000
  ndeeds : m.deeds.length ≤ 1000
  hold : ∀ r ∈ m.rooms, (∀ t ∈ r.1, t.ok m.k) ∧ r.1.length ≤ 1000
  deed : ∀ d ∈ m.deeds, d.src < m.rooms.length ∧ d.tgt < m.rooms.length ∧ (∀ t ∈ d.guard, t.ok m.k) ∧ d.guard.length ≤ 1000 ∧ d.backs.length ≤ 1000
def Mc.holdOf (m : Mc) (p : Nat) : List Tt := (m.rooms.getD p ([], 0)).1
def stV (x : Nat × List Rat) : PV := .tup [.int x.1, vsV x.2]
def stO : Option (Nat × List Rat) → PV
  | none => .non
  | some x => stV x
theorem Mc.holdOf_ok {m : Mc} (h : m.ok) {p : Nat} (hp : p < m.rooms.length) : (∀ t ∈ m.holdOf p, t.ok m.k) ∧ (m.holdOf p).length ≤ 10 ^ 6 := by
  unfold Mc.holdOf
  rw [List.getD_eq_getElem?_getD, List.getElem?_eq_getElem hp]
  obtain ⟨a, b⟩ := h.hold _ (List.getElem_mem hp)
  exact ⟨a, Nat.le_trans b (by decide)⟩
theorem room_at {m : Mc} {p : Nat} (hp : p < m.rooms.length) : atI (m.rooms.map rmV) (p : Int) = some (.tup [.tup ((m.holdOf p).map tV), .int (m.rooms.getD p ([], 0)).2]) := by
  rw [atI_nat, List.getElem?_map]
  unfold Mc.holdOf
  rw [List.getD_eq_getElem?_getD, List.getElem?_eq_getElem hp]
  rfl
def Mc.wait (m : Mc) (x : Nat × List Rat) (r : Rat) : Option (Nat × List Rat) :=
  if (m.holdOf x.1).all (Tt.holds (x.2.map (· + r))) = true then some (x.1, x.2.map (· + r)) else none
theorem VB.add {a b : Nat} {vals : List Rat} {r : Rat} (h : VB a vals) (k : Bd b r) : VB (a + b + 1) (vals.map (· + r)) := fun x hx => by
  obtain ⟨y, hy, rfl⟩ := List.mem_map.mp hx
  exact (h y hy).add k
theorem VB.mono {a b : Nat} {vals : List Rat} (h : VB a vals) (k : a ≤ b) : VB b vals := fun x hx => (h x hx).mono k
def sp_start_state : PSpec
  | [a], st, Q, _ => ∃ m : Mc, a = mV m ∧ m.k ≤ 1000 ∧ Q (stV (0, List.replicate m.k 0)) st
  | _, _, _, _ => False
def b_start_state : Ss :=
  (.cons (.ret (.tup (.cons (.int 0) (.cons (.blt .tuple false (.cons (.comp false [1] (.name 1) (.range1 (.idx (.var 0) (.int 0))) .nil (.glob "ZERO" (.tup [.int 0, .int 1]))) .nil)) .nil)))) .nil)
def n_start_state : List Str := ["machine", "clock"]
theorem zeros {n : Nat} : ((List.range n).map fun _ => PV.tup [.int 0, .int 1]) = (List.replicate n (0 : Rat)).map ratV := by
  rw [List.map_const', List.length_range, List.map_replicate]; rfl
theorem w_start_state : ∀ vs s Q X, vs.length = 1 → sp_start_state vs s Q X → wpFn n_start_state.length b_start_state vs s Q X := by
  intro vs s Q X hl h
  unfold sp_start_state at h
  split at h
  · rw [fn_eq]
    unfold b_start_state n_start_state
    obtain ⟨m, rfl, hk, h⟩ := h
    simp_all only [ss_nil, mV]
    have sz : 1000 ≤ sizeLine := by decide
    refine ⟨by unfold R62; omega, ?_⟩
    unfold rngL
    refine ⟨by rw [List.length_map, List.length_range]; omega, ?_⟩
    refine lc_enc (fun _ => .tup [.int 0, .int 1]) _ (fun τ1 st' Q q => by simp_all only [ss_nil]; exact q) (fun t ht => ⟨_, rfl, fun st' sub K hk => ?_⟩) ?_
    · simp_all only [ss_nil]
      exact hk
    simp_all only [ss_nil]
    refine ⟨by decide, s, .rfl, ?_⟩
    rw [zeros, Int.toNat_natCast]
    exact h
  · exact h.elim
def sp_waited : PSpec
  | [a, b, c], st, Q, _ => ∃ (m : Mc) (x : Nat × List Rat) (r : Rat), a = mV m ∧ b = stV x ∧ Fr 1500 c r ∧ m.ok ∧ x.1 < m.rooms.length ∧ x.2.length = m.k ∧ VB 1500 x.2 ∧ Q (stO (m.wait x r)) st
  | _, _, _, _ => False
def b_waited : Ss :=
  (.cons (.asg (.tup (.cons (.name 4) (.cons (.name 5) .nil))) (.var 1)) (.cons (.asg (.name 3) (.blt .tuple false (.cons (.comp false [6] (.name 6) (.val (.var 5)) .nil (.call "plus" sp_plus (.cons (.var 6) (.cons (.var 2) .nil)))) .nil))) (.cons (.ite (.not (.val (.call "meets_all" sp_meets_all (.cons (.idx (.idx (.idx (.var 0) (.int 1)) (.var 4)) (.int 0)) (.cons (.var 3) .nil))))) (.cons (.ret .non) .nil) .nil) (.cons (.ret (.tup (.cons (.var 4) (.cons (.var 3) .nil)))) .nil))))
def n_waited : List Str := ["machine", "state", "wait", "later_values", "place", "values", "value"]
theorem w_waited : ∀ vs s Q X, vs.length = 3 → sp_waited vs s Q X → wpFn n_waited.length b_waited vs s Q X := by
  intro vs s Q X hl h
  unfold sp_waited at h
  split at h
  · rename_i a b c
    rw [fn_eq]
    unfold b_waited n_waited
    obtain ⟨m, x, r, rfl, rfl, hr, hm, hp, hx, hv, h⟩ := h
    obtain ⟨p, vals⟩ := x
    have ra := room_at hp
    obtain ⟨h1, h2⟩ := Mc.holdOf_ok hm hp
    simp_all only [ss_nil, mV, stV, vsV]
    (first | rw [Nx_eq] | rw [Arm_eq] | skip); (try simp_all only [ss_nil])
    refine lc_enc (fun y => ratV (y + r)) vals (fun τ1 st' Q q => by simp_all only [ss_nil]; exact q) (fun y hy => ⟨_, rfl, fun st' sub K hk => ?_⟩) ?_
    · simp_all only [ss_nil]
      exact callS_of ⟨y, r, (hv y hy).fr.mono (by decide), hr.mono (by decide), hk⟩
    have e : (vals.map fun y => ratV (y + r)) = (vals.map (· + r)).map ratV := by rw [List.map_map]; rfl
    have vb : VB 3900 (vals.map (· + r)) := (hv.add hr.bd).mono (by decide)
    simp_all only [ss_nil, e]
    (first | rw [Nx_eq] | rw [Arm_eq] | skip); (try simp_all only [ss_nil, ra])
    refine callS_of ⟨m.holdOf p, vals.map (· + r), rfl, rfl, fun t ht => by rw [List.length_map]; have := h1 t ht; rwa [← hx] at this, h2, vb, ?_⟩
    unfold Mc.wait at h
    by_cases hh : (m.holdOf p).all (Tt.holds (vals.map (· + r))) = true
    · rw [if_pos hh] at h
      simp_all only [ss_nil, hh]
      (first | rw [Nx_eq] | rw [Arm_eq] | skip); (try simp_all only [ss_nil])
      (first | rw [Nx_eq] | rw [Arm_eq] | skip); (try simp_all only [ss_nil])
      exact ⟨by decide, s, .rfl, h⟩
    · rw [if_neg hh] at h
      have hf : (m.holdOf p).all (Tt.holds (vals.map (· + r))) = false := by simpa using hh
      simp_all only [ss_nil, hf]
      (first | rw [Nx_eq] | rw [Arm_eq] | skip); (try simp_all only [ss_nil])
      exact ⟨s, .rfl, h⟩
  · exact h.elim
end TK

set_option maxRecDepth 100000
set_option maxHeartbeats 4000000
namespace TK
open PySem PySem.Spec PyProof.Rows L2
/-- the clocks of backs are set to 0 -/
def backV (vals : List Rat) (backs : List Nat) : List Rat := (vals.zipIdx 0).map fun p => if p.2 + 1 ∈ backs then 0 else p.1
theorem backV_len (vals : List Rat) (backs : List Nat) : (backV vals backs).length = vals.length := by
  unfold backV; rw [List.length_map, List.length_zipIdx]
theorem Bd.zero (b : Nat) (h : 0 < b) : Bd b 0 := ⟨Nat.two_pow_pos b, by show 1 < 2 ^ b; exact Nat.one_lt_two_pow (by omega)⟩
theorem VB.back {b : Nat} (hb : 0 < b) {vals : List Rat} (h : VB b vals) (backs : List Nat) : VB b (backV vals backs) := fun x hx => by
  obtain ⟨p, hp, rfl⟩ := List.mem_map.mp hx
  split
  · exact Bd.zero b hb
  · exact h _ (List.fst_mem_of_mem_zipIdx hp)
theorem any_nat (bs : List Nat) (i : Nat) : ((bs.map fun (b : Nat) => PV.int (b : Int)).any fun y => eqv y (.int ((i : Int) + 1))) = decide (i + 1 ∈ bs) := by
  rw [List.any_map]
  induction bs with
  | nil => rfl
  | cons x r ih =>
    rw [List.any_cons, ih]
    have e : eqv (.int (x : Int)) (.int ((i : Int) + 1)) = decide (x = i + 1) := by
      rw [show eqv (.int (x : Int)) (.int ((i : Int) + 1)) = decide ((x : Int) = (i : Int) + 1) by unfold eqv; rfl, decide_eq_decide]
      omega
    show (eqv (.int (x : Int)) (.int ((i : Int) + 1)) || _) = _
    rw [e]
    by_cases h : x = i + 1 <;> by_cases h2 : i + 1 ∈ r <;> simp [h, h2, eq_comm]
    all_goals omega
theorem all_scN (bs : List Nat) : (bs.map fun (b : Nat) => PV.int (b : Int)).all isSc = true := by
  rw [List.all_map, List.all_eq_true]
  intro x _
  rfl
def sp_values_back : PSpec
  | [a, b], st, Q, _ => ∃ (vals : List Rat) (bs : List Nat), a = vsV vals ∧ b = .tup (bs.map fun (b : Nat) => .int (b : Int)) ∧ vals.length ≤ 1000 ∧ Q (vsV (backV vals bs)) st
  | _, _, _, _ => False
def b_values_back : Ss :=
  (.cons (.ret (.blt .tuple false (.cons (.comp false [2, 3] (.tup (.cons (.name 2) (.cons (.name 3) .nil))) (.enum (.var 0)) .nil (.ite (.cmp .In (.bin .Add false (.var 2) (.int 1)) (.var 1)) (.glob "ZERO" (.tup [.int 0, .int 1])) (.var 3))) .nil))) .nil)
def n_values_back : List Str := ["values", "backs", "at", "value"]
theorem w_values_back : ∀ vs s Q X, vs.length = 2 → sp_values_back vs s Q X → wpFn n_values_back.length b_values_back vs s Q X := by
  intro vs s Q X hl h
  unfold sp_values_back at h
  split at h
  · rw [fn_eq]
    unfold b_values_back n_values_back
    obtain ⟨vals, bs, rfl, rfl, hlen, h⟩ := h
    have sz : 1000 ≤ sizeLine := by decide
    simp_all only [ss_nil, vsV]
    refine ⟨by rw [enumL_len, List.length_map]; omega, ?_⟩
    rw [enumL_map]
    refine lc_enc (fun p => ratV (if p.2 + 1 ∈ bs then 0 else p.1)) (vals.zipIdx 0) (fun τ1 st' Q q => by simp_all only [ss_nil]; exact q) (fun p hp => ⟨_, rfl, fun st' sub K hk => ?_⟩) ?_
    · simp_all only [ss_nil, any_nat, all_scN, isSc]
      split
      · rename_i hm
        rw [if_pos hm] at hk
        exact hk
      · rename_i hm
        rw [if_neg hm] at hk
        exact hk
    simp_all only [ss_nil]
    refine ⟨s, .rfl, ?_⟩
    have e : ((vals.zipIdx 0).map fun p => ratV (if p.2 + 1 ∈ bs then 0 else p.1)) = (backV vals bs).map ratV := by unfold backV; rw [List.map_map]; rfl
    rw [e]
    exact h
  · exact h.elim
def ddft : Dd := ⟨"", 0, [], [], 0, 0⟩
def Mc.deedOf (m : Mc) (d : Nat) : Dd := m.deeds.getD d ddft
def Mc.act (m : Mc) (x : Nat × List Rat) (d : Nat) : Option (Nat × List Rat) :=
  if (m.deedOf d).src = x.1 ∧ (m.deedOf d).guard.all (Tt.holds x.2) = true then
    (if (m.holdOf (m.deedOf d).tgt).all (Tt.holds (backV x.2 (m.deedOf d).backs)) = true then some ((m.deedOf d).tgt, backV x.2 (m.deedOf d).backs) else none) else none
theorem deed_at {m : Mc} {d : Nat} (hd : d < m.deeds.length) : atI (m.deeds.map dV) (d : Int) = some (dV (m.deedOf d)) ∧ m.deedOf d ∈ m.deeds := by
  unfold Mc.deedOf
  rw [atI_nat, List.getElem?_map, List.getD_eq_getElem?_getD, List.getElem?_eq_getElem hd]
  exact ⟨rfl, List.getElem_mem hd⟩
def sp_acted : PSpec
  | [a, b, .int d], st, Q, _ => ∃ (m : Mc) (x : Nat × List Rat) (e : Nat), a = mV m ∧ b = stV x ∧ d = e ∧ m.ok ∧ e < m.deeds.length ∧ x.2.length = m.k ∧ VB 1500 x.2 ∧ Q (stO (m.act x e)) st
  | _, _, _, _ => False
def b_acted : Ss :=
  (.cons (.asg (.tup (.cons (.name 5) (.cons (.name 6) .nil))) (.var 1)) (.cons (.asg (.name 3) (.idx (.idx (.var 0) (.int 2)) (.var 2))) (.cons (.ite (.bools .Or (.cons (.cmp .NotEq (.idx (.var 3) (.int 1)) (.var 5)) (.cons (.not (.val (.call "meets_all" sp_meets_all (.cons (.idx (.var 3) (.int 2)) (.cons (.var 6) .nil))))) .nil))) (.cons (.ret .non) .nil) .nil) (.cons (.asg (.name 4) (.call "values_back" sp_values_back (.cons (.var 6) (.cons (.idx (.var 3) (.int 3)) .nil)))) (.cons (.ite (.not (.val (.call "meets_all" sp_meets_all (.cons (.idx (.idx (.idx (.var 0) (.int 1)) (.idx (.var 3) (.int 4))) (.int 0)) (.cons (.var 4) .nil))))) (.cons (.ret .non) .nil) .nil) (.cons (.ret (.tup (.cons (.idx (.var 3) (.int 4)) (.cons (.var 4) .nil)))) .nil))))))
def n_acted : List Str := ["machine", "state", "deed", "told", "new_values", "place", "values"]
theorem atI_5 {α : Type} {x y z u v w : α} {r : List α} : atI (x :: y :: z :: u :: v :: w :: r) 5 = some w := atI_nat (n := 5)
theorem w_acted : ∀ vs s Q X, vs.length = 3 → sp_acted vs s Q X → wpFn n_acted.length b_acted vs s Q X := by
  intro vs s Q X hl h
  unfold sp_acted at h
  split at h
  · rename_i a b d
    rw [fn_eq]
    unfold b_acted n_acted
    obtain ⟨m, x, e, rfl, rfl, rfl, hm, hd, hx, hv, h⟩ := h
    obtain ⟨p, vals⟩ := x
    obtain ⟨da, dm⟩ := deed_at hd
    obtain ⟨d1, d2, d3, d4, d5⟩ := hm.deed _ dm
    unfold Mc.act at h
    revert da dm d1 d2 d3 d4 d5 h
    generalize m.deedOf e = D
    intro h da dm d1 d2 d3 d4 d5
    have ra := room_at d2
    obtain ⟨h1, h2⟩ := Mc.holdOf_ok hm d2
    have vb := VB.back (by decide) hv D.backs
    have okv : ∀ {vs : List Rat}, vs.length = m.k → ∀ {ts : List Tt}, (∀ t ∈ ts, t.ok m.k) → ∀ t ∈ ts, t.ok vs.length := fun h ts k t ht => by rw [h]; exact k t ht
    simp_all only [ss_nil, mV, stV]
    (first | rw [Nx_eq] | rw [Arm_eq] | skip); (try simp_all only [ss_nil])
    rw [da]
    simp_all only [ss_nil]
    (first | rw [Nx_eq] | rw [Arm_eq] | skip); (try simp_all only [ss_nil, dV])
    by_cases hs : D.src = p
    · have hs' : ((D.src : Int) = (p : Int)) = True := eq_true (by omega)
      simp_all only [ss_nil, hs']
      refine callS_of ⟨D.guard, vals, rfl, rfl, okv hx d3, Nat.le_trans d4 (by decide), hv.mono (by decide), ?_⟩
      by_cases hg : D.guard.all (Tt.holds vals) = true
      · simp_all only [ss_nil, hg]
        (first | rw [Nx_eq] | rw [Arm_eq] | skip); (try simp_all only [ss_nil])
        (first | rw [Nx_eq] | rw [Arm_eq] | skip); (try simp_all only [ss_nil])
        refine callS_of ⟨vals, D.backs, rfl, rfl, by rw [hx]; exact hm.k, ?_⟩
        simp_all only [ss_nil]
        (first | rw [Nx_eq] | rw [Arm_eq] | skip); (try simp_all only [ss_nil, ra])
        refine callS_of ⟨m.holdOf D.tgt, backV vals D.backs, rfl, rfl, okv (by rw [backV_len]; exact hx) h1, h2, vb.mono (by decide), ?_⟩
        rw [if_pos ⟨hs, hg⟩] at h
        by_cases hh : (m.holdOf D.tgt).all (Tt.holds (backV vals D.backs)) = true
        · rw [if_pos hh] at h
          simp_all only [ss_nil, hh]
          (first | rw [Nx_eq] | rw [Arm_eq] | skip); (try simp_all only [ss_nil])
          (first | rw [Nx_eq] | rw [Arm_eq] | skip); (try simp_all only [ss_nil])
          exact ⟨by decide, s, .rfl, h⟩
        · rw [if_neg hh] at h
          have hf : (m.holdOf D.tgt).all (Tt.holds (backV vals D.backs)) = false := by simpa using hh
          simp_all only [ss_nil, hf]
          (first | rw [Nx_eq] | rw [Arm_eq] | skip); (try simp_all only [ss_nil])
          exact ⟨s, .rfl, h⟩
      · rw [if_neg (fun z => hg z.2)] at h
        have hf : D.guard.all (Tt.holds vals) = false := by simpa using hg
        simp_all only [ss_nil, hf]
        (first | rw [Nx_eq] | rw [Arm_eq] | skip); (try simp_all only [ss_nil])
        exact ⟨s, .rfl, h⟩
    · rw [if_neg (fun z => hs z.1)] at h
      have hs' : ((D.src : Int) = (p : Int)) = False := eq_false (by omega)
      simp_all only [ss_nil, hs']
      (first | rw [Nx_eq] | rw [Arm_eq] | skip); (try simp_all only [ss_nil])
      exact ⟨s, .rfl, h⟩
  · exact h.elim
end TK

set_option maxRecDepth 100000
set_option maxHeartbeats 4000000
namespace TK
open PySem PySem.Spec PyProof.Rows L2
/-- the numbers of the deeds that start in a place -/
def Mc.from (m : Mc) (p : Nat) : List Nat := ((m.deeds.zipIdx 0).filter fun q => decide (q.1.src = p)).map (·.2)
theorem Mc.from_lt {m : Mc} {p : Nat} : ∀ d ∈ m.from p, d < m.deeds.length := fun d hd => by
  obtain ⟨q, hq, rfl⟩ := List.mem_map.mp hd
  have := List.mem_filter.mp hq
  have h2 := List.snd_lt_add_of_mem_zipIdx this.1
  omega
theorem Mc.from_len {m : Mc} {p : Nat} : (m.from p).length ≤ m.deeds.length := by
  unfold Mc.from
  rw [List.length_map]
  exact Nat.le_trans (List.length_filter_le ..) (by rw [List.length_zipIdx]; exact Nat.le_refl _)
def sp_deeds_from : PSpec
  | [a, .int p], st, Q, _ => ∃ (m : Mc) (q : Nat), a = mV m ∧ p = q ∧ m.deeds.length ≤ 1000 ∧ Q (.tup ((m.from q).map fun (d : Nat) => .int (d : Int))) st
  | _, _, _, _ => False
def b_deeds_from : Ss :=
  (.cons (.ret (.blt .tuple false (.cons (.comp false [2, 3] (.tup (.cons (.name 2) (.cons (.name 3) .nil))) (.enum (.idx (.var 0) (.int 2))) (.cons (.cmp .Eq (.idx (.var 3) (.int 1)) (.var 1)) .nil) (.var 2)) .nil))) .nil)
def n_deeds_from : List Str := ["machine", "place", "at", "deed"]
theorem w_deeds_from : ∀ vs s Q X, vs.length = 2 → sp_deeds_from vs s Q X → wpFn n_deeds_from.length b_deeds_from vs s Q X := by
  intro vs s Q X hl h
  unfold sp_deeds_from at h
  split at h
  · rw [fn_eq]
    unfold b_deeds_from n_deeds_from
    obtain ⟨m, q, rfl, rfl, hlen, h⟩ := h
    have sz : 1000 ≤ sizeLine := by decide
    simp_all only [ss_nil, mV]
    refine ⟨by rw [enumL_len, List.length_map]; omega, ?_⟩
    rw [enumL_map]
    refine lc_filter (fun p => decide (p.1.src = q)) (fun p => .int (p.2 : Int)) (m.deeds.zipIdx 0) (fun p hp => ⟨_, rfl, fun st' sub => ⟨fun K hk => ?_, fun _ K hk => ?_⟩⟩) ?_
    · have e : ((p.1.src : Int) = (q : Int)) ↔ p.1.src = q := by omega
      simp_all only [ss_nil, dV, e]
      by_cases hq : p.1.src = q
      · rw [decide_eq_true hq] at hk
        simp_all only [ss_nil, hq]
        exact hk
      · rw [decide_eq_false hq] at hk
        simp_all only [ss_nil, hq]
        exact hk
    · simp_all only [ss_nil]
      exact hk
    simp_all only [ss_nil]
    refine ⟨s, .rfl, ?_⟩
    have e : (((m.deeds.zipIdx 0).filter fun p => decide (p.1.src = q)).map fun p => PV.int (p.2 : Int)) = (m.from q).map fun (d : Nat) => .int (d : Int) := by unfold Mc.from; rw [List.map_map]; rfl
    rw [e]
    exact h
  · exact h.elim
/-- the deeds that can be done now -/
def Mc.open (m : Mc) (x : Nat × List Rat) : List Nat := (m.from x.1).filter fun d => (m.act x d).isSome
def sp_open_deeds : PSpec
  | [a, b], st, Q, _ => ∃ (m : Mc) (x : Nat × List Rat), a = mV m ∧ b = stV x ∧ m.ok ∧ x.2.length = m.k ∧ VB 1500 x.2 ∧ Q (.tup ((m.open x).map fun (d : Nat) => .int (d : Int))) st
  | _, _, _, _ => False
def b_open_deeds : Ss :=
  (.cons (.ret (.blt .tuple false (.cons (.comp false [2] (.name 2) (.val (.call "deeds_from" sp_deeds_from (.cons (.var 0) (.cons (.idx (.var 1) (.int 0)) .nil)))) (.cons (.cmp .IsNot (.call "acted" sp_acted (.cons (.var 0) (.cons (.var 1) (.cons (.var 2) .nil)))) .non) .nil) (.var 2)) .nil))) .nil)
def n_open_deeds : List Str := ["machine", "state", "deed"]
theorem w_open_deeds : ∀ vs s Q X, vs.length = 2 → sp_open_deeds vs s Q X → wpFn n_open_deeds.length b_open_deeds vs s Q X := by
  intro vs s Q X hl h
  unfold sp_open_deeds at h
  split at h
  · rw [fn_eq]
    unfold b_open_deeds n_open_deeds
    obtain ⟨m, x, rfl, rfl, hm, hx, hv, h⟩ := h
    have sz : 1000 ≤ sizeLine := by decide
    simp_all only [ss_nil, stV]
    refine callS_of ⟨m, x.1, rfl, rfl, hm.ndeeds, ?_⟩
    simp_all only [ss_nil]
    refine lc_filter (fun d => (m.act x d).isSome) (fun (d : Nat) => .int (d : Int)) (m.from x.1) (fun d hd => ⟨_, rfl, fun st' sub => ⟨fun K hk => ?_, fun _ K hk => ?_⟩⟩) ?_
    · simp_all only [ss_nil]
      refine callS_of ⟨m, x, d, rfl, rfl, rfl, hm, Mc.from_lt d hd, hx, hv, ?_⟩
      cases e : m.act x d with
      | none =>
        rw [e] at hk
        simp_all only [ss_nil, stO]
        exact hk
      | some y =>
        rw [e] at hk
        simp_all only [ss_nil, stO, stV]
        exact hk
    · simp_all only [ss_nil]
      exact hk
    simp_all only [ss_nil]
    exact ⟨s, .rfl, h⟩
  · exact h.elim
end TK

set_option maxRecDepth 100000
set_option maxHeartbeats 4000000
namespace TK
open PySem PySem.Spec PyProof.Rows L2
/-! ### the law's own steps -/
theorem get_map {α : Type} {enc : α → PV} {l : List α} {i : Nat} {v : PV} (h : (l.map enc)[i]? = some v) : ∃ x, v = enc x ∧ l[i]? = some x := by
  rw [List.getElem?_map] at h
  cases e : l[i]? with
  | none => rw [e] at h; cases h
  | some x => rw [e] at h; cases h; exact ⟨x, rfl, rfl⟩
theorem take_one {α : Type} {l : List α} {i : Nat} {x : α} (h : l[i]? = some x) : l.take (i + 1) = l.take i ++ [x] := by
  rw [List.take_add_one, h]; rfl
theorem mem_at {α : Type} {l : List α} {i : Nat} {v : α} (h : l[i]? = some v) : v ∈ l := List.mem_of_getElem? h
theorem get_rng {n i : Nat} {lo : Int} {v : PV} (h : (rngL lo n)[i]? = some v) : i < n ∧ v = .int (lo + (i : Int)) := by
  obtain ⟨h1, h2⟩ := List.getElem?_eq_some_iff.mp h
  simp only [rngL, List.length_map, List.length_range] at h1
  simp only [rngL, List.getElem_map, List.getElem_range] at h2
  exact ⟨h1, h2.symm⟩
theorem rng_len {n : Nat} {lo : Int} : (rngL lo n).length = n := by simp only [rngL, List.length_map, List.length_range]
/-- values given as a tuple, or as a list that is still written -/
def isVs (st : Store) (b : PV) (vals : List Rat) : Prop := b = vsV vals ∨ ∃ a, b = .ref a ∧ st a = some (.lst (vals.map ratV))
def sp__law_meets : PSpec
  | [.tup xs, b], st, Q, _ => ∃ (ts : List Tt) (vals : List Rat), xs = ts.map tV ∧ isVs st b vals ∧ (∀ t ∈ ts, t.ok vals.length) ∧ VB 3900 vals ∧ Q (.bl (ts.all (Tt.holds vals))) st
  | _, _, _, _ => False
def b__law_meets_1 : Ss :=
  (.cons (.ite (.not (.val (.call "_law_compare" sp__law_compare (.cons (.idx (.var 1) (.bin .Sub false (.idx (.var 2) (.int 0)) (.int 1))) (.cons (.idx (.var 2) (.int 1)) (.cons (.idx (.var 2) (.int 2)) .nil)))))) (.cons (.ret (.bl false)) .nil) .nil) .nil)
def b__law_meets : Ss :=
  (.cons (.loop (.name 2) (.val (.var 0)) b__law_meets_1) (.cons (.ret (.bl true)) .nil))
def n__law_meets : List Str := ["tests", "values", "test"]
theorem w__law_meets : ∀ vs s Q X, vs.length = 2 → sp__law_meets vs s Q X → wpFn n__law_meets.length b__law_meets vs s Q X := by
  intro vs s Q X hl h
  unfold sp__law_meets at h
  split at h
  · rename_i xs b
    rw [fn_eq]
    unfold b__law_meets n__law_meets
    obtain ⟨ts, vals, rfl, hb, hts, hv, h⟩ := h
    simp_all only [ss_nil]
    refine for_at (fun i τ st => st = s ∧ ∃ o, τ = [some (.tup (ts.map tV)), some b, o] ∧ (ts.take i).all (Tt.holds vals) = true) ?_ ?_ ⟨rfl, _, rfl, by simp⟩
    · rintro i v τ st hi ⟨rfl, o, rfl, ha⟩
      obtain ⟨t, rfl, ht⟩ := get_map hi
      obtain ⟨e, hbd⟩ := vs_get hv (hts t (mem_at ht))
      refine ⟨trivial, ?_⟩
      unfold b__law_meets_1
      have go : ∀ b', isVs st b' vals → b' = b → wpSs b__law_meets_1 (((fnEnds Q X).nxt (.cons (.ret (.bl true)) .nil)).lp fun τ st' => st' = st ∧ ∃ o, τ = [some (.tup (ts.map tV)), some b, o] ∧ (ts.take (i + 1)).all (Tt.holds vals) = true) [some (.tup (ts.map tV)), some b', some (tV t)] st := by
        intro b' hb' eb
        have fin : ∀ {K : PQ} {X' : EQ} {r : Rat}, Bd 3900 r → (∀ k, k = sgH t.s r t.n → K (.bl k) st) → callS sp__law_compare [ratV r, .str (sgS t.s), .int t.n] st X' K := fun hr hk => callS_of ⟨_, t.s, t.n, hr.fr, rfl, rfl, (hts t (mem_at ht)).2.2, hk _ rfl⟩
        have rest : ∀ k : Bool, k = t.holds vals → (if (!k) = true then Arm (.cons (.ret (.bl false)) .nil) ((((fnEnds Q X).nxt (.cons (.ret (.bl true)) .nil)).lp fun τ st' => st' = st ∧ ∃ o, τ = [some (.tup (ts.map tV)), some b, o] ∧ (ts.take (i + 1)).all (Tt.holds vals) = true).nxt .nil) [some (.tup (ts.map tV)), some b', some (tV t)] st else Arm .nil ((((fnEnds Q X).nxt (.cons (.ret (.bl true)) .nil)).lp fun τ st' => st' = st ∧ ∃ o, τ = [some (.tup (ts.map tV)), some b, o] ∧ (ts.take (i + 1)).all (Tt.holds vals) = true).nxt .nil) [some (.tup (ts.map tV)), some b', some (tV t)] st) := by
          rintro k rfl
          cases hh : t.holds vals with
          | true =>
            simp_all only [ss_nil, Nx_nil, Arm_nil, sz_0, sz_1, sz_2, sz_3, sz_4, sz_5, sz_6, sz_7, sz_8, sz_9, sz_10, sz_11, sz_12, cp_2, cp_3, cp_4, cp_5, cp_6, cp_7, cp_12, cp_20, cp_30, cp_38, cp_39, cp_40]
            refine ⟨_, by rw [eb], by rw [take_one ht, List.all_append, ha]; simp [hh]⟩
          | false =>
            simp_all only [ss_nil, Nx_nil, Arm_nil, sz_0, sz_1, sz_2, sz_3, sz_4, sz_5, sz_6, sz_7, sz_8, sz_9, sz_10, sz_11, sz_12, cp_2, cp_3, cp_4, cp_5, cp_6, cp_7, cp_12, cp_20, cp_30, cp_38, cp_39, cp_40]
            (first | rw [Nx_eq] | rw [Arm_eq] | skip); (try simp_all only [ss_nil, Nx_nil, Arm_nil, sz_0, sz_1, sz_2, sz_3, sz_4, sz_5, sz_6, sz_7, sz_8, sz_9, sz_10, sz_11, sz_12, cp_2, cp_3, cp_4, cp_5, cp_6, cp_7, cp_12, cp_20, cp_30, cp_38, cp_39, cp_40])
            have e2 : ts.all (Tt.holds vals) = false := List.all_eq_false.mpr ⟨t, mem_at ht, by simp [hh]⟩
            rw [e2] at h
            exact ⟨st, .rfl, h⟩
        unfold b__law_meets_1
        have tv : tV t = .tup [.int t.c, .str (sgS t.s), .int t.n] := rfl
        rcases hb' with rfl | ⟨a, rfl, hra⟩
        · simp_all only [ss_nil, Nx_nil, tv, vsV, e]
          refine fin hbd fun k hk => ?_
          have := rest k hk
          simp_all only [ss_nil, Nx_nil]
          simpa [tv, vsV] using this
        · simp_all only [ss_nil, Nx_nil, tv, hra, e]
          refine fin hbd fun k hk => ?_
          have := rest k hk
          simp_all only [ss_nil, Nx_nil]
          simpa [tv] using this
      exact go b hb rfl
    · rintro τ st ⟨rfl, o, rfl, ha⟩
      refine ⟨trivial, ?_⟩
      rw [List.length_map, List.take_length] at ha
      simp_all only [ss_nil]
      (first | rw [Nx_eq] | rw [Arm_eq] | skip); (try simp_all only [ss_nil])
      rw [ha] at h
      exact ⟨st, .rfl, h⟩
  · exact h.elim
def sp__law_start : PSpec
  | [a], st, Q, _ => ∃ m : Mc, a = mV m ∧ m.k ≤ 1000 ∧ Q (stV (0, List.replicate m.k 0)) st
  | _, _, _, _ => False
def b__law_start : Ss :=
  (.cons (.ret (.tup (.cons (.int 0) (.cons (.blt .tuple false (.cons (.comp false [1] (.name 1) (.range1 (.idx (.var 0) (.int 0))) .nil (.tup (.cons (.int 0) (.cons (.int 1) .nil)))) .nil)) .nil)))) .nil)
def n__law_start : List Str := ["machine", "clock"]
theorem w__law_start : ∀ vs s Q X, vs.length = 1 → sp__law_start vs s Q X → wpFn n__law_start.length b__law_start vs s Q X := by
  intro vs s Q X hl h
  unfold sp__law_start at h
  split at h
  · rw [fn_eq]
    unfold b__law_start n__law_start
    obtain ⟨m, rfl, hk, h⟩ := h
    simp_all only [ss_nil, mV]
    have sz : 1000 ≤ sizeLine := by decide
    refine ⟨by unfold R62; omega, ?_⟩
    unfold rngL
    refine ⟨by rw [List.length_map, List.length_range]; omega, ?_⟩
    refine lc_enc (fun _ => .tup [.int 0, .int 1]) _ (fun τ1 st' Q q => by simp_all only [ss_nil]; exact q) (fun t ht => ⟨_, rfl, fun st' sub K hk => ?_⟩) ?_
    · simp_all only [ss_nil]
      exact ⟨by decide, hk⟩
    simp_all only [ss_nil]
    refine ⟨by decide, s, .rfl, ?_⟩
    rw [zeros, Int.toNat_natCast]
    exact h
  · exact h.elim
def sp__law_wait : PSpec
  | [a, b, c], st, Q, _ => ∃ (m : Mc) (x : Nat × List Rat) (r : Rat), a = mV m ∧ b = stV x ∧ Fr 1500 c r ∧ m.ok ∧ x.1 < m.rooms.length ∧ x.2.length = m.k ∧ VB 1500 x.2 ∧ Q (stO (m.wait x r)) st
  | _, _, _, _ => False
def b__law_wait : Ss :=
  (.cons (.asg (.name 3) (.blt .tuple false (.cons (.comp false [4] (.name 4) (.val (.idx (.var 1) (.int 1))) .nil (.call "_law_plus" sp__law_plus (.cons (.var 4) (.cons (.var 2) .nil)))) .nil))) (.cons (.ite (.val (.call "_law_meets" sp__law_meets (.cons (.idx (.idx (.idx (.var 0) (.int 1)) (.idx (.var 1) (.int 0))) (.int 0)) (.cons (.var 3) .nil)))) (.cons (.ret (.tup (.cons (.idx (.var 1) (.int 0)) (.cons (.var 3) .nil)))) .nil) .nil) (.cons (.ret .non) .nil)))
def n__law_wait : List Str := ["machine", "state", "wait", "values", "value"]
theorem w__law_wait : ∀ vs s Q X, vs.length = 3 → sp__law_wait vs s Q X → wpFn n__law_wait.length b__law_wait vs s Q X := by
  intro vs s Q X hl h
  unfold sp__law_wait at h
  split at h
  · rename_i a b c
    rw [fn_eq]
    unfold b__law_wait n__law_wait
    obtain ⟨m, x, r, rfl, rfl, hr, hm, hp, hx, hv, h⟩ := h
    obtain ⟨p, vals⟩ := x
    have ra := room_at hp
    obtain ⟨h1, h2⟩ := Mc.holdOf_ok hm hp
    simp_all only [ss_nil, mV, stV, vsV]
    refine lc_enc (fun y => ratV (y + r)) vals (fun τ1 st' Q q => by simp_all only [ss_nil]; exact q) (fun y hy => ⟨_, rfl, fun st' sub K hk => ?_⟩) ?_
    · simp_all only [ss_nil]
      exact callS_of ⟨y, r, (hv y hy).fr.mono (by decide), hr.mono (by decide), hk⟩
    have e : (vals.map fun y => ratV (y + r)) = (vals.map (· + r)).map ratV := by rw [List.map_map]; rfl
    have vb : VB 3900 (vals.map (· + r)) := (hv.add hr.bd).mono (by decide)
    simp_all only [ss_nil, e]
    (first | rw [Nx_eq] | rw [Arm_eq] | skip); (try simp_all only [ss_nil, ra])
    refine callS_of ⟨m.holdOf p, vals.map (· + r), rfl, .inl rfl, fun t ht => by rw [List.length_map]; have := h1 t ht; rwa [← hx] at this, vb, ?_⟩
    unfold Mc.wait at h
    by_cases hh : (m.holdOf p).all (Tt.holds (vals.map (· + r))) = true
    · rw [if_pos hh] at h
      simp_all only [ss_nil, hh]
      (first | rw [Nx_eq] | rw [Arm_eq] | skip); (try simp_all only [ss_nil])
      exact ⟨by decide, s, .rfl, h⟩
    · rw [if_neg hh] at h
      have hf : (m.holdOf p).all (Tt.holds (vals.map (· + r))) = false := by simpa using hh
      simp_all only [ss_nil, hf]
      (first | rw [Nx_eq] | rw [Arm_eq] | skip); (try simp_all only [ss_nil])
      (first | rw [Nx_eq] | rw [Arm_eq] | skip); (try simp_all only [ss_nil])
      exact ⟨s, .rfl, h⟩
  · exact h.elim
end TK

set_option maxRecDepth 100000
set_option maxHeartbeats 4000000
namespace TK
open PySem PySem.Spec PyProof.Rows L2
def sp__law_act : PSpec
  | [a, b, .int d], st, Q, _ => ∃ (m : Mc) (x : Nat × List Rat) (e : Nat), a = mV m ∧ b = stV x ∧ d = e ∧ m.ok ∧ e < m.deeds.length ∧ x.2.length = m.k ∧ VB 1500 x.2 ∧ Q (stO (m.act x e)) st
  | _, _, _, _ => False
theorem back_at {vals : List Rat} {bs : List Nat} {i : Nat} (h : i < vals.length) : (backV vals bs)[i]? = some (if i + 1 ∈ bs then 0 else vals[i]) := by
  unfold backV
  rw [List.getElem?_map, List.getElem?_zipIdx, List.getElem?_eq_getElem h]
  simp
def b__law_act_1 : Ss :=
  (.cons (.expr (.meth .append (.var 4) (.cons (.ite (.cmp .In (.bin .Add false (.var 5) (.int 1)) (.idx (.var 3) (.int 3))) (.tup (.cons (.int 0) (.cons (.int 1) .nil))) (.idx (.idx (.var 1) (.int 1)) (.var 5))) .nil))) .nil)
def b__law_act : Ss :=
  (.cons (.asg (.name 3) (.idx (.idx (.var 0) (.int 2)) (.var 2))) (.cons (.ite (.bools .Or (.cons (.cmp .NotEq (.idx (.var 3) (.int 1)) (.idx (.var 1) (.int 0))) (.cons (.not (.val (.call "_law_meets" sp__law_meets (.cons (.idx (.var 3) (.int 2)) (.cons (.idx (.var 1) (.int 1)) .nil))))) .nil))) (.cons (.ret .non) .nil) .nil) (.cons (.asg (.name 4) (.lst true .nil)) (.cons (.loop (.name 5) (.range1 (.blt .len false (.cons (.idx (.var 1) (.int 1)) .nil))) b__law_act_1) (.cons (.ite (.not (.val (.call "_law_meets" sp__law_meets (.cons (.idx (.idx (.idx (.var 0) (.int 1)) (.idx (.var 3) (.int 4))) (.int 0)) (.cons (.var 4) .nil))))) (.cons (.ret .non) .nil) .nil) (.cons (.ret (.tup (.cons (.idx (.var 3) (.int 4)) (.cons (.blt .tuple false (.cons (.var 4) .nil)) .nil)))) .nil))))))
def n__law_act : List Str := ["machine", "state", "deed", "told", "values", "at"]
theorem w__law_act : ∀ vs s Q X, vs.length = 3 → sp__law_act vs s Q X → wpFn n__law_act.length b__law_act vs s Q X := by
  intro vs s Q X hl h
  unfold sp__law_act at h
  split at h
  · rename_i a b d
    rw [fn_eq]
    unfold b__law_act n__law_act
    obtain ⟨m, x, e, rfl, rfl, rfl, hm, hd, hx, hv, h⟩ := h
    obtain ⟨p, vals⟩ := x
    obtain ⟨da, dm⟩ := deed_at hd
    obtain ⟨d1, d2, d3, d4, d5⟩ := hm.deed _ dm
    unfold Mc.act at h
    revert da dm d1 d2 d3 d4 d5 h
    generalize m.deedOf e = D
    intro h da dm d1 d2 d3 d4 d5
    have ra := room_at d2
    obtain ⟨h1, h2⟩ := Mc.holdOf_ok hm d2
    have vb := VB.back (by decide) hv D.backs
    have okv : ∀ {vs : List Rat}, vs.length = m.k → ∀ {ts : List Tt}, (∀ t ∈ ts, t.ok m.k) → ∀ t ∈ ts, t.ok vs.length := fun h ts k t ht => by rw [h]; exact k t ht
    have hk := hm.k
    have hx' : vals.length = m.k := hx
    simp_all only [ss_nil, Nx_nil, mV, stV]
    have da2 : atI (m.deeds.map dV) (e : Int) = some (.tup [.str D.letter, .int D.src, .tup (D.guard.map tV), .tup (D.backs.map fun (b : Nat) => .int (b : Int)), .int D.tgt, .int D.price]) := da
    rw [da2]
    simp_all only [ss_nil, Nx_nil]
    (first | rw [Nx_eq] | rw [Arm_eq] | skip); (try simp_all only [ss_nil, Nx_nil])
    by_cases hs : D.src = p
    · have hs' : ((D.src : Int) = (p : Int)) = True := eq_true (by omega)
      simp_all only [ss_nil, Nx_nil, hs']
      refine callS_of ⟨D.guard, vals, rfl, .inl rfl, okv hx d3, hv.mono (by decide), ?_⟩
      by_cases hg : D.guard.all (Tt.holds vals) = true
      · simp_all only [ss_nil, Nx_nil, hg]
        (first | rw [Nx_eq] | rw [Arm_eq] | skip); (try simp_all only [ss_nil, Nx_nil])
        (first | rw [Nx_eq] | rw [Arm_eq] | skip); (try simp_all only [ss_nil, Nx_nil])
        refine ⟨by decide, fun q hq => ?_⟩
        (first | rw [Nx_eq] | rw [Arm_eq] | skip); (try simp_all only [ss_nil, Nx_nil, vsV, List.length_map])
        refine ⟨by unfold R62; omega, ?_⟩
        refine for_at (fun i τ st => ∃ o, τ = [some (.tup [.int m.k, .tup (m.rooms.map rmV), .tup (m.deeds.map dV)]), some (.tup [.int p, .tup (vals.map ratV)]), some (.int e), some (.tup [.str D.letter, .int D.src, .tup (D.guard.map tV), .tup (D.backs.map fun (b : Nat) => .int (b : Int)), .int D.tgt, .int D.price]), some (.ref q), o] ∧ st = up s q (some (.lst (((backV vals D.backs).take i).map ratV)))) ?_ ?_ ⟨_, rfl, rfl⟩
        · rintro i v τ st hi ⟨o, rfl, rfl⟩
          obtain ⟨i1, rfl⟩ := get_rng hi
          refine ⟨trivial, ?_⟩
          have i2 : i < vals.length := by omega
          unfold b__law_act_1
          have ei : atI (vals.map ratV) (0 + (i : Int)) = some (ratV vals[i]) := by rw [Int.zero_add, atI_nat, List.getElem?_map, List.getElem?_eq_getElem i2]; rfl
          have bi := back_at (bs := D.backs) i2
          have sz : 1000 ≤ sizeLine := by decide
          have fin : ∀ r : Rat, r = (if i + 1 ∈ D.backs then 0 else vals[i]) → up s q (some (.lst (((backV vals D.backs).take i).map ratV ++ [ratV r]))) = up s q (some (.lst (((backV vals D.backs).take (i + 1)).map ratV))) := by
            rintro r rfl
            rw [take_one bi, List.map_append]; rfl
          simp_all only [ss_nil, Nx_nil, any_nat, all_scN, isSc, ei]
          rw [Int.zero_add]
          simp_all only [ss_nil, Nx_nil, any_nat, all_scN, isSc]
          split
          · rename_i hb
            rw [if_pos hb] at fin
            simp_all only [ss_nil, Nx_nil, List.length_map, List.length_take, backV_len, up_up]
            exact ⟨by decide, by omega, _, rfl, fin 0 rfl⟩
          · rename_i hb
            rw [if_neg hb] at fin
            simp_all only [ss_nil, Nx_nil, List.length_map, List.length_take, backV_len, up_up, ei]
            exact ⟨by omega, _, rfl, fin _ rfl⟩
        · rintro τ st ⟨o, rfl, rfl⟩
          refine ⟨trivial, ?_⟩
          rw [rng_len, Int.toNat_natCast, List.take_of_length_le (by rw [backV_len]; exact Nat.le_refl _)]
          simp_all only [ss_nil, Nx_nil]
          (first | rw [Nx_eq] | rw [Arm_eq] | skip); (try simp_all only [ss_nil, Nx_nil, ra])
          refine callS_of ⟨m.holdOf D.tgt, backV vals D.backs, rfl, .inr ⟨q, rfl, up_same⟩, okv (by rw [backV_len]; exact hx) h1, vb.mono (by decide), ?_⟩
          rw [if_pos ⟨hs, hg⟩] at h
          by_cases hh : (m.holdOf D.tgt).all (Tt.holds (backV vals D.backs)) = true
          · rw [if_pos hh] at h
            simp_all only [ss_nil, Nx_nil, hh]
            (first | rw [Nx_eq] | rw [Arm_eq] | skip); (try simp_all only [ss_nil, Nx_nil])
            (first | rw [Nx_eq] | rw [Arm_eq] | skip); (try simp_all only [ss_nil, Nx_nil])
            exact ⟨by decide, s, sub_new hq, h⟩
          · rw [if_neg hh] at h
            have hf : (m.holdOf D.tgt).all (Tt.holds (backV vals D.backs)) = false := by simpa using hh
            simp_all only [ss_nil, Nx_nil, hf]
            (first | rw [Nx_eq] | rw [Arm_eq] | skip); (try simp_all only [ss_nil, Nx_nil])
            exact ⟨s, sub_new hq, h⟩
      · rw [if_neg (fun z => hg z.2)] at h
        have hf : D.guard.all (Tt.holds vals) = false := by simpa using hg
        simp_all only [ss_nil, Nx_nil, hf]
        (first | rw [Nx_eq] | rw [Arm_eq] | skip); (try simp_all only [ss_nil, Nx_nil])
        exact ⟨s, .rfl, h⟩
    · rw [if_neg (fun z => hs z.1)] at h
      have hs' : ((D.src : Int) = (p : Int)) = False := eq_false (by omega)
      simp_all only [ss_nil, Nx_nil, hs']
      (first | rw [Nx_eq] | rw [Arm_eq] | skip); (try simp_all only [ss_nil, Nx_nil])
      exact ⟨s, .rfl, h⟩
  · exact h.elim
end TK

set_option maxRecDepth 100000
set_option maxHeartbeats 4000000
namespace TK
open PySem PySem.Spec PyProof.Rows L2
/-! ### the drawing of machines -/
/-- a comprehension whose elements are drawn: all of them have a property -/
theorem lc_prop {P : PV → Prop} {tg : TG} {t : Sl → Store → (Bool → Store → Prop) → Prop} {e : Sl → Store → PQ → Prop} {τ : Sl} {st : Store} {K : List PV → Store → Prop} (ht : ∀ τ1 st' Q, Q true st' → t τ1 st' Q) :
    ∀ (xs acc : List PV), (∀ x ∈ xs, ∃ τ1, tg.asg x τ = some τ1 ∧ ∀ st', Sub st st' → ∀ Q : PQ, (∀ y, P y → Q y st') → e τ1 st' Q) → (∀ y ∈ acc, P y) → (∀ ys, ys.length = acc.length + xs.length → (∀ y ∈ ys, P y) → K ys st) → lcL tg t e τ K xs st acc
  | [], acc, _, ha, h => by
    show K acc st
    exact h acc rfl ha
  | x :: r, acc, hx, ha, h => by
    obtain ⟨τ1, h1, h2⟩ := hx x List.mem_cons_self
    unfold lcL
    rw [h1]
    intro st' sub
    refine ht _ _ _ ⟨rfl, ?_⟩
    rw [if_pos rfl]
    refine h2 st' sub _ fun y hy => .inl ⟨rfl, lc_prop ht r _ (fun z hz => hx z (List.mem_cons_of_mem _ hz)) (fun z hz => ?_) fun ys hl hp => h ys ?_ hp⟩
    · rcases List.mem_append.mp hz with hz | hz
      · exact ha z hz
      · rw [List.mem_singleton.mp hz]; exact hy
    · rw [hl, List.length_append, List.length_cons]; simp; omega
/-- all are images -/
theorem all_enc {α : Type} {enc : α → PV} {P : α → Prop} : ∀ {ys : List PV}, (∀ y ∈ ys, ∃ x, y = enc x ∧ P x) → ∃ l : List α, ys = l.map enc ∧ ∀ x ∈ l, P x
  | [], _ => ⟨[], rfl, fun _ h => (nomatch h)⟩
  | y :: r, h => by
    obtain ⟨x, rfl, hx⟩ := h y List.mem_cons_self
    obtain ⟨l, rfl, hl⟩ := all_enc (ys := r) fun z hz => h z (List.mem_cons_of_mem _ hz)
    exact ⟨x :: l, rfl, fun z hz => by
      rcases List.mem_cons.mp hz with rfl | hz
      · exact hx
      · exact hl z hz⟩
/-- one of some signs, a number of at most top -/
def Tt.drw (k top : Nat) (ss : List Sg) (t : Tt) : Prop := 1 ≤ t.c ∧ t.c ≤ k ∧ t.n ≤ top ∧ t.s ∈ ss ∧ (t.s = .lt → t.n ≠ 0)
def sgV (s : Sg) : PV := .str (sgS s)
def sp__law_test : PSpec
  | [.ref p, .int c, .int n, .lst xs], st, Q, _ => st p = some .pool ∧ ∃ (k top : Nat) (ss : List Sg), c = k ∧ n = top ∧ xs = ss.map sgV ∧ 1 ≤ k ∧ k ≤ 1000 ∧ 1 ≤ top ∧ top ≤ 1000 ∧ ss ≠ [] ∧ ss.length ≤ 1000 ∧ ∀ t : Tt, t.drw k top ss → Q (tV t) st
  | _, _, _, _ => False
def b__law_test : Ss :=
  (.cons (.asg (.name 4) (.call "_law_pick" sp__law_pick (.cons (.var 0) (.cons (.var 3) .nil)))) (.cons (.asg (.name 5) (.call "_law_draw" sp__law_draw (.cons (.var 0) (.cons (.bin .Add false (.var 2) (.int 1)) .nil)))) (.cons (.ite (.bools .And (.cons (.cmp .Eq (.var 4) (.str "<")) (.cons (.cmp .Eq (.var 5) (.int 0)) .nil))) (.cons (.asg (.name 5) (.bin .Add false (.int 1) (.call "_law_draw" sp__law_draw (.cons (.var 0) (.cons (.var 2) .nil))))) .nil) .nil) (.cons (.ret (.tup (.cons (.bin .Add false (.int 1) (.call "_law_draw" sp__law_draw (.cons (.var 0) (.cons (.var 1) .nil)))) (.cons (.var 4) (.cons (.var 5) .nil))))) .nil))))
def n__law_test : List Str := ["pool", "clocks", "top", "signs", "sign", "number"]
theorem w__law_test : ∀ vs s Q X, vs.length = 4 → sp__law_test vs s Q X → wpFn n__law_test.length b__law_test vs s Q X := by
  intro vs s Q X hl h
  unfold sp__law_test at h
  split at h
  · rename_i p c n xs
    rw [fn_eq]
    unfold b__law_test n__law_test
    obtain ⟨hp, k, top, ss, rfl, rfl, rfl, k1, k2, t1, t2, s1, s2, h⟩ := h
    simp_all only [ss_nil, Nx_nil]
    refine callS_of ⟨hp, by simpa using s1, by rw [List.length_map]; omega, fun i v hv => ?_⟩
    obtain ⟨sg, rfl, hs⟩ := get_map hv
    have hsm := mem_at hs
    unfold sgV
    simp_all only [ss_nil, Nx_nil]
    (first | rw [Nx_eq] | rw [Arm_eq] | skip); (try simp_all only [ss_nil, Nx_nil])
    refine callS_of ⟨hp, .of (by omega), fun r r0 r1 _ => ?_⟩
    have r1 := r1 (by omega)
    -- the end
    have fin : ∀ z : Int, 0 ≤ z → z ≤ top → (sg = .lt → z ≠ 0) → Nx (.cons (.ret (.tup (.cons (.bin .Add false (.int 1) (.call "_law_draw" sp__law_draw (.cons (.var 0) (.cons (.var 1) .nil)))) (.cons (.var 4) (.cons (.var 5) .nil))))) .nil) (fnEnds Q X) [some (.ref p), some (.int k), some (.int top), some (.lst (ss.map sgV)), some (.str (sgS sg)), some (.int z)] s := by
      intro z z0 z1 z2
      (first | rw [Nx_eq] | rw [Arm_eq] | skip); (try simp_all only [ss_nil, Nx_nil])
      refine callS_of ⟨hp, .of (by omega), fun u u0 u1 u2 => ?_⟩
      have hu : u < k := by rcases Nat.lt_or_ge k 2 with h | h <;> omega
      simp_all only [ss_nil, Nx_nil]
      refine ⟨by decide, s, .rfl, ?_⟩
      have e := h ⟨(1 + u).toNat, sg, z.toNat⟩ ⟨by show 1 ≤ (1 + u).toNat; omega, by show (1 + u).toNat ≤ k; omega, by show z.toNat ≤ top; omega, hsm, fun e => by have := z2 e; show z.toNat ≠ 0; omega⟩
      unfold tV at e
      rw [Int.toNat_of_nonneg (by omega), Int.toNat_of_nonneg z0] at e
      exact e
    simp_all only [ss_nil, Nx_nil]
    (first | rw [Nx_eq] | rw [Arm_eq] | skip); (try simp_all only [ss_nil, Nx_nil])
    by_cases hz : sgS sg = ("<" : Str)
    · simp_all only [ss_nil, Nx_nil, hz]
      split
      · (first | rw [Nx_eq] | rw [Arm_eq] | skip); (try simp_all only [ss_nil, Nx_nil])
        refine callS_of ⟨hp, .of (by omega), fun u u0 u1 u2 => ?_⟩
        have hu : u < top := by rcases Nat.lt_or_ge top 2 with h | h <;> omega
        simp_all only [ss_nil, Nx_nil]
        have e := fin (1 + u) (by omega) (by omega) (fun _ => by omega)
        rw [hz] at e
        exact e
      · (first | rw [Nx_eq] | rw [Arm_eq] | skip); (try simp_all only [ss_nil, Nx_nil])
        have e := fin r r0 (by omega) (fun _ => by omega)
        rw [hz] at e
        exact e
    · simp_all only [ss_nil, Nx_nil, hz]
      (first | rw [Nx_eq] | rw [Arm_eq] | skip); (try simp_all only [ss_nil, Nx_nil])
      exact fin r r0 (by omega) (fun e => absurd (by rw [e]; rfl) hz)
  · exact h.elim
/-- what is told of pool, clocks, top, signs -/
def drw4 (p : Nat) (c n : Int) (xs : List PV) (st : Store) (k top : Nat) (ss : List Sg) : Prop := st p = some .pool ∧ c = k ∧ n = top ∧ xs = ss.map sgV ∧ k ≤ 1000 ∧ 1 ≤ top ∧ top ≤ 1000 ∧ ss ≠ [] ∧ ss.length ≤ 1000
def sp__law_hold : PSpec
  | [.ref p, .int c, .int n, .lst xs], st, Q, _ => ∃ (k top : Nat) (ss : List Sg), drw4 p c n xs st k top ss ∧ ∀ ts : List Tt, ts.length ≤ 2 → (∀ t ∈ ts, t.drw k top ss) → Q (.tup (ts.map tV)) st
  | _, _, _, _ => False
def b__law_hold : Ss :=
  (.cons (.ite (.bools .Or (.cons (.cmp .Eq (.var 1) (.int 0)) (.cons (.cmp .Lt (.call "_law_draw" sp__law_draw (.cons (.var 0) (.cons (.int 5) .nil))) (.int 2)) .nil))) (.cons (.ret (.tup .nil)) .nil) .nil) (.cons (.asg (.name 4) (.lst true (.cons (.call "_law_test" sp__law_test (.cons (.var 0) (.cons (.var 1) (.cons (.var 2) (.cons (.var 3) .nil))))) .nil))) (.cons (.ite (.cmp .Eq (.call "_law_draw" sp__law_draw (.cons (.var 0) (.cons (.int 6) .nil))) (.int 0)) (.cons (.expr (.meth .append (.var 4) (.cons (.call "_law_test" sp__law_test (.cons (.var 0) (.cons (.var 1) (.cons (.var 2) (.cons (.var 3) .nil))))) .nil))) .nil) .nil) (.cons (.ret (.blt .tuple false (.cons (.var 4) .nil))) .nil))))
def n__law_hold : List Str := ["pool", "clocks", "top", "signs", "hold"]
theorem w__law_hold : ∀ vs s Q X, vs.length = 4 → sp__law_hold vs s Q X → wpFn n__law_hold.length b__law_hold vs s Q X := by
  intro vs s Q X hl h
  unfold sp__law_hold at h
  split at h
  · rename_i p c n xs
    rw [fn_eq]
    unfold b__law_hold n__law_hold
    obtain ⟨k, top, ss, ⟨hp, rfl, rfl, rfl, k2, t1, t2, s1, s2⟩, h⟩ := h
    have nil := h [] (by simp) fun _ h => (nomatch h)
    simp_all only [ss_nil, Nx_nil]
    by_cases hk : k = 0
    · subst hk
      simp_all only [ss_nil, Nx_nil, natc0]
      (first | rw [Nx_eq] | rw [Arm_eq] | skip); (try simp_all only [ss_nil, Nx_nil])
      exact ⟨by decide, s, .rfl, nil⟩
    · have hk' : ((k : Int) = 0) = False := eq_false (by omega)
      simp_all only [ss_nil, Nx_nil, hk']
      refine callS_of ⟨hp, .of (by decide), fun r r0 r1 _ => ?_⟩
      simp_all only [ss_nil, Nx_nil]
      split
      · (first | rw [Nx_eq] | rw [Arm_eq] | skip); (try simp_all only [ss_nil, Nx_nil])
        exact ⟨by decide, s, .rfl, nil⟩
      · (first | rw [Nx_eq] | rw [Arm_eq] | skip); (try simp_all only [ss_nil, Nx_nil])
        (first | rw [Nx_eq] | rw [Arm_eq] | skip); (try simp_all only [ss_nil, Nx_nil])
        refine callS_of ⟨hp, k, top, ss, rfl, rfl, rfl, by omega, k2, t1, t2, s1, s2, fun t ht => ?_⟩
        simp_all only [ss_nil, Nx_nil]
        refine ⟨by decide, fun q hq => ?_⟩
        have pq : p ≠ q := fun e => by rw [← e, hp] at hq; cases hq
        have hpu : ∀ c, up s q c p = some .pool := fun c => by rw [up_ne pq]; exact hp
        (first | rw [Nx_eq] | rw [Arm_eq] | skip); (try simp_all only [ss_nil, Nx_nil])
        refine callS_of ⟨hpu _, .of (by decide), fun u u0 u1 _ => ?_⟩
        simp_all only [ss_nil, Nx_nil]
        split
        · (first | rw [Nx_eq] | rw [Arm_eq] | skip); (try simp_all only [ss_nil, Nx_nil])
          refine callS_of ⟨hpu _, k, top, ss, rfl, rfl, rfl, by omega, k2, t1, t2, s1, s2, fun t' ht' => ?_⟩
          simp_all only [ss_nil, Nx_nil, up_up]
          refine ⟨by decide, ?_⟩
          (first | rw [Nx_eq] | rw [Arm_eq] | skip); (try simp_all only [ss_nil, Nx_nil])
          (first | rw [Nx_eq] | rw [Arm_eq] | skip); (try simp_all only [ss_nil, Nx_nil])
          refine ⟨s, sub_new hq, h [t, t'] (by simp) fun z hz => ?_⟩
          simp only [List.mem_cons, List.not_mem_nil, or_false] at hz
          rcases hz with rfl | rfl
          · exact ht
          · exact ht'
        · (first | rw [Nx_eq] | rw [Arm_eq] | skip); (try simp_all only [ss_nil, Nx_nil])
          (first | rw [Nx_eq] | rw [Arm_eq] | skip); (try simp_all only [ss_nil, Nx_nil])
          refine ⟨s, sub_new hq, h [t] (by simp) fun z hz => ?_⟩
          simp only [List.mem_cons, List.not_mem_nil, or_false] at hz
          rw [hz]; exact ht
  · exact h.elim
def sp__law_guard : PSpec
  | [.ref p, .int c, .int n, .lst xs], st, Q, _ => ∃ (k top : Nat) (ss : List Sg), drw4 p c n xs st k top ss ∧ ∀ ts : List Tt, ts.length ≤ 2 → (∀ t ∈ ts, t.drw k top ss) → Q (.tup (ts.map tV)) st
  | _, _, _, _ => False
def b__law_guard : Ss :=
  (.cons (.ite (.cmp .Eq (.var 1) (.int 0)) (.cons (.ret (.tup .nil)) .nil) .nil) (.cons (.asg (.name 4) (.call "_law_pick" sp__law_pick (.cons (.var 0) (.cons (.lst false (.cons (.int 0) (.cons (.int 1) (.cons (.int 1) (.cons (.int 1) (.cons (.int 2) .nil)))))) .nil)))) (.cons (.ret (.blt .tuple false (.cons (.comp false [5] (.name 5) (.range1 (.var 4)) .nil (.call "_law_test" sp__law_test (.cons (.var 0) (.cons (.var 1) (.cons (.var 2) (.cons (.var 3) .nil)))))) .nil))) .nil)))
def n__law_guard : List Str := ["pool", "clocks", "top", "signs", "many", "k"]
theorem w__law_guard : ∀ vs s Q X, vs.length = 4 → sp__law_guard vs s Q X → wpFn n__law_guard.length b__law_guard vs s Q X := by
  intro vs s Q X hl h
  unfold sp__law_guard at h
  split at h
  · rename_i p c n xs
    rw [fn_eq]
    unfold b__law_guard n__law_guard
    obtain ⟨k, top, ss, ⟨hp, rfl, rfl, rfl, k2, t1, t2, s1, s2⟩, h⟩ := h
    have nil := h [] (by simp) fun _ h => (nomatch h)
    simp_all only [ss_nil, Nx_nil]
    by_cases hk : k = 0
    · subst hk
      simp_all only [ss_nil, Nx_nil, natc0]
      (first | rw [Nx_eq] | rw [Arm_eq] | skip); (try simp_all only [ss_nil, Nx_nil])
      exact ⟨by decide, s, .rfl, nil⟩
    · have hk' : ((k : Int) = 0) = False := eq_false (by omega)
      simp_all only [ss_nil, Nx_nil, hk']
      (first | rw [Nx_eq] | rw [Arm_eq] | skip); (try simp_all only [ss_nil, Nx_nil])
      (first | rw [Nx_eq] | rw [Arm_eq] | skip); (try simp_all only [ss_nil, Nx_nil])
      refine ⟨by decide, callS_of ⟨hp, by simp, by decide, fun i v hv => ?_⟩⟩
      have hv' : ∃ n : Nat, v = .int n ∧ n ≤ 2 := by
        have := mem_at hv
        simp only [List.mem_cons, List.not_mem_nil, or_false] at this
        rcases this with e | e | e | e | e
        · exact ⟨0, e, by decide⟩
        · exact ⟨1, e, by decide⟩
        · exact ⟨1, e, by decide⟩
        · exact ⟨1, e, by decide⟩
        · exact ⟨2, e, by decide⟩
      obtain ⟨n, rfl, hn⟩ := hv'
      simp_all only [ss_nil, Nx_nil]
      (first | rw [Nx_eq] | rw [Arm_eq] | skip); (try simp_all only [ss_nil, Nx_nil])
      refine ⟨by unfold R62; omega, by rw [rng_len, Int.toNat_natCast]; exact Nat.le_trans hn (by decide), ?_⟩
      refine lc_prop (P := fun y => ∃ t : Tt, y = tV t ∧ t.drw k top ss) (fun τ1 st' Q q => by simp_all only [ss_nil, Nx_nil]; exact q) _ [] (fun x hx => ⟨_, rfl, fun st' sub K hk => ?_⟩) (fun _ h => (nomatch h)) fun ys hl hp => ?_
      · simp_all only [ss_nil, Nx_nil]
        exact callS_of ⟨sub _ _ hp, k, top, ss, rfl, rfl, rfl, by omega, k2, t1, t2, s1, s2, fun t ht => hk _ ⟨t, rfl, ht⟩⟩
      obtain ⟨ts, rfl, hts⟩ := all_enc hp
      rw [rng_len, Int.toNat_natCast, List.length_map] at hl
      simp_all only [ss_nil, Nx_nil]
      exact ⟨s, .rfl, h ts (by simp at hl; omega) hts⟩
  · exact h.elim
def sp__law_backs : PSpec
  | [.ref p, .int c], st, Q, _ => st p = some .pool ∧ ∃ k : Nat, c = k ∧ k ≤ 1000 ∧ ∀ bs : List Nat, bs.length ≤ k → (∀ b ∈ bs, 1 ≤ b ∧ b ≤ k) → Q (.tup (bs.map fun (b : Nat) => .int (b : Int))) st
  | _, _, _, _ => False
def b__law_backs_1 : Ss :=
  (.cons (.ite (.cmp .Eq (.call "_law_draw" sp__law_draw (.cons (.var 0) (.cons (.int 3) .nil))) (.int 0)) (.cons (.expr (.meth .append (.var 2) (.cons (.var 3) .nil))) .nil) .nil) .nil)
def b__law_backs : Ss :=
  (.cons (.asg (.name 2) (.lst true .nil)) (.cons (.loop (.name 3) (.range2 (.int 1) (.bin .Add false (.var 1) (.int 1))) b__law_backs_1) (.cons (.ret (.blt .tuple false (.cons (.var 2) .nil))) .nil)))
def n__law_backs : List Str := ["pool", "clocks", "told", "clock"]
theorem w__law_backs : ∀ vs s Q X, vs.length = 2 → sp__law_backs vs s Q X → wpFn n__law_backs.length b__law_backs vs s Q X := by
  intro vs s Q X hl h
  unfold sp__law_backs at h
  split at h
  · rename_i p c
    rw [fn_eq]
    unfold b__law_backs n__law_backs
    obtain ⟨hp, k, rfl, hk, h⟩ := h
    simp_all only [ss_nil, Nx_nil]
    refine ⟨by decide, fun q hq => ?_⟩
    have pq : p ≠ q := fun e => by rw [← e, hp] at hq; cases hq
    have hpu : ∀ c, up s q c p = some .pool := fun c => by rw [up_ne pq]; exact hp
    (first | rw [Nx_eq] | rw [Arm_eq] | skip); (try simp_all only [ss_nil, Nx_nil])
    refine ⟨by unfold R62; omega, by unfold R62; omega, ?_⟩
    refine for_at (fun i τ st => ∃ (o : Option PV) (bs : List Nat), τ = [some (.ref p), some (.int k), some (.ref q), o] ∧ st = up s q (some (.lst (bs.map fun (b : Nat) => .int (b : Int)))) ∧ bs.length ≤ i ∧ ∀ b ∈ bs, 1 ≤ b ∧ b ≤ k) ?_ ?_ ⟨_, [], rfl, rfl, Nat.le_refl _, fun _ h => (nomatch h)⟩
    · rintro i v τ st hi ⟨o, bs, rfl, rfl, hl, hb⟩
      obtain ⟨i1, rfl⟩ := get_rng hi
      refine ⟨trivial, ?_⟩
      unfold b__law_backs_1
      simp_all only [ss_nil, Nx_nil]
      refine callS_of ⟨hpu _, .of (by decide), fun u u0 u1 _ => ?_⟩
      have sz : 10000 ≤ sizeLine := by decide
      simp_all only [ss_nil, Nx_nil]
      split
      · (first | rw [Nx_eq] | rw [Arm_eq] | skip); (try simp_all only [ss_nil, Nx_nil, List.length_map, up_up])
        refine ⟨by omega, _, bs ++ [i + 1], rfl, ?_, by rw [List.length_append]; simp; omega, fun b hb' => ?_⟩
        · rw [List.map_append]
          have e : (1 : Int) + (i : Int) = ((i + 1 : Nat) : Int) := by omega
          rw [e]; rfl
        · rcases List.mem_append.mp hb' with hb' | hb'
          · exact hb b hb'
          · rw [List.mem_singleton.mp hb']; omega
      · (first | rw [Nx_eq] | rw [Arm_eq] | skip); (try simp_all only [ss_nil, Nx_nil])
        exact ⟨_, bs, rfl, rfl, by omega, hb⟩
    · rintro τ st ⟨o, bs, rfl, rfl, hl, hb⟩
      refine ⟨trivial, ?_⟩
      rw [rng_len] at hl
      simp_all only [ss_nil, Nx_nil]
      (first | rw [Nx_eq] | rw [Arm_eq] | skip); (try simp_all only [ss_nil, Nx_nil])
      exact ⟨s, sub_new hq, h bs (by omega) hb⟩
  · exact h.elim
def strV (x : Str) : PV := .str x
/-- a drawn deed -/
def Dd.drw (k P top : Nat) (ss : List Sg) (ls : List Str) (d : Dd) : Prop := d.letter ∈ ls ∧ d.src < P ∧ d.tgt < P ∧ d.guard.length ≤ 2 ∧ (∀ t ∈ d.guard, t.drw k top ss) ∧ d.backs.length ≤ k ∧ (∀ b ∈ d.backs, 1 ≤ b ∧ b ≤ k) ∧ d.price < 4
def sp__law_deed : PSpec
  | [.ref p, .int c, .int pl, .int nu, .int n, .lst ls, .lst xs], st, Q, _ => ∃ (k top P N : Nat) (ss : List Sg) (lt : List Str), drw4 p c n xs st k top ss ∧ pl = P ∧ nu = N ∧ ls = lt.map strV ∧ lt ≠ [] ∧ lt.length ≤ 1000 ∧ 1 ≤ P ∧ P ≤ 1000 ∧ ∀ d : Dd, d.drw k P top ss lt → Q (dV d) st
  | _, _, _, _ => False
def b__law_deed : Ss :=
  (.cons (.asg (.name 7) (.call "_law_draw" sp__law_draw (.cons (.var 0) (.cons (.blt .min2 false (.cons (.var 2) (.cons (.bin .Add false (.var 3) (.int 1)) .nil))) .nil)))) (.cons (.asg (.name 8) (.call "_law_draw" sp__law_draw (.cons (.var 0) (.cons (.var 2) .nil)))) (.cons (.ite (.bools .And (.cons (.cmp .Eq (.var 8) (.var 7)) (.cons (.cmp .Eq (.call "_law_draw" sp__law_draw (.cons (.var 0) (.cons (.int 2) .nil))) (.int 0)) .nil))) (.cons (.asg (.name 8) (.bin .Mod false (.blt .int false (.cons (.bin .Add false (.var 7) (.int 1)) .nil)) (.var 2))) .nil) .nil) (.cons (.asg (.name 9) (.call "_law_guard" sp__law_guard (.cons (.var 0) (.cons (.var 1) (.cons (.var 4) (.cons (.var 6) .nil)))))) (.cons (.ret (.tup (.cons (.call "_law_pick" sp__law_pick (.cons (.var 0) (.cons (.var 5) .nil))) (.cons (.var 7) (.cons (.var 9) (.cons (.call "_law_backs" sp__law_backs (.cons (.var 0) (.cons (.var 1) .nil))) (.cons (.var 8) (.cons (.call "_law_draw" sp__law_draw (.cons (.var 0) (.cons (.int 4) .nil))) .nil)))))))) .nil)))))
def n__law_deed : List Str := ["pool", "clocks", "places", "number", "top", "letters", "signs", "source", "target", "guard"]
theorem w__law_deed : ∀ vs s Q X, vs.length = 7 → sp__law_deed vs s Q X → wpFn n__law_deed.length b__law_deed vs s Q X := by
  intro vs s Q X hl h
  unfold sp__law_deed at h
  split at h
  · rename_i p c pl nu n ls xs
    rw [fn_eq]
    unfold b__law_deed n__law_deed
    obtain ⟨k, top, P, N, ss, lt, dr, rfl, rfl, rfl, l1, l2, p1, p2, h⟩ := h
    obtain ⟨hp, rfl, rfl, rfl, k2, t1, t2, s1, s2⟩ := id dr
    have mn : ∃ M : Nat, (if (N : Int) + 1 < (P : Int) then (N : Int) + 1 else (P : Int)) = M ∧ 1 ≤ M ∧ M ≤ P := by
      split
      · exact ⟨N + 1, rfl, by omega, by omega⟩
      · exact ⟨P, rfl, by omega, by omega⟩
    obtain ⟨M, eM, M1, M2⟩ := mn
    simp_all only [ss_nil, Nx_nil, eM]
    refine callS_of ⟨hp, .of (by omega), fun src r0 r1 r2 => ?_⟩
    have hsrc : src < P := by rcases Nat.lt_or_ge M 2 with h | h <;> omega
    simp_all only [ss_nil, Nx_nil]
    (first | rw [Nx_eq] | rw [Arm_eq] | skip); (try simp_all only [ss_nil, Nx_nil])
    refine callS_of ⟨hp, .of (by omega), fun tgt u0 u1 u2 => ?_⟩
    have htgt : tgt < P := by rcases Nat.lt_or_ge P 2 with h | h <;> omega
    simp_all only [ss_nil, Nx_nil]
    have fin : ∀ z : Int, 0 ≤ z → z < P → Nx (.cons (.asg (.name 9) (.call "_law_guard" sp__law_guard (.cons (.var 0) (.cons (.var 1) (.cons (.var 4) (.cons (.var 6) .nil)))))) (.cons (.ret (.tup (.cons (.call "_law_pick" sp__law_pick (.cons (.var 0) (.cons (.var 5) .nil))) (.cons (.var 7) (.cons (.var 9) (.cons (.call "_law_backs" sp__law_backs (.cons (.var 0) (.cons (.var 1) .nil))) (.cons (.var 8) (.cons (.call "_law_draw" sp__law_draw (.cons (.var 0) (.cons (.int 4) .nil))) .nil)))))))) .nil)) (fnEnds Q X)
        [some (.ref p), some (.int k), some (.int P), some (.int N), some (.int top), some (.lst (lt.map strV)), some (.lst (ss.map sgV)), some (.int src), some (.int z), none] s := by
      intro z z0 z1
      (first | rw [Nx_eq] | rw [Arm_eq] | skip); (try simp_all only [ss_nil, Nx_nil])
      refine callS_of ⟨k, top, ss, dr, fun ts ht1 ht2 => ?_⟩
      simp_all only [ss_nil, Nx_nil]
      (first | rw [Nx_eq] | rw [Arm_eq] | skip); (try simp_all only [ss_nil, Nx_nil])
      refine callS_of ⟨hp, by simpa using l1, by rw [List.length_map]; omega, fun i v hv => ?_⟩
      obtain ⟨x, rfl, hx⟩ := get_map hv
      simp_all only [ss_nil, Nx_nil]
      refine callS_of ⟨hp, k, rfl, k2, fun bs hb1 hb2 => ?_⟩
      simp_all only [ss_nil, Nx_nil]
      refine callS_of ⟨hp, .of (by decide), fun w w0 w1 _ => ?_⟩
      have w1 := w1 (by decide)
      simp_all only [ss_nil, Nx_nil]
      refine ⟨by decide, s, .rfl, ?_⟩
      have e := h ⟨x, src.toNat, ts, bs, z.toNat, w.toNat⟩ ⟨mem_at hx, by show src.toNat < P; omega, by show z.toNat < P; omega, ht1, ht2, hb1, hb2, by show w.toNat < 4; omega⟩
      unfold dV at e
      rw [Int.toNat_of_nonneg r0, Int.toNat_of_nonneg z0, Int.toNat_of_nonneg w0] at e
      exact e
    (first | rw [Nx_eq] | rw [Arm_eq] | skip); (try simp_all only [ss_nil, Nx_nil])
    split
    · refine callS_of ⟨hp, .of (by decide), fun w w0 w1 _ => ?_⟩
      simp_all only [ss_nil, Nx_nil]
      split
      · (first | rw [Nx_eq] | rw [Arm_eq] | skip); (try simp_all only [ss_nil, Nx_nil])
        refine ⟨by omega, ?_⟩
        exact fin _ (Int.fmod_nonneg_of_pos _ (by omega)) (Int.fmod_lt_of_pos _ (by omega))
      · (first | rw [Nx_eq] | rw [Arm_eq] | skip); (try simp_all only [ss_nil, Nx_nil])
        exact fin _ u0 htgt
    · (first | rw [Nx_eq] | rw [Arm_eq] | skip); (try simp_all only [ss_nil, Nx_nil])
      exact fin _ u0 htgt
  · exact h.elim
end TK

set_option maxRecDepth 100000
set_option maxHeartbeats 4000000
namespace TK
open PySem PySem.Spec PyProof.Rows L2
/-! ### squares of codes: the plain law -/
abbrev Mx := Nat → Nat → Option Int
def Sat (n : Nat) (M : Mx) (v : Nat → Rat) : Prop := ∀ i j, i < n → j < n → letsC (M i j) (v i - v j) = true
def Low (n : Nat) (M M' : Mx) : Prop := ∀ i j c, i < n → j < n → M i j = some c → ∃ d, M' i j = some d ∧ d ≤ c
/-- what a round through 0 tells of the diagonal -/
def Good (M M' : Mx) (k : Nat) : Prop := ∀ c, joinC (M k 0) (M 0 k) = some c → ∃ d, M' k k = some d ∧ d ≤ c
def setM (M : Mx) (i j : Nat) (x : Option Int) : Mx := fun a b => if a = i ∧ b = j then x else M a b
theorem lets_join {x y : Option Int} {r r' : Rat} (h : letsC x r = true) (k : letsC y r' = true) : letsC (joinC x y) (r + r') = true := by
  cases x with
  | none => rfl
  | some a =>
    cases y with
    | none => rfl
    | some b =>
      have cast : ∀ a b : Int, (((a + b : Int)) : Rat) = (a : Rat) + (b : Rat) := fun a b => Rat.intCast_add a b
      rcases half a with ⟨a, rfl⟩ | ⟨a, rfl⟩ <;> rcases half b with ⟨b, rfl⟩ | ⟨b, rfl⟩
      · rw [join_ee, lets_even, decide_eq_true_eq, cast]
        rw [lets_even, decide_eq_true_eq] at h k
        grind
      · rw [join_eo, lets_even, decide_eq_true_eq, cast]
        rw [lets_even, decide_eq_true_eq] at h
        rw [lets_odd, decide_eq_true_eq] at k
        grind
      · rw [join_oe, lets_even, decide_eq_true_eq, cast]
        rw [lets_odd, decide_eq_true_eq] at h
        rw [lets_even, decide_eq_true_eq] at k
        grind
      · rw [join_oo, lets_odd, decide_eq_true_eq, cast]
        rw [lets_odd, decide_eq_true_eq] at h k
        grind
theorem lets_zero {c : Int} (h : letsC (some c) 0 = true) : 1 ≤ c := by
  rcases half c with ⟨a, rfl⟩ | ⟨a, rfl⟩
  · rw [lets_even, decide_eq_true_eq] at h
    have : (0 : Int) < a := Rat.intCast_lt_intCast.mp (by simpa using h)
    omega
  · rw [lets_odd, decide_eq_true_eq] at h
    have : (0 : Int) ≤ a := Rat.intCast_le_intCast.mp (by simpa using h)
    omega
theorem sat_set {n : Nat} {M' : Mx} {v : Nat → Rat} {i j mid : Nat} {f x : Int} (hm : mid < n) (hj : j < n) (hs : Sat n M' v) (hf : letsC (some f) (v i - v mid) = true) (hx : joinC (some f) (M' mid j) = some x) : Sat n (setM M' i j (some x)) v := by
  intro a b ha hb
  unfold setM
  split
  · rename_i e
    obtain ⟨rfl, rfl⟩ := e
    have := lets_join hf (hs mid b hm hb)
    rw [hx] at this
    have e : v a - v mid + (v mid - v b) = v a - v b := by grind
    rwa [e] at this
  · exact hs a b ha hb
theorem low_refl {n : Nat} {M : Mx} : Low n M M := fun i j c _ _ h => ⟨c, h, Int.le_refl _⟩
theorem low_set {n : Nat} {M M' : Mx} {i j : Nat} {x : Int} (h : Low n M M') (hx : ∀ d, M' i j = some d → x ≤ d) : Low n M (setM M' i j (some x)) := by
  intro a b c ha hb e
  obtain ⟨d, hd, hle⟩ := h a b c ha hb e
  unfold setM
  split
  · rename_i e2
    obtain ⟨rfl, rfl⟩ := e2
    exact ⟨x, rfl, Int.le_trans (hx d hd) hle⟩
  · exact ⟨d, hd, hle⟩
theorem good_set {M M' : Mx} {i j k : Nat} {x : Int} (h : Good M M' k) (hx : ∀ d, M' i j = some d → x ≤ d) : Good M (setM M' i j (some x)) k := by
  intro c e
  obtain ⟨d, hd, hle⟩ := h c e
  unfold setM
  split
  · rename_i e2
    obtain ⟨rfl, rfl⟩ := e2
    exact ⟨x, rfl, Int.le_trans (hx d hd) hle⟩
  · exact ⟨d, hd, hle⟩
/-! ### .. laid as lists -/
def rowV (n : Nat) (M : Mx) (i : Nat) : List PV := (List.range n).map fun j => codV (M i j)
def RowsAt (st : Store) (ps : List Nat) (n : Nat) (M : Mx) : Prop := ps.length = n ∧ ∀ i p, ps[i]? = some p → st p = some (.lst (rowV n M i))
theorem row_at {n j : Nat} {M : Mx} {i : Nat} (h : j < n) : atI (rowV n M i) (j : Int) = some (codV (M i j)) := by
  unfold rowV
  rw [atI_nat, List.getElem?_map, List.getElem?_range h]; rfl
theorem row_len {n : Nat} {M : Mx} {i : Nat} : (rowV n M i).length = n := by unfold rowV; rw [List.length_map, List.length_range]
theorem row_set {n : Nat} {M : Mx} {i j : Nat} {x : Option Int} : (rowV n M i).set j (codV x) = rowV n (setM M i j x) i := by
  unfold rowV
  apply List.ext_getElem?
  intro k
  by_cases hk : k < n
  · by_cases e : j = k
    · subst e
      rw [List.getElem?_set_self (by rw [List.length_map, List.length_range]; exact hk), List.getElem?_map, List.getElem?_range hk]
      show _ = some (codV (setM M i j x i j))
      unfold setM
      rw [if_pos ⟨rfl, rfl⟩]
    · rw [List.getElem?_set_ne e, List.getElem?_map, List.getElem?_map, List.getElem?_range hk]
      show some (codV (M i k)) = some (codV (setM M i j x i k))
      unfold setM
      rw [if_neg (fun z => e z.2.symm)]
  · rw [List.getElem?_eq_none (by rw [List.length_set, List.length_map, List.length_range]; omega), List.getElem?_eq_none (by rw [List.length_map, List.length_range]; omega)]
theorem row_other {n : Nat} {M : Mx} {i j k : Nat} {x : Option Int} (h : k ≠ i) : rowV n (setM M i j x) k = rowV n M k := by
  unfold rowV
  refine List.map_congr_left fun a _ => ?_
  show codV (setM M i j x k a) = _
  unfold setM
  rw [if_neg (fun z => h z.1)]
theorem rows_set {st : Store} {ps : List Nat} {n : Nat} {M : Mx} {i j p : Nat} {x : Option Int} (h : RowsAt st ps n M) (hn : ps.Nodup) (hp : ps[i]? = some p) : RowsAt (up st p (some (.lst ((rowV n M i).set j (codV x))))) ps n (setM M i j x) := by
  refine ⟨h.1, fun k q hq => ?_⟩
  by_cases e : k = i
  · subst e
    rw [hp] at hq
    cases hq
    rw [up_same, row_set]
  · have ne : q ≠ p := fun z => by
      subst z
      obtain ⟨h1, e1⟩ := List.getElem?_eq_some_iff.mp hp
      obtain ⟨h2, e2⟩ := List.getElem?_eq_some_iff.mp hq
      exact e ((List.getElem_inj hn).mp (e2.trans e1.symm))
    rw [up_ne ne, row_other e]
    exact h.2 k q hq
end TK

set_option maxRecDepth 100000
set_option maxHeartbeats 4000000
namespace TK
open PySem PySem.Spec PyProof.Rows L2
def sp_at_most : PSpec
  | [.int n], st, Q, _ => Q (.int (2 * n + 1)) st
  | _, _, _, _ => False
def b_at_most : Ss :=
  (.cons (.ret (.bin .Add false (.bin .Mult false (.int 2) (.var 0)) (.int 1))) .nil)
def n_at_most : List Str := ["n"]
theorem w_at_most : ∀ vs s Q X, vs.length = 1 → sp_at_most vs s Q X → wpFn n_at_most.length b_at_most vs s Q X := by
  intro vs s Q X hl h
  unfold sp_at_most at h
  split at h
  · rw [fn_eq]
    unfold b_at_most n_at_most
    simp_all only [ss_nil, Nx_nil, Arm_nil, sz_0, sz_1, sz_2, sz_3, sz_4, sz_5, sz_6, sz_7, sz_8, sz_9, sz_10, sz_11, sz_12, cp_2, cp_3, cp_4, cp_5, cp_6, cp_7, cp_12, cp_20, cp_30, cp_38, cp_39, cp_40]
    exact ⟨CMul.ok (by unfold CMul; omega), s, .rfl, h⟩
  · exact h.elim
def sp_below : PSpec
  | [.int n], st, Q, _ => Q (.int (2 * n)) st
  | _, _, _, _ => False
def b_below : Ss :=
  (.cons (.ret (.bin .Mult false (.int 2) (.var 0))) .nil)
def n_below : List Str := ["n"]
theorem w_below : ∀ vs s Q X, vs.length = 1 → sp_below vs s Q X → wpFn n_below.length b_below vs s Q X := by
  intro vs s Q X hl h
  unfold sp_below at h
  split at h
  · rw [fn_eq]
    unfold b_below n_below
    simp_all only [ss_nil, Nx_nil, Arm_nil, sz_0, sz_1, sz_2, sz_3, sz_4, sz_5, sz_6, sz_7, sz_8, sz_9, sz_10, sz_11, sz_12, cp_2, cp_3, cp_4, cp_5, cp_6, cp_7, cp_12, cp_20, cp_30, cp_38, cp_39, cp_40]
    exact ⟨CMul.ok (by unfold CMul; omega), s, .rfl, h⟩
  · exact h.elim
/-- what is told of a closed square -/
structure Closes (n : Nat) (M M' : Mx) (b : Bool) : Prop where
  sat : ∀ v, Sat n M v → Sat n M' v
  no : b = false → ∀ v, ¬ Sat n M v
  yes : b = true → ∀ k, k < n → ∀ c, joinC (M k 0) (M 0 k) = some c → 1 ≤ c
def sp_closed_grid : PSpec
  | [.lst rs], st, Q, _ => ∃ (ps : List Nat) (M : Mx) (n : Nat), rs = ps.map .ref ∧ ps.Nodup ∧ 1 ≤ n ∧ n ≤ 1000 ∧ (∀ i, i < n → M i i = some 1) ∧ RowsAt st ps n M ∧
      ∀ (b : Bool) (M' : Mx) (st' : Store), RowsAt st' ps n M' → (∀ a, a ∉ ps → st' a = st a) → Closes n M M' b → Q (.bl b) st'
  | _, _, _, _ => False
def b_closed_grid_3 : Ss :=
  (.cons (.asg (.name 8) (.idx (.var 3) (.var 7))) (.cons (.ite (.cmp .Is (.var 8) .non) (.cons .cont .nil) .nil) (.cons (.asg (.name 9) (.bin .Sub false (.bin .Add false (.var 5) (.var 8)) (.bin .BitAnd false (.bin .BitOr false (.var 5) (.var 8)) (.int 1)))) (.cons (.ite (.bools .Or (.cons (.cmp .Is (.idx (.var 6) (.var 7)) .non) (.cons (.cmp .Lt (.var 9) (.idx (.var 6) (.var 7))) .nil))) (.cons (.setIx (.var 6) (.var 7) (.var 9)) .nil) .nil) .nil))))
def b_closed_grid_2 : Ss :=
  (.cons (.asg (.name 5) (.idx (.idx (.var 0) (.var 4)) (.var 2))) (.cons (.ite (.cmp .Is (.var 5) .non) (.cons .cont .nil) .nil) (.cons (.asg (.name 6) (.idx (.var 0) (.var 4))) (.cons (.loop (.name 7) (.range1 (.var 1)) b_closed_grid_3) .nil))))
def b_closed_grid_1 : Ss :=
  (.cons (.asg (.name 3) (.idx (.var 0) (.var 2))) (.cons (.loop (.name 4) (.range1 (.var 1)) b_closed_grid_2) (.cons (.ite (.cmp .Lt (.idx (.idx (.var 0) (.var 2)) (.var 2)) (.glob "ALL_ZERO" (.int 1))) (.cons (.ret (.bl false)) .nil) .nil) .nil)))
def b_closed_grid : Ss :=
  (.cons (.asg (.name 1) (.blt .len false (.cons (.var 0) .nil))) (.cons (.loop (.name 2) (.range1 (.var 1)) b_closed_grid_1) (.cons (.ret (.blt .all false (.cons (.comp false [4] (.name 4) (.range1 (.var 1)) .nil (.cmp .Eq (.idx (.idx (.var 0) (.var 4)) (.var 4)) (.glob "ALL_ZERO" (.int 1)))) .nil))) .nil)))
def n_closed_grid : List Str := ["grid", "size", "mid", "through", "i", "first", "row", "j", "second", "code"]
/-- how a round over the middles stands: rows below i are done, of row i the places below j -/
structure Mid (n : Nat) (M M' : Mx) (mid i : Nat) : Prop where
  sat : ∀ v, Sat n M v → Sat n M' v
  low : Low n M M'
  good : 1 ≤ mid → ∀ k, k < n → Good M M' k
  row0 : mid = 0 → ∀ k, M' 0 k = M 0 k
  done : mid = 0 → ∀ k, k < i → k < n → Good M M' k
  rest : mid = 0 → ∀ k, i ≤ k → ∀ j, M' k j = M k j
theorem Mid.next {n : Nat} {M M' : Mx} {mid i : Nat} (h : Mid n M M' mid i) (hd : mid = 0 → i < n → Good M M' i) : Mid n M M' mid (i + 1) where
  sat := h.sat
  low := h.low
  good := h.good
  row0 := h.row0
  done := fun e k hk hn => by
    rcases Nat.lt_or_ge k i with hk' | hk'
    · exact h.done e k hk' hn
    · have : k = i := by omega
      subst this
      exact hd e hn
  rest := fun e k hk j => h.rest e k (by omega) j
/-- within row i -/
structure Row (n : Nat) (M M' : Mx) (mid i j : Nat) (f : Int) : Prop where
  sat : ∀ v, Sat n M v → Sat n M' v
  fs : ∀ v, Sat n M v → letsC (some f) (v i - v mid) = true
  low : Low n M M'
  good : 1 ≤ mid → ∀ k, k < n → Good M M' k
  row0 : mid = 0 → ∀ k, M' 0 k = M 0 k
  done : mid = 0 → ∀ k, k < i → k < n → Good M M' k
  rest : mid = 0 → ∀ k, i < k → ∀ j, M' k j = M k j
  f0 : mid = 0 → M i 0 = some f
  now : mid = 0 → ∀ k, j ≤ k → M' i k = M i k
  past : mid = 0 → i < j → Good M M' i
theorem joinC_some {a b : Int} : joinC (some a) (some b) = some (a + b - Builtin.bitAnd (Builtin.bitOr a b) 1) := by
  rw [or_one]; rfl
theorem Row.keep {n : Nat} {M M' : Mx} {mid i j : Nat} {f : Int} (h : Row n M M' mid i j f) (hp : mid = 0 → i = j → Good M M' i) : Row n M M' mid i (j + 1) f where
  sat := h.sat
  fs := h.fs
  low := h.low
  good := h.good
  row0 := h.row0
  done := h.done
  rest := h.rest
  f0 := h.f0
  now := fun e k hk => h.now e k (by omega)
  past := fun e hij => by
    rcases Nat.lt_or_ge i j with hh | hh
    · exact h.past e hh
    · exact hp e (by omega)
theorem Row.set {n : Nat} {M M' : Mx} {mid i j : Nat} {f x : Int} (h : Row n M M' mid i j f) (hm : mid < n) (hj : j < n) (hx : joinC (some f) (M' mid j) = some x) (hl : ∀ d, M' i j = some d → x ≤ d) (h0 : mid = 0 → i ≠ 0) : Row n M (setM M' i j (some x)) mid i (j + 1) f where
  sat := fun v hv => sat_set hm hj (h.sat v hv) (h.fs v hv) hx
  fs := h.fs
  low := low_set h.low hl
  good := fun e k hk => good_set (h.good e k hk) hl
  row0 := fun e k => by
    unfold setM
    rw [if_neg (fun z => h0 e z.1.symm)]
    exact h.row0 e k
  done := fun e k hk hn => good_set (h.done e k hk hn) hl
  rest := fun e k hk b => by
    unfold setM
    rw [if_neg (fun z => by omega)]
    exact h.rest e k hk b
  f0 := h.f0
  now := fun e k hk => by
    unfold setM
    rw [if_neg (fun z => by omega)]
    exact h.now e k (by omega)
  past := fun e hij => by
    rcases Nat.lt_or_ge i j with hh | hh
    · exact good_set (h.past e hh) hl
    · have : i = j := by omega
      subst this
      intro c hc
      subst e
      rw [h.f0 rfl, ← h.row0 rfl] at hc
      rw [hc] at hx
      cases hx
      exact ⟨x, by unfold setM; rw [if_pos ⟨rfl, rfl⟩], Int.le_refl _⟩
theorem w_closed_grid : ∀ vs s Q X, vs.length = 1 → sp_closed_grid vs s Q X → wpFn n_closed_grid.length b_closed_grid vs s Q X := by
  intro vs s Q X hl h
  unfold sp_closed_grid at h
  split at h
  · rw [fn_eq]
    unfold b_closed_grid n_closed_grid
    obtain ⟨ps, M, n, rfl, hnd, n1, n2, hdg, hrows, h⟩ := h
    have hpl := hrows.1
    have pat : ∀ i, i < n → ∃ p, ps[i]? = some p ∧ atI (ps.map PV.ref) (i : Int) = some (.ref p) ∧ p ∈ ps := fun i hi => by
      have e : ps[i]? = some (ps[i]'(by omega)) := List.getElem?_eq_getElem (by omega)
      exact ⟨_, e, by rw [atI_nat, List.getElem?_map, e]; rfl, List.getElem_mem _⟩
    have sz : 10000 ≤ sizeLine := by decide
    simp_all only [ss_nil, Nx_nil, Arm_nil, sz_0, sz_1, sz_2, sz_3, sz_4, sz_5, sz_6, sz_7, sz_8, sz_9, sz_10, sz_11, sz_12, cp_2, cp_3, cp_4, cp_5, cp_6, cp_7, cp_12, cp_20, cp_30, cp_38, cp_39, cp_40, List.length_map, hpl]
    (first | rw [Nx_eq] | rw [Arm_eq] | skip); (try simp_all only [ss_nil, Nx_nil, Arm_nil, sz_0, sz_1, sz_2, sz_3, sz_4, sz_5, sz_6, sz_7, sz_8, sz_9, sz_10, sz_11, sz_12, cp_2, cp_3, cp_4, cp_5, cp_6, cp_7, cp_12, cp_20, cp_30, cp_38, cp_39, cp_40])
    refine ⟨by unfold R62; omega, ?_⟩
    refine for_at (fun m τ st => ∃ (M' : Mx) (o2 o3 o4 o5 o6 o7 o8 o9 : Option PV), τ = [some (.lst (ps.map .ref)), some (.int n), o2, o3, o4, o5, o6, o7, o8, o9] ∧ RowsAt st ps n M' ∧ (∀ a, a ∉ ps → st a = s a) ∧ Mid n M M' m 0) ?_ ?_
      ⟨M, _, _, _, _, _, _, _, _, rfl, hrows, fun _ _ => rfl, ⟨fun _ h => h, low_refl, fun h => absurd h (by omega), fun _ _ => rfl, fun _ k hk => absurd hk (by omega), fun _ _ _ _ => rfl⟩⟩
    · rintro mid v τ st hi ⟨M1, o2, o3, o4, o5, o6, o7, o8, o9, rfl, hr1, hfr1, hM1⟩
      obtain ⟨hmid, rfl⟩ := get_rng hi
      rw [Int.toNat_natCast] at hmid
      rw [Int.zero_add]
      refine ⟨trivial, ?_⟩
      obtain ⟨pm, em, am, mm⟩ := pat mid hmid
      unfold b_closed_grid_1
      simp_all only [ss_nil, Nx_nil, Arm_nil, sz_0, sz_1, sz_2, sz_3, sz_4, sz_5, sz_6, sz_7, sz_8, sz_9, sz_10, sz_11, sz_12, cp_2, cp_3, cp_4, cp_5, cp_6, cp_7, cp_12, cp_20, cp_30, cp_38, cp_39, cp_40, am]
      (first | rw [Nx_eq] | rw [Arm_eq] | skip); (try simp_all only [ss_nil, Nx_nil, Arm_nil, sz_0, sz_1, sz_2, sz_3, sz_4, sz_5, sz_6, sz_7, sz_8, sz_9, sz_10, sz_11, sz_12, cp_2, cp_3, cp_4, cp_5, cp_6, cp_7, cp_12, cp_20, cp_30, cp_38, cp_39, cp_40])
      refine ⟨by unfold R62; omega, ?_⟩
      refine for_at (fun i τ st' => ∃ (M' : Mx) (o4 o5 o6 o7 o8 o9 : Option PV), τ = [some (.lst (ps.map .ref)), some (.int n), some (.int mid), some (.ref pm), o4, o5, o6, o7, o8, o9] ∧ RowsAt st' ps n M' ∧ (∀ a, a ∉ ps → st' a = s a) ∧ Mid n M M' mid i) ?_ ?_
        ⟨M1, _, _, _, _, _, _, rfl, hr1, hfr1, hM1⟩
      · rintro i v τ st' hi' ⟨M2, o4, o5, o6, o7, o8, o9, rfl, hr2, hfr2, hM2⟩
        obtain ⟨hin, rfl⟩ := get_rng hi'
        rw [Int.toNat_natCast] at hin
        rw [Int.zero_add]
        refine ⟨trivial, ?_⟩
        obtain ⟨pi, ei, ai, mi⟩ := pat i hin
        have si := hr2.2 i pi ei
        have ri := row_at (M := M2) (i := i) hmid
        unfold b_closed_grid_2
        simp_all only [ss_nil, Nx_nil, Arm_nil, sz_0, sz_1, sz_2, sz_3, sz_4, sz_5, sz_6, sz_7, sz_8, sz_9, sz_10, sz_11, sz_12, cp_2, cp_3, cp_4, cp_5, cp_6, cp_7, cp_12, cp_20, cp_30, cp_38, cp_39, cp_40, ai, si, ri]
        (first | rw [Nx_eq] | rw [Arm_eq] | skip); (try simp_all only [ss_nil, Nx_nil, Arm_nil, sz_0, sz_1, sz_2, sz_3, sz_4, sz_5, sz_6, sz_7, sz_8, sz_9, sz_10, sz_11, sz_12, cp_2, cp_3, cp_4, cp_5, cp_6, cp_7, cp_12, cp_20, cp_30, cp_38, cp_39, cp_40])
        cases ef : M2 i mid with
        | none =>
          simp_all only [ss_nil, Nx_nil, Arm_nil, sz_0, sz_1, sz_2, sz_3, sz_4, sz_5, sz_6, sz_7, sz_8, sz_9, sz_10, sz_11, sz_12, cp_2, cp_3, cp_4, cp_5, cp_6, cp_7, cp_12, cp_20, cp_30, cp_38, cp_39, cp_40, codV]
          (first | rw [Nx_eq] | rw [Arm_eq] | skip); (try simp_all only [ss_nil, Nx_nil, Arm_nil, sz_0, sz_1, sz_2, sz_3, sz_4, sz_5, sz_6, sz_7, sz_8, sz_9, sz_10, sz_11, sz_12, cp_2, cp_3, cp_4, cp_5, cp_6, cp_7, cp_12, cp_20, cp_30, cp_38, cp_39, cp_40])
          refine ⟨M2, _, _, _, _, _, _, rfl, hr2, hfr2, hM2.next fun e _ c hc => ?_⟩
          subst e
          rw [← hM2.rest rfl i (Nat.le_refl _) 0, ef] at hc
          cases hc
        | some f =>
          simp_all only [ss_nil, Nx_nil, Arm_nil, sz_0, sz_1, sz_2, sz_3, sz_4, sz_5, sz_6, sz_7, sz_8, sz_9, sz_10, sz_11, sz_12, cp_2, cp_3, cp_4, cp_5, cp_6, cp_7, cp_12, cp_20, cp_30, cp_38, cp_39, cp_40, codV]
          (first | rw [Nx_eq] | rw [Arm_eq] | skip); (try simp_all only [ss_nil, Nx_nil, Arm_nil, sz_0, sz_1, sz_2, sz_3, sz_4, sz_5, sz_6, sz_7, sz_8, sz_9, sz_10, sz_11, sz_12, cp_2, cp_3, cp_4, cp_5, cp_6, cp_7, cp_12, cp_20, cp_30, cp_38, cp_39, cp_40, ai])
          (first | rw [Nx_eq] | rw [Arm_eq] | skip); (try simp_all only [ss_nil, Nx_nil, Arm_nil, sz_0, sz_1, sz_2, sz_3, sz_4, sz_5, sz_6, sz_7, sz_8, sz_9, sz_10, sz_11, sz_12, cp_2, cp_3, cp_4, cp_5, cp_6, cp_7, cp_12, cp_20, cp_30, cp_38, cp_39, cp_40])
          refine ⟨by unfold R62; omega, ?_⟩
          refine for_at (fun j τ st2 => ∃ (M' : Mx) (o7 o8 o9 : Option PV), τ = [some (.lst (ps.map .ref)), some (.int n), some (.int mid), some (.ref pm), some (.int i), some (.int f), some (.ref pi), o7, o8, o9] ∧ RowsAt st2 ps n M' ∧ (∀ a, a ∉ ps → st2 a = s a) ∧ Row n M M' mid i j f) ?_ ?_
            ⟨M2, _, _, _, rfl, hr2, hfr2, ?_⟩
          · rintro j v τ st2 hj' ⟨M3, o7, o8, o9, rfl, hr3, hfr3, hM3⟩
            obtain ⟨hjn, rfl⟩ := get_rng hj'
            rw [Int.toNat_natCast] at hjn
            rw [Int.zero_add]
            refine ⟨trivial, ?_⟩
            have s3m := hr3.2 mid pm em
            have s3i := hr3.2 i pi ei
            have r3m := row_at (M := M3) (i := mid) hjn
            have r3i := row_at (M := M3) (i := i) hjn
            unfold b_closed_grid_3
            simp_all only [ss_nil, Nx_nil, Arm_nil, sz_0, sz_1, sz_2, sz_3, sz_4, sz_5, sz_6, sz_7, sz_8, sz_9, sz_10, sz_11, sz_12, cp_2, cp_3, cp_4, cp_5, cp_6, cp_7, cp_12, cp_20, cp_30, cp_38, cp_39, cp_40, s3m, r3m]
            (first | rw [Nx_eq] | rw [Arm_eq] | skip); (try simp_all only [ss_nil, Nx_nil, Arm_nil, sz_0, sz_1, sz_2, sz_3, sz_4, sz_5, sz_6, sz_7, sz_8, sz_9, sz_10, sz_11, sz_12, cp_2, cp_3, cp_4, cp_5, cp_6, cp_7, cp_12, cp_20, cp_30, cp_38, cp_39, cp_40])
            cases eg : M3 mid j with
            | none =>
              simp_all only [ss_nil, Nx_nil, Arm_nil, sz_0, sz_1, sz_2, sz_3, sz_4, sz_5, sz_6, sz_7, sz_8, sz_9, sz_10, sz_11, sz_12, cp_2, cp_3, cp_4, cp_5, cp_6, cp_7, cp_12, cp_20, cp_30, cp_38, cp_39, cp_40, codV]
              (first | rw [Nx_eq] | rw [Arm_eq] | skip); (try simp_all only [ss_nil, Nx_nil, Arm_nil, sz_0, sz_1, sz_2, sz_3, sz_4, sz_5, sz_6, sz_7, sz_8, sz_9, sz_10, sz_11, sz_12, cp_2, cp_3, cp_4, cp_5, cp_6, cp_7, cp_12, cp_20, cp_30, cp_38, cp_39, cp_40])
              refine ⟨M3, _, _, _, rfl, hr3, hfr3, hM3.keep fun e eij c hc => ?_⟩
              subst e
              subst eij
              rw [← hM3.row0 rfl i, eg, join_none] at hc
              cases hc
            | some g =>
              have jx : joinC (some f) (M3 mid j) = some (f + g - Builtin.bitAnd (Builtin.bitOr f g) 1) := by rw [eg, joinC_some]
              simp_all only [ss_nil, Nx_nil, Arm_nil, sz_0, sz_1, sz_2, sz_3, sz_4, sz_5, sz_6, sz_7, sz_8, sz_9, sz_10, sz_11, sz_12, cp_2, cp_3, cp_4, cp_5, cp_6, cp_7, cp_12, cp_20, cp_30, cp_38, cp_39, cp_40, codV]
              (first | rw [Nx_eq] | rw [Arm_eq] | skip); (try simp_all only [ss_nil, Nx_nil, Arm_nil, sz_0, sz_1, sz_2, sz_3, sz_4, sz_5, sz_6, sz_7, sz_8, sz_9, sz_10, sz_11, sz_12, cp_2, cp_3, cp_4, cp_5, cp_6, cp_7, cp_12, cp_20, cp_30, cp_38, cp_39, cp_40])
              revert jx
              generalize f + g - Builtin.bitAnd (Builtin.bitOr f g) 1 = x
              intro jx
              have ixj : ixN (rowV n M3 i).length (j : Int) = some j := by rw [row_len]; exact ixN_nat hjn
              -- the place is written
              have put : (∀ d, M3 i j = some d → x ≤ d) → (mid = 0 → i ≠ 0) → ∃ (M' : Mx) (o7 o8 o9 : Option PV), [some (.lst (ps.map .ref)), some (.int n), some (.int mid), some (.ref pm), some (.int i), some (.int f), some (.ref pi), some (.int j), some (.int g), some (.int x)] = [some (.lst (ps.map .ref)), some (.int n), some (.int mid), some (.ref pm), some (.int i), some (.int f), some (.ref pi), o7, o8, o9] ∧ RowsAt (up st2 pi (some (.lst ((rowV n M3 i).set j (.int x))))) ps n M' ∧ (∀ a, a ∉ ps → (up st2 pi (some (.lst ((rowV n M3 i).set j (.int x))))) a = s a) ∧ Row n M M' mid i (j + 1) f := by
                intro hx h0
                refine ⟨_, _, _, _, rfl, rows_set (x := some x) hr3 hnd ei, fun a ha => ?_, hM3.set hmid hjn jx hx h0⟩
                rw [up_ne (fun z => ha (by rw [z]; exact mi))]
                exact hfr3 a ha
              -- row 0 through 0 stands
              have zero : mid = 0 → i = 0 → M3 i j = some x := fun e ei0 => by
                subst e
                subst ei0
                have hf1 := hM3.f0 rfl
                rw [hdg 0 hin] at hf1
                cases hf1
                rw [join_comm, join_unit] at jx
                exact jx
              cases eh : M3 i j with
              | none =>
                (first | rw [Nx_eq] | rw [Arm_eq] | skip); (try simp_all only [ss_nil, Nx_nil, Arm_nil, sz_0, sz_1, sz_2, sz_3, sz_4, sz_5, sz_6, sz_7, sz_8, sz_9, sz_10, sz_11, sz_12, cp_2, cp_3, cp_4, cp_5, cp_6, cp_7, cp_12, cp_20, cp_30, cp_38, cp_39, cp_40, s3i, r3i, eh, codV])
                (first | rw [Nx_eq] | rw [Arm_eq] | skip); (try simp_all only [ss_nil, Nx_nil, Arm_nil, sz_0, sz_1, sz_2, sz_3, sz_4, sz_5, sz_6, sz_7, sz_8, sz_9, sz_10, sz_11, sz_12, cp_2, cp_3, cp_4, cp_5, cp_6, cp_7, cp_12, cp_20, cp_30, cp_38, cp_39, cp_40, s3i, ixj])
                exact put (fun d hd => by simp [eh] at hd) fun e e0 => by
                  have := zero e e0
                  simp [eh] at this
              | some d =>
                (first | rw [Nx_eq] | rw [Arm_eq] | skip); (try simp_all only [ss_nil, Nx_nil, Arm_nil, sz_0, sz_1, sz_2, sz_3, sz_4, sz_5, sz_6, sz_7, sz_8, sz_9, sz_10, sz_11, sz_12, cp_2, cp_3, cp_4, cp_5, cp_6, cp_7, cp_12, cp_20, cp_30, cp_38, cp_39, cp_40, s3i, r3i, eh, codV])
                split
                · rename_i hlt
                  (first | rw [Nx_eq] | rw [Arm_eq] | skip); (try simp_all only [ss_nil, Nx_nil, Arm_nil, sz_0, sz_1, sz_2, sz_3, sz_4, sz_5, sz_6, sz_7, sz_8, sz_9, sz_10, sz_11, sz_12, cp_2, cp_3, cp_4, cp_5, cp_6, cp_7, cp_12, cp_20, cp_30, cp_38, cp_39, cp_40, s3i, ixj])
                  exact put (fun d' hd => by simp [eh] at hd; omega) fun e e0 => by
                    have := zero e e0
                    simp [eh] at this; omega
                · rename_i hlt
                  refine ⟨M3, _, _, _, rfl, hr3, hfr3, hM3.keep fun e eij c hc => ?_⟩
                  subst e
                  subst eij
                  rw [hM3.f0 rfl, ← hM3.row0 rfl i] at hc
                  rw [hc] at jx
                  cases jx
                  exact ⟨d, eh, by omega⟩
          · rintro τ st2 ⟨M3, o7, o8, o9, rfl, hr3, hfr3, hM3⟩
            rw [rng_len, Int.toNat_natCast] at hM3
            refine ⟨trivial, ?_⟩
            simp_all only [ss_nil, Nx_nil, Arm_nil, sz_0, sz_1, sz_2, sz_3, sz_4, sz_5, sz_6, sz_7, sz_8, sz_9, sz_10, sz_11, sz_12, cp_2, cp_3, cp_4, cp_5, cp_6, cp_7, cp_12, cp_20, cp_30, cp_38, cp_39, cp_40]
            refine ⟨M3, _, _, _, _, _, _, rfl, hr3, hfr3, ⟨hM3.sat, hM3.low, hM3.good, hM3.row0, fun e k hk hn => ?_, fun e k hk j => hM3.rest e k (by omega) j⟩⟩
            rcases Nat.lt_or_ge k i with hh | hh
            · exact hM3.done e k hh hn
            · have : k = i := by omega
              subst this
              exact hM3.past e hn
          · refine ⟨hM2.sat, fun v hv => ?_, hM2.low, hM2.good, hM2.row0, hM2.done, fun e k hk j => hM2.rest e k (by omega) j, fun e => ?_, fun e k _ => hM2.rest e i (Nat.le_refl _) k, fun _ hh => absurd hh (by omega)⟩
            · have := hM2.sat v hv i mid hin hmid
              rwa [ef] at this
            · subst e
              rw [← hM2.rest rfl i (Nat.le_refl _) 0]; exact ef
      · rintro τ st' ⟨M2, o4, o5, o6, o7, o8, o9, rfl, hr2, hfr2, hM2⟩
        rw [rng_len, Int.toNat_natCast] at hM2
        refine ⟨trivial, ?_⟩
        have sm := hr2.2 mid pm em
        have rm := row_at (M := M2) (i := mid) hmid
        obtain ⟨d, hd, hd1⟩ := hM2.low mid mid 1 hmid hmid (hdg mid hmid)
        simp_all only [ss_nil, Nx_nil, Arm_nil, sz_0, sz_1, sz_2, sz_3, sz_4, sz_5, sz_6, sz_7, sz_8, sz_9, sz_10, sz_11, sz_12, cp_2, cp_3, cp_4, cp_5, cp_6, cp_7, cp_12, cp_20, cp_30, cp_38, cp_39, cp_40]
        (first | rw [Nx_eq] | rw [Arm_eq] | skip); (try simp_all only [ss_nil, Nx_nil, Arm_nil, sz_0, sz_1, sz_2, sz_3, sz_4, sz_5, sz_6, sz_7, sz_8, sz_9, sz_10, sz_11, sz_12, cp_2, cp_3, cp_4, cp_5, cp_6, cp_7, cp_12, cp_20, cp_30, cp_38, cp_39, cp_40, am, sm, rm, hd, codV])
        split
        · rename_i hlt
          (first | rw [Nx_eq] | rw [Arm_eq] | skip); (try simp_all only [ss_nil, Nx_nil, Arm_nil, sz_0, sz_1, sz_2, sz_3, sz_4, sz_5, sz_6, sz_7, sz_8, sz_9, sz_10, sz_11, sz_12, cp_2, cp_3, cp_4, cp_5, cp_6, cp_7, cp_12, cp_20, cp_30, cp_38, cp_39, cp_40])
          refine ⟨st', .rfl, h false M2 st' hr2 hfr2 ⟨hM2.sat, fun _ v hv => ?_, fun e => (nomatch e)⟩⟩
          have := hM2.sat v hv mid mid hmid hmid
          rw [hd] at this
          have e0 : v mid - v mid = 0 := by grind
          rw [e0] at this
          have := lets_zero this
          omega
        · refine ⟨M2, _, _, _, _, _, _, _, _, rfl, hr2, hfr2, ⟨hM2.sat, hM2.low, fun _ k hk => ?_, fun e => absurd e (by omega), fun e => absurd e (by omega), fun e => absurd e (by omega)⟩⟩
          rcases Nat.eq_zero_or_pos mid with e | e
          · exact hM2.done e k (by omega) hk
          · exact hM2.good e k hk
    · rintro τ st ⟨M1, o2, o3, o4, o5, o6, o7, o8, o9, rfl, hr1, hfr1, hM1⟩
      rw [rng_len, Int.toNat_natCast] at hM1
      refine ⟨trivial, ?_⟩
      simp_all only [ss_nil, Nx_nil, Arm_nil, sz_0, sz_1, sz_2, sz_3, sz_4, sz_5, sz_6, sz_7, sz_8, sz_9, sz_10, sz_11, sz_12, cp_2, cp_3, cp_4, cp_5, cp_6, cp_7, cp_12, cp_20, cp_30, cp_38, cp_39, cp_40]
      (first | rw [Nx_eq] | rw [Arm_eq] | skip); (try simp_all only [ss_nil, Nx_nil, Arm_nil, sz_0, sz_1, sz_2, sz_3, sz_4, sz_5, sz_6, sz_7, sz_8, sz_9, sz_10, sz_11, sz_12, cp_2, cp_3, cp_4, cp_5, cp_6, cp_7, cp_12, cp_20, cp_30, cp_38, cp_39, cp_40])
      refine ⟨by unfold R62; omega, by rw [rng_len]; omega, ?_⟩
      have erng : rngL 0 ((n : Int).toNat) = (List.range n).map fun (k : Nat) => PV.int (k : Int) := by
        unfold rngL
        rw [Int.toNat_natCast]
        exact List.map_congr_left fun a _ => by rw [Int.zero_add]
      rw [erng]
      refine lc_enc (fun k => .bl (decide (M1 k k = some 1))) (List.range n) (fun τ1 st' Q q => by simp_all only [ss_nil, Nx_nil, Arm_nil, sz_0, sz_1, sz_2, sz_3, sz_4, sz_5, sz_6, sz_7, sz_8, sz_9, sz_10, sz_11, sz_12, cp_2, cp_3, cp_4, cp_5, cp_6, cp_7, cp_12, cp_20, cp_30, cp_38, cp_39, cp_40]; exact q) (fun k hk => ⟨_, rfl, fun st' sub K hK => ?_⟩) ?_
      · have hkn := List.mem_range.mp hk
        obtain ⟨pk, ek, ak, mk⟩ := pat k hkn
        have sk := sub _ _ (hr1.2 k pk ek)
        have rk := row_at (M := M1) (i := k) hkn
        obtain ⟨d, hd, hd1⟩ := hM1.low k k 1 hkn hkn (hdg k hkn)
        rw [hd] at hK rk
        have e : decide (some d = some 1) = decide (d = 1) := by simp
        rw [e] at hK
        simp_all only [ss_nil, Nx_nil, Arm_nil, sz_0, sz_1, sz_2, sz_3, sz_4, sz_5, sz_6, sz_7, sz_8, sz_9, sz_10, sz_11, sz_12, cp_2, cp_3, cp_4, cp_5, cp_6, cp_7, cp_12, cp_20, cp_30, cp_38, cp_39, cp_40, ak, sk, rk, codV]
        exact hK
      have eb : ((List.range n).map fun k => PV.bl (decide (M1 k k = some 1))) = ((List.range n).map fun k => decide (M1 k k = some 1)).map PV.bl := by rw [List.map_map]; rfl
      simp_all only [ss_nil, Nx_nil, Arm_nil, sz_0, sz_1, sz_2, sz_3, sz_4, sz_5, sz_6, sz_7, sz_8, sz_9, sz_10, sz_11, sz_12, cp_2, cp_3, cp_4, cp_5, cp_6, cp_7, cp_12, cp_20, cp_30, cp_38, cp_39, cp_40, eb, bls_of]
      refine ⟨st, .rfl, h _ M1 st hr1 hfr1 ⟨hM1.sat, fun e v hv => ?_, fun e k hk c hc => ?_⟩⟩
      · rw [List.all_eq_false] at e
        obtain ⟨b, hb, hbf⟩ := e
        obtain ⟨k, hk, rfl⟩ := List.mem_map.mp hb
        have hkn := List.mem_range.mp hk
        obtain ⟨d, hd, hd1⟩ := hM1.low k k 1 hkn hkn (hdg k hkn)
        have := hM1.sat v hv k k hkn hkn
        rw [hd] at this
        have e0 : v k - v k = 0 := by grind
        rw [e0] at this
        have := lets_zero this
        have d1 : d = 1 := by omega
        subst d1
        simp [hd] at hbf
      · rw [List.all_eq_true] at e
        have := e (decide (M1 k k = some 1)) (List.mem_map.mpr ⟨k, List.mem_range.mpr hk, rfl⟩)
        have hk1 : M1 k k = some 1 := by simpa using this
        obtain ⟨d, hd, hle⟩ := hM1.good n1 k hk c hc
        rw [hk1] at hd
        cases hd
        exact hle
  · exact h.elim
end TK

set_option maxRecDepth 100000
set_option maxHeartbeats 4000000
namespace TK
open PySem PySem.Spec PyProof.Rows L2
/-! ### lots, bounds -/
def lotV (n : Nat) (M : Mx) : PV := .tup ((List.range n).map fun i => .tup (rowV n M i))
abbrev Bnd := Nat × Nat × Int
def bV (b : Bnd) : PV := .tup [.int b.1, .int b.2.1, .int b.2.2]
/-- all clocks at least 0 -/
def wholeM : Mx := fun i j => if i = 0 ∨ i = j then some 1 else none
def sp_whole_lot : PSpec
  | [.int k], st, Q, _ => ∃ n : Nat, k = n ∧ n ≤ 900 ∧ Q (lotV (n + 1) wholeM) st
  | _, _, _, _ => False
def b_whole_lot_1 : Ss :=
  (.cons (.expr (.meth .append (.var 1) (.cons (.blt .tuple false (.cons (.comp false [3] (.name 3) (.range1 (.bin .Add false (.var 0) (.int 1))) .nil (.ite (.cmp .Eq (.var 2) (.var 3)) (.glob "ALL_ZERO" (.int 1)) .non)) .nil)) .nil))) .nil)
def b_whole_lot : Ss :=
  (.cons (.asg (.name 1) (.lst true (.cons (.blt .tuple false (.cons (.bin .Mult false (.lst false (.cons (.glob "ALL_ZERO" (.int 1)) .nil)) (.bin .Add false (.var 0) (.int 1))) .nil)) .nil))) (.cons (.loop (.name 2) (.range2 (.int 1) (.bin .Add false (.var 0) (.int 1))) b_whole_lot_1) (.cons (.ret (.blt .tuple false (.cons (.var 1) .nil))) .nil)))
def n_whole_lot : List Str := ["k", "rows", "i", "j"]
theorem rng_map {n : Nat} {lo : Nat} : rngL (lo : Int) n = (List.range n).map fun (k : Nat) => PV.int ((lo + k : Nat) : Int) := by
  unfold rngL
  exact List.map_congr_left fun a _ => by rw [Int.natCast_add]
theorem rep_flat {α : Type} (x : α) : ∀ k : Nat, (List.replicate k [x]).flatten = List.replicate k x
  | 0 => rfl
  | k + 1 => by rw [List.replicate_succ, List.flatten_cons, rep_flat x k]; rfl
theorem w_whole_lot : ∀ vs s Q X, vs.length = 1 → sp_whole_lot vs s Q X → wpFn n_whole_lot.length b_whole_lot vs s Q X := by
  intro vs s Q X hl h
  unfold sp_whole_lot at h
  split at h
  · rw [fn_eq]
    unfold b_whole_lot n_whole_lot
    obtain ⟨n, rfl, hn, h⟩ := h
    have sz : 10000 ≤ sizeLine := by decide
    have en : ((n : Int) + 1).toNat = n + 1 := by omega
    have row0 : PV.tup (List.replicate (n + 1) [PV.int 1]).flatten = .tup (rowV (n + 1) wholeM 0) := by
      rw [rep_flat]
      unfold rowV
      congr 1
      refine (List.eq_replicate_iff.mpr ⟨by rw [List.length_map, List.length_range], fun x hx => ?_⟩).symm
      obtain ⟨j, _, rfl⟩ := List.mem_map.mp hx
      unfold wholeM
      rw [if_pos (.inl rfl)]; rfl
    have row1 : PV.tup ([PV.int 1] :: List.replicate n [PV.int 1]).flatten = .tup (rowV (n + 1) wholeM 0) := by
      rw [← List.replicate_succ]; exact row0
    simp_all only [ss_nil, Nx_nil, Arm_nil, sz_0, sz_1, sz_2, sz_3, sz_4, sz_5, sz_6, sz_7, sz_8, sz_9, sz_10, sz_11, sz_12, cp_2, cp_3, cp_4, cp_5, cp_6, cp_7, cp_12, cp_20, cp_30, cp_38, cp_39, cp_40, en]
    refine ⟨by omega, by omega, by omega, ?_⟩
    rw [row1]
    intro q hq
    (first | rw [Nx_eq] | rw [Arm_eq] | skip); (try simp_all only [ss_nil, Nx_nil, Arm_nil, sz_0, sz_1, sz_2, sz_3, sz_4, sz_5, sz_6, sz_7, sz_8, sz_9, sz_10, sz_11, sz_12, cp_2, cp_3, cp_4, cp_5, cp_6, cp_7, cp_12, cp_20, cp_30, cp_38, cp_39, cp_40])
    refine ⟨by unfold R62; omega, by unfold R62; omega, ?_⟩
    refine for_at (fun i τ st => ∃ o2 : Option PV, τ = [some (.int n), some (.ref q), o2, none] ∧ st = up s q (some (.lst ((List.range (i + 1)).map fun i => .tup (rowV (n + 1) wholeM i))))) ?_ ?_ ⟨_, rfl, rfl⟩
    · rintro i v τ st hi ⟨o2, rfl, rfl⟩
      obtain ⟨i1, rfl⟩ := get_rng hi
      refine ⟨trivial, ?_⟩
      unfold b_whole_lot_1
      have e1 : (1 : Int) + (i : Int) = ((i + 1 : Nat) : Int) := by omega
      have er : rngL 0 (n + 1) = (List.range (n + 1)).map fun (k : Nat) => PV.int (k : Int) := by
        have := rng_map (n := n + 1) (lo := 0)
        simpa using this
      simp_all only [ss_nil, Nx_nil, Arm_nil, sz_0, sz_1, sz_2, sz_3, sz_4, sz_5, sz_6, sz_7, sz_8, sz_9, sz_10, sz_11, sz_12, cp_2, cp_3, cp_4, cp_5, cp_6, cp_7, cp_12, cp_20, cp_30, cp_38, cp_39, cp_40, e1, en]
      refine ⟨by unfold R62; omega, by rw [rng_len]; omega, ?_⟩
      rw [er]
      refine lc_enc (fun j => codV (wholeM (i + 1) j)) (List.range (n + 1)) (fun τ1 st' Q q => by simp_all only [ss_nil, Nx_nil, Arm_nil, sz_0, sz_1, sz_2, sz_3, sz_4, sz_5, sz_6, sz_7, sz_8, sz_9, sz_10, sz_11, sz_12, cp_2, cp_3, cp_4, cp_5, cp_6, cp_7, cp_12, cp_20, cp_30, cp_38, cp_39, cp_40]; exact q) (fun j hj => ⟨_, rfl, fun st' sub K hK => ?_⟩) ?_
      · simp_all only [ss_nil, Nx_nil, Arm_nil, sz_0, sz_1, sz_2, sz_3, sz_4, sz_5, sz_6, sz_7, sz_8, sz_9, sz_10, sz_11, sz_12, cp_2, cp_3, cp_4, cp_5, cp_6, cp_7, cp_12, cp_20, cp_30, cp_38, cp_39, cp_40]
        unfold wholeM at hK
        split
        · rename_i e
          rw [if_pos (.inr (by omega))] at hK
          exact hK
        · rename_i e
          rw [if_neg (by omega)] at hK
          exact hK
      simp_all only [ss_nil, Nx_nil, Arm_nil, sz_0, sz_1, sz_2, sz_3, sz_4, sz_5, sz_6, sz_7, sz_8, sz_9, sz_10, sz_11, sz_12, cp_2, cp_3, cp_4, cp_5, cp_6, cp_7, cp_12, cp_20, cp_30, cp_38, cp_39, cp_40, up_up, List.length_map, List.length_range]
      refine ⟨by omega, _, rfl, ?_⟩
      rw [List.range_succ (n := i + 1), List.map_append]
      rfl
    · rintro τ st ⟨o2, rfl, rfl⟩
      refine ⟨trivial, ?_⟩
      have el : (rngL 1 ((n : Int) + 1 - 1).toNat).length = n := by rw [rng_len]; omega
      rw [el]
      simp_all only [ss_nil, Nx_nil, Arm_nil, sz_0, sz_1, sz_2, sz_3, sz_4, sz_5, sz_6, sz_7, sz_8, sz_9, sz_10, sz_11, sz_12, cp_2, cp_3, cp_4, cp_5, cp_6, cp_7, cp_12, cp_20, cp_30, cp_38, cp_39, cp_40]
      (first | rw [Nx_eq] | rw [Arm_eq] | skip); (try simp_all only [ss_nil, Nx_nil, Arm_nil, sz_0, sz_1, sz_2, sz_3, sz_4, sz_5, sz_6, sz_7, sz_8, sz_9, sz_10, sz_11, sz_12, cp_2, cp_3, cp_4, cp_5, cp_6, cp_7, cp_12, cp_20, cp_30, cp_38, cp_39, cp_40])
      exact ⟨s, sub_new hq, h⟩
  · exact h.elim
/-- a square with one more bound -/
def stepB (M : Mx) (b : Bnd) : Mx := if isTightC (M b.1 b.2.1) (some b.2.2) = true then M else setM M b.1 b.2.1 (some b.2.2)
def withB (M : Mx) (bs : List Bnd) : Mx := bs.foldl stepB M
def SatB (bs : List Bnd) (v : Nat → Rat) : Prop := ∀ b ∈ bs, letsC (some b.2.2) (v b.1 - v b.2.1) = true
def okB (n : Nat) (bs : List Bnd) : Prop := ∀ b ∈ bs, b.1 < n ∧ b.2.1 < n ∧ b.1 ≠ b.2.1
theorem withB_take {M : Mx} {bs : List Bnd} {i : Nat} {b : Bnd} (h : bs[i]? = some b) : withB M (bs.take (i + 1)) = stepB (withB M (bs.take i)) b := by
  unfold withB
  rw [take_one h, List.foldl_append]; rfl
theorem step_sat {n : Nat} {M : Mx} {b : Bnd} {v : Nat → Rat} (h : Sat n M v) (hb : letsC (some b.2.2) (v b.1 - v b.2.1) = true) : Sat n (stepB M b) v := by
  intro i j hi hj
  unfold stepB
  split
  · exact h i j hi hj
  · unfold setM
    split
    · rename_i e; obtain ⟨rfl, rfl⟩ := e; exact hb
    · exact h i j hi hj
theorem step_low {M : Mx} {b : Bnd} {i j : Nat} {c : Int} (h : M i j = some c) : ∃ d, stepB M b i j = some d ∧ d ≤ c := by
  unfold stepB
  split
  · exact ⟨c, h, Int.le_refl _⟩
  · rename_i ht
    unfold setM
    split
    · rename_i e; obtain ⟨rfl, rfl⟩ := e
      refine ⟨_, rfl, ?_⟩
      rw [h] at ht
      have : ¬ c ≤ b.2.2 := by simpa [isTightC] using ht
      omega
    · exact ⟨c, h, Int.le_refl _⟩
theorem step_at {M : Mx} {b : Bnd} : ∃ d, stepB M b b.1 b.2.1 = some d ∧ d ≤ b.2.2 := by
  unfold stepB
  split
  · rename_i ht
    cases e : M b.1 b.2.1 with
    | none => rw [e] at ht; cases ht
    | some c =>
      rw [e] at ht
      exact ⟨c, rfl, by simpa [isTightC] using ht⟩
  · exact ⟨_, by unfold setM; rw [if_pos ⟨rfl, rfl⟩], Int.le_refl _⟩
theorem step_diag {M : Mx} {b : Bnd} (h : b.1 ≠ b.2.1) {k : Nat} : stepB M b k k = M k k := by
  unfold stepB
  split
  · rfl
  · unfold setM
    rw [if_neg fun z => h (z.1.symm.trans z.2)]
theorem fold_low : ∀ (bs : List Bnd) {M : Mx} {i j : Nat} {c : Int}, M i j = some c → ∃ d, withB M bs i j = some d ∧ d ≤ c
  | [], M, i, j, c, h => ⟨c, h, Int.le_refl _⟩
  | b :: r, M, i, j, c, h => by
    obtain ⟨d, hd, h1⟩ := step_low (b := b) h
    obtain ⟨e, he, h2⟩ := fold_low r hd
    exact ⟨e, he, by omega⟩
theorem fold_at : ∀ (bs : List Bnd) {M : Mx} {b : Bnd}, b ∈ bs → ∃ d, withB M bs b.1 b.2.1 = some d ∧ d ≤ b.2.2
  | a :: r, M, b, h => by
    rcases List.mem_cons.mp h with rfl | h
    · obtain ⟨d, hd, h1⟩ := step_at (M := M) (b := b)
      obtain ⟨e, he, h2⟩ := fold_low r hd
      exact ⟨e, he, by omega⟩
    · exact fold_at r h
theorem fold_sat {n : Nat} {v : Nat → Rat} : ∀ (bs : List Bnd) {M : Mx}, Sat n M v → SatB bs v → Sat n (withB M bs) v
  | [], M, h, _ => h
  | b :: r, M, h, hb => fold_sat r (step_sat h (hb b List.mem_cons_self)) fun z hz => hb z (List.mem_cons_of_mem _ hz)
theorem fold_diag {n : Nat} : ∀ (bs : List Bnd) {M : Mx}, okB n bs → ∀ k, withB M bs k k = M k k
  | [], M, _, k => rfl
  | b :: r, M, h, k => by
    have h1 := (h b List.mem_cons_self).2.2
    exact (fold_diag (n := n) r (fun z hz => h z (List.mem_cons_of_mem _ hz)) k).trans (step_diag h1)
/-- what is told of a lot with more bounds -/
structure Kept (n : Nat) (M : Mx) (bs : List Bnd) (b : Bool) : Prop where
  no : b = false → ∀ v, Sat n M v → ¬ SatB bs v
  yes : b = true → (∀ k, k < n → ∀ c, joinC (withB M bs k 0) (withB M bs 0 k) = some c → 1 ≤ c) ∨ ∀ z ∈ bs, isTightC (M z.1 z.2.1) (some z.2.2) = true
def sp_with_bounds : PSpec
  | [lot, .ref q], st, Q, _ => ∃ (n : Nat) (M : Mx) (bs : List Bnd), lot = lotV n M ∧ st q = some (.lst (bs.map bV)) ∧ 1 ≤ n ∧ n ≤ 1000 ∧ (∀ i, i < n → M i i = some 1) ∧ okB n bs ∧
      ∀ (b : Bool) (v : PV), isNon v = !b → Kept n M bs b → Q v st
  | _, _, _, _ => False
def b_with_bounds_1 : Ss :=
  (.cons (.ite (.not (.val (.call "is_tight" sp_is_tight (.cons (.idx (.idx (.var 2) (.var 4)) (.var 5)) (.cons (.var 6) .nil))))) (.cons (.setIx (.idx (.var 2) (.var 4)) (.var 5) (.var 6)) (.cons (.asg (.name 3) (.bl true)) .nil)) .nil) .nil)
def b_with_bounds : Ss :=
  (.cons (.asgLc 2 (.comp false [7] (.name 7) (.val (.var 0)) .nil (.blt .list true (.cons (.var 7) .nil)))) (.cons (.asg (.name 3) (.bl false)) (.cons (.loop (.tup (.cons (.name 4) (.cons (.name 5) (.cons (.name 6) .nil)))) (.val (.var 1)) b_with_bounds_1) (.cons (.ite (.not (.val (.var 3))) (.cons (.ret (.var 0)) .nil) .nil) (.cons (.ite (.not (.val (.call "closed_grid" sp_closed_grid (.cons (.var 2) .nil)))) (.cons (.ret .non) .nil) .nil) (.cons (.ret (.blt .tuple false (.cons (.comp false [7] (.name 7) (.val (.var 2)) .nil (.blt .tuple true (.cons (.var 7) .nil))) .nil))) .nil))))))
def n_with_bounds : List Str := ["lot", "bounds", "grid", "changed", "i", "j", "code", "row"]
theorem w_with_bounds : ∀ vs s Q X, vs.length = 2 → sp_with_bounds vs s Q X → wpFn n_with_bounds.length b_with_bounds vs s Q X := by
  intro vs s Q X hl h
  unfold sp_with_bounds at h
  split at h
  · rename_i lot q
    rw [fn_eq]
    unfold b_with_bounds n_with_bounds
    obtain ⟨n, M, bs, rfl, hq, n1, n2, hdg, hok, h⟩ := h
    have sz : 10000 ≤ sizeLine := by decide
    have lv : lotV n M = .tup ((List.range n).map fun i => .tup (rowV n M i)) := rfl
    simp_all only [ss_nil, Nx_nil, Arm_nil, sz_0, sz_1, sz_2, sz_3, sz_4, sz_5, sz_6, sz_7, sz_8, sz_9, sz_10, sz_11, sz_12, cp_2, cp_3, cp_4, cp_5, cp_6, cp_7, cp_12, cp_20, cp_30, cp_38, cp_39, cp_40, lv]
    refine lc_new (fun i => rowV n M i) (fun τ1 st' Q q => by simp_all only [ss_nil, Nx_nil, Arm_nil, sz_0, sz_1, sz_2, sz_3, sz_4, sz_5, sz_6, sz_7, sz_8, sz_9, sz_10, sz_11, sz_12, cp_2, cp_3, cp_4, cp_5, cp_6, cp_7, cp_12, cp_20, cp_30, cp_38, cp_39, cp_40]; exact q) (List.range n) s [] (fun i hi => ⟨_, rfl, fun st' K sub hK => ?_⟩) fun ps s1 hpl hs1 hps hnd => ?_
    · simp_all only [ss_nil, Nx_nil, Arm_nil, sz_0, sz_1, sz_2, sz_3, sz_4, sz_5, sz_6, sz_7, sz_8, sz_9, sz_10, sz_11, sz_12, cp_2, cp_3, cp_4, cp_5, cp_6, cp_7, cp_12, cp_20, cp_30, cp_38, cp_39, cp_40]
      intro p hp
      exact hK p hp
    rw [List.length_range] at hpl
    rw [List.nil_append]
    have hr0 : RowsAt s1 ps n M := ⟨hpl, fun i p hp => by
      have hi : i < n := by
        obtain ⟨h1, _⟩ := List.getElem?_eq_some_iff.mp hp
        omega
      exact (hps i p i hp (List.getElem?_range hi)).1⟩
    have hfree : ∀ p ∈ ps, s p = none := fun p hp => by
      obtain ⟨i, hi, e⟩ := List.getElem_of_mem hp
      exact (hps i p i (by rw [List.getElem?_eq_getElem hi, e]) (List.getElem?_range (by omega))).2
    have hsub : ∀ st : Store, (∀ a, a ∉ ps → st a = s1 a) → Sub s st := fun st hfr a c ha => by
      have na : a ∉ ps := fun hm => by rw [hfree a hm] at ha; cases ha
      rw [hfr a na]
      exact hs1 a c ha
    have pat : ∀ i, i < n → ∃ p, ps[i]? = some p ∧ atI (ps.map PV.ref) (i : Int) = some (.ref p) ∧ p ∈ ps := fun i hi => by
      have e : ps[i]? = some (ps[i]'(by omega)) := List.getElem?_eq_getElem (by omega)
      exact ⟨_, e, by rw [atI_nat, List.getElem?_map, e]; rfl, List.getElem_mem _⟩
    have hqn : q ∉ ps := fun hm => by rw [hfree q hm] at hq; cases hq
    simp_all only [ss_nil, Nx_nil, Arm_nil, sz_0, sz_1, sz_2, sz_3, sz_4, sz_5, sz_6, sz_7, sz_8, sz_9, sz_10, sz_11, sz_12, cp_2, cp_3, cp_4, cp_5, cp_6, cp_7, cp_12, cp_20, cp_30, cp_38, cp_39, cp_40]
    (first | rw [Nx_eq] | rw [Arm_eq] | skip); (try simp_all only [ss_nil, Nx_nil, Arm_nil, sz_0, sz_1, sz_2, sz_3, sz_4, sz_5, sz_6, sz_7, sz_8, sz_9, sz_10, sz_11, sz_12, cp_2, cp_3, cp_4, cp_5, cp_6, cp_7, cp_12, cp_20, cp_30, cp_38, cp_39, cp_40])
    have hq1 := hs1 _ _ hq
    (first | rw [Nx_eq] | rw [Arm_eq] | skip); (try simp_all only [ss_nil, Nx_nil, Arm_nil, sz_0, sz_1, sz_2, sz_3, sz_4, sz_5, sz_6, sz_7, sz_8, sz_9, sz_10, sz_11, sz_12, cp_2, cp_3, cp_4, cp_5, cp_6, cp_7, cp_12, cp_20, cp_30, cp_38, cp_39, cp_40, hq1])
    refine for_at (fun k τ st => ∃ (ch : Bool) (o4 o5 o6 : Option PV), τ = [some (.tup ((List.range n).map fun i => .tup (rowV n M i))), some (.ref q), some (.lst (ps.map .ref)), some (.bl ch), o4, o5, o6, none] ∧ RowsAt st ps n (withB M (bs.take k)) ∧ (∀ a, a ∉ ps → st a = s1 a) ∧
        (ch = false → withB M (bs.take k) = M ∧ ∀ z ∈ bs.take k, isTightC (M z.1 z.2.1) (some z.2.2) = true)) ?_ ?_ ⟨false, _, _, _, rfl, hr0, fun _ _ => rfl, fun _ => ⟨rfl, fun z hz => by simp at hz⟩⟩
    · rintro k v τ st hi ⟨ch, o4, o5, o6, rfl, hr, hfr, hch⟩
      obtain ⟨b, rfl, hb⟩ := get_map hi
      obtain ⟨b1, b2, b3⟩ := hok b (mem_at hb)
      obtain ⟨p, ep, ap, mp⟩ := pat b.1 b1
      refine ⟨by rw [hfr q hqn]; exact hq1, ?_⟩
      have wt := withB_take (M := M) hb
      revert hr hch wt
      generalize withB M (bs.take k) = M1
      intro hr hch wt
      have sp := hr.2 b.1 p ep
      have rp := row_at (M := M1) (i := b.1) b2
      have ixj : ixN (rowV n M1 b.1).length (b.2.1 : Int) = some b.2.1 := by rw [row_len]; exact ixN_nat b2
      unfold b_with_bounds_1 bV
      simp_all only [ss_nil, Nx_nil, Arm_nil, sz_0, sz_1, sz_2, sz_3, sz_4, sz_5, sz_6, sz_7, sz_8, sz_9, sz_10, sz_11, sz_12, cp_2, cp_3, cp_4, cp_5, cp_6, cp_7, cp_12, cp_20, cp_30, cp_38, cp_39, cp_40, ap, sp, rp]
      refine callS_of ⟨M1 b.1 b.2.1, some b.2.2, rfl, rfl, ?_⟩
      cases ht : isTightC (M1 b.1 b.2.1) (some b.2.2) with
      | true =>
        simp_all only [ss_nil, Nx_nil, Arm_nil, sz_0, sz_1, sz_2, sz_3, sz_4, sz_5, sz_6, sz_7, sz_8, sz_9, sz_10, sz_11, sz_12, cp_2, cp_3, cp_4, cp_5, cp_6, cp_7, cp_12, cp_20, cp_30, cp_38, cp_39, cp_40]
        refine ⟨ch, _, _, _, rfl, ?_, hfr, fun e => ?_⟩
        · rw [wt]; unfold stepB; rw [if_pos ht]; exact hr
        · obtain ⟨h1, h2⟩ := hch e
          refine ⟨by rw [wt]; unfold stepB; rw [if_pos ht]; exact h1, fun z hz => ?_⟩
          rw [take_one hb] at hz
          rcases List.mem_append.mp hz with hz | hz
          · exact h2 z hz
          · rw [List.mem_singleton.mp hz, ← h1]; exact ht
      | false =>
        simp_all only [ss_nil, Nx_nil, Arm_nil, sz_0, sz_1, sz_2, sz_3, sz_4, sz_5, sz_6, sz_7, sz_8, sz_9, sz_10, sz_11, sz_12, cp_2, cp_3, cp_4, cp_5, cp_6, cp_7, cp_12, cp_20, cp_30, cp_38, cp_39, cp_40]
        (first | rw [Nx_eq] | rw [Arm_eq] | skip); (try simp_all only [ss_nil, Nx_nil, Arm_nil, sz_0, sz_1, sz_2, sz_3, sz_4, sz_5, sz_6, sz_7, sz_8, sz_9, sz_10, sz_11, sz_12, cp_2, cp_3, cp_4, cp_5, cp_6, cp_7, cp_12, cp_20, cp_30, cp_38, cp_39, cp_40, ap, sp, ixj])
        (first | rw [Nx_eq] | rw [Arm_eq] | skip); (try simp_all only [ss_nil, Nx_nil, Arm_nil, sz_0, sz_1, sz_2, sz_3, sz_4, sz_5, sz_6, sz_7, sz_8, sz_9, sz_10, sz_11, sz_12, cp_2, cp_3, cp_4, cp_5, cp_6, cp_7, cp_12, cp_20, cp_30, cp_38, cp_39, cp_40])
        refine ⟨true, _, _, _, rfl, ?_, fun a ha => ?_, fun e => (nomatch e)⟩
        · rw [wt]; unfold stepB; rw [if_neg (by rw [ht]; decide)]
          exact rows_set (x := some b.2.2) hr hnd ep
        · rw [up_ne (fun z => ha (by rw [z]; exact mp))]
          exact hfr a ha
    · rintro τ st ⟨ch, o4, o5, o6, rfl, hr, hfr, hch⟩
      refine ⟨by rw [hfr q hqn]; exact hq1, ?_⟩
      rw [List.length_map, List.take_length] at hr hch
      have dg : ∀ i, i < n → withB M bs i i = some 1 := fun i hi => by rw [fold_diag (n := n) bs hok i]; exact hdg i hi
      simp_all only [ss_nil, Nx_nil, Arm_nil, sz_0, sz_1, sz_2, sz_3, sz_4, sz_5, sz_6, sz_7, sz_8, sz_9, sz_10, sz_11, sz_12, cp_2, cp_3, cp_4, cp_5, cp_6, cp_7, cp_12, cp_20, cp_30, cp_38, cp_39, cp_40]
      cases ch with
      | false =>
        (first | rw [Nx_eq] | rw [Arm_eq] | skip); (try simp_all only [ss_nil, Nx_nil, Arm_nil, sz_0, sz_1, sz_2, sz_3, sz_4, sz_5, sz_6, sz_7, sz_8, sz_9, sz_10, sz_11, sz_12, cp_2, cp_3, cp_4, cp_5, cp_6, cp_7, cp_12, cp_20, cp_30, cp_38, cp_39, cp_40])
        (first | rw [Nx_eq] | rw [Arm_eq] | skip); (try simp_all only [ss_nil, Nx_nil, Arm_nil, sz_0, sz_1, sz_2, sz_3, sz_4, sz_5, sz_6, sz_7, sz_8, sz_9, sz_10, sz_11, sz_12, cp_2, cp_3, cp_4, cp_5, cp_6, cp_7, cp_12, cp_20, cp_30, cp_38, cp_39, cp_40])
        exact ⟨s, hsub st hfr, h true _ rfl ⟨fun e => (nomatch e), fun _ => .inr (hch rfl).2⟩⟩
      | true =>
        (first | rw [Nx_eq] | rw [Arm_eq] | skip); (try simp_all only [ss_nil, Nx_nil, Arm_nil, sz_0, sz_1, sz_2, sz_3, sz_4, sz_5, sz_6, sz_7, sz_8, sz_9, sz_10, sz_11, sz_12, cp_2, cp_3, cp_4, cp_5, cp_6, cp_7, cp_12, cp_20, cp_30, cp_38, cp_39, cp_40])
        (first | rw [Nx_eq] | rw [Arm_eq] | skip); (try simp_all only [ss_nil, Nx_nil, Arm_nil, sz_0, sz_1, sz_2, sz_3, sz_4, sz_5, sz_6, sz_7, sz_8, sz_9, sz_10, sz_11, sz_12, cp_2, cp_3, cp_4, cp_5, cp_6, cp_7, cp_12, cp_20, cp_30, cp_38, cp_39, cp_40])
        refine callS_of ⟨ps, withB M bs, n, rfl, hnd, n1, n2, dg, hr, fun b M' st' hr' hfr' hc => ?_⟩
        have hsub' : Sub s st' := hsub st' fun a ha => (hfr' a ha).trans (hfr a ha)
        cases b with
        | false =>
          simp_all only [ss_nil, Nx_nil, Arm_nil, sz_0, sz_1, sz_2, sz_3, sz_4, sz_5, sz_6, sz_7, sz_8, sz_9, sz_10, sz_11, sz_12, cp_2, cp_3, cp_4, cp_5, cp_6, cp_7, cp_12, cp_20, cp_30, cp_38, cp_39, cp_40]
          (first | rw [Nx_eq] | rw [Arm_eq] | skip); (try simp_all only [ss_nil, Nx_nil, Arm_nil, sz_0, sz_1, sz_2, sz_3, sz_4, sz_5, sz_6, sz_7, sz_8, sz_9, sz_10, sz_11, sz_12, cp_2, cp_3, cp_4, cp_5, cp_6, cp_7, cp_12, cp_20, cp_30, cp_38, cp_39, cp_40])
          exact ⟨s, hsub', h false .non rfl ⟨fun _ v hv hb => hc.no rfl v (fold_sat bs hv hb), fun e => (nomatch e)⟩⟩
        | true =>
          simp_all only [ss_nil, Nx_nil, Arm_nil, sz_0, sz_1, sz_2, sz_3, sz_4, sz_5, sz_6, sz_7, sz_8, sz_9, sz_10, sz_11, sz_12, cp_2, cp_3, cp_4, cp_5, cp_6, cp_7, cp_12, cp_20, cp_30, cp_38, cp_39, cp_40]
          (first | rw [Nx_eq] | rw [Arm_eq] | skip); (try simp_all only [ss_nil, Nx_nil, Arm_nil, sz_0, sz_1, sz_2, sz_3, sz_4, sz_5, sz_6, sz_7, sz_8, sz_9, sz_10, sz_11, sz_12, cp_2, cp_3, cp_4, cp_5, cp_6, cp_7, cp_12, cp_20, cp_30, cp_38, cp_39, cp_40])
          refine lc_enc (fun p => .tup (match st' p with | some (.lst xs) => xs | _ => [])) ps (fun τ1 st' Q q => by simp_all only [ss_nil, Nx_nil, Arm_nil, sz_0, sz_1, sz_2, sz_3, sz_4, sz_5, sz_6, sz_7, sz_8, sz_9, sz_10, sz_11, sz_12, cp_2, cp_3, cp_4, cp_5, cp_6, cp_7, cp_12, cp_20, cp_30, cp_38, cp_39, cp_40]; exact q) (fun p hp => ⟨_, rfl, fun st2 sub K hK => ?_⟩) ?_
          · obtain ⟨i, hi, e⟩ := List.getElem_of_mem hp
            have sp := hr'.2 i p (by rw [List.getElem?_eq_getElem hi, e])
            have sp2 := sub _ _ sp
            rw [sp] at hK
            simp_all only [ss_nil, Nx_nil, Arm_nil, sz_0, sz_1, sz_2, sz_3, sz_4, sz_5, sz_6, sz_7, sz_8, sz_9, sz_10, sz_11, sz_12, cp_2, cp_3, cp_4, cp_5, cp_6, cp_7, cp_12, cp_20, cp_30, cp_38, cp_39, cp_40, sp2]
            exact hK
          simp_all only [ss_nil, Nx_nil, Arm_nil, sz_0, sz_1, sz_2, sz_3, sz_4, sz_5, sz_6, sz_7, sz_8, sz_9, sz_10, sz_11, sz_12, cp_2, cp_3, cp_4, cp_5, cp_6, cp_7, cp_12, cp_20, cp_30, cp_38, cp_39, cp_40]
          exact ⟨s, hsub', h true _ rfl ⟨fun e => (nomatch e), fun _ => .inl (hc.yes rfl)⟩⟩
  · exact h.elim
end TK

set_option maxRecDepth 100000
set_option maxHeartbeats 4000000
namespace TK
open PySem PySem.Spec PyProof.Rows L2
/-! ### tests as bounds -/
def bOf (t : Tt) : List Bnd := match t.s with
  | .lt => [(t.c, 0, 2 * t.n)]
  | .le => [(t.c, 0, 2 * t.n + 1)]
  | .eq => [(t.c, 0, 2 * t.n + 1), (0, t.c, 2 * (-(t.n : Int)) + 1)]
  | .ge => [(0, t.c, 2 * (-(t.n : Int)) + 1)]
  | .gt => [(0, t.c, 2 * (-(t.n : Int)))]
theorem sg5 (s : Sg) : (sgS s = ("<" : Str) ↔ s = .lt) ∧ (sgS s = ("<=" : Str) ↔ s = .le) ∧ (sgS s = ("=" : Str) ↔ s = .eq) ∧ (sgS s = (">=" : Str) ↔ s = .ge) ∧ (sgS s = (">" : Str) ↔ s = .gt) := by
  cases s <;> decide
def sp_test_bounds : PSpec
  | [a], st, Q, _ => ∃ t : Tt, a = tV t ∧ t.n ≤ 1000 ∧ Q (.tup ((bOf t).map bV)) st
  | _, _, _, _ => False
def b_test_bounds : Ss :=
  (.cons (.asg (.tup (.cons (.name 2) (.cons (.name 3) (.cons (.name 4) .nil)))) (.var 0)) (.cons (.asg (.name 1) (.lst true .nil)) (.cons (.ite (.cmp .Eq (.var 3) (.str "<")) (.cons (.expr (.meth .append (.var 1) (.cons (.tup (.cons (.var 2) (.cons (.int 0) (.cons (.call "below" sp_below (.cons (.var 4) .nil)) .nil)))) .nil))) .nil) .nil) (.cons (.ite (.bools .Or (.cons (.cmp .Eq (.var 3) (.str "<=")) (.cons (.cmp .Eq (.var 3) (.str "=")) .nil))) (.cons (.expr (.meth .append (.var 1) (.cons (.tup (.cons (.var 2) (.cons (.int 0) (.cons (.call "at_most" sp_at_most (.cons (.var 4) .nil)) .nil)))) .nil))) .nil) .nil) (.cons (.ite (.bools .Or (.cons (.cmp .Eq (.var 3) (.str ">=")) (.cons (.cmp .Eq (.var 3) (.str "=")) .nil))) (.cons (.expr (.meth .append (.var 1) (.cons (.tup (.cons (.int 0) (.cons (.var 2) (.cons (.call "at_most" sp_at_most (.cons (.neg (.var 4)) .nil)) .nil)))) .nil))) .nil) .nil) (.cons (.ite (.cmp .Eq (.var 3) (.str ">")) (.cons (.expr (.meth .append (.var 1) (.cons (.tup (.cons (.int 0) (.cons (.var 2) (.cons (.call "below" sp_below (.cons (.neg (.var 4)) .nil)) .nil)))) .nil))) .nil) .nil) (.cons (.ret (.blt .tuple false (.cons (.var 1) .nil))) .nil)))))))
def n_test_bounds : List Str := ["test", "bounds", "clock", "sign", "number"]
theorem w_test_bounds : ∀ vs s Q X, vs.length = 1 → sp_test_bounds vs s Q X → wpFn n_test_bounds.length b_test_bounds vs s Q X := by
  intro vs s Q X hl h
  unfold sp_test_bounds at h
  split at h
  · rw [fn_eq]
    unfold b_test_bounds n_test_bounds
    obtain ⟨⟨c, sg, n⟩, rfl, hn, h⟩ := h
    obtain ⟨g1, g2, g3, g4, g5⟩ := sg5 sg
    have sz : 10000 ≤ sizeLine := by decide
    simp_all only [ss_nil, Nx_nil, Arm_nil, sz_0, sz_1, sz_2, sz_3, sz_4, sz_5, sz_6, sz_7, sz_8, sz_9, sz_10, sz_11, sz_12, cp_2, cp_3, cp_4, cp_5, cp_6, cp_7, cp_12, cp_20, cp_30, cp_38, cp_39, cp_40, tV]
    (first | rw [Nx_eq] | rw [Arm_eq] | skip); (try simp_all only [ss_nil, Nx_nil, Arm_nil, sz_0, sz_1, sz_2, sz_3, sz_4, sz_5, sz_6, sz_7, sz_8, sz_9, sz_10, sz_11, sz_12, cp_2, cp_3, cp_4, cp_5, cp_6, cp_7, cp_12, cp_20, cp_30, cp_38, cp_39, cp_40])
    intro q hq
    unfold bOf at h
    cases sg with
    | lt =>
      (first | rw [Nx_eq] | rw [Arm_eq] | skip); (try simp_all only [ss_nil, Nx_nil, Arm_nil, sz_0, sz_1, sz_2, sz_3, sz_4, sz_5, sz_6, sz_7, sz_8, sz_9, sz_10, sz_11, sz_12, cp_2, cp_3, cp_4, cp_5, cp_6, cp_7, cp_12, cp_20, cp_30, cp_38, cp_39, cp_40, g1])
      (first | rw [Nx_eq] | rw [Arm_eq] | skip); (try simp_all only [ss_nil, Nx_nil, Arm_nil, sz_0, sz_1, sz_2, sz_3, sz_4, sz_5, sz_6, sz_7, sz_8, sz_9, sz_10, sz_11, sz_12, cp_2, cp_3, cp_4, cp_5, cp_6, cp_7, cp_12, cp_20, cp_30, cp_38, cp_39, cp_40])
      refine callS_of ?_
      unfold sp_below
      simp_all only [ss_nil, Nx_nil, Arm_nil, sz_0, sz_1, sz_2, sz_3, sz_4, sz_5, sz_6, sz_7, sz_8, sz_9, sz_10, sz_11, sz_12, cp_2, cp_3, cp_4, cp_5, cp_6, cp_7, cp_12, cp_20, cp_30, cp_38, cp_39, cp_40, up_up]
      refine ⟨by decide, ?_⟩
      (first | rw [Nx_eq] | rw [Arm_eq] | skip); (try simp_all only [ss_nil, Nx_nil, Arm_nil, sz_0, sz_1, sz_2, sz_3, sz_4, sz_5, sz_6, sz_7, sz_8, sz_9, sz_10, sz_11, sz_12, cp_2, cp_3, cp_4, cp_5, cp_6, cp_7, cp_12, cp_20, cp_30, cp_38, cp_39, cp_40, g2, g3])
      (first | rw [Nx_eq] | rw [Arm_eq] | skip); (try simp_all only [ss_nil, Nx_nil, Arm_nil, sz_0, sz_1, sz_2, sz_3, sz_4, sz_5, sz_6, sz_7, sz_8, sz_9, sz_10, sz_11, sz_12, cp_2, cp_3, cp_4, cp_5, cp_6, cp_7, cp_12, cp_20, cp_30, cp_38, cp_39, cp_40, g3, g4])
      (first | rw [Nx_eq] | rw [Arm_eq] | skip); (try simp_all only [ss_nil, Nx_nil, Arm_nil, sz_0, sz_1, sz_2, sz_3, sz_4, sz_5, sz_6, sz_7, sz_8, sz_9, sz_10, sz_11, sz_12, cp_2, cp_3, cp_4, cp_5, cp_6, cp_7, cp_12, cp_20, cp_30, cp_38, cp_39, cp_40, g5])
      (first | rw [Nx_eq] | rw [Arm_eq] | skip); (try simp_all only [ss_nil, Nx_nil, Arm_nil, sz_0, sz_1, sz_2, sz_3, sz_4, sz_5, sz_6, sz_7, sz_8, sz_9, sz_10, sz_11, sz_12, cp_2, cp_3, cp_4, cp_5, cp_6, cp_7, cp_12, cp_20, cp_30, cp_38, cp_39, cp_40])
      exact ⟨s, sub_new hq, h⟩
    | le =>
      (first | rw [Nx_eq] | rw [Arm_eq] | skip); (try simp_all only [ss_nil, Nx_nil, Arm_nil, sz_0, sz_1, sz_2, sz_3, sz_4, sz_5, sz_6, sz_7, sz_8, sz_9, sz_10, sz_11, sz_12, cp_2, cp_3, cp_4, cp_5, cp_6, cp_7, cp_12, cp_20, cp_30, cp_38, cp_39, cp_40, g1])
      (first | rw [Nx_eq] | rw [Arm_eq] | skip); (try simp_all only [ss_nil, Nx_nil, Arm_nil, sz_0, sz_1, sz_2, sz_3, sz_4, sz_5, sz_6, sz_7, sz_8, sz_9, sz_10, sz_11, sz_12, cp_2, cp_3, cp_4, cp_5, cp_6, cp_7, cp_12, cp_20, cp_30, cp_38, cp_39, cp_40, g2])
      (first | rw [Nx_eq] | rw [Arm_eq] | skip); (try simp_all only [ss_nil, Nx_nil, Arm_nil, sz_0, sz_1, sz_2, sz_3, sz_4, sz_5, sz_6, sz_7, sz_8, sz_9, sz_10, sz_11, sz_12, cp_2, cp_3, cp_4, cp_5, cp_6, cp_7, cp_12, cp_20, cp_30, cp_38, cp_39, cp_40])
      refine callS_of ?_
      unfold sp_at_most
      simp_all only [ss_nil, Nx_nil, Arm_nil, sz_0, sz_1, sz_2, sz_3, sz_4, sz_5, sz_6, sz_7, sz_8, sz_9, sz_10, sz_11, sz_12, cp_2, cp_3, cp_4, cp_5, cp_6, cp_7, cp_12, cp_20, cp_30, cp_38, cp_39, cp_40, up_up]
      refine ⟨by decide, ?_⟩
      (first | rw [Nx_eq] | rw [Arm_eq] | skip); (try simp_all only [ss_nil, Nx_nil, Arm_nil, sz_0, sz_1, sz_2, sz_3, sz_4, sz_5, sz_6, sz_7, sz_8, sz_9, sz_10, sz_11, sz_12, cp_2, cp_3, cp_4, cp_5, cp_6, cp_7, cp_12, cp_20, cp_30, cp_38, cp_39, cp_40, g3, g4])
      (first | rw [Nx_eq] | rw [Arm_eq] | skip); (try simp_all only [ss_nil, Nx_nil, Arm_nil, sz_0, sz_1, sz_2, sz_3, sz_4, sz_5, sz_6, sz_7, sz_8, sz_9, sz_10, sz_11, sz_12, cp_2, cp_3, cp_4, cp_5, cp_6, cp_7, cp_12, cp_20, cp_30, cp_38, cp_39, cp_40, g5])
      (first | rw [Nx_eq] | rw [Arm_eq] | skip); (try simp_all only [ss_nil, Nx_nil, Arm_nil, sz_0, sz_1, sz_2, sz_3, sz_4, sz_5, sz_6, sz_7, sz_8, sz_9, sz_10, sz_11, sz_12, cp_2, cp_3, cp_4, cp_5, cp_6, cp_7, cp_12, cp_20, cp_30, cp_38, cp_39, cp_40])
      exact ⟨s, sub_new hq, h⟩
    | eq =>
      (first | rw [Nx_eq] | rw [Arm_eq] | skip); (try simp_all only [ss_nil, Nx_nil, Arm_nil, sz_0, sz_1, sz_2, sz_3, sz_4, sz_5, sz_6, sz_7, sz_8, sz_9, sz_10, sz_11, sz_12, cp_2, cp_3, cp_4, cp_5, cp_6, cp_7, cp_12, cp_20, cp_30, cp_38, cp_39, cp_40, g1])
      (first | rw [Nx_eq] | rw [Arm_eq] | skip); (try simp_all only [ss_nil, Nx_nil, Arm_nil, sz_0, sz_1, sz_2, sz_3, sz_4, sz_5, sz_6, sz_7, sz_8, sz_9, sz_10, sz_11, sz_12, cp_2, cp_3, cp_4, cp_5, cp_6, cp_7, cp_12, cp_20, cp_30, cp_38, cp_39, cp_40, g2, g3])
      (first | rw [Nx_eq] | rw [Arm_eq] | skip); (try simp_all only [ss_nil, Nx_nil, Arm_nil, sz_0, sz_1, sz_2, sz_3, sz_4, sz_5, sz_6, sz_7, sz_8, sz_9, sz_10, sz_11, sz_12, cp_2, cp_3, cp_4, cp_5, cp_6, cp_7, cp_12, cp_20, cp_30, cp_38, cp_39, cp_40])
      refine callS_of ?_
      unfold sp_at_most
      simp_all only [ss_nil, Nx_nil, Arm_nil, sz_0, sz_1, sz_2, sz_3, sz_4, sz_5, sz_6, sz_7, sz_8, sz_9, sz_10, sz_11, sz_12, cp_2, cp_3, cp_4, cp_5, cp_6, cp_7, cp_12, cp_20, cp_30, cp_38, cp_39, cp_40, up_up]
      refine ⟨by decide, ?_⟩
      (first | rw [Nx_eq] | rw [Arm_eq] | skip); (try simp_all only [ss_nil, Nx_nil, Arm_nil, sz_0, sz_1, sz_2, sz_3, sz_4, sz_5, sz_6, sz_7, sz_8, sz_9, sz_10, sz_11, sz_12, cp_2, cp_3, cp_4, cp_5, cp_6, cp_7, cp_12, cp_20, cp_30, cp_38, cp_39, cp_40, g3, g4])
      (first | rw [Nx_eq] | rw [Arm_eq] | skip); (try simp_all only [ss_nil, Nx_nil, Arm_nil, sz_0, sz_1, sz_2, sz_3, sz_4, sz_5, sz_6, sz_7, sz_8, sz_9, sz_10, sz_11, sz_12, cp_2, cp_3, cp_4, cp_5, cp_6, cp_7, cp_12, cp_20, cp_30, cp_38, cp_39, cp_40])
      refine callS_of ?_
      simp_all only [ss_nil, Nx_nil, Arm_nil, sz_0, sz_1, sz_2, sz_3, sz_4, sz_5, sz_6, sz_7, sz_8, sz_9, sz_10, sz_11, sz_12, cp_2, cp_3, cp_4, cp_5, cp_6, cp_7, cp_12, cp_20, cp_30, cp_38, cp_39, cp_40, up_up]
      refine ⟨by decide, ?_⟩
      (first | rw [Nx_eq] | rw [Arm_eq] | skip); (try simp_all only [ss_nil, Nx_nil, Arm_nil, sz_0, sz_1, sz_2, sz_3, sz_4, sz_5, sz_6, sz_7, sz_8, sz_9, sz_10, sz_11, sz_12, cp_2, cp_3, cp_4, cp_5, cp_6, cp_7, cp_12, cp_20, cp_30, cp_38, cp_39, cp_40, g5])
      (first | rw [Nx_eq] | rw [Arm_eq] | skip); (try simp_all only [ss_nil, Nx_nil, Arm_nil, sz_0, sz_1, sz_2, sz_3, sz_4, sz_5, sz_6, sz_7, sz_8, sz_9, sz_10, sz_11, sz_12, cp_2, cp_3, cp_4, cp_5, cp_6, cp_7, cp_12, cp_20, cp_30, cp_38, cp_39, cp_40])
      exact ⟨s, sub_new hq, h⟩
    | ge =>
      (first | rw [Nx_eq] | rw [Arm_eq] | skip); (try simp_all only [ss_nil, Nx_nil, Arm_nil, sz_0, sz_1, sz_2, sz_3, sz_4, sz_5, sz_6, sz_7, sz_8, sz_9, sz_10, sz_11, sz_12, cp_2, cp_3, cp_4, cp_5, cp_6, cp_7, cp_12, cp_20, cp_30, cp_38, cp_39, cp_40, g1])
      (first | rw [Nx_eq] | rw [Arm_eq] | skip); (try simp_all only [ss_nil, Nx_nil, Arm_nil, sz_0, sz_1, sz_2, sz_3, sz_4, sz_5, sz_6, sz_7, sz_8, sz_9, sz_10, sz_11, sz_12, cp_2, cp_3, cp_4, cp_5, cp_6, cp_7, cp_12, cp_20, cp_30, cp_38, cp_39, cp_40, g2, g3])
      (first | rw [Nx_eq] | rw [Arm_eq] | skip); (try simp_all only [ss_nil, Nx_nil, Arm_nil, sz_0, sz_1, sz_2, sz_3, sz_4, sz_5, sz_6, sz_7, sz_8, sz_9, sz_10, sz_11, sz_12, cp_2, cp_3, cp_4, cp_5, cp_6, cp_7, cp_12, cp_20, cp_30, cp_38, cp_39, cp_40, g3, g4])
      (first | rw [Nx_eq] | rw [Arm_eq] | skip); (try simp_all only [ss_nil, Nx_nil, Arm_nil, sz_0, sz_1, sz_2, sz_3, sz_4, sz_5, sz_6, sz_7, sz_8, sz_9, sz_10, sz_11, sz_12, cp_2, cp_3, cp_4, cp_5, cp_6, cp_7, cp_12, cp_20, cp_30, cp_38, cp_39, cp_40])
      refine callS_of ?_
      unfold sp_at_most
      simp_all only [ss_nil, Nx_nil, Arm_nil, sz_0, sz_1, sz_2, sz_3, sz_4, sz_5, sz_6, sz_7, sz_8, sz_9, sz_10, sz_11, sz_12, cp_2, cp_3, cp_4, cp_5, cp_6, cp_7, cp_12, cp_20, cp_30, cp_38, cp_39, cp_40, up_up]
      refine ⟨by decide, ?_⟩
      (first | rw [Nx_eq] | rw [Arm_eq] | skip); (try simp_all only [ss_nil, Nx_nil, Arm_nil, sz_0, sz_1, sz_2, sz_3, sz_4, sz_5, sz_6, sz_7, sz_8, sz_9, sz_10, sz_11, sz_12, cp_2, cp_3, cp_4, cp_5, cp_6, cp_7, cp_12, cp_20, cp_30, cp_38, cp_39, cp_40, g5])
      (first | rw [Nx_eq] | rw [Arm_eq] | skip); (try simp_all only [ss_nil, Nx_nil, Arm_nil, sz_0, sz_1, sz_2, sz_3, sz_4, sz_5, sz_6, sz_7, sz_8, sz_9, sz_10, sz_11, sz_12, cp_2, cp_3, cp_4, cp_5, cp_6, cp_7, cp_12, cp_20, cp_30, cp_38, cp_39, cp_40])
      exact ⟨s, sub_new hq, h⟩
    | gt =>
      (first | rw [Nx_eq] | rw [Arm_eq] | skip); (try simp_all only [ss_nil, Nx_nil, Arm_nil, sz_0, sz_1, sz_2, sz_3, sz_4, sz_5, sz_6, sz_7, sz_8, sz_9, sz_10, sz_11, sz_12, cp_2, cp_3, cp_4, cp_5, cp_6, cp_7, cp_12, cp_20, cp_30, cp_38, cp_39, cp_40, g1])
      (first | rw [Nx_eq] | rw [Arm_eq] | skip); (try simp_all only [ss_nil, Nx_nil, Arm_nil, sz_0, sz_1, sz_2, sz_3, sz_4, sz_5, sz_6, sz_7, sz_8, sz_9, sz_10, sz_11, sz_12, cp_2, cp_3, cp_4, cp_5, cp_6, cp_7, cp_12, cp_20, cp_30, cp_38, cp_39, cp_40, g2, g3])
      (first | rw [Nx_eq] | rw [Arm_eq] | skip); (try simp_all only [ss_nil, Nx_nil, Arm_nil, sz_0, sz_1, sz_2, sz_3, sz_4, sz_5, sz_6, sz_7, sz_8, sz_9, sz_10, sz_11, sz_12, cp_2, cp_3, cp_4, cp_5, cp_6, cp_7, cp_12, cp_20, cp_30, cp_38, cp_39, cp_40, g3, g4])
      (first | rw [Nx_eq] | rw [Arm_eq] | skip); (try simp_all only [ss_nil, Nx_nil, Arm_nil, sz_0, sz_1, sz_2, sz_3, sz_4, sz_5, sz_6, sz_7, sz_8, sz_9, sz_10, sz_11, sz_12, cp_2, cp_3, cp_4, cp_5, cp_6, cp_7, cp_12, cp_20, cp_30, cp_38, cp_39, cp_40, g5])
      (first | rw [Nx_eq] | rw [Arm_eq] | skip); (try simp_all only [ss_nil, Nx_nil, Arm_nil, sz_0, sz_1, sz_2, sz_3, sz_4, sz_5, sz_6, sz_7, sz_8, sz_9, sz_10, sz_11, sz_12, cp_2, cp_3, cp_4, cp_5, cp_6, cp_7, cp_12, cp_20, cp_30, cp_38, cp_39, cp_40])
      refine callS_of ?_
      unfold sp_below
      simp_all only [ss_nil, Nx_nil, Arm_nil, sz_0, sz_1, sz_2, sz_3, sz_4, sz_5, sz_6, sz_7, sz_8, sz_9, sz_10, sz_11, sz_12, cp_2, cp_3, cp_4, cp_5, cp_6, cp_7, cp_12, cp_20, cp_30, cp_38, cp_39, cp_40, up_up]
      refine ⟨by decide, ?_⟩
      (first | rw [Nx_eq] | rw [Arm_eq] | skip); (try simp_all only [ss_nil, Nx_nil, Arm_nil, sz_0, sz_1, sz_2, sz_3, sz_4, sz_5, sz_6, sz_7, sz_8, sz_9, sz_10, sz_11, sz_12, cp_2, cp_3, cp_4, cp_5, cp_6, cp_7, cp_12, cp_20, cp_30, cp_38, cp_39, cp_40])
      exact ⟨s, sub_new hq, h⟩
  · exact h.elim
theorem bOf_len (t : Tt) : (bOf t).length ≤ 2 := by unfold bOf; split <;> simp
theorem bOf_ok {n : Nat} {t : Tt} (h1 : 1 ≤ t.c) (h2 : t.c < n) : ∀ b ∈ bOf t, b.1 < n ∧ b.2.1 < n ∧ b.1 ≠ b.2.1 := by
  intro b hb
  unfold bOf at hb
  split at hb <;> simp only [List.mem_cons, List.not_mem_nil, or_false] at hb
  · subst hb; exact ⟨h2, by show 0 < n; omega, by show t.c ≠ 0; omega⟩
  · subst hb; exact ⟨h2, by show 0 < n; omega, by show t.c ≠ 0; omega⟩
  · rcases hb with rfl | rfl
    · exact ⟨h2, by show 0 < n; omega, by show t.c ≠ 0; omega⟩
    · exact ⟨by show 0 < n; omega, h2, by show 0 ≠ t.c; omega⟩
  · subst hb; exact ⟨by show 0 < n; omega, h2, by show 0 ≠ t.c; omega⟩
  · subst hb; exact ⟨by show 0 < n; omega, h2, by show 0 ≠ t.c; omega⟩
def sp_tests_lot : PSpec
  | [lot, .tup xs], st, Q, _ => ∃ (n : Nat) (M : Mx) (ts : List Tt), lot = lotV n M ∧ xs = ts.map tV ∧ 1 ≤ n ∧ n ≤ 1000 ∧ (∀ i, i < n → M i i = some 1) ∧ (∀ t ∈ ts, 1 ≤ t.c ∧ t.c < n ∧ t.n ≤ 1000) ∧ ts.length ≤ 1000 ∧
      ∀ (b : Bool) (v : PV), isNon v = !b → Kept n M (ts.flatMap bOf) b → Q v st
  | _, _, _, _ => False
def b_tests_lot_1 : Ss :=
  (.cons (.expr (.meth .extend (.var 2) (.cons (.call "test_bounds" sp_test_bounds (.cons (.var 3) .nil)) .nil))) .nil)
def b_tests_lot : Ss :=
  (.cons (.asg (.name 2) (.lst true .nil)) (.cons (.loop (.name 3) (.val (.var 1)) b_tests_lot_1) (.cons (.ret (.call "with_bounds" sp_with_bounds (.cons (.var 0) (.cons (.var 2) .nil)))) .nil)))
def n_tests_lot : List Str := ["lot", "tests", "bounds", "test"]
theorem flat_tk {α β : Type} {f : α → List β} {l : List α} {i : Nat} {x : α} (h : l[i]? = some x) : (l.take (i + 1)).flatMap f = (l.take i).flatMap f ++ f x := by
  rw [take_one h, List.flatMap_append]; simp
theorem flat_b : ∀ l : List Tt, (l.flatMap bOf).length ≤ 2 * l.length
  | [] => by simp
  | x :: r => by
    have a := bOf_len x
    have b := flat_b r
    rw [List.flatMap_cons, List.length_append, List.length_cons]; omega
theorem w_tests_lot : ∀ vs s Q X, vs.length = 2 → sp_tests_lot vs s Q X → wpFn n_tests_lot.length b_tests_lot vs s Q X := by
  intro vs s Q X hl h
  unfold sp_tests_lot at h
  split at h
  · rename_i lot xs
    rw [fn_eq]
    unfold b_tests_lot n_tests_lot
    obtain ⟨n, M, ts, rfl, rfl, n1, n2, hdg, hts, htl, h⟩ := h
    have sz : 10000 ≤ sizeLine := by decide
    simp_all only [ss_nil, Nx_nil, Arm_nil, sz_0, sz_1, sz_2, sz_3, sz_4, sz_5, sz_6, sz_7, sz_8, sz_9, sz_10, sz_11, sz_12, cp_2, cp_3, cp_4, cp_5, cp_6, cp_7, cp_12, cp_20, cp_30, cp_38, cp_39, cp_40]
    intro q hq
    (first | rw [Nx_eq] | rw [Arm_eq] | skip); (try simp_all only [ss_nil, Nx_nil, Arm_nil, sz_0, sz_1, sz_2, sz_3, sz_4, sz_5, sz_6, sz_7, sz_8, sz_9, sz_10, sz_11, sz_12, cp_2, cp_3, cp_4, cp_5, cp_6, cp_7, cp_12, cp_20, cp_30, cp_38, cp_39, cp_40])
    refine for_at (fun i τ st => ∃ (o : Option PV), τ = [some (lotV n M), some (.tup (ts.map tV)), some (.ref q), o] ∧ st = up s q (some (.lst (((ts.take i).flatMap bOf).map bV)))) ?_ ?_ ⟨_, rfl, rfl⟩
    · rintro i v τ st hi ⟨o, rfl, rfl⟩
      obtain ⟨t, rfl, ht⟩ := get_map hi
      have il : i < ts.length := (List.getElem?_eq_some_iff.mp ht).1
      refine ⟨trivial, ?_⟩
      unfold b_tests_lot_1
      simp_all only [ss_nil, Nx_nil, Arm_nil, sz_0, sz_1, sz_2, sz_3, sz_4, sz_5, sz_6, sz_7, sz_8, sz_9, sz_10, sz_11, sz_12, cp_2, cp_3, cp_4, cp_5, cp_6, cp_7, cp_12, cp_20, cp_30, cp_38, cp_39, cp_40]
      refine callS_of ⟨t, rfl, (hts t (mem_at ht)).2.2, ?_⟩
      have l1 := flat_b (ts.take i)
      have l2 := bOf_len t
      rw [List.length_take] at l1
      simp_all only [ss_nil, Nx_nil, Arm_nil, sz_0, sz_1, sz_2, sz_3, sz_4, sz_5, sz_6, sz_7, sz_8, sz_9, sz_10, sz_11, sz_12, cp_2, cp_3, cp_4, cp_5, cp_6, cp_7, cp_12, cp_20, cp_30, cp_38, cp_39, cp_40, List.length_map, up_up]
      refine ⟨by omega, _, rfl, ?_⟩
      rw [flat_tk ht, List.map_append]
    · rintro τ st ⟨o, rfl, rfl⟩
      refine ⟨trivial, ?_⟩
      rw [List.length_map, List.take_length]
      simp_all only [ss_nil, Nx_nil, Arm_nil, sz_0, sz_1, sz_2, sz_3, sz_4, sz_5, sz_6, sz_7, sz_8, sz_9, sz_10, sz_11, sz_12, cp_2, cp_3, cp_4, cp_5, cp_6, cp_7, cp_12, cp_20, cp_30, cp_38, cp_39, cp_40]
      (first | rw [Nx_eq] | rw [Arm_eq] | skip); (try simp_all only [ss_nil, Nx_nil, Arm_nil, sz_0, sz_1, sz_2, sz_3, sz_4, sz_5, sz_6, sz_7, sz_8, sz_9, sz_10, sz_11, sz_12, cp_2, cp_3, cp_4, cp_5, cp_6, cp_7, cp_12, cp_20, cp_30, cp_38, cp_39, cp_40])
      refine callS_of ⟨n, M, ts.flatMap bOf, rfl, up_same, n1, n2, hdg, fun b hb => ?_, fun b v hv hk => ⟨s, sub_new hq, h b v hv hk⟩⟩
      obtain ⟨t, ht, hb⟩ := List.mem_flatMap.mp hb
      obtain ⟨h1, h2, _⟩ := hts t ht
      exact bOf_ok h1 h2 b hb
  · exact h.elim
/-! ### can they be kept together? -/
def upC (t : Tt) : Option Int := match t.s with
  | .lt => some (2 * t.n)
  | .le => some (2 * t.n + 1)
  | .eq => some (2 * t.n + 1)
  | _ => none
def loC (t : Tt) : Option Int := match t.s with
  | .eq => some (2 * (-(t.n : Int)) + 1)
  | .ge => some (2 * (-(t.n : Int)) + 1)
  | .gt => some (2 * (-(t.n : Int)))
  | _ => none
theorem up_mem {t : Tt} {a : Int} (h : upC t = some a) : (t.c, 0, a) ∈ bOf t := by
  unfold upC at h
  unfold bOf
  split at h <;> first | (cases h; simp [*]; done) | cases h
theorem lo_mem {t : Tt} {a : Int} (h : loC t = some a) : (0, t.c, a) ∈ bOf t := by
  unfold loC at h
  unfold bOf
  split at h <;> first | (cases h; simp [*]; done) | cases h
/-- the tests' bounds of each clock meet -/
def Compat (ts : List Tt) : Prop := ∀ t1 ∈ ts, ∀ a, upC t1 = some a → 1 ≤ a ∧ ∀ t2 ∈ ts, t2.c = t1.c → ∀ b, loC t2 = some b → ∀ c, joinC (some a) (some b) = some c → 1 ≤ c
theorem join_mono {a b c a' b' c' : Int} (h : joinC (some a) (some b) = some c) (h' : joinC (some a') (some b') = some c') (ha : a ≤ a') (hb : b ≤ b') : c ≤ c' := by
  have e1 : c = a + b - (if a % 2 = 1 ∨ b % 2 = 1 then 1 else 0) := (Option.some.inj h).symm
  have e2 : c' = a' + b' - (if a' % 2 = 1 ∨ b' % 2 = 1 then 1 else 0) := (Option.some.inj h').symm
  split at e1 <;> split at e2 <;> omega
def ptV (vals : List Rat) : Nat → Rat := fun k => if k = 0 then 0 else vals.getD (k - 1) 0
theorem pt_sat {n : Nat} {vals : List Rat} (h : ∀ x ∈ vals, 0 ≤ x) : Sat n wholeM (ptV vals) := by
  have nn : ∀ k, 0 ≤ ptV vals k := fun k => by
    unfold ptV
    split
    · exact Rat.le_refl
    · rw [List.getD_eq_getElem?_getD]
      rcases Nat.lt_or_ge (k - 1) vals.length with hl | hl
      · rw [List.getElem?_eq_getElem hl]; exact h _ (List.getElem_mem hl)
      · rw [List.getElem?_eq_none hl]; exact Rat.le_refl
  intro i j _ _
  unfold wholeM
  split
  · rename_i e
    rw [show (some (1 : Int)) = some (2 * 0 + 1) from rfl, lets_odd, decide_eq_true_eq]
    have := nn j
    rcases e with rfl | rfl
    · have e0 : ptV vals 0 = 0 := rfl
      rw [e0]
      have : ((0 : Int) : Rat) = 0 := rfl
      grind
    · have : ((0 : Int) : Rat) = 0 := rfl
      grind
  · rfl
theorem pt_tests {t : Tt} {vals : List Rat} (h1 : 1 ≤ t.c) (h : t.holds vals = true) : ∀ b ∈ bOf t, letsC (some b.2.2) (ptV vals b.1 - ptV vals b.2.1) = true := by
  have e0 : ptV vals 0 = 0 := rfl
  have ec : ptV vals t.c = vals.getD (t.c - 1) 0 := by unfold ptV; rw [if_neg (by omega)]
  have cn : ((-(t.n : Int) : Int) : Rat) = -((t.n : Int) : Rat) := Rat.intCast_neg _
  unfold Tt.holds at h
  rw [← ec] at h
  intro b hb
  unfold bOf at hb
  split at hb <;> rename_i es <;> rw [es] at h <;> unfold sgH at h <;> simp only [decide_eq_true_eq] at h <;> simp only [List.mem_cons, List.not_mem_nil, or_false] at hb
  · subst hb
    rw [lets_even, decide_eq_true_eq, e0]; grind
  · subst hb
    rw [lets_odd, decide_eq_true_eq, e0]; grind
  · rcases hb with rfl | rfl
    · rw [lets_odd, decide_eq_true_eq, e0]; grind
    · rw [lets_odd, decide_eq_true_eq, e0, cn]; grind
  · subst hb
    rw [lets_odd, decide_eq_true_eq, e0, cn]; grind
  · subst hb
    rw [lets_even, decide_eq_true_eq, e0, cn]; grind
theorem kept_no {n : Nat} {ts : List Tt} (h : Kept n wholeM (ts.flatMap bOf) false) (h1 : ∀ t ∈ ts, 1 ≤ t.c) {vals : List Rat} (hv : ∀ x ∈ vals, 0 ≤ x) : ts.all (Tt.holds vals) = false := by
  cases e : ts.all (Tt.holds vals) with
  | false => rfl
  | true =>
    rw [List.all_eq_true] at e
    refine absurd ?_ (h.no rfl (ptV vals) (pt_sat hv))
    intro b hb
    obtain ⟨t, ht, hb⟩ := List.mem_flatMap.mp hb
    exact pt_tests (h1 t ht) (e t ht) b hb
theorem kept_yes {n : Nat} {ts : List Tt} (h : Kept n wholeM (ts.flatMap bOf) true) (h1 : ∀ t ∈ ts, 1 ≤ t.c ∧ t.c < n) : Compat ts := by
  intro t1 ht1 a ha
  obtain ⟨c1, c2⟩ := h1 t1 ht1
  have hm : (t1.c, 0, a) ∈ ts.flatMap bOf := List.mem_flatMap.mpr ⟨t1, ht1, up_mem ha⟩
  rcases h.yes rfl with hy | hy
  · obtain ⟨d1, hd1, l1⟩ := fold_at (M := wholeM) _ hm
    have key : ∀ b d2, withB wholeM (ts.flatMap bOf) 0 t1.c = some d2 → d2 ≤ b → ∀ c, joinC (some a) (some b) = some c → 1 ≤ c := fun b d2 hd2 l2 c hc => by
      have h3 := hy t1.c c2
      rw [show withB wholeM (ts.flatMap bOf) t1.c 0 = some d1 from hd1, hd2] at h3
      have := h3 _ rfl
      have := join_mono (rfl : joinC (some d1) (some d2) = some _) hc l1 l2
      omega
    obtain ⟨d2, hd2, l2⟩ := fold_low (ts.flatMap bOf) (M := wholeM) (i := 0) (j := t1.c) (c := 1) (by unfold wholeM; rw [if_pos (.inl rfl)])
    refine ⟨key 1 d2 hd2 l2 a (join_unit (some a)), fun t2 ht2 et b hb c hc => ?_⟩
    have hm2 : (0, t2.c, b) ∈ ts.flatMap bOf := List.mem_flatMap.mpr ⟨t2, ht2, lo_mem hb⟩
    obtain ⟨d3, hd3, l3⟩ := fold_at (M := wholeM) _ hm2
    exact key b d3 (by rw [← et]; exact hd3) l3 c hc
  · have := hy _ hm
    have e : wholeM t1.c 0 = none := by unfold wholeM; rw [if_neg (by omega)]
    rw [show wholeM (t1.c, 0, a).1 (t1.c, 0, a).2.1 = none from e] at this
    cases this
theorem maxD0_ge : ∀ {ns : List Int} {n : Int}, n ∈ ns → n ≤ maxD0 ns
  | x :: r, n, h => by
    have key : ∀ (r : List Int) (m : Int), m ≤ r.foldl max m ∧ ∀ k ∈ r, k ≤ r.foldl max m := by
      intro r
      induction r with
      | nil => intro m; exact ⟨Int.le_refl _, fun _ h => (nomatch h)⟩
      | cons y z ih =>
        intro m
        obtain ⟨a, b⟩ := ih (max m y)
        refine ⟨by show m ≤ z.foldl max (max m y); omega, fun k hk => ?_⟩
        show k ≤ z.foldl max (max m y)
        rcases List.mem_cons.mp hk with rfl | hk
        · omega
        · exact b k hk
    rcases List.mem_cons.mp h with rfl | h
    · exact (key r _).1
    · exact (key r x).2 n h
theorem maxD0_le : ∀ {ns : List Int} {m : Int}, 0 ≤ m → (∀ n ∈ ns, 0 ≤ n ∧ n ≤ m) → 0 ≤ maxD0 ns ∧ maxD0 ns ≤ m
  | [], m, h0, _ => ⟨Int.le_refl _, h0⟩
  | x :: r, m, h0, h => by
    have key : ∀ (r : List Int) (k : Int), 0 ≤ k → k ≤ m → (∀ n ∈ r, n ≤ m) → 0 ≤ r.foldl max k ∧ r.foldl max k ≤ m := by
      intro r
      induction r with
      | nil => intro k a b _; exact ⟨a, b⟩
      | cons y z ih =>
        intro k a b c
        exact ih (max k y) (by omega) (by have := c y List.mem_cons_self; omega) fun n hn => c n (List.mem_cons_of_mem _ hn)
    exact key r x (h x List.mem_cons_self).1 (h x List.mem_cons_self).2 fun n hn => (h n (List.mem_cons_of_mem _ hn)).2
def sp_can_meet : PSpec
  | [.tup xs], st, Q, _ => ∃ ts : List Tt, xs = ts.map tV ∧ (∀ t ∈ ts, 1 ≤ t.c ∧ t.c ≤ 100 ∧ t.n ≤ 1000) ∧ ts.length ≤ 1000 ∧
      ∀ b : Bool, (b = false → ∀ vals : List Rat, (∀ x ∈ vals, 0 ≤ x) → ts.all (Tt.holds vals) = false) → (b = true → Compat ts) → Q (.bl b) st
  | _, _, _, _ => False
def b_can_meet : Ss :=
  (.cons (.asg (.name 1) (.un .maxD (.comp false [2] (.name 2) (.val (.var 0)) .nil (.idx (.var 2) (.int 0))))) (.cons (.ret (.cmp .IsNot (.call "tests_lot" sp_tests_lot (.cons (.call "whole_lot" sp_whole_lot (.cons (.var 1) .nil)) (.cons (.var 0) .nil))) .non)) .nil))
def n_can_meet : List Str := ["tests", "clocks", "test"]
theorem ints_map {α : Type} (f : α → Int) : ∀ l : List α, intsOf (l.map fun x => PV.int (f x)) = some (l.map f)
  | [] => rfl
  | x :: r => by
    show (intsOf (r.map fun x => PV.int (f x))).map (f x :: ·) = _
    rw [ints_map f r]; rfl
theorem w_can_meet : ∀ vs s Q X, vs.length = 1 → sp_can_meet vs s Q X → wpFn n_can_meet.length b_can_meet vs s Q X := by
  intro vs s Q X hl h
  unfold sp_can_meet at h
  split at h
  · rename_i xs
    rw [fn_eq]
    unfold b_can_meet n_can_meet
    obtain ⟨ts, rfl, hts, htl, h⟩ := h
    simp_all only [ss_nil, Nx_nil, Arm_nil, sz_0, sz_1, sz_2, sz_3, sz_4, sz_5, sz_6, sz_7, sz_8, sz_9, sz_10, sz_11, sz_12, cp_2, cp_3, cp_4, cp_5, cp_6, cp_7, cp_12, cp_20, cp_30, cp_38, cp_39, cp_40]
    refine lc_enc (fun t : Tt => .int t.c) ts (fun τ1 st' Q q => by simp_all only [ss_nil, Nx_nil, Arm_nil, sz_0, sz_1, sz_2, sz_3, sz_4, sz_5, sz_6, sz_7, sz_8, sz_9, sz_10, sz_11, sz_12, cp_2, cp_3, cp_4, cp_5, cp_6, cp_7, cp_12, cp_20, cp_30, cp_38, cp_39, cp_40]; exact q) (fun t ht => ⟨_, rfl, fun st' sub K hK => ?_⟩) ?_
    · simp_all only [ss_nil, Nx_nil, Arm_nil, sz_0, sz_1, sz_2, sz_3, sz_4, sz_5, sz_6, sz_7, sz_8, sz_9, sz_10, sz_11, sz_12, cp_2, cp_3, cp_4, cp_5, cp_6, cp_7, cp_12, cp_20, cp_30, cp_38, cp_39, cp_40, tV]
      exact hK
    have ei := ints_map (fun t : Tt => (t.c : Int)) ts
    obtain ⟨m0, m1⟩ := maxD0_le (ns := ts.map fun t : Tt => (t.c : Int)) (m := 100) (by decide) fun n hn => by
      obtain ⟨t, ht, rfl⟩ := List.mem_map.mp hn
      have := hts t ht
      exact ⟨by omega, by omega⟩
    have mg : ∀ t ∈ ts, (t.c : Int) ≤ maxD0 (ts.map fun t : Tt => (t.c : Int)) := fun t ht => maxD0_ge (List.mem_map.mpr ⟨t, ht, rfl⟩)
    simp_all only [ss_nil, Nx_nil, Arm_nil, sz_0, sz_1, sz_2, sz_3, sz_4, sz_5, sz_6, sz_7, sz_8, sz_9, sz_10, sz_11, sz_12, cp_2, cp_3, cp_4, cp_5, cp_6, cp_7, cp_12, cp_20, cp_30, cp_38, cp_39, cp_40, ei]
    revert m0 m1 mg
    generalize maxD0 (ts.map fun t : Tt => (t.c : Int)) = m
    intro m0 m1 mg
    (first | rw [Nx_eq] | rw [Arm_eq] | skip); (try simp_all only [ss_nil, Nx_nil, Arm_nil, sz_0, sz_1, sz_2, sz_3, sz_4, sz_5, sz_6, sz_7, sz_8, sz_9, sz_10, sz_11, sz_12, cp_2, cp_3, cp_4, cp_5, cp_6, cp_7, cp_12, cp_20, cp_30, cp_38, cp_39, cp_40])
    refine callS_of ⟨m.toNat, (Int.toNat_of_nonneg m0).symm, by omega, ?_⟩
    simp_all only [ss_nil, Nx_nil, Arm_nil, sz_0, sz_1, sz_2, sz_3, sz_4, sz_5, sz_6, sz_7, sz_8, sz_9, sz_10, sz_11, sz_12, cp_2, cp_3, cp_4, cp_5, cp_6, cp_7, cp_12, cp_20, cp_30, cp_38, cp_39, cp_40]
    refine callS_of ⟨m.toNat + 1, wholeM, ts, rfl, rfl, by omega, by omega, fun i _ => by unfold wholeM; rw [if_pos (.inr rfl)], fun t ht => ?_, htl, fun b v hv hk => ?_⟩
    · have := hts t ht
      have := mg t ht
      exact ⟨by omega, by omega, by omega⟩
    simp_all only [ss_nil, Nx_nil, Arm_nil, sz_0, sz_1, sz_2, sz_3, sz_4, sz_5, sz_6, sz_7, sz_8, sz_9, sz_10, sz_11, sz_12, cp_2, cp_3, cp_4, cp_5, cp_6, cp_7, cp_12, cp_20, cp_30, cp_38, cp_39, cp_40, hv]
    have hq := h b (fun e vals hvals => by subst e; exact kept_no hk (fun t ht => (hts t ht).1) hvals) (fun e => by
      subst e
      exact kept_yes hk fun t ht => ⟨(hts t ht).1, by have := mg t ht; omega⟩)
    refine ⟨s, .rfl, ?_⟩
    simpa using hq
  · exact h.elim
end TK

set_option maxRecDepth 100000
set_option maxHeartbeats 4000000
namespace TK
open PySem PySem.Spec PyProof.Rows L2
/-! ### what is outside of guards -/
def opp (t : Tt) : List Tt := match t.s with
  | .le => [⟨t.c, .gt, t.n⟩]
  | .lt => [⟨t.c, .ge, t.n⟩]
  | .gt => [⟨t.c, .le, t.n⟩]
  | .ge => if 1 ≤ t.n then [⟨t.c, .lt, t.n⟩] else []
  | .eq => (if 1 ≤ t.n then [⟨t.c, .lt, t.n⟩] else []) ++ [⟨t.c, .gt, t.n⟩]
def wfT (k : Nat) (t : Tt) : Prop := 1 ≤ t.c ∧ t.c ≤ k ∧ t.n ≤ 3 ∧ (t.s = .lt → t.n ≠ 0)
theorem opp_wf {k : Nat} {t : Tt} (h : wfT k t) : ∀ o ∈ opp t, wfT k o := by
  obtain ⟨h1, h2, h3, h4⟩ := h
  intro o ho
  unfold opp at ho
  split at ho
  · simp only [List.mem_cons, List.not_mem_nil, or_false] at ho; subst ho; exact ⟨h1, h2, h3, fun e => nomatch e⟩
  · simp only [List.mem_cons, List.not_mem_nil, or_false] at ho; subst ho; exact ⟨h1, h2, h3, fun e => nomatch e⟩
  · simp only [List.mem_cons, List.not_mem_nil, or_false] at ho; subst ho; exact ⟨h1, h2, h3, fun e => nomatch e⟩
  · split at ho
    · rename_i hn
      simp only [List.mem_cons, List.not_mem_nil, or_false] at ho; subst ho; exact ⟨h1, h2, h3, fun _ => by show t.n ≠ 0; omega⟩
    · cases ho
  · rcases List.mem_append.mp ho with ho | ho
    · split at ho
      · rename_i hn
        simp only [List.mem_cons, List.not_mem_nil, or_false] at ho; subst ho; exact ⟨h1, h2, h3, fun _ => by show t.n ≠ 0; omega⟩
      · cases ho
    · simp only [List.mem_cons, List.not_mem_nil, or_false] at ho; subst ho; exact ⟨h1, h2, h3, fun e => nomatch e⟩
theorem opp_len (t : Tt) : (opp t).length ≤ 2 := by
  unfold opp
  split <;> (try split) <;> simp
theorem getD_nn {vals : List Rat} (h : ∀ x ∈ vals, 0 ≤ x) (i : Nat) : 0 ≤ vals.getD i 0 := by
  rw [List.getD_eq_getElem?_getD]
  rcases Nat.lt_or_ge i vals.length with hl | hl
  · rw [List.getElem?_eq_getElem hl]; exact h _ (List.getElem_mem hl)
  · rw [List.getElem?_eq_none hl]; exact Rat.le_refl
theorem opp_any {t : Tt} {vals : List Rat} (h : ∀ x ∈ vals, 0 ≤ x) : (opp t).any (Tt.holds vals) = !t.holds vals := by
  have hn := getD_nn h (t.c - 1)
  unfold opp Tt.holds
  generalize hr : vals.getD (t.c - 1) 0 = r at *
  have hz : t.n = 0 → ((t.n : Int) : Rat) = 0 := fun e => by rw [e]; rfl
  split <;> rename_i es <;> rw [es] <;> simp only [sgH]
  · simp only [List.any_cons, List.any_nil, Bool.or_false, sgH, hr]
    rw [← decide_not, decide_eq_decide]; grind
  · simp only [List.any_cons, List.any_nil, Bool.or_false, sgH, hr]
    rw [← decide_not, decide_eq_decide]; grind
  · simp only [List.any_cons, List.any_nil, Bool.or_false, sgH, hr]
    rw [← decide_not, decide_eq_decide]; grind
  · split
    · simp only [List.any_cons, List.any_nil, Bool.or_false, sgH, hr]
      rw [← decide_not, decide_eq_decide]; grind
    · rename_i h1
      have h0 := hz (by omega)
      rw [h0]
      simp only [List.any_nil]
      rw [← decide_not]
      symm
      rw [decide_eq_false_iff_not]; grind
  · split
    · simp only [List.any_append, List.any_cons, List.any_nil, Bool.or_false, sgH, hr]
      rw [← decide_not, ← Bool.decide_or, decide_eq_decide]; grind
    · rename_i h1
      have h0 := hz (by omega)
      rw [h0]
      simp only [List.nil_append, List.any_cons, List.any_nil, Bool.or_false, sgH, hr]
      rw [← decide_not, decide_eq_decide]
      have : ((t.n : Int) : Rat) = 0 := h0
      grind
def sp_opposite_tests : PSpec
  | [a], st, Q, _ => ∃ t : Tt, a = tV t ∧ Q (.tup ((opp t).map tV)) st
  | _, _, _, _ => False
def b_opposite_tests : Ss :=
  (.cons (.asg (.tup (.cons (.name 2) (.cons (.name 3) (.cons (.name 4) .nil)))) (.var 0)) (.cons (.ite (.cmp .Eq (.var 3) (.str "<=")) (.cons (.ret (.tup (.cons (.tup (.cons (.var 2) (.cons (.str ">") (.cons (.var 4) .nil)))) .nil))) .nil) .nil) (.cons (.ite (.cmp .Eq (.var 3) (.str "<")) (.cons (.ret (.tup (.cons (.tup (.cons (.var 2) (.cons (.str ">=") (.cons (.var 4) .nil)))) .nil))) .nil) .nil) (.cons (.ite (.cmp .Eq (.var 3) (.str ">")) (.cons (.ret (.tup (.cons (.tup (.cons (.var 2) (.cons (.str "<=") (.cons (.var 4) .nil)))) .nil))) .nil) .nil) (.cons (.asg (.name 1) (.ite (.cmp .GtE (.var 4) (.int 1)) (.tup (.cons (.tup (.cons (.var 2) (.cons (.str "<") (.cons (.var 4) .nil)))) .nil)) (.tup .nil))) (.cons (.ite (.cmp .Eq (.var 3) (.str ">=")) (.cons (.ret (.var 1)) .nil) .nil) (.cons (.ret (.bin .Add false (.var 1) (.tup (.cons (.tup (.cons (.var 2) (.cons (.str ">") (.cons (.var 4) .nil)))) .nil)))) .nil)))))))
def n_opposite_tests : List Str := ["test", "lower", "clock", "sign", "number"]
theorem w_opposite_tests : ∀ vs s Q X, vs.length = 1 → sp_opposite_tests vs s Q X → wpFn n_opposite_tests.length b_opposite_tests vs s Q X := by
  intro vs s Q X hl h
  unfold sp_opposite_tests at h
  split at h
  · rw [fn_eq]
    unfold b_opposite_tests n_opposite_tests
    obtain ⟨⟨c, sg, n⟩, rfl, h⟩ := h
    obtain ⟨g1, g2, g3, g4, g5⟩ := sg5 sg
    unfold opp at h
    have en : (1 ≤ (n : Int)) ↔ 1 ≤ n := by omega
    cases sg with
    | lt =>
      simp_all only [ss_nil, Nx_nil, Arm_nil, sz_0, sz_1, sz_2, sz_3, sz_4, sz_5, sz_6, sz_7, sz_8, sz_9, sz_10, sz_11, sz_12, cp_2, cp_3, cp_4, cp_5, cp_6, cp_7, cp_12, cp_20, cp_30, cp_38, cp_39, cp_40, tV]
      (first | rw [Nx_eq] | rw [Arm_eq] | skip); (try simp_all only [ss_nil, Nx_nil, Arm_nil, sz_0, sz_1, sz_2, sz_3, sz_4, sz_5, sz_6, sz_7, sz_8, sz_9, sz_10, sz_11, sz_12, cp_2, cp_3, cp_4, cp_5, cp_6, cp_7, cp_12, cp_20, cp_30, cp_38, cp_39, cp_40, g2])
      (first | rw [Nx_eq] | rw [Arm_eq] | skip); (try simp_all only [ss_nil, Nx_nil, Arm_nil, sz_0, sz_1, sz_2, sz_3, sz_4, sz_5, sz_6, sz_7, sz_8, sz_9, sz_10, sz_11, sz_12, cp_2, cp_3, cp_4, cp_5, cp_6, cp_7, cp_12, cp_20, cp_30, cp_38, cp_39, cp_40, g1])
      (first | rw [Nx_eq] | rw [Arm_eq] | skip); (try simp_all only [ss_nil, Nx_nil, Arm_nil, sz_0, sz_1, sz_2, sz_3, sz_4, sz_5, sz_6, sz_7, sz_8, sz_9, sz_10, sz_11, sz_12, cp_2, cp_3, cp_4, cp_5, cp_6, cp_7, cp_12, cp_20, cp_30, cp_38, cp_39, cp_40])
      exact ⟨s, .rfl, h⟩
    | le =>
      simp_all only [ss_nil, Nx_nil, Arm_nil, sz_0, sz_1, sz_2, sz_3, sz_4, sz_5, sz_6, sz_7, sz_8, sz_9, sz_10, sz_11, sz_12, cp_2, cp_3, cp_4, cp_5, cp_6, cp_7, cp_12, cp_20, cp_30, cp_38, cp_39, cp_40, tV]
      (first | rw [Nx_eq] | rw [Arm_eq] | skip); (try simp_all only [ss_nil, Nx_nil, Arm_nil, sz_0, sz_1, sz_2, sz_3, sz_4, sz_5, sz_6, sz_7, sz_8, sz_9, sz_10, sz_11, sz_12, cp_2, cp_3, cp_4, cp_5, cp_6, cp_7, cp_12, cp_20, cp_30, cp_38, cp_39, cp_40, g2])
      (first | rw [Nx_eq] | rw [Arm_eq] | skip); (try simp_all only [ss_nil, Nx_nil, Arm_nil, sz_0, sz_1, sz_2, sz_3, sz_4, sz_5, sz_6, sz_7, sz_8, sz_9, sz_10, sz_11, sz_12, cp_2, cp_3, cp_4, cp_5, cp_6, cp_7, cp_12, cp_20, cp_30, cp_38, cp_39, cp_40])
      exact ⟨s, .rfl, h⟩
    | gt =>
      simp_all only [ss_nil, Nx_nil, Arm_nil, sz_0, sz_1, sz_2, sz_3, sz_4, sz_5, sz_6, sz_7, sz_8, sz_9, sz_10, sz_11, sz_12, cp_2, cp_3, cp_4, cp_5, cp_6, cp_7, cp_12, cp_20, cp_30, cp_38, cp_39, cp_40, tV]
      (first | rw [Nx_eq] | rw [Arm_eq] | skip); (try simp_all only [ss_nil, Nx_nil, Arm_nil, sz_0, sz_1, sz_2, sz_3, sz_4, sz_5, sz_6, sz_7, sz_8, sz_9, sz_10, sz_11, sz_12, cp_2, cp_3, cp_4, cp_5, cp_6, cp_7, cp_12, cp_20, cp_30, cp_38, cp_39, cp_40, g2])
      (first | rw [Nx_eq] | rw [Arm_eq] | skip); (try simp_all only [ss_nil, Nx_nil, Arm_nil, sz_0, sz_1, sz_2, sz_3, sz_4, sz_5, sz_6, sz_7, sz_8, sz_9, sz_10, sz_11, sz_12, cp_2, cp_3, cp_4, cp_5, cp_6, cp_7, cp_12, cp_20, cp_30, cp_38, cp_39, cp_40, g1])
      (first | rw [Nx_eq] | rw [Arm_eq] | skip); (try simp_all only [ss_nil, Nx_nil, Arm_nil, sz_0, sz_1, sz_2, sz_3, sz_4, sz_5, sz_6, sz_7, sz_8, sz_9, sz_10, sz_11, sz_12, cp_2, cp_3, cp_4, cp_5, cp_6, cp_7, cp_12, cp_20, cp_30, cp_38, cp_39, cp_40, g5])
      (first | rw [Nx_eq] | rw [Arm_eq] | skip); (try simp_all only [ss_nil, Nx_nil, Arm_nil, sz_0, sz_1, sz_2, sz_3, sz_4, sz_5, sz_6, sz_7, sz_8, sz_9, sz_10, sz_11, sz_12, cp_2, cp_3, cp_4, cp_5, cp_6, cp_7, cp_12, cp_20, cp_30, cp_38, cp_39, cp_40])
      exact ⟨s, .rfl, h⟩
    | ge =>
      simp_all only [ss_nil, Nx_nil, Arm_nil, sz_0, sz_1, sz_2, sz_3, sz_4, sz_5, sz_6, sz_7, sz_8, sz_9, sz_10, sz_11, sz_12, cp_2, cp_3, cp_4, cp_5, cp_6, cp_7, cp_12, cp_20, cp_30, cp_38, cp_39, cp_40, tV]
      (first | rw [Nx_eq] | rw [Arm_eq] | skip); (try simp_all only [ss_nil, Nx_nil, Arm_nil, sz_0, sz_1, sz_2, sz_3, sz_4, sz_5, sz_6, sz_7, sz_8, sz_9, sz_10, sz_11, sz_12, cp_2, cp_3, cp_4, cp_5, cp_6, cp_7, cp_12, cp_20, cp_30, cp_38, cp_39, cp_40, g2])
      (first | rw [Nx_eq] | rw [Arm_eq] | skip); (try simp_all only [ss_nil, Nx_nil, Arm_nil, sz_0, sz_1, sz_2, sz_3, sz_4, sz_5, sz_6, sz_7, sz_8, sz_9, sz_10, sz_11, sz_12, cp_2, cp_3, cp_4, cp_5, cp_6, cp_7, cp_12, cp_20, cp_30, cp_38, cp_39, cp_40, g1])
      (first | rw [Nx_eq] | rw [Arm_eq] | skip); (try simp_all only [ss_nil, Nx_nil, Arm_nil, sz_0, sz_1, sz_2, sz_3, sz_4, sz_5, sz_6, sz_7, sz_8, sz_9, sz_10, sz_11, sz_12, cp_2, cp_3, cp_4, cp_5, cp_6, cp_7, cp_12, cp_20, cp_30, cp_38, cp_39, cp_40, g5])
      by_cases hn : 1 ≤ n
      · have e1 : (1 ≤ (n : Int)) = True := eq_true (by omega)
        rw [if_pos hn] at h
        (first | rw [Nx_eq] | rw [Arm_eq] | skip); (try simp_all only [ss_nil, Nx_nil, Arm_nil, sz_0, sz_1, sz_2, sz_3, sz_4, sz_5, sz_6, sz_7, sz_8, sz_9, sz_10, sz_11, sz_12, cp_2, cp_3, cp_4, cp_5, cp_6, cp_7, cp_12, cp_20, cp_30, cp_38, cp_39, cp_40, e1])
        (first | rw [Nx_eq] | rw [Arm_eq] | skip); (try simp_all only [ss_nil, Nx_nil, Arm_nil, sz_0, sz_1, sz_2, sz_3, sz_4, sz_5, sz_6, sz_7, sz_8, sz_9, sz_10, sz_11, sz_12, cp_2, cp_3, cp_4, cp_5, cp_6, cp_7, cp_12, cp_20, cp_30, cp_38, cp_39, cp_40, g4])
        (first | rw [Nx_eq] | rw [Arm_eq] | skip); (try simp_all only [ss_nil, Nx_nil, Arm_nil, sz_0, sz_1, sz_2, sz_3, sz_4, sz_5, sz_6, sz_7, sz_8, sz_9, sz_10, sz_11, sz_12, cp_2, cp_3, cp_4, cp_5, cp_6, cp_7, cp_12, cp_20, cp_30, cp_38, cp_39, cp_40])
        exact ⟨s, .rfl, h⟩
      · have e1 : (1 ≤ (n : Int)) = False := eq_false (by omega)
        rw [if_neg hn] at h
        (first | rw [Nx_eq] | rw [Arm_eq] | skip); (try simp_all only [ss_nil, Nx_nil, Arm_nil, sz_0, sz_1, sz_2, sz_3, sz_4, sz_5, sz_6, sz_7, sz_8, sz_9, sz_10, sz_11, sz_12, cp_2, cp_3, cp_4, cp_5, cp_6, cp_7, cp_12, cp_20, cp_30, cp_38, cp_39, cp_40, e1])
        (first | rw [Nx_eq] | rw [Arm_eq] | skip); (try simp_all only [ss_nil, Nx_nil, Arm_nil, sz_0, sz_1, sz_2, sz_3, sz_4, sz_5, sz_6, sz_7, sz_8, sz_9, sz_10, sz_11, sz_12, cp_2, cp_3, cp_4, cp_5, cp_6, cp_7, cp_12, cp_20, cp_30, cp_38, cp_39, cp_40, g4])
        (first | rw [Nx_eq] | rw [Arm_eq] | skip); (try simp_all only [ss_nil, Nx_nil, Arm_nil, sz_0, sz_1, sz_2, sz_3, sz_4, sz_5, sz_6, sz_7, sz_8, sz_9, sz_10, sz_11, sz_12, cp_2, cp_3, cp_4, cp_5, cp_6, cp_7, cp_12, cp_20, cp_30, cp_38, cp_39, cp_40])
        exact ⟨s, .rfl, h⟩
    | eq =>
      simp_all only [ss_nil, Nx_nil, Arm_nil, sz_0, sz_1, sz_2, sz_3, sz_4, sz_5, sz_6, sz_7, sz_8, sz_9, sz_10, sz_11, sz_12, cp_2, cp_3, cp_4, cp_5, cp_6, cp_7, cp_12, cp_20, cp_30, cp_38, cp_39, cp_40, tV]
      (first | rw [Nx_eq] | rw [Arm_eq] | skip); (try simp_all only [ss_nil, Nx_nil, Arm_nil, sz_0, sz_1, sz_2, sz_3, sz_4, sz_5, sz_6, sz_7, sz_8, sz_9, sz_10, sz_11, sz_12, cp_2, cp_3, cp_4, cp_5, cp_6, cp_7, cp_12, cp_20, cp_30, cp_38, cp_39, cp_40, g2])
      (first | rw [Nx_eq] | rw [Arm_eq] | skip); (try simp_all only [ss_nil, Nx_nil, Arm_nil, sz_0, sz_1, sz_2, sz_3, sz_4, sz_5, sz_6, sz_7, sz_8, sz_9, sz_10, sz_11, sz_12, cp_2, cp_3, cp_4, cp_5, cp_6, cp_7, cp_12, cp_20, cp_30, cp_38, cp_39, cp_40, g1])
      (first | rw [Nx_eq] | rw [Arm_eq] | skip); (try simp_all only [ss_nil, Nx_nil, Arm_nil, sz_0, sz_1, sz_2, sz_3, sz_4, sz_5, sz_6, sz_7, sz_8, sz_9, sz_10, sz_11, sz_12, cp_2, cp_3, cp_4, cp_5, cp_6, cp_7, cp_12, cp_20, cp_30, cp_38, cp_39, cp_40, g5])
      by_cases hn : 1 ≤ n
      · have e1 : (1 ≤ (n : Int)) = True := eq_true (by omega)
        rw [if_pos hn] at h
        (first | rw [Nx_eq] | rw [Arm_eq] | skip); (try simp_all only [ss_nil, Nx_nil, Arm_nil, sz_0, sz_1, sz_2, sz_3, sz_4, sz_5, sz_6, sz_7, sz_8, sz_9, sz_10, sz_11, sz_12, cp_2, cp_3, cp_4, cp_5, cp_6, cp_7, cp_12, cp_20, cp_30, cp_38, cp_39, cp_40, e1])
        (first | rw [Nx_eq] | rw [Arm_eq] | skip); (try simp_all only [ss_nil, Nx_nil, Arm_nil, sz_0, sz_1, sz_2, sz_3, sz_4, sz_5, sz_6, sz_7, sz_8, sz_9, sz_10, sz_11, sz_12, cp_2, cp_3, cp_4, cp_5, cp_6, cp_7, cp_12, cp_20, cp_30, cp_38, cp_39, cp_40, g4])
        (first | rw [Nx_eq] | rw [Arm_eq] | skip); (try simp_all only [ss_nil, Nx_nil, Arm_nil, sz_0, sz_1, sz_2, sz_3, sz_4, sz_5, sz_6, sz_7, sz_8, sz_9, sz_10, sz_11, sz_12, cp_2, cp_3, cp_4, cp_5, cp_6, cp_7, cp_12, cp_20, cp_30, cp_38, cp_39, cp_40])
        exact ⟨s, .rfl, h⟩
      · have e1 : (1 ≤ (n : Int)) = False := eq_false (by omega)
        rw [if_neg hn] at h
        (first | rw [Nx_eq] | rw [Arm_eq] | skip); (try simp_all only [ss_nil, Nx_nil, Arm_nil, sz_0, sz_1, sz_2, sz_3, sz_4, sz_5, sz_6, sz_7, sz_8, sz_9, sz_10, sz_11, sz_12, cp_2, cp_3, cp_4, cp_5, cp_6, cp_7, cp_12, cp_20, cp_30, cp_38, cp_39, cp_40, e1])
        (first | rw [Nx_eq] | rw [Arm_eq] | skip); (try simp_all only [ss_nil, Nx_nil, Arm_nil, sz_0, sz_1, sz_2, sz_3, sz_4, sz_5, sz_6, sz_7, sz_8, sz_9, sz_10, sz_11, sz_12, cp_2, cp_3, cp_4, cp_5, cp_6, cp_7, cp_12, cp_20, cp_30, cp_38, cp_39, cp_40, g4])
        (first | rw [Nx_eq] | rw [Arm_eq] | skip); (try simp_all only [ss_nil, Nx_nil, Arm_nil, sz_0, sz_1, sz_2, sz_3, sz_4, sz_5, sz_6, sz_7, sz_8, sz_9, sz_10, sz_11, sz_12, cp_2, cp_3, cp_4, cp_5, cp_6, cp_7, cp_12, cp_20, cp_30, cp_38, cp_39, cp_40])
        exact ⟨s, .rfl, h⟩
  · exact h.elim
def cellV (ts : List Tt) : PV := .tup (ts.map tV)
/-- a cell as it is told -/
def okCell (k m : Nat) (ts : List Tt) : Prop := ts.length ≤ m ∧ (∀ t ∈ ts, wfT k t) ∧ Compat ts
def sp_cell_pieces : PSpec
  | [.tup xs, .tup ys], st, Q, _ => ∃ (k m : Nat) (cell guard : List Tt), xs = cell.map tV ∧ ys = guard.map tV ∧ k ≤ 100 ∧ m ≤ 100 ∧ cell.length ≤ m ∧ guard.length ≤ 100 ∧ (∀ t ∈ cell, wfT k t) ∧ (∀ t ∈ guard, wfT k t) ∧
      ∀ ps : List (List Tt), ps.length ≤ 2 * guard.length → (∀ p ∈ ps, okCell k (m + guard.length) p) → (∀ vals : List Rat, (∀ x ∈ vals, 0 ≤ x) → ps.any (fun p => p.all (Tt.holds vals)) = (cell.all (Tt.holds vals) && !guard.all (Tt.holds vals))) → Q (.lst (ps.map cellV)) st
  | _, _, _, _ => False
def b_cell_pieces_2 : Ss :=
  (.cons (.ite (.val (.call "can_meet" sp_can_meet (.cons (.bin .Add false (.var 3) (.tup (.cons (.var 5) .nil))) .nil))) (.cons (.expr (.meth .append (.var 2) (.cons (.bin .Add false (.var 3) (.tup (.cons (.var 5) .nil))) .nil))) .nil) .nil) .nil)
def b_cell_pieces_1 : Ss :=
  (.cons (.loop (.name 5) (.val (.call "opposite_tests" sp_opposite_tests (.cons (.var 4) .nil))) b_cell_pieces_2) (.cons (.asg (.name 3) (.bin .Add false (.var 3) (.tup (.cons (.var 4) .nil)))) .nil))
def b_cell_pieces : Ss :=
  (.cons (.asg (.name 2) (.lst true .nil)) (.cons (.asg (.name 3) (.var 0)) (.cons (.loop (.name 4) (.val (.var 1)) b_cell_pieces_1) (.cons (.ret (.fvar 2)) .nil))))
def n_cell_pieces : List Str := ["cell", "guard", "told", "kept", "test", "other"]
theorem w_cell_pieces : ∀ vs s Q X, vs.length = 2 → sp_cell_pieces vs s Q X → wpFn n_cell_pieces.length b_cell_pieces vs s Q X := by
  intro vs s Q X hl h
  unfold sp_cell_pieces at h
  split at h
  · rename_i xs ys
    rw [fn_eq]
    unfold b_cell_pieces n_cell_pieces
    obtain ⟨k, m, cell, guard, rfl, rfl, hk, hm, hcl, hgl, hcw, hgw, h⟩ := h
    have sz : 10000 ≤ sizeLine := by decide
    simp_all only [ss_nil, Nx_nil, Arm_nil, sz_0, sz_1, sz_2, sz_3, sz_4, sz_5, sz_6, sz_7, sz_8, sz_9, sz_10, sz_11, sz_12, cp_2, cp_3, cp_4, cp_5, cp_6, cp_7, cp_12, cp_20, cp_30, cp_38, cp_39, cp_40]
    intro q hq
    (first | rw [Nx_eq] | rw [Arm_eq] | skip); (try simp_all only [ss_nil, Nx_nil, Arm_nil, sz_0, sz_1, sz_2, sz_3, sz_4, sz_5, sz_6, sz_7, sz_8, sz_9, sz_10, sz_11, sz_12, cp_2, cp_3, cp_4, cp_5, cp_6, cp_7, cp_12, cp_20, cp_30, cp_38, cp_39, cp_40])
    (first | rw [Nx_eq] | rw [Arm_eq] | skip); (try simp_all only [ss_nil, Nx_nil, Arm_nil, sz_0, sz_1, sz_2, sz_3, sz_4, sz_5, sz_6, sz_7, sz_8, sz_9, sz_10, sz_11, sz_12, cp_2, cp_3, cp_4, cp_5, cp_6, cp_7, cp_12, cp_20, cp_30, cp_38, cp_39, cp_40])
    refine for_at (fun i τ st => ∃ (o4 o5 : Option PV) (ps : List (List Tt)), τ = [some (.tup (cell.map tV)), some (.tup (guard.map tV)), some (.ref q), some (.tup ((cell ++ guard.take i).map tV)), o4, o5] ∧ st = up s q (some (.lst (ps.map cellV))) ∧
        ps.length ≤ 2 * i ∧ (∀ p ∈ ps, okCell k (m + guard.length) p) ∧ ∀ vals : List Rat, (∀ x ∈ vals, 0 ≤ x) → ps.any (fun p => p.all (Tt.holds vals)) = (cell.all (Tt.holds vals) && !(guard.take i).all (Tt.holds vals))) ?_ ?_
      ⟨none, none, [], by simp, rfl, by simp, fun _ h => (nomatch h), fun vals _ => by simp⟩
    · rintro i v τ st hi ⟨o4, o5, ps, rfl, rfl, hpl, hpo, hpa⟩
      obtain ⟨t, rfl, ht⟩ := get_map hi
      have il : i < guard.length := (List.getElem?_eq_some_iff.mp ht).1
      have tw := hgw t (mem_at ht)
      refine ⟨trivial, ?_⟩
      unfold b_cell_pieces_1
      have kl : (cell ++ guard.take i).length ≤ m + i := by rw [List.length_append, List.length_take]; omega
      have kw : ∀ t ∈ cell ++ guard.take i, wfT k t := fun t ht => by
        rcases List.mem_append.mp ht with ht | ht
        · exact hcw t ht
        · exact hgw t (List.mem_of_mem_take ht)
      have ka : ∀ vals, (cell ++ guard.take i).all (Tt.holds vals) = (cell.all (Tt.holds vals) && (guard.take i).all (Tt.holds vals)) := fun vals => List.all_append ..
      have kn : (cell ++ guard.take i).map tV ++ [tV t] = (cell ++ guard.take (i + 1)).map tV := by
        rw [take_one ht, ← List.append_assoc, List.map_append (l₂ := [t])]; rfl
      revert kl kw ka kn
      generalize cell ++ guard.take i = kept
      intro kl kw ka kn
      simp_all only [ss_nil, Nx_nil, Arm_nil, sz_0, sz_1, sz_2, sz_3, sz_4, sz_5, sz_6, sz_7, sz_8, sz_9, sz_10, sz_11, sz_12, cp_2, cp_3, cp_4, cp_5, cp_6, cp_7, cp_12, cp_20, cp_30, cp_38, cp_39, cp_40]
      refine callS_of ⟨t, rfl, ?_⟩
      simp_all only [ss_nil, Nx_nil, Arm_nil, sz_0, sz_1, sz_2, sz_3, sz_4, sz_5, sz_6, sz_7, sz_8, sz_9, sz_10, sz_11, sz_12, cp_2, cp_3, cp_4, cp_5, cp_6, cp_7, cp_12, cp_20, cp_30, cp_38, cp_39, cp_40]
      refine for_at (fun j τ st => ∃ (o5 : Option PV) (ps : List (List Tt)), τ = [some (.tup (cell.map tV)), some (.tup (guard.map tV)), some (.ref q), some (.tup (kept.map tV)), some (tV t), o5] ∧ st = up s q (some (.lst (ps.map cellV))) ∧
          ps.length ≤ 2 * i + j ∧ (∀ p ∈ ps, okCell k (m + guard.length) p) ∧ ∀ vals : List Rat, (∀ x ∈ vals, 0 ≤ x) → ps.any (fun p => p.all (Tt.holds vals)) = ((cell.all (Tt.holds vals) && !(guard.take i).all (Tt.holds vals)) || (kept.all (Tt.holds vals) && ((opp t).take j).any (Tt.holds vals)))) ?_ ?_
        ⟨_, ps, rfl, rfl, by omega, hpo, fun vals hv => by rw [hpa vals hv]; simp⟩
      · rintro j v τ st hj ⟨o5, ps, rfl, rfl, hpl, hpo, hpa⟩
        obtain ⟨o, rfl, ho⟩ := get_map hj
        have jl : j < (opp t).length := (List.getElem?_eq_some_iff.mp ho).1
        have j2 := opp_len t
        have ow := opp_wf tw o (mem_at ho)
        have eo : kept.map tV ++ [tV o] = (kept ++ [o]).map tV := by rw [List.map_append]; rfl
        have wfo : ∀ t ∈ kept ++ [o], wfT k t := fun z hz => by
          rcases List.mem_append.mp hz with hz | hz
          · exact kw z hz
          · rw [List.mem_singleton.mp hz]; exact ow
        have lno : (kept ++ [o]).length ≤ m + i + 1 := by rw [List.length_append]; simp; omega
        have sz1 : (kept.map tV).length + 1 ≤ sizeLine := by rw [List.length_map]; omega
        have alo : ∀ vals, (kept ++ [o]).all (Tt.holds vals) = (kept.all (Tt.holds vals) && o.holds vals) := fun vals => by rw [List.all_append]; simp
        have tko : ∀ vals, ((opp t).take (j + 1)).any (Tt.holds vals) = (((opp t).take j).any (Tt.holds vals) || o.holds vals) := fun vals => by rw [take_one ho, List.any_append]; simp
        refine ⟨trivial, ?_⟩
        unfold b_cell_pieces_2
        simp_all only [ss_nil, Nx_nil, Arm_nil, sz_0, sz_1, sz_2, sz_3, sz_4, sz_5, sz_6, sz_7, sz_8, sz_9, sz_10, sz_11, sz_12, cp_2, cp_3, cp_4, cp_5, cp_6, cp_7, cp_12, cp_20, cp_30, cp_38, cp_39, cp_40]
        refine ⟨sz1, ?_⟩
        rw [eo]
        refine callS_of ⟨kept ++ [o], rfl, fun z hz => ?_, by omega, fun b hb1 hb2 => ?_⟩
        · obtain ⟨a1, a2, a3, _⟩ := wfo z hz
          exact ⟨a1, by omega, by omega⟩
        cases b with
        | true =>
          simp_all only [ss_nil, Nx_nil, Arm_nil, sz_0, sz_1, sz_2, sz_3, sz_4, sz_5, sz_6, sz_7, sz_8, sz_9, sz_10, sz_11, sz_12, cp_2, cp_3, cp_4, cp_5, cp_6, cp_7, cp_12, cp_20, cp_30, cp_38, cp_39, cp_40]
          (first | rw [Nx_eq] | rw [Arm_eq] | skip); (try simp_all only [ss_nil, Nx_nil, Arm_nil, sz_0, sz_1, sz_2, sz_3, sz_4, sz_5, sz_6, sz_7, sz_8, sz_9, sz_10, sz_11, sz_12, cp_2, cp_3, cp_4, cp_5, cp_6, cp_7, cp_12, cp_20, cp_30, cp_38, cp_39, cp_40])
          refine ⟨sz1, ?_⟩
          rw [eo]
          simp_all only [ss_nil, Nx_nil, Arm_nil, sz_0, sz_1, sz_2, sz_3, sz_4, sz_5, sz_6, sz_7, sz_8, sz_9, sz_10, sz_11, sz_12, cp_2, cp_3, cp_4, cp_5, cp_6, cp_7, cp_12, cp_20, cp_30, cp_38, cp_39, cp_40, List.length_map, up_up]
          refine ⟨by omega, _, ps ++ [kept ++ [o]], rfl, by rw [List.map_append (f := cellV)]; show _ = up s q (some (.lst (ps.map cellV ++ [PV.tup ((kept ++ [o]).map tV)]))); first | rfl | rw [List.map_append (f := tV)], by rw [List.length_append]; simp; omega, fun p hp => ?_, fun vals hv => ?_⟩
          · rcases List.mem_append.mp hp with hp | hp
            · exact hpo p hp
            · rw [List.mem_singleton.mp hp]
              exact ⟨by omega, wfo, hb2 rfl⟩
          · rw [List.any_append, hpa vals hv, tko]
            simp only [List.any_cons, List.any_nil, Bool.or_false]
            rw [alo]
            cases cell.all (Tt.holds vals) <;> cases (guard.take i).all (Tt.holds vals) <;> cases kept.all (Tt.holds vals) <;> cases ((opp t).take j).any (Tt.holds vals) <;> cases o.holds vals <;> rfl
        | false =>
          simp_all only [ss_nil, Nx_nil, Arm_nil, sz_0, sz_1, sz_2, sz_3, sz_4, sz_5, sz_6, sz_7, sz_8, sz_9, sz_10, sz_11, sz_12, cp_2, cp_3, cp_4, cp_5, cp_6, cp_7, cp_12, cp_20, cp_30, cp_38, cp_39, cp_40]
          refine ⟨_, ps, rfl, rfl, by omega, hpo, fun vals hv => ?_⟩
          have := hb1 rfl vals hv
          rw [alo] at this
          rw [hpa vals hv, tko]
          revert this
          cases cell.all (Tt.holds vals) <;> cases (guard.take i).all (Tt.holds vals) <;> cases kept.all (Tt.holds vals) <;> cases ((opp t).take j).any (Tt.holds vals) <;> cases o.holds vals <;> simp
      · rintro τ st ⟨o5, ps, rfl, rfl, hpl, hpo, hpa⟩
        refine ⟨trivial, ?_⟩
        have j2 := opp_len t
        rw [List.length_map] at hpl
        rw [List.length_map, List.take_length] at hpa
        simp_all only [ss_nil, Nx_nil, Arm_nil, sz_0, sz_1, sz_2, sz_3, sz_4, sz_5, sz_6, sz_7, sz_8, sz_9, sz_10, sz_11, sz_12, cp_2, cp_3, cp_4, cp_5, cp_6, cp_7, cp_12, cp_20, cp_30, cp_38, cp_39, cp_40]
        (first | rw [Nx_eq] | rw [Arm_eq] | skip); (try simp_all only [ss_nil, Nx_nil, Arm_nil, sz_0, sz_1, sz_2, sz_3, sz_4, sz_5, sz_6, sz_7, sz_8, sz_9, sz_10, sz_11, sz_12, cp_2, cp_3, cp_4, cp_5, cp_6, cp_7, cp_12, cp_20, cp_30, cp_38, cp_39, cp_40])
        refine ⟨by rw [List.length_map]; omega, ?_⟩
        rw [kn]
        refine ⟨_, _, ps, rfl, rfl, by omega, hpo, fun vals hv => ?_⟩
        rw [hpa vals hv, opp_any hv, take_one ht, List.all_append, ka]
        simp only [List.all_cons, List.all_nil, Bool.and_true]
        cases cell.all (Tt.holds vals) <;> cases (guard.take i).all (Tt.holds vals) <;> cases t.holds vals <;> rfl
    · rintro τ st ⟨o4, o5, ps, rfl, rfl, hpl, hpo, hpa⟩
      refine ⟨trivial, ?_⟩
      rw [List.length_map] at hpl
      rw [List.length_map, List.take_length] at hpa
      simp_all only [ss_nil, Nx_nil, Arm_nil, sz_0, sz_1, sz_2, sz_3, sz_4, sz_5, sz_6, sz_7, sz_8, sz_9, sz_10, sz_11, sz_12, cp_2, cp_3, cp_4, cp_5, cp_6, cp_7, cp_12, cp_20, cp_30, cp_38, cp_39, cp_40]
      (first | rw [Nx_eq] | rw [Arm_eq] | skip); (try simp_all only [ss_nil, Nx_nil, Arm_nil, sz_0, sz_1, sz_2, sz_3, sz_4, sz_5, sz_6, sz_7, sz_8, sz_9, sz_10, sz_11, sz_12, cp_2, cp_3, cp_4, cp_5, cp_6, cp_7, cp_12, cp_20, cp_30, cp_38, cp_39, cp_40, up_up])
      rw [up_id hq]
      exact ⟨s, .rfl, h ps hpl hpo hpa⟩
  · exact h.elim
end TK

set_option maxRecDepth 100000
set_option maxHeartbeats 4000000
namespace TK
open PySem PySem.Spec PyProof.Rows L2
theorem Sub.trans {s t u : Store} (h : Sub s t) (k : Sub t u) : Sub s u := fun a c e => k a c (h a c e)
/-- a list, frozen or still written -/
def isSeq (st : Store) (v : PV) (xs : List PV) : Prop := v = .lst xs ∨ ∃ q, v = .ref q ∧ st q = some (.lst xs)
theorem isSeq.sub {s t : Store} {v : PV} {xs : List PV} (h : isSeq s v xs) (k : Sub s t) : isSeq t v xs := h.imp id fun ⟨q, a, b⟩ => ⟨q, a, k _ _ b⟩
def sp_cells_outside : PSpec
  | [.tup gs], st, Q, _ => ∃ (k : Nat) (guards : List (List Tt)), gs = guards.map cellV ∧ k ≤ 100 ∧ guards.length ≤ 3 ∧ (∀ g ∈ guards, g.length ≤ 3 ∧ ∀ t ∈ g, wfT k t) ∧
      ∀ cs : List (List Tt), cs.length ≤ 216 → (∀ c ∈ cs, okCell k 9 c) → (∀ vals : List Rat, (∀ x ∈ vals, 0 ≤ x) → cs.any (fun p => p.all (Tt.holds vals)) = guards.all (fun g => !g.all (Tt.holds vals))) → (guards = [] → cs = [[]]) → ([] ∈ guards → cs = []) → Q (.tup (cs.map cellV)) st
  | _, _, _, _ => False
def b_cells_outside_2 : Ss :=
  (.cons (.expr (.meth .extend (.var 3) (.cons (.call "cell_pieces" sp_cell_pieces (.cons (.var 4) (.cons (.var 2) .nil))) .nil))) (.cons (.ite (.cmp .Gt (.blt .len false (.cons (.var 3) .nil)) (.glob "MOST_CELLS" (.int 400))) (.cons .never .nil) .nil) .nil))
def b_cells_outside_1 : Ss :=
  (.cons (.asg (.name 3) (.lst true .nil)) (.cons (.loop (.name 4) (.val (.var 1)) b_cells_outside_2) (.cons (.asg (.name 1) (.var 3)) .nil)))
def b_cells_outside : Ss :=
  (.cons (.asg (.name 1) (.lst false (.cons (.tup .nil) .nil))) (.cons (.loop (.name 2) (.val (.var 0)) b_cells_outside_1) (.cons (.ret (.blt .tuple false (.cons (.var 1) .nil))) .nil)))
def n_cells_outside : List Str := ["guards", "cells", "guard", "left", "cell"]
theorem okCell.mono {k m m' : Nat} {c : List Tt} (h : okCell k m c) (hm : m ≤ m') : okCell k m' c := ⟨Nat.le_trans h.1 hm, h.2.1, h.2.2⟩
theorem pow_six (i : Nat) : 6 ^ (i + 1) = 6 ^ i * 6 := Nat.pow_succ ..
theorem w_cells_outside : ∀ vs s Q X, vs.length = 1 → sp_cells_outside vs s Q X → wpFn n_cells_outside.length b_cells_outside vs s Q X := by
  intro vs s Q X hl h
  unfold sp_cells_outside at h
  split at h
  · rename_i gs
    rw [fn_eq]
    unfold b_cells_outside n_cells_outside
    obtain ⟨k, guards, rfl, hk, hgl, hgs, h⟩ := h
    have sz : 10000 ≤ sizeLine := by decide
    simp_all only [ss_nil, Nx_nil, Arm_nil, sz_0, sz_1, sz_2, sz_3, sz_4, sz_5, sz_6, sz_7, sz_8, sz_9, sz_10, sz_11, sz_12, cp_2, cp_3, cp_4, cp_5, cp_6, cp_7, cp_12, cp_20, cp_30, cp_38, cp_39, cp_40]
    (first | rw [Nx_eq] | rw [Arm_eq] | skip); (try simp_all only [ss_nil, Nx_nil, Arm_nil, sz_0, sz_1, sz_2, sz_3, sz_4, sz_5, sz_6, sz_7, sz_8, sz_9, sz_10, sz_11, sz_12, cp_2, cp_3, cp_4, cp_5, cp_6, cp_7, cp_12, cp_20, cp_30, cp_38, cp_39, cp_40])
    have p63 : 6 ^ 3 = 216 := by decide
    refine for_at (fun i τ st => ∃ (cv : PV) (cs : List (List Tt)) (o2 o3 o4 : Option PV), τ = [some (.tup (guards.map cellV)), some cv, o2, o3, o4] ∧ Sub s st ∧ isSeq st cv (cs.map cellV) ∧ cs.length ≤ 6 ^ i ∧ (∀ c ∈ cs, okCell k (3 * i) c) ∧
        (∀ vals : List Rat, (∀ x ∈ vals, 0 ≤ x) → cs.any (fun p => p.all (Tt.holds vals)) = (guards.take i).all (fun g => !g.all (Tt.holds vals))) ∧ (i = 0 → cs = [[]]) ∧ ([] ∈ guards.take i → cs = [])) ?_ ?_
      ⟨.lst [.tup []], [[]], none, none, none, rfl, .rfl, .inl rfl, by decide, fun c hc => by
        rw [List.mem_singleton.mp hc]
        exact ⟨by simp, fun _ h => (nomatch h), fun _ h => (nomatch h)⟩, fun vals _ => by simp, fun _ => rfl, fun h => by simp at h⟩
    · rintro i v τ st hi ⟨cv, cs, o2, o3, o4, rfl, hs, hcv, hcl, hco, hca, hc0, hce⟩
      obtain ⟨g, rfl, hg⟩ := get_map hi
      have il : i < guards.length := (List.getElem?_eq_some_iff.mp hg).1
      obtain ⟨gl, gw⟩ := hgs g (mem_at hg)
      refine ⟨trivial, ?_⟩
      unfold b_cells_outside_1
      simp_all only [ss_nil, Nx_nil, Arm_nil, sz_0, sz_1, sz_2, sz_3, sz_4, sz_5, sz_6, sz_7, sz_8, sz_9, sz_10, sz_11, sz_12, cp_2, cp_3, cp_4, cp_5, cp_6, cp_7, cp_12, cp_20, cp_30, cp_38, cp_39, cp_40]
      intro q hq
      have sq := sub_new (c := some (.lst [])) hq
      (first | rw [Nx_eq] | rw [Arm_eq] | skip); (try simp_all only [ss_nil, Nx_nil, Arm_nil, sz_0, sz_1, sz_2, sz_3, sz_4, sz_5, sz_6, sz_7, sz_8, sz_9, sz_10, sz_11, sz_12, cp_2, cp_3, cp_4, cp_5, cp_6, cp_7, cp_12, cp_20, cp_30, cp_38, cp_39, cp_40])
      have i3 : 6 ^ i ≤ 36 := by
        have : i = 0 ∨ i = 1 ∨ i = 2 := by omega
        rcases this with rfl | rfl | rfl <;> decide
      have inner : ∀ (ok : Store → Prop) (D : PEnds), (∀ s2, (∀ a, a ≠ q → s2 a = st a) → ok s2) →
          (∀ (τ : Sl) (left : List (List Tt)) (o4 : Option PV), τ = [some (.tup (guards.map cellV)), some cv, some (cellV g), some (.ref q), o4] → left.length ≤ cs.length * 6 → (∀ c ∈ left, okCell k (3 * i + 3) c) → (g = [] → left = []) → (cs = [] → left = []) →
            (∀ vals : List Rat, (∀ x ∈ vals, 0 ≤ x) → left.any (fun p => p.all (Tt.holds vals)) = (cs.any (fun p => p.all (Tt.holds vals)) && !g.all (Tt.holds vals))) → D.nx τ (up st q (some (.lst (left.map cellV))))) →
          forL (.name 4) (wpSs b_cells_outside_2) ok (cs.map cellV) D [some (.tup (guards.map cellV)), some cv, some (cellV g), some (.ref q), o4] (up st q (some (.lst []))) := by
        intro ok D hok hD
        refine for_at (fun j τ s2 => ∃ (o4 : Option PV) (left : List (List Tt)), τ = [some (.tup (guards.map cellV)), some cv, some (cellV g), some (.ref q), o4] ∧ s2 = up st q (some (.lst (left.map cellV))) ∧ left.length ≤ j * 6 ∧ (∀ c ∈ left, okCell k (3 * i + 3) c) ∧ (g = [] → left = []) ∧
            (∀ vals : List Rat, (∀ x ∈ vals, 0 ≤ x) → left.any (fun p => p.all (Tt.holds vals)) = ((cs.take j).any (fun p => p.all (Tt.holds vals)) && !g.all (Tt.holds vals)))) ?_ ?_ ⟨o4, [], rfl, rfl, by simp, fun _ h => (nomatch h), fun _ => rfl, fun vals _ => by simp⟩
        · rintro j v τ s2 hj ⟨o4, left, rfl, rfl, hll, hlo, hle, hla⟩
          obtain ⟨c, rfl, hc⟩ := get_map hj
          have jl : j < cs.length := (List.getElem?_eq_some_iff.mp hc).1
          obtain ⟨c1, c2, c3⟩ := hco c (mem_at hc)
          refine ⟨hok _ fun a ha => up_ne ha, ?_⟩
          unfold b_cells_outside_2
          have ec : cellV c = .tup (c.map tV) := rfl
          have eg : cellV g = .tup (g.map tV) := rfl
          simp_all only [ss_nil, Nx_nil, Arm_nil, sz_0, sz_1, sz_2, sz_3, sz_4, sz_5, sz_6, sz_7, sz_8, sz_9, sz_10, sz_11, sz_12, cp_2, cp_3, cp_4, cp_5, cp_6, cp_7, cp_12, cp_20, cp_30, cp_38, cp_39, cp_40, ec, eg]
          refine callS_of ⟨k, 3 * i, c, g, rfl, rfl, hk, by omega, c1, by omega, c2, gw, fun ps p1 p2 p3 => ?_⟩
          have lt400 : ¬ (400 < (((left ++ ps).length : Nat) : Int)) := by rw [List.length_append]; omega
          have lt400' : (400 < (((left.map cellV ++ ps.map cellV).length : Nat) : Int)) = False := eq_false (by rw [List.length_append, List.length_map, List.length_map, ← List.length_append]; exact lt400)
          have szx : (left.map cellV).length + (ps.map cellV).length ≤ sizeLine := by rw [List.length_map, List.length_map]; omega
          simp_all only [ss_nil, Nx_nil, Arm_nil, sz_0, sz_1, sz_2, sz_3, sz_4, sz_5, sz_6, sz_7, sz_8, sz_9, sz_10, sz_11, sz_12, cp_2, cp_3, cp_4, cp_5, cp_6, cp_7, cp_12, cp_20, cp_30, cp_38, cp_39, cp_40, up_up]
          refine ⟨szx, ?_⟩
          (first | rw [Nx_eq] | rw [Arm_eq] | skip); (try simp_all only [ss_nil, Nx_nil, Arm_nil, sz_0, sz_1, sz_2, sz_3, sz_4, sz_5, sz_6, sz_7, sz_8, sz_9, sz_10, sz_11, sz_12, cp_2, cp_3, cp_4, cp_5, cp_6, cp_7, cp_12, cp_20, cp_30, cp_38, cp_39, cp_40, lt400'])
          refine ⟨_, left ++ ps, by rw [← eg], by rw [List.map_append], by rw [List.length_append]; omega, fun z hz => ?_, fun e => ?_, fun vals hv => ?_⟩
          · rcases List.mem_append.mp hz with hz | hz
            · exact hlo z hz
            · exact (p2 z hz).mono (by omega)
          · subst e
            have : ps = [] := List.eq_nil_of_length_eq_zero (by simpa using p1)
            rw [hle rfl, this]; rfl
          · rw [List.any_append, hla vals hv, p3 vals hv, take_one hc, List.any_append]
            simp only [List.any_cons, List.any_nil, Bool.or_false]
            cases (cs.take j).any (fun p => p.all (Tt.holds vals)) <;> cases c.all (Tt.holds vals) <;> cases g.all (Tt.holds vals) <;> rfl
        · rintro τ s2 ⟨o4, left, rfl, rfl, hll, hlo, hle, hla⟩
          rw [List.length_map] at hll
          rw [List.length_map, List.take_length] at hla
          exact ⟨hok _ fun a ha => up_ne ha, hD _ left o4 rfl hll hlo hle (fun e => by subst e; exact List.eq_nil_of_length_eq_zero (by simpa using hll)) hla⟩
      have after : ∀ (τ : Sl) (left : List (List Tt)) (o4 : Option PV), τ = [some (.tup (guards.map cellV)), some cv, some (cellV g), some (.ref q), o4] → left.length ≤ cs.length * 6 → (∀ c ∈ left, okCell k (3 * i + 3) c) → (g = [] → left = []) → (cs = [] → left = []) →
          (∀ vals : List Rat, (∀ x ∈ vals, 0 ≤ x) → left.any (fun p => p.all (Tt.holds vals)) = (cs.any (fun p => p.all (Tt.holds vals)) && !g.all (Tt.holds vals))) →
          ∃ (cv : PV) (cs : List (List Tt)) (o2 o3 o4' : Option PV), [some (.tup (guards.map cellV)), some (.ref q), some (cellV g), some (.ref q), o4] = [some (.tup (guards.map cellV)), some cv, o2, o3, o4'] ∧ Sub s (up st q (some (.lst (left.map cellV)))) ∧ isSeq (up st q (some (.lst (left.map cellV)))) cv (cs.map cellV) ∧ cs.length ≤ 6 ^ (i + 1) ∧ (∀ c ∈ cs, okCell k (3 * (i + 1)) c) ∧
            (∀ vals : List Rat, (∀ x ∈ vals, 0 ≤ x) → cs.any (fun p => p.all (Tt.holds vals)) = (guards.take (i + 1)).all (fun g => !g.all (Tt.holds vals))) ∧ ([] ∈ guards.take (i + 1) → cs = []) := by
        intro τ left o4 _ h1 h2 h3 h4 h5
        refine ⟨_, left, _, _, _, rfl, hs.trans (sub_new hq), .inr ⟨q, rfl, up_same⟩, by rw [pow_six]; omega, fun c hc => (h2 c hc).mono (by omega), fun vals hv => ?_, fun hm => ?_⟩
        · rw [h5 vals hv, hca vals hv, take_one hg, List.all_append]
          simp
        · rw [take_one hg] at hm
          rcases List.mem_append.mp hm with hm | hm
          · exact h4 (hce hm)
          · exact h3 (List.mem_singleton.mp hm).symm
      rcases hcv with rfl | ⟨q0, rfl, hq0⟩
      · simp_all only [ss_nil, Nx_nil, Arm_nil, sz_0, sz_1, sz_2, sz_3, sz_4, sz_5, sz_6, sz_7, sz_8, sz_9, sz_10, sz_11, sz_12, cp_2, cp_3, cp_4, cp_5, cp_6, cp_7, cp_12, cp_20, cp_30, cp_38, cp_39, cp_40]
        refine inner _ _ (fun _ _ => trivial) fun τ left o4 e h1 h2 h3 h4 h5 => ?_
        subst e
        simp_all only [ss_nil, Nx_nil, Arm_nil, sz_0, sz_1, sz_2, sz_3, sz_4, sz_5, sz_6, sz_7, sz_8, sz_9, sz_10, sz_11, sz_12, cp_2, cp_3, cp_4, cp_5, cp_6, cp_7, cp_12, cp_20, cp_30, cp_38, cp_39, cp_40]
        (first | rw [Nx_eq] | rw [Arm_eq] | skip); (try simp_all only [ss_nil, Nx_nil, Arm_nil, sz_0, sz_1, sz_2, sz_3, sz_4, sz_5, sz_6, sz_7, sz_8, sz_9, sz_10, sz_11, sz_12, cp_2, cp_3, cp_4, cp_5, cp_6, cp_7, cp_12, cp_20, cp_30, cp_38, cp_39, cp_40])
        exact after _ left o4 rfl h1 h2 h3 h4 h5
      · have ne : q0 ≠ q := fun z => by rw [z, hq] at hq0; cases hq0
        have hq1 : up st q (some (.lst [])) q0 = some (.lst (cs.map cellV)) := by rw [up_ne ne]; exact hq0
        simp_all only [ss_nil, Nx_nil, Arm_nil, sz_0, sz_1, sz_2, sz_3, sz_4, sz_5, sz_6, sz_7, sz_8, sz_9, sz_10, sz_11, sz_12, cp_2, cp_3, cp_4, cp_5, cp_6, cp_7, cp_12, cp_20, cp_30, cp_38, cp_39, cp_40, hq1]
        refine inner _ _ (fun s2 h2 => (h2 q0 ne).trans hq0) fun τ left o4 e h1 h2 h3 h4 h5 => ?_
        subst e
        simp_all only [ss_nil, Nx_nil, Arm_nil, sz_0, sz_1, sz_2, sz_3, sz_4, sz_5, sz_6, sz_7, sz_8, sz_9, sz_10, sz_11, sz_12, cp_2, cp_3, cp_4, cp_5, cp_6, cp_7, cp_12, cp_20, cp_30, cp_38, cp_39, cp_40]
        (first | rw [Nx_eq] | rw [Arm_eq] | skip); (try simp_all only [ss_nil, Nx_nil, Arm_nil, sz_0, sz_1, sz_2, sz_3, sz_4, sz_5, sz_6, sz_7, sz_8, sz_9, sz_10, sz_11, sz_12, cp_2, cp_3, cp_4, cp_5, cp_6, cp_7, cp_12, cp_20, cp_30, cp_38, cp_39, cp_40])
        exact after _ left o4 rfl h1 h2 h3 h4 h5
    · rintro τ st ⟨cv, cs, o2, o3, o4, rfl, hs, hcv, hcl, hco, hca, hc0, hce⟩
      refine ⟨trivial, ?_⟩
      rw [List.length_map] at hcl hco hca hc0 hce
      rw [List.take_length] at hca hce
      have hcl' : cs.length ≤ 216 := by
        have : guards.length = 0 ∨ guards.length = 1 ∨ guards.length = 2 ∨ guards.length = 3 := by omega
        rcases this with e | e | e | e <;> rw [e] at hcl <;> omega
      have fin := h cs hcl' (fun c hc => (hco c hc).mono (by omega)) hca (fun e => hc0 (by rw [e]; rfl)) hce
      simp_all only [ss_nil, Nx_nil, Arm_nil, sz_0, sz_1, sz_2, sz_3, sz_4, sz_5, sz_6, sz_7, sz_8, sz_9, sz_10, sz_11, sz_12, cp_2, cp_3, cp_4, cp_5, cp_6, cp_7, cp_12, cp_20, cp_30, cp_38, cp_39, cp_40]
      rcases hcv with rfl | ⟨q0, rfl, hq0⟩
      · (first | rw [Nx_eq] | rw [Arm_eq] | skip); (try simp_all only [ss_nil, Nx_nil, Arm_nil, sz_0, sz_1, sz_2, sz_3, sz_4, sz_5, sz_6, sz_7, sz_8, sz_9, sz_10, sz_11, sz_12, cp_2, cp_3, cp_4, cp_5, cp_6, cp_7, cp_12, cp_20, cp_30, cp_38, cp_39, cp_40])
        exact ⟨s, hs, fin⟩
      · (first | rw [Nx_eq] | rw [Arm_eq] | skip); (try simp_all only [ss_nil, Nx_nil, Arm_nil, sz_0, sz_1, sz_2, sz_3, sz_4, sz_5, sz_6, sz_7, sz_8, sz_9, sz_10, sz_11, sz_12, cp_2, cp_3, cp_4, cp_5, cp_6, cp_7, cp_12, cp_20, cp_30, cp_38, cp_39, cp_40, hq0])
        exact ⟨s, hs, fin⟩
  · exact h.elim
/-! ### plain values -/
mutual
def nod : PV → Nat
  | .tup xs => 1 + nods xs
  | _ => 1
def nods : List PV → Nat
  | [] => 0
  | x :: r => nod x + nods r
end
mutual
def plnV : PV → Bool
  | .tup xs => plnVs xs
  | .int _ => true
  | .str _ => true
  | _ => false
def plnVs : List PV → Bool
  | [] => true
  | x :: r => plnV x && plnVs r
end
theorem nods_app : ∀ xs ys, nods (xs ++ ys) = nods xs + nods ys
  | [], ys => by simp [nods]
  | x :: r, ys => by
    rw [List.cons_append, nods, nods, nods_app r ys]; omega
theorem plns_app : ∀ xs ys, plnVs (xs ++ ys) = (plnVs xs && plnVs ys)
  | [], ys => by simp [plnVs]
  | x :: r, ys => by
    rw [List.cons_append, plnVs, plnVs, plns_app r ys, Bool.and_assoc]
theorem len_nods : ∀ xs : List PV, xs.length ≤ nods xs
  | [] => by simp
  | x :: r => by
    have := len_nods r
    rw [List.length_cons, nods]
    have h1 : 1 ≤ nod x := by cases x <;> simp [nod]
    omega
def sp__law_plain : PSpec
  | [v, .lst ks], st, Q, _ => ks = [.str "int", .str "str"] ∧ plnV v = true ∧ nod v ≤ 19999 ∧ Q (.bl true) st
  | _, _, _, _ => False
def b__law_plain_1 : Ss :=
  (.cons (.ite (.cmp .Eq (.blt .len false (.cons (.var 2) .nil)) (.int 0)) (.cons (.ret (.bl true)) .nil) .nil) (.cons (.asg (.name 4) (.meth .pop (.var 2) .nil)) (.cons (.ite (.val (.isi (.var 4) "tuple")) (.cons (.expr (.meth .extend (.var 2) (.cons (.blt .list false (.cons (.var 4) .nil)) .nil))) .nil) (.cons (.ite (.val (.isi (.var 4) "bool")) (.cons (.ite (.cmp .NotIn (.str "bool") (.var 1)) (.cons (.ret (.bl false)) .nil) .nil) .nil) (.cons (.ite (.val (.isi (.var 4) "int")) (.cons (.ite (.cmp .NotIn (.str "int") (.var 1)) (.cons (.ret (.bl false)) .nil) .nil) .nil) (.cons (.ite (.val (.isi (.var 4) "str")) (.cons (.ite (.cmp .NotIn (.str "str") (.var 1)) (.cons (.ret (.bl false)) .nil) .nil) .nil) (.cons (.ite (.cmp .Is (.var 4) .non) (.cons (.ite (.cmp .NotIn (.str "None") (.var 1)) (.cons (.ret (.bl false)) .nil) .nil) .nil) (.cons (.ret (.bl false)) .nil)) .nil)) .nil)) .nil)) .nil)) .nil)))
def b__law_plain : Ss :=
  (.cons (.asg (.name 2) (.lst true (.cons (.var 0) .nil))) (.cons (.loop (.name 3) (.range1 (.int 20000)) b__law_plain_1) (.cons (.ret (.cmp .Eq (.blt .len false (.cons (.var 2) .nil)) (.int 0))) .nil)))
def n__law_plain : List Str := ["value", "kinds", "todo", "turn", "one"]
theorem any_strs (z : Str) : ∀ l : List Str, ((l.map PV.str).any fun y => eqv y (.str z)) = l.any fun a => decide (a = z)
  | [] => rfl
  | a :: r => by
    have e : eqv (.str a) (.str z) = decide (a = z) := by unfold eqv; rfl
    rw [List.map_cons, List.any_cons, List.any_cons, any_strs z r, e]
theorem w__law_plain : ∀ vs s Q X, vs.length = 2 → sp__law_plain vs s Q X → wpFn n__law_plain.length b__law_plain vs s Q X := by
  intro vs s Q X hl h
  unfold sp__law_plain at h
  split at h
  · rename_i v ks
    rw [fn_eq]
    unfold b__law_plain n__law_plain
    obtain ⟨rfl, hp, hn, h⟩ := h
    have sz : 30000 ≤ sizeLine := by decide
    simp_all only [ss_nil, Nx_nil, Arm_nil, sz_0, sz_1, sz_2, sz_3, sz_4, sz_5, sz_6, sz_7, sz_8, sz_9, sz_10, sz_11, sz_12, cp_2, cp_3, cp_4, cp_5, cp_6, cp_7, cp_12, cp_20, cp_30, cp_38, cp_39, cp_40]
    intro q hq
    (first | rw [Nx_eq] | rw [Arm_eq] | skip); (try simp_all only [ss_nil, Nx_nil, Arm_nil, sz_0, sz_1, sz_2, sz_3, sz_4, sz_5, sz_6, sz_7, sz_8, sz_9, sz_10, sz_11, sz_12, cp_2, cp_3, cp_4, cp_5, cp_6, cp_7, cp_12, cp_20, cp_30, cp_38, cp_39, cp_40])
    refine ⟨by unfold R62; decide, ?_⟩
    have k1 : (([PV.str "int", PV.str "str"]).any fun y => eqv y (.str ("int" : Str))) = true := (any_strs "int" ["int", "str"]).trans (by decide)
    have k2 : (([PV.str "int", PV.str "str"]).any fun y => eqv y (.str ("str" : Str))) = true := (any_strs "str" ["int", "str"]).trans (by decide)
    have t0 : (("tuple" : Str) == ("tuple" : Str)) = true := by decide
    have t1 : (("tuple" : Str) == ("int" : Str)) = false := by decide
    have t2 : (("bool" : Str) == ("int" : Str)) = false := by decide
    have t3 : (("int" : Str) == ("int" : Str)) = true := by decide
    have t4 : (("tuple" : Str) == ("str" : Str)) = false := by decide
    have t5 : (("bool" : Str) == ("str" : Str)) = false := by decide
    have t6 : (("int" : Str) == ("str" : Str)) = false := by decide
    have t7 : (("str" : Str) == ("str" : Str)) = true := by decide
    refine for_at (fun i τ st => ∃ (todo : List PV) (o3 o4 : Option PV), τ = [some v, some (.lst [.str "int", .str "str"]), some (.ref q), o3, o4] ∧ st = up s q (some (.lst todo)) ∧ plnVs todo = true ∧ i + nods todo = nod v) ?_ ?_ ⟨[v], none, none, rfl, rfl, by simp [plnVs, hp], by simp [nods]⟩
    · rintro i w τ st hi ⟨todo, o3, o4, rfl, rfl, hpl, hno⟩
      obtain ⟨i1, rfl⟩ := get_rng hi
      refine ⟨trivial, ?_⟩
      unfold b__law_plain_1
      rcases List.eq_nil_or_concat todo with e | ⟨ys, y, e⟩
      · subst e
        simp_all only [ss_nil, Nx_nil, Arm_nil, sz_0, sz_1, sz_2, sz_3, sz_4, sz_5, sz_6, sz_7, sz_8, sz_9, sz_10, sz_11, sz_12, cp_2, cp_3, cp_4, cp_5, cp_6, cp_7, cp_12, cp_20, cp_30, cp_38, cp_39, cp_40]
        (first | rw [Nx_eq] | rw [Arm_eq] | skip); (try simp_all only [ss_nil, Nx_nil, Arm_nil, sz_0, sz_1, sz_2, sz_3, sz_4, sz_5, sz_6, sz_7, sz_8, sz_9, sz_10, sz_11, sz_12, cp_2, cp_3, cp_4, cp_5, cp_6, cp_7, cp_12, cp_20, cp_30, cp_38, cp_39, cp_40])
        exact ⟨s, sub_new hq, h⟩
      · rw [List.concat_eq_append] at e
        subst e
        have ln : (((ys ++ [y]).length : Nat) : Int) = 0 ↔ False := by rw [List.length_append]; simp; omega
        have at_ : (ys ++ [y])[(ys ++ [y]).length - 1]? = some y := by simp
        have dl : (ys ++ [y]).dropLast = ys := by simp
        rw [plns_app, Bool.and_eq_true] at hpl
        rw [nods_app] at hno
        obtain ⟨hp1, hp2⟩ := hpl
        have hp2 : plnV y = true := by simpa [plnVs] using hp2
        have hno2 : i + (nods ys + nod y) = nod v := by simpa [nods] using hno
        have fin : ∀ zs, plnVs zs = true → nods zs + 1 = nod y → (ys.length + zs.length ≤ sizeLine) ∧ ∃ (todo : List PV) (o3 o4 : Option PV), [some v, some (.lst [.str "int", .str "str"]), some (.ref q), some (PV.int (0 + (i : Int))), some y] = [some v, some (.lst [.str "int", .str "str"]), some (.ref q), o3, o4] ∧ up s q (some (.lst (ys ++ zs))) = up s q (some (.lst todo)) ∧ plnVs todo = true ∧ i + 1 + nods todo = nod v := by
          intro zs hz1 hz2
          have l1 := len_nods ys
          have l2 := len_nods zs
          refine ⟨by omega, ys ++ zs, _, _, rfl, rfl, by rw [plns_app, hp1, hz1]; rfl, by rw [nods_app]; omega⟩
        simp_all only [ss_nil, Nx_nil, Arm_nil, sz_0, sz_1, sz_2, sz_3, sz_4, sz_5, sz_6, sz_7, sz_8, sz_9, sz_10, sz_11, sz_12, cp_2, cp_3, cp_4, cp_5, cp_6, cp_7, cp_12, cp_20, cp_30, cp_38, cp_39, cp_40, ln]
        (first | rw [Nx_eq] | rw [Arm_eq] | skip); (try simp_all only [ss_nil, Nx_nil, Arm_nil, sz_0, sz_1, sz_2, sz_3, sz_4, sz_5, sz_6, sz_7, sz_8, sz_9, sz_10, sz_11, sz_12, cp_2, cp_3, cp_4, cp_5, cp_6, cp_7, cp_12, cp_20, cp_30, cp_38, cp_39, cp_40, at_, dl, up_up])
        cases y with
        | tup zs =>
          obtain ⟨f1, f2⟩ := fin zs (by simpa [plnV] using hp2) (by simp [nod]; omega)
          (first | rw [Nx_eq] | rw [Arm_eq] | skip); (try simp_all only [ss_nil, Nx_nil, Arm_nil, sz_0, sz_1, sz_2, sz_3, sz_4, sz_5, sz_6, sz_7, sz_8, sz_9, sz_10, sz_11, sz_12, cp_2, cp_3, cp_4, cp_5, cp_6, cp_7, cp_12, cp_20, cp_30, cp_38, cp_39, cp_40, t0])
          (first | rw [Nx_eq] | rw [Arm_eq] | skip); (try simp_all only [ss_nil, Nx_nil, Arm_nil, sz_0, sz_1, sz_2, sz_3, sz_4, sz_5, sz_6, sz_7, sz_8, sz_9, sz_10, sz_11, sz_12, cp_2, cp_3, cp_4, cp_5, cp_6, cp_7, cp_12, cp_20, cp_30, cp_38, cp_39, cp_40, up_up])
          exact ⟨f1, f2⟩
        | int n =>
          obtain ⟨f1, f2⟩ := fin [] (by simp [plnVs]) (by simp [nods, nod])
          rw [List.append_nil] at f2
          (first | rw [Nx_eq] | rw [Arm_eq] | skip); (try simp_all only [ss_nil, Nx_nil, Arm_nil, sz_0, sz_1, sz_2, sz_3, sz_4, sz_5, sz_6, sz_7, sz_8, sz_9, sz_10, sz_11, sz_12, cp_2, cp_3, cp_4, cp_5, cp_6, cp_7, cp_12, cp_20, cp_30, cp_38, cp_39, cp_40, t1])
          (first | rw [Nx_eq] | rw [Arm_eq] | skip); (try simp_all only [ss_nil, Nx_nil, Arm_nil, sz_0, sz_1, sz_2, sz_3, sz_4, sz_5, sz_6, sz_7, sz_8, sz_9, sz_10, sz_11, sz_12, cp_2, cp_3, cp_4, cp_5, cp_6, cp_7, cp_12, cp_20, cp_30, cp_38, cp_39, cp_40, t2])
          (first | rw [Nx_eq] | rw [Arm_eq] | skip); (try simp_all only [ss_nil, Nx_nil, Arm_nil, sz_0, sz_1, sz_2, sz_3, sz_4, sz_5, sz_6, sz_7, sz_8, sz_9, sz_10, sz_11, sz_12, cp_2, cp_3, cp_4, cp_5, cp_6, cp_7, cp_12, cp_20, cp_30, cp_38, cp_39, cp_40, t3])
          (first | rw [Nx_eq] | rw [Arm_eq] | skip); (try simp_all only [ss_nil, Nx_nil, Arm_nil, sz_0, sz_1, sz_2, sz_3, sz_4, sz_5, sz_6, sz_7, sz_8, sz_9, sz_10, sz_11, sz_12, cp_2, cp_3, cp_4, cp_5, cp_6, cp_7, cp_12, cp_20, cp_30, cp_38, cp_39, cp_40, k1, isSc, List.all_cons, List.all_nil, Bool.and_self])
          exact f2
        | str x =>
          obtain ⟨f1, f2⟩ := fin [] (by simp [plnVs]) (by simp [nods, nod])
          rw [List.append_nil] at f2
          (first | rw [Nx_eq] | rw [Arm_eq] | skip); (try simp_all only [ss_nil, Nx_nil, Arm_nil, sz_0, sz_1, sz_2, sz_3, sz_4, sz_5, sz_6, sz_7, sz_8, sz_9, sz_10, sz_11, sz_12, cp_2, cp_3, cp_4, cp_5, cp_6, cp_7, cp_12, cp_20, cp_30, cp_38, cp_39, cp_40, t4])
          (first | rw [Nx_eq] | rw [Arm_eq] | skip); (try simp_all only [ss_nil, Nx_nil, Arm_nil, sz_0, sz_1, sz_2, sz_3, sz_4, sz_5, sz_6, sz_7, sz_8, sz_9, sz_10, sz_11, sz_12, cp_2, cp_3, cp_4, cp_5, cp_6, cp_7, cp_12, cp_20, cp_30, cp_38, cp_39, cp_40, t5])
          (first | rw [Nx_eq] | rw [Arm_eq] | skip); (try simp_all only [ss_nil, Nx_nil, Arm_nil, sz_0, sz_1, sz_2, sz_3, sz_4, sz_5, sz_6, sz_7, sz_8, sz_9, sz_10, sz_11, sz_12, cp_2, cp_3, cp_4, cp_5, cp_6, cp_7, cp_12, cp_20, cp_30, cp_38, cp_39, cp_40, t6])
          (first | rw [Nx_eq] | rw [Arm_eq] | skip); (try simp_all only [ss_nil, Nx_nil, Arm_nil, sz_0, sz_1, sz_2, sz_3, sz_4, sz_5, sz_6, sz_7, sz_8, sz_9, sz_10, sz_11, sz_12, cp_2, cp_3, cp_4, cp_5, cp_6, cp_7, cp_12, cp_20, cp_30, cp_38, cp_39, cp_40, t7])
          (first | rw [Nx_eq] | rw [Arm_eq] | skip); (try simp_all only [ss_nil, Nx_nil, Arm_nil, sz_0, sz_1, sz_2, sz_3, sz_4, sz_5, sz_6, sz_7, sz_8, sz_9, sz_10, sz_11, sz_12, cp_2, cp_3, cp_4, cp_5, cp_6, cp_7, cp_12, cp_20, cp_30, cp_38, cp_39, cp_40, k2, isSc, List.all_cons, List.all_nil, Bool.and_self])
          exact f2
        | _ => simp [plnV] at hp2
    · rintro τ st ⟨todo, o3, o4, rfl, rfl, hpl, hno⟩
      rw [rng_len] at hno
      have : (20000 : Int).toNat = 20000 := rfl
      omega
  · exact h.elim
end TK

set_option maxRecDepth 100000
set_option maxHeartbeats 4000000
namespace TK
open PySem PySem.Spec PyProof.Rows L2
/-! ### the law's own look at cells -/
theorem v_neSS {x y : Str} {st : Store} {Q : PQ} : cmpV .NotEq (.str x) (.str y) st Q = Q (.bl (!decide (x = y))) st := by
  show (eqOk st (.str x) (.str y) ∧ Q (.bl (!eqv (.str x) (.str y))) st) = _
  rw [show eqv (.str x) (.str y) = decide (x = y) by unfold eqv; rfl]
  exact propext ⟨fun h => h.2, fun h => ⟨.inl rfl, h⟩⟩
theorem mem_lo (sg : Sg) : (([PV.str ">", PV.str ">=", PV.str "="]).any fun y => eqv y (.str (sgS sg))) = decide (sg = .gt ∨ sg = .ge ∨ sg = .eq) := by
  rw [show [PV.str ">", PV.str ">=", PV.str "="] = ([(">" : Str), ">=", "="]).map PV.str from rfl, any_strs]
  cases sg <;> decide
theorem mem_hi (sg : Sg) : (([PV.str "<", PV.str "<=", PV.str "="]).any fun y => eqv y (.str (sgS sg))) = decide (sg = .lt ∨ sg = .le ∨ sg = .eq) := by
  rw [show [PV.str "<", PV.str "<=", PV.str "="] = ([("<" : Str), "<=", "="]).map PV.str from rfl, any_strs]
  cases sg <;> decide
theorem mem_all (sg : Sg) : (([PV.str "<", PV.str "<=", PV.str "=", PV.str ">=", PV.str ">"]).any fun y => eqv y (.str (sgS sg))) = true := by
  rw [show [PV.str "<", PV.str "<=", PV.str "=", PV.str ">=", PV.str ">"] = ([("<" : Str), "<=", "=", ">=", ">"]).map PV.str from rfl, any_strs]
  cases sg <;> decide
def e2 (b : Bool) : Int := if b = true then 1 else 0
def LowOk (ts : List Tt) (c : Nat) (l : Int) (b : Bool) : Prop := (l = 0 ∧ b = true) ∨ ∃ t ∈ ts, t.c = c ∧ loC t = some (2 * (-l) + e2 b)
def HighOk (ts : List Tt) (c : Nat) (l : Int) (b : Bool) : Prop := ∃ t ∈ ts, t.c = c ∧ upC t = some (2 * l + e2 b)
theorem noconf {ts : List Tt} {c : Nat} {l h : Int} {lb hb : Bool} (k : Compat ts) (hl : LowOk ts c l lb) (hh : HighOk ts c h hb) : ¬ h < l ∧ ¬ (h = l ∧ ¬ (lb = true ∧ hb = true)) := by
  obtain ⟨t1, ht1, ec, ea⟩ := hh
  obtain ⟨k1, k2⟩ := k t1 ht1 _ ea
  rcases hl with ⟨rfl, rfl⟩ | ⟨t2, ht2, ec2, eb⟩
  · cases hb <;> simp only [e2] at k1 <;> refine ⟨by omega, fun z => ?_⟩
    · have := z.1; simp at k1; omega
    · exact z.2 ⟨rfl, rfl⟩
  · have := k2 t2 ht2 (ec2.trans ec.symm) _ eb _ rfl
    cases lb <;> cases hb <;> simp only [e2] at this <;> refine ⟨?_, fun z => ?_⟩ <;> first | (exact z.2 ⟨rfl, rfl⟩) | (have z1 := z.1; simp at this; split at this <;> omega) | (simp at this; split at this <;> omega) | (simp at this; omega) | (have z1 := z.1; simp at this; omega)
def hiV : Option (Int × Bool) → PV
  | none => .non
  | some p => .tup [.int p.1, .bl p.2]
def sp__law_can_meet : PSpec
  | [.tup xs], st, Q, _ => ∃ ts : List Tt, xs = ts.map tV ∧ ts.length ≤ 1000 ∧ (∀ t ∈ ts, 1 ≤ t.c ∧ t.c ≤ 100) ∧ Compat ts ∧ Q (.bl true) st
  | _, _, _, _ => False
def b__law_can_meet_2 : Ss :=
  (.cons (.ite (.cmp .In (.idx (.var 4) (.int 1)) (.lst false (.cons (.str ">") (.cons (.str ">=") (.cons (.str "=") .nil))))) (.cons (.ite (.bools .Or (.cons (.cmp .Gt (.idx (.var 4) (.int 2)) (.idx (.var 2) (.int 0))) (.cons (.bools .And (.cons (.cmp .Eq (.idx (.var 4) (.int 2)) (.idx (.var 2) (.int 0))) (.cons (.cmp .Eq (.idx (.var 4) (.int 1)) (.str ">")) .nil))) .nil))) (.cons (.asg (.name 2) (.tup (.cons (.idx (.var 4) (.int 2)) (.cons (.cmp .NotEq (.idx (.var 4) (.int 1)) (.str ">")) .nil)))) .nil) .nil) .nil) .nil) (.cons (.ite (.cmp .In (.idx (.var 4) (.int 1)) (.lst false (.cons (.str "<") (.cons (.str "<=") (.cons (.str "=") .nil))))) (.cons (.ite (.bools .Or (.cons (.cmp .Is (.var 3) .non) (.cons (.cmp .Lt (.idx (.var 4) (.int 2)) (.idx (.var 3) (.int 0))) (.cons (.bools .And (.cons (.cmp .Eq (.idx (.var 4) (.int 2)) (.idx (.var 3) (.int 0))) (.cons (.cmp .Eq (.idx (.var 4) (.int 1)) (.str "<")) .nil))) .nil)))) (.cons (.asg (.name 3) (.tup (.cons (.idx (.var 4) (.int 2)) (.cons (.cmp .NotEq (.idx (.var 4) (.int 1)) (.str "<")) .nil)))) .nil) .nil) .nil) .nil) .nil))
def b__law_can_meet_1 : Ss :=
  (.cons (.asg (.name 2) (.tup (.cons (.int 0) (.cons (.bl true) .nil)))) (.cons (.asg (.name 3) .non) (.cons (.loop (.name 4) (.val (.comp false [5] (.name 5) (.val (.var 0)) (.cons (.cmp .Eq (.idx (.var 5) (.int 0)) (.var 1)) .nil) (.var 5))) b__law_can_meet_2) (.cons (.ite (.bools .And (.cons (.cmp .IsNot (.var 3) .non) (.cons (.bools .Or (.cons (.cmp .Lt (.idx (.var 3) (.int 0)) (.idx (.var 2) (.int 0))) (.cons (.bools .And (.cons (.cmp .Eq (.idx (.var 3) (.int 0)) (.idx (.var 2) (.int 0))) (.cons (.not (.bools .And (.cons (.val (.idx (.var 2) (.int 1))) (.cons (.val (.idx (.var 3) (.int 1))) .nil)))) .nil))) .nil))) .nil))) (.cons (.ret (.bl false)) .nil) .nil) .nil))))
def b__law_can_meet : Ss :=
  (.cons (.loop (.name 1) (.range2 (.int 1) (.bin .Add false (.blt .max false (.cons (.bin .Add false (.lst false (.cons (.int 0) .nil)) (.comp false [4] (.name 4) (.val (.var 0)) .nil (.idx (.var 4) (.int 0)))) .nil)) (.int 1))) b__law_can_meet_1) (.cons (.ret (.bl true)) .nil))
def n__law_can_meet : List Str := ["tests", "clock", "low", "high", "test", "one"]
theorem w__law_can_meet : ∀ vs s Q X, vs.length = 1 → sp__law_can_meet vs s Q X → wpFn n__law_can_meet.length b__law_can_meet vs s Q X := by
  intro vs s Q X hl h
  unfold sp__law_can_meet at h
  split at h
  · rename_i xs
    rw [fn_eq]
    unfold b__law_can_meet n__law_can_meet
    obtain ⟨ts, rfl, htl, hts, hcm, h⟩ := h
    have sz : 10000 ≤ sizeLine := by decide
    simp_all only [ss_nil, Nx_nil, Arm_nil, sz_0, sz_1, sz_2, sz_3, sz_4, sz_5, sz_6, sz_7, sz_8, sz_9, sz_10, sz_11, sz_12, cp_2, cp_3, cp_4, cp_5, cp_6, cp_7, cp_12, cp_20, cp_30, cp_38, cp_39, cp_40]
    refine lc_enc (fun t : Tt => .int t.c) ts (fun τ1 st' Q q => by simp_all only [ss_nil, Nx_nil, Arm_nil, sz_0, sz_1, sz_2, sz_3, sz_4, sz_5, sz_6, sz_7, sz_8, sz_9, sz_10, sz_11, sz_12, cp_2, cp_3, cp_4, cp_5, cp_6, cp_7, cp_12, cp_20, cp_30, cp_38, cp_39, cp_40]; exact q) (fun t ht => ⟨_, rfl, fun st' sub K hK => ?_⟩) ?_
    · simp_all only [ss_nil, Nx_nil, Arm_nil, sz_0, sz_1, sz_2, sz_3, sz_4, sz_5, sz_6, sz_7, sz_8, sz_9, sz_10, sz_11, sz_12, cp_2, cp_3, cp_4, cp_5, cp_6, cp_7, cp_12, cp_20, cp_30, cp_38, cp_39, cp_40, tV]
      exact hK
    have ei : intsOf (PV.int 0 :: ts.map fun t : Tt => PV.int t.c) = some (0 :: ts.map fun t : Tt => (t.c : Int)) := by
      show (intsOf (ts.map fun t : Tt => PV.int (t.c : Int))).map (0 :: ·) = _
      rw [ints_map (fun t : Tt => (t.c : Int)) ts]; rfl
    have mx := maxL_mem (ns := 0 :: ts.map fun t : Tt => (t.c : Int)) (by simp)
    have m0 := maxL_ge (ns := 0 :: ts.map fun t : Tt => (t.c : Int)) 0 List.mem_cons_self
    have m1 : maxL (0 :: ts.map fun t : Tt => (t.c : Int)) ≤ 100 := by
      rcases List.mem_cons.mp mx with e | e
      · rw [e]; decide
      · obtain ⟨t, ht, e⟩ := List.mem_map.mp e
        rw [← e]
        have := (hts t ht).2
        omega
    simp_all only [ss_nil, Nx_nil, Arm_nil, sz_0, sz_1, sz_2, sz_3, sz_4, sz_5, sz_6, sz_7, sz_8, sz_9, sz_10, sz_11, sz_12, cp_2, cp_3, cp_4, cp_5, cp_6, cp_7, cp_12, cp_20, cp_30, cp_38, cp_39, cp_40, List.length_map, ei]
    refine ⟨by omega, by simp, ?_⟩
    revert m0 m1
    generalize maxL (0 :: ts.map fun t : Tt => (t.c : Int)) = m
    intro m0 m1
    refine ⟨by unfold R62; omega, by unfold R62; omega, ?_⟩
    refine for_at (fun i τ st => st = s ∧ ∃ o1 o2 o3 o4 : Option PV, τ = [some (.tup (ts.map tV)), o1, o2, o3, o4, none]) ?_ ?_ ⟨rfl, _, _, _, _, rfl⟩
    · rintro i v τ st hi ⟨rfl, o1, o2, o3, o4, rfl⟩
      obtain ⟨i1, rfl⟩ := get_rng hi
      refine ⟨trivial, ?_⟩
      have ec : (1 : Int) + (i : Int) = ((i + 1 : Nat) : Int) := by omega
      rw [ec]
      unfold b__law_can_meet_1
      simp_all only [ss_nil, Nx_nil, Arm_nil, sz_0, sz_1, sz_2, sz_3, sz_4, sz_5, sz_6, sz_7, sz_8, sz_9, sz_10, sz_11, sz_12, cp_2, cp_3, cp_4, cp_5, cp_6, cp_7, cp_12, cp_20, cp_30, cp_38, cp_39, cp_40]
      (first | rw [Nx_eq] | rw [Arm_eq] | skip); (try simp_all only [ss_nil, Nx_nil, Arm_nil, sz_0, sz_1, sz_2, sz_3, sz_4, sz_5, sz_6, sz_7, sz_8, sz_9, sz_10, sz_11, sz_12, cp_2, cp_3, cp_4, cp_5, cp_6, cp_7, cp_12, cp_20, cp_30, cp_38, cp_39, cp_40])
      (first | rw [Nx_eq] | rw [Arm_eq] | skip); (try simp_all only [ss_nil, Nx_nil, Arm_nil, sz_0, sz_1, sz_2, sz_3, sz_4, sz_5, sz_6, sz_7, sz_8, sz_9, sz_10, sz_11, sz_12, cp_2, cp_3, cp_4, cp_5, cp_6, cp_7, cp_12, cp_20, cp_30, cp_38, cp_39, cp_40])
      refine lc_filter (fun t : Tt => decide (t.c = i + 1)) tV ts (fun t ht => ⟨_, rfl, fun st' sub => ⟨fun K hK => ?_, fun _ K hK => ?_⟩⟩) ?_
      · have ee : ((t.c : Int) = ((i + 1 : Nat) : Int)) ↔ t.c = i + 1 := by omega
        simp_all only [ss_nil, Nx_nil, Arm_nil, sz_0, sz_1, sz_2, sz_3, sz_4, sz_5, sz_6, sz_7, sz_8, sz_9, sz_10, sz_11, sz_12, cp_2, cp_3, cp_4, cp_5, cp_6, cp_7, cp_12, cp_20, cp_30, cp_38, cp_39, cp_40, tV, ee]
        split <;> rename_i hc
        · rw [decide_eq_true hc] at hK; exact hK
        · rw [decide_eq_false hc] at hK; exact hK
      · simp_all only [ss_nil, Nx_nil, Arm_nil, sz_0, sz_1, sz_2, sz_3, sz_4, sz_5, sz_6, sz_7, sz_8, sz_9, sz_10, sz_11, sz_12, cp_2, cp_3, cp_4, cp_5, cp_6, cp_7, cp_12, cp_20, cp_30, cp_38, cp_39, cp_40]
        exact hK
      have hfs : ∀ t ∈ ts.filter (fun t : Tt => decide (t.c = i + 1)), t ∈ ts ∧ t.c = i + 1 := fun t ht => by
        have := List.mem_filter.mp ht
        exact ⟨this.1, by simpa using this.2⟩
      revert hfs
      generalize ts.filter (fun t : Tt => decide (t.c = i + 1)) = fs
      intro hfs
      simp_all only [ss_nil, Nx_nil, Arm_nil, sz_0, sz_1, sz_2, sz_3, sz_4, sz_5, sz_6, sz_7, sz_8, sz_9, sz_10, sz_11, sz_12, cp_2, cp_3, cp_4, cp_5, cp_6, cp_7, cp_12, cp_20, cp_30, cp_38, cp_39, cp_40]
      refine for_at (fun j τ st' => st' = st ∧ ∃ (l : Int) (lb : Bool) (hi : Option (Int × Bool)) (o4 : Option PV), τ = [some (.tup (ts.map tV)), some (.int ((i + 1 : Nat) : Int)), some (.tup [.int l, .bl lb]), some (hiV hi), o4, none] ∧ LowOk ts (i + 1) l lb ∧ ∀ p, hi = some p → HighOk ts (i + 1) p.1 p.2) ?_ ?_
        ⟨rfl, 0, true, none, o4, rfl, .inl ⟨rfl, rfl⟩, fun p e => nomatch e⟩
      · rintro j v τ st' hj ⟨rfl, l, lb, hi, o4, rfl, hlo, hhi⟩
        obtain ⟨t, rfl, ht⟩ := get_map hj
        obtain ⟨t1, t2⟩ := hfs t (mem_at ht)
        refine ⟨trivial, ?_⟩
        unfold b__law_can_meet_2
        obtain ⟨c, sg, n⟩ := t
        have t2 : c = i + 1 := t2
        have tv : tV ⟨c, sg, n⟩ = .tup [.int c, .str (sgS sg), .int n] := rfl
        have hn : ∀ b : Bool, hiV (some ((n : Int), b)) = .tup [.int n, .bl b] := fun _ => rfl
        have h0 : hiV none = .non := rfl
        have hs : ∀ p, hiV (some p) = .tup [.int p.1, .bl p.2] := fun _ => rfl
        obtain ⟨g1, g2, g3, g4, g5⟩ := sg5 sg
        have ml := mem_lo sg
        have mh := mem_hi sg
        -- the second half
        have second : ∀ (l : Int) (lb : Bool), LowOk ts (i + 1) l lb → ∀ D : PEnds, (∀ (hi : Option (Int × Bool)), (∀ p, hi = some p → HighOk ts (i + 1) p.1 p.2) → D.nx [some (.tup (ts.map tV)), some (.int ((i + 1 : Nat) : Int)), some (.tup [.int l, .bl lb]), some (hiV hi), some (tV ⟨c, sg, n⟩), none] st') →
            Nx (.cons (.ite (.cmp .In (.idx (.var 4) (.int 1)) (.lst false (.cons (.str "<") (.cons (.str "<=") (.cons (.str "=") .nil))))) (.cons (.ite (.bools .Or (.cons (.cmp .Is (.var 3) .non) (.cons (.cmp .Lt (.idx (.var 4) (.int 2)) (.idx (.var 3) (.int 0))) (.cons (.bools .And (.cons (.cmp .Eq (.idx (.var 4) (.int 2)) (.idx (.var 3) (.int 0))) (.cons (.cmp .Eq (.idx (.var 4) (.int 1)) (.str "<")) .nil))) .nil)))) (.cons (.asg (.name 3) (.tup (.cons (.idx (.var 4) (.int 2)) (.cons (.cmp .NotEq (.idx (.var 4) (.int 1)) (.str "<")) .nil)))) .nil) .nil) .nil) .nil) .nil) D [some (.tup (ts.map tV)), some (.int ((i + 1 : Nat) : Int)), some (.tup [.int l, .bl lb]), some (hiV hi), some (tV ⟨c, sg, n⟩), none] st' := by
          intro l lb _ D hD
          have skip := hD hi hhi
          have put : ∀ b : Bool, upC ⟨c, sg, n⟩ = some (2 * (n : Int) + e2 b) → D.nx [some (.tup (ts.map tV)), some (.int ((i + 1 : Nat) : Int)), some (.tup [.int l, .bl lb]), some (.tup [.int n, .bl b]), some (tV ⟨c, sg, n⟩), none] st' := fun b hb => by
            have := hD (some ((n : Int), b)) fun p e => by
              cases e
              exact ⟨_, t1, t2, hb⟩
            rwa [hn] at this
          rw [tv] at put skip ⊢
          have pair : ∀ b : Bool, upC ⟨c, sg, n⟩ = some (2 * (n : Int) + e2 b) → (!decide (sgS sg = ("<" : Str))) = b → ∀ hv : PV, Arm (.cons (.asg (.name 3) (.tup (.cons (.idx (.var 4) (.int 2)) (.cons (.cmp .NotEq (.idx (.var 4) (.int 1)) (.str "<")) .nil)))) .nil) ((D.nxt .nil).nxt .nil) [some (.tup (ts.map tV)), some (.int ((i + 1 : Nat) : Int)), some (.tup [.int l, .bl lb]), some hv, some (.tup [.int c, .str (sgS sg), .int n]), none] st' := by
            intro b hb eb hv
            have := put b hb
            (first | rw [Nx_eq] | rw [Arm_eq] | skip); (try simp_all only [ss_nil, Nx_nil, Arm_nil, sz_0, sz_1, sz_2, sz_3, sz_4, sz_5, sz_6, sz_7, sz_8, sz_9, sz_10, sz_11, sz_12, cp_2, cp_3, cp_4, cp_5, cp_6, cp_7, cp_12, cp_20, cp_30, cp_38, cp_39, cp_40, ↓v_neSS, eb])
            exact this
          have go : (sg = .lt ∨ sg = .le ∨ sg = .eq) → ∀ b : Bool, upC ⟨c, sg, n⟩ = some (2 * (n : Int) + e2 b) → (!decide (sgS sg = ("<" : Str))) = b → Arm (.cons (.ite (.bools .Or (.cons (.cmp .Is (.var 3) .non) (.cons (.cmp .Lt (.idx (.var 4) (.int 2)) (.idx (.var 3) (.int 0))) (.cons (.bools .And (.cons (.cmp .Eq (.idx (.var 4) (.int 2)) (.idx (.var 3) (.int 0))) (.cons (.cmp .Eq (.idx (.var 4) (.int 1)) (.str "<")) .nil))) .nil)))) (.cons (.asg (.name 3) (.tup (.cons (.idx (.var 4) (.int 2)) (.cons (.cmp .NotEq (.idx (.var 4) (.int 1)) (.str "<")) .nil)))) .nil) .nil) .nil) (D.nxt .nil) [some (.tup (ts.map tV)), some (.int ((i + 1 : Nat) : Int)), some (.tup [.int l, .bl lb]), some (hiV hi), some (.tup [.int c, .str (sgS sg), .int n]), none] st' := by
            intro _ b hb eb
            have arm := pair b hb eb
            cases hi with
            | none =>
              rw [h0]
              (first | rw [Nx_eq] | rw [Arm_eq] | skip); (try simp_all only [ss_nil, Nx_nil, Arm_nil, sz_0, sz_1, sz_2, sz_3, sz_4, sz_5, sz_6, sz_7, sz_8, sz_9, sz_10, sz_11, sz_12, cp_2, cp_3, cp_4, cp_5, cp_6, cp_7, cp_12, cp_20, cp_30, cp_38, cp_39, cp_40])
              exact arm _
            | some p =>
              rw [hs] at skip ⊢
              (first | rw [Nx_eq] | rw [Arm_eq] | skip); (try simp_all only [ss_nil, Nx_nil, Arm_nil, sz_0, sz_1, sz_2, sz_3, sz_4, sz_5, sz_6, sz_7, sz_8, sz_9, sz_10, sz_11, sz_12, cp_2, cp_3, cp_4, cp_5, cp_6, cp_7, cp_12, cp_20, cp_30, cp_38, cp_39, cp_40])
              split
              · exact arm _
              · split
                · split
                  · exact arm _
                  · exact skip
                · exact skip
          cases sg with
          | lt =>
            have m1 : decide (Sg.lt = .lt ∨ Sg.lt = .le ∨ Sg.lt = .eq) = true := by decide
            rw [m1] at mh
            (first | rw [Nx_eq] | rw [Arm_eq] | skip); (try simp_all only [ss_nil, Nx_nil, Arm_nil, sz_0, sz_1, sz_2, sz_3, sz_4, sz_5, sz_6, sz_7, sz_8, sz_9, sz_10, sz_11, sz_12, cp_2, cp_3, cp_4, cp_5, cp_6, cp_7, cp_12, cp_20, cp_30, cp_38, cp_39, cp_40, mh, isSc, List.all_cons, List.all_nil, Bool.and_self])
            exact go (.inl rfl) false rfl (by decide)
          | le =>
            have m1 : decide (Sg.le = .lt ∨ Sg.le = .le ∨ Sg.le = .eq) = true := by decide
            rw [m1] at mh
            (first | rw [Nx_eq] | rw [Arm_eq] | skip); (try simp_all only [ss_nil, Nx_nil, Arm_nil, sz_0, sz_1, sz_2, sz_3, sz_4, sz_5, sz_6, sz_7, sz_8, sz_9, sz_10, sz_11, sz_12, cp_2, cp_3, cp_4, cp_5, cp_6, cp_7, cp_12, cp_20, cp_30, cp_38, cp_39, cp_40, mh, isSc, List.all_cons, List.all_nil, Bool.and_self])
            exact go (.inr (.inl rfl)) true rfl (by decide)
          | eq =>
            have m1 : decide (Sg.eq = .lt ∨ Sg.eq = .le ∨ Sg.eq = .eq) = true := by decide
            rw [m1] at mh
            (first | rw [Nx_eq] | rw [Arm_eq] | skip); (try simp_all only [ss_nil, Nx_nil, Arm_nil, sz_0, sz_1, sz_2, sz_3, sz_4, sz_5, sz_6, sz_7, sz_8, sz_9, sz_10, sz_11, sz_12, cp_2, cp_3, cp_4, cp_5, cp_6, cp_7, cp_12, cp_20, cp_30, cp_38, cp_39, cp_40, mh, isSc, List.all_cons, List.all_nil, Bool.and_self])
            exact go (.inr (.inr rfl)) true rfl (by decide)
          | ge =>
            have m1 : decide (Sg.ge = .lt ∨ Sg.ge = .le ∨ Sg.ge = .eq) = false := by decide
            rw [m1] at mh
            (first | rw [Nx_eq] | rw [Arm_eq] | skip); (try simp_all only [ss_nil, Nx_nil, Arm_nil, sz_0, sz_1, sz_2, sz_3, sz_4, sz_5, sz_6, sz_7, sz_8, sz_9, sz_10, sz_11, sz_12, cp_2, cp_3, cp_4, cp_5, cp_6, cp_7, cp_12, cp_20, cp_30, cp_38, cp_39, cp_40, mh, isSc, List.all_cons, List.all_nil, Bool.and_self])
            exact skip
          | gt =>
            have m1 : decide (Sg.gt = .lt ∨ Sg.gt = .le ∨ Sg.gt = .eq) = false := by decide
            rw [m1] at mh
            (first | rw [Nx_eq] | rw [Arm_eq] | skip); (try simp_all only [ss_nil, Nx_nil, Arm_nil, sz_0, sz_1, sz_2, sz_3, sz_4, sz_5, sz_6, sz_7, sz_8, sz_9, sz_10, sz_11, sz_12, cp_2, cp_3, cp_4, cp_5, cp_6, cp_7, cp_12, cp_20, cp_30, cp_38, cp_39, cp_40, mh, isSc, List.all_cons, List.all_nil, Bool.and_self])
            exact skip
        have skip := second l lb hlo
        have setl : ∀ b : Bool, loC ⟨c, sg, n⟩ = some (2 * (-(n : Int)) + e2 b) → _ := fun b hb => second n b (.inr ⟨_, t1, t2, hb⟩)
        have low1 : ∀ b : Bool, loC ⟨c, sg, n⟩ = some (2 * (-(n : Int)) + e2 b) → LowOk ts (i + 1) n b := fun b hb => .inr ⟨_, t1, t2, hb⟩
        rw [tv] at skip setl ⊢
        cases sg with
        | lt =>
          have m1 : decide (Sg.lt = .gt ∨ Sg.lt = .ge ∨ Sg.lt = .eq) = false := by decide
          rw [m1] at ml
          simp_all only [ss_nil, Nx_nil, Arm_nil, sz_0, sz_1, sz_2, sz_3, sz_4, sz_5, sz_6, sz_7, sz_8, sz_9, sz_10, sz_11, sz_12, cp_2, cp_3, cp_4, cp_5, cp_6, cp_7, cp_12, cp_20, cp_30, cp_38, cp_39, cp_40, ml, isSc, List.all_cons, List.all_nil, Bool.and_self]
          exact skip _ fun hi hh => ⟨rfl, l, lb, hi, _, rfl, hlo, hh⟩
        | le =>
          have m1 : decide (Sg.le = .gt ∨ Sg.le = .ge ∨ Sg.le = .eq) = false := by decide
          rw [m1] at ml
          simp_all only [ss_nil, Nx_nil, Arm_nil, sz_0, sz_1, sz_2, sz_3, sz_4, sz_5, sz_6, sz_7, sz_8, sz_9, sz_10, sz_11, sz_12, cp_2, cp_3, cp_4, cp_5, cp_6, cp_7, cp_12, cp_20, cp_30, cp_38, cp_39, cp_40, ml, isSc, List.all_cons, List.all_nil, Bool.and_self]
          exact skip _ fun hi hh => ⟨rfl, l, lb, hi, _, rfl, hlo, hh⟩
        | gt =>
          have m1 : decide (Sg.gt = .gt ∨ Sg.gt = .ge ∨ Sg.gt = .eq) = true := by decide
          rw [m1] at ml
          have eb : (!decide (sgS Sg.gt = (">" : Str))) = false := by decide
          simp_all only [ss_nil, Nx_nil, Arm_nil, sz_0, sz_1, sz_2, sz_3, sz_4, sz_5, sz_6, sz_7, sz_8, sz_9, sz_10, sz_11, sz_12, cp_2, cp_3, cp_4, cp_5, cp_6, cp_7, cp_12, cp_20, cp_30, cp_38, cp_39, cp_40, ml, isSc, List.all_cons, List.all_nil, Bool.and_self]
          (first | rw [Nx_eq] | rw [Arm_eq] | skip); (try simp_all only [ss_nil, Nx_nil, Arm_nil, sz_0, sz_1, sz_2, sz_3, sz_4, sz_5, sz_6, sz_7, sz_8, sz_9, sz_10, sz_11, sz_12, cp_2, cp_3, cp_4, cp_5, cp_6, cp_7, cp_12, cp_20, cp_30, cp_38, cp_39, cp_40, g5])
          split
          · (first | rw [Nx_eq] | rw [Arm_eq] | skip); (try simp_all only [ss_nil, Nx_nil, Arm_nil, sz_0, sz_1, sz_2, sz_3, sz_4, sz_5, sz_6, sz_7, sz_8, sz_9, sz_10, sz_11, sz_12, cp_2, cp_3, cp_4, cp_5, cp_6, cp_7, cp_12, cp_20, cp_30, cp_38, cp_39, cp_40, ↓v_neSS, eb])
            exact setl false (by simp [loC, e2]) _ fun hi hh => ⟨rfl, n, false, hi, _, rfl, low1 false (by simp [loC, e2]), hh⟩
          · split
            · (first | rw [Nx_eq] | rw [Arm_eq] | skip); (try simp_all only [ss_nil, Nx_nil, Arm_nil, sz_0, sz_1, sz_2, sz_3, sz_4, sz_5, sz_6, sz_7, sz_8, sz_9, sz_10, sz_11, sz_12, cp_2, cp_3, cp_4, cp_5, cp_6, cp_7, cp_12, cp_20, cp_30, cp_38, cp_39, cp_40, ↓v_neSS, eb])
              exact setl false (by simp [loC, e2]) _ fun hi hh => ⟨rfl, n, false, hi, _, rfl, low1 false (by simp [loC, e2]), hh⟩
            · exact skip _ fun hi hh => ⟨rfl, l, lb, hi, _, rfl, hlo, hh⟩
        | ge =>
          have m1 : decide (Sg.ge = .gt ∨ Sg.ge = .ge ∨ Sg.ge = .eq) = true := by decide
          rw [m1] at ml
          have eb : (!decide (sgS Sg.ge = (">" : Str))) = true := by decide
          simp_all only [ss_nil, Nx_nil, Arm_nil, sz_0, sz_1, sz_2, sz_3, sz_4, sz_5, sz_6, sz_7, sz_8, sz_9, sz_10, sz_11, sz_12, cp_2, cp_3, cp_4, cp_5, cp_6, cp_7, cp_12, cp_20, cp_30, cp_38, cp_39, cp_40, ml, isSc, List.all_cons, List.all_nil, Bool.and_self]
          (first | rw [Nx_eq] | rw [Arm_eq] | skip); (try simp_all only [ss_nil, Nx_nil, Arm_nil, sz_0, sz_1, sz_2, sz_3, sz_4, sz_5, sz_6, sz_7, sz_8, sz_9, sz_10, sz_11, sz_12, cp_2, cp_3, cp_4, cp_5, cp_6, cp_7, cp_12, cp_20, cp_30, cp_38, cp_39, cp_40, g5])
          split
          · (first | rw [Nx_eq] | rw [Arm_eq] | skip); (try simp_all only [ss_nil, Nx_nil, Arm_nil, sz_0, sz_1, sz_2, sz_3, sz_4, sz_5, sz_6, sz_7, sz_8, sz_9, sz_10, sz_11, sz_12, cp_2, cp_3, cp_4, cp_5, cp_6, cp_7, cp_12, cp_20, cp_30, cp_38, cp_39, cp_40, ↓v_neSS, eb])
            exact setl true rfl _ fun hi hh => ⟨rfl, n, true, hi, _, rfl, low1 true rfl, hh⟩
          · first
              | exact skip _ fun hi hh => ⟨rfl, l, lb, hi, _, rfl, hlo, hh⟩
              | (split <;> exact skip _ fun hi hh => ⟨rfl, l, lb, hi, _, rfl, hlo, hh⟩)
        | eq =>
          have m1 : decide (Sg.eq = .gt ∨ Sg.eq = .ge ∨ Sg.eq = .eq) = true := by decide
          rw [m1] at ml
          have eb : (!decide (sgS Sg.eq = (">" : Str))) = true := by decide
          simp_all only [ss_nil, Nx_nil, Arm_nil, sz_0, sz_1, sz_2, sz_3, sz_4, sz_5, sz_6, sz_7, sz_8, sz_9, sz_10, sz_11, sz_12, cp_2, cp_3, cp_4, cp_5, cp_6, cp_7, cp_12, cp_20, cp_30, cp_38, cp_39, cp_40, ml, isSc, List.all_cons, List.all_nil, Bool.and_self]
          (first | rw [Nx_eq] | rw [Arm_eq] | skip); (try simp_all only [ss_nil, Nx_nil, Arm_nil, sz_0, sz_1, sz_2, sz_3, sz_4, sz_5, sz_6, sz_7, sz_8, sz_9, sz_10, sz_11, sz_12, cp_2, cp_3, cp_4, cp_5, cp_6, cp_7, cp_12, cp_20, cp_30, cp_38, cp_39, cp_40, g5])
          split
          · (first | rw [Nx_eq] | rw [Arm_eq] | skip); (try simp_all only [ss_nil, Nx_nil, Arm_nil, sz_0, sz_1, sz_2, sz_3, sz_4, sz_5, sz_6, sz_7, sz_8, sz_9, sz_10, sz_11, sz_12, cp_2, cp_3, cp_4, cp_5, cp_6, cp_7, cp_12, cp_20, cp_30, cp_38, cp_39, cp_40, ↓v_neSS, eb])
            exact setl true rfl _ fun hi hh => ⟨rfl, n, true, hi, _, rfl, low1 true rfl, hh⟩
          · first
              | exact skip _ fun hi hh => ⟨rfl, l, lb, hi, _, rfl, hlo, hh⟩
              | (split <;> exact skip _ fun hi hh => ⟨rfl, l, lb, hi, _, rfl, hlo, hh⟩)
      · rintro τ st' ⟨rfl, l, lb, hi, o4, rfl, hlo, hhi⟩
        refine ⟨trivial, ?_⟩
        cases hi with
        | none =>
          have eh : hiV none = .non := rfl
          simp_all only [ss_nil, Nx_nil, Arm_nil, sz_0, sz_1, sz_2, sz_3, sz_4, sz_5, sz_6, sz_7, sz_8, sz_9, sz_10, sz_11, sz_12, cp_2, cp_3, cp_4, cp_5, cp_6, cp_7, cp_12, cp_20, cp_30, cp_38, cp_39, cp_40, eh]
          (first | rw [Nx_eq] | rw [Arm_eq] | skip); (try simp_all only [ss_nil, Nx_nil, Arm_nil, sz_0, sz_1, sz_2, sz_3, sz_4, sz_5, sz_6, sz_7, sz_8, sz_9, sz_10, sz_11, sz_12, cp_2, cp_3, cp_4, cp_5, cp_6, cp_7, cp_12, cp_20, cp_30, cp_38, cp_39, cp_40])
          exact ⟨_, _, _, _, rfl⟩
        | some p =>
          obtain ⟨n1, n2⟩ := noconf hcm hlo (hhi p rfl)
          have eh : hiV (some p) = .tup [.int p.1, .bl p.2] := rfl
          have c1 : (p.1 < l) = False := eq_false n1
          simp_all only [ss_nil, Nx_nil, Arm_nil, sz_0, sz_1, sz_2, sz_3, sz_4, sz_5, sz_6, sz_7, sz_8, sz_9, sz_10, sz_11, sz_12, cp_2, cp_3, cp_4, cp_5, cp_6, cp_7, cp_12, cp_20, cp_30, cp_38, cp_39, cp_40, eh]
          (first | rw [Nx_eq] | rw [Arm_eq] | skip); (try simp_all only [ss_nil, Nx_nil, Arm_nil, sz_0, sz_1, sz_2, sz_3, sz_4, sz_5, sz_6, sz_7, sz_8, sz_9, sz_10, sz_11, sz_12, cp_2, cp_3, cp_4, cp_5, cp_6, cp_7, cp_12, cp_20, cp_30, cp_38, cp_39, cp_40, c1])
          by_cases he : p.1 = l
          · have c2 : (p.1 = l) = True := eq_true he
            have hb : lb = true ∧ p.2 = true := by
              cases h1 : lb <;> cases h2 : p.2 <;> first | exact ⟨rfl, rfl⟩ | exact absurd ⟨he, by simp [h1, h2]⟩ n2
            obtain ⟨b1, b2⟩ := hb
            simp_all only [ss_nil, Nx_nil, Arm_nil, sz_0, sz_1, sz_2, sz_3, sz_4, sz_5, sz_6, sz_7, sz_8, sz_9, sz_10, sz_11, sz_12, cp_2, cp_3, cp_4, cp_5, cp_6, cp_7, cp_12, cp_20, cp_30, cp_38, cp_39, cp_40, c2, b1, b2]
            exact ⟨_, _, _, _, rfl⟩
          · have c2 : (p.1 = l) = False := eq_false he
            simp_all only [ss_nil, Nx_nil, Arm_nil, sz_0, sz_1, sz_2, sz_3, sz_4, sz_5, sz_6, sz_7, sz_8, sz_9, sz_10, sz_11, sz_12, cp_2, cp_3, cp_4, cp_5, cp_6, cp_7, cp_12, cp_20, cp_30, cp_38, cp_39, cp_40, c2]
            exact ⟨_, _, _, _, rfl⟩
    · rintro τ st ⟨rfl, o1, o2, o3, o4, rfl⟩
      refine ⟨trivial, ?_⟩
      simp_all only [ss_nil, Nx_nil, Arm_nil, sz_0, sz_1, sz_2, sz_3, sz_4, sz_5, sz_6, sz_7, sz_8, sz_9, sz_10, sz_11, sz_12, cp_2, cp_3, cp_4, cp_5, cp_6, cp_7, cp_12, cp_20, cp_30, cp_38, cp_39, cp_40]
      (first | rw [Nx_eq] | rw [Arm_eq] | skip); (try simp_all only [ss_nil, Nx_nil, Arm_nil, sz_0, sz_1, sz_2, sz_3, sz_4, sz_5, sz_6, sz_7, sz_8, sz_9, sz_10, sz_11, sz_12, cp_2, cp_3, cp_4, cp_5, cp_6, cp_7, cp_12, cp_20, cp_30, cp_38, cp_39, cp_40])
      exact ⟨st, .rfl, h⟩
  · exact h.elim
end TK

set_option maxRecDepth 100000
set_option maxHeartbeats 4000000
namespace TK
open PySem PySem.Spec PyProof.Rows L2
def sp__law_drawn_guard : PSpec
  | [.ref p, .int c], st, Q, _ => st p = some .pool ∧ ∃ k : Nat, c = k ∧ 1 ≤ k ∧ k ≤ 100 ∧ ∀ g : List Tt, g.length ≤ 3 → (∀ t ∈ g, wfT k t) → Q (cellV g) st
  | _, _, _, _ => False
def b__law_drawn_guard : Ss :=
  (.cons (.ite (.cmp .Eq (.call "_law_draw" sp__law_draw (.cons (.var 0) (.cons (.int 12) .nil))) (.int 0)) (.cons (.ret (.tup .nil)) .nil) .nil) (.cons (.ite (.cmp .Eq (.call "_law_draw" sp__law_draw (.cons (.var 0) (.cons (.int 12) .nil))) (.int 0)) (.cons (.ret (.tup (.cons (.tup (.cons (.int 1) (.cons (.str "<=") (.cons (.int 1) .nil)))) (.cons (.tup (.cons (.int 1) (.cons (.str ">") (.cons (.int 1) .nil)))) .nil)))) .nil) .nil) (.cons (.asg (.name 2) (.lst false (.cons (.str "<") (.cons (.str "<=") (.cons (.str "=") (.cons (.str ">=") (.cons (.str ">") .nil))))))) (.cons (.ret (.blt .tuple false (.cons (.comp false [3] (.name 3) (.range1 (.bin .Add false (.int 1) (.call "_law_draw" sp__law_draw (.cons (.var 0) (.cons (.int 3) .nil))))) .nil (.call "_law_test" sp__law_test (.cons (.var 0) (.cons (.var 1) (.cons (.int 3) (.cons (.var 2) .nil)))))) .nil))) .nil))))
def n__law_drawn_guard : List Str := ["pool", "clocks", "signs", "k"]
theorem w__law_drawn_guard : ∀ vs s Q X, vs.length = 2 → sp__law_drawn_guard vs s Q X → wpFn n__law_drawn_guard.length b__law_drawn_guard vs s Q X := by
  intro vs s Q X hl h
  unfold sp__law_drawn_guard at h
  split at h
  · rename_i p c
    rw [fn_eq]
    unfold b__law_drawn_guard n__law_drawn_guard
    obtain ⟨hp, k, rfl, k1, k2, h⟩ := h
    simp_all only [ss_nil, Nx_nil, Arm_nil, sz_0, sz_1, sz_2, sz_3, sz_4, sz_5, sz_6, sz_7, sz_8, sz_9, sz_10, sz_11, sz_12, cp_2, cp_3, cp_4, cp_5, cp_6, cp_7, cp_12, cp_20, cp_30, cp_38, cp_39, cp_40]
    refine callS_of ⟨hp, .of (by decide), fun u u0 u1 _ => ?_⟩
    simp_all only [ss_nil, Nx_nil, Arm_nil, sz_0, sz_1, sz_2, sz_3, sz_4, sz_5, sz_6, sz_7, sz_8, sz_9, sz_10, sz_11, sz_12, cp_2, cp_3, cp_4, cp_5, cp_6, cp_7, cp_12, cp_20, cp_30, cp_38, cp_39, cp_40]
    split
    · (first | rw [Nx_eq] | rw [Arm_eq] | skip); (try simp_all only [ss_nil, Nx_nil, Arm_nil, sz_0, sz_1, sz_2, sz_3, sz_4, sz_5, sz_6, sz_7, sz_8, sz_9, sz_10, sz_11, sz_12, cp_2, cp_3, cp_4, cp_5, cp_6, cp_7, cp_12, cp_20, cp_30, cp_38, cp_39, cp_40])
      exact ⟨s, .rfl, h [] (by simp) fun _ h => (nomatch h)⟩
    · (first | rw [Nx_eq] | rw [Arm_eq] | skip); (try simp_all only [ss_nil, Nx_nil, Arm_nil, sz_0, sz_1, sz_2, sz_3, sz_4, sz_5, sz_6, sz_7, sz_8, sz_9, sz_10, sz_11, sz_12, cp_2, cp_3, cp_4, cp_5, cp_6, cp_7, cp_12, cp_20, cp_30, cp_38, cp_39, cp_40])
      refine callS_of ⟨hp, .of (by decide), fun u u0 u1 _ => ?_⟩
      simp_all only [ss_nil, Nx_nil, Arm_nil, sz_0, sz_1, sz_2, sz_3, sz_4, sz_5, sz_6, sz_7, sz_8, sz_9, sz_10, sz_11, sz_12, cp_2, cp_3, cp_4, cp_5, cp_6, cp_7, cp_12, cp_20, cp_30, cp_38, cp_39, cp_40]
      split
      · (first | rw [Nx_eq] | rw [Arm_eq] | skip); (try simp_all only [ss_nil, Nx_nil, Arm_nil, sz_0, sz_1, sz_2, sz_3, sz_4, sz_5, sz_6, sz_7, sz_8, sz_9, sz_10, sz_11, sz_12, cp_2, cp_3, cp_4, cp_5, cp_6, cp_7, cp_12, cp_20, cp_30, cp_38, cp_39, cp_40])
        refine ⟨s, .rfl, h [⟨1, .le, 1⟩, ⟨1, .gt, 1⟩] (by simp) fun t ht => ?_⟩
        simp only [List.mem_cons, List.not_mem_nil, or_false] at ht
        rcases ht with rfl | rfl
        · exact ⟨Nat.le_refl _, k1, (show 1 ≤ 3 by decide), fun e => nomatch e⟩
        · exact ⟨Nat.le_refl _, k1, (show 1 ≤ 3 by decide), fun e => nomatch e⟩
      · (first | rw [Nx_eq] | rw [Arm_eq] | skip); (try simp_all only [ss_nil, Nx_nil, Arm_nil, sz_0, sz_1, sz_2, sz_3, sz_4, sz_5, sz_6, sz_7, sz_8, sz_9, sz_10, sz_11, sz_12, cp_2, cp_3, cp_4, cp_5, cp_6, cp_7, cp_12, cp_20, cp_30, cp_38, cp_39, cp_40])
        (first | rw [Nx_eq] | rw [Arm_eq] | skip); (try simp_all only [ss_nil, Nx_nil, Arm_nil, sz_0, sz_1, sz_2, sz_3, sz_4, sz_5, sz_6, sz_7, sz_8, sz_9, sz_10, sz_11, sz_12, cp_2, cp_3, cp_4, cp_5, cp_6, cp_7, cp_12, cp_20, cp_30, cp_38, cp_39, cp_40])
        refine callS_of ⟨hp, .of (by decide), fun u u0 u1 _ => ?_⟩
        have u1 := u1 (by decide)
        have sz : 10000 ≤ sizeLine := by decide
        simp_all only [ss_nil, Nx_nil, Arm_nil, sz_0, sz_1, sz_2, sz_3, sz_4, sz_5, sz_6, sz_7, sz_8, sz_9, sz_10, sz_11, sz_12, cp_2, cp_3, cp_4, cp_5, cp_6, cp_7, cp_12, cp_20, cp_30, cp_38, cp_39, cp_40]
        refine ⟨by unfold R62; omega, by rw [rng_len]; omega, ?_⟩
        refine lc_prop (P := fun y => ∃ t : Tt, y = tV t ∧ wfT k t) (fun τ1 st' Q q => by simp_all only [ss_nil, Nx_nil, Arm_nil, sz_0, sz_1, sz_2, sz_3, sz_4, sz_5, sz_6, sz_7, sz_8, sz_9, sz_10, sz_11, sz_12, cp_2, cp_3, cp_4, cp_5, cp_6, cp_7, cp_12, cp_20, cp_30, cp_38, cp_39, cp_40]; exact q) _ [] (fun x hx => ⟨_, rfl, fun st' sub K hK => ?_⟩) (fun _ h => (nomatch h)) fun ys hl hpp => ?_
        · simp_all only [ss_nil, Nx_nil, Arm_nil, sz_0, sz_1, sz_2, sz_3, sz_4, sz_5, sz_6, sz_7, sz_8, sz_9, sz_10, sz_11, sz_12, cp_2, cp_3, cp_4, cp_5, cp_6, cp_7, cp_12, cp_20, cp_30, cp_38, cp_39, cp_40]
          refine callS_of ⟨sub _ _ hp, k, 3, [.lt, .le, .eq, .ge, .gt], rfl, rfl, rfl, k1, by omega, by decide, by decide, by decide, by decide, fun t ht => hK _ ⟨t, rfl, ht.1, ht.2.1, ht.2.2.1, ht.2.2.2.2⟩⟩
        obtain ⟨ts, rfl, hts⟩ := all_enc hpp
        rw [rng_len, List.length_map] at hl
        simp_all only [ss_nil, Nx_nil, Arm_nil, sz_0, sz_1, sz_2, sz_3, sz_4, sz_5, sz_6, sz_7, sz_8, sz_9, sz_10, sz_11, sz_12, cp_2, cp_3, cp_4, cp_5, cp_6, cp_7, cp_12, cp_20, cp_30, cp_38, cp_39, cp_40]
        exact ⟨s, .rfl, h ts (by simp at hl; omega) hts⟩
  · exact h.elim
def sp__law_outside : PSpec
  | [.tup gs, b], st, Q, _ => ∃ (guards : List (List Tt)) (vals : List Rat), gs = guards.map cellV ∧ b = vsV vals ∧ (∀ g ∈ guards, ∀ t ∈ g, t.ok vals.length) ∧ VB 3900 vals ∧ Q (.bl (guards.all fun g => !g.all (Tt.holds vals))) st
  | _, _, _, _ => False
def b__law_outside_1 : Ss :=
  (.cons (.ite (.val (.call "_law_meets" sp__law_meets (.cons (.var 2) (.cons (.var 1) .nil)))) (.cons (.ret (.bl false)) .nil) .nil) .nil)
def b__law_outside : Ss :=
  (.cons (.loop (.name 2) (.val (.var 0)) b__law_outside_1) (.cons (.ret (.bl true)) .nil))
def n__law_outside : List Str := ["guards", "point", "guard"]
theorem w__law_outside : ∀ vs s Q X, vs.length = 2 → sp__law_outside vs s Q X → wpFn n__law_outside.length b__law_outside vs s Q X := by
  intro vs s Q X hl h
  unfold sp__law_outside at h
  split at h
  · rw [fn_eq]
    unfold b__law_outside n__law_outside
    obtain ⟨guards, vals, rfl, rfl, hg, hv, h⟩ := h
    simp_all only [ss_nil, Nx_nil, Arm_nil, sz_0, sz_1, sz_2, sz_3, sz_4, sz_5, sz_6, sz_7, sz_8, sz_9, sz_10, sz_11, sz_12, cp_2, cp_3, cp_4, cp_5, cp_6, cp_7, cp_12, cp_20, cp_30, cp_38, cp_39, cp_40]
    refine for_at (fun i τ st => st = s ∧ ∃ o, τ = [some (.tup (guards.map cellV)), some (vsV vals), o] ∧ (guards.take i).all (fun g => !g.all (Tt.holds vals)) = true) ?_ ?_ ⟨rfl, none, rfl, by simp⟩
    · rintro i v τ st hi ⟨rfl, o, rfl, ha⟩
      obtain ⟨g, rfl, hgi⟩ := get_map hi
      refine ⟨trivial, ?_⟩
      unfold b__law_outside_1
      have eg : cellV g = .tup (g.map tV) := rfl
      simp_all only [ss_nil, Nx_nil, Arm_nil, sz_0, sz_1, sz_2, sz_3, sz_4, sz_5, sz_6, sz_7, sz_8, sz_9, sz_10, sz_11, sz_12, cp_2, cp_3, cp_4, cp_5, cp_6, cp_7, cp_12, cp_20, cp_30, cp_38, cp_39, cp_40, eg]
      refine callS_of ⟨g, vals, rfl, .inl rfl, hg g (mem_at hgi), hv, ?_⟩
      cases hh : g.all (Tt.holds vals) with
      | true =>
        simp_all only [ss_nil, Nx_nil, Arm_nil, sz_0, sz_1, sz_2, sz_3, sz_4, sz_5, sz_6, sz_7, sz_8, sz_9, sz_10, sz_11, sz_12, cp_2, cp_3, cp_4, cp_5, cp_6, cp_7, cp_12, cp_20, cp_30, cp_38, cp_39, cp_40]
        (first | rw [Nx_eq] | rw [Arm_eq] | skip); (try simp_all only [ss_nil, Nx_nil, Arm_nil, sz_0, sz_1, sz_2, sz_3, sz_4, sz_5, sz_6, sz_7, sz_8, sz_9, sz_10, sz_11, sz_12, cp_2, cp_3, cp_4, cp_5, cp_6, cp_7, cp_12, cp_20, cp_30, cp_38, cp_39, cp_40])
        have e2 : (guards.all fun g => !g.all (Tt.holds vals)) = false := List.all_eq_false.mpr ⟨g, mem_at hgi, by simp [hh]⟩
        rw [e2] at h
        exact ⟨st, .rfl, h⟩
      | false =>
        simp_all only [ss_nil, Nx_nil, Arm_nil, sz_0, sz_1, sz_2, sz_3, sz_4, sz_5, sz_6, sz_7, sz_8, sz_9, sz_10, sz_11, sz_12, cp_2, cp_3, cp_4, cp_5, cp_6, cp_7, cp_12, cp_20, cp_30, cp_38, cp_39, cp_40]
        exact ⟨_, by rw [← eg], by rw [take_one hgi, List.all_append, ha]; simp [hh]⟩
    · rintro τ st ⟨rfl, o, rfl, ha⟩
      refine ⟨trivial, ?_⟩
      rw [List.length_map, List.take_length] at ha
      rw [ha] at h
      simp_all only [ss_nil, Nx_nil, Arm_nil, sz_0, sz_1, sz_2, sz_3, sz_4, sz_5, sz_6, sz_7, sz_8, sz_9, sz_10, sz_11, sz_12, cp_2, cp_3, cp_4, cp_5, cp_6, cp_7, cp_12, cp_20, cp_30, cp_38, cp_39, cp_40]
      (first | rw [Nx_eq] | rw [Arm_eq] | skip); (try simp_all only [ss_nil, Nx_nil, Arm_nil, sz_0, sz_1, sz_2, sz_3, sz_4, sz_5, sz_6, sz_7, sz_8, sz_9, sz_10, sz_11, sz_12, cp_2, cp_3, cp_4, cp_5, cp_6, cp_7, cp_12, cp_20, cp_30, cp_38, cp_39, cp_40])
      exact ⟨st, .rfl, h⟩
  · exact h.elim
def sp__law_in_some : PSpec
  | [.tup gs, b], st, Q, _ => ∃ (cells : List (List Tt)) (vals : List Rat), gs = cells.map cellV ∧ b = vsV vals ∧ (∀ g ∈ cells, ∀ t ∈ g, t.ok vals.length) ∧ VB 3900 vals ∧ Q (.bl (cells.any fun g => g.all (Tt.holds vals))) st
  | _, _, _, _ => False
def b__law_in_some_1 : Ss :=
  (.cons (.ite (.val (.call "_law_meets" sp__law_meets (.cons (.var 2) (.cons (.var 1) .nil)))) (.cons (.ret (.bl true)) .nil) .nil) .nil)
def b__law_in_some : Ss :=
  (.cons (.loop (.name 2) (.val (.var 0)) b__law_in_some_1) (.cons (.ret (.bl false)) .nil))
def n__law_in_some : List Str := ["cells", "point", "cell"]
theorem w__law_in_some : ∀ vs s Q X, vs.length = 2 → sp__law_in_some vs s Q X → wpFn n__law_in_some.length b__law_in_some vs s Q X := by
  intro vs s Q X hl h
  unfold sp__law_in_some at h
  split at h
  · rw [fn_eq]
    unfold b__law_in_some n__law_in_some
    obtain ⟨cells, vals, rfl, rfl, hg, hv, h⟩ := h
    simp_all only [ss_nil, Nx_nil, Arm_nil, sz_0, sz_1, sz_2, sz_3, sz_4, sz_5, sz_6, sz_7, sz_8, sz_9, sz_10, sz_11, sz_12, cp_2, cp_3, cp_4, cp_5, cp_6, cp_7, cp_12, cp_20, cp_30, cp_38, cp_39, cp_40]
    refine for_at (fun i τ st => st = s ∧ ∃ o, τ = [some (.tup (cells.map cellV)), some (vsV vals), o] ∧ (cells.take i).any (fun g => g.all (Tt.holds vals)) = false) ?_ ?_ ⟨rfl, none, rfl, by simp⟩
    · rintro i v τ st hi ⟨rfl, o, rfl, ha⟩
      obtain ⟨g, rfl, hgi⟩ := get_map hi
      refine ⟨trivial, ?_⟩
      unfold b__law_in_some_1
      have eg : cellV g = .tup (g.map tV) := rfl
      simp_all only [ss_nil, Nx_nil, Arm_nil, sz_0, sz_1, sz_2, sz_3, sz_4, sz_5, sz_6, sz_7, sz_8, sz_9, sz_10, sz_11, sz_12, cp_2, cp_3, cp_4, cp_5, cp_6, cp_7, cp_12, cp_20, cp_30, cp_38, cp_39, cp_40, eg]
      refine callS_of ⟨g, vals, rfl, .inl rfl, hg g (mem_at hgi), hv, ?_⟩
      cases hh : g.all (Tt.holds vals) with
      | true =>
        simp_all only [ss_nil, Nx_nil, Arm_nil, sz_0, sz_1, sz_2, sz_3, sz_4, sz_5, sz_6, sz_7, sz_8, sz_9, sz_10, sz_11, sz_12, cp_2, cp_3, cp_4, cp_5, cp_6, cp_7, cp_12, cp_20, cp_30, cp_38, cp_39, cp_40]
        (first | rw [Nx_eq] | rw [Arm_eq] | skip); (try simp_all only [ss_nil, Nx_nil, Arm_nil, sz_0, sz_1, sz_2, sz_3, sz_4, sz_5, sz_6, sz_7, sz_8, sz_9, sz_10, sz_11, sz_12, cp_2, cp_3, cp_4, cp_5, cp_6, cp_7, cp_12, cp_20, cp_30, cp_38, cp_39, cp_40])
        have e2 : (cells.any fun g => g.all (Tt.holds vals)) = true := List.any_eq_true.mpr ⟨g, mem_at hgi, hh⟩
        rw [e2] at h
        exact ⟨st, .rfl, h⟩
      | false =>
        simp_all only [ss_nil, Nx_nil, Arm_nil, sz_0, sz_1, sz_2, sz_3, sz_4, sz_5, sz_6, sz_7, sz_8, sz_9, sz_10, sz_11, sz_12, cp_2, cp_3, cp_4, cp_5, cp_6, cp_7, cp_12, cp_20, cp_30, cp_38, cp_39, cp_40]
        exact ⟨_, by rw [← eg], by rw [take_one hgi, List.any_append, ha]; simp [hh]⟩
    · rintro τ st ⟨rfl, o, rfl, ha⟩
      refine ⟨trivial, ?_⟩
      rw [List.length_map, List.take_length] at ha
      rw [ha] at h
      simp_all only [ss_nil, Nx_nil, Arm_nil, sz_0, sz_1, sz_2, sz_3, sz_4, sz_5, sz_6, sz_7, sz_8, sz_9, sz_10, sz_11, sz_12, cp_2, cp_3, cp_4, cp_5, cp_6, cp_7, cp_12, cp_20, cp_30, cp_38, cp_39, cp_40]
      (first | rw [Nx_eq] | rw [Arm_eq] | skip); (try simp_all only [ss_nil, Nx_nil, Arm_nil, sz_0, sz_1, sz_2, sz_3, sz_4, sz_5, sz_6, sz_7, sz_8, sz_9, sz_10, sz_11, sz_12, cp_2, cp_3, cp_4, cp_5, cp_6, cp_7, cp_12, cp_20, cp_30, cp_38, cp_39, cp_40])
      exact ⟨st, .rfl, h⟩
  · exact h.elim
/-! ### the points of the half grid -/
def okPt (k : Nat) (p : List Rat) : Prop := p.length = k ∧ VB 10 p ∧ ∀ x ∈ p, 0 ≤ x
def sp__law_points : PSpec
  | [.int c], st, Q, _ => ∃ k : Nat, c = k ∧ 1 ≤ k ∧ k ≤ 2 ∧ ∀ (pts : List (List Rat)) (q : Nat), (∀ p ∈ pts, okPt k p) → st q = none → Q (.ref q) (up st q (some (.lst (pts.map vsV))))
  | _, _, _, _ => False
def b__law_points_3 : Ss :=
  (.cons (.expr (.meth .append (.var 3) (.cons (.bin .Add false (.var 4) (.tup (.cons (.call "_law_ratio" sp__law_ratio (.cons (.var 5) (.cons (.int 2) .nil))) .nil))) .nil))) .nil)
def b__law_points_2 : Ss :=
  (.cons (.loop (.name 5) (.range1 (.int 9)) b__law_points_3) .nil)
def b__law_points_1 : Ss :=
  (.cons (.asg (.name 3) (.lst true .nil)) (.cons (.loop (.name 4) (.val (.var 1)) b__law_points_2) (.cons (.asg (.name 1) (.var 3)) .nil)))
def b__law_points : Ss :=
  (.cons (.asg (.name 1) (.lst false (.cons (.tup .nil) .nil))) (.cons (.loop (.name 2) (.range1 (.var 0)) b__law_points_1) (.cons (.ret (.var 1)) .nil)))
def n__law_points : List Str := ["clocks", "told", "clock", "longer", "point", "half"]
theorem w__law_points : ∀ vs s Q X, vs.length = 1 → sp__law_points vs s Q X → wpFn n__law_points.length b__law_points vs s Q X := by
  intro vs s Q X hl h
  unfold sp__law_points at h
  split at h
  · rename_i c
    rw [fn_eq]
    unfold b__law_points n__law_points
    obtain ⟨k, rfl, k1, k2, h⟩ := h
    have sz : 10000 ≤ sizeLine := by decide
    simp_all only [ss_nil, Nx_nil, Arm_nil, sz_0, sz_1, sz_2, sz_3, sz_4, sz_5, sz_6, sz_7, sz_8, sz_9, sz_10, sz_11, sz_12, cp_2, cp_3, cp_4, cp_5, cp_6, cp_7, cp_12, cp_20, cp_30, cp_38, cp_39, cp_40]
    (first | rw [Nx_eq] | rw [Arm_eq] | skip); (try simp_all only [ss_nil, Nx_nil, Arm_nil, sz_0, sz_1, sz_2, sz_3, sz_4, sz_5, sz_6, sz_7, sz_8, sz_9, sz_10, sz_11, sz_12, cp_2, cp_3, cp_4, cp_5, cp_6, cp_7, cp_12, cp_20, cp_30, cp_38, cp_39, cp_40])
    refine ⟨by unfold R62; omega, ?_⟩
    refine for_at (fun i τ st => ∃ (cv : PV) (pts : List (List Rat)) (o2 o3 o4 o5 : Option PV), τ = [some (.int k), some cv, o2, o3, o4, o5] ∧ Sub s st ∧ (∀ p ∈ pts, okPt i p) ∧ pts.length ≤ 9 ^ i ∧
        ((i = 0 ∧ cv = .lst (pts.map vsV)) ∨ ∃ q, cv = .ref q ∧ s q = none ∧ st q = some (.lst (pts.map vsV)))) ?_ ?_
      ⟨.lst [.tup []], [[]], none, none, none, none, rfl, .rfl, fun p hp => by
        rw [List.mem_singleton.mp hp]
        exact ⟨rfl, fun _ h => (nomatch h), fun _ h => (nomatch h)⟩, by decide, .inl ⟨rfl, rfl⟩⟩
    · rintro i v τ st hi ⟨cv, pts, o2, o3, o4, o5, rfl, hs, hpo, hpl, hcv⟩
      obtain ⟨i1, rfl⟩ := get_rng hi
      rw [Int.toNat_natCast] at i1
      refine ⟨trivial, ?_⟩
      have p9 : 9 ^ i ≤ 9 := by
        have : i = 0 ∨ i = 1 := by omega
        rcases this with rfl | rfl <;> decide
      unfold b__law_points_1
      simp_all only [ss_nil, Nx_nil, Arm_nil, sz_0, sz_1, sz_2, sz_3, sz_4, sz_5, sz_6, sz_7, sz_8, sz_9, sz_10, sz_11, sz_12, cp_2, cp_3, cp_4, cp_5, cp_6, cp_7, cp_12, cp_20, cp_30, cp_38, cp_39, cp_40]
      intro q hq
      have sq : s q = none := by
        cases e : s q with
        | none => rfl
        | some c => rw [hs _ _ e] at hq; cases hq
      (first | rw [Nx_eq] | rw [Arm_eq] | skip); (try simp_all only [ss_nil, Nx_nil, Arm_nil, sz_0, sz_1, sz_2, sz_3, sz_4, sz_5, sz_6, sz_7, sz_8, sz_9, sz_10, sz_11, sz_12, cp_2, cp_3, cp_4, cp_5, cp_6, cp_7, cp_12, cp_20, cp_30, cp_38, cp_39, cp_40])
      have inner : ∀ (ok : Store → Prop) (D : PEnds), (∀ s2, (∀ a, a ≠ q → s2 a = st a) → ok s2) →
          (∀ (τ : Sl) (longer : List (List Rat)) (o4 o5 : Option PV), τ = [some (.int k), some cv, some (.int (0 + (i : Int))), some (.ref q), o4, o5] → longer.length ≤ pts.length * 9 → (∀ p ∈ longer, okPt (i + 1) p) → D.nx τ (up st q (some (.lst (longer.map vsV))))) →
          forL (.name 4) (wpSs b__law_points_2) ok (pts.map vsV) D [some (.int k), some cv, some (.int (0 + (i : Int))), some (.ref q), o4, o5] (up st q (some (.lst []))) := by
        intro ok D hok hD
        refine for_at (fun j τ s2 => ∃ (o4 o5 : Option PV) (longer : List (List Rat)), τ = [some (.int k), some cv, some (.int (0 + (i : Int))), some (.ref q), o4, o5] ∧ s2 = up st q (some (.lst (longer.map vsV))) ∧ longer.length ≤ j * 9 ∧ ∀ p ∈ longer, okPt (i + 1) p) ?_ ?_ ⟨o4, o5, [], rfl, rfl, by simp, fun _ h => (nomatch h)⟩
        · rintro j v τ s2 hj ⟨o4, o5, longer, rfl, rfl, hll, hlo⟩
          obtain ⟨pt, rfl, hpt⟩ := get_map hj
          have jl : j < pts.length := (List.getElem?_eq_some_iff.mp hpt).1
          obtain ⟨pa, pb, pc⟩ := hpo pt (mem_at hpt)
          refine ⟨hok _ fun a ha => up_ne ha, ?_⟩
          unfold b__law_points_2
          simp_all only [ss_nil, Nx_nil, Arm_nil, sz_0, sz_1, sz_2, sz_3, sz_4, sz_5, sz_6, sz_7, sz_8, sz_9, sz_10, sz_11, sz_12, cp_2, cp_3, cp_4, cp_5, cp_6, cp_7, cp_12, cp_20, cp_30, cp_38, cp_39, cp_40]
          refine ⟨by unfold R62; decide, ?_⟩
          refine for_at (fun m τ s2 => ∃ (o5 : Option PV) (longer : List (List Rat)), τ = [some (.int k), some cv, some (.int (0 + (i : Int))), some (.ref q), some (vsV pt), o5] ∧ s2 = up st q (some (.lst (longer.map vsV))) ∧ longer.length ≤ j * 9 + m ∧ ∀ p ∈ longer, okPt (i + 1) p) ?_ ?_ ⟨o5, longer, rfl, rfl, by omega, hlo⟩
          · rintro m v τ s2 hm ⟨o5, longer, rfl, rfl, hll, hlo⟩
            obtain ⟨m1, rfl⟩ := get_rng hm
            have m9 : m < 9 := m1
            refine ⟨trivial, ?_⟩
            unfold b__law_points_3
            have ev : vsV pt = .tup (pt.map ratV) := rfl
            simp_all only [ss_nil, Nx_nil, Arm_nil, sz_0, sz_1, sz_2, sz_3, sz_4, sz_5, sz_6, sz_7, sz_8, sz_9, sz_10, sz_11, sz_12, cp_2, cp_3, cp_4, cp_5, cp_6, cp_7, cp_12, cp_20, cp_30, cp_38, cp_39, cp_40, ev]
            refine callS_of ⟨by decide, .of (by decide), ?_⟩
            have b1 : Bd 10 (Rat.divInt (0 + (m : Int)) 2) := .of_divInt (by decide) (by omega) (by decide)
            have b2 : 0 ≤ Rat.divInt (0 + (m : Int)) 2 := by rw [Rat.divInt_nonneg_iff_of_pos_right (by decide)]; omega
            revert b1 b2
            generalize Rat.divInt (0 + (m : Int)) 2 = r
            intro b1 b2
            have en : PV.tup (pt.map ratV ++ [ratV r]) = vsV (pt ++ [r]) := by unfold vsV; rw [List.map_append]; rfl
            simp_all only [ss_nil, Nx_nil, Arm_nil, sz_0, sz_1, sz_2, sz_3, sz_4, sz_5, sz_6, sz_7, sz_8, sz_9, sz_10, sz_11, sz_12, cp_2, cp_3, cp_4, cp_5, cp_6, cp_7, cp_12, cp_20, cp_30, cp_38, cp_39, cp_40, List.length_map, up_up]
            refine ⟨by omega, by omega, _, longer ++ [pt ++ [r]], rfl, by rw [en, List.map_append]; rfl, by rw [List.length_append]; simp; omega, fun p hp => ?_⟩
            rcases List.mem_append.mp hp with hp | hp
            · exact hlo p hp
            rw [List.mem_singleton.mp hp]
            refine ⟨by rw [List.length_append, pa]; rfl, fun x hx => ?_, fun x hx => ?_⟩
            · rcases List.mem_append.mp hx with hx | hx
              · exact pb x hx
              · rw [List.mem_singleton.mp hx]; exact b1
            · rcases List.mem_append.mp hx with hx | hx
              · exact pc x hx
              · rw [List.mem_singleton.mp hx]; exact b2
          · rintro τ s2 ⟨o5, longer, rfl, rfl, hll, hlo⟩
            refine ⟨trivial, ?_⟩
            rw [rng_len] at hll
            rw [nxt_nx, Nx_nil]
            exact ⟨_, _, longer, rfl, rfl, by omega, hlo⟩
        · rintro τ s2 ⟨o4, o5, longer, rfl, rfl, hll, hlo⟩
          rw [List.length_map] at hll
          exact ⟨hok _ fun a ha => up_ne ha, hD _ longer o4 o5 rfl hll hlo⟩
      have after : ∀ (longer : List (List Rat)) (o4 o5 : Option PV), longer.length ≤ pts.length * 9 → (∀ p ∈ longer, okPt (i + 1) p) → ∃ (cv : PV) (pts : List (List Rat)) (o2 o3 o4' o5' : Option PV), [some (.int k), some (.ref q), some (PV.int (0 + (i : Int))), some (.ref q), o4, o5] = [some (.int k), some cv, o2, o3, o4', o5'] ∧ Sub s (up st q (some (.lst (longer.map vsV)))) ∧ (∀ p ∈ pts, okPt (i + 1) p) ∧ pts.length ≤ 9 ^ (i + 1) ∧
          (∃ q', cv = .ref q' ∧ s q' = none ∧ up st q (some (.lst (longer.map vsV))) q' = some (.lst (pts.map vsV))) := fun longer o4 o5 h1 h2 =>
        ⟨_, longer, _, _, _, _, rfl, hs.trans (sub_new hq), h2, by rw [Nat.pow_succ]; omega, q, rfl, sq, up_same⟩
      rcases hcv with ⟨i0, rfl⟩ | ⟨q0, rfl, hs0, hq0⟩
      · simp_all only [ss_nil, Nx_nil, Arm_nil, sz_0, sz_1, sz_2, sz_3, sz_4, sz_5, sz_6, sz_7, sz_8, sz_9, sz_10, sz_11, sz_12, cp_2, cp_3, cp_4, cp_5, cp_6, cp_7, cp_12, cp_20, cp_30, cp_38, cp_39, cp_40]
        refine inner _ _ (fun _ _ => trivial) fun τ longer o4 o5 e h1 h2 => ?_
        subst e
        simp_all only [ss_nil, Nx_nil, Arm_nil, sz_0, sz_1, sz_2, sz_3, sz_4, sz_5, sz_6, sz_7, sz_8, sz_9, sz_10, sz_11, sz_12, cp_2, cp_3, cp_4, cp_5, cp_6, cp_7, cp_12, cp_20, cp_30, cp_38, cp_39, cp_40]
        (first | rw [Nx_eq] | rw [Arm_eq] | skip); (try simp_all only [ss_nil, Nx_nil, Arm_nil, sz_0, sz_1, sz_2, sz_3, sz_4, sz_5, sz_6, sz_7, sz_8, sz_9, sz_10, sz_11, sz_12, cp_2, cp_3, cp_4, cp_5, cp_6, cp_7, cp_12, cp_20, cp_30, cp_38, cp_39, cp_40])
        obtain ⟨a, b, c, d, e, f, g1, g2, g3, g4, g5⟩ := after longer o4 o5 h1 h2
        exact ⟨a, b, c, d, e, f, g1, g2, g3, g4, .inr g5⟩
      · have ne : q0 ≠ q := fun z => by rw [z, hq] at hq0; cases hq0
        have hq1 : up st q (some (.lst [])) q0 = some (.lst (pts.map vsV)) := by rw [up_ne ne]; exact hq0
        simp_all only [ss_nil, Nx_nil, Arm_nil, sz_0, sz_1, sz_2, sz_3, sz_4, sz_5, sz_6, sz_7, sz_8, sz_9, sz_10, sz_11, sz_12, cp_2, cp_3, cp_4, cp_5, cp_6, cp_7, cp_12, cp_20, cp_30, cp_38, cp_39, cp_40, hq1]
        refine inner _ _ (fun s2 h2 => (h2 q0 ne).trans hq0) fun τ longer o4 o5 e h1 h2 => ?_
        subst e
        simp_all only [ss_nil, Nx_nil, Arm_nil, sz_0, sz_1, sz_2, sz_3, sz_4, sz_5, sz_6, sz_7, sz_8, sz_9, sz_10, sz_11, sz_12, cp_2, cp_3, cp_4, cp_5, cp_6, cp_7, cp_12, cp_20, cp_30, cp_38, cp_39, cp_40]
        (first | rw [Nx_eq] | rw [Arm_eq] | skip); (try simp_all only [ss_nil, Nx_nil, Arm_nil, sz_0, sz_1, sz_2, sz_3, sz_4, sz_5, sz_6, sz_7, sz_8, sz_9, sz_10, sz_11, sz_12, cp_2, cp_3, cp_4, cp_5, cp_6, cp_7, cp_12, cp_20, cp_30, cp_38, cp_39, cp_40])
        obtain ⟨a, b, c, d, e, f, g1, g2, g3, g4, g5⟩ := after longer o4 o5 h1 h2
        exact ⟨a, b, c, d, e, f, g1, g2, g3, g4, .inr g5⟩
    · rintro τ st ⟨cv, pts, o2, o3, o4, o5, rfl, hs, hpo, hpl, hcv⟩
      refine ⟨trivial, ?_⟩
      rw [rng_len, Int.toNat_natCast] at hpo hpl hcv
      rcases hcv with ⟨e, _⟩ | ⟨q, rfl, hsq, hq⟩
      · omega
      · simp_all only [ss_nil, Nx_nil, Arm_nil, sz_0, sz_1, sz_2, sz_3, sz_4, sz_5, sz_6, sz_7, sz_8, sz_9, sz_10, sz_11, sz_12, cp_2, cp_3, cp_4, cp_5, cp_6, cp_7, cp_12, cp_20, cp_30, cp_38, cp_39, cp_40]
        (first | rw [Nx_eq] | rw [Arm_eq] | skip); (try simp_all only [ss_nil, Nx_nil, Arm_nil, sz_0, sz_1, sz_2, sz_3, sz_4, sz_5, sz_6, sz_7, sz_8, sz_9, sz_10, sz_11, sz_12, cp_2, cp_3, cp_4, cp_5, cp_6, cp_7, cp_12, cp_20, cp_30, cp_38, cp_39, cp_40])
        refine ⟨_, fun a c e => ?_, h pts q hpo hsq⟩
        by_cases ha : a = q
        · subst ha
          rw [up_same] at e
          cases e
          exact hq
        · rw [up_ne ha] at e
          exact hs a c e
  · exact h.elim
end TK

set_option maxRecDepth 100000
set_option maxHeartbeats 4000000
namespace TK
open PySem PySem.Spec PyProof.Rows L2
theorem plns_map {α : Type} (f : α → PV) : ∀ xs : List α, (∀ x ∈ xs, plnV (f x) = true) → plnVs (xs.map f) = true
  | [], _ => rfl
  | x :: r, h => by rw [List.map_cons, plnVs, h x List.mem_cons_self, plns_map f r fun y hy => h y (List.mem_cons_of_mem _ hy)]; rfl
theorem nods_map {α : Type} (f : α → PV) (n : Nat) : ∀ xs : List α, (∀ x ∈ xs, nod (f x) ≤ n) → nods (xs.map f) ≤ n * xs.length
  | [], _ => by simp [nods]
  | x :: r, h => by
    have h1 := h x List.mem_cons_self
    have h2 := nods_map f n r fun y hy => h y (List.mem_cons_of_mem _ hy)
    rw [List.map_cons, nods, List.length_cons, Nat.mul_succ]
    omega
theorem cell_nod {g : List Tt} : plnV (cellV g) = true ∧ nod (cellV g) ≤ 1 + 4 * g.length :=
  ⟨plns_map tV g fun _ _ => rfl, by
    have := nods_map tV 4 g fun t _ => by simp [tV, nod, nods]
    unfold cellV
    rw [nod]; omega⟩
theorem cells_nod {cs : List (List Tt)} (hl : cs.length ≤ 216) (h : ∀ c ∈ cs, c.length ≤ 9) : plnV (.tup (cs.map cellV)) = true ∧ nod (.tup (cs.map cellV)) ≤ 19999 :=
  ⟨plns_map cellV cs fun _ _ => cell_nod.1, by
    have := nods_map cellV 37 cs fun c hc => by
      have := (@cell_nod c).2
      have := h c hc
      omega
    rw [nod]; omega⟩
def sp__law_cells_right : PSpec
  | [.tup xs, .int c], st, Q, _ => ∃ (k : Nat) (cs : List (List Tt)), xs = cs.map cellV ∧ c = k ∧ k ≤ 100 ∧ cs.length ≤ 216 ∧ (∀ x ∈ cs, okCell k 9 x) ∧ Q (.bl true) st
  | _, _, _, _ => False
def b__law_cells_right_2 : Ss :=
  (.cons (.ite (.bools .Or (.cons (.not (.val (.isi (.var 3) "tuple"))) (.cons (.cmp .NotEq (.blt .len false (.cons (.var 3) .nil)) (.int 3)) (.cons (.not (.val (.call "_law_int" sp__law_int (.cons (.idx (.var 3) (.int 0)) .nil)))) (.cons (.not (.chain .LtE .LtE (.int 1) (.idx (.var 3) (.int 0)) (.var 1))) .nil))))) (.cons (.ret (.bl false)) .nil) .nil) (.cons (.ite (.bools .Or (.cons (.cmp .NotIn (.idx (.var 3) (.int 1)) (.lst false (.cons (.str "<") (.cons (.str "<=") (.cons (.str "=") (.cons (.str ">=") (.cons (.str ">") .nil))))))) (.cons (.not (.val (.call "_law_int" sp__law_int (.cons (.idx (.var 3) (.int 2)) .nil)))) (.cons (.not (.chain .LtE .LtE (.int 0) (.idx (.var 3) (.int 2)) (.int 3))) .nil)))) (.cons (.ret (.bl false)) .nil) .nil) (.cons (.ite (.bools .And (.cons (.cmp .Eq (.idx (.var 3) (.int 1)) (.str "<")) (.cons (.cmp .Eq (.idx (.var 3) (.int 2)) (.int 0)) .nil))) (.cons (.ret (.bl false)) .nil) .nil) .nil)))
def b__law_cells_right_1 : Ss :=
  (.cons (.ite (.not (.val (.isi (.var 2) "tuple"))) (.cons (.ret (.bl false)) .nil) .nil) (.cons (.loop (.name 3) (.val (.var 2)) b__law_cells_right_2) (.cons (.ite (.not (.val (.call "_law_can_meet" sp__law_can_meet (.cons (.var 2) .nil)))) (.cons (.ret (.bl false)) .nil) .nil) .nil)))
def b__law_cells_right : Ss :=
  (.cons (.ite (.bools .Or (.cons (.not (.val (.isi (.var 0) "tuple"))) (.cons (.not (.val (.call "_law_plain" sp__law_plain (.cons (.var 0) (.cons (.lst false (.cons (.str "int") (.cons (.str "str") .nil))) .nil))))) .nil))) (.cons (.ret (.bl false)) .nil) .nil) (.cons (.loop (.name 2) (.val (.var 0)) b__law_cells_right_1) (.cons (.ret (.bl true)) .nil)))
def n__law_cells_right : List Str := ["cells", "clocks", "cell", "test"]
theorem w__law_cells_right : ∀ vs s Q X, vs.length = 2 → sp__law_cells_right vs s Q X → wpFn n__law_cells_right.length b__law_cells_right vs s Q X := by
  intro vs s Q X hl h
  unfold sp__law_cells_right at h
  split at h
  · rename_i xs c
    rw [fn_eq]
    unfold b__law_cells_right n__law_cells_right
    obtain ⟨k, cs, rfl, rfl, hk, hcl, hcs, h⟩ := h
    have sz : 10000 ≤ sizeLine := by decide
    obtain ⟨n1, n2⟩ := cells_nod hcl fun c hc => (hcs c hc).1
    have t0 : (("tuple" : Str) == ("tuple" : Str)) = true := by decide
    simp_all only [ss_nil, Nx_nil, Arm_nil, sz_0, sz_1, sz_2, sz_3, sz_4, sz_5, sz_6, sz_7, sz_8, sz_9, sz_10, sz_11, sz_12, cp_2, cp_3, cp_4, cp_5, cp_6, cp_7, cp_12, cp_20, cp_30, cp_38, cp_39, cp_40, t0]
    refine callS_of ⟨rfl, n1, n2, ?_⟩
    simp_all only [ss_nil, Nx_nil, Arm_nil, sz_0, sz_1, sz_2, sz_3, sz_4, sz_5, sz_6, sz_7, sz_8, sz_9, sz_10, sz_11, sz_12, cp_2, cp_3, cp_4, cp_5, cp_6, cp_7, cp_12, cp_20, cp_30, cp_38, cp_39, cp_40]
    (first | rw [Nx_eq] | rw [Arm_eq] | skip); (try simp_all only [ss_nil, Nx_nil, Arm_nil, sz_0, sz_1, sz_2, sz_3, sz_4, sz_5, sz_6, sz_7, sz_8, sz_9, sz_10, sz_11, sz_12, cp_2, cp_3, cp_4, cp_5, cp_6, cp_7, cp_12, cp_20, cp_30, cp_38, cp_39, cp_40])
    refine for_at (fun i τ st => st = s ∧ ∃ o2 o3 : Option PV, τ = [some (.tup (cs.map cellV)), some (.int k), o2, o3]) ?_ ?_ ⟨rfl, _, _, rfl⟩
    · rintro i v τ st hi ⟨rfl, o2, o3, rfl⟩
      obtain ⟨c, rfl, hc⟩ := get_map hi
      obtain ⟨c1, c2, c3⟩ := hcs c (mem_at hc)
      refine ⟨trivial, ?_⟩
      unfold b__law_cells_right_1
      have ec : cellV c = .tup (c.map tV) := rfl
      simp_all only [ss_nil, Nx_nil, Arm_nil, sz_0, sz_1, sz_2, sz_3, sz_4, sz_5, sz_6, sz_7, sz_8, sz_9, sz_10, sz_11, sz_12, cp_2, cp_3, cp_4, cp_5, cp_6, cp_7, cp_12, cp_20, cp_30, cp_38, cp_39, cp_40, ec, t0]
      (first | rw [Nx_eq] | rw [Arm_eq] | skip); (try simp_all only [ss_nil, Nx_nil, Arm_nil, sz_0, sz_1, sz_2, sz_3, sz_4, sz_5, sz_6, sz_7, sz_8, sz_9, sz_10, sz_11, sz_12, cp_2, cp_3, cp_4, cp_5, cp_6, cp_7, cp_12, cp_20, cp_30, cp_38, cp_39, cp_40])
      refine for_at (fun j τ st' => st' = st ∧ ∃ o3 : Option PV, τ = [some (.tup (cs.map cellV)), some (.int k), some (.tup (c.map tV)), o3]) ?_ ?_ ⟨rfl, _, rfl⟩
      · rintro j v τ st' hj ⟨rfl, o3, rfl⟩
        obtain ⟨t, rfl, ht⟩ := get_map hj
        obtain ⟨w1, w2, w3, w4⟩ := c2 t (mem_at ht)
        refine ⟨trivial, ?_⟩
        unfold b__law_cells_right_2
        obtain ⟨tc, sg, n⟩ := t
        have w1 : 1 ≤ tc := w1
        have w2 : tc ≤ k := w2
        have w3 : n ≤ 3 := w3
        have w4 : sg = .lt → n ≠ 0 := w4
        have tv : tV ⟨tc, sg, n⟩ = .tup [.int tc, .str (sgS sg), .int n] := rfl
        have b1 : (1 ≤ (tc : Int)) = True := eq_true (by omega)
        have b2 : ((tc : Int) ≤ (k : Int)) = True := eq_true (by omega)
        have b3 : ((n : Int) ≤ 3) = True := eq_true (by omega)
        have b0 : (0 ≤ (n : Int)) = True := eq_true (by omega)
        have ml := mem_all sg
        rw [tv]
        simp_all only [ss_nil, Nx_nil, Arm_nil, sz_0, sz_1, sz_2, sz_3, sz_4, sz_5, sz_6, sz_7, sz_8, sz_9, sz_10, sz_11, sz_12, cp_2, cp_3, cp_4, cp_5, cp_6, cp_7, cp_12, cp_20, cp_30, cp_38, cp_39, cp_40, t0]
        refine callS_of ⟨rfl, ?_⟩
        simp_all only [ss_nil, Nx_nil, Arm_nil, sz_0, sz_1, sz_2, sz_3, sz_4, sz_5, sz_6, sz_7, sz_8, sz_9, sz_10, sz_11, sz_12, cp_2, cp_3, cp_4, cp_5, cp_6, cp_7, cp_12, cp_20, cp_30, cp_38, cp_39, cp_40, isI, b1, b2]
        (first | rw [Nx_eq] | rw [Arm_eq] | skip); (try simp_all only [ss_nil, Nx_nil, Arm_nil, sz_0, sz_1, sz_2, sz_3, sz_4, sz_5, sz_6, sz_7, sz_8, sz_9, sz_10, sz_11, sz_12, cp_2, cp_3, cp_4, cp_5, cp_6, cp_7, cp_12, cp_20, cp_30, cp_38, cp_39, cp_40, ml, isSc, List.all_cons, List.all_nil, Bool.and_self])
        refine callS_of ⟨rfl, ?_⟩
        simp_all only [ss_nil, Nx_nil, Arm_nil, sz_0, sz_1, sz_2, sz_3, sz_4, sz_5, sz_6, sz_7, sz_8, sz_9, sz_10, sz_11, sz_12, cp_2, cp_3, cp_4, cp_5, cp_6, cp_7, cp_12, cp_20, cp_30, cp_38, cp_39, cp_40, isI, b0, b3]
        have e0 : (((n : Int) = 0) : Prop) ↔ n = 0 := by omega
        by_cases hs : sg = .lt
        · have ne := w4 hs
          have l1 := eq_true ((sg5 sg).1.mpr hs)
          (first | rw [Nx_eq] | rw [Arm_eq] | skip); (try simp_all only [ss_nil, Nx_nil, Arm_nil, sz_0, sz_1, sz_2, sz_3, sz_4, sz_5, sz_6, sz_7, sz_8, sz_9, sz_10, sz_11, sz_12, cp_2, cp_3, cp_4, cp_5, cp_6, cp_7, cp_12, cp_20, cp_30, cp_38, cp_39, cp_40, l1, e0])
          rw [if_neg ne]
          exact ⟨_, rfl⟩
        · have l1 := eq_false fun e => hs ((sg5 sg).1.mp e)
          (first | rw [Nx_eq] | rw [Arm_eq] | skip); (try simp_all only [ss_nil, Nx_nil, Arm_nil, sz_0, sz_1, sz_2, sz_3, sz_4, sz_5, sz_6, sz_7, sz_8, sz_9, sz_10, sz_11, sz_12, cp_2, cp_3, cp_4, cp_5, cp_6, cp_7, cp_12, cp_20, cp_30, cp_38, cp_39, cp_40, l1])
          exact ⟨_, rfl⟩
      · rintro τ st' ⟨rfl, o3, rfl⟩
        refine ⟨trivial, ?_⟩
        simp_all only [ss_nil, Nx_nil, Arm_nil, sz_0, sz_1, sz_2, sz_3, sz_4, sz_5, sz_6, sz_7, sz_8, sz_9, sz_10, sz_11, sz_12, cp_2, cp_3, cp_4, cp_5, cp_6, cp_7, cp_12, cp_20, cp_30, cp_38, cp_39, cp_40]
        (first | rw [Nx_eq] | rw [Arm_eq] | skip); (try simp_all only [ss_nil, Nx_nil, Arm_nil, sz_0, sz_1, sz_2, sz_3, sz_4, sz_5, sz_6, sz_7, sz_8, sz_9, sz_10, sz_11, sz_12, cp_2, cp_3, cp_4, cp_5, cp_6, cp_7, cp_12, cp_20, cp_30, cp_38, cp_39, cp_40])
        refine callS_of ⟨c, rfl, by omega, fun t ht => ⟨(c2 t ht).1, by have := (c2 t ht).2.1; omega⟩, c3, ?_⟩
        simp_all only [ss_nil, Nx_nil, Arm_nil, sz_0, sz_1, sz_2, sz_3, sz_4, sz_5, sz_6, sz_7, sz_8, sz_9, sz_10, sz_11, sz_12, cp_2, cp_3, cp_4, cp_5, cp_6, cp_7, cp_12, cp_20, cp_30, cp_38, cp_39, cp_40]
        exact ⟨_, _, rfl⟩
    · rintro τ st ⟨rfl, o2, o3, rfl⟩
      refine ⟨trivial, ?_⟩
      simp_all only [ss_nil, Nx_nil, Arm_nil, sz_0, sz_1, sz_2, sz_3, sz_4, sz_5, sz_6, sz_7, sz_8, sz_9, sz_10, sz_11, sz_12, cp_2, cp_3, cp_4, cp_5, cp_6, cp_7, cp_12, cp_20, cp_30, cp_38, cp_39, cp_40]
      (first | rw [Nx_eq] | rw [Arm_eq] | skip); (try simp_all only [ss_nil, Nx_nil, Arm_nil, sz_0, sz_1, sz_2, sz_3, sz_4, sz_5, sz_6, sz_7, sz_8, sz_9, sz_10, sz_11, sz_12, cp_2, cp_3, cp_4, cp_5, cp_6, cp_7, cp_12, cp_20, cp_30, cp_38, cp_39, cp_40])
      exact ⟨st, .rfl, h⟩
  · exact h.elim
theorem flat_tts (n : Nat) : ∀ g : List Tt, flats (n + 2) (g.map tV) = true
  | [] => rfl
  | t :: r => by
    have hs : PyData.strOk (sgS t.s) = true := by
      unfold PyData.strOk
      rw [← Array.all_toList]
      cases t.s <;> decide
    rw [List.map_cons, flats, flat_tts n r]
    simp [tV, flat, flats, hs]
theorem flat_cells (n : Nat) : ∀ cs : List (List Tt), flats (n + 3) (cs.map cellV) = true
  | [] => rfl
  | g :: r => by
    rw [List.map_cons, flats, flat_cells n r]
    have := flat_tts n g
    simp [cellV, flat, this]
theorem flat_lot (n : Nat) (cs : List (List Tt)) : flat (n + 4) (.tup (cs.map cellV)) = true := by
  rw [flat]; simp [flat_cells]
theorem eqv_cell {g : List Tt} : eqv (cellV g) (.tup []) = decide (g = []) := by
  cases g <;> simp [cellV, eqv, eqvs]
open Classical in
theorem any_cell (gs : List (List Tt)) : (gs.map cellV).any (fun y => eqv y (.tup [])) = decide ([] ∈ gs) := by
  induction gs with
  | nil => rfl
  | cons g r ih =>
    rw [List.map_cons, List.any_cons, ih, eqv_cell]
    by_cases h : g = [] <;> simp [h, eq_comm]
def b_law_1 : Ss :=
  (.cons (.asg (.name 7) (.call "_law_outside" sp__law_outside (.cons (.var 3) (.cons (.var 6) .nil)))) (.cons (.ite (.bools .Or (.cons (.cmp .NotEq (.call "_law_in_some" sp__law_in_some (.cons (.var 4) (.cons (.var 6) .nil))) (.var 7)) (.cons (.cmp .NotEq (.call "_law_in_some" sp__law_in_some (.cons (.var 5) (.cons (.var 6) .nil))) (.var 7)) .nil))) (.cons (.ret (.bl false)) .nil) .nil) .nil))
def b_law : Ss :=
  (.cons (.asg (.name 1) (.call "_law_pool" sp__law_pool (.cons (.var 0) .nil))) (.cons (.asg (.name 2) (.bin .Add false (.int 1) (.call "_law_draw" sp__law_draw (.cons (.var 1) (.cons (.int 2) .nil))))) (.cons (.asg (.name 3) (.blt .tuple false (.cons (.comp false [8] (.name 8) (.range1 (.call "_law_draw" sp__law_draw (.cons (.var 1) (.cons (.int 4) .nil)))) .nil (.call "_law_drawn_guard" sp__law_drawn_guard (.cons (.var 1) (.cons (.var 2) .nil)))) .nil))) (.cons (.asg (.name 4) (.call "cells_outside" sp_cells_outside (.cons (.var 3) .nil))) (.cons (.asg (.name 5) (.call "cells_outside" sp_cells_outside (.cons (.un .revT (.var 3)) .nil))) (.cons (.ite (.bools .Or (.cons (.not (.val (.call "_law_cells_right" sp__law_cells_right (.cons (.var 4) (.cons (.var 2) .nil))))) (.cons (.not (.val (.call "_law_cells_right" sp__law_cells_right (.cons (.var 5) (.cons (.var 2) .nil))))) .nil))) (.cons (.ret (.bl false)) .nil) .nil) (.cons (.loop (.name 6) (.val (.call "_law_points" sp__law_points (.cons (.var 2) .nil))) b_law_1) (.cons (.ite (.bools .And (.cons (.cmp .Eq (.blt .len false (.cons (.var 3) .nil)) (.int 0)) (.cons (.not (.val (.call "_law_same" sp__law_same (.cons (.var 4) (.cons (.tup (.cons (.tup .nil) .nil)) .nil))))) .nil))) (.cons (.ret (.bl false)) .nil) .nil) (.cons (.ite (.bools .And (.cons (.cmp .In (.tup .nil) (.var 3)) (.cons (.cmp .NotEq (.var 4) (.tup .nil)) .nil))) (.cons (.ret (.bl false)) .nil) .nil) (.cons (.ret (.bools .And (.cons (.call "_law_same" sp__law_same (.cons (.call "cells_outside" sp_cells_outside (.cons (.tup .nil) .nil)) (.cons (.tup (.cons (.tup .nil) .nil)) .nil))) (.cons (.cmp .Eq (.call "cells_outside" sp_cells_outside (.cons (.tup (.cons (.tup .nil) .nil)) .nil)) (.tup .nil)) .nil)))) .nil))))))))))
def n_law : List Str := ["script", "pool", "clocks", "guards", "cells", "turned", "point", "outside", "k"]
theorem w_law : ∀ vs s Q X, vs.length = 1 → lawSp vs s Q X → wpFn n_law.length b_law vs s Q X := by
  rintro vs s Q X hl ⟨ns, rfl, hns, h⟩
  rw [fn_eq]
  unfold b_law n_law
  have sz : 10000 ≤ sizeLine := by decide
  simp_all only [ss_nil, Nx_nil, Arm_nil, sz_0, sz_1, sz_2, sz_3, sz_4, sz_5, sz_6, sz_7, sz_8, sz_9, sz_10, sz_11, sz_12, cp_2, cp_3, cp_4, cp_5, cp_6, cp_7, cp_12, cp_20, cp_30, cp_38, cp_39, cp_40]
  refine callS_of fun p hp0 => ?_
  have hp : up s p (some .pool) p = some .pool := up_same
  revert hp
  generalize up s p (some .pool) = s1
  intro hp
  simp_all only [ss_nil, Nx_nil, Arm_nil, sz_0, sz_1, sz_2, sz_3, sz_4, sz_5, sz_6, sz_7, sz_8, sz_9, sz_10, sz_11, sz_12, cp_2, cp_3, cp_4, cp_5, cp_6, cp_7, cp_12, cp_20, cp_30, cp_38, cp_39, cp_40]
  (first | rw [Nx_eq] | rw [Arm_eq] | skip); (try simp_all only [ss_nil, Nx_nil, Arm_nil, sz_0, sz_1, sz_2, sz_3, sz_4, sz_5, sz_6, sz_7, sz_8, sz_9, sz_10, sz_11, sz_12, cp_2, cp_3, cp_4, cp_5, cp_6, cp_7, cp_12, cp_20, cp_30, cp_38, cp_39, cp_40])
  refine callS_of ⟨hp, .of (by decide), fun c c0 c1 _ => ?_⟩
  obtain ⟨k, ek, k1, k2⟩ : ∃ k : Nat, 1 + c = (k : Int) ∧ 1 ≤ k ∧ k ≤ 2 := ⟨(1 + c).toNat, by omega, by omega, by have := c1 (by decide); omega⟩
  simp_all only [ss_nil, Nx_nil, Arm_nil, sz_0, sz_1, sz_2, sz_3, sz_4, sz_5, sz_6, sz_7, sz_8, sz_9, sz_10, sz_11, sz_12, cp_2, cp_3, cp_4, cp_5, cp_6, cp_7, cp_12, cp_20, cp_30, cp_38, cp_39, cp_40, ek]
  (first | rw [Nx_eq] | rw [Arm_eq] | skip); (try simp_all only [ss_nil, Nx_nil, Arm_nil, sz_0, sz_1, sz_2, sz_3, sz_4, sz_5, sz_6, sz_7, sz_8, sz_9, sz_10, sz_11, sz_12, cp_2, cp_3, cp_4, cp_5, cp_6, cp_7, cp_12, cp_20, cp_30, cp_38, cp_39, cp_40])
  refine callS_of ⟨hp, .of (by decide), fun u u0 u1 _ => ?_⟩
  have u1 := u1 (by decide)
  simp_all only [ss_nil, Nx_nil, Arm_nil, sz_0, sz_1, sz_2, sz_3, sz_4, sz_5, sz_6, sz_7, sz_8, sz_9, sz_10, sz_11, sz_12, cp_2, cp_3, cp_4, cp_5, cp_6, cp_7, cp_12, cp_20, cp_30, cp_38, cp_39, cp_40]
  refine ⟨by unfold R62; omega, by rw [rng_len]; omega, ?_⟩
  refine lc_prop (P := fun y => ∃ g : List Tt, y = cellV g ∧ g.length ≤ 3 ∧ ∀ t ∈ g, wfT k t) (fun τ1 st' Q q => by simp_all only [ss_nil, Nx_nil, Arm_nil, sz_0, sz_1, sz_2, sz_3, sz_4, sz_5, sz_6, sz_7, sz_8, sz_9, sz_10, sz_11, sz_12, cp_2, cp_3, cp_4, cp_5, cp_6, cp_7, cp_12, cp_20, cp_30, cp_38, cp_39, cp_40]; exact q) _ [] (fun x hx => ⟨_, rfl, fun st' sub K hK => ?_⟩) (fun _ h => (nomatch h)) fun ys hl hpp => ?_
  · simp_all only [ss_nil, Nx_nil, Arm_nil, sz_0, sz_1, sz_2, sz_3, sz_4, sz_5, sz_6, sz_7, sz_8, sz_9, sz_10, sz_11, sz_12, cp_2, cp_3, cp_4, cp_5, cp_6, cp_7, cp_12, cp_20, cp_30, cp_38, cp_39, cp_40]
    refine callS_of ⟨sub _ _ hp, k, rfl, k1, by omega, fun g g1 g2 => hK _ ⟨g, rfl, g1, g2⟩⟩
  obtain ⟨guards, rfl, hgs⟩ := all_enc hpp
  rw [rng_len, List.length_map] at hl
  have gl : guards.length ≤ 3 := by simp at hl; omega
  simp_all only [ss_nil, Nx_nil, Arm_nil, sz_0, sz_1, sz_2, sz_3, sz_4, sz_5, sz_6, sz_7, sz_8, sz_9, sz_10, sz_11, sz_12, cp_2, cp_3, cp_4, cp_5, cp_6, cp_7, cp_12, cp_20, cp_30, cp_38, cp_39, cp_40]
  (first | rw [Nx_eq] | rw [Arm_eq] | skip); (try simp_all only [ss_nil, Nx_nil, Arm_nil, sz_0, sz_1, sz_2, sz_3, sz_4, sz_5, sz_6, sz_7, sz_8, sz_9, sz_10, sz_11, sz_12, cp_2, cp_3, cp_4, cp_5, cp_6, cp_7, cp_12, cp_20, cp_30, cp_38, cp_39, cp_40])
  refine callS_of ⟨k, guards, rfl, by omega, gl, hgs, fun cs cl cok call cnil cemp => ?_⟩
  simp_all only [ss_nil, Nx_nil, Arm_nil, sz_0, sz_1, sz_2, sz_3, sz_4, sz_5, sz_6, sz_7, sz_8, sz_9, sz_10, sz_11, sz_12, cp_2, cp_3, cp_4, cp_5, cp_6, cp_7, cp_12, cp_20, cp_30, cp_38, cp_39, cp_40]
  (first | rw [Nx_eq] | rw [Arm_eq] | skip); (try simp_all only [ss_nil, Nx_nil, Arm_nil, sz_0, sz_1, sz_2, sz_3, sz_4, sz_5, sz_6, sz_7, sz_8, sz_9, sz_10, sz_11, sz_12, cp_2, cp_3, cp_4, cp_5, cp_6, cp_7, cp_12, cp_20, cp_30, cp_38, cp_39, cp_40, ← List.map_reverse])
  refine callS_of ⟨k, guards.reverse, rfl, by omega, by rw [List.length_reverse]; exact gl, fun g hg => hgs g (List.mem_reverse.mp hg), fun ds dl dok dall _ _ => ?_⟩
  simp_all only [ss_nil, Nx_nil, Arm_nil, sz_0, sz_1, sz_2, sz_3, sz_4, sz_5, sz_6, sz_7, sz_8, sz_9, sz_10, sz_11, sz_12, cp_2, cp_3, cp_4, cp_5, cp_6, cp_7, cp_12, cp_20, cp_30, cp_38, cp_39, cp_40]
  (first | rw [Nx_eq] | rw [Arm_eq] | skip); (try simp_all only [ss_nil, Nx_nil, Arm_nil, sz_0, sz_1, sz_2, sz_3, sz_4, sz_5, sz_6, sz_7, sz_8, sz_9, sz_10, sz_11, sz_12, cp_2, cp_3, cp_4, cp_5, cp_6, cp_7, cp_12, cp_20, cp_30, cp_38, cp_39, cp_40])
  refine callS_of ⟨k, cs, rfl, rfl, by omega, cl, cok, ?_⟩
  simp_all only [ss_nil, Nx_nil, Arm_nil, sz_0, sz_1, sz_2, sz_3, sz_4, sz_5, sz_6, sz_7, sz_8, sz_9, sz_10, sz_11, sz_12, cp_2, cp_3, cp_4, cp_5, cp_6, cp_7, cp_12, cp_20, cp_30, cp_38, cp_39, cp_40]
  refine callS_of ⟨k, ds, rfl, rfl, by omega, dl, dok, ?_⟩
  simp_all only [ss_nil, Nx_nil, Arm_nil, sz_0, sz_1, sz_2, sz_3, sz_4, sz_5, sz_6, sz_7, sz_8, sz_9, sz_10, sz_11, sz_12, cp_2, cp_3, cp_4, cp_5, cp_6, cp_7, cp_12, cp_20, cp_30, cp_38, cp_39, cp_40]
  (first | rw [Nx_eq] | rw [Arm_eq] | skip); (try simp_all only [ss_nil, Nx_nil, Arm_nil, sz_0, sz_1, sz_2, sz_3, sz_4, sz_5, sz_6, sz_7, sz_8, sz_9, sz_10, sz_11, sz_12, cp_2, cp_3, cp_4, cp_5, cp_6, cp_7, cp_12, cp_20, cp_30, cp_38, cp_39, cp_40])
  refine callS_of ⟨k, rfl, k1, k2, fun pts q hpt hq => ?_⟩
  simp_all only [ss_nil, Nx_nil, Arm_nil, sz_0, sz_1, sz_2, sz_3, sz_4, sz_5, sz_6, sz_7, sz_8, sz_9, sz_10, sz_11, sz_12, cp_2, cp_3, cp_4, cp_5, cp_6, cp_7, cp_12, cp_20, cp_30, cp_38, cp_39, cp_40, up_same]
  refine for_at (fun i τ st => st = up s1 q (some (.lst (pts.map vsV))) ∧ ∃ o6 o7 : Option PV, τ = [some (.scr ns), some (.ref p), some (.int k), some (.tup (guards.map cellV)), some (.tup (cs.map cellV)), some (.tup (ds.map cellV)), o6, o7, none]) ?_ ?_ ⟨rfl, _, _, rfl⟩
  · rintro i v τ st hi ⟨rfl, o6, o7, rfl⟩
    obtain ⟨pt, rfl, hp1⟩ := get_map hi
    obtain ⟨p1, p2, p3⟩ := hpt pt (mem_at hp1)
    have okg : ∀ {gs : List (List Tt)}, (∀ g ∈ gs, ∀ t ∈ g, wfT k t) → ∀ g ∈ gs, ∀ t ∈ g, t.ok pt.length := fun h g hg t ht => by
      obtain ⟨a, b, c, _⟩ := h g hg t ht
      exact ⟨a, by rw [p1]; exact b, by omega⟩
    have vb : VB 3900 pt := p2.mono (by decide)
    refine ⟨up_same, ?_⟩
    unfold b_law_1
    simp_all only [ss_nil, Nx_nil, Arm_nil, sz_0, sz_1, sz_2, sz_3, sz_4, sz_5, sz_6, sz_7, sz_8, sz_9, sz_10, sz_11, sz_12, cp_2, cp_3, cp_4, cp_5, cp_6, cp_7, cp_12, cp_20, cp_30, cp_38, cp_39, cp_40]
    refine callS_of ⟨guards, pt, rfl, rfl, okg fun g hg => (hgs g hg).2, vb, ?_⟩
    simp_all only [ss_nil, Nx_nil, Arm_nil, sz_0, sz_1, sz_2, sz_3, sz_4, sz_5, sz_6, sz_7, sz_8, sz_9, sz_10, sz_11, sz_12, cp_2, cp_3, cp_4, cp_5, cp_6, cp_7, cp_12, cp_20, cp_30, cp_38, cp_39, cp_40]
    (first | rw [Nx_eq] | rw [Arm_eq] | skip); (try simp_all only [ss_nil, Nx_nil, Arm_nil, sz_0, sz_1, sz_2, sz_3, sz_4, sz_5, sz_6, sz_7, sz_8, sz_9, sz_10, sz_11, sz_12, cp_2, cp_3, cp_4, cp_5, cp_6, cp_7, cp_12, cp_20, cp_30, cp_38, cp_39, cp_40])
    refine callS_of ⟨cs, pt, rfl, rfl, okg fun g hg => (cok g hg).2.1, vb, ?_⟩
    rw [call pt p3]
    simp_all only [ss_nil, Nx_nil, Arm_nil, sz_0, sz_1, sz_2, sz_3, sz_4, sz_5, sz_6, sz_7, sz_8, sz_9, sz_10, sz_11, sz_12, cp_2, cp_3, cp_4, cp_5, cp_6, cp_7, cp_12, cp_20, cp_30, cp_38, cp_39, cp_40]
    rw [if_neg (by rw [beq_self_eq_true]; simp)]
    refine callS_of ⟨ds, pt, rfl, rfl, okg fun g hg => (dok g hg).2.1, vb, ?_⟩
    rw [dall pt p3, List.all_reverse]
    simp_all only [ss_nil, Nx_nil, Arm_nil, sz_0, sz_1, sz_2, sz_3, sz_4, sz_5, sz_6, sz_7, sz_8, sz_9, sz_10, sz_11, sz_12, cp_2, cp_3, cp_4, cp_5, cp_6, cp_7, cp_12, cp_20, cp_30, cp_38, cp_39, cp_40]
    rw [if_neg (by rw [beq_self_eq_true]; simp)]
    exact ⟨_, _, rfl⟩
  · rintro τ st ⟨rfl, o6, o7, rfl⟩
    refine ⟨up_same, ?_⟩
    have sh : ShowOk (.tup [.tup []]) ∧ noRef (.tup [.tup []]) = true := ⟨showOk_of (by simp [shOk, shOks]) (by simp [wgt, wgts]; omega), rfl⟩
    simp_all only [ss_nil, Nx_nil, Arm_nil, sz_0, sz_1, sz_2, sz_3, sz_4, sz_5, sz_6, sz_7, sz_8, sz_9, sz_10, sz_11, sz_12, cp_2, cp_3, cp_4, cp_5, cp_6, cp_7, cp_12, cp_20, cp_30, cp_38, cp_39, cp_40]
    (first | rw [Nx_eq] | rw [Arm_eq] | skip); (try simp_all only [ss_nil, Nx_nil, Arm_nil, sz_0, sz_1, sz_2, sz_3, sz_4, sz_5, sz_6, sz_7, sz_8, sz_9, sz_10, sz_11, sz_12, cp_2, cp_3, cp_4, cp_5, cp_6, cp_7, cp_12, cp_20, cp_30, cp_38, cp_39, cp_40, List.length_map])
    have key : (((guards.length : Nat) : Int) = 0) ↔ guards = [] := by rw [Int.natCast_eq_zero, List.length_eq_zero_iff]
    have io : inOk (up s1 q (some (.lst (pts.map vsV)))) (.tup []) (.tup (guards.map cellV)) (guards.map cellV) := .inr ⟨rfl, flat_lot 56 guards⟩
    have eo : eqOk (up s1 q (some (.lst (pts.map vsV)))) (.tup (cs.map cellV)) (.tup []) := .inr ⟨flat_lot 56 cs, rfl⟩
    simp only [key]
    split
    · rename_i hg
      rw [cnil hg]
      refine callS_of ⟨rfl, sh.2, sh.1, ?_⟩
      simp_all only [ss_nil, Nx_nil, Arm_nil, sz_0, sz_1, sz_2, sz_3, sz_4, sz_5, sz_6, sz_7, sz_8, sz_9, sz_10, sz_11, sz_12, cp_2, cp_3, cp_4, cp_5, cp_6, cp_7, cp_12, cp_20, cp_30, cp_38, cp_39, cp_40]
      (first | rw [Nx_eq] | rw [Arm_eq] | skip); (try simp_all only [ss_nil, Nx_nil, Arm_nil, sz_0, sz_1, sz_2, sz_3, sz_4, sz_5, sz_6, sz_7, sz_8, sz_9, sz_10, sz_11, sz_12, cp_2, cp_3, cp_4, cp_5, cp_6, cp_7, cp_12, cp_20, cp_30, cp_38, cp_39, cp_40, any_cell])
      refine ⟨io, ?_⟩
      rw [if_neg (by simp [hg])]
      (first | rw [Nx_eq] | rw [Arm_eq] | skip); (try simp_all only [ss_nil, Nx_nil, Arm_nil, sz_0, sz_1, sz_2, sz_3, sz_4, sz_5, sz_6, sz_7, sz_8, sz_9, sz_10, sz_11, sz_12, cp_2, cp_3, cp_4, cp_5, cp_6, cp_7, cp_12, cp_20, cp_30, cp_38, cp_39, cp_40])
      refine callS_of ⟨k, [], rfl, by omega, by simp, fun _ h => (nomatch h), fun xs _ _ _ x1 _ => ?_⟩
      rw [x1 rfl]
      simp_all only [ss_nil, Nx_nil, Arm_nil, sz_0, sz_1, sz_2, sz_3, sz_4, sz_5, sz_6, sz_7, sz_8, sz_9, sz_10, sz_11, sz_12, cp_2, cp_3, cp_4, cp_5, cp_6, cp_7, cp_12, cp_20, cp_30, cp_38, cp_39, cp_40]
      refine callS_of ⟨rfl, sh.2, sh.1, ?_⟩
      simp_all only [ss_nil, Nx_nil, Arm_nil, sz_0, sz_1, sz_2, sz_3, sz_4, sz_5, sz_6, sz_7, sz_8, sz_9, sz_10, sz_11, sz_12, cp_2, cp_3, cp_4, cp_5, cp_6, cp_7, cp_12, cp_20, cp_30, cp_38, cp_39, cp_40]
      refine callS_of ⟨k, [[]], rfl, by omega, by simp, fun g hg => ?_, fun ys _ _ _ _ y1 => ?_⟩
      · rw [List.mem_singleton.mp hg]; exact ⟨by simp, fun _ h => (nomatch h)⟩
      rw [y1 List.mem_cons_self]
      simp_all only [ss_nil, Nx_nil, Arm_nil, sz_0, sz_1, sz_2, sz_3, sz_4, sz_5, sz_6, sz_7, sz_8, sz_9, sz_10, sz_11, sz_12, cp_2, cp_3, cp_4, cp_5, cp_6, cp_7, cp_12, cp_20, cp_30, cp_38, cp_39, cp_40]
      exact ⟨.inr ⟨rfl, rfl⟩, _, .rfl, h _⟩
    · (first | rw [Nx_eq] | rw [Arm_eq] | skip); (try simp_all only [ss_nil, Nx_nil, Arm_nil, sz_0, sz_1, sz_2, sz_3, sz_4, sz_5, sz_6, sz_7, sz_8, sz_9, sz_10, sz_11, sz_12, cp_2, cp_3, cp_4, cp_5, cp_6, cp_7, cp_12, cp_20, cp_30, cp_38, cp_39, cp_40, any_cell])
      refine ⟨io, ?_⟩
      split
      · rename_i hin
        rw [cemp (by simpa using hin)]
        refine ⟨.inr ⟨rfl, rfl⟩, ?_⟩
        rw [if_neg (by show ¬ (eqv (.tup []) (.tup []) = false); decide)]
        (first | rw [Nx_eq] | rw [Arm_eq] | skip); (try simp_all only [ss_nil, Nx_nil, Arm_nil, sz_0, sz_1, sz_2, sz_3, sz_4, sz_5, sz_6, sz_7, sz_8, sz_9, sz_10, sz_11, sz_12, cp_2, cp_3, cp_4, cp_5, cp_6, cp_7, cp_12, cp_20, cp_30, cp_38, cp_39, cp_40])
        refine callS_of ⟨k, [], rfl, by omega, by simp, fun _ h => (nomatch h), fun xs _ _ _ x1 _ => ?_⟩
        rw [x1 rfl]
        simp_all only [ss_nil, Nx_nil, Arm_nil, sz_0, sz_1, sz_2, sz_3, sz_4, sz_5, sz_6, sz_7, sz_8, sz_9, sz_10, sz_11, sz_12, cp_2, cp_3, cp_4, cp_5, cp_6, cp_7, cp_12, cp_20, cp_30, cp_38, cp_39, cp_40]
        refine callS_of ⟨rfl, sh.2, sh.1, ?_⟩
        simp_all only [ss_nil, Nx_nil, Arm_nil, sz_0, sz_1, sz_2, sz_3, sz_4, sz_5, sz_6, sz_7, sz_8, sz_9, sz_10, sz_11, sz_12, cp_2, cp_3, cp_4, cp_5, cp_6, cp_7, cp_12, cp_20, cp_30, cp_38, cp_39, cp_40]
        refine callS_of ⟨k, [[]], rfl, by omega, by simp, fun g hg => ?_, fun ys _ _ _ _ y1 => ?_⟩
        · rw [List.mem_singleton.mp hg]; exact ⟨by simp, fun _ h => (nomatch h)⟩
        rw [y1 List.mem_cons_self]
        simp_all only [ss_nil, Nx_nil, Arm_nil, sz_0, sz_1, sz_2, sz_3, sz_4, sz_5, sz_6, sz_7, sz_8, sz_9, sz_10, sz_11, sz_12, cp_2, cp_3, cp_4, cp_5, cp_6, cp_7, cp_12, cp_20, cp_30, cp_38, cp_39, cp_40]
        exact ⟨.inr ⟨rfl, rfl⟩, _, .rfl, h _⟩
      · skip
        (first | rw [Nx_eq] | rw [Arm_eq] | skip); (try simp_all only [ss_nil, Nx_nil, Arm_nil, sz_0, sz_1, sz_2, sz_3, sz_4, sz_5, sz_6, sz_7, sz_8, sz_9, sz_10, sz_11, sz_12, cp_2, cp_3, cp_4, cp_5, cp_6, cp_7, cp_12, cp_20, cp_30, cp_38, cp_39, cp_40])
        refine callS_of ⟨k, [], rfl, by omega, by simp, fun _ h => (nomatch h), fun xs _ _ _ x1 _ => ?_⟩
        rw [x1 rfl]
        simp_all only [ss_nil, Nx_nil, Arm_nil, sz_0, sz_1, sz_2, sz_3, sz_4, sz_5, sz_6, sz_7, sz_8, sz_9, sz_10, sz_11, sz_12, cp_2, cp_3, cp_4, cp_5, cp_6, cp_7, cp_12, cp_20, cp_30, cp_38, cp_39, cp_40]
        refine callS_of ⟨rfl, sh.2, sh.1, ?_⟩
        simp_all only [ss_nil, Nx_nil, Arm_nil, sz_0, sz_1, sz_2, sz_3, sz_4, sz_5, sz_6, sz_7, sz_8, sz_9, sz_10, sz_11, sz_12, cp_2, cp_3, cp_4, cp_5, cp_6, cp_7, cp_12, cp_20, cp_30, cp_38, cp_39, cp_40]
        refine callS_of ⟨k, [[]], rfl, by omega, by simp, fun g hg => ?_, fun ys _ _ _ _ y1 => ?_⟩
        · rw [List.mem_singleton.mp hg]; exact ⟨by simp, fun _ h => (nomatch h)⟩
        rw [y1 List.mem_cons_self]
        simp_all only [ss_nil, Nx_nil, Arm_nil, sz_0, sz_1, sz_2, sz_3, sz_4, sz_5, sz_6, sz_7, sz_8, sz_9, sz_10, sz_11, sz_12, cp_2, cp_3, cp_4, cp_5, cp_6, cp_7, cp_12, cp_20, cp_30, cp_38, cp_39, cp_40]
        exact ⟨.inr ⟨rfl, rfl⟩, _, .rfl, h _⟩
end TK

namespace TK
open PySem PySem.Spec PyProof.Rows L2
/-! ### the linked text: its defs -/
def topS (i : Nat) : Stmt := PySem.Challenge.pw_tickless_k65_cells_outside_guards.main.body.getD i (.Pass ⟨0, 0, 0, 0⟩)
abbrev s_at_most : Stmt := topS 4
theorem sc_at_most : FnScope n_at_most ["n"] (defScope s_at_most) := ⟨rfl, rfl, rfl, by decide +kernel, rfl, by decide +kernel, by decide +kernel⟩
theorem ck_at_most : chkSs b_at_most ⟨n_at_most, defScope s_at_most, defScope s_at_most⟩ (defBody s_at_most) = true := by decide +kernel
abbrev s_below : Stmt := topS 5
theorem sc_below : FnScope n_below ["n"] (defScope s_below) := ⟨rfl, rfl, rfl, by decide +kernel, rfl, by decide +kernel, by decide +kernel⟩
theorem ck_below : chkSs b_below ⟨n_below, defScope s_below, defScope s_below⟩ (defBody s_below) = true := by decide +kernel
abbrev s_is_tight : Stmt := topS 6
theorem sc_is_tight : FnScope n_is_tight ["a", "b"] (defScope s_is_tight) := ⟨rfl, rfl, rfl, by decide +kernel, rfl, by decide +kernel, by decide +kernel⟩
theorem ck_is_tight : chkSs b_is_tight ⟨n_is_tight, defScope s_is_tight, defScope s_is_tight⟩ (defBody s_is_tight) = true := by decide +kernel
abbrev s_closed_grid : Stmt := topS 9
theorem sc_closed_grid : FnScope n_closed_grid ["grid"] (defScope s_closed_grid) := ⟨rfl, rfl, rfl, by decide +kernel, rfl, by decide +kernel, by decide +kernel⟩
theorem ck_closed_grid : chkSs b_closed_grid ⟨n_closed_grid, defScope s_closed_grid, defScope s_closed_grid⟩ (defBody s_closed_grid) = true := by decide +kernel
abbrev s_whole_lot : Stmt := topS 10
theorem sc_whole_lot : FnScope n_whole_lot ["k"] (defScope s_whole_lot) := ⟨rfl, rfl, rfl, by decide +kernel, rfl, by decide +kernel, by decide +kernel⟩
theorem ck_whole_lot : chkSs b_whole_lot ⟨n_whole_lot, defScope s_whole_lot, defScope s_whole_lot⟩ (defBody s_whole_lot) = true := by decide +kernel
abbrev s_with_bounds : Stmt := topS 11
theorem sc_with_bounds : FnScope n_with_bounds ["lot", "bounds"] (defScope s_with_bounds) := ⟨rfl, rfl, rfl, by decide +kernel, rfl, by decide +kernel, by decide +kernel⟩
theorem ck_with_bounds : chkSs b_with_bounds ⟨n_with_bounds, defScope s_with_bounds, defScope s_with_bounds⟩ (defBody s_with_bounds) = true := by decide +kernel
abbrev s_test_bounds : Stmt := topS 13
theorem sc_test_bounds : FnScope n_test_bounds ["test"] (defScope s_test_bounds) := ⟨rfl, rfl, rfl, by decide +kernel, rfl, by decide +kernel, by decide +kernel⟩
theorem ck_test_bounds : chkSs b_test_bounds ⟨n_test_bounds, defScope s_test_bounds, defScope s_test_bounds⟩ (defBody s_test_bounds) = true := by decide +kernel
abbrev s_tests_lot : Stmt := topS 14
theorem sc_tests_lot : FnScope n_tests_lot ["lot", "tests"] (defScope s_tests_lot) := ⟨rfl, rfl, rfl, by decide +kernel, rfl, by decide +kernel, by decide +kernel⟩
theorem ck_tests_lot : chkSs b_tests_lot ⟨n_tests_lot, defScope s_tests_lot, defScope s_tests_lot⟩ (defBody s_tests_lot) = true := by decide +kernel
abbrev s_opposite_tests : Stmt := topS 16
theorem sc_opposite_tests : FnScope n_opposite_tests ["test"] (defScope s_opposite_tests) := ⟨rfl, rfl, rfl, by decide +kernel, rfl, by decide +kernel, by decide +kernel⟩
theorem ck_opposite_tests : chkSs b_opposite_tests ⟨n_opposite_tests, defScope s_opposite_tests, defScope s_opposite_tests⟩ (defBody s_opposite_tests) = true := by decide +kernel
abbrev s_can_meet : Stmt := topS 19
theorem sc_can_meet : FnScope n_can_meet ["tests"] (defScope s_can_meet) := ⟨rfl, rfl, rfl, by decide +kernel, rfl, by decide +kernel, by decide +kernel⟩
theorem ck_can_meet : chkSs b_can_meet ⟨n_can_meet, defScope s_can_meet, defScope s_can_meet⟩ (defBody s_can_meet) = true := by decide +kernel
abbrev s_cell_pieces : Stmt := topS 20
theorem sc_cell_pieces : FnScope n_cell_pieces ["cell", "guard"] (defScope s_cell_pieces) := ⟨rfl, rfl, rfl, by decide +kernel, rfl, by decide +kernel, by decide +kernel⟩
theorem ck_cell_pieces : chkSs b_cell_pieces ⟨n_cell_pieces, defScope s_cell_pieces, defScope s_cell_pieces⟩ (defBody s_cell_pieces) = true := by decide +kernel
abbrev s_cells_outside : Stmt := topS 21
theorem sc_cells_outside : FnScope n_cells_outside ["guards"] (defScope s_cells_outside) := ⟨rfl, rfl, rfl, by decide +kernel, rfl, by decide +kernel, by decide +kernel⟩
theorem ck_cells_outside : chkSs b_cells_outside ⟨n_cells_outside, defScope s_cells_outside, defScope s_cells_outside⟩ (defBody s_cells_outside) = true := by decide +kernel
abbrev s__law_pool : Stmt := topS 23
theorem sc__law_pool : FnScope n__law_pool ["script"] (defScope s__law_pool) := ⟨rfl, rfl, rfl, by decide +kernel, rfl, by decide +kernel, by decide +kernel⟩
theorem ck__law_pool : chkSs b__law_pool ⟨n__law_pool, defScope s__law_pool, defScope s__law_pool⟩ (defBody s__law_pool) = true := by decide +kernel
abbrev s__law_mix : Stmt := topS 24
theorem sc__law_mix : FnScope n__law_mix ["pool"] (defScope s__law_mix) := ⟨rfl, rfl, rfl, by decide +kernel, rfl, by decide +kernel, by decide +kernel⟩
theorem ck__law_mix : chkSs b__law_mix ⟨n__law_mix, defScope s__law_mix, defScope s__law_mix⟩ (defBody s__law_mix) = true := by decide +kernel
abbrev s__law_draw : Stmt := topS 25
theorem sc__law_draw : FnScope n__law_draw ["pool", "many"] (defScope s__law_draw) := ⟨rfl, rfl, rfl, by decide +kernel, rfl, by decide +kernel, by decide +kernel⟩
theorem ck__law_draw : chkSs b__law_draw ⟨n__law_draw, defScope s__law_draw, defScope s__law_draw⟩ (defBody s__law_draw) = true := by decide +kernel
abbrev s__law_pick : Stmt := topS 26
theorem sc__law_pick : FnScope n__law_pick ["pool", "menu"] (defScope s__law_pick) := ⟨rfl, rfl, rfl, by decide +kernel, rfl, by decide +kernel, by decide +kernel⟩
theorem ck__law_pick : chkSs b__law_pick ⟨n__law_pick, defScope s__law_pick, defScope s__law_pick⟩ (defBody s__law_pick) = true := by decide +kernel
abbrev s__law_int : Stmt := topS 27
theorem sc__law_int : FnScope n__law_int ["value"] (defScope s__law_int) := ⟨rfl, rfl, rfl, by decide +kernel, rfl, by decide +kernel, by decide +kernel⟩
theorem ck__law_int : chkSs b__law_int ⟨n__law_int, defScope s__law_int, defScope s__law_int⟩ (defBody s__law_int) = true := by decide +kernel
abbrev s__law_plain : Stmt := topS 28
theorem sc__law_plain : FnScope n__law_plain ["value", "kinds"] (defScope s__law_plain) := ⟨rfl, rfl, rfl, by decide +kernel, rfl, by decide +kernel, by decide +kernel⟩
theorem ck__law_plain : chkSs b__law_plain ⟨n__law_plain, defScope s__law_plain, defScope s__law_plain⟩ (defBody s__law_plain) = true := by decide +kernel
abbrev s__law_same : Stmt := topS 29
theorem sc__law_same : FnScope n__law_same ["value", "due"] (defScope s__law_same) := ⟨rfl, rfl, rfl, by decide +kernel, rfl, by decide +kernel, by decide +kernel⟩
theorem ck__law_same : chkSs b__law_same ⟨n__law_same, defScope s__law_same, defScope s__law_same⟩ (defBody s__law_same) = true := by decide +kernel
abbrev s__law_gcd : Stmt := topS 30
theorem sc__law_gcd : FnScope n__law_gcd ["a", "b"] (defScope s__law_gcd) := ⟨rfl, rfl, rfl, by decide +kernel, rfl, by decide +kernel, by decide +kernel⟩
theorem ck__law_gcd : chkSs b__law_gcd ⟨n__law_gcd, defScope s__law_gcd, defScope s__law_gcd⟩ (defBody s__law_gcd) = true := by decide +kernel
abbrev s__law_ratio : Stmt := topS 31
theorem sc__law_ratio : FnScope n__law_ratio ["n", "d"] (defScope s__law_ratio) := ⟨rfl, rfl, rfl, by decide +kernel, rfl, by decide +kernel, by decide +kernel⟩
theorem ck__law_ratio : chkSs b__law_ratio ⟨n__law_ratio, defScope s__law_ratio, defScope s__law_ratio⟩ (defBody s__law_ratio) = true := by decide +kernel
abbrev s__law_compare : Stmt := topS 32
theorem sc__law_compare : FnScope n__law_compare ["value", "sign", "number"] (defScope s__law_compare) := ⟨rfl, rfl, rfl, by decide +kernel, rfl, by decide +kernel, by decide +kernel⟩
theorem ck__law_compare : chkSs b__law_compare ⟨n__law_compare, defScope s__law_compare, defScope s__law_compare⟩ (defBody s__law_compare) = true := by decide +kernel
abbrev s__law_meets : Stmt := topS 33
theorem sc__law_meets : FnScope n__law_meets ["tests", "values"] (defScope s__law_meets) := ⟨rfl, rfl, rfl, by decide +kernel, rfl, by decide +kernel, by decide +kernel⟩
theorem ck__law_meets : chkSs b__law_meets ⟨n__law_meets, defScope s__law_meets, defScope s__law_meets⟩ (defBody s__law_meets) = true := by decide +kernel
abbrev s__law_test : Stmt := topS 34
theorem sc__law_test : FnScope n__law_test ["pool", "clocks", "top", "signs"] (defScope s__law_test) := ⟨rfl, rfl, rfl, by decide +kernel, rfl, by decide +kernel, by decide +kernel⟩
theorem ck__law_test : chkSs b__law_test ⟨n__law_test, defScope s__law_test, defScope s__law_test⟩ (defBody s__law_test) = true := by decide +kernel
abbrev s__law_can_meet : Stmt := topS 35
theorem sc__law_can_meet : FnScope n__law_can_meet ["tests"] (defScope s__law_can_meet) := ⟨rfl, rfl, rfl, by decide +kernel, rfl, by decide +kernel, by decide +kernel⟩
theorem ck__law_can_meet : chkSs b__law_can_meet ⟨n__law_can_meet, defScope s__law_can_meet, defScope s__law_can_meet⟩ (defBody s__law_can_meet) = true := by decide +kernel
abbrev s__law_drawn_guard : Stmt := topS 36
theorem sc__law_drawn_guard : FnScope n__law_drawn_guard ["pool", "clocks"] (defScope s__law_drawn_guard) := ⟨rfl, rfl, rfl, by decide +kernel, rfl, by decide +kernel, by decide +kernel⟩
theorem ck__law_drawn_guard : chkSs b__law_drawn_guard ⟨n__law_drawn_guard, defScope s__law_drawn_guard, defScope s__law_drawn_guard⟩ (defBody s__law_drawn_guard) = true := by decide +kernel
abbrev s__law_points : Stmt := topS 37
theorem sc__law_points : FnScope n__law_points ["clocks"] (defScope s__law_points) := ⟨rfl, rfl, rfl, by decide +kernel, rfl, by decide +kernel, by decide +kernel⟩
theorem ck__law_points : chkSs b__law_points ⟨n__law_points, defScope s__law_points, defScope s__law_points⟩ (defBody s__law_points) = true := by decide +kernel
abbrev s__law_cells_right : Stmt := topS 38
theorem sc__law_cells_right : FnScope n__law_cells_right ["cells", "clocks"] (defScope s__law_cells_right) := ⟨rfl, rfl, rfl, by decide +kernel, rfl, by decide +kernel, by decide +kernel⟩
theorem ck__law_cells_right : chkSs b__law_cells_right ⟨n__law_cells_right, defScope s__law_cells_right, defScope s__law_cells_right⟩ (defBody s__law_cells_right) = true := by decide +kernel
abbrev s__law_outside : Stmt := topS 39
theorem sc__law_outside : FnScope n__law_outside ["guards", "point"] (defScope s__law_outside) := ⟨rfl, rfl, rfl, by decide +kernel, rfl, by decide +kernel, by decide +kernel⟩
theorem ck__law_outside : chkSs b__law_outside ⟨n__law_outside, defScope s__law_outside, defScope s__law_outside⟩ (defBody s__law_outside) = true := by decide +kernel
abbrev s__law_in_some : Stmt := topS 40
theorem sc__law_in_some : FnScope n__law_in_some ["cells", "point"] (defScope s__law_in_some) := ⟨rfl, rfl, rfl, by decide +kernel, rfl, by decide +kernel, by decide +kernel⟩
theorem ck__law_in_some : chkSs b__law_in_some ⟨n__law_in_some, defScope s__law_in_some, defScope s__law_in_some⟩ (defBody s__law_in_some) = true := by decide +kernel
abbrev s_law : Stmt := topS 41
theorem sc_law : FnScope n_law ["script"] (defScope s_law) := ⟨rfl, rfl, rfl, by decide +kernel, rfl, by decide +kernel, by decide +kernel⟩
theorem ck_law : chkSs b_law ⟨n_law, defScope s_law, defScope s_law⟩ (defBody s_law) = true := by decide +kernel
/-- a def behind the top -/
def Known (K : PySem.W.Frag) (mg : Str → Option Value) (x : Str) (st : Stmt) (ps : List Str) : Prop := ∃ f fd, L2.Fun K x x st f fd ∧ mg x = some (.ref f) ∧ Binds K fd ps []
structure Facts (K : PySem.W.Frag) (mg : Str → Option Value) : Prop where
  blt : ∀ x ∈ bltNames, mg x = none
  g_ALL_ZERO : ∃ t, mg "ALL_ZERO" = some (.int 1 t)
  g_MOST_CELLS : ∃ t, mg "MOST_CELLS" = some (.int 400 t)
  f_at_most : Known K mg "at_most" s_at_most ["n"]
  f_below : Known K mg "below" s_below ["n"]
  f_is_tight : Known K mg "is_tight" s_is_tight ["a", "b"]
  f_closed_grid : Known K mg "closed_grid" s_closed_grid ["grid"]
  f_whole_lot : Known K mg "whole_lot" s_whole_lot ["k"]
  f_with_bounds : Known K mg "with_bounds" s_with_bounds ["lot", "bounds"]
  f_test_bounds : Known K mg "test_bounds" s_test_bounds ["test"]
  f_tests_lot : Known K mg "tests_lot" s_tests_lot ["lot", "tests"]
  f_opposite_tests : Known K mg "opposite_tests" s_opposite_tests ["test"]
  f_can_meet : Known K mg "can_meet" s_can_meet ["tests"]
  f_cell_pieces : Known K mg "cell_pieces" s_cell_pieces ["cell", "guard"]
  f_cells_outside : Known K mg "cells_outside" s_cells_outside ["guards"]
  f__law_pool : Known K mg "_law_pool" s__law_pool ["script"]
  f__law_mix : Known K mg "_law_mix" s__law_mix ["pool"]
  f__law_draw : Known K mg "_law_draw" s__law_draw ["pool", "many"]
  f__law_pick : Known K mg "_law_pick" s__law_pick ["pool", "menu"]
  f__law_int : Known K mg "_law_int" s__law_int ["value"]
  f__law_plain : Known K mg "_law_plain" s__law_plain ["value", "kinds"]
  f__law_same : Known K mg "_law_same" s__law_same ["value", "due"]
  f__law_gcd : Known K mg "_law_gcd" s__law_gcd ["a", "b"]
  f__law_ratio : Known K mg "_law_ratio" s__law_ratio ["n", "d"]
  f__law_compare : Known K mg "_law_compare" s__law_compare ["value", "sign", "number"]
  f__law_meets : Known K mg "_law_meets" s__law_meets ["tests", "values"]
  f__law_test : Known K mg "_law_test" s__law_test ["pool", "clocks", "top", "signs"]
  f__law_can_meet : Known K mg "_law_can_meet" s__law_can_meet ["tests"]
  f__law_drawn_guard : Known K mg "_law_drawn_guard" s__law_drawn_guard ["pool", "clocks"]
  f__law_points : Known K mg "_law_points" s__law_points ["clocks"]
  f__law_cells_right : Known K mg "_law_cells_right" s__law_cells_right ["cells", "clocks"]
  f__law_outside : Known K mg "_law_outside" s__law_outside ["guards", "point"]
  f__law_in_some : Known K mg "_law_in_some" s__law_in_some ["cells", "point"]
section
variable {P : Program} {w : World} {K : PySem.W.Frag} {mg : Str → Option Value} {base : Heap}
theorem ok_at_most (L : Facts K mg) : HasFn (⟨P, w, K, mg, base⟩ : Wd) 1 "at_most" sp_at_most 1 := by
  obtain ⟨f, fd, F, hm, b⟩ := L.f_at_most
  exact hasFn_of (sp := sp_at_most) F hm b sc_at_most L.blt rfl ck_at_most (by simp only [b_at_most, needSs, needS, needE, needEs, needO, needT, needTs, needI, Es.len, Nat.zero_add, Nat.reduceAdd, and_true, true_and, and_self]) w_at_most
theorem ok_below (L : Facts K mg) : HasFn (⟨P, w, K, mg, base⟩ : Wd) 1 "below" sp_below 1 := by
  obtain ⟨f, fd, F, hm, b⟩ := L.f_below
  exact hasFn_of (sp := sp_below) F hm b sc_below L.blt rfl ck_below (by simp only [b_below, needSs, needS, needE, needEs, needO, needT, needTs, needI, Es.len, Nat.zero_add, Nat.reduceAdd, and_true, true_and, and_self]) w_below
theorem ok_is_tight (L : Facts K mg) : HasFn (⟨P, w, K, mg, base⟩ : Wd) 1 "is_tight" sp_is_tight 2 := by
  obtain ⟨f, fd, F, hm, b⟩ := L.f_is_tight
  exact hasFn_of (sp := sp_is_tight) F hm b sc_is_tight L.blt rfl ck_is_tight (by simp only [b_is_tight, needSs, needS, needE, needEs, needO, needT, needTs, needI, Es.len, Nat.zero_add, Nat.reduceAdd, and_true, true_and, and_self]) w_is_tight
theorem ok_closed_grid (L : Facts K mg) : HasFn (⟨P, w, K, mg, base⟩ : Wd) 1 "closed_grid" sp_closed_grid 1 := by
  obtain ⟨f, fd, F, hm, b⟩ := L.f_closed_grid
  have c_ALL_ZERO : HasGl (⟨P, w, K, mg, base⟩ : Wd) "ALL_ZERO" (.int 1) := let ⟨_, e⟩ := L.g_ALL_ZERO; .int e
  exact hasFn_of (sp := sp_closed_grid) F hm b sc_closed_grid L.blt rfl ck_closed_grid (by simp only [b_closed_grid, b_closed_grid_1, b_closed_grid_2, b_closed_grid_3, needSs, needS, needE, needEs, needO, needT, needTs, needI, Es.len, Nat.zero_add, Nat.reduceAdd, and_true, true_and, and_self, c_ALL_ZERO]) w_closed_grid
theorem ok_whole_lot (L : Facts K mg) : HasFn (⟨P, w, K, mg, base⟩ : Wd) 1 "whole_lot" sp_whole_lot 1 := by
  obtain ⟨f, fd, F, hm, b⟩ := L.f_whole_lot
  have c_ALL_ZERO : HasGl (⟨P, w, K, mg, base⟩ : Wd) "ALL_ZERO" (.int 1) := let ⟨_, e⟩ := L.g_ALL_ZERO; .int e
  exact hasFn_of (sp := sp_whole_lot) F hm b sc_whole_lot L.blt rfl ck_whole_lot (by simp only [b_whole_lot, b_whole_lot_1, needSs, needS, needE, needEs, needO, needT, needTs, needI, Es.len, Nat.zero_add, Nat.reduceAdd, and_true, true_and, and_self, c_ALL_ZERO]) w_whole_lot
theorem ok_opposite_tests (L : Facts K mg) : HasFn (⟨P, w, K, mg, base⟩ : Wd) 1 "opposite_tests" sp_opposite_tests 1 := by
  obtain ⟨f, fd, F, hm, b⟩ := L.f_opposite_tests
  exact hasFn_of (sp := sp_opposite_tests) F hm b sc_opposite_tests L.blt rfl ck_opposite_tests (by simp only [b_opposite_tests, needSs, needS, needE, needEs, needO, needT, needTs, needI, Es.len, Nat.zero_add, Nat.reduceAdd, and_true, true_and, and_self]) w_opposite_tests
theorem ok__law_pool (L : Facts K mg) : HasFn (⟨P, w, K, mg, base⟩ : Wd) 1 "_law_pool" sp__law_pool 1 := by
  obtain ⟨f, fd, F, hm, b⟩ := L.f__law_pool
  exact pool_view (hasFn_of (sp := sl__law_pool) F hm b sc__law_pool L.blt rfl ck__law_pool (by simp only [b__law_pool, needSs, needS, needE, needEs, needO, needT, needTs, needI, Es.len, Nat.zero_add, Nat.reduceAdd, and_true, true_and, and_self]) w__law_pool)
theorem ok__law_mix (L : Facts K mg) : HasFn (⟨P, w, K, mg, base⟩ : Wd) 1 "_law_mix" sp__law_mix 1 := by
  obtain ⟨f, fd, F, hm, b⟩ := L.f__law_mix
  exact hasFn_of (sp := sp__law_mix) F hm b sc__law_mix L.blt rfl ck__law_mix (by simp only [b__law_mix, needSs, needS, needE, needEs, needO, needT, needTs, needI, Es.len, Nat.zero_add, Nat.reduceAdd, and_true, true_and, and_self]) w__law_mix
theorem ok__law_int (L : Facts K mg) : HasFn (⟨P, w, K, mg, base⟩ : Wd) 1 "_law_int" sp__law_int 1 := by
  obtain ⟨f, fd, F, hm, b⟩ := L.f__law_int
  exact hasFn_of (sp := sp__law_int) F hm b sc__law_int L.blt rfl ck__law_int (by simp only [b__law_int, needSs, needS, needE, needEs, needO, needT, needTs, needI, Es.len, Nat.zero_add, Nat.reduceAdd, and_true, true_and, and_self]) w__law_int
theorem ok__law_plain (L : Facts K mg) : HasFn (⟨P, w, K, mg, base⟩ : Wd) 1 "_law_plain" sp__law_plain 2 := by
  obtain ⟨f, fd, F, hm, b⟩ := L.f__law_plain
  exact hasFn_of (sp := sp__law_plain) F hm b sc__law_plain L.blt rfl ck__law_plain (by simp only [b__law_plain, b__law_plain_1, needSs, needS, needE, needEs, needO, needT, needTs, needI, Es.len, Nat.zero_add, Nat.reduceAdd, and_true, true_and, and_self]) w__law_plain
theorem ok__law_same (L : Facts K mg) : HasFn (⟨P, w, K, mg, base⟩ : Wd) 1 "_law_same" sp__law_same 2 := by
  obtain ⟨f, fd, F, hm, b⟩ := L.f__law_same
  exact hasFn_of (sp := sp__law_same) F hm b sc__law_same L.blt rfl ck__law_same (by simp only [b__law_same, needSs, needS, needE, needEs, needO, needT, needTs, needI, Es.len, Nat.zero_add, Nat.reduceAdd, and_true, true_and, and_self]) w__law_same
theorem ok__law_gcd (L : Facts K mg) : HasFn (⟨P, w, K, mg, base⟩ : Wd) 1 "_law_gcd" sp__law_gcd 2 := by
  obtain ⟨f, fd, F, hm, b⟩ := L.f__law_gcd
  exact hasFn_of (sp := sp__law_gcd) F hm b sc__law_gcd L.blt rfl ck__law_gcd (by simp only [b__law_gcd, b__law_gcd_1, needSs, needS, needE, needEs, needO, needT, needTs, needI, Es.len, Nat.zero_add, Nat.reduceAdd, and_true, true_and, and_self]) w__law_gcd
theorem ok__law_compare (L : Facts K mg) : HasFn (⟨P, w, K, mg, base⟩ : Wd) 1 "_law_compare" sp__law_compare 3 := by
  obtain ⟨f, fd, F, hm, b⟩ := L.f__law_compare
  exact hasFn_of (sp := sp__law_compare) F hm b sc__law_compare L.blt rfl ck__law_compare (by simp only [b__law_compare, needSs, needS, needE, needEs, needO, needT, needTs, needI, Es.len, Nat.zero_add, Nat.reduceAdd, and_true, true_and, and_self]) w__law_compare
theorem ok__law_can_meet (L : Facts K mg) : HasFn (⟨P, w, K, mg, base⟩ : Wd) 1 "_law_can_meet" sp__law_can_meet 1 := by
  obtain ⟨f, fd, F, hm, b⟩ := L.f__law_can_meet
  exact hasFn_of (sp := sp__law_can_meet) F hm b sc__law_can_meet L.blt rfl ck__law_can_meet (by simp only [b__law_can_meet, b__law_can_meet_1, b__law_can_meet_2, needSs, needS, needE, needEs, needO, needT, needTs, needI, Es.len, Nat.zero_add, Nat.reduceAdd, and_true, true_and, and_self]) w__law_can_meet
theorem ok_with_bounds (L : Facts K mg) : HasFn (⟨P, w, K, mg, base⟩ : Wd) 2 "with_bounds" sp_with_bounds 2 := by
  obtain ⟨f, fd, F, hm, b⟩ := L.f_with_bounds
  have h_is_tight := (ok_is_tight (P := P) (w := w) (base := base) L).mono (show 1 ≤ 1 by decide)
  have h_closed_grid := (ok_closed_grid (P := P) (w := w) (base := base) L).mono (show 1 ≤ 1 by decide)
  exact hasFn_of (sp := sp_with_bounds) F hm b sc_with_bounds L.blt rfl ck_with_bounds (by simp only [b_with_bounds, b_with_bounds_1, needSs, needS, needE, needEs, needO, needT, needTs, needI, Es.len, Nat.zero_add, Nat.reduceAdd, and_true, true_and, and_self, h_is_tight, h_closed_grid]) w_with_bounds
theorem ok_test_bounds (L : Facts K mg) : HasFn (⟨P, w, K, mg, base⟩ : Wd) 2 "test_bounds" sp_test_bounds 1 := by
  obtain ⟨f, fd, F, hm, b⟩ := L.f_test_bounds
  have h_below := (ok_below (P := P) (w := w) (base := base) L).mono (show 1 ≤ 1 by decide)
  have h_at_most := (ok_at_most (P := P) (w := w) (base := base) L).mono (show 1 ≤ 1 by decide)
  exact hasFn_of (sp := sp_test_bounds) F hm b sc_test_bounds L.blt rfl ck_test_bounds (by simp only [b_test_bounds, needSs, needS, needE, needEs, needO, needT, needTs, needI, Es.len, Nat.zero_add, Nat.reduceAdd, and_true, true_and, and_self, h_below, h_at_most]) w_test_bounds
theorem ok__law_draw (L : Facts K mg) : HasFn (⟨P, w, K, mg, base⟩ : Wd) 2 "_law_draw" sp__law_draw 2 := by
  obtain ⟨f, fd, F, hm, b⟩ := L.f__law_draw
  have h__law_mix := (ok__law_mix (P := P) (w := w) (base := base) L).mono (show 1 ≤ 1 by decide)
  exact draw_view (hasFn_of (sp := sl__law_draw) F hm b sc__law_draw L.blt rfl ck__law_draw (by simp only [b__law_draw, needSs, needS, needE, needEs, needO, needT, needTs, needI, Es.len, Nat.zero_add, Nat.reduceAdd, and_true, true_and, and_self, h__law_mix]) w__law_draw)
theorem ok__law_ratio (L : Facts K mg) : HasFn (⟨P, w, K, mg, base⟩ : Wd) 2 "_law_ratio" sp__law_ratio 2 := by
  obtain ⟨f, fd, F, hm, b⟩ := L.f__law_ratio
  have h__law_gcd := (ok__law_gcd (P := P) (w := w) (base := base) L).mono (show 1 ≤ 1 by decide)
  exact hasFn_of (sp := sp__law_ratio) F hm b sc__law_ratio L.blt rfl ck__law_ratio (by simp only [b__law_ratio, needSs, needS, needE, needEs, needO, needT, needTs, needI, Es.len, Nat.zero_add, Nat.reduceAdd, and_true, true_and, and_self, h__law_gcd]) w__law_ratio
theorem ok__law_meets (L : Facts K mg) : HasFn (⟨P, w, K, mg, base⟩ : Wd) 2 "_law_meets" sp__law_meets 2 := by
  obtain ⟨f, fd, F, hm, b⟩ := L.f__law_meets
  have h__law_compare := (ok__law_compare (P := P) (w := w) (base := base) L).mono (show 1 ≤ 1 by decide)
  exact hasFn_of (sp := sp__law_meets) F hm b sc__law_meets L.blt rfl ck__law_meets (by simp only [b__law_meets, b__law_meets_1, needSs, needS, needE, needEs, needO, needT, needTs, needI, Es.len, Nat.zero_add, Nat.reduceAdd, and_true, true_and, and_self, h__law_compare]) w__law_meets
theorem ok__law_cells_right (L : Facts K mg) : HasFn (⟨P, w, K, mg, base⟩ : Wd) 2 "_law_cells_right" sp__law_cells_right 2 := by
  obtain ⟨f, fd, F, hm, b⟩ := L.f__law_cells_right
  have h__law_plain := (ok__law_plain (P := P) (w := w) (base := base) L).mono (show 1 ≤ 1 by decide)
  have h__law_int := (ok__law_int (P := P) (w := w) (base := base) L).mono (show 1 ≤ 1 by decide)
  have h__law_can_meet := (ok__law_can_meet (P := P) (w := w) (base := base) L).mono (show 1 ≤ 1 by decide)
  exact hasFn_of (sp := sp__law_cells_right) F hm b sc__law_cells_right L.blt rfl ck__law_cells_right (by simp only [b__law_cells_right, b__law_cells_right_1, b__law_cells_right_2, needSs, needS, needE, needEs, needO, needT, needTs, needI, Es.len, Nat.zero_add, Nat.reduceAdd, and_true, true_and, and_self, h__law_plain, h__law_int, h__law_can_meet]) w__law_cells_right
theorem ok_tests_lot (L : Facts K mg) : HasFn (⟨P, w, K, mg, base⟩ : Wd) 3 "tests_lot" sp_tests_lot 2 := by
  obtain ⟨f, fd, F, hm, b⟩ := L.f_tests_lot
  have h_test_bounds := (ok_test_bounds (P := P) (w := w) (base := base) L).mono (show 2 ≤ 2 by decide)
  have h_with_bounds := (ok_with_bounds (P := P) (w := w) (base := base) L).mono (show 2 ≤ 2 by decide)
  exact hasFn_of (sp := sp_tests_lot) F hm b sc_tests_lot L.blt rfl ck_tests_lot (by simp only [b_tests_lot, b_tests_lot_1, needSs, needS, needE, needEs, needO, needT, needTs, needI, Es.len, Nat.zero_add, Nat.reduceAdd, and_true, true_and, and_self, h_test_bounds, h_with_bounds]) w_tests_lot
theorem ok__law_pick (L : Facts K mg) : HasFn (⟨P, w, K, mg, base⟩ : Wd) 3 "_law_pick" sp__law_pick 2 := by
  obtain ⟨f, fd, F, hm, b⟩ := L.f__law_pick
  have h__law_draw := (ok__law_draw (P := P) (w := w) (base := base) L).mono (show 2 ≤ 2 by decide)
  exact hasFn_of (sp := sp__law_pick) F hm b sc__law_pick L.blt rfl ck__law_pick (by simp only [b__law_pick, needSs, needS, needE, needEs, needO, needT, needTs, needI, Es.len, Nat.zero_add, Nat.reduceAdd, and_true, true_and, and_self, h__law_draw]) w__law_pick
theorem ok__law_points (L : Facts K mg) : HasFn (⟨P, w, K, mg, base⟩ : Wd) 3 "_law_points" sp__law_points 1 := by
  obtain ⟨f, fd, F, hm, b⟩ := L.f__law_points
  have h__law_ratio := (ok__law_ratio (P := P) (w := w) (base := base) L).mono (show 2 ≤ 2 by decide)
  exact hasFn_of (sp := sp__law_points) F hm b sc__law_points L.blt rfl ck__law_points (by simp only [b__law_points, b__law_points_1, b__law_points_2, b__law_points_3, needSs, needS, needE, needEs, needO, needT, needTs, needI, Es.len, Nat.zero_add, Nat.reduceAdd, and_true, true_and, and_self, h__law_ratio]) w__law_points
theorem ok__law_outside (L : Facts K mg) : HasFn (⟨P, w, K, mg, base⟩ : Wd) 3 "_law_outside" sp__law_outside 2 := by
  obtain ⟨f, fd, F, hm, b⟩ := L.f__law_outside
  have h__law_meets := (ok__law_meets (P := P) (w := w) (base := base) L).mono (show 2 ≤ 2 by decide)
  exact hasFn_of (sp := sp__law_outside) F hm b sc__law_outside L.blt rfl ck__law_outside (by simp only [b__law_outside, b__law_outside_1, needSs, needS, needE, needEs, needO, needT, needTs, needI, Es.len, Nat.zero_add, Nat.reduceAdd, and_true, true_and, and_self, h__law_meets]) w__law_outside
theorem ok__law_in_some (L : Facts K mg) : HasFn (⟨P, w, K, mg, base⟩ : Wd) 3 "_law_in_some" sp__law_in_some 2 := by
  obtain ⟨f, fd, F, hm, b⟩ := L.f__law_in_some
  have h__law_meets := (ok__law_meets (P := P) (w := w) (base := base) L).mono (show 2 ≤ 2 by decide)
  exact hasFn_of (sp := sp__law_in_some) F hm b sc__law_in_some L.blt rfl ck__law_in_some (by simp only [b__law_in_some, b__law_in_some_1, needSs, needS, needE, needEs, needO, needT, needTs, needI, Es.len, Nat.zero_add, Nat.reduceAdd, and_true, true_and, and_self, h__law_meets]) w__law_in_some
theorem ok_can_meet (L : Facts K mg) : HasFn (⟨P, w, K, mg, base⟩ : Wd) 4 "can_meet" sp_can_meet 1 := by
  obtain ⟨f, fd, F, hm, b⟩ := L.f_can_meet
  have h_tests_lot := (ok_tests_lot (P := P) (w := w) (base := base) L).mono (show 3 ≤ 3 by decide)
  have h_whole_lot := (ok_whole_lot (P := P) (w := w) (base := base) L).mono (show 1 ≤ 3 by decide)
  exact hasFn_of (sp := sp_can_meet) F hm b sc_can_meet L.blt rfl ck_can_meet (by simp only [b_can_meet, needSs, needS, needE, needEs, needO, needT, needTs, needI, Es.len, Nat.zero_add, Nat.reduceAdd, and_true, true_and, and_self, h_tests_lot, h_whole_lot]) w_can_meet
theorem ok__law_test (L : Facts K mg) : HasFn (⟨P, w, K, mg, base⟩ : Wd) 4 "_law_test" sp__law_test 4 := by
  obtain ⟨f, fd, F, hm, b⟩ := L.f__law_test
  have h__law_pick := (ok__law_pick (P := P) (w := w) (base := base) L).mono (show 3 ≤ 3 by decide)
  have h__law_draw := (ok__law_draw (P := P) (w := w) (base := base) L).mono (show 2 ≤ 3 by decide)
  exact hasFn_of (sp := sp__law_test) F hm b sc__law_test L.blt rfl ck__law_test (by simp only [b__law_test, needSs, needS, needE, needEs, needO, needT, needTs, needI, Es.len, Nat.zero_add, Nat.reduceAdd, and_true, true_and, and_self, h__law_pick, h__law_draw]) w__law_test
theorem ok_cell_pieces (L : Facts K mg) : HasFn (⟨P, w, K, mg, base⟩ : Wd) 5 "cell_pieces" sp_cell_pieces 2 := by
  obtain ⟨f, fd, F, hm, b⟩ := L.f_cell_pieces
  have h_opposite_tests := (ok_opposite_tests (P := P) (w := w) (base := base) L).mono (show 1 ≤ 4 by decide)
  have h_can_meet := (ok_can_meet (P := P) (w := w) (base := base) L).mono (show 4 ≤ 4 by decide)
  exact hasFn_of (sp := sp_cell_pieces) F hm b sc_cell_pieces L.blt rfl ck_cell_pieces (by simp only [b_cell_pieces, b_cell_pieces_1, b_cell_pieces_2, needSs, needS, needE, needEs, needO, needT, needTs, needI, Es.len, Nat.zero_add, Nat.reduceAdd, and_true, true_and, and_self, h_opposite_tests, h_can_meet]) w_cell_pieces
theorem ok__law_drawn_guard (L : Facts K mg) : HasFn (⟨P, w, K, mg, base⟩ : Wd) 5 "_law_drawn_guard" sp__law_drawn_guard 2 := by
  obtain ⟨f, fd, F, hm, b⟩ := L.f__law_drawn_guard
  have h__law_draw := (ok__law_draw (P := P) (w := w) (base := base) L).mono (show 2 ≤ 4 by decide)
  have h__law_test := (ok__law_test (P := P) (w := w) (base := base) L).mono (show 4 ≤ 4 by decide)
  exact hasFn_of (sp := sp__law_drawn_guard) F hm b sc__law_drawn_guard L.blt rfl ck__law_drawn_guard (by simp only [b__law_drawn_guard, needSs, needS, needE, needEs, needO, needT, needTs, needI, Es.len, Nat.zero_add, Nat.reduceAdd, and_true, true_and, and_self, h__law_draw, h__law_test]) w__law_drawn_guard
theorem ok_cells_outside (L : Facts K mg) : HasFn (⟨P, w, K, mg, base⟩ : Wd) 6 "cells_outside" sp_cells_outside 1 := by
  obtain ⟨f, fd, F, hm, b⟩ := L.f_cells_outside
  have h_cell_pieces := (ok_cell_pieces (P := P) (w := w) (base := base) L).mono (show 5 ≤ 5 by decide)
  have c_MOST_CELLS : HasGl (⟨P, w, K, mg, base⟩ : Wd) "MOST_CELLS" (.int 400) := let ⟨_, e⟩ := L.g_MOST_CELLS; .int e
  exact hasFn_of (sp := sp_cells_outside) F hm b sc_cells_outside L.blt rfl ck_cells_outside (by simp only [b_cells_outside, b_cells_outside_1, b_cells_outside_2, needSs, needS, needE, needEs, needO, needT, needTs, needI, Es.len, Nat.zero_add, Nat.reduceAdd, and_true, true_and, and_self, h_cell_pieces, c_MOST_CELLS]) w_cells_outside
theorem ok_law (L : Facts K mg) {f : Addr} {fd : FuncData} (F : L2.Fun K "law" "law" s_law f fd) : FnG P w K mg base 7 f fd ["script"] (liftSp K mg 1 lawSp) := by
  have h__law_pool := (ok__law_pool (P := P) (w := w) (base := base) L).mono (show 1 ≤ 6 by decide)
  have h__law_draw := (ok__law_draw (P := P) (w := w) (base := base) L).mono (show 2 ≤ 6 by decide)
  have h__law_drawn_guard := (ok__law_drawn_guard (P := P) (w := w) (base := base) L).mono (show 5 ≤ 6 by decide)
  have h_cells_outside := (ok_cells_outside (P := P) (w := w) (base := base) L).mono (show 6 ≤ 6 by decide)
  have h__law_cells_right := (ok__law_cells_right (P := P) (w := w) (base := base) L).mono (show 2 ≤ 6 by decide)
  have h__law_points := (ok__law_points (P := P) (w := w) (base := base) L).mono (show 3 ≤ 6 by decide)
  have h__law_outside := (ok__law_outside (P := P) (w := w) (base := base) L).mono (show 3 ≤ 6 by decide)
  have h__law_in_some := (ok__law_in_some (P := P) (w := w) (base := base) L).mono (show 3 ≤ 6 by decide)
  have h__law_same := (ok__law_same (P := P) (w := w) (base := base) L).mono (show 1 ≤ 6 by decide)
  exact fnG_of F sc_law L.blt rfl ck_law (by simp only [b_law, b_law_1, needSs, needS, needE, needEs, needO, needT, needTs, needI, Es.len, Nat.zero_add, Nat.reduceAdd, and_true, true_and, and_self, h__law_pool, h__law_draw, h__law_drawn_guard, h_cells_outside, h__law_cells_right, h__law_points, h__law_outside, h__law_in_some, h__law_same]) w_law
end
theorem all_mk {l : PySem.W.OpenLaw} {w : World} {K : PySem.W.Frag} {h : Heap} {mg : Str → Option Value} {fa : Addr} (X : K.In h) (G : h.Ns mainGlobals mg) (hfa : mg "law" = some (.ref fa))
    {f0 : Addr} {od0 an0 : Option Addr} {sl0 : Array (Option Value)} {oc0 kV0 dc0 pm0 cd0 ct0 : Value}
    {f1 : Addr} {od1 an1 : Option Addr} {sl1 : Array (Option Value)} {oc1 kV1 dc1 pm1 cd1 ct1 : Value}
    {f2 : Addr} {od2 an2 : Option Addr} {sl2 : Array (Option Value)} {oc2 kV2 dc2 pm2 cd2 ct2 : Value}
    {f3 : Addr} {od3 an3 : Option Addr} {sl3 : Array (Option Value)} {oc3 kV3 dc3 pm3 cd3 ct3 : Value}
    {f4 : Addr} {od4 an4 : Option Addr} {sl4 : Array (Option Value)} {oc4 kV4 dc4 pm4 cd4 ct4 : Value}
    {f5 : Addr} {od5 an5 : Option Addr} {sl5 : Array (Option Value)} {oc5 kV5 dc5 pm5 cd5 ct5 : Value}
    {f6 : Addr} {od6 an6 : Option Addr} {sl6 : Array (Option Value)} {oc6 kV6 dc6 pm6 cd6 ct6 : Value}
    {f7 : Addr} {od7 an7 : Option Addr} {sl7 : Array (Option Value)} {oc7 kV7 dc7 pm7 cd7 ct7 : Value}
    {f8 : Addr} {od8 an8 : Option Addr} {sl8 : Array (Option Value)} {oc8 kV8 dc8 pm8 cd8 ct8 : Value}
    {f9 : Addr} {od9 an9 : Option Addr} {sl9 : Array (Option Value)} {oc9 kV9 dc9 pm9 cd9 ct9 : Value}
    {f10 : Addr} {od10 an10 : Option Addr} {sl10 : Array (Option Value)} {oc10 kV10 dc10 pm10 cd10 ct10 : Value}
    {f11 : Addr} {od11 an11 : Option Addr} {sl11 : Array (Option Value)} {oc11 kV11 dc11 pm11 cd11 ct11 : Value}
    {f12 : Addr} {od12 an12 : Option Addr} {sl12 : Array (Option Value)} {oc12 kV12 dc12 pm12 cd12 ct12 : Value}
    {f13 : Addr} {od13 an13 : Option Addr} {sl13 : Array (Option Value)} {oc13 kV13 dc13 pm13 cd13 ct13 : Value}
    {f14 : Addr} {od14 an14 : Option Addr} {sl14 : Array (Option Value)} {oc14 kV14 dc14 pm14 cd14 ct14 : Value}
    {f15 : Addr} {od15 an15 : Option Addr} {sl15 : Array (Option Value)} {oc15 kV15 dc15 pm15 cd15 ct15 : Value}
    {f16 : Addr} {od16 an16 : Option Addr} {sl16 : Array (Option Value)} {oc16 kV16 dc16 pm16 cd16 ct16 : Value}
    {f17 : Addr} {od17 an17 : Option Addr} {sl17 : Array (Option Value)} {oc17 kV17 dc17 pm17 cd17 ct17 : Value}
    {f18 : Addr} {od18 an18 : Option Addr} {sl18 : Array (Option Value)} {oc18 kV18 dc18 pm18 cd18 ct18 : Value}
    {f19 : Addr} {od19 an19 : Option Addr} {sl19 : Array (Option Value)} {oc19 kV19 dc19 pm19 cd19 ct19 : Value}
    {f20 : Addr} {od20 an20 : Option Addr} {sl20 : Array (Option Value)} {oc20 kV20 dc20 pm20 cd20 ct20 : Value}
    {f21 : Addr} {od21 an21 : Option Addr} {sl21 : Array (Option Value)} {oc21 kV21 dc21 pm21 cd21 ct21 : Value}
    {f22 : Addr} {od22 an22 : Option Addr} {sl22 : Array (Option Value)} {oc22 kV22 dc22 pm22 cd22 ct22 : Value}
    {f23 : Addr} {od23 an23 : Option Addr} {sl23 : Array (Option Value)} {oc23 kV23 dc23 pm23 cd23 ct23 : Value}
    {f24 : Addr} {od24 an24 : Option Addr} {sl24 : Array (Option Value)} {oc24 kV24 dc24 pm24 cd24 ct24 : Value}
    {f25 : Addr} {od25 an25 : Option Addr} {sl25 : Array (Option Value)} {oc25 kV25 dc25 pm25 cd25 ct25 : Value}
    {f26 : Addr} {od26 an26 : Option Addr} {sl26 : Array (Option Value)} {oc26 kV26 dc26 pm26 cd26 ct26 : Value}
    {f27 : Addr} {od27 an27 : Option Addr} {sl27 : Array (Option Value)} {oc27 kV27 dc27 pm27 cd27 ct27 : Value}
    {f28 : Addr} {od28 an28 : Option Addr} {sl28 : Array (Option Value)} {oc28 kV28 dc28 pm28 cd28 ct28 : Value}
    {f29 : Addr} {od29 an29 : Option Addr} {sl29 : Array (Option Value)} {oc29 kV29 dc29 pm29 cd29 ct29 : Value}
    {f30 : Addr} {od30 an30 : Option Addr} {sl30 : Array (Option Value)} {oc30 kV30 dc30 pm30 cd30 ct30 : Value}
    {t0 : Tok}
    {t1 : Tok}
    (a0 : PySem.W.nsIn K mainGlobals "at_most" = some (some (.ref f0)))
    (l0 : K.lookup f0 = some ⟨oc0, od0, .func (PySem.W.fnOf "at_most" "at_most" (defArgs s_at_most) (defBody s_at_most) (defScope s_at_most) .none kV0 dc0 pm0 an0 cd0 ct0), sl0⟩)
    (c0 : PySem.W.codeIn K cd0 "at_most" = true)
    (k0 : PySem.W.keepIn K (.ref f0) = true)
    (a1 : PySem.W.nsIn K mainGlobals "below" = some (some (.ref f1)))
    (l1 : K.lookup f1 = some ⟨oc1, od1, .func (PySem.W.fnOf "below" "below" (defArgs s_below) (defBody s_below) (defScope s_below) .none kV1 dc1 pm1 an1 cd1 ct1), sl1⟩)
    (c1 : PySem.W.codeIn K cd1 "below" = true)
    (k1 : PySem.W.keepIn K (.ref f1) = true)
    (a2 : PySem.W.nsIn K mainGlobals "is_tight" = some (some (.ref f2)))
    (l2 : K.lookup f2 = some ⟨oc2, od2, .func (PySem.W.fnOf "is_tight" "is_tight" (defArgs s_is_tight) (defBody s_is_tight) (defScope s_is_tight) .none kV2 dc2 pm2 an2 cd2 ct2), sl2⟩)
    (c2 : PySem.W.codeIn K cd2 "is_tight" = true)
    (k2 : PySem.W.keepIn K (.ref f2) = true)
    (a3 : PySem.W.nsIn K mainGlobals "closed_grid" = some (some (.ref f3)))
    (l3 : K.lookup f3 = some ⟨oc3, od3, .func (PySem.W.fnOf "closed_grid" "closed_grid" (defArgs s_closed_grid) (defBody s_closed_grid) (defScope s_closed_grid) .none kV3 dc3 pm3 an3 cd3 ct3), sl3⟩)
    (c3 : PySem.W.codeIn K cd3 "closed_grid" = true)
    (k3 : PySem.W.keepIn K (.ref f3) = true)
    (a4 : PySem.W.nsIn K mainGlobals "whole_lot" = some (some (.ref f4)))
    (l4 : K.lookup f4 = some ⟨oc4, od4, .func (PySem.W.fnOf "whole_lot" "whole_lot" (defArgs s_whole_lot) (defBody s_whole_lot) (defScope s_whole_lot) .none kV4 dc4 pm4 an4 cd4 ct4), sl4⟩)
    (c4 : PySem.W.codeIn K cd4 "whole_lot" = true)
    (k4 : PySem.W.keepIn K (.ref f4) = true)
    (a5 : PySem.W.nsIn K mainGlobals "with_bounds" = some (some (.ref f5)))
    (l5 : K.lookup f5 = some ⟨oc5, od5, .func (PySem.W.fnOf "with_bounds" "with_bounds" (defArgs s_with_bounds) (defBody s_with_bounds) (defScope s_with_bounds) .none kV5 dc5 pm5 an5 cd5 ct5), sl5⟩)
    (c5 : PySem.W.codeIn K cd5 "with_bounds" = true)
    (k5 : PySem.W.keepIn K (.ref f5) = true)
    (a6 : PySem.W.nsIn K mainGlobals "test_bounds" = some (some (.ref f6)))
    (l6 : K.lookup f6 = some ⟨oc6, od6, .func (PySem.W.fnOf "test_bounds" "test_bounds" (defArgs s_test_bounds) (defBody s_test_bounds) (defScope s_test_bounds) .none kV6 dc6 pm6 an6 cd6 ct6), sl6⟩)
    (c6 : PySem.W.codeIn K cd6 "test_bounds" = true)
    (k6 : PySem.W.keepIn K (.ref f6) = true)
    (a7 : PySem.W.nsIn K mainGlobals "tests_lot" = some (some (.ref f7)))
    (l7 : K.lookup f7 = some ⟨oc7, od7, .func (PySem.W.fnOf "tests_lot" "tests_lot" (defArgs s_tests_lot) (defBody s_tests_lot) (defScope s_tests_lot) .none kV7 dc7 pm7 an7 cd7 ct7), sl7⟩)
    (c7 : PySem.W.codeIn K cd7 "tests_lot" = true)
    (k7 : PySem.W.keepIn K (.ref f7) = true)
    (a8 : PySem.W.nsIn K mainGlobals "opposite_tests" = some (some (.ref f8)))
    (l8 : K.lookup f8 = some ⟨oc8, od8, .func (PySem.W.fnOf "opposite_tests" "opposite_tests" (defArgs s_opposite_tests) (defBody s_opposite_tests) (defScope s_opposite_tests) .none kV8 dc8 pm8 an8 cd8 ct8), sl8⟩)
    (c8 : PySem.W.codeIn K cd8 "opposite_tests" = true)
    (k8 : PySem.W.keepIn K (.ref f8) = true)
    (a9 : PySem.W.nsIn K mainGlobals "can_meet" = some (some (.ref f9)))
    (l9 : K.lookup f9 = some ⟨oc9, od9, .func (PySem.W.fnOf "can_meet" "can_meet" (defArgs s_can_meet) (defBody s_can_meet) (defScope s_can_meet) .none kV9 dc9 pm9 an9 cd9 ct9), sl9⟩)
    (c9 : PySem.W.codeIn K cd9 "can_meet" = true)
    (k9 : PySem.W.keepIn K (.ref f9) = true)
    (a10 : PySem.W.nsIn K mainGlobals "cell_pieces" = some (some (.ref f10)))
    (l10 : K.lookup f10 = some ⟨oc10, od10, .func (PySem.W.fnOf "cell_pieces" "cell_pieces" (defArgs s_cell_pieces) (defBody s_cell_pieces) (defScope s_cell_pieces) .none kV10 dc10 pm10 an10 cd10 ct10), sl10⟩)
    (c10 : PySem.W.codeIn K cd10 "cell_pieces" = true)
    (k10 : PySem.W.keepIn K (.ref f10) = true)
    (a11 : PySem.W.nsIn K mainGlobals "cells_outside" = some (some (.ref f11)))
    (l11 : K.lookup f11 = some ⟨oc11, od11, .func (PySem.W.fnOf "cells_outside" "cells_outside" (defArgs s_cells_outside) (defBody s_cells_outside) (defScope s_cells_outside) .none kV11 dc11 pm11 an11 cd11 ct11), sl11⟩)
    (c11 : PySem.W.codeIn K cd11 "cells_outside" = true)
    (k11 : PySem.W.keepIn K (.ref f11) = true)
    (a12 : PySem.W.nsIn K mainGlobals "_law_pool" = some (some (.ref f12)))
    (l12 : K.lookup f12 = some ⟨oc12, od12, .func (PySem.W.fnOf "_law_pool" "_law_pool" (defArgs s__law_pool) (defBody s__law_pool) (defScope s__law_pool) .none kV12 dc12 pm12 an12 cd12 ct12), sl12⟩)
    (c12 : PySem.W.codeIn K cd12 "_law_pool" = true)
    (k12 : PySem.W.keepIn K (.ref f12) = true)
    (a13 : PySem.W.nsIn K mainGlobals "_law_mix" = some (some (.ref f13)))
    (l13 : K.lookup f13 = some ⟨oc13, od13, .func (PySem.W.fnOf "_law_mix" "_law_mix" (defArgs s__law_mix) (defBody s__law_mix) (defScope s__law_mix) .none kV13 dc13 pm13 an13 cd13 ct13), sl13⟩)
    (c13 : PySem.W.codeIn K cd13 "_law_mix" = true)
    (k13 : PySem.W.keepIn K (.ref f13) = true)
    (a14 : PySem.W.nsIn K mainGlobals "_law_draw" = some (some (.ref f14)))
    (l14 : K.lookup f14 = some ⟨oc14, od14, .func (PySem.W.fnOf "_law_draw" "_law_draw" (defArgs s__law_draw) (defBody s__law_draw) (defScope s__law_draw) .none kV14 dc14 pm14 an14 cd14 ct14), sl14⟩)
    (c14 : PySem.W.codeIn K cd14 "_law_draw" = true)
    (k14 : PySem.W.keepIn K (.ref f14) = true)
    (a15 : PySem.W.nsIn K mainGlobals "_law_pick" = some (some (.ref f15)))
    (l15 : K.lookup f15 = some ⟨oc15, od15, .func (PySem.W.fnOf "_law_pick" "_law_pick" (defArgs s__law_pick) (defBody s__law_pick) (defScope s__law_pick) .none kV15 dc15 pm15 an15 cd15 ct15), sl15⟩)
    (c15 : PySem.W.codeIn K cd15 "_law_pick" = true)
    (k15 : PySem.W.keepIn K (.ref f15) = true)
    (a16 : PySem.W.nsIn K mainGlobals "_law_int" = some (some (.ref f16)))
    (l16 : K.lookup f16 = some ⟨oc16, od16, .func (PySem.W.fnOf "_law_int" "_law_int" (defArgs s__law_int) (defBody s__law_int) (defScope s__law_int) .none kV16 dc16 pm16 an16 cd16 ct16), sl16⟩)
    (c16 : PySem.W.codeIn K cd16 "_law_int" = true)
    (k16 : PySem.W.keepIn K (.ref f16) = true)
    (a17 : PySem.W.nsIn K mainGlobals "_law_plain" = some (some (.ref f17)))
    (l17 : K.lookup f17 = some ⟨oc17, od17, .func (PySem.W.fnOf "_law_plain" "_law_plain" (defArgs s__law_plain) (defBody s__law_plain) (defScope s__law_plain) .none kV17 dc17 pm17 an17 cd17 ct17), sl17⟩)
    (c17 : PySem.W.codeIn K cd17 "_law_plain" = true)
    (k17 : PySem.W.keepIn K (.ref f17) = true)
    (a18 : PySem.W.nsIn K mainGlobals "_law_same" = some (some (.ref f18)))
    (l18 : K.lookup f18 = some ⟨oc18, od18, .func (PySem.W.fnOf "_law_same" "_law_same" (defArgs s__law_same) (defBody s__law_same) (defScope s__law_same) .none kV18 dc18 pm18 an18 cd18 ct18), sl18⟩)
    (c18 : PySem.W.codeIn K cd18 "_law_same" = true)
    (k18 : PySem.W.keepIn K (.ref f18) = true)
    (a19 : PySem.W.nsIn K mainGlobals "_law_gcd" = some (some (.ref f19)))
    (l19 : K.lookup f19 = some ⟨oc19, od19, .func (PySem.W.fnOf "_law_gcd" "_law_gcd" (defArgs s__law_gcd) (defBody s__law_gcd) (defScope s__law_gcd) .none kV19 dc19 pm19 an19 cd19 ct19), sl19⟩)
    (c19 : PySem.W.codeIn K cd19 "_law_gcd" = true)
    (k19 : PySem.W.keepIn K (.ref f19) = true)
    (a20 : PySem.W.nsIn K mainGlobals "_law_ratio" = some (some (.ref f20)))
    (l20 : K.lookup f20 = some ⟨oc20, od20, .func (PySem.W.fnOf "_law_ratio" "_law_ratio" (defArgs s__law_ratio) (defBody s__law_ratio) (defScope s__law_ratio) .none kV20 dc20 pm20 an20 cd20 ct20), sl20⟩)
    (c20 : PySem.W.codeIn K cd20 "_law_ratio" = true)
    (k20 : PySem.W.keepIn K (.ref f20) = true)
    (a21 : PySem.W.nsIn K mainGlobals "_law_compare" = some (some (.ref f21)))
    (l21 : K.lookup f21 = some ⟨oc21, od21, .func (PySem.W.fnOf "_law_compare" "_law_compare" (defArgs s__law_compare) (defBody s__law_compare) (defScope s__law_compare) .none kV21 dc21 pm21 an21 cd21 ct21), sl21⟩)
    (c21 : PySem.W.codeIn K cd21 "_law_compare" = true)
    (k21 : PySem.W.keepIn K (.ref f21) = true)
    (a22 : PySem.W.nsIn K mainGlobals "_law_meets" = some (some (.ref f22)))
    (l22 : K.lookup f22 = some ⟨oc22, od22, .func (PySem.W.fnOf "_law_meets" "_law_meets" (defArgs s__law_meets) (defBody s__law_meets) (defScope s__law_meets) .none kV22 dc22 pm22 an22 cd22 ct22), sl22⟩)
    (c22 : PySem.W.codeIn K cd22 "_law_meets" = true)
    (k22 : PySem.W.keepIn K (.ref f22) = true)
    (a23 : PySem.W.nsIn K mainGlobals "_law_test" = some (some (.ref f23)))
    (l23 : K.lookup f23 = some ⟨oc23, od23, .func (PySem.W.fnOf "_law_test" "_law_test" (defArgs s__law_test) (defBody s__law_test) (defScope s__law_test) .none kV23 dc23 pm23 an23 cd23 ct23), sl23⟩)
    (c23 : PySem.W.codeIn K cd23 "_law_test" = true)
    (k23 : PySem.W.keepIn K (.ref f23) = true)
    (a24 : PySem.W.nsIn K mainGlobals "_law_can_meet" = some (some (.ref f24)))
    (l24 : K.lookup f24 = some ⟨oc24, od24, .func (PySem.W.fnOf "_law_can_meet" "_law_can_meet" (defArgs s__law_can_meet) (defBody s__law_can_meet) (defScope s__law_can_meet) .none kV24 dc24 pm24 an24 cd24 ct24), sl24⟩)
    (c24 : PySem.W.codeIn K cd24 "_law_can_meet" = true)
    (k24 : PySem.W.keepIn K (.ref f24) = true)
    (a25 : PySem.W.nsIn K mainGlobals "_law_drawn_guard" = some (some (.ref f25)))
    (l25 : K.lookup f25 = some ⟨oc25, od25, .func (PySem.W.fnOf "_law_drawn_guard" "_law_drawn_guard" (defArgs s__law_drawn_guard) (defBody s__law_drawn_guard) (defScope s__law_drawn_guard) .none kV25 dc25 pm25 an25 cd25 ct25), sl25⟩)
    (c25 : PySem.W.codeIn K cd25 "_law_drawn_guard" = true)
    (k25 : PySem.W.keepIn K (.ref f25) = true)
    (a26 : PySem.W.nsIn K mainGlobals "_law_points" = some (some (.ref f26)))
    (l26 : K.lookup f26 = some ⟨oc26, od26, .func (PySem.W.fnOf "_law_points" "_law_points" (defArgs s__law_points) (defBody s__law_points) (defScope s__law_points) .none kV26 dc26 pm26 an26 cd26 ct26), sl26⟩)
    (c26 : PySem.W.codeIn K cd26 "_law_points" = true)
    (k26 : PySem.W.keepIn K (.ref f26) = true)
    (a27 : PySem.W.nsIn K mainGlobals "_law_cells_right" = some (some (.ref f27)))
    (l27 : K.lookup f27 = some ⟨oc27, od27, .func (PySem.W.fnOf "_law_cells_right" "_law_cells_right" (defArgs s__law_cells_right) (defBody s__law_cells_right) (defScope s__law_cells_right) .none kV27 dc27 pm27 an27 cd27 ct27), sl27⟩)
    (c27 : PySem.W.codeIn K cd27 "_law_cells_right" = true)
    (k27 : PySem.W.keepIn K (.ref f27) = true)
    (a28 : PySem.W.nsIn K mainGlobals "_law_outside" = some (some (.ref f28)))
    (l28 : K.lookup f28 = some ⟨oc28, od28, .func (PySem.W.fnOf "_law_outside" "_law_outside" (defArgs s__law_outside) (defBody s__law_outside) (defScope s__law_outside) .none kV28 dc28 pm28 an28 cd28 ct28), sl28⟩)
    (c28 : PySem.W.codeIn K cd28 "_law_outside" = true)
    (k28 : PySem.W.keepIn K (.ref f28) = true)
    (a29 : PySem.W.nsIn K mainGlobals "_law_in_some" = some (some (.ref f29)))
    (l29 : K.lookup f29 = some ⟨oc29, od29, .func (PySem.W.fnOf "_law_in_some" "_law_in_some" (defArgs s__law_in_some) (defBody s__law_in_some) (defScope s__law_in_some) .none kV29 dc29 pm29 an29 cd29 ct29), sl29⟩)
    (c29 : PySem.W.codeIn K cd29 "_law_in_some" = true)
    (k29 : PySem.W.keepIn K (.ref f29) = true)
    (a30 : PySem.W.nsIn K mainGlobals "law" = some (some (.ref f30)))
    (l30 : K.lookup f30 = some ⟨oc30, od30, .func (PySem.W.fnOf "law" "law" (defArgs s_law) (defBody s_law) (defScope s_law) .none kV30 dc30 pm30 an30 cd30 ct30), sl30⟩)
    (c30 : PySem.W.codeIn K cd30 "law" = true)
    (k30 : PySem.W.keepIn K (.ref f30) = true)
    (z0 : PySem.W.nsIn K mainGlobals "len" = some none)
    (z1 : PySem.W.nsIn K mainGlobals "int" = some none)
    (z2 : PySem.W.nsIn K mainGlobals "abs" = some none)
    (z3 : PySem.W.nsIn K mainGlobals "tuple" = some none)
    (z4 : PySem.W.nsIn K mainGlobals "list" = some none)
    (z5 : PySem.W.nsIn K mainGlobals "all" = some none)
    (z6 : PySem.W.nsIn K mainGlobals "any" = some none)
    (z7 : PySem.W.nsIn K mainGlobals "sum" = some none)
    (z8 : PySem.W.nsIn K mainGlobals "min" = some none)
    (z9 : PySem.W.nsIn K mainGlobals "max" = some none)
    (z10 : PySem.W.nsIn K mainGlobals "repr" = some none)
    (z11 : PySem.W.nsIn K mainGlobals "isinstance" = some none)
    (z12 : PySem.W.nsIn K mainGlobals "range" = some none)
    (z13 : PySem.W.nsIn K mainGlobals "enumerate" = some none)
    (z14 : PySem.W.nsIn K mainGlobals "zip" = some none)
    (z15 : PySem.W.nsIn K mainGlobals "bool" = some none)
    (z16 : PySem.W.nsIn K mainGlobals "str" = some none)
    (y0 : PySem.W.nsIn K mainGlobals "ALL_ZERO" = some (some (.int 1 t0)))
    (y1 : PySem.W.nsIn K mainGlobals "MOST_CELLS" = some (some (.int 400 t1))) :
    ∃ fd : FuncData, (∀ (s : Shared) (v : Value), BindsTo s fd ⟨[v], []⟩ [("script", v)]) ∧ ∀ base : Heap, K.In base → base.Ns mainGlobals mg → FnG l.prog w K mg base 7 fa fd ["script"] (liftSp K mg 1 lawSp) := by
  have e := hfa.symm.trans (PySem.W.mg_of X G a30)
  cases e
  have hb : ∀ x ∈ bltNames, mg x = none := by
    intro x hx
    simp only [bltNames, List.mem_cons, List.not_mem_nil, or_false] at hx
    rcases hx with rfl | rfl | rfl | rfl | rfl | rfl | rfl | rfl | rfl | rfl | rfl | rfl | rfl | rfl | rfl | rfl | rfl
    · exact PySem.W.mg_none_of X G z0
    · exact PySem.W.mg_none_of X G z1
    · exact PySem.W.mg_none_of X G z2
    · exact PySem.W.mg_none_of X G z3
    · exact PySem.W.mg_none_of X G z4
    · exact PySem.W.mg_none_of X G z5
    · exact PySem.W.mg_none_of X G z6
    · exact PySem.W.mg_none_of X G z7
    · exact PySem.W.mg_none_of X G z8
    · exact PySem.W.mg_none_of X G z9
    · exact PySem.W.mg_none_of X G z10
    · exact PySem.W.mg_none_of X G z11
    · exact PySem.W.mg_none_of X G z12
    · exact PySem.W.mg_none_of X G z13
    · exact PySem.W.mg_none_of X G z14
    · exact PySem.W.mg_none_of X G z15
    · exact PySem.W.mg_none_of X G z16
  have L : Facts K mg :=
    { blt := hb
      g_ALL_ZERO := ⟨_, PySem.W.mg_of X G y0⟩
      g_MOST_CELLS := ⟨_, PySem.W.mg_of X G y1⟩
      f_at_most := ⟨f0, _, fun_mk (st := s_at_most) l0 c0 k0, PySem.W.mg_of X G a0, (fun_mk (st := s_at_most) l0 c0 k0).binds fun _ _ _ _ _ _ us hl => match us, hl with | [_], _ => rfl⟩
      f_below := ⟨f1, _, fun_mk (st := s_below) l1 c1 k1, PySem.W.mg_of X G a1, (fun_mk (st := s_below) l1 c1 k1).binds fun _ _ _ _ _ _ us hl => match us, hl with | [_], _ => rfl⟩
      f_is_tight := ⟨f2, _, fun_mk (st := s_is_tight) l2 c2 k2, PySem.W.mg_of X G a2, (fun_mk (st := s_is_tight) l2 c2 k2).binds fun _ _ _ _ _ _ us hl => match us, hl with | [_, _], _ => rfl⟩
      f_closed_grid := ⟨f3, _, fun_mk (st := s_closed_grid) l3 c3 k3, PySem.W.mg_of X G a3, (fun_mk (st := s_closed_grid) l3 c3 k3).binds fun _ _ _ _ _ _ us hl => match us, hl with | [_], _ => rfl⟩
      f_whole_lot := ⟨f4, _, fun_mk (st := s_whole_lot) l4 c4 k4, PySem.W.mg_of X G a4, (fun_mk (st := s_whole_lot) l4 c4 k4).binds fun _ _ _ _ _ _ us hl => match us, hl with | [_], _ => rfl⟩
      f_with_bounds := ⟨f5, _, fun_mk (st := s_with_bounds) l5 c5 k5, PySem.W.mg_of X G a5, (fun_mk (st := s_with_bounds) l5 c5 k5).binds fun _ _ _ _ _ _ us hl => match us, hl with | [_, _], _ => rfl⟩
      f_test_bounds := ⟨f6, _, fun_mk (st := s_test_bounds) l6 c6 k6, PySem.W.mg_of X G a6, (fun_mk (st := s_test_bounds) l6 c6 k6).binds fun _ _ _ _ _ _ us hl => match us, hl with | [_], _ => rfl⟩
      f_tests_lot := ⟨f7, _, fun_mk (st := s_tests_lot) l7 c7 k7, PySem.W.mg_of X G a7, (fun_mk (st := s_tests_lot) l7 c7 k7).binds fun _ _ _ _ _ _ us hl => match us, hl with | [_, _], _ => rfl⟩
      f_opposite_tests := ⟨f8, _, fun_mk (st := s_opposite_tests) l8 c8 k8, PySem.W.mg_of X G a8, (fun_mk (st := s_opposite_tests) l8 c8 k8).binds fun _ _ _ _ _ _ us hl => match us, hl with | [_], _ => rfl⟩
      f_can_meet := ⟨f9, _, fun_mk (st := s_can_meet) l9 c9 k9, PySem.W.mg_of X G a9, (fun_mk (st := s_can_meet) l9 c9 k9).binds fun _ _ _ _ _ _ us hl => match us, hl with | [_], _ => rfl⟩
      f_cell_pieces := ⟨f10, _, fun_mk (st := s_cell_pieces) l10 c10 k10, PySem.W.mg_of X G a10, (fun_mk (st := s_cell_pieces) l10 c10 k10).binds fun _ _ _ _ _ _ us hl => match us, hl with | [_, _], _ => rfl⟩
      f_cells_outside := ⟨f11, _, fun_mk (st := s_cells_outside) l11 c11 k11, PySem.W.mg_of X G a11, (fun_mk (st := s_cells_outside) l11 c11 k11).binds fun _ _ _ _ _ _ us hl => match us, hl with | [_], _ => rfl⟩
      f__law_pool := ⟨f12, _, fun_mk (st := s__law_pool) l12 c12 k12, PySem.W.mg_of X G a12, (fun_mk (st := s__law_pool) l12 c12 k12).binds fun _ _ _ _ _ _ us hl => match us, hl with | [_], _ => rfl⟩
      f__law_mix := ⟨f13, _, fun_mk (st := s__law_mix) l13 c13 k13, PySem.W.mg_of X G a13, (fun_mk (st := s__law_mix) l13 c13 k13).binds fun _ _ _ _ _ _ us hl => match us, hl with | [_], _ => rfl⟩
      f__law_draw := ⟨f14, _, fun_mk (st := s__law_draw) l14 c14 k14, PySem.W.mg_of X G a14, (fun_mk (st := s__law_draw) l14 c14 k14).binds fun _ _ _ _ _ _ us hl => match us, hl with | [_, _], _ => rfl⟩
      f__law_pick := ⟨f15, _, fun_mk (st := s__law_pick) l15 c15 k15, PySem.W.mg_of X G a15, (fun_mk (st := s__law_pick) l15 c15 k15).binds fun _ _ _ _ _ _ us hl => match us, hl with | [_, _], _ => rfl⟩
      f__law_int := ⟨f16, _, fun_mk (st := s__law_int) l16 c16 k16, PySem.W.mg_of X G a16, (fun_mk (st := s__law_int) l16 c16 k16).binds fun _ _ _ _ _ _ us hl => match us, hl with | [_], _ => rfl⟩
      f__law_plain := ⟨f17, _, fun_mk (st := s__law_plain) l17 c17 k17, PySem.W.mg_of X G a17, (fun_mk (st := s__law_plain) l17 c17 k17).binds fun _ _ _ _ _ _ us hl => match us, hl with | [_, _], _ => rfl⟩
      f__law_same := ⟨f18, _, fun_mk (st := s__law_same) l18 c18 k18, PySem.W.mg_of X G a18, (fun_mk (st := s__law_same) l18 c18 k18).binds fun _ _ _ _ _ _ us hl => match us, hl with | [_, _], _ => rfl⟩
      f__law_gcd := ⟨f19, _, fun_mk (st := s__law_gcd) l19 c19 k19, PySem.W.mg_of X G a19, (fun_mk (st := s__law_gcd) l19 c19 k19).binds fun _ _ _ _ _ _ us hl => match us, hl with | [_, _], _ => rfl⟩
      f__law_ratio := ⟨f20, _, fun_mk (st := s__law_ratio) l20 c20 k20, PySem.W.mg_of X G a20, (fun_mk (st := s__law_ratio) l20 c20 k20).binds fun _ _ _ _ _ _ us hl => match us, hl with | [_, _], _ => rfl⟩
      f__law_compare := ⟨f21, _, fun_mk (st := s__law_compare) l21 c21 k21, PySem.W.mg_of X G a21, (fun_mk (st := s__law_compare) l21 c21 k21).binds fun _ _ _ _ _ _ us hl => match us, hl with | [_, _, _], _ => rfl⟩
      f__law_meets := ⟨f22, _, fun_mk (st := s__law_meets) l22 c22 k22, PySem.W.mg_of X G a22, (fun_mk (st := s__law_meets) l22 c22 k22).binds fun _ _ _ _ _ _ us hl => match us, hl with | [_, _], _ => rfl⟩
      f__law_test := ⟨f23, _, fun_mk (st := s__law_test) l23 c23 k23, PySem.W.mg_of X G a23, (fun_mk (st := s__law_test) l23 c23 k23).binds fun _ _ _ _ _ _ us hl => match us, hl with | [_, _, _, _], _ => rfl⟩
      f__law_can_meet := ⟨f24, _, fun_mk (st := s__law_can_meet) l24 c24 k24, PySem.W.mg_of X G a24, (fun_mk (st := s__law_can_meet) l24 c24 k24).binds fun _ _ _ _ _ _ us hl => match us, hl with | [_], _ => rfl⟩
      f__law_drawn_guard := ⟨f25, _, fun_mk (st := s__law_drawn_guard) l25 c25 k25, PySem.W.mg_of X G a25, (fun_mk (st := s__law_drawn_guard) l25 c25 k25).binds fun _ _ _ _ _ _ us hl => match us, hl with | [_, _], _ => rfl⟩
      f__law_points := ⟨f26, _, fun_mk (st := s__law_points) l26 c26 k26, PySem.W.mg_of X G a26, (fun_mk (st := s__law_points) l26 c26 k26).binds fun _ _ _ _ _ _ us hl => match us, hl with | [_], _ => rfl⟩
      f__law_cells_right := ⟨f27, _, fun_mk (st := s__law_cells_right) l27 c27 k27, PySem.W.mg_of X G a27, (fun_mk (st := s__law_cells_right) l27 c27 k27).binds fun _ _ _ _ _ _ us hl => match us, hl with | [_, _], _ => rfl⟩
      f__law_outside := ⟨f28, _, fun_mk (st := s__law_outside) l28 c28 k28, PySem.W.mg_of X G a28, (fun_mk (st := s__law_outside) l28 c28 k28).binds fun _ _ _ _ _ _ us hl => match us, hl with | [_, _], _ => rfl⟩
      f__law_in_some := ⟨f29, _, fun_mk (st := s__law_in_some) l29 c29 k29, PySem.W.mg_of X G a29, (fun_mk (st := s__law_in_some) l29 c29 k29).binds fun _ _ _ _ _ _ us hl => match us, hl with | [_, _], _ => rfl⟩ }
  exact ⟨_, fun s v => .of_eq rfl, fun base _ _ => ok_law L (fun_mk (st := s_law) l30 c30 k30)⟩
end TK
open PySem PySem.W PyProof.Rows
set_option maxHeartbeats 0 in
theorem PySem.Challenge.cw_tickless_k65_cells_outside_guards_holds : PySem.Challenge.rw_tickless_k65_cells_outside_guards.Holds := by
  w_on; o_law; k_head; (case hw => w_witness2)
  k_fill
  refine TK.walk_of (l := PySem.Challenge.rw_tickless_k65_cells_outside_guards) (k := 7) (x := "script") rfl rfl ⟨rfl, by decide, by decide⟩ (fun w h Y => PySem.W.kIn_of Y) ?F
  case F =>
    intro w mg fa h KX G hmg
    refine' TK.all_mk KX G hmg ?a0 ?l0 ?c0 ?k0 ?a1 ?l1 ?c1 ?k1 ?a2 ?l2 ?c2 ?k2 ?a3 ?l3 ?c3 ?k3 ?a4 ?l4 ?c4 ?k4 ?a5 ?l5 ?c5 ?k5 ?a6 ?l6 ?c6 ?k6 ?a7 ?l7 ?c7 ?k7 ?a8 ?l8 ?c8 ?k8 ?a9 ?l9 ?c9 ?k9 ?a10 ?l10 ?c10 ?k10 ?a11 ?l11 ?c11 ?k11 ?a12 ?l12 ?c12 ?k12 ?a13 ?l13 ?c13 ?k13 ?a14 ?l14 ?c14 ?k14 ?a15 ?l15 ?c15 ?k15 ?a16 ?l16 ?c16 ?k16 ?a17 ?l17 ?c17 ?k17 ?a18 ?l18 ?c18 ?k18 ?a19 ?l19 ?c19 ?k19 ?a20 ?l20 ?c20 ?k20 ?a21 ?l21 ?c21 ?k21 ?a22 ?l22 ?c22 ?k22 ?a23 ?l23 ?c23 ?k23 ?a24 ?l24 ?c24 ?k24 ?a25 ?l25 ?c25 ?k25 ?a26 ?l26 ?c26 ?k26 ?a27 ?l27 ?c27 ?k27 ?a28 ?l28 ?c28 ?k28 ?a29 ?l29 ?c29 ?k29 ?a30 ?l30 ?c30 ?k30 ?z0 ?z1 ?z2 ?z3 ?z4 ?z5 ?z6 ?z7 ?z8 ?z9 ?z10 ?z11 ?z12 ?z13 ?z14 ?z15 ?z16 ?y0 ?y1
    (case a0 => k_is); (case l0 => k_is); (case c0 => k_is); (case k0 => k_is); (case a1 => k_is); (case l1 => k_is); (case c1 => k_is); (case k1 => k_is); (case a2 => k_is); (case l2 => k_is); (case c2 => k_is); (case k2 => k_is); (case a3 => k_is); (case l3 => k_is); (case c3 => k_is); (case k3 => k_is); (case a4 => k_is); (case l4 => k_is); (case c4 => k_is); (case k4 => k_is); (case a5 => k_is); (case l5 => k_is); (case c5 => k_is); (case k5 => k_is); (case a6 => k_is); (case l6 => k_is); (case c6 => k_is); (case k6 => k_is); (case a7 => k_is); (case l7 => k_is); (case c7 => k_is); (case k7 => k_is); (case a8 => k_is); (case l8 => k_is); (case c8 => k_is); (case k8 => k_is); (case a9 => k_is); (case l9 => k_is); (case c9 => k_is); (case k9 => k_is); (case a10 => k_is); (case l10 => k_is); (case c10 => k_is); (case k10 => k_is); (case a11 => k_is); (case l11 => k_is); (case c11 => k_is); (case k11 => k_is); (case a12 => k_is); (case l12 => k_is); (case c12 => k_is); (case k12 => k_is); (case a13 => k_is); (case l13 => k_is); (case c13 => k_is); (case k13 => k_is); (case a14 => k_is); (case l14 => k_is); (case c14 => k_is); (case k14 => k_is); (case a15 => k_is); (case l15 => k_is); (case c15 => k_is); (case k15 => k_is); (case a16 => k_is); (case l16 => k_is); (case c16 => k_is); (case k16 => k_is); (case a17 => k_is); (case l17 => k_is); (case c17 => k_is); (case k17 => k_is); (case a18 => k_is); (case l18 => k_is); (case c18 => k_is); (case k18 => k_is); (case a19 => k_is); (case l19 => k_is); (case c19 => k_is); (case k19 => k_is); (case a20 => k_is); (case l20 => k_is); (case c20 => k_is); (case k20 => k_is); (case a21 => k_is); (case l21 => k_is); (case c21 => k_is); (case k21 => k_is); (case a22 => k_is); (case l22 => k_is); (case c22 => k_is); (case k22 => k_is); (case a23 => k_is); (case l23 => k_is); (case c23 => k_is); (case k23 => k_is); (case a24 => k_is); (case l24 => k_is); (case c24 => k_is); (case k24 => k_is); (case a25 => k_is); (case l25 => k_is); (case c25 => k_is); (case k25 => k_is); (case a26 => k_is); (case l26 => k_is); (case c26 => k_is); (case k26 => k_is); (case a27 => k_is); (case l27 => k_is); (case c27 => k_is); (case k27 => k_is); (case a28 => k_is); (case l28 => k_is); (case c28 => k_is); (case k28 => k_is); (case a29 => k_is); (case l29 => k_is); (case c29 => k_is); (case k29 => k_is); (case a30 => k_is); (case l30 => k_is); (case c30 => k_is); (case k30 => k_is); (case z0 => k_is); (case z1 => k_is); (case z2 => k_is); (case z3 => k_is); (case z4 => k_is); (case z5 => k_is); (case z6 => k_is); (case z7 => k_is); (case z8 => k_is); (case z9 => k_is); (case z10 => k_is); (case z11 => k_is); (case z12 => k_is); (case z13 => k_is); (case z14 => k_is); (case z15 => k_is); (case z16 => k_is); (case y0 => k_is); (case y1 => k_is)
