import PyProof.Rows.All
import Wide.All
import OpenK.AllK
import Wide.FinOn
import HandS.ForExc
import HandS.ForMost
import HandS.Wide
import HandS.Walk
import HandS.IsInst
import HandS.Zip
import HandS.TupAny
import HandS.Style
import HandS.Iter
import PyProof.Draws
import PyProof.EnumMake
import KE.GoesMore
import HandS.Words
import HandS.Ends
import PySem.Challenge.RW_tickless_k13_steps_in_fractions
set_option Elab.async false
set_option linter.all false
set_option maxRecDepth 100000
set_option maxHeartbeats 8000000
set_option maxRecDepth 100000
namespace TK
open PySem PySem.Spec PyProof.Rows L2

/-! ### values without a heap -/
/-- a value: tuples and frozen lists are their items; a list that is still written is its address -/
inductive PV where
  | non | bl (b : Bool) | int (i : Int) | str (x : Str) | tup (xs : List PV) | lst (xs : List PV) | ref (a : Nat) | scr (ns : List Int)
instance : Inhabited PV := ⟨.non⟩

abbrev Sl := List (Option PV)
def getS : Sl → Nat → Option PV
  | [], _ => none
  | x :: _, 0 => x
  | _ :: r, n + 1 => getS r n
def setS : Sl → Nat → Option PV → Sl
  | [], _, _ => []
  | _ :: r, 0, y => y :: r
  | x :: r, n + 1, y => x :: setS r n y
theorem setS_length : ∀ (τ : Sl) (i : Nat) (y : Option PV), (setS τ i y).length = τ.length
  | [], _, _ => rfl
  | _ :: _, 0, _ => rfl
  | _ :: r, n + 1, y => congrArg (· + 1) (setS_length r n y)
theorem getS_setS_same : ∀ {τ : Sl} {i : Nat} {y : Option PV}, i < τ.length → getS (setS τ i y) i = y
  | [], _, _, h => absurd h (Nat.not_lt_zero _)
  | _ :: _, 0, _, _ => rfl
  | _ :: r, n + 1, _, h => getS_setS_same (τ := r) (Nat.lt_of_succ_lt_succ h)
theorem getS_setS_ne : ∀ {τ : Sl} {i j : Nat} {y : Option PV}, j ≠ i → getS (setS τ i y) j = getS τ j
  | [], _, _, _, _ => rfl
  | _ :: _, 0, 0, _, h => absurd rfl h
  | _ :: _, 0, _ + 1, _, _ => rfl
  | _ :: _, _ + 1, 0, _, _ => rfl
  | _ :: r, i + 1, j + 1, _, h => getS_setS_ne (τ := r) (fun e => h (congrArg (· + 1) e))
theorem getS_lt : ∀ {τ : Sl} {i : Nat} {v : PV}, getS τ i = some v → i < τ.length
  | [], _, _, h => nomatch h
  | _ :: _, 0, _, _ => Nat.succ_pos _
  | _ :: r, n + 1, _, h => Nat.succ_lt_succ (getS_lt (τ := r) h)
def wipeS (τ : Sl) : List Nat → Sl
  | [] => τ
  | v :: vs => setS (wipeS τ vs) v none
theorem wipeS_length (τ : Sl) : ∀ vs, (wipeS τ vs).length = τ.length
  | [] => rfl
  | v :: vs => by show (setS (wipeS τ vs) v none).length = _; rw [setS_length, wipeS_length τ vs]
theorem wipeS_some {τ : Sl} {i : Nat} {x : PV} : ∀ {vs : List Nat}, getS (wipeS τ vs) i = some x → getS τ i = some x ∧ i ∉ vs
  | [], h => ⟨h, List.not_mem_nil⟩
  | v :: vs, h => by
    have h' : getS (setS (wipeS τ vs) v none) i = some x := h
    by_cases e : i = v
    · subst e
      have := getS_lt h'
      rw [setS_length] at this
      rw [getS_setS_same this] at h'; cases h'
    · rw [getS_setS_ne e] at h'
      obtain ⟨a, b⟩ := wipeS_some h'
      exact ⟨a, fun hm => (List.mem_cons.mp hm).elim e b⟩

/-- what the proofs follow of the heap: lists that are still written; the law's own pool of draws -/
inductive Cell where
  | lst (xs : List PV)
  | pool
abbrev Store := Nat → Option Cell
def up (st : Store) (a : Nat) (c : Option Cell) : Store := fun b => if b = a then c else st b
theorem up_same {st : Store} {a : Nat} {c : Option Cell} : up st a c a = c := if_pos rfl
theorem up_ne {st : Store} {a b : Nat} {c : Option Cell} (h : b ≠ a) : up st a c b = st b := if_neg h

/-- an exception: its class's name, its attributes -/
abbrev Exn := Str × List (Str × PV)

/-! ### how they lie in the layer's heap -/
abbrev FS := Addr → Prop
def Imm : HO → Prop
  | .tup _ => True
  | .xd _ => True
  | .frz _ _ => True
  | _ => False
def Kp (H : Hp) (F : FS) (H' : Hp) : Prop := ∀ a u, H a = some u → F a ∨ Imm u → H' a = some u
structure Ext (F : FS) (H : Hp) (F' : FS) (H' : Hp) : Prop where
  le : ∀ a, F a → F' a
  kp : Kp H F H'
theorem Ext.refl {F : FS} {H : Hp} : Ext F H F H := ⟨fun _ h => h, fun _ _ h _ => h⟩
theorem Ext.trans {F F1 F2 : FS} {H H1 H2 : Hp} (a : Ext F H F1 H1) (b : Ext F1 H1 F2 H2) : Ext F H F2 H2 :=
  ⟨fun x h => b.le x (a.le x h), fun x u h i => b.kp x u (a.kp x u h i) (i.imp (a.le x) id)⟩

/-- the law's script, known for good -/
def ScrL (K : PySem.W.Frag) (H : Hp) (a : Addr) (ys : List V) : Prop :=
  (∃ o, H a = some (.frz o (.lst ys))) ∨ SqL K (fun _ => none) a ys
theorem sqk {K : PySem.W.Frag} {H : Hp} {a : Addr} {ys : List V} (h : SqL K (fun _ => none) a ys) : SqL K H a ys := by
  rcases h with (h | ⟨_, h⟩) | h
  · cases h
  · cases h
  · exact .inr h
theorem ScrL.sq {K : PySem.W.Frag} {H : Hp} {a : Addr} {ys : List V} (h : ScrL K H a ys) : SqL K H a ys := by
  rcases h with ⟨o, h⟩ | h
  · exact .inl (.inr ⟨o, h⟩)
  · exact sqk h
theorem ScrL.ext {K : PySem.W.Frag} {H H' : Hp} {F F' : FS} {a : Addr} {ys : List V} (x : Ext F H F' H') (h : ScrL K H a ys) : ScrL K H' a ys := by
  rcases h with ⟨o, h⟩ | h
  · exact .inl ⟨o, x.kp _ _ h (.inr trivial)⟩
  · exact .inr h
theorem sqText {K : PySem.W.Frag} {H H' : Hp} {F F' : FS} {a : Addr} {ys : List V} (x : Ext F H F' H') (h : SqT K H a ys) : SqT K H' a ys := by
  rcases h with (h | ⟨o, h⟩) | h
  · exact .inl (.inl (x.kp _ _ h (.inr trivial)))
  · exact .inl (.inr ⟨o, x.kp _ _ h (.inr trivial)⟩)
  · exact .inr h

mutual
inductive DV (K : PySem.W.Frag) (H : Hp) (F : FS) : PV → V → Prop
  | non : DV K H F .non .non
  | bl (b : Bool) : DV K H F (.bl b) (.bl b)
  | int (i : Int) : DV K H F (.int i) (.int i)
  | str (x : Str) : DV K H F (.str x) (.str x)
  | tup {a : Addr} {xs : List PV} {ys : List V} : SqT K H a ys → DVs K H F xs ys → DV K H F (.tup xs) (.ref a)
  | lst {a : Addr} {xs : List PV} {ys : List V} : F a → H a = some (.lst ys) → DVs K H F xs ys → DV K H F (.lst xs) (.ref a)
  | ref (a : Addr) : DV K H F (.ref a) (.ref a)
  | scr {a : Addr} {ns : List Int} : ScrL K H a (ns.map V.int) → DV K H F (.scr ns) (.ref a)
inductive DVs (K : PySem.W.Frag) (H : Hp) (F : FS) : List PV → List V → Prop
  | nil : DVs K H F [] []
  | cons {v : PV} {x : V} {vs : List PV} {xs : List V} : DV K H F v x → DVs K H F vs xs → DVs K H F (v :: vs) (x :: xs)
end
section
variable {K : PySem.W.Frag} {H H' : Hp} {F F' : FS}
mutual
theorem DV.ext (x : Ext F H F' H') : ∀ {v : PV} {y : V}, DV K H F v y → DV K H' F' v y
  | _, _, .non => .non
  | _, _, .bl b => .bl b
  | _, _, .int i => .int i
  | _, _, .str z => .str z
  | _, _, .tup h hs => .tup (sqText x h) (DVs.ext x hs)
  | _, _, .lst f h hs => .lst (x.le _ f) (x.kp _ _ h (.inl f)) (DVs.ext x hs)
  | _, _, .ref a => .ref a
  | _, _, .scr h => .scr (h.ext x)
theorem DVs.ext (x : Ext F H F' H') : ∀ {vs : List PV} {ys : List V}, DVs K H F vs ys → DVs K H' F' vs ys
  | _, _, .nil => .nil
  | _, _, .cons h hs => .cons (DV.ext x h) (DVs.ext x hs)
end
theorem DVs.length : ∀ {vs : List PV} {ys : List V}, DVs K H F vs ys → vs.length = ys.length
  | _, _, .nil => rfl
  | _, _, .cons _ hs => congrArg (· + 1) hs.length
theorem DVs.get : ∀ {vs : List PV} {ys : List V} {i : Nat} {v : PV}, DVs K H F vs ys → vs[i]? = some v → ∃ y, ys[i]? = some y ∧ DV K H F v y
  | _, _, _, _, .nil, e => by simp at e
  | _, _, 0, _, .cons h _, e => by simp at e; subst e; exact ⟨_, rfl, h⟩
  | _, _, i + 1, _, .cons _ hs, e => by simpa using hs.get (i := i) (by simpa using e)
theorem DVs.get' : ∀ {vs : List PV} {ys : List V} {i : Nat} {y : V}, DVs K H F vs ys → ys[i]? = some y → ∃ v, vs[i]? = some v ∧ DV K H F v y
  | _, _, _, _, .nil, e => by simp at e
  | _, _, 0, _, .cons h _, e => by simp at e; subst e; exact ⟨_, rfl, h⟩
  | _, _, i + 1, _, .cons _ hs, e => by simpa using hs.get' (i := i) (by simpa using e)
theorem DVs.append : ∀ {vs ws : List PV} {ys zs : List V}, DVs K H F vs ys → DVs K H F ws zs → DVs K H F (vs ++ ws) (ys ++ zs)
  | _, _, _, _, .nil, h => h
  | _, _, _, _, .cons a b, h => .cons a (b.append h)
theorem DVs.take : ∀ {vs : List PV} {ys : List V} (n : Nat), DVs K H F vs ys → DVs K H F (vs.take n) (ys.take n)
  | _, _, 0, _ => .nil
  | _, _, _ + 1, .nil => .nil
  | _, _, n + 1, .cons a b => .cons a (b.take n)
theorem DVs.drop : ∀ {vs : List PV} {ys : List V} (n : Nat), DVs K H F vs ys → DVs K H F (vs.drop n) (ys.drop n)
  | _, _, 0, h => h
  | _, _, _ + 1, .nil => .nil
  | _, _, n + 1, .cons _ b => b.drop n
theorem DVs.set {v : PV} {y : V} (h : DV K H F v y) : ∀ {vs : List PV} {ys : List V} (i : Nat), DVs K H F vs ys → DVs K H F (vs.set i v) (ys.set i y)
  | _, _, _, .nil => .nil
  | _, _, 0, .cons _ b => .cons h b
  | _, _, i + 1, .cons a b => .cons a (b.set h i)
theorem DVs.dropLast : ∀ {vs : List PV} {ys : List V}, DVs K H F vs ys → DVs K H F vs.dropLast ys.dropLast
  | _, _, .nil => .nil
  | _, _, .cons a .nil => .nil
  | _, _, .cons a (.cons b c) => .cons a (DVs.dropLast (.cons b c))
theorem DVs.flat {vs : List PV} {ys : List V} (h : DVs K H F vs ys) : ∀ k : Nat, DVs K H F (List.replicate k vs).flatten (List.replicate k ys).flatten
  | 0 => .nil
  | k + 1 => h.append (h.flat k)
theorem DVs.ints : ∀ (ns : List Int), DVs K H F (ns.map PV.int) (ns.map V.int)
  | [] => .nil
  | n :: r => .cons (.int n) (DVs.ints r)
theorem DVs.of_ints : ∀ {ns : List Int} {ys : List V}, DVs K H F (ns.map PV.int) ys → ys = ns.map V.int
  | [], _, .nil => rfl
  | n :: r, _, .cons h hs => by cases h; rw [hs.of_ints]; rfl
end

/-- the pool at a: the script's copy, and four numbers -/
def PoolH (H : Hp) (F : FS) (a : Addr) : Prop :=
  ∃ (q : Addr) (ns : List Int) (x b c d : Int), H a = some (.lst [.ref q, .int x, .int b, .int c, .int d]) ∧ F q ∧ H q = some (.lst (ns.map V.int)) ∧ 0 ≤ x
structure RS (K : PySem.W.Frag) (H : Hp) (F : FS) (st : Store) : Prop where
  lst : ∀ a xs, st a = some (.lst xs) → ¬ F a ∧ ∃ ys, H a = some (.lst ys) ∧ DVs K H F xs ys
  pool : ∀ a, st a = some .pool → ¬ F a ∧ PoolH H F a
  fz : ∀ a, F a → ∃ ys, H a = some (.lst ys)
def RSl (K : PySem.W.Frag) (H : Hp) (F : FS) (τ : Sl) (σ : L2.St) : Prop :=
  τ.length = σ.length ∧ ∀ i v, getS τ i = some v → ∃ x, σ[i]? = some (some x) ∧ DV K H F v x
section
variable {K : PySem.W.Frag} {H H' : Hp} {F F' : FS} {τ : Sl} {σ : L2.St} {st : Store}
theorem RSl.ext (x : Ext F H F' H') (h : RSl K H F τ σ) : RSl K H' F' τ σ :=
  ⟨h.1, fun i v e => let ⟨y, e', d⟩ := h.2 i v e; ⟨y, e', d.ext x⟩⟩
theorem RSl.set {v : PV} {y : V} (h : RSl K H F τ σ) (d : DV K H F v y) (i : Nat) : RSl K H F (setS τ i (some v)) (σ.set i (some y)) := by
  refine ⟨by rw [setS_length, List.length_set]; exact h.1, fun j w e => ?_⟩
  by_cases hj : j = i
  · subst hj
    have hl := getS_lt e
    rw [setS_length] at hl
    rw [getS_setS_same hl] at e
    cases e
    exact ⟨y, by rw [List.getElem?_set_self (by rw [← h.1]; exact hl)], d⟩
  · rw [getS_setS_ne hj] at e
    obtain ⟨z, e', d'⟩ := h.2 j w e
    exact ⟨z, by rw [List.getElem?_set_ne (Ne.symm hj)]; exact e', d'⟩
theorem RSl.wipe (h : RSl K H F τ σ) (vs : List Nat) : RSl K H F (wipeS τ vs) (L2.wipe σ vs) := by
  refine ⟨by rw [wipeS_length, L2.wipe_length]; exact h.1, fun j w e => ?_⟩
  obtain ⟨e1, hn⟩ := wipeS_some e
  obtain ⟨z, e', d'⟩ := h.2 j w e1
  refine ⟨z, ?_, d'⟩
  induction vs with
  | nil => exact e'
  | cons v vs ih =>
    show ((L2.wipe σ vs).set v none)[j]? = _
    have hv : v ≠ j := fun e => hn (e ▸ List.mem_cons_self)
    rw [List.getElem?_set_ne hv]
    exact ih (by
      have e2 : getS (setS (wipeS τ vs) v none) j = some w := e
      rwa [getS_setS_ne (Ne.symm hv)] at e2) (fun hm => hn (List.mem_cons_of_mem _ hm))
theorem RSl.none (h : RSl K H F τ σ) (i : Nat) (y : Option V) (hn : True) : RSl K H F (setS τ i Option.none) (σ.set i y) := by
  refine ⟨by rw [setS_length, List.length_set]; exact h.1, fun j w e => ?_⟩
  by_cases hj : j = i
  · subst hj
    have hl := getS_lt e
    rw [setS_length] at hl
    rw [getS_setS_same hl] at e
    cases e
  · rw [getS_setS_ne hj] at e
    obtain ⟨z, e', d'⟩ := h.2 j w e
    exact ⟨z, by rw [List.getElem?_set_ne (Ne.symm hj)]; exact e', d'⟩

/-- a new object that nothing follows -/
theorem Ext.new {p : Addr} {o : HO} (hp : H p = none) : Ext F H F (upd H p o) := by
  refine ⟨fun _ h => h, fun a u e _ => ?_⟩
  rw [upd_ne (fun z => by rw [z, hp] at e; cases e)]; exact e
theorem RS.nof (r : RS K H F st) {p : Addr} (hp : H p = none) : ¬ F p := fun f => by
  obtain ⟨ys, e⟩ := r.fz p f
  rw [hp] at e; cases e
theorem RS.no {p : Addr} (r : RS K H F st) (hp : H p = none) : st p = Option.none := by
  cases e : st p with
  | none => rfl
  | some c =>
    cases c with
    | lst xs => obtain ⟨_, ys, h, _⟩ := r.lst p xs e; rw [hp] at h; cases h
    | pool => obtain ⟨_, q, ns, x, b, c, d, h, _⟩ := r.pool p e; rw [hp] at h; cases h
theorem PoolH.ext (x : Ext F H F' H') {a : Addr} (h : PoolH H F a) (e : H' a = H a) : PoolH H' F' a := by
  obtain ⟨q, ns, y, b, c, d, h1, h2, h3, h4⟩ := h
  exact ⟨q, ns, y, b, c, d, e.trans h1, x.le _ h2, x.kp _ _ h3 (.inl h2), h4⟩
/-- the followed objects stand; what is frozen stands -/
theorem RS.keep (r : RS K H F st) (x : Ext F H F H') (hs : ∀ a, st a ≠ Option.none → H' a = H a) : RS K H' F st := by
  refine ⟨fun a xs e => ?_, fun a e => ?_, fun a f => ?_⟩
  · obtain ⟨nf, ys, h, d⟩ := r.lst a xs e
    exact ⟨nf, ys, (hs a (by rw [e]; exact fun z => nomatch z)).trans h, d.ext x⟩
  · obtain ⟨nf, h⟩ := r.pool a e
    exact ⟨nf, h.ext x (hs a (by rw [e]; exact fun z => nomatch z))⟩
  · obtain ⟨ys, h⟩ := r.fz a f
    exact ⟨ys, x.kp _ _ h (.inl f)⟩
theorem RS.there (r : RS K H F st) {a : Addr} (h : st a ≠ Option.none) : H a ≠ Option.none := fun e => h (r.no e)
theorem RS.new {p : Addr} {o : HO} (r : RS K H F st) (hp : H p = none) : RS K (upd H p o) F st :=
  r.keep (.new hp) fun a h => upd_ne (fun z => r.there h (z ▸ hp))
/-- a new list, frozen at once -/
theorem Ext.newF {p : Addr} {o : HO} (hp : H p = none) : Ext F H (fun a => F a ∨ a = p) (upd H p o) :=
  ⟨fun _ h => .inl h, (Ext.new (F := F) hp).kp⟩
theorem RS.newF {p : Addr} {ys : List V} (r : RS K H F st) (hp : H p = none) : RS K (upd H p (.lst ys)) (fun a => F a ∨ a = p) st := by
  have x : Ext F H (fun a => F a ∨ a = p) (upd H p (.lst ys)) := .newF hp
  have ne : ∀ a, st a ≠ Option.none → a ≠ p := fun a h z => r.there h (z ▸ hp)
  refine ⟨fun a xs e => ?_, fun a e => ?_, fun a f => ?_⟩
  · obtain ⟨nf, ys, h, d⟩ := r.lst a xs e
    have n := ne a (by rw [e]; exact fun z => nomatch z)
    exact ⟨fun f => f.elim nf n, ys, (upd_ne n).trans h, d.ext x⟩
  · obtain ⟨nf, h⟩ := r.pool a e
    have n := ne a (by rw [e]; exact fun z => nomatch z)
    exact ⟨fun f => f.elim nf n, h.ext x (upd_ne n)⟩
  · rcases f with f | rfl
    · obtain ⟨ys, h⟩ := r.fz a f
      exact ⟨ys, x.kp _ _ h (.inl f)⟩
    · exact ⟨_, upd_same⟩
/-- a followed list takes other items, or a new one is followed -/
theorem Ext.put {p : Addr} {ys : List V} (hF : ¬ F p) (hp : ∀ u, H p = some u → ¬ Imm u) : Ext F H F (upd H p (.lst ys)) := by
  refine ⟨fun _ h => h, fun a u e i => ?_⟩
  have n : a ≠ p := fun z => by
    subst z
    exact i.elim hF (hp u e)
  rw [upd_ne n]; exact e
theorem RS.put {p : Addr} {xs : List PV} {ys : List V} (r : RS K H F st) (hF : ¬ F p) (hp : ∀ u, H p = some u → ¬ Imm u) (d : DVs K H F xs ys) : RS K (upd H p (.lst ys)) F (up st p (some (.lst xs))) := by
  have x : Ext F H F (upd H p (.lst ys)) := .put hF hp
  refine ⟨fun a zs e => ?_, fun a e => ?_, fun a f => ?_⟩
  · by_cases n : a = p
    · subst n
      rw [up_same] at e; cases e
      exact ⟨hF, ys, upd_same, d.ext x⟩
    · rw [up_ne n] at e
      obtain ⟨nf, ys, h, d⟩ := r.lst a zs e
      exact ⟨nf, ys, (upd_ne n).trans h, d.ext x⟩
  · by_cases n : a = p
    · subst n
      rw [up_same] at e; cases e
    · rw [up_ne n] at e
      obtain ⟨nf, h⟩ := r.pool a e
      exact ⟨nf, h.ext x (upd_ne n)⟩
  · obtain ⟨ys, h⟩ := r.fz a f
    exact ⟨ys, x.kp _ _ h (.inl f)⟩
theorem RS.putNew {p : Addr} {xs : List PV} {ys : List V} (r : RS K H F st) (hp : H p = none) (d : DVs K H F xs ys) : RS K (upd H p (.lst ys)) F (up st p (some (.lst xs))) :=
  r.put (r.nof hp) (fun u e => by rw [hp] at e; cases e) d
/-- a followed list is frozen -/
theorem RS.freeze {p : Addr} {xs : List PV} (r : RS K H F st) (e : st p = some (.lst xs)) :
    Ext F H (fun a => F a ∨ a = p) H ∧ RS K H (fun a => F a ∨ a = p) (up st p Option.none) ∧ DV K H (fun a => F a ∨ a = p) (.lst xs) (.ref p) := by
  have x : Ext F H (fun a => F a ∨ a = p) H := ⟨fun _ h => .inl h, fun _ _ h _ => h⟩
  obtain ⟨nf, ys, h, d⟩ := r.lst p xs e
  refine ⟨x, ⟨fun a zs q => ?_, fun a q => ?_, fun a f => ?_⟩, .lst (.inr rfl) h (d.ext x)⟩
  · by_cases n : a = p
    · subst n; rw [up_same] at q; cases q
    · rw [up_ne n] at q
      obtain ⟨nf, ys, h, d⟩ := r.lst a zs q
      exact ⟨fun f => f.elim nf n, ys, h, d.ext x⟩
  · by_cases n : a = p
    · subst n; rw [up_same] at q; cases q
    · rw [up_ne n] at q
      obtain ⟨nf, h⟩ := r.pool a q
      exact ⟨fun f => f.elim nf n, h.ext x rfl⟩
  · rcases f with f | rfl
    · exact r.fz a f
    · exact ⟨ys, h⟩
/-- less may be followed -/
theorem RS.less {st' : Store} (r : RS K H F st) (h : ∀ a c, st' a = some c → st a = some c) : RS K H F st' :=
  ⟨fun a xs e => r.lst a xs (h a _ e), fun a e => r.pool a (h a _ e), r.fz⟩
end

/-- an exception of a class of the program -/
def ExRep (K : PySem.W.Frag) (mg : Str → Option Value) (H : Hp) (F : FS) (e : Exn) (cls : Value) (d : Option Addr) : Prop :=
  ∃ C, cls = .ref C ∧ mg e.1 = some (.ref C) ∧ ∃ (dx : Addr) (fs : List (Str × V)), d = some dx ∧ H dx = some (.xd fs) ∧ ∀ n v, e.2.lookup n = some v → ∃ x, fs.lookup n = some x ∧ DV K H F v x
end TK

set_option maxRecDepth 100000
namespace TK
open PySem PySem.Spec PyProof.Rows L2

/-! ### the small language: a def's body as a term -/
/-- a def's promise: arguments, store, the wanted end, the wanted exception -/
abbrev PSpec := List PV → Store → (PV → Store → Prop) → (Exn → Store → Prop) → Prop

mutual
inductive TG where
  | name (i : Nat)
  | tup (ts : TGs)
inductive TGs where
  | nil
  | cons (t : TG) (ts : TGs)
end
mutual
def TG.slots : TG → List Nat
  | .name i => [i]
  | .tup ts => ts.slots
def TGs.slots : TGs → List Nat
  | .nil => []
  | .cons t ts => t.slots ++ ts.slots
end
mutual
def TG.asg : TG → PV → Sl → Option Sl
  | .name i, v, τ => some (setS τ i (some v))
  | .tup ts, v, τ => match v with
    | .tup xs => ts.asg xs τ
    | _ => none
def TGs.asg : TGs → List PV → Sl → Option Sl
  | .nil, xs, τ => match xs with
    | [] => some τ
    | _ :: _ => none
  | .cons t ts, xs, τ => match xs with
    | [] => none
    | x :: r => (t.asg x τ).bind (ts.asg r)
end

/-- built-in functions -/
inductive BF where
  | len | int | abs | tuple | list | all | any | sum | min2 | max2 | min | max | repr
/-- methods -/
inductive MF where
  | append | extend | pop | index

mutual
inductive E where
  | var (i : Nat)
  | fvar (i : Nat)
  | int (n : Int)
  | bl (b : Bool)
  | non
  | str (x : Str)
  | glob (x : Str) (v : PV)
  | bin (o : Operator) (m : Bool) (a b : E)
  | neg (a : E)
  | not (a : E)
  | cmp (o : CmpOp) (a b : E)
  | chain (o o' : CmpOp) (a b c : E)
  | bools (o : BoolOp) (es : Es)
  | ite (t : T) (a b : E)
  | tup (es : Es)
  | lst (m : Bool) (es : Es)
  | idx (a i : E)
  | slice (m : Bool) (a : E) (lo hi : OE)
  | call (f : Str) (sp : PSpec) (es : Es)
  | blt (f : BF) (m : Bool) (es : Es)
  | isi (e : E) (ty : Str)
  | meth (f : MF) (o : E) (es : Es)
  | comp (m : Bool) (vs : List Nat) (tg : TG) (it : I) (ts : Ts) (elt : E)
inductive Es where
  | nil
  | cons (e : E) (es : Es)
inductive OE where
  | no
  | yes (e : E)
inductive T where
  | val (e : E)
  | cmp (o : CmpOp) (a b : E)
  | chain (o o' : CmpOp) (a b c : E)
  | not (t : T)
  | bools (o : BoolOp) (ts : Ts)
  | ite (t a b : T)
inductive Ts where
  | nil
  | cons (t : T) (ts : Ts)
inductive I where
  | val (e : E)
  | range1 (a : E)
  | range2 (a b : E)
  | enum (e : E)
  | zip (a b : E)
end

def Es.len : Es → Nat
  | .nil => 0
  | .cons _ es => es.len + 1
/-! ### what operations do -/
abbrev PQ := PV → Store → Prop
abbrev EQ := Exn → Store → Prop
def oP {α : Type} (o : Option α) (k : α → Prop) : Prop :=
  match o with
  | some a => k a
  | none => False
def onBl (v : PV) (k : Bool → Prop) : Prop :=
  match v with
  | .bl b => k b
  | _ => False
def onInt (v : PV) (k : Int → Prop) : Prop :=
  match v with
  | .int b => k b
  | _ => False
def seqOf (st : Store) : PV → Option (List PV)
  | .tup xs => some xs
  | .lst xs => some xs
  | .ref a => match st a with
    | some (.lst xs) => some xs
    | _ => none
  | _ => none
/-- a list's items; the script's too -/
def lstOf (st : Store) : PV → Option (List PV)
  | .lst xs => some xs
  | .ref a => match st a with
    | some (.lst xs) => some xs
    | _ => none
  | _ => none
def newList (m : Bool) (xs : List PV) (st : Store) (Q : PQ) : Prop :=
  match m with
  | true => ∀ p, st p = none → Q (.ref p) (up st p (some (.lst xs)))
  | false => Q (.lst xs) st
def DivOk (j : Int) : Prop := j ≠ 0 ∧ j.natAbs.log2 < 9000
def binV (o : Operator) (m : Bool) (v w : PV) (st : Store) (Q : PQ) : Prop :=
  match o, v, w with
  | .Add, .int i, .int j => Q (.int (i + j)) st
  | .Add, .str x, .str y => x.length + y.length ≤ sizeLine ∧ Q (.str (x ++ y)) st
  | .Add, .tup xs, .tup ys => xs.length + ys.length ≤ sizeLine ∧ Q (.tup (xs ++ ys)) st
  | .Add, .lst xs, .lst ys => xs.length + ys.length ≤ sizeLine ∧ newList m (xs ++ ys) st Q
  | .Add, .ref a, .lst ys => ∃ xs, st a = some (.lst xs) ∧ xs.length + ys.length ≤ sizeLine ∧ newList m (xs ++ ys) st Q
  | .Add, .lst xs, .ref b => ∃ ys, st b = some (.lst ys) ∧ xs.length + ys.length ≤ sizeLine ∧ newList m (xs ++ ys) st Q
  | .Add, .ref a, .ref b => ∃ xs ys, st a = some (.lst xs) ∧ st b = some (.lst ys) ∧ xs.length + ys.length ≤ sizeLine ∧ newList m (xs ++ ys) st Q
  | .Sub, .int i, .int j => Q (.int (i - j)) st
  | .Mult, .int i, .int j => IntMulOk i j ∧ Q (.int (i * j)) st
  | .Mult, .lst xs, .int k => -(2 ^ 63) ≤ k ∧ k < 2 ^ 63 ∧ xs.length * k.toNat ≤ sizeLine ∧ newList m (List.replicate k.toNat xs).flatten st Q
  | .FloorDiv, .int i, .int j => DivOk j ∧ Q (.int (i.fdiv j)) st
  | .Mod, .int i, .int j => j ≠ 0 ∧ Q (.int (i.fmod j)) st
  | .Pow, .int i, .int j => CPow i j ∧ Q (.int (i ^ j.toNat)) st
  | .BitAnd, .int i, .int j => Q (.int (Builtin.bitAnd i j)) st
  | .BitOr, .int i, .int j => Q (.int (Builtin.bitOr i j)) st
  | _, _, _ => False
def negV (v : PV) (st : Store) (Q : PQ) : Prop :=
  match v with
  | .int i => Q (.int (-i)) st
  | _ => False

/-- data as Python compares and prints it -/
def res (st : Store) : PV → PV
  | .ref a => match st a with
    | some (.lst xs) => .lst xs
    | _ => .ref a
  | v => v
mutual
def toD : PV → PyData
  | .non => .none
  | .bl b => .bool b
  | .int i => .int i
  | .str x => .str x
  | .tup xs => .tuple (toDs xs)
  | .lst xs => .list (toDs xs)
  | .ref _ => .none
  | .scr _ => .none
def toDs : List PV → List PyData
  | [] => []
  | x :: r => toD x :: toDs r
end
mutual
/-- no address within, n levels at most -/
def flat : Nat → PV → Bool
  | n, .tup xs => n != 0 && flats (n - 1) xs
  | n, .lst xs => n != 0 && flats (n - 1) xs
  | _, .ref _ => false
  | _, .scr _ => false
  | _, .str x => PyData.strOk x
  | _, .non => true
  | _, .bl _ => true
  | _, .int _ => true
def flats : Nat → List PV → Bool
  | _, [] => true
  | n, x :: r => flat n x && flats n r
end
mutual
def eqv : PV → PV → Bool
  | .non, w => match w with
    | .non => true
    | _ => false
  | .bl a, w => match w with
    | .bl b => a == b
    | .int j => (if a then 1 else 0) == j
    | _ => false
  | .int i, w => match w with
    | .int j => decide (i = j)
    | .bl b => i == (if b then 1 else 0)
    | _ => false
  | .str x, w => match w with
    | .str y => decide (x = y)
    | _ => false
  | .tup xs, w => match w with
    | .tup ys => eqvs xs ys
    | _ => false
  | .lst xs, w => match w with
    | .lst ys => eqvs xs ys
    | _ => false
  | .ref _, _ => false
  | .scr _, _ => false
def eqvs : List PV → List PV → Bool
  | [], ys => match ys with
    | [] => true
    | _ => false
  | x :: xs, ys => match ys with
    | [] => false
    | y :: ys => eqv x y && eqvs xs ys
end
def isNon : PV → Bool
  | .non => true
  | _ => false
def isSc : PV → Bool
  | .non => true
  | .bl _ => true
  | .int _ => true
  | .str _ => true
  | _ => false
def scP : PV → PV → Bool
  | .non, .non => true | .non, .int _ => true | .int _, .non => true | .non, .bl _ => true | .bl _, .non => true | .non, .str _ => true | .str _, .non => true
  | .int _, .int _ => true | .bl _, .bl _ => true | .str _, .str _ => true
  | .int _, .str _ => true | .str _, .int _ => true | .bl _, .str _ => true | .str _, .bl _ => true
  | _, _ => false
def eqOk (st : Store) (v w : PV) : Prop := scP v w = true ∨ (flat 60 (res st v) = true ∧ flat 60 (res st w) = true)
def cmpV (o : CmpOp) (v w : PV) (st : Store) (Q : PQ) : Prop :=
  match o with
  | .Eq => eqOk st v w ∧ Q (.bl (eqv (res st v) (res st w))) st
  | .NotEq => eqOk st v w ∧ Q (.bl (!eqv (res st v) (res st w))) st
  | .Lt => match v, w with
    | .int i, .int j => Q (.bl (decide (i < j))) st
    | _, _ => False
  | .LtE => match v, w with
    | .int i, .int j => Q (.bl (decide (i ≤ j))) st
    | _, _ => False
  | .Gt => match v, w with
    | .int i, .int j => Q (.bl (decide (j < i))) st
    | _, _ => False
  | .GtE => match v, w with
    | .int i, .int j => Q (.bl (decide (j ≤ i))) st
    | _, _ => False
  | .Is => match w with
    | .non => Q (.bl (isNon v)) st
    | _ => False
  | .IsNot => match w with
    | .non => Q (.bl (!isNon v)) st
    | _ => False
  | .In => oP (seqOf st w) fun xs => isSc v = true ∧ xs.all isSc = true ∧ Q (.bl (xs.any fun y => eqv y v)) st
  | .NotIn => oP (seqOf st w) fun xs => isSc v = true ∧ xs.all isSc = true ∧ Q (.bl (!xs.any fun y => eqv y v)) st
def itemV (i : Int) (v : PV) (st : Store) (Q : PQ) : Prop :=
  match v with
  | .str z => z.length ≤ sizeLine ∧ oP (atI z.cps.toList i) fun c => Q (.str ⟨#[c]⟩) st
  | .tup xs => oP (atI xs i) fun y => Q y st
  | .lst xs => oP (atI xs i) fun y => Q y st
  | .ref a => oP (lstOf st (.ref a)) fun xs => oP (atI xs i) fun y => Q y st
  | _ => False
def idxV (v w : PV) (st : Store) (Q : PQ) : Prop := onInt w fun i => itemV i v st Q
def cutP {α : Type} (xs : List α) (lo hi : Option Int) : List α := (xs.drop (HT.sIx xs.length 0 lo)).take (HT.sIx xs.length xs.length hi - HT.sIx xs.length 0 lo)
def sliceV (m : Bool) (v : PV) (lo hi : Option Int) (st : Store) (Q : PQ) : Prop :=
  match v with
  | .tup xs => Q (.tup (cutP xs lo hi)) st
  | .lst xs => newList m (cutP xs lo hi) st Q
  | .ref a => ∃ xs, st a = some (.lst xs) ∧ newList m (cutP xs lo hi) st Q
  | _ => False
def blsOf : List PV → Option (List Bool)
  | [] => some []
  | .bl b :: r => (blsOf r).map (b :: ·)
  | _ => none
def intsOf : List PV → Option (List Int)
  | [] => some []
  | .int b :: r => (intsOf r).map (b :: ·)
  | _ => none
def maxL : List Int → Int
  | [] => 0
  | x :: r => r.foldl (fun m y => if y > m then y else m) x
def minL : List Int → Int
  | [] => 0
  | x :: r => r.foldl (fun m y => if y < m then y else m) x
/-- what may be printed: numbers below 2 ^ 1900, not too much of it -/
def ShowOk (v : PV) : Prop := (toD v).showable = true ∧ (toD v).shown.length ≤ sizeLine ∧ flat 60 v = true
def bltV (f : BF) (m : Bool) (vs : List PV) (st : Store) (Q : PQ) : Prop :=
  match f, vs with
  | .len, [.str z] => z.length ≤ sizeLine ∧ Q (.int z.length) st
  | .len, [.tup xs] => Q (.int xs.length) st
  | .len, [.lst xs] => Q (.int xs.length) st
  | .len, [.ref a] => oP (lstOf st (.ref a)) fun xs => Q (.int xs.length) st
  | .int, [.int i] => Q (.int i) st
  | .int, [.bl b] => Q (.int (if b then 1 else 0)) st
  | .abs, [.int i] => Q (.int (if i < 0 then -i else i)) st
  | .tuple, [v] => oP (seqOf st v) fun xs => Q (.tup xs) st
  | .list, [.scr ns] => newList m (ns.map PV.int) st Q
  | .list, [.tup xs] => newList m xs st Q
  | .list, [.lst xs] => newList m xs st Q
  | .list, [.ref a] => oP (lstOf st (.ref a)) fun xs => newList m xs st Q
  | .all, [v] => oP (lstOf st v) fun xs => oP (blsOf xs) fun bs => Q (.bl (bs.all id)) st
  | .any, [v] => oP (lstOf st v) fun xs => oP (blsOf xs) fun bs => Q (.bl (bs.any id)) st
  | .sum, [v] => oP (lstOf st v) fun xs => oP (intsOf xs) fun ns => Q (.int ns.sum) st
  | .max, [v] => oP (lstOf st v) fun xs => oP (intsOf xs) fun ns => ns ≠ [] ∧ Q (.int (maxL ns)) st
  | .min, [v] => oP (lstOf st v) fun xs => oP (intsOf xs) fun ns => ns ≠ [] ∧ Q (.int (minL ns)) st
  | .max2, [.int i, .int j] => Q (.int (if j > i then j else i)) st
  | .min2, [.int i, .int j] => Q (.int (if j < i then j else i)) st
  | .repr, [v] => ShowOk (res st v) ∧ Q (.str (toD (res st v)).shown) st
  | _, _ => False
def isiV (ty : Str) : PV → Option Bool
  | .non => some false
  | .bl _ => some (ty == ("int" : Str) || ty == ("bool" : Str))
  | .int _ => some (ty == ("int" : Str))
  | .str _ => some (ty == ("str" : Str))
  | .tup _ => some (ty == ("tuple" : Str))
  | .lst _ => some (ty == ("list" : Str))
  | _ => none
def tyOk (ty : Str) : Bool := ty == ("int" : Str) || ty == ("bool" : Str) || ty == ("str" : Str) || ty == ("tuple" : Str) || ty == ("list" : Str)
def methV (f : MF) (o : PV) (vs : List PV) (st : Store) (Q : PQ) : Prop :=
  match f, o, vs with
  | .append, .ref a, [v] => ∃ xs, st a = some (.lst xs) ∧ xs.length < sizeLine ∧ Q .non (up st a (some (.lst (xs ++ [v]))))
  | .extend, .ref a, [v] => ∃ xs ys, st a = some (.lst xs) ∧ lstOf st v = some ys ∧ xs.length + ys.length ≤ sizeLine ∧ Q .non (up st a (some (.lst (xs ++ ys))))
  | .pop, .ref a, [] => ∃ xs y, st a = some (.lst xs) ∧ xs[xs.length - 1]? = some y ∧ Q y (up st a (some (.lst xs.dropLast)))
  | .index, v, [w] => ∃ xs j z, lstOf st v = some xs ∧ isSc w = true ∧ xs.all isSc = true ∧ xs[j]? = some z ∧ eqv z w = true ∧ (∀ (k : Nat) z', k < j → xs[k]? = some z' → eqv z' w = false) ∧ Q (.int j) st
  | _, _, _ => False
/-- a def's call; the wish may be stronger than needed -/
def callS (sp : PSpec) (vs : List PV) (st : Store) (X : EQ) (Q : PQ) : Prop :=
  ∃ (Q0 : PQ) (X0 : EQ), sp vs st Q0 X0 ∧ (∀ v s, Q0 v s → Q v s) ∧ ∀ e s, X0 e s → X e s
def truV (v : PV) (st : Store) (Q : Bool → Store → Prop) : Prop :=
  match v with
  | .bl b => Q b st
  | .non => Q false st
  | .int i => Q (i != 0) st
  | .tup xs => Q (!xs.isEmpty) st
  | .lst xs => Q (!xs.isEmpty) st
  | .ref a => ∃ xs, st a = some (.lst xs) ∧ Q (!xs.isEmpty) st
  | _ => False
def rngL (lo : Int) (n : Nat) : List PV := (List.range n).map fun (k : Nat) => .int (lo + (k : Int))
def enumL : Nat → List PV → List PV
  | _, [] => []
  | k, x :: r => .tup [.int (k : Int), x] :: enumL (k + 1) r
def zipL : List PV → List PV → List PV
  | x :: r, y :: s => .tup [x, y] :: zipL r s
  | _, _ => []
def R62 (j : Int) : Prop := -(2 ^ 62) ≤ j ∧ j < 2 ^ 62
def itV (f : List PV → List PV) (v : PV) (st : Store) (K : List PV → (Store → Prop) → Store → Prop) : Prop :=
  match v with
  | .tup xs => K (f xs) (fun _ => True) st
  | .lst xs => K (f xs) (fun _ => True) st
  | .ref a => oP (lstOf st (.ref a)) fun xs => K (f xs) (fun s => s a = some (.lst xs)) st
  | _ => False
def itVL (f : List PV → List PV) (v : PV) (st : Store) (K : List PV → (Store → Prop) → Store → Prop) : Prop :=
  match v with
  | .lst xs => K (f xs) (fun _ => True) st
  | .ref a => oP (lstOf st (.ref a)) fun xs => K (f xs) (fun s => s a = some (.lst xs)) st
  | _ => False
def zipV (v w : PV) (st : Store) (K : List PV → (Store → Prop) → Store → Prop) : Prop :=
  match v, w with
  | .tup xs, .tup ys => K (zipL xs ys) (fun _ => True) st
  | .lst xs, .lst ys => K (zipL xs ys) (fun _ => True) st
  | _, _ => False
def frzV (v : PV) (st : Store) (Q : PQ) : Prop :=
  match v with
  | .ref a => oP (lstOf st (.ref a)) fun xs => Q (.lst xs) (up st a none)
  | v => Q v st
/-- more is followed -/
def Sub (s t : Store) : Prop := ∀ a c, s a = some c → t a = some c
/-- a comprehension over items: its tests and elements leave the store as it is, whatever else is followed -/
def lcL (tg : TG) (t : Sl → Store → (Bool → Store → Prop) → Prop) (e : Sl → Store → PQ → Prop) (τ : Sl) (st : Store) : List PV → List PV → (List PV → Prop) → Prop
  | [], acc, K => K acc
  | x :: r, acc, K => oP (tg.asg x τ) fun τ1 => ∀ st', Sub st st' → t τ1 st' fun b st1 => st1 = st' ∧ if b = true then e τ1 st' fun y st2 => st2 = st' ∧ lcL tg t e τ st r (acc ++ [y]) K else lcL tg t e τ st r acc K
def I.isR : I → Bool
  | .val _ => false
  | _ => true
def isLst (st : Store) (v : PV) : Prop := oP (lstOf st v) fun _ => True

mutual
def wpE : E → EQ → Sl → Store → PQ → Prop
  | .var i, _, τ, st, Q => oP (getS τ i) fun v => Q v st
  | .fvar i, _, τ, st, Q => oP (getS τ i) fun v => frzV v st Q
  | .int n, _, _, st, Q => Q (.int n) st
  | .bl b, _, _, st, Q => Q (.bl b) st
  | .non, _, _, st, Q => Q .non st
  | .str x, _, _, st, Q => Q (.str x) st
  | .glob _ v, _, _, st, Q => Q v st
  | .bin o m a b, X, τ, st, Q => wpE a X τ st fun v st1 => wpE b X τ st1 fun w st2 => binV o m v w st2 Q
  | .neg a, X, τ, st, Q => wpE a X τ st fun v st1 => negV v st1 Q
  | .not a, X, τ, st, Q => wpE a X τ st fun v st1 => onBl v fun b => Q (.bl (!b)) st1
  | .cmp o a b, X, τ, st, Q => wpE a X τ st fun v st1 => wpE b X τ st1 fun w st2 => cmpV o v w st2 Q
  | .chain o o' a b c, X, τ, st, Q => wpE a X τ st fun v st1 => wpE b X τ st1 fun w st2 => cmpV o v w st2 fun z st3 => onBl z fun k =>
      if k = true then wpE c X τ st3 fun u st4 => cmpV o' w u st4 Q else Q (.bl false) st3
  | .bools o es, X, τ, st, Q => wpBs o es X τ st Q
  | .ite t a b, X, τ, st, Q => wpT t X τ st fun k st1 => if k = true then wpE a X τ st1 Q else wpE b X τ st1 Q
  | .tup es, X, τ, st, Q => wpEs es X τ st fun vs st1 => vs.length ≤ sizeLine ∧ Q (.tup vs) st1
  | .lst m es, X, τ, st, Q => wpEs es X τ st fun vs st1 => vs.length ≤ sizeLine ∧ newList m vs st1 Q
  | .idx a i, X, τ, st, Q => wpE a X τ st fun v st1 => wpE i X τ st1 fun w st2 => idxV v w st2 Q
  | .slice m a lo hi, X, τ, st, Q => wpE a X τ st fun v st1 => wpO lo X τ st1 fun l st2 => wpO hi X τ st2 fun u st3 => sliceV m v l u st3 Q
  | .call _ sp es, X, τ, st, Q => wpEs es X τ st fun vs st1 => callS sp vs st1 X Q
  | .blt f m es, X, τ, st, Q => wpEs es X τ st fun vs st1 => bltV f m vs st1 Q
  | .isi e ty, X, τ, st, Q => wpE e X τ st fun v st1 => oP (isiV ty v) fun b => Q (.bl b) st1
  | .meth f o es, X, τ, st, Q => wpE o X τ st fun v st1 => isLst st1 v ∧ wpEs es X τ st1 fun vs st2 => methV f v vs st2 Q
  | .comp m vs tg it ts elt, X, τ, st, Q => wpI it X τ st fun xs ok st1 => (it.isR = true → xs.length ≤ sizeLine) ∧ ok st1 ∧
      lcL tg (wpTs .And ts fun _ _ => False) (wpE elt fun _ _ => False) (wipeS τ vs) st1 xs [] fun acc => newList m acc st1 Q
def wpEs : Es → EQ → Sl → Store → (List PV → Store → Prop) → Prop
  | .nil, _, _, st, Q => Q [] st
  | .cons e es, X, τ, st, Q => wpE e X τ st fun v st1 => wpEs es X τ st1 fun vs st2 => Q (v :: vs) st2
def wpBs : BoolOp → Es → EQ → Sl → Store → PQ → Prop
  | _, .nil, _, _, _, _ => False
  | o, .cons e es, X, τ, st, Q => match es with
    | .nil => wpE e X τ st Q
    | .cons _ _ => wpE e X τ st fun v st1 => onBl v fun b => match o with
      | .And => if b = true then wpBs o es X τ st1 Q else Q (.bl false) st1
      | .Or => if b = true then Q (.bl true) st1 else wpBs o es X τ st1 Q
def wpO : OE → EQ → Sl → Store → (Option Int → Store → Prop) → Prop
  | .no, _, _, st, Q => Q none st
  | .yes e, X, τ, st, Q => wpE e X τ st fun v st1 => onInt v fun i => Q (some i) st1
def wpT : T → EQ → Sl → Store → (Bool → Store → Prop) → Prop
  | .val e, X, τ, st, Q => wpE e X τ st fun v st1 => truV v st1 Q
  | .cmp o a b, X, τ, st, Q => wpE a X τ st fun v st1 => wpE b X τ st1 fun w st2 => cmpV o v w st2 fun z st3 => onBl z fun k => Q k st3
  | .chain o o' a b c, X, τ, st, Q => wpE a X τ st fun v st1 => wpE b X τ st1 fun w st2 => cmpV o v w st2 fun z st3 => onBl z fun k =>
      if k = true then wpE c X τ st3 fun u st4 => cmpV o' w u st4 fun y st5 => onBl y fun k' => Q k' st5 else Q false st3
  | .not t, X, τ, st, Q => wpT t X τ st fun k st1 => Q (!k) st1
  | .bools o ts, X, τ, st, Q => wpTs o ts X τ st Q
  | .ite t a b, X, τ, st, Q => wpT t X τ st fun k st1 => if k = true then wpT a X τ st1 Q else wpT b X τ st1 Q
def wpTs : BoolOp → Ts → EQ → Sl → Store → (Bool → Store → Prop) → Prop
  | o, .nil, _, _, st, Q => match o with
    | .And => Q true st
    | .Or => Q false st
  | o, .cons t ts, X, τ, st, Q => wpT t X τ st fun k st1 => match o with
    | .And => if k = true then wpTs o ts X τ st1 Q else Q false st1
    | .Or => if k = true then Q true st1 else wpTs o ts X τ st1 Q
def wpI : I → EQ → Sl → Store → (List PV → (Store → Prop) → Store → Prop) → Prop
  | .val e, X, τ, st, K => wpE e X τ st fun v st1 => itV id v st1 K
  | .range1 a, X, τ, st, K => wpE a X τ st fun v st1 => onInt v fun j => R62 j ∧ K (rngL 0 j.toNat) (fun _ => True) st1
  | .range2 a b, X, τ, st, K => wpE a X τ st fun v st1 => wpE b X τ st1 fun w st2 => onInt v fun i => onInt w fun j => R62 i ∧ R62 j ∧ K (rngL i (j - i).toNat) (fun _ => True) st2
  | .enum e, X, τ, st, K => wpE e X τ st fun v st1 => itV (enumL 0) v st1 K
  | .zip a b, X, τ, st, K => wpE a X τ st fun v st1 => wpE b X τ st1 fun w st2 => zipV v w st2 K
end

/-! ### statements -/
structure PEnds where
  nx : Sl → Store → Prop
  rt : PQ
  bk : Sl → Store → Prop
  ct : Sl → Store → Prop
  ex : Exn → Sl → Store → Prop
mutual
inductive S where
  | asg (tg : TG) (e : E)
  | asgLc (i : Nat) (e : E)
  | setIx (o i e : E)
  | aug (i : Nat) (o : Operator) (e : E)
  | expr (e : E)
  | ret (e : E)
  | retN
  | ite (t : T) (a b : Ss)
  | loop (tg : TG) (it : I) (b : Ss)
  | while (t : T) (b : Ss)
  | pass
  | brk
  | cont
  | never
inductive Ss where
  | nil
  | cons (s : S) (ss : Ss)
end
def setIxV (o i v : PV) (st : Store) (Q : Store → Prop) : Prop :=
  match o, i with
  | .ref a, .int k => ∃ xs j, st a = some (.lst xs) ∧ ixN xs.length k = some j ∧ Q (up st a (some (.lst (xs.set j v))))
  | _, _ => False
def augV (o : Operator) (v w : PV) (st : Store) (Q : PQ) : Prop :=
  match o, v, w with
  | .Add, .int i, .int j => Q (.int (i + j)) st
  | .Sub, .int i, .int j => Q (.int (i - j)) st
  | _, _, _ => False
def forL (tg : TG) (b : PEnds → Sl → Store → Prop) (ok : Store → Prop) : List PV → PEnds → Sl → Store → Prop
  | [], D, τ, st => ok st ∧ D.nx τ st
  | x :: r, D, τ, st => ok st ∧ oP (tg.asg x τ) fun τ1 => b { D with nx := forL tg b ok r D, ct := forL tg b ok r D, bk := D.nx } τ1 st
def whileL (t : Sl → Store → (Bool → Store → Prop) → Prop) (b : PEnds → Sl → Store → Prop) (D : PEnds) (τ : Sl) (st : Store) : Prop :=
  ∃ W : Nat → Sl → Store → Prop, (∃ n, W n τ st) ∧ ∀ n τ st, W n τ st → t τ st fun k st1 => if k = true then
    b { D with nx := fun τ' st' => ∃ m, m < n ∧ W m τ' st', ct := fun τ' st' => ∃ m, m < n ∧ W m τ' st', bk := D.nx } τ st1 else D.nx τ st1
mutual
def wpS : S → PEnds → Sl → Store → Prop
  | .asg tg e, D, τ, st => wpE e (fun x s => D.ex x τ s) τ st fun v st1 => oP (tg.asg v τ) fun τ' => D.nx τ' st1
  | .asgLc i e, D, τ, st => wpE e (fun x s => D.ex x τ s) τ st fun v st1 => D.nx (setS τ i (some v)) st1
  | .setIx o i e, D, τ, st => wpE e (fun x s => D.ex x τ s) τ st fun v st1 => wpE o (fun x s => D.ex x τ s) τ st1 fun ov st2 => wpE i (fun x s => D.ex x τ s) τ st2 fun iv st3 => setIxV ov iv v st3 fun st4 => D.nx τ st4
  | .aug i o e, D, τ, st => oP (getS τ i) fun v => wpE e (fun x s => D.ex x τ s) τ st fun w st1 => augV o v w st1 fun z st2 => D.nx (setS τ i (some z)) st2
  | .expr e, D, τ, st => wpE e (fun x s => D.ex x τ s) τ st fun _ st1 => D.nx τ st1
  | .ret e, D, τ, st => wpE e (fun x s => D.ex x τ s) τ st D.rt
  | .retN, D, _, st => D.rt .non st
  | .ite t a b, D, τ, st => wpT t (fun x s => D.ex x τ s) τ st fun k st1 => if k = true then wpSs a D τ st1 else wpSs b D τ st1
  | .loop tg it b, D, τ, st => wpI it (fun x s => D.ex x τ s) τ st fun xs ok st1 => forL tg (wpSs b) ok xs D τ st1
  | .while t b, D, τ, st => whileL (fun τ st Q => wpT t (fun x s => D.ex x τ s) τ st Q) (wpSs b) D τ st
  | .pass, D, τ, st => D.nx τ st
  | .brk, D, τ, st => D.bk τ st
  | .cont, D, τ, st => D.ct τ st
  | .never, _, _, _ => False
def wpSs : Ss → PEnds → Sl → Store → Prop
  | .nil, D, τ, st => D.nx τ st
  | .cons s ss, D, τ, st => wpS s { D with nx := wpSs ss D } τ st
end
def initS (n : Nat) (vs : List PV) : Sl := vs.map some ++ List.replicate (n - vs.length) none
/-- a def's body: what it leaves behind may be forgotten -/
def wpFn (n : Nat) (b : Ss) (vs : List PV) (st : Store) (Q : PQ) (X : EQ) : Prop :=
  wpSs b ⟨fun _ s => ∃ s0, Sub s0 s ∧ Q .non s0, fun v s => ∃ s0, Sub s0 s ∧ Q v s0, fun _ _ => False, fun _ _ => False, fun e _ s => ∃ s0, Sub s0 s ∧ X e s0⟩ (initS n vs) st
end TK

set_option maxRecDepth 100000
set_option maxHeartbeats 1000000
namespace TK
open PySem PySem.Spec PyProof.Rows L2
/-! ### a weaker wish -/
theorem oP_mono {α : Type} {o : Option α} {k k' : α → Prop} (hk : ∀ a, k a → k' a) (h : oP o k) : oP o k' := by
  cases o with
  | none => exact h
  | some a => exact hk a h
theorem onBl_mono {v : PV} {k k' : Bool → Prop} (hk : ∀ a, k a → k' a) (h : onBl v k) : onBl v k' := by
  cases v with
  | bl b => exact hk b h
  | _ => exact h
theorem onInt_mono {v : PV} {k k' : Int → Prop} (hk : ∀ a, k a → k' a) (h : onInt v k) : onInt v k' := by
  cases v with
  | int b => exact hk b h
  | _ => exact h
section
variable {Q Q' : PQ} {st : Store}
theorem newList_mono {m : Bool} {xs : List PV} (hq : ∀ v s, Q v s → Q' v s) (h : newList m xs st Q) : newList m xs st Q' := by
  cases m with
  | true => exact fun p hp => hq _ _ (h p hp)
  | false => exact hq _ _ h
theorem binV_mono {o : Operator} {m : Bool} {v w : PV} (hq : ∀ v s, Q v s → Q' v s) (h : binV o m v w st Q) : binV o m v w st Q' := by
  unfold binV at h
  split at h <;> first
    | exact h.elim
    | exact hq _ _ h
    | exact ⟨h.1, hq _ _ h.2⟩
    | exact ⟨h.1, newList_mono hq h.2⟩
    | (obtain ⟨a, b, c, d⟩ := h; exact ⟨a, b, c, newList_mono hq d⟩)
    | (obtain ⟨a, b, c⟩ := h; exact ⟨a, b, newList_mono hq c⟩)
    | (obtain ⟨a, b, c, d, e, f⟩ := h; exact ⟨a, b, c, d, e, newList_mono hq f⟩)
    | (obtain ⟨a, b, c, d, e⟩ := h; exact ⟨a, b, c, d, newList_mono hq e⟩)
theorem negV_mono {v : PV} (hq : ∀ v s, Q v s → Q' v s) (h : negV v st Q) : negV v st Q' := by
  unfold negV at h
  split at h
  · exact hq _ _ h
  · exact h.elim
theorem cmpV_mono {o : CmpOp} {v w : PV} (hq : ∀ v s, Q v s → Q' v s) (h : cmpV o v w st Q) : cmpV o v w st Q' := by
  unfold cmpV at h ⊢
  cases o <;> dsimp only at h ⊢
  all_goals first
    | exact ⟨h.1, hq _ _ h.2⟩
    | exact oP_mono (fun xs h => ⟨h.1, h.2.1, hq _ _ h.2.2⟩) h
    | (split at h <;> first | exact h.elim | exact hq _ _ h)
theorem idxV_mono {v w : PV} (hq : ∀ v s, Q v s → Q' v s) (h : idxV v w st Q) : idxV v w st Q' := by
  unfold idxV at h ⊢
  refine onInt_mono (fun i h => ?_) h
  unfold itemV at h ⊢
  split at h
  · exact ⟨h.1, oP_mono (fun _ h => hq _ _ h) h.2⟩
  · exact oP_mono (fun _ h => hq _ _ h) h
  · exact oP_mono (fun _ h => hq _ _ h) h
  · exact oP_mono (fun _ h => oP_mono (fun _ h => hq _ _ h) h) h
  · exact h.elim
theorem sliceV_mono {m : Bool} {v : PV} {lo hi : Option Int} (hq : ∀ v s, Q v s → Q' v s) (h : sliceV m v lo hi st Q) : sliceV m v lo hi st Q' := by
  unfold sliceV at h
  split at h
  · exact hq _ _ h
  · exact newList_mono hq h
  · obtain ⟨xs, e, h⟩ := h
    exact ⟨xs, e, newList_mono hq h⟩
  · exact h.elim
theorem bltV_mono {f : BF} {m : Bool} {vs : List PV} (hq : ∀ v s, Q v s → Q' v s) (h : bltV f m vs st Q) : bltV f m vs st Q' := by
  unfold bltV at h
  split at h <;> first
    | exact h.elim
    | exact hq _ _ h
    | exact newList_mono hq h
    | exact ⟨h.1, hq _ _ h.2⟩
    | exact oP_mono (fun _ h => hq _ _ h) h
    | exact oP_mono (fun _ h => newList_mono hq h) h
    | exact oP_mono (fun _ h => oP_mono (fun _ h => hq _ _ h) h) h
    | exact oP_mono (fun _ h => oP_mono (fun _ h => ⟨h.1, hq _ _ h.2⟩) h) h
theorem methV_mono {f : MF} {o : PV} {vs : List PV} (hq : ∀ v s, Q v s → Q' v s) (h : methV f o vs st Q) : methV f o vs st Q' := by
  unfold methV at h
  split at h
  · obtain ⟨a, b, c, d⟩ := h; exact ⟨a, b, c, hq _ _ d⟩
  · obtain ⟨a, b, c, d, e, f⟩ := h; exact ⟨a, b, c, d, e, hq _ _ f⟩
  · obtain ⟨a, b, c, d, e⟩ := h; exact ⟨a, b, c, d, hq _ _ e⟩
  · obtain ⟨a, b, z, c, d, e, f, g, i, j⟩ := h; exact ⟨a, b, z, c, d, e, f, g, i, hq _ _ j⟩
  · exact h.elim
theorem augV_mono {o : Operator} {v w : PV} (hq : ∀ v s, Q v s → Q' v s) (h : augV o v w st Q) : augV o v w st Q' := by
  unfold augV at h
  split at h <;> first | exact h.elim | exact hq _ _ h
theorem truV_mono {v : PV} {P P' : Bool → Store → Prop} (hq : ∀ v s, P v s → P' v s) (h : truV v st P) : truV v st P' := by
  unfold truV at h
  split at h <;> first
    | exact hq _ _ h
    | (obtain ⟨xs, e, h⟩ := h; exact ⟨xs, e, hq _ _ h⟩)
    | exact h.elim
theorem callS_mono {sp : PSpec} {vs : List PV} {X X' : EQ} (hx : ∀ e s, X e s → X' e s) (hq : ∀ v s, Q v s → Q' v s) (h : callS sp vs st X Q) : callS sp vs st X' Q' := by
  obtain ⟨Q0, X0, h, a, b⟩ := h
  exact ⟨Q0, X0, h, fun v s q => hq _ _ (a v s q), fun e s q => hx _ _ (b e s q)⟩
theorem setIxV_mono {o i v : PV} {P P' : Store → Prop} (hq : ∀ s, P s → P' s) (h : setIxV o i v st P) : setIxV o i v st P' := by
  unfold setIxV at h
  split at h
  · obtain ⟨xs, j, a, b, c⟩ := h
    exact ⟨xs, j, a, b, hq _ c⟩
  · exact h.elim
theorem frzV_mono {v : PV} (hq : ∀ v s, Q v s → Q' v s) (h : frzV v st Q) : frzV v st Q' := by
  unfold frzV at h ⊢
  split at h
  · exact oP_mono (fun _ h => hq _ _ h) h
  · exact hq _ _ h
theorem itV_mono {f : List PV → List PV} {v : PV} {K K' : List PV → (Store → Prop) → Store → Prop} (hq : ∀ v o s, K v o s → K' v o s) (h : itV f v st K) : itV f v st K' := by
  unfold itV at h ⊢
  split at h <;> first
    | exact hq _ _ _ h
    | exact oP_mono (fun _ h => hq _ _ _ h) h
    | exact h.elim
theorem itVL_mono {f : List PV → List PV} {v : PV} {K K' : List PV → (Store → Prop) → Store → Prop} (hq : ∀ v o s, K v o s → K' v o s) (h : itVL f v st K) : itVL f v st K' := by
  unfold itVL at h ⊢
  split at h <;> first
    | exact hq _ _ _ h
    | exact oP_mono (fun _ h => hq _ _ _ h) h
    | exact h.elim
theorem zipV_mono {v w : PV} {K K' : List PV → (Store → Prop) → Store → Prop} (hq : ∀ v o s, K v o s → K' v o s) (h : zipV v w st K) : zipV v w st K' := by
  unfold zipV at h ⊢
  split at h <;> first
    | exact hq _ _ _ h
    | exact h.elim
end
theorem ite_mono {c : Bool} {P P' R R' : Prop} (h1 : P → P') (h2 : R → R') (h : if c = true then P else R) : if c = true then P' else R' := by
  cases c with
  | true => exact h1 h
  | false => exact h2 h
theorem lcL_mono {tg : TG} {t : Sl → Store → (Bool → Store → Prop) → Prop} {e : Sl → Store → PQ → Prop} {τ : Sl} {st : Store}
    (ht : ∀ τ st (P P' : Bool → Store → Prop), (∀ v s, P v s → P' v s) → t τ st P → t τ st P') (he : ∀ τ st (P P' : PQ), (∀ v s, P v s → P' v s) → e τ st P → e τ st P') :
    ∀ {xs acc : List PV} {K K' : List PV → Prop}, (∀ v, K v → K' v) → lcL tg t e τ st xs acc K → lcL tg t e τ st xs acc K'
  | [], _, _, _, hk, h => hk _ h
  | x :: r, acc, K, K', hk, h => by
    refine oP_mono (fun τ1 h => ?_) h
    intro st' hs
    refine ht _ _ _ _ (fun b s hb => ⟨hb.1, ?_⟩) (h st' hs)
    exact ite_mono (fun hb => he _ _ _ _ (fun y s2 hy => ⟨hy.1, lcL_mono ht he hk hy.2⟩) hb) (fun hb => lcL_mono ht he hk hb) hb.2
mutual
theorem wpE_mono : ∀ (e : E) {X X' : EQ} {τ : Sl} {st : Store} {Q Q' : PQ}, (∀ e s, X e s → X' e s) → (∀ v s, Q v s → Q' v s) → wpE e X τ st Q → wpE e X' τ st Q'
  | .var i, X, X', τ, st, Q, Q', hx, hq, h => oP_mono (fun _ h => hq _ _ h) h
  | .fvar i, X, X', τ, st, Q, Q', hx, hq, h => oP_mono (fun _ h => frzV_mono hq h) h
  | .int n, X, X', τ, st, Q, Q', hx, hq, h => hq _ _ h
  | .bl n, X, X', τ, st, Q, Q', hx, hq, h => hq _ _ h
  | .non, X, X', τ, st, Q, Q', hx, hq, h => hq _ _ h
  | .str n, X, X', τ, st, Q, Q', hx, hq, h => hq _ _ h
  | .glob x v, X, X', τ, st, Q, Q', hx, hq, h => hq _ _ h
  | .bin o m a b, X, X', τ, st, Q, Q', hx, hq, h => by
    unfold wpE at h ⊢
    exact wpE_mono a hx (fun v s h => wpE_mono b hx (fun w s h => binV_mono hq h) h) h
  | .neg a, X, X', τ, st, Q, Q', hx, hq, h => by
    unfold wpE at h ⊢
    exact wpE_mono a hx (fun v s h => negV_mono hq h) h
  | .not a, X, X', τ, st, Q, Q', hx, hq, h => by
    unfold wpE at h ⊢
    exact wpE_mono a hx (fun v s h => onBl_mono (fun _ h => hq _ _ h) h) h
  | .cmp o a b, X, X', τ, st, Q, Q', hx, hq, h => by
    unfold wpE at h ⊢
    exact wpE_mono a hx (fun v s h => wpE_mono b hx (fun w s h => cmpV_mono hq h) h) h
  | .chain o o' a b c, X, X', τ, st, Q, Q', hx, hq, h => by
    unfold wpE at h ⊢
    refine wpE_mono a hx (fun v s h => wpE_mono b hx (fun w s h => cmpV_mono (fun z s h => onBl_mono (fun k h => ?_) h) h) h) h
    exact ite_mono (fun h => wpE_mono c hx (fun u s h => cmpV_mono hq h) h) (fun h => hq _ _ h) h
  | .bools o es, X, X', τ, st, Q, Q', hx, hq, h => by
    unfold wpE at h ⊢
    exact wpBs_mono es hx hq h
  | .ite t a b, X, X', τ, st, Q, Q', hx, hq, h => by
    unfold wpE at h ⊢
    exact wpT_mono t hx (fun k s h => ite_mono (fun h => wpE_mono a hx hq h) (fun h => wpE_mono b hx hq h) h) h
  | .tup es, X, X', τ, st, Q, Q', hx, hq, h => by
    unfold wpE at h ⊢
    exact wpEs_mono es hx (fun vs s h => ⟨h.1, hq _ _ h.2⟩) h
  | .lst m es, X, X', τ, st, Q, Q', hx, hq, h => by
    unfold wpE at h ⊢
    exact wpEs_mono es hx (fun vs s h => ⟨h.1, newList_mono hq h.2⟩) h
  | .idx a i, X, X', τ, st, Q, Q', hx, hq, h => by
    unfold wpE at h ⊢
    exact wpE_mono a hx (fun v s h => wpE_mono i hx (fun w s h => idxV_mono hq h) h) h
  | .slice m a lo hi, X, X', τ, st, Q, Q', hx, hq, h => by
    unfold wpE at h ⊢
    exact wpE_mono a hx (fun v s h => wpO_mono lo hx (fun l s h => wpO_mono hi hx (fun u s h => sliceV_mono hq h) h) h) h
  | .call f sp es, X, X', τ, st, Q, Q', hx, hq, h => by
    unfold wpE at h ⊢
    exact wpEs_mono es hx (fun vs s h => callS_mono hx hq h) h
  | .blt f m es, X, X', τ, st, Q, Q', hx, hq, h => by
    unfold wpE at h ⊢
    exact wpEs_mono es hx (fun vs s h => bltV_mono hq h) h
  | .isi e ty, X, X', τ, st, Q, Q', hx, hq, h => by
    unfold wpE at h ⊢
    exact wpE_mono e hx (fun v s h => oP_mono (fun _ h => hq _ _ h) h) h
  | .meth f o es, X, X', τ, st, Q, Q', hx, hq, h => by
    unfold wpE at h ⊢
    exact wpE_mono o hx (fun v s h => ⟨h.1, wpEs_mono es hx (fun vs s h => methV_mono hq h) h.2⟩) h
  | .comp m vs tg it ts elt, X, X', τ, st, Q, Q', hx, hq, h => by
    unfold wpE at h ⊢
    refine wpI_mono it hx (fun xs ok s h => ⟨h.1, h.2.1, ?_⟩) h
    refine lcL_mono ?_ ?_ (fun acc h => newList_mono hq h) h.2.2
    · exact fun τ st P P' hp h => wpTs_mono ts (fun _ _ z => z) hp h
    · exact fun τ st P P' hp h => wpE_mono elt (fun _ _ z => z) hp h
theorem wpEs_mono : ∀ (e : Es) {X X' : EQ} {τ : Sl} {st : Store} {Q Q' : List PV → Store → Prop}, (∀ e s, X e s → X' e s) → (∀ v s, Q v s → Q' v s) → wpEs e X τ st Q → wpEs e X' τ st Q'
  | .nil, X, X', τ, st, Q, Q', hx, hq, h => hq _ _ h
  | .cons e es, X, X', τ, st, Q, Q', hx, hq, h => by
    unfold wpEs at h ⊢
    exact wpE_mono e hx (fun v s h => wpEs_mono es hx (fun vs s h => hq _ _ h) h) h
theorem wpBs_mono : ∀ (e : Es) {o : BoolOp} {X X' : EQ} {τ : Sl} {st : Store} {Q Q' : PQ}, (∀ e s, X e s → X' e s) → (∀ v s, Q v s → Q' v s) → wpBs o e X τ st Q → wpBs o e X' τ st Q'
  | .nil, o, X, X', τ, st, Q, Q', hx, hq, h => h
  | .cons e .nil, o, X, X', τ, st, Q, Q', hx, hq, h => by
    unfold wpBs at h ⊢
    exact wpE_mono e hx hq h
  | .cons e (.cons e' es), o, X, X', τ, st, Q, Q', hx, hq, h => by
    unfold wpBs at h ⊢
    dsimp only at h ⊢
    refine wpE_mono e hx (fun v s h => onBl_mono (fun b h => ?_) h) h
    cases o with
    | And => exact ite_mono (fun h => wpBs_mono (.cons e' es) hx hq h) (fun h => hq _ _ h) h
    | Or => exact ite_mono (fun h => hq _ _ h) (fun h => wpBs_mono (.cons e' es) hx hq h) h
theorem wpO_mono : ∀ (e : OE) {X X' : EQ} {τ : Sl} {st : Store} {Q Q' : Option Int → Store → Prop}, (∀ e s, X e s → X' e s) → (∀ v s, Q v s → Q' v s) → wpO e X τ st Q → wpO e X' τ st Q'
  | .no, X, X', τ, st, Q, Q', hx, hq, h => hq _ _ h
  | .yes e, X, X', τ, st, Q, Q', hx, hq, h => by
    unfold wpO at h ⊢
    exact wpE_mono e hx (fun v s h => onInt_mono (fun _ h => hq _ _ h) h) h
theorem wpT_mono : ∀ (e : T) {X X' : EQ} {τ : Sl} {st : Store} {Q Q' : Bool → Store → Prop}, (∀ e s, X e s → X' e s) → (∀ v s, Q v s → Q' v s) → wpT e X τ st Q → wpT e X' τ st Q'
  | .val e, X, X', τ, st, Q, Q', hx, hq, h => by
    unfold wpT at h ⊢
    exact wpE_mono e hx (fun v s h => truV_mono hq h) h
  | .cmp o a b, X, X', τ, st, Q, Q', hx, hq, h => by
    unfold wpT at h ⊢
    exact wpE_mono a hx (fun v s h => wpE_mono b hx (fun w s h => cmpV_mono (fun z s h => onBl_mono (fun _ h => hq _ _ h) h) h) h) h
  | .chain o o' a b c, X, X', τ, st, Q, Q', hx, hq, h => by
    unfold wpT at h ⊢
    refine wpE_mono a hx (fun v s h => wpE_mono b hx (fun w s h => cmpV_mono (fun z s h => onBl_mono (fun k h => ?_) h) h) h) h
    exact ite_mono (fun h => wpE_mono c hx (fun u s h => cmpV_mono (fun z s h => onBl_mono (fun _ h => hq _ _ h) h) h) h) (fun h => hq _ _ h) h
  | .not t, X, X', τ, st, Q, Q', hx, hq, h => by
    unfold wpT at h ⊢
    exact wpT_mono t hx (fun k s h => hq _ _ h) h
  | .bools o ts, X, X', τ, st, Q, Q', hx, hq, h => by
    unfold wpT at h ⊢
    exact wpTs_mono ts hx hq h
  | .ite t a b, X, X', τ, st, Q, Q', hx, hq, h => by
    unfold wpT at h ⊢
    exact wpT_mono t hx (fun k s h => ite_mono (fun h => wpT_mono a hx hq h) (fun h => wpT_mono b hx hq h) h) h
theorem wpTs_mono : ∀ (e : Ts) {o : BoolOp} {X X' : EQ} {τ : Sl} {st : Store} {Q Q' : Bool → Store → Prop}, (∀ e s, X e s → X' e s) → (∀ v s, Q v s → Q' v s) → wpTs o e X τ st Q → wpTs o e X' τ st Q'
  | .nil, o, X, X', τ, st, Q, Q', hx, hq, h => by
    unfold wpTs at h ⊢
    cases o <;> exact hq _ _ h
  | .cons t ts, o, X, X', τ, st, Q, Q', hx, hq, h => by
    unfold wpTs at h ⊢
    refine wpT_mono t hx (fun k s h => ?_) h
    cases o with
    | And => exact ite_mono (fun h => wpTs_mono ts hx hq h) (fun h => hq _ _ h) h
    | Or => exact ite_mono (fun h => hq _ _ h) (fun h => wpTs_mono ts hx hq h) h
theorem wpI_mono : ∀ (e : I) {X X' : EQ} {τ : Sl} {st : Store} {Q Q' : List PV → (Store → Prop) → Store → Prop}, (∀ e s, X e s → X' e s) → (∀ v o s, Q v o s → Q' v o s) → wpI e X τ st Q → wpI e X' τ st Q'
  | .val e, X, X', τ, st, Q, Q', hx, hq, h => by
    unfold wpI at h ⊢
    exact wpE_mono e hx (fun v s h => itV_mono hq h) h
  | .range1 a, X, X', τ, st, Q, Q', hx, hq, h => by
    unfold wpI at h ⊢
    exact wpE_mono a hx (fun v s h => onInt_mono (fun j h => ⟨h.1, hq _ _ _ h.2⟩) h) h
  | .range2 a b, X, X', τ, st, Q, Q', hx, hq, h => by
    unfold wpI at h ⊢
    exact wpE_mono a hx (fun v s h => wpE_mono b hx (fun w s h => onInt_mono (fun i h => onInt_mono (fun j h => ⟨h.1, h.2.1, hq _ _ _ h.2.2⟩) h) h) h) h
  | .enum e, X, X', τ, st, Q, Q', hx, hq, h => by
    unfold wpI at h ⊢
    exact wpE_mono e hx (fun v s h => itV_mono hq h) h
  | .zip a b, X, X', τ, st, Q, Q', hx, hq, h => by
    unfold wpI at h ⊢
    exact wpE_mono a hx (fun v s h => wpE_mono b hx (fun w s h => zipV_mono hq h) h) h
end
structure PEnds.Le (D D' : PEnds) : Prop where
  nx : ∀ τ s, D.nx τ s → D'.nx τ s
  rt : ∀ v s, D.rt v s → D'.rt v s
  bk : ∀ τ s, D.bk τ s → D'.bk τ s
  ct : ∀ τ s, D.ct τ s → D'.ct τ s
  ex : ∀ e τ s, D.ex e τ s → D'.ex e τ s
theorem forL_mono {tg : TG} {b : PEnds → Sl → Store → Prop} {ok : Store → Prop} (hb : ∀ (D D' : PEnds) τ st, D.Le D' → b D τ st → b D' τ st) :
    ∀ {xs : List PV} {D D' : PEnds} {τ : Sl} {st : Store}, D.Le D' → forL tg b ok xs D τ st → forL tg b ok xs D' τ st
  | [], _, _, _, _, hd, h => ⟨h.1, hd.nx _ _ h.2⟩
  | x :: r, D, D', τ, st, hd, h => by
    refine ⟨h.1, oP_mono (fun τ1 h => ?_) h.2⟩
    refine hb _ _ _ _ ?_ h
    exact ⟨fun _ _ h => forL_mono hb hd h, hd.rt, fun _ _ h => hd.nx _ _ h, fun _ _ h => forL_mono hb hd h, hd.ex⟩
mutual
theorem wpS_mono : ∀ (s : S) {D D' : PEnds} {τ : Sl} {st : Store}, D.Le D' → wpS s D τ st → wpS s D' τ st
  | .asg tg e, D, D', τ, st, hd, h => by
    unfold wpS at h ⊢
    exact wpE_mono e (fun x s h => hd.ex _ _ _ h) (fun v s h => oP_mono (fun _ h => hd.nx _ _ h) h) h
  | .asgLc i e, D, D', τ, st, hd, h => by
    unfold wpS at h ⊢
    exact wpE_mono e (fun x s h => hd.ex _ _ _ h) (fun v s h => hd.nx _ _ h) h
  | .setIx o i e, D, D', τ, st, hd, h => by
    unfold wpS at h ⊢
    exact wpE_mono e (fun x s h => hd.ex _ _ _ h) (fun v s h => wpE_mono o (fun x s h => hd.ex _ _ _ h) (fun v s h => wpE_mono i (fun x s h => hd.ex _ _ _ h) (fun v s h => setIxV_mono (fun s h => hd.nx _ _ h) h) h) h) h
  | .aug i o e, D, D', τ, st, hd, h => by
    unfold wpS at h ⊢
    exact oP_mono (fun v h => wpE_mono e (fun x s h => hd.ex _ _ _ h) (fun v s h => augV_mono (fun v s h => hd.nx _ _ h) h) h) h
  | .expr e, D, D', τ, st, hd, h => by
    unfold wpS at h ⊢
    exact wpE_mono e (fun x s h => hd.ex _ _ _ h) (fun v s h => hd.nx _ _ h) h
  | .ret e, D, D', τ, st, hd, h => by
    unfold wpS at h ⊢
    exact wpE_mono e (fun x s h => hd.ex _ _ _ h) (fun v s h => hd.rt _ _ h) h
  | .retN, D, D', τ, st, hd, h => hd.rt _ _ h
  | .ite t a b, D, D', τ, st, hd, h => by
    unfold wpS at h ⊢
    exact wpT_mono t (fun x s h => hd.ex _ _ _ h) (fun k s h => ite_mono (fun h => wpSs_mono a hd h) (fun h => wpSs_mono b hd h) h) h
  | .loop tg it b, D, D', τ, st, hd, h => by
    unfold wpS at h ⊢
    refine wpI_mono it (fun x s h => hd.ex _ _ _ h) (fun xs ok s h => ?_) h
    refine forL_mono ?_ hd h
    exact fun D D' τ st hd h => wpSs_mono b hd h
  | .while t b, D, D', τ, st, hd, h => by
    unfold wpS at h ⊢
    obtain ⟨W, w0, h⟩ := h
    refine ⟨W, w0, fun n τ st w => wpT_mono t (fun x s h => hd.ex _ _ _ h) (fun k s h => ?_) (h n τ st w)⟩
    refine ite_mono (fun h => ?_) (fun h => hd.nx _ _ h) h
    refine wpSs_mono b ?_ h
    exact ⟨fun _ _ h => h, hd.rt, fun _ _ h => hd.nx _ _ h, fun _ _ h => h, hd.ex⟩
  | .pass, D, D', τ, st, hd, h => hd.nx _ _ h
  | .brk, D, D', τ, st, hd, h => hd.bk _ _ h
  | .cont, D, D', τ, st, hd, h => hd.ct _ _ h
  | .never, D, D', τ, st, hd, h => h
theorem wpSs_mono : ∀ (s : Ss) {D D' : PEnds} {τ : Sl} {st : Store}, D.Le D' → wpSs s D τ st → wpSs s D' τ st
  | .nil, D, D', τ, st, hd, h => hd.nx _ _ h
  | .cons s ss, D, D', τ, st, hd, h => by
    unfold wpSs at h ⊢
    refine wpS_mono s ?_ h
    exact ⟨fun _ _ h => wpSs_mono ss hd h, hd.rt, hd.bk, hd.ct, hd.ex⟩
end
end TK

set_option maxRecDepth 100000
set_option maxHeartbeats 1000000
namespace TK
open PySem PySem.Spec PyProof.Rows L2

/-! ### is a term the term of this syntax? -/
/-- where one stands: the def's names by slot, the scope, the scope whose names may be stored -/
structure SC where
  N : List Str
  sc : Scope
  tsc : Scope
def visB (sc : Scope) (x : Str) : Bool := match sc.names.lookup x with
  | some .local => true
  | some .cell => true
  | some .free => true
  | _ => false
def locB (sc : Scope) (x : Str) : Bool := match sc.names.lookup x with
  | some .local => true
  | some .cell => true
  | _ => false
def glB (sc : Scope) (x : Str) : Bool := match sc.names.lookup x with
  | some .globalImplicit => !(x == ("__debug__" : Str))
  | _ => false
def notStar : Expr → Bool
  | .Starred _ _ => false
  | _ => true
def notComp : Expr → Bool
  | .ListComp _ _ _ _ => false
  | .SetComp _ _ _ _ => false
  | .DictComp _ _ _ _ _ => false
  | _ => true
def notSet : Expr → Bool
  | .Set _ _ _ => false
  | _ => true
def notTup : Expr → Bool
  | .Tuple _ _ _ => false
  | .List _ _ => false
  | _ => true
def plainT : Expr → Bool
  | .UnaryOp .Not _ _ => false
  | .BoolOp _ _ _ => false
  | .IfExp _ _ _ _ => false
  | .Compare _ _ _ _ => false
  | _ => true
def notCall : Expr → Bool
  | .Call _ _ _ _ => false
  | _ => true
def notSlice : Expr → Bool
  | .Slice _ _ _ _ => false
  | _ => true
def BF.name : BF → Str
  | .len => "len" | .int => "int" | .abs => "abs" | .tuple => "tuple" | .list => "list" | .all => "all" | .any => "any" | .sum => "sum"
  | .min2 => "min" | .max2 => "max" | .min => "min" | .max => "max" | .repr => "repr"
def MF.name : MF → Str
  | .append => "append" | .extend => "extend" | .pop => "pop" | .index => "index"
def nmB (C : SC) (i : Nat) (x : Str) : Bool := decide (C.N[i]? = some x) && visB C.sc x && !(x == ("__debug__" : Str)) && !(x == ("__classdict__" : Str))
mutual
def chkG (C : SC) : TG → Expr → Bool
  | .name i, e => match e with
    | .Name x _ => decide (C.N[i]? = some x) && locB C.tsc x
    | _ => false
  | .tup ts, e => match e with
    | .Tuple es _ _ => chkGs C ts es
    | _ => false
def chkGs (C : SC) : TGs → List Expr → Bool
  | .nil, es => match es with
    | [] => true
    | _ :: _ => false
  | .cons t ts, es => match es with
    | [] => false
    | e :: r => notStar e && chkG C t e && chkGs C ts r
end
def ownOf (N : List Str) (vs : List Nat) : List (Str × Nat) := vs.filterMap fun v => N[v]?.map fun x => (x, v)
mutual
def chkE : E → SC → Expr → Bool
  | .var i, C, e => match e with
    | .Name x _ => nmB C i x
    | _ => false
  | .fvar i, C, e => match e with
    | .Name x _ => nmB C i x
    | _ => false
  | .int n, _, e => match e with
    | .Constant (.int m) _ _ => decide (n = m)
    | _ => false
  | .bl n, _, e => match e with
    | .Constant (.bool m) _ _ => n == m
    | _ => false
  | .non, _, e => match e with
    | .Constant .none _ _ => true
    | _ => false
  | .str n, _, e => match e with
    | .Constant (.str m) _ _ => decide (n = m)
    | _ => false
  | .glob n _, C, e => match e with
    | .Name x _ => decide (n = x) && glB C.sc x
    | _ => false
  | .bin o _ a b, C, e => match e with
    | .BinOp x o' y _ => decide (o = o') && chkE a C x && chkE b C y
    | _ => false
  | .neg a, C, e => match e with
    | .UnaryOp .USub x _ => chkE a C x
    | _ => false
  | .not a, C, e => match e with
    | .UnaryOp .Not x _ => chkE a C x
    | _ => false
  | .cmp o a b, C, e => match e with
    | .Compare x [o'] [y] _ => decide (o = o') && chkE a C x && notSet y && chkE b C y
    | _ => false
  | .chain o p a b c, C, e => match e with
    | .Compare x [o', p'] [y, z] _ => decide (o = o') && decide (p = p') && chkE a C x && chkE b C y && notSet z && chkE c C z
    | _ => false
  | .bools o es, C, e => match e with
    | .BoolOp o' xs _ => decide (o = o') && chkEs es C xs
    | _ => false
  | .ite t a b, C, e => match e with
    | .IfExp x y z _ => chkT t C x && chkE a C y && chkE b C z
    | _ => false
  | .tup es, C, e => match e with
    | .Tuple xs _ _ => chkEs es C xs
    | _ => false
  | .lst _ es, C, e => match e with
    | .List xs _ => chkEs es C xs
    | _ => false
  | .idx a i, C, e => match e with
    | .Subscript x y _ => chkE a C x && notSlice y && chkE i C y
    | _ => false
  | .slice _ a lo hi, C, e => match e with
    | .Subscript x (.Slice l u none _) _ => chkE a C x && chkO lo C l && chkO hi C u
    | _ => false
  | .call f _ es, C, e => match e with
    | .Call (.Name x _) xs [] _ => decide (f = x) && glB C.sc x && chkEs es C xs
    | _ => false
  | .blt f _ es, C, e => match e with
    | .Call (.Name x _) xs [] _ => decide (f.name = x) && glB C.sc x && !xs.isEmpty && chkEs es C xs
    | _ => false
  | .isi a ty, C, e => match e with
    | .Call (.Name x _) [y, .Name z _] [] _ => decide (x = ("isinstance" : Str)) && glB C.sc x && notStar y && chkE a C y && decide (z = ty) && tyOk ty && glB C.sc z
    | _ => false
  | .meth f o es, C, e => match e with
    | .Call (.Attribute x y ap) xs [] cp => decide (y = f.name) && (ap.endLine == cp.line) && notCall x && decide (xs.length < 30) && chkE o C x && chkEs es C xs
    | _ => false
  | .comp _ vs tg it ts elt, C, e => match e with
    | .ListComp x [⟨g, y, ifs, k⟩] scope _ => k == 0 && decide ((ownOf C.N vs).map (·.2) = vs) && blkC C.N C.sc scope (ownOf C.N vs) && tg.slots.all (fun i => decide (i ∈ vs)) && notSet y && chkI it C g y &&
        chkG ⟨C.N, relS scope C.sc, scope⟩ tg g && chkTs ts ⟨C.N, relS scope C.sc, scope⟩ ifs && decide (ifs.length ≤ 1) && chkE elt ⟨C.N, relS scope C.sc, scope⟩ x
    | _ => false
def chkEs : Es → SC → List Expr → Bool
  | .nil, _, es => match es with
    | [] => true
    | _ :: _ => false
  | .cons a as, C, es => match es with
    | [] => false
    | e :: r => notStar e && chkE a C e && chkEs as C r
def chkO : OE → SC → Option Expr → Bool
  | .no, _, e => match e with
    | none => true
    | some _ => false
  | .yes a, C, e => match e with
    | none => false
    | some x => chkE a C x
def chkT : T → SC → Expr → Bool
  | .val a, C, e => plainT e && chkE a C e
  | .cmp o a b, C, e => match e with
    | .Compare x [o'] [y] _ => decide (o = o') && chkE a C x && notSet y && chkE b C y
    | _ => false
  | .chain o p a b c, C, e => match e with
    | .Compare x [o', p'] [y, z] _ => decide (o = o') && decide (p = p') && chkE a C x && chkE b C y && notSet z && chkE c C z
    | _ => false
  | .not t, C, e => match e with
    | .UnaryOp .Not x _ => chkT t C x
    | _ => false
  | .bools o ts, C, e => match e with
    | .BoolOp o' xs _ => decide (o = o') && !xs.isEmpty && chkTs ts C xs
    | _ => false
  | .ite _ _ _, _, _ => false
def chkTs : Ts → SC → List Expr → Bool
  | .nil, _, es => match es with
    | [] => true
    | _ :: _ => false
  | .cons a as, C, es => match es with
    | [] => false
    | e :: r => chkT a C e && chkTs as C r
def chkI : I → SC → Expr → Expr → Bool
  | .val a, C, _, e => chkE a C e
  | .range1 a, C, _, e => match e with
    | .Call (.Name x _) [y] [] _ => decide (x = ("range" : Str)) && glB C.sc x && notStar y && chkE a C y
    | _ => false
  | .range2 a b, C, _, e => match e with
    | .Call (.Name x _) [y, z] [] _ => decide (x = ("range" : Str)) && glB C.sc x && notStar y && chkE a C y && notStar z && chkE b C z
    | _ => false
  | .enum a, C, g, e => match g, e with
    | .Tuple _ _ _, .Call (.Name x _) [y] [] _ => decide (x = ("enumerate" : Str)) && glB C.sc x && notStar y && chkE a C y
    | _, _ => false
  | .zip a b, C, g, e => match g, e with
    | .Tuple _ _ _, .Call (.Name x _) [y, z] [] _ => decide (x = ("zip" : Str)) && glB C.sc x && notStar y && chkE a C y && notStar z && chkE b C z
    | _, _ => false
end
mutual
def chkS : S → SC → Stmt → Bool
  | .asg tg a, C, s => match s with
    | .Assign [g] e _ => chkG C tg g && notComp e && (notTup g || notTup e) && chkE a C e
    | _ => false
  | .asgLc i a, C, s => match s with
    | .Assign [.Name x p] (.ListComp elt gs scope pos) _ => decide (C.N[i]? = some x) && decide (C.sc.names.lookup x = some .local) && (p.line == pos.line) &&
        !(scope.names.any fun (n, k) => n == x && (k == .local || k == .cell)) && (match a with | .comp _ _ _ _ _ _ => true | _ => false) && chkE a C (.ListComp elt gs scope pos)
    | _ => false
  | .setIx o i a, C, s => match s with
    | .Assign [.Subscript x y _] e _ => notSlice y && chkE o C x && chkE i C y && chkE a C e
    | _ => false
  | .aug i o a, C, s => match s with
    | .AugAssign (.Name x _) o' e _ => decide (C.N[i]? = some x) && locB C.tsc x && decide (o = o') && chkE a C e
    | _ => false
  | .expr a, C, s => match s with
    | .Expr e _ => notComp e && chkE a C e
    | _ => false
  | .ret a, C, s => match s with
    | .Return (some e) _ => chkE a C e
    | _ => false
  | .retN, _, s => match s with
    | .Return none _ => true
    | _ => false
  | .ite t a b, C, s => match s with
    | .If c x y _ => chkT t C c && chkSs a C x && chkSs b C y
    | _ => false
  | .loop tg it b, C, s => match s with
    | .For g e x [] _ => chkG C tg g && notSet e && chkI it C g e && chkSs b C x
    | _ => false
  | .while t b, C, s => match s with
    | .While c x [] _ => chkT t C c && chkSs b C x
    | _ => false
  | .pass, _, s => match s with
    | .Pass _ => true
    | _ => false
  | .brk, _, s => match s with
    | .Break _ => true
    | _ => false
  | .cont, _, s => match s with
    | .Continue _ => true
    | _ => false
  | .never, _, _ => true
def chkSs : Ss → SC → List Stmt → Bool
  | .nil, _, ss => match ss with
    | [] => true
    | _ :: _ => false
  | .cons a as, C, ss => match ss with
    | [] => false
    | s :: r => chkS a C s && chkSs as C r
end

/-! ### what a term asks of the program around it -/
mutual
def needE (pf : Str → PSpec → Nat → Prop) (pg : Str → PV → Prop) : E → Prop
  | .var _ => True
  | .fvar _ => True
  | .int _ => True
  | .bl _ => True
  | .non => True
  | .str _ => True
  | .glob x v => pg x v
  | .bin _ _ a b => needE pf pg a ∧ needE pf pg b
  | .neg a => needE pf pg a
  | .not a => needE pf pg a
  | .cmp _ a b => needE pf pg a ∧ needE pf pg b
  | .chain _ _ a b c => needE pf pg a ∧ needE pf pg b ∧ needE pf pg c
  | .bools _ es => needEs pf pg es
  | .ite t a b => needT pf pg t ∧ needE pf pg a ∧ needE pf pg b
  | .tup es => needEs pf pg es
  | .lst _ es => needEs pf pg es
  | .idx a i => needE pf pg a ∧ needE pf pg i
  | .slice _ a lo hi => needE pf pg a ∧ needO pf pg lo ∧ needO pf pg hi
  | .call f sp es => pf f sp es.len ∧ needEs pf pg es
  | .blt _ _ es => needEs pf pg es
  | .isi e _ => needE pf pg e
  | .meth _ o es => needE pf pg o ∧ needEs pf pg es
  | .comp _ _ _ it ts elt => needI pf pg it ∧ needTs pf pg ts ∧ needE pf pg elt
def needEs (pf : Str → PSpec → Nat → Prop) (pg : Str → PV → Prop) : Es → Prop
  | .nil => True
  | .cons e es => needE pf pg e ∧ needEs pf pg es
def needO (pf : Str → PSpec → Nat → Prop) (pg : Str → PV → Prop) : OE → Prop
  | .no => True
  | .yes e => needE pf pg e
def needT (pf : Str → PSpec → Nat → Prop) (pg : Str → PV → Prop) : T → Prop
  | .val e => needE pf pg e
  | .cmp _ a b => needE pf pg a ∧ needE pf pg b
  | .chain _ _ a b c => needE pf pg a ∧ needE pf pg b ∧ needE pf pg c
  | .not t => needT pf pg t
  | .bools _ ts => needTs pf pg ts
  | .ite t a b => needT pf pg t ∧ needT pf pg a ∧ needT pf pg b
def needTs (pf : Str → PSpec → Nat → Prop) (pg : Str → PV → Prop) : Ts → Prop
  | .nil => True
  | .cons t ts => needT pf pg t ∧ needTs pf pg ts
def needI (pf : Str → PSpec → Nat → Prop) (pg : Str → PV → Prop) : I → Prop
  | .val e => needE pf pg e
  | .range1 a => needE pf pg a
  | .range2 a b => needE pf pg a ∧ needE pf pg b
  | .enum e => needE pf pg e
  | .zip a b => needE pf pg a ∧ needE pf pg b
end
mutual
def needS (pf : Str → PSpec → Nat → Prop) (pg : Str → PV → Prop) : S → Prop
  | .asg _ e => needE pf pg e
  | .asgLc _ e => needE pf pg e
  | .setIx o i e => needE pf pg o ∧ needE pf pg i ∧ needE pf pg e
  | .aug _ _ e => needE pf pg e
  | .expr e => needE pf pg e
  | .ret e => needE pf pg e
  | .retN => True
  | .ite t a b => needT pf pg t ∧ needSs pf pg a ∧ needSs pf pg b
  | .loop _ it b => needI pf pg it ∧ needSs pf pg b
  | .while t b => needT pf pg t ∧ needSs pf pg b
  | .pass => True
  | .brk => True
  | .cont => True
  | .never => True
def needSs (pf : Str → PSpec → Nat → Prop) (pg : Str → PV → Prop) : Ss → Prop
  | .nil => True
  | .cons s ss => needS pf pg s ∧ needSs pf pg ss
end
end TK

set_option maxRecDepth 100000
set_option maxHeartbeats 2000000
namespace TK
open PySem PySem.Spec PyProof.Rows L2

/-! ### wishes over the layer's heap -/
def LQ (K : PySem.W.Frag) (F : FS) (H : Hp) (Q : VK) : PQ := fun z st' => ∀ F' H' y, Ext F H F' H' → RS K H' F' st' → DV K H' F' z y → Q y H'
section
variable {K : PySem.W.Frag} {F F' : FS} {H H' : Hp} {Q : VK} {st : Store}
theorem LQ.ext (x : Ext F H F' H') : ∀ v s, LQ K F H Q v s → LQ K F' H' Q v s := fun v s h F2 H2 y x2 r d => h F2 H2 y (x.trans x2) r d
theorem LQ.now {z : PV} {y : V} (h : LQ K F H Q z st) (r : RS K H F st) (d : DV K H F z y) : Q y H := h F H y .refl r d
theorem newList_ok {m : Bool} {xs : List PV} {ys : List V} (h : newList m xs st (LQ K F H Q)) (r : RS K H F st) (d : DVs K H F xs ys) : ∀ p, H p = none → Q (.ref p) (upd H p (.lst ys)) := by
  intro p hp
  cases m with
  | true => exact h p (r.no hp) F _ _ (.new hp) (r.putNew hp d) (.ref p)
  | false => exact h (fun a => F a ∨ a = p) _ _ (.newF hp) (r.newF hp) (.lst (.inr rfl) upd_same (d.ext (.newF hp)))
theorem newTup_ok {xs : List PV} {ys : List V} (h : LQ K F H Q (.tup xs) st) (r : RS K H F st) (d : DVs K H F xs ys) : ∀ p, H p = none → Q (.ref p) (upd H p (.tup ys)) := by
  intro p hp
  exact h F _ _ (.new hp) (r.new hp) (.tup (.of upd_same) (d.ext (.new hp)))
theorem lstOf_ok {v : PV} {xs : List PV} {x : V} (r : RS K H F st) (e : lstOf st v = some xs) (d : DV K H F v x) : ∃ a ys, x = .ref a ∧ H a = some (.lst ys) ∧ DVs K H F xs ys := by
  cases d with
  | lst f h hs =>
    have e' : xs = _ := (Option.some.inj e).symm
    subst e'
    exact ⟨_, _, rfl, h, hs⟩
  | ref a =>
    have e' : (match st a with | some (.lst xs) => some xs | _ => none) = some xs := e
    cases q : st a with
    | none => rw [q] at e'; cases e'
    | some c =>
      cases c with
      | lst zs =>
        rw [q] at e'; cases e'
        obtain ⟨_, ys, h, hs⟩ := r.lst a _ q
        exact ⟨a, ys, rfl, h, hs⟩
      | pool => rw [q] at e'; cases e'
  | non => cases e
  | bl _ => cases e
  | int _ => cases e
  | str _ => cases e
  | tup _ _ => cases e
  | scr _ => cases e
theorem seqOf_ok {v : PV} {xs : List PV} {x : V} (r : RS K H F st) (e : seqOf st v = some xs) (d : DV K H F v x) : ∃ a ys, x = .ref a ∧ (SqL K H a ys ∨ SqT K H a ys) ∧ DVs K H F xs ys := by
  cases d with
  | tup h hs =>
    have e' : xs = _ := (Option.some.inj e).symm
    subst e'
    exact ⟨_, _, rfl, .inr h, hs⟩
  | lst f h hs =>
    obtain ⟨a, ys, e1, e2, e3⟩ := lstOf_ok r (show lstOf st (.lst _) = some xs from e) (.lst f h hs)
    exact ⟨a, ys, e1, .inl (.of e2), e3⟩
  | ref a =>
    obtain ⟨a, ys, e1, e2, e3⟩ := lstOf_ok r (show lstOf st (.ref a) = some xs from e) (.ref a)
    exact ⟨a, ys, e1, .inl (.of e2), e3⟩
  | non => cases e
  | bl _ => cases e
  | int _ => cases e
  | str _ => cases e
  | scr _ => cases e
end

/-! ### operators -/
section
variable {X : Cx}
theorem op_mulT : OpR X (binaryOp .Mult) (rI IntMulOk fun i j => .int (i * j)) := opI fun _ _ _ _ _ _ _ hc q => mul_int q hc
theorem op_fdivT : OpR X (binaryOp .FloorDiv) (rI (fun _ j => DivOk j) fun i j => .int (i.fdiv j)) := opI fun _ _ _ _ _ _ _ hc q => floordiv_int hc.1 q (.inl (PyProof.noPylong_of_log2 hc.2))
/-- t + u of tuples, any -/
theorem op_catTT : OpR X (binaryOp .Add) (fun x y H Q => ∃ a b xs ys, x = .ref a ∧ y = .ref b ∧ SqT X.K H a xs ∧ SqT X.K H b ys ∧ xs.length + ys.length ≤ sizeLine ∧
    (xs = [] → Q (.ref b) H) ∧ (xs ≠ [] → ys = [] → Q (.ref a) H) ∧ (xs ≠ [] → ys ≠ [] → ∀ p, H p = none → Q (.ref p) (upd H p (.tup (xs ++ ys))))) := by
  intro pins s σ H x y v u Q I rx ry h
  obtain ⟨a, b, xs, ys, rfl, rfl, ha, hb, hz, q0, q1, q2⟩ := h
  by_cases hx : xs = []
  · subst hx
    cases rx
    cases ry
    obtain ⟨its, r1, ⟨⟨c1, d1, t1, s1⟩, o1, k1, n1, e1⟩, _⟩ := I.tuple ha
    obtain ⟨its2, r2, ⟨⟨c2, d2, t2, s2⟩, o2, k2, n2, e2⟩, _⟩ := I.tuple hb
    simp only at k1 e1 k2 e2
    subst k1 e1 k2 e2
    have hn : its.toArray.isEmpty = true := by cases r1; rfl
    exact concat_meets ⟨_, o1, rfl⟩ ⟨_, o2, rfl⟩ noFill_tuple_add seq_tuple_add PySem.F.slot_tuple_add PySem.F.entry_tuple_add (PySem.F.args_tuple_add_2 _ _)
      (tuple_addW0 a b its.toArray its2.toArray n1 n2 d1 d2 s1 s2 hn) ⟨o1, o2, ⟨.ref b, H, I, rfl, q0 rfl⟩⟩
  · exact op_catT pins s σ H _ _ v u Q I rx ry ⟨a, b, xs, ys, rfl, rfl, ha, hb, hx, hz, q1 hx, fun hy => q2 hx hy⟩
abbrev rB (K : PySem.W.Frag) (f : PV → PV → Store → PQ → Prop) : R2 := fun x y H Q => ∃ F st v w, RS K H F st ∧ DV K H F v x ∧ DV K H F w y ∧ f v w st (LQ K F H Q)
theorem bin_ok {o : Operator} {m : Bool} : OpR X (binaryOp o) (rB X.K (binV o m)) := by
  intro pins s σ H x y vv uu Q I rx ry ⟨F, st, v, w, rs, dv, dw, h⟩
  unfold binV at h
  split at h
  · cases dv; cases dw
    exact op_add pins s σ H _ _ _ _ Q I rx ry ⟨_, _, rfl, rfl, h.now rs (.int _)⟩
  · cases dv; cases dw
    exact op_add_str pins s σ H _ _ _ _ Q I rx ry ⟨_, _, rfl, rfl, h.1, h.2.now rs (.str _)⟩
  · cases dv with
    | tup h1 hs1 =>
      cases dw with
      | tup h2 hs2 =>
        refine op_catTT pins s σ H _ _ _ _ Q I rx ry ⟨_, _, _, _, rfl, rfl, h1, h2, by rw [← hs1.length, ← hs2.length]; exact h.1, fun e => ?_, fun _ e => ?_, fun _ _ => newTup_ok h.2 rs (hs1.append hs2)⟩
        · subst e
          cases hs1
          exact h.2.now rs (.tup h2 hs2)
        · subst e
          cases hs2
          exact h.2.now rs (by rw [List.append_nil]; exact .tup h1 hs1)
  · cases dv with
    | lst f1 h1 hs1 =>
      cases dw with
      | lst f2 h2 hs2 => exact op_cat pins s σ H _ _ _ _ Q I rx ry ⟨_, _, _, _, rfl, rfl, h1, h2, by rw [← hs1.length, ← hs2.length]; exact h.1, newList_ok h.2 rs (hs1.append hs2)⟩
  · obtain ⟨xs, e, hz, h⟩ := h
    cases dv
    obtain ⟨_, zs, h1, hs1⟩ := rs.lst _ _ e
    cases dw with
    | lst f2 h2 hs2 => exact op_cat pins s σ H _ _ _ _ Q I rx ry ⟨_, _, _, _, rfl, rfl, h1, h2, by rw [← hs1.length, ← hs2.length]; exact hz, newList_ok h rs (hs1.append hs2)⟩
  · obtain ⟨ys, e, hz, h⟩ := h
    cases dw
    obtain ⟨_, zs, h2, hs2⟩ := rs.lst _ _ e
    cases dv with
    | lst f1 h1 hs1 => exact op_cat pins s σ H _ _ _ _ Q I rx ry ⟨_, _, _, _, rfl, rfl, h1, h2, by rw [← hs1.length, ← hs2.length]; exact hz, newList_ok h rs (hs1.append hs2)⟩
  · obtain ⟨xs, ys, e, e', hz, h⟩ := h
    cases dv
    cases dw
    obtain ⟨_, zs, h1, hs1⟩ := rs.lst _ _ e
    obtain ⟨_, zs', h2, hs2⟩ := rs.lst _ _ e'
    exact op_cat pins s σ H _ _ _ _ Q I rx ry ⟨_, _, _, _, rfl, rfl, h1, h2, by rw [← hs1.length, ← hs2.length]; exact hz, newList_ok h rs (hs1.append hs2)⟩
  · cases dv; cases dw
    exact op_sub pins s σ H _ _ _ _ Q I rx ry ⟨_, _, rfl, rfl, h.now rs (.int _)⟩
  · cases dv; cases dw
    exact op_mulT pins s σ H _ _ _ _ Q I rx ry ⟨_, _, rfl, rfl, h.1, h.2.now rs (.int _)⟩
  · obtain ⟨h1, h2, h3, h4⟩ := h
    cases dw
    cases dv with
    | lst f1 g1 hs1 => exact op_rep pins s σ H _ _ _ _ Q I rx ry ⟨_, _, _, rfl, rfl, g1, h1, h2, by rw [← hs1.length]; exact h3, newList_ok h4 rs (hs1.flat _)⟩
  · cases dv; cases dw
    exact op_fdivT pins s σ H _ _ _ _ Q I rx ry ⟨_, _, rfl, rfl, h.1, h.2.now rs (.int _)⟩
  · cases dv; cases dw
    exact op_modN pins s σ H _ _ _ _ Q I rx ry ⟨_, _, rfl, rfl, h.1, h.2.now rs (.int _)⟩
  · cases dv; cases dw
    exact op_pow pins s σ H _ _ _ _ Q I rx ry ⟨_, _, rfl, rfl, h.1, h.2.now rs (.int _)⟩
  · cases dv; cases dw
    exact op_and pins s σ H _ _ _ _ Q I rx ry ⟨_, _, rfl, rfl, h.now rs (.int _)⟩
  · cases dv; cases dw
    exact op_or pins s σ H _ _ _ _ Q I rx ry ⟨_, _, rfl, rfl, h.now rs (.int _)⟩
  · exact h.elim

/-! ### comparisons -/
mutual
theorem toD_dp {K : PySem.W.Frag} {H : Hp} {F : FS} : ∀ {n : Nat} {v : PV} {x : V}, flat n v = true → DV K H F v x → Dp K H x (toD v)
  | _, .non, _, _, .non => .non
  | _, .bl _, _, _, .bl b => .bl b
  | _, .int _, _, _, .int b => .int b
  | _, .str _, _, _, .str b => .str b
  | n, .tup xs, _, h, .tup h1 hs => .tup h1 (toD_dps (by have h' : (n != 0 && flats (n - 1) xs) = true := h; exact (Bool.and_eq_true_iff.mp h').2) hs)
  | n, .lst xs, _, h, .lst f h1 hs => .lst (.of h1) (toD_dps (by have h' : (n != 0 && flats (n - 1) xs) = true := h; exact (Bool.and_eq_true_iff.mp h').2) hs)
theorem toD_dps {K : PySem.W.Frag} {H : Hp} {F : FS} : ∀ {n : Nat} {v : List PV} {x : List V}, flats n v = true → DVs K H F v x → DpAll K H x (toDs v)
  | _, [], _, _, .nil => .nil
  | n, x :: r, _, h, .cons d ds => by
    have h' : (flat n x && flats n r) = true := h
    exact .cons (toD_dp (Bool.and_eq_true_iff.mp h').1 d) (toD_dps (Bool.and_eq_true_iff.mp h').2 ds)
end
mutual
theorem toD_lay : ∀ {n : Nat} {v : PV}, flat n v = true → (toD v).canLay0 = true ∧ (toD v).depth ≤ n
  | _, .non, _ => ⟨by simp [toD, PyData.canLay0], by simp [toD, PyData.depth]⟩
  | _, .bl _, _ => ⟨by simp [toD, PyData.canLay0], by simp [toD, PyData.depth]⟩
  | _, .int _, _ => ⟨by simp [toD, PyData.canLay0], by simp [toD, PyData.depth]⟩
  | _, .str x, h => ⟨by have h' : PyData.strOk x = true := h; simpa [toD, PyData.canLay0] using h', by simp [toD, PyData.depth]⟩
  | n, .tup xs, h => by
    have h' : (n != 0 && flats (n - 1) xs) = true := h
    obtain ⟨h1, h2⟩ := Bool.and_eq_true_iff.mp h'
    obtain ⟨a, b⟩ := toD_lays h2
    have h3 : n ≠ 0 := by simpa using h1
    exact ⟨by simpa [toD, PyData.canLay0] using a, by simp only [toD, PyData.depth]; omega⟩
  | n, .lst xs, h => by
    have h' : (n != 0 && flats (n - 1) xs) = true := h
    obtain ⟨h1, h2⟩ := Bool.and_eq_true_iff.mp h'
    obtain ⟨a, b⟩ := toD_lays h2
    have h3 : n ≠ 0 := by simpa using h1
    exact ⟨by simpa [toD, PyData.canLay0] using a, by simp only [toD, PyData.depth]; omega⟩
  | _, .ref _, h => nomatch h
  | _, .scr _, h => nomatch h
theorem toD_lays : ∀ {n : Nat} {v : List PV}, flats n v = true → PyData.canLayAll0 (toDs v) = true ∧ PyData.depthAll (toDs v) ≤ n
  | _, [], _ => ⟨by simp [toDs, PyData.canLayAll0], by simp [toDs, PyData.depthAll]⟩
  | n, x :: r, h => by
    have h' : (flat n x && flats n r) = true := h
    obtain ⟨h1, h2⟩ := Bool.and_eq_true_iff.mp h'
    obtain ⟨a, b⟩ := toD_lay h1
    obtain ⟨c, d⟩ := toD_lays h2
    exact ⟨by simp [toDs, PyData.canLayAll0, a, c], by simp only [toDs, PyData.depthAll]; omega⟩
end
theorem toD_shaped {v : PV} (h : flat 60 v = true) : SeqAt.shaped (toD v) = true := by
  obtain ⟨a, b⟩ := toD_lay h
  unfold SeqAt.shaped
  rw [a, Bool.true_and]
  exact decide_eq_true (by omega)
theorem beq_dec {i j : Int} : (i == j) = decide (i = j) := by
  by_cases e : i = j <;> simp [e]
mutual
theorem toD_eqv : ∀ {n m : Nat} {v w : PV}, flat n v = true → flat m w = true → PyData.eqv (toD v) (toD w) = eqv v w
  | _, _, .non, w, _, hw => by cases w <;> first | (simp [toD, PyData.eqv, eqv]; done) | cases hw
  | _, _, .bl _, w, _, hw => by cases w <;> first | (simp [toD, PyData.eqv, eqv]; done) | cases hw
  | _, _, .int _, w, _, hw => by cases w <;> first | (simp [toD, PyData.eqv, eqv, beq_dec]; done) | cases hw
  | _, _, .str a, w, _, hw => by
    cases w with
    | str b => simp only [toD, PyData.eqv, eqv]; by_cases e : a = b <;> simp [e]
    | ref _ => cases hw
    | scr _ => cases hw
    | _ => simp [toD, PyData.eqv, eqv]
  | n, m, .tup xs, w, h, hw => by
    have h' : (n != 0 && flats (n - 1) xs) = true := h
    cases w with
    | tup ys =>
      have hw' : (m != 0 && flats (m - 1) ys) = true := hw
      simp only [toD, PyData.eqv, eqv]
      exact toD_eqvs (Bool.and_eq_true_iff.mp h').2 (Bool.and_eq_true_iff.mp hw').2
    | ref _ => cases hw
    | scr _ => cases hw
    | _ => simp [toD, PyData.eqv, eqv]
  | n, m, .lst xs, w, h, hw => by
    have h' : (n != 0 && flats (n - 1) xs) = true := h
    cases w with
    | lst ys =>
      have hw' : (m != 0 && flats (m - 1) ys) = true := hw
      simp only [toD, PyData.eqv, eqv]
      exact toD_eqvs (Bool.and_eq_true_iff.mp h').2 (Bool.and_eq_true_iff.mp hw').2
    | ref _ => cases hw
    | scr _ => cases hw
    | _ => simp [toD, PyData.eqv, eqv]
  | _, _, .ref _, _, h, _ => nomatch h
  | _, _, .scr _, _, h, _ => nomatch h
theorem toD_eqvs : ∀ {n m : Nat} {v w : List PV}, flats n v = true → flats m w = true → PyData.eqvAll (toDs v) (toDs w) = eqvs v w
  | _, _, [], w, _, _ => by cases w <;> simp [toDs, PyData.eqvAll, eqvs]
  | n, m, x :: r, w, h, hw => by
    have h' : (flat n x && flats n r) = true := h
    cases w with
    | nil => simp [toDs, PyData.eqvAll, eqvs]
    | cons y s =>
      have hw' : (flat m y && flats m s) = true := hw
      simp only [toDs, PyData.eqvAll, eqvs]
      rw [toD_eqv (Bool.and_eq_true_iff.mp h').1 (Bool.and_eq_true_iff.mp hw').1, toD_eqvs (Bool.and_eq_true_iff.mp h').2 (Bool.and_eq_true_iff.mp hw').2]
end
theorem res_ok {K : PySem.W.Frag} {H : Hp} {F : FS} {st : Store} {v : PV} {x : V} {n : Nat} (r : RS K H F st) (d : DV K H F v x) (h : flat n (res st v) = true) : Dp K H x (toD (res st v)) := by
  cases v with
  | ref a =>
    cases q : st a with
    | none =>
      have e : res st (.ref a) = .ref a := by simp only [res, q]
      rw [e] at h; cases h
    | some c =>
      cases c with
      | pool =>
        have e : res st (.ref a) = .ref a := by simp only [res, q]
        rw [e] at h; cases h
      | lst xs =>
        have e : res st (.ref a) = .lst xs := by simp only [res, q]
        rw [e] at h ⊢
        obtain ⟨_, ys, h1, hs⟩ := r.lst a xs q
        cases d
        have h' : (n != 0 && flats (n - 1) xs) = true := h
        exact .lst (.of h1) (toD_dps (Bool.and_eq_true_iff.mp h').2 hs)
  | non => exact toD_dp h d
  | bl _ => exact toD_dp h d
  | int _ => exact toD_dp h d
  | str _ => exact toD_dp h d
  | tup _ => exact toD_dp h d
  | lst _ => exact toD_dp h d
  | scr _ => cases h
theorem scP_ok {K : PySem.W.Frag} {H : Hp} {F : FS} {st : Store} {v w : PV} {x y : V} (h : scP v w = true) (dv : DV K H F v x) (dw : DV K H F w y) : scal x y = true ∧ decide (x = y) = eqv (res st v) (res st w) := by
  cases dv <;> cases dw <;> first
    | (refine ⟨rfl, ?_⟩; simp [res, eqv]; done)
    | (refine ⟨rfl, ?_⟩; simp only [res, eqv]; rename_i a b; cases a <;> cases b <;> rfl)
    | cases h
theorem sc_flat {v : PV} (h : isSc v = true) {K : PySem.W.Frag} {H : Hp} {F : FS} {x : V} (d : DV K H F v x) : flatV x = true := by
  cases d <;> first | rfl | cases h
theorem sc_flats : ∀ {vs : List PV} {xs : List V}, vs.all isSc = true → ∀ {K : PySem.W.Frag} {H : Hp} {F : FS}, DVs K H F vs xs → xs.all flatV = true
  | [], _, _, _, _, _, .nil => rfl
  | v :: r, _, h, _, _, _, .cons d ds => by
    rw [List.all_cons, Bool.and_eq_true] at h ⊢
    exact ⟨sc_flat h.1 d, sc_flats h.2 ds⟩
theorem sc_eqV {v w : PV} (hv : isSc v = true) (hw : isSc w = true) {K : PySem.W.Frag} {H : Hp} {F : FS} {x y : V} (d : DV K H F v x) (d' : DV K H F w y) : eqV x y = eqv v w := by
  cases d <;> cases d' <;> first
    | exact absurd hv Bool.false_ne_true
    | exact absurd hw Bool.false_ne_true
    | (simp [eqV, eqv, beq_dec]; done)
    | (simp only [eqV, eqv]; rename_i a b; cases a <;> rfl)
    | (simp only [eqV, eqv]; rename_i a b; cases b <;> rfl)
    | (simp only [eqV, eqv]; rename_i a b; by_cases e : a = b <;> simp [e])
theorem sc_any {w : PV} (hw : isSc w = true) {K : PySem.W.Frag} {H : Hp} {F : FS} {y : V} (d' : DV K H F w y) : ∀ {vs : List PV} {xs : List V}, vs.all isSc = true → DVs K H F vs xs → inV y xs = vs.any fun z => eqv z w
  | [], _, _, .nil => rfl
  | v :: r, _, h, .cons d ds => by
    rw [List.all_cons, Bool.and_eq_true] at h
    have ih := sc_any hw d' h.2 ds
    unfold inV at ih ⊢
    rw [List.any_cons, List.any_cons, ih, sc_eqV h.1 hw d d']
theorem isNon_ok {K : PySem.W.Frag} {H : Hp} {F : FS} {v : PV} {x : V} (d : DV K H F v x) : decide (x = .non) = isNon v := by
  cases d <;> simp [isNon]
theorem cmp_ok {o : CmpOp} (hu : X.A.units + 64 < cLine) : OpR X (compareOp o) (rB X.K (cmpV o)) := by
  intro pins s σ H x y vv uu Q I rx ry ⟨F, st, v, w, rs, dv, dw, h⟩
  unfold cmpV at h
  cases o with
  | Eq =>
    obtain ⟨ok, h⟩ := h
    rcases ok with ok | ⟨f1, f2⟩
    · obtain ⟨e1, e2⟩ := scP_ok (st := st) ok dv dw
      exact op_eq pins s σ H _ _ _ _ Q I rx ry ⟨e1, by rw [e2]; exact h.now rs (.bl _)⟩
    · exact op_eqD hu pins s σ H _ _ _ _ Q I rx ry ⟨_, _, res_ok rs dv f1, res_ok rs dw f2, toD_shaped f1, toD_shaped f2, by rw [toD_eqv f1 f2]; exact h.now rs (.bl _)⟩
  | NotEq =>
    obtain ⟨ok, h⟩ := h
    rcases ok with ok | ⟨f1, f2⟩
    · obtain ⟨e1, e2⟩ := scP_ok (st := st) ok dv dw
      exact op_ne pins s σ H _ _ _ _ Q I rx ry ⟨e1, by rw [e2]; exact h.now rs (.bl _)⟩
    · exact op_neD hu pins s σ H _ _ _ _ Q I rx ry ⟨_, _, res_ok rs dv f1, res_ok rs dw f2, toD_shaped f1, toD_shaped f2, by rw [toD_eqv f1 f2]; exact h.now rs (.bl _)⟩
  | Lt =>
    dsimp only at h
    split at h
    · cases dv; cases dw; exact op_lt pins s σ H _ _ _ _ Q I rx ry ⟨_, _, rfl, rfl, h.now rs (.bl _)⟩
    · exact h.elim
  | LtE =>
    dsimp only at h
    split at h
    · cases dv; cases dw; exact op_le pins s σ H _ _ _ _ Q I rx ry ⟨_, _, rfl, rfl, h.now rs (.bl _)⟩
    · exact h.elim
  | Gt =>
    dsimp only at h
    split at h
    · cases dv; cases dw; exact op_gt pins s σ H _ _ _ _ Q I rx ry ⟨_, _, rfl, rfl, h.now rs (.bl _)⟩
    · exact h.elim
  | GtE =>
    dsimp only at h
    split at h
    · cases dv; cases dw; exact op_ge pins s σ H _ _ _ _ Q I rx ry ⟨_, _, rfl, rfl, h.now rs (.bl _)⟩
    · exact h.elim
  | Is =>
    dsimp only at h
    split at h
    · cases dw; exact op_isN pins s σ H _ _ _ _ Q I rx ry ⟨rfl, by rw [isNon_ok dv]; exact h.now rs (.bl _)⟩
    · exact h.elim
  | IsNot =>
    dsimp only at h
    split at h
    · cases dw; exact op_notN pins s σ H _ _ _ _ Q I rx ry ⟨rfl, by rw [isNon_ok dv]; exact h.now rs (.bl _)⟩
    · exact h.elim
  | In =>
    dsimp only at h
    cases q : seqOf st w with
    | none => rw [q] at h; exact h.elim
    | some xs =>
      rw [q] at h
      obtain ⟨h1, h2, h⟩ := h
      obtain ⟨a, ys, rfl, hs, ds⟩ := seqOf_ok rs q dw
      exact op_in_seq pins s σ H _ _ _ _ Q I rx ry ⟨a, ys, rfl, hs, sc_flat h1 dv, sc_flats h2 ds, by rw [if_neg Bool.false_ne_true, sc_any h1 dv h2 ds]; exact h.now rs (.bl _)⟩
  | NotIn =>
    dsimp only at h
    cases q : seqOf st w with
    | none => rw [q] at h; exact h.elim
    | some xs =>
      rw [q] at h
      obtain ⟨h1, h2, h⟩ := h
      obtain ⟨a, ys, rfl, hs, ds⟩ := seqOf_ok rs q dw
      exact op_notIn_seq pins s σ H _ _ _ _ Q I rx ry ⟨a, ys, rfl, hs, sc_flat h1 dv, sc_flats h2 ds, by rw [if_pos rfl, sc_any h1 dv h2 ds]; exact h.now rs (.bl _)⟩
end
end TK

set_option maxRecDepth 100000
set_option maxHeartbeats 2000000
namespace TK
open PySem PySem.Spec PyProof.Rows L2
/-! ### built-in functions -/
theorem bls_ok {K : PySem.W.Frag} {H : Hp} {F : FS} : ∀ {xs : List PV} {bs : List Bool} {ys : List V}, blsOf xs = some bs → DVs K H F xs ys → ys = bs.map V.bl
  | [], bs, _, e, .nil => by cases (Option.some.inj e); rfl
  | .bl b :: r, bs, _, e, .cons d ds => by
    have e' : (blsOf r).map (b :: ·) = some bs := e
    cases q : blsOf r with
    | none => rw [q] at e'; cases e'
    | some cs =>
      rw [q] at e'; cases e'
      cases d
      rw [bls_ok q ds]
      rfl
  | .non :: _, _, _, e, _ => nomatch e
  | .int _ :: _, _, _, e, _ => nomatch e
  | .str _ :: _, _, _, e, _ => nomatch e
  | .tup _ :: _, _, _, e, _ => nomatch e
  | .lst _ :: _, _, _, e, _ => nomatch e
  | .ref _ :: _, _, _, e, _ => nomatch e
  | .scr _ :: _, _, _, e, _ => nomatch e
theorem ints_ok {K : PySem.W.Frag} {H : Hp} {F : FS} : ∀ {xs : List PV} {bs : List Int} {ys : List V}, intsOf xs = some bs → DVs K H F xs ys → ys = bs.map V.int
  | [], bs, _, e, .nil => by cases (Option.some.inj e); rfl
  | .int b :: r, bs, _, e, .cons d ds => by
    have e' : (intsOf r).map (b :: ·) = some bs := e
    cases q : intsOf r with
    | none => rw [q] at e'; cases e'
    | some cs =>
      rw [q] at e'; cases e'
      cases d
      rw [ints_ok q ds]
      rfl
  | .non :: _, _, _, e, _ => nomatch e
  | .bl _ :: _, _, _, e, _ => nomatch e
  | .str _ :: _, _, _, e, _ => nomatch e
  | .tup _ :: _, _, _, e, _ => nomatch e
  | .lst _ :: _, _, _, e, _ => nomatch e
  | .ref _ :: _, _, _, e, _ => nomatch e
  | .scr _ :: _, _, _, e, _ => nomatch e
theorem max_fold : ∀ (r : List Int) (x : Int), (r.foldl (fun m y => if y > m then y else m) x ∈ x :: r) ∧ ∀ y ∈ x :: r, y ≤ r.foldl (fun m y => if y > m then y else m) x
  | [], x => ⟨List.mem_singleton.mpr rfl, fun y hy => by rw [List.mem_singleton.mp hy]; exact Int.le_refl _⟩
  | z :: r, x => by
    obtain ⟨a, b⟩ := max_fold r (if z > x then z else x)
    rw [List.foldl_cons]
    have hm : (if z > x then z else x) = z ∨ (if z > x then z else x) = x := by split <;> simp
    have h1 : z ≤ (if z > x then z else x) := by split <;> omega
    have h2 : x ≤ (if z > x then z else x) := by split <;> omega
    have h0 := b _ List.mem_cons_self
    refine ⟨?_, fun y hy => ?_⟩
    · rcases List.mem_cons.mp a with e | e
      · rcases hm with h | h <;> rw [e, h] <;> simp
      · exact List.mem_cons_of_mem _ (List.mem_cons_of_mem _ e)
    · rcases List.mem_cons.mp hy with rfl | hy
      · exact Int.le_trans h2 h0
      · rcases List.mem_cons.mp hy with rfl | hy
        · exact Int.le_trans h1 h0
        · exact b y (List.mem_cons_of_mem _ hy)
theorem min_fold : ∀ (r : List Int) (x : Int), (r.foldl (fun m y => if y < m then y else m) x ∈ x :: r) ∧ ∀ y ∈ x :: r, r.foldl (fun m y => if y < m then y else m) x ≤ y
  | [], x => ⟨List.mem_singleton.mpr rfl, fun y hy => by rw [List.mem_singleton.mp hy]; exact Int.le_refl _⟩
  | z :: r, x => by
    obtain ⟨a, b⟩ := min_fold r (if z < x then z else x)
    rw [List.foldl_cons]
    have hm : (if z < x then z else x) = z ∨ (if z < x then z else x) = x := by split <;> simp
    have h1 : (if z < x then z else x) ≤ z := by split <;> omega
    have h2 : (if z < x then z else x) ≤ x := by split <;> omega
    have h0 := b _ List.mem_cons_self
    refine ⟨?_, fun y hy => ?_⟩
    · rcases List.mem_cons.mp a with e | e
      · rcases hm with h | h <;> rw [e, h] <;> simp
      · exact List.mem_cons_of_mem _ (List.mem_cons_of_mem _ e)
    · rcases List.mem_cons.mp hy with rfl | hy
      · exact Int.le_trans h0 h2
      · rcases List.mem_cons.mp hy with rfl | hy
        · exact Int.le_trans h0 h1
        · exact b y (List.mem_cons_of_mem _ hy)
theorem maxL_mem {ns : List Int} (h : ns ≠ []) : maxL ns ∈ ns := by
  cases ns with
  | nil => exact absurd rfl h
  | cons x r => exact (max_fold r x).1
theorem maxL_ge {ns : List Int} : ∀ y ∈ ns, y ≤ maxL ns := by
  cases ns with
  | nil => exact fun _ h => nomatch h
  | cons x r => exact (max_fold r x).2
theorem minL_mem {ns : List Int} (h : ns ≠ []) : minL ns ∈ ns := by
  cases ns with
  | nil => exact absurd rfl h
  | cons x r => exact (min_fold r x).1
theorem minL_le {ns : List Int} : ∀ y ∈ ns, minL ns ≤ y := by
  cases ns with
  | nil => exact fun _ h => nomatch h
  | cons x r => exact (min_fold r x).2
theorem len_pos {ns : List Int} (h : ns ≠ []) : 0 < ns.length := by
  cases ns with
  | nil => exact absurd rfl h
  | cons x r => exact Nat.succ_pos _
mutual
theorem toD_nodict : ∀ v : PV, (toD v).hasDict = false
  | .non => by simp [toD, PyData.hasDict]
  | .bl _ => by simp [toD, PyData.hasDict]
  | .int _ => by simp [toD, PyData.hasDict]
  | .str _ => by simp [toD, PyData.hasDict]
  | .tup xs => by simp only [toD, PyData.hasDict]; exact toD_nodicts xs
  | .lst xs => by simp only [toD, PyData.hasDict]; exact toD_nodicts xs
  | .ref _ => by simp [toD, PyData.hasDict]
  | .scr _ => by simp [toD, PyData.hasDict]
theorem toD_nodicts : ∀ v : List PV, PyData.hasDictAll (toDs v) = false
  | [] => by simp [toDs, PyData.hasDictAll]
  | x :: r => by simp only [toDs, PyData.hasDictAll]; rw [toD_nodict x, toD_nodicts r]; rfl
end
section
variable {X : Cx}
abbrev rC (K : PySem.W.Frag) (f : List PV → Store → PQ → Prop) : List V → Hp → VK → Prop := fun xs H Q => ∃ F st vs, RS K H F st ∧ DVs K H F vs xs ∧ f vs st (LQ K F H Q)
theorem call_repr (hg : X.A.guards = some []) (hu : X.A.units + 64 < cLine) : CallR X (.builtin "repr") (fun xs H Q => ∃ v d, xs = [v] ∧ Dp X.K H v d ∧ d.hasDict = false ∧ d.showable = true ∧ d.shown.length ≤ sizeLine ∧ d.depth ≤ 60 ∧ Q (.str d.shown) H) := by
  intro pins s σ H xs us Q I r h
  obtain ⟨v, d, rfl, dp, nd, sh, sz, dd, q⟩ := h
  obtain ⟨u, rfl, ru⟩ := vals1 r
  obtain ⟨as, rd⟩ := Dp.reads I d v u dp ru
  cases dp with
  | non =>
    cases ru
    refine PySem.P.repr_of_none ⟨.str "None", H, I.tok _, ⟨_, rfl⟩, ?_⟩
    simpa [PyData.shown] using q
  | bl b =>
    cases ru
    refine PySem.P.repr_of_bool ⟨.str (if b then "True" else "False"), H, I.tok _, ⟨_, rfl⟩, ?_⟩
    simpa [PyData.shown] using q
  | int i =>
    obtain ⟨t, rfl⟩ := ru
    refine PySem.P.repr_of_int (by simpa [PyData.showable] using sh) ⟨.str (toString i), H, I.tok _, ⟨_, rfl⟩, ?_⟩
    simpa [PyData.shown] using q
  | str x =>
    obtain ⟨t, rfl⟩ := ru
    refine PySem.P.repr_of_str (hsz := by simpa [PyData.shown] using sz) ⟨.str (reprText x), H, I.tok _, ⟨_, rfl⟩, ?_⟩
    simpa [PyData.shown] using q
  | lst h1 h2 =>
    cases ru
    exact repr_of_reads' rd sh (fun z => by rw [nd] at z; cases z) hg (by omega) (fun _ _ e => e) (fun h' u tk hk => ⟨.str _, H, I.kept (t' := tk) hk, ⟨u, rfl⟩, q⟩) sz
  | tup h1 h2 =>
    cases ru
    exact repr_of_reads' rd sh (fun z => by rw [nd] at z; cases z) hg (by omega) (fun _ _ e => e) (fun h' u tk hk => ⟨.str _, H, I.kept (t' := tk) hk, ⟨u, rfl⟩, q⟩) sz
/-- which built-in it is -/
def BF.isTy : BF → Bool
  | .int => true
  | .tuple => true
  | .list => true
  | _ => false
def BF.id : BF → String
  | .len => "len" | .int => "int" | .abs => "abs" | .tuple => "tuple" | .list => "list" | .all => "all" | .any => "any" | .sum => "sum"
  | .min2 => "min" | .max2 => "max" | .min => "min" | .max => "max" | .repr => "repr"
def BF.val (f : BF) : Value := if f.isTy then .type f.id else .builtin f.id
theorem blt_ok {f : BF} {m : Bool} (hc : X.calm = true) (hg : X.A.guards = some []) (hu : X.A.units + 64 < cLine) : CallR X f.val (rC X.K (bltV f m)) := by
  intro pins s σ H xs us Q I r ⟨F, st, vs, rs, ds, h⟩
  have one : ∀ {v : PV} {xs : List V}, DVs X.K H F [v] xs → ∃ x, xs = [x] ∧ DV X.K H F v x := fun ds => by
    cases ds with
    | cons d ds => cases ds; exact ⟨_, rfl, d⟩
  have two : ∀ {v w : PV} {xs : List V}, DVs X.K H F [v, w] xs → ∃ x y, xs = [x, y] ∧ DV X.K H F v x ∧ DV X.K H F w y := fun ds => by
    cases ds with
    | cons d ds => cases ds with
      | cons d' ds => cases ds; exact ⟨_, _, rfl, d, d'⟩
  unfold bltV at h
  split at h
  · obtain ⟨x, rfl, d⟩ := one ds
    cases d
    exact call_len_str pins s σ H _ us Q I r ⟨_, rfl, h.1, h.2.now rs (.int _)⟩
  · obtain ⟨x, rfl, d⟩ := one ds
    cases d with
    | tup h1 hs => exact call_len_seq pins s σ H _ us Q I r ⟨_, _, rfl, .inr h1, by rw [← hs.length]; exact h.now rs (.int _)⟩
  · obtain ⟨x, rfl, d⟩ := one ds
    cases d with
    | lst f1 h1 hs => exact call_len_seq pins s σ H _ us Q I r ⟨_, _, rfl, .inl (.of h1), by rw [← hs.length]; exact h.now rs (.int _)⟩
  · obtain ⟨x, rfl, d⟩ := one ds
    rename_i a
    cases q : lstOf st (.ref a) with
    | none => rw [q] at h; exact h.elim
    | some zs =>
      rw [q] at h
      obtain ⟨b, ys, rfl, h1, hs⟩ := lstOf_ok rs q d
      exact call_len_seq pins s σ H _ us Q I r ⟨_, _, rfl, .inl (.of h1), by rw [← hs.length]; exact LQ.now h rs (.int _)⟩
  · obtain ⟨x, rfl, d⟩ := one ds
    cases d
    exact call_int1 pins s σ H _ us Q I r (.inl ⟨_, rfl, h.now rs (.int _)⟩)
  · obtain ⟨x, rfl, d⟩ := one ds
    cases d
    exact call_int1 pins s σ H _ us Q I r (.inr ⟨_, rfl, h.now rs (.int _)⟩)
  · obtain ⟨x, rfl, d⟩ := one ds
    cases d
    exact call_abs pins s σ H _ us Q I r ⟨_, rfl, h.now rs (.int _)⟩
  · obtain ⟨x, rfl, d⟩ := one ds
    rename_i v
    cases q : seqOf st v with
    | none => rw [q] at h; exact h.elim
    | some zs =>
      rw [q] at h
      cases d with
      | tup h1 hs =>
        cases (Option.some.inj q)
        exact call_tuple_of pins s σ H _ us Q I r ⟨_, _, rfl, .inr ⟨h1, LQ.now h rs (.tup h1 hs)⟩⟩
      | lst f1 h1 hs =>
        cases (Option.some.inj q)
        exact call_tuple_of pins s σ H _ us Q I r ⟨_, _, rfl, .inl ⟨.of h1, newTup_ok h rs hs⟩⟩
      | ref a =>
        obtain ⟨b, ys, e, h1, hs⟩ := lstOf_ok rs (show lstOf st (.ref a) = some zs from q) (.ref a)
        cases e
        exact call_tuple_of pins s σ H _ us Q I r ⟨_, _, rfl, .inl ⟨.of h1, newTup_ok h rs hs⟩⟩
      | non => cases q
      | bl _ => cases q
      | int _ => cases q
      | str _ => cases q
      | scr _ => cases q
  · obtain ⟨x, rfl, d⟩ := one ds
    cases d with
    | scr h1 => exact call_list_of pins s σ H _ us Q I r ⟨_, _, rfl, .inl h1.sq, newList_ok h rs (DVs.ints _)⟩
  · obtain ⟨x, rfl, d⟩ := one ds
    cases d with
    | tup h1 hs => exact call_list_of pins s σ H _ us Q I r ⟨_, _, rfl, .inr h1, newList_ok h rs hs⟩
  · obtain ⟨x, rfl, d⟩ := one ds
    cases d with
    | lst f1 h1 hs => exact call_list_of pins s σ H _ us Q I r ⟨_, _, rfl, .inl (.of h1), newList_ok h rs hs⟩
  · obtain ⟨x, rfl, d⟩ := one ds
    rename_i a
    cases q : lstOf st (.ref a) with
    | none => rw [q] at h; exact h.elim
    | some zs =>
      rw [q] at h
      obtain ⟨b, ys, rfl, h1, hs⟩ := lstOf_ok rs q d
      exact call_list_of pins s σ H _ us Q I r ⟨_, _, rfl, .inl (.of h1), newList_ok h rs hs⟩
  · obtain ⟨x, rfl, d⟩ := one ds
    rename_i v
    cases q : lstOf st v with
    | none => rw [q] at h; exact h.elim
    | some zs =>
      rw [q] at h
      have h : oP (blsOf zs) _ := h
      cases q2 : blsOf zs with
      | none => rw [q2] at h; exact h.elim
      | some bs =>
        rw [q2] at h
        obtain ⟨b, ys, rfl, h1, hs⟩ := lstOf_ok rs q d
        rw [bls_ok q2 hs] at h1
        exact cr_all hc pins s σ H _ us Q I r ⟨_, bs, rfl, .of h1, LQ.now h rs (.bl _)⟩
  · obtain ⟨x, rfl, d⟩ := one ds
    rename_i v
    cases q : lstOf st v with
    | none => rw [q] at h; exact h.elim
    | some zs =>
      rw [q] at h
      have h : oP (blsOf zs) _ := h
      cases q2 : blsOf zs with
      | none => rw [q2] at h; exact h.elim
      | some bs =>
        rw [q2] at h
        obtain ⟨b, ys, rfl, h1, hs⟩ := lstOf_ok rs q d
        rw [bls_ok q2 hs] at h1
        exact cr_any hc pins s σ H _ us Q I r ⟨_, bs, rfl, .of h1, LQ.now h rs (.bl _)⟩
  · obtain ⟨x, rfl, d⟩ := one ds
    rename_i v
    cases q : lstOf st v with
    | none => rw [q] at h; exact h.elim
    | some zs =>
      rw [q] at h
      have h : oP (intsOf zs) _ := h
      cases q2 : intsOf zs with
      | none => rw [q2] at h; exact h.elim
      | some bs =>
        rw [q2] at h
        obtain ⟨b, ys, rfl, h1, hs⟩ := lstOf_ok rs q d
        rw [ints_ok q2 hs] at h1
        exact cr_sum hc pins s σ H _ us Q I r ⟨_, bs, rfl, .of h1, LQ.now h rs (.int _)⟩
  · obtain ⟨x, rfl, d⟩ := one ds
    rename_i v
    cases q : lstOf st v with
    | none => rw [q] at h; exact h.elim
    | some zs =>
      rw [q] at h
      have h : oP (intsOf zs) _ := h
      cases q2 : intsOf zs with
      | none => rw [q2] at h; exact h.elim
      | some bs =>
        rw [q2] at h
        obtain ⟨ne, h⟩ := h
        obtain ⟨b, ys, rfl, h1, hs⟩ := lstOf_ok rs q d
        rw [ints_ok q2 hs] at h1
        refine cr_max hc pins s σ H _ us Q I r ⟨_, bs, rfl, .of h1, len_pos ne, fun k hk hge => ?_⟩
        have e : k = maxL bs := Int.le_antisymm (maxL_ge k hk) (hge _ (maxL_mem ne))
        rw [e]
        exact LQ.now h rs (.int _)
  · obtain ⟨x, rfl, d⟩ := one ds
    rename_i v
    cases q : lstOf st v with
    | none => rw [q] at h; exact h.elim
    | some zs =>
      rw [q] at h
      have h : oP (intsOf zs) _ := h
      cases q2 : intsOf zs with
      | none => rw [q2] at h; exact h.elim
      | some bs =>
        rw [q2] at h
        obtain ⟨ne, h⟩ := h
        obtain ⟨b, ys, rfl, h1, hs⟩ := lstOf_ok rs q d
        rw [ints_ok q2 hs] at h1
        refine cr_min hc pins s σ H _ us Q I r ⟨_, bs, rfl, .of h1, len_pos ne, fun k hk hge => ?_⟩
        have e : k = minL bs := Int.le_antisymm (hge _ (minL_mem ne)) (minL_le k hk)
        rw [e]
        exact LQ.now h rs (.int _)
  · obtain ⟨x, y, rfl, d, d'⟩ := two ds
    cases d; cases d'
    exact call_max2 hc pins s σ H _ us Q I r ⟨_, _, rfl, h.now rs (.int _)⟩
  · obtain ⟨x, y, rfl, d, d'⟩ := two ds
    cases d; cases d'
    exact call_min2 hc pins s σ H _ us Q I r ⟨_, _, rfl, h.now rs (.int _)⟩
  · obtain ⟨x, rfl, d⟩ := one ds
    obtain ⟨⟨h1, h2, h3⟩, h⟩ := h
    exact call_repr hg hu pins s σ H _ us Q I r ⟨_, _, rfl, res_ok rs d h3, toD_nodict _, h1, h2, (toD_lay h3).2, h.now rs (.str _)⟩
  · exact h.elim

/-! ### isinstance -/
def tyName : PV → String
  | .non => "NoneType" | .bl _ => "bool" | .int _ => "int" | .str _ => "str" | .tup _ => "tuple" | _ => "list"
theorem kit_table : (["NoneType", "bool", "int", "str", "tuple", "list"].all fun t => ["int", "bool", "str", "tuple", "list"].all fun c =>
    decide (kitB t c = some (t == c || (t == "bool" && c == "int")))) = true := by decide +kernel
theorem kit_ok {t c : String} (ht : t ∈ ["NoneType", "bool", "int", "str", "tuple", "list"]) (hc : c ∈ ["int", "bool", "str", "tuple", "list"]) : kitB t c = some (t == c || (t == "bool" && c == "int")) := by
  have h := List.all_eq_true.mp (List.all_eq_true.mp kit_table t ht) c hc
  exact of_decide_eq_true h
def tyStr (ty : Str) : Option String := if ty = ("int" : Str) then some "int" else if ty = ("bool" : Str) then some "bool" else if ty = ("str" : Str) then some "str" else if ty = ("tuple" : Str) then some "tuple" else if ty = ("list" : Str) then some "list" else none
theorem tyStr_ok {ty : Str} (h : tyOk ty = true) : ∃ c : String, c ∈ ["int", "bool", "str", "tuple", "list"] ∧ ty = Str.ofString c ∧ bootBuiltins ty = some (.type c) := by
  unfold tyOk at h
  simp only [Bool.or_eq_true, beq_iff_eq] at h
  rcases h with (((h | h) | h) | h) | h <;> subst h
  · exact ⟨"int", by decide, rfl, by decide +kernel⟩
  · exact ⟨"bool", by decide, rfl, by decide +kernel⟩
  · exact ⟨"str", by decide, rfl, by decide +kernel⟩
  · exact ⟨"tuple", by decide, rfl, by decide +kernel⟩
  · exact ⟨"list", by decide, rfl, by decide +kernel⟩
theorem TyX_ok {K : PySem.W.Frag} {H : Hp} {F : FS} {v : PV} {x : V} (d : DV K H F v x) (hv : ∀ a, v ≠ .ref a) (hs : ∀ a, v ≠ .scr a) : TyX K H x (.type (tyName v)) ∧ tyName v ∈ ["NoneType", "bool", "int", "str", "tuple", "list"] := by
  cases d with
  | non => exact ⟨.base .non, by decide⟩
  | bl b => exact ⟨.base (.bl b), by simp [tyName]⟩
  | int b => exact ⟨.base (.int b), by simp [tyName]⟩
  | str b => exact ⟨.base (.str b), by simp [tyName]⟩
  | tup h hs =>
    refine ⟨?_, by simp [tyName]⟩
    rcases h with (h | ⟨o, h⟩) | ⟨o, its, n, h, hc, _⟩
    · exact .base (.tup h)
    · exact .fTuple h
    · exact .kTuple h hc
  | lst f h hs => exact ⟨.base (.lst h), by simp [tyName]⟩
  | ref a => exact absurd rfl (hv a)
  | scr h => exact absurd rfl (hs _)
theorem isi_val {ty : Str} {c : String} (hc : c ∈ ["int", "bool", "str", "tuple", "list"]) (e : ty = Str.ofString c) {v : PV} {b : Bool} (h : isiV ty v = some b) :
    (∀ a, v ≠ .ref a) ∧ (∀ a, v ≠ .scr a) ∧ (tyName v == c || (tyName v == "bool" && c == "int")) = b := by
  subst e
  simp only [List.mem_cons, List.not_mem_nil, or_false] at hc
  cases v with
  | ref a => cases h
  | scr a => cases h
  | non =>
    have h' : some false = some b := h
    cases h'
    refine ⟨(fun a z => by cases z), (fun a z => by cases z), ?_⟩
    rcases hc with rfl | rfl | rfl | rfl | rfl <;> decide
  | bl _ =>
    have h' : some _ = some b := h
    cases h'
    refine ⟨(fun a z => by cases z), (fun a z => by cases z), ?_⟩
    rcases hc with rfl | rfl | rfl | rfl | rfl <;> (simp only [tyName]; decide +kernel)
  | int _ =>
    have h' : some _ = some b := h
    cases h'
    refine ⟨(fun a z => by cases z), (fun a z => by cases z), ?_⟩
    rcases hc with rfl | rfl | rfl | rfl | rfl <;> (simp only [tyName]; decide +kernel)
  | str _ =>
    have h' : some _ = some b := h
    cases h'
    refine ⟨(fun a z => by cases z), (fun a z => by cases z), ?_⟩
    rcases hc with rfl | rfl | rfl | rfl | rfl <;> (simp only [tyName]; decide +kernel)
  | tup _ =>
    have h' : some _ = some b := h
    cases h'
    refine ⟨(fun a z => by cases z), (fun a z => by cases z), ?_⟩
    rcases hc with rfl | rfl | rfl | rfl | rfl <;> (simp only [tyName]; decide +kernel)
  | lst _ =>
    have h' : some _ = some b := h
    cases h'
    refine ⟨(fun a z => by cases z), (fun a z => by cases z), ?_⟩
    rcases hc with rfl | rfl | rfl | rfl | rfl <;> (simp only [tyName]; decide +kernel)

/-! ### items, slices -/
theorem atI_map {K : PySem.W.Frag} {H : Hp} {F : FS} {xs : List PV} {ys : List V} {i : Int} {v : PV} (ds : DVs K H F xs ys) (e : atI xs i = some v) : ∃ y, atI ys i = some y ∧ DV K H F v y := by
  unfold atI at e ⊢
  rw [← ds.length]
  cases q : ixN xs.length i with
  | none => rw [q] at e; cases e
  | some j =>
    rw [q] at e
    exact ds.get e
theorem ix_ok : IxR X (rB X.K idxV) := by
  intro value slice pins s σ H x y vv uu Q I rx ry ⟨F, st, v, w, rs, dv, dw, h⟩ hs
  unfold idxV at h
  cases dw with
  | int i =>
    replace h : itemV i v st (LQ X.K F H Q) := h
    unfold itemV at h
    split at h
    · cases dv
      rename_i z
      cases q : atI z.cps.toList i with
      | none => rw [q] at h; exact h.2.elim
      | some c =>
        rw [q] at h
        exact ix_str value slice pins s σ H _ _ _ _ Q I rx ry ⟨z, i, c, rfl, rfl, h.1, q, LQ.now h.2 rs (.str _)⟩ hs
    · rename_i xs
      cases q : atI xs i with
      | none => rw [q] at h; exact h.elim
      | some c =>
        rw [q] at h
        cases dv with
        | tup h1 ds =>
          obtain ⟨y, e, d⟩ := atI_map ds q
          exact ix_tup value slice pins s σ H _ _ _ _ Q I rx ry ⟨_, _, i, y, rfl, rfl, h1, e, LQ.now h rs d⟩ hs
    · rename_i xs
      cases q : atI xs i with
      | none => rw [q] at h; exact h.elim
      | some c =>
        rw [q] at h
        cases dv with
        | lst f1 h1 ds =>
          obtain ⟨y, e, d⟩ := atI_map ds q
          exact ix_list value slice pins s σ H _ _ _ _ Q I rx ry ⟨_, _, i, y, rfl, rfl, .of h1, e, LQ.now h rs d⟩ hs
    · rename_i a
      cases q : lstOf st (.ref a) with
      | none => rw [q] at h; exact h.elim
      | some zs =>
        rw [q] at h
        have h : oP (atI zs i) _ := h
        cases q2 : atI zs i with
        | none => rw [q2] at h; exact h.elim
        | some c =>
          rw [q2] at h
          obtain ⟨b, ys, rfl, h1, ds⟩ := lstOf_ok rs q dv
          obtain ⟨y, e, d⟩ := atI_map ds q2
          exact ix_list value slice pins s σ H _ _ _ _ Q I rx ry ⟨_, _, i, y, rfl, rfl, .of h1, e, LQ.now h rs d⟩ hs
    · exact h.elim
  | _ => exact h.elim
theorem cut_ok {K : PySem.W.Frag} {H : Hp} {F : FS} {xs : List PV} {ys : List V} (ds : DVs K H F xs ys) (lo hi : Option Int) : DVs K H F (cutP xs lo hi) (cutV ys lo hi) := by
  unfold cutP cutV
  rw [ds.length]
  exact (ds.drop _).take _
theorem sl_ok {m : Bool} : SlR X (fun x lo hi H Q => ∃ F st v, RS X.K H F st ∧ DV X.K H F v x ∧ sliceV m v lo hi st (LQ X.K F H Q)) := by
  intro pins s σ H x v' vl vu lo hi sl Q I rx hs pl pu ⟨F, st, v, rs, dv, h⟩
  unfold sliceV at h
  split at h
  · cases dv with
    | tup h1 ds =>
      refine sl_tupA pins s σ H _ v' vl vu lo hi sl Q I rx hs pl pu ⟨_, _, rfl, h1, fun hw => ?_, fun _ => newTup_ok h rs (cut_ok ds lo hi)⟩
      refine LQ.now h rs ?_
      rw [← ds.length] at hw
      unfold cutP
      rw [hw.1, hw.2, List.drop_zero, Nat.sub_zero, List.take_length]
      exact .tup h1 ds
  · cases dv with
    | lst f1 h1 ds => exact sl_list pins s σ H _ v' vl vu lo hi sl Q I rx hs pl pu ⟨_, _, rfl, .of h1, newList_ok h rs (cut_ok ds lo hi)⟩
  · obtain ⟨xs, e, h⟩ := h
    cases dv
    obtain ⟨_, ys, h1, ds⟩ := rs.lst _ _ e
    exact sl_list pins s σ H _ v' vl vu lo hi sl Q I rx hs pl pu ⟨_, _, rfl, .of h1, newList_ok h rs (cut_ok ds lo hi)⟩
  · exact h.elim

/-! ### methods of lists -/
def MF.id : MF → String
  | .append => "list.append" | .extend => "list.extend" | .pop => "list.pop" | .index => "list.index"
theorem put_ok {K : PySem.W.Frag} {F : FS} {H : Hp} {Q : VK} {st : Store} {a : Addr} {xs : List PV} {ys ws : List V} {z : PV} {y : V} (h : LQ K F H Q z (up st a (some (.lst xs)))) (r : RS K H F st) (nf : ¬ F a) (ha : H a = some (.lst ws)) (ds : DVs K H F xs ys) (d : DV K H F z y) :
    Q y (upd H a (.lst ys)) := by
  have ni : ∀ u, H a = some u → ¬ Imm u := fun u e => by
    rw [ha] at e; cases e; exact fun z => z
  exact h F _ _ (.put nf ni) (r.put nf ni ds) (d.ext (.put nf ni))
theorem meth_ok {f : MF} : MtR X f.id (fun x xs H Q => ∃ F st v vs, RS X.K H F st ∧ DV X.K H F v x ∧ DVs X.K H F vs xs ∧ methV f v vs st (LQ X.K F H Q)) := by
  intro pins s σ H x xs v' us Q I rx r ⟨F, st, v, vs, rs, dv, ds, h⟩
  unfold methV at h
  split at h
  · obtain ⟨zs, e, hz, h⟩ := h
    cases dv
    cases ds with
    | cons d ds =>
      cases ds
      obtain ⟨nf, ys, h1, dz⟩ := rs.lst _ _ e
      exact mt_append pins s σ H _ _ v' us Q I rx r ⟨_, ys, _, rfl, rfl, h1, by rw [← dz.length]; exact hz, put_ok h rs nf h1 (dz.append (.cons d .nil)) .non⟩
  · obtain ⟨zs, ws, e, e', hz, h⟩ := h
    cases dv
    cases ds with
    | cons d ds =>
      cases ds
      obtain ⟨nf, ys, h1, dz⟩ := rs.lst _ _ e
      obtain ⟨b, us', rfl, h2, dw⟩ := lstOf_ok rs e' d
      exact mt_extend pins s σ H _ _ v' us Q I rx r ⟨_, b, ys, us', rfl, rfl, h1, h2, by rw [← dz.length, ← dw.length]; exact hz, put_ok h rs nf h1 (dz.append dw) .non⟩
  · obtain ⟨zs, y, e, e', h⟩ := h
    cases dv
    cases ds
    obtain ⟨nf, ys, h1, dz⟩ := rs.lst _ _ e
    rw [dz.length] at e'
    obtain ⟨y', e2, dy⟩ := dz.get e'
    exact mt_pop pins s σ H _ _ v' us Q I rx r ⟨_, ys, y', rfl, rfl, h1, e2, put_ok h rs nf h1 dz.dropLast dy⟩
  · rename_i w
    obtain ⟨zs, j, z, e, hw, hall, hz, he, hno, h⟩ := h
    cases ds with
    | cons d ds =>
      cases ds
      obtain ⟨b, ys, rfl, h1, dz⟩ := lstOf_ok rs e dv
      obtain ⟨z', e2, dzz⟩ := dz.get hz
      have sc : ∀ {k : Nat} {q : PV}, zs[k]? = some q → isSc q = true := fun hq => List.all_eq_true.mp hall _ (List.mem_of_getElem? hq)
      refine mt_index pins s σ H _ _ v' us Q I rx r ⟨b, ys, _, j, z', rfl, rfl, .of h1, sc_flat hw d, sc_flats hall dz, e2, by rw [sc_eqV (sc hz) hw dzz d]; exact he, fun k q hk hq => ?_, h.now rs (.int _)⟩
      obtain ⟨q', e3, dq⟩ := dz.get' hq
      rw [sc_eqV (sc e3) hw dq d]
      exact hno k q' hk e3
  · exact h.elim
theorem set_ok : PSet X (fun o i v H Q => ∃ F st ov iv vv, RS X.K H F st ∧ DV X.K H F ov o ∧ DV X.K H F iv i ∧ DV X.K H F vv v ∧ setIxV ov iv vv st (fun st' => ∀ F' H', Ext F H F' H' → RS X.K H' F' st' → Q H')) := by
  intro pins s σ H o i v ov iv u Q I ro ri rv ⟨F, st, o', i', v', rs, d1, d2, d3, h⟩
  unfold setIxV at h
  split at h
  · obtain ⟨xs, j, e, e2, h⟩ := h
    cases d1; cases d2
    obtain ⟨nf, ys, h1, dz⟩ := rs.lst _ _ e
    have ni : ∀ u, H _ = some u → ¬ Imm u := fun u e => by
      rw [h1] at e; cases e; exact fun z => z
    exact set_list pins s σ H _ _ _ ov iv u Q I ro ri rv ⟨_, ys, _, j, rfl, rfl, h1, by rw [← dz.length]; exact e2, h F _ (.put nf ni) (rs.put nf ni (dz.set d3 j))⟩
  · exact h.elim
end
end TK

set_option maxRecDepth 100000
set_option maxHeartbeats 2000000
namespace TK
open PySem PySem.Spec PyProof.Rows L2

/-! ### readings by the small language -/
def LE (K : PySem.W.Frag) (mg : Str → Option Value) (F : FS) (H : Hp) (E : XK) : EQ := fun e st' => ∀ F' H' cls d, Ext F H F' H' → RS K H' F' st' → ExRep K mg H' F' e cls d → E cls d H'
abbrev LX (X : Cx) (W : WX) (σ : L2.St) (F : FS) (H : Hp) : EQ := LE X.K X.mg F H (fun cls d H' => W cls d σ H')
theorem LE.ext {K : PySem.W.Frag} {mg : Str → Option Value} {F F' : FS} {H H' : Hp} {E : XK} (x : Ext F H F' H') : ∀ e s, LE K mg F H E e s → LE K mg F' H' E e s := fun e s h F2 H2 cls d x2 r q => h F2 H2 cls d (x.trans x2) r q
def tl (X : Cx) (W : WX) (w : EQ → Sl → Store → PQ → Prop) : TE := fun σ H Q => ∃ F τ st, RS X.K H F st ∧ RSl X.K H F τ σ ∧ w (LX X W σ F H) τ st (LQ X.K F H Q)
def tlA (X : Cx) (W : WX) (w : EQ → Sl → Store → (List PV → Store → Prop) → Prop) : TA := fun σ H Q => ∃ F τ st, RS X.K H F st ∧ RSl X.K H F τ σ ∧
  w (LX X W σ F H) τ st fun vs st' => ∀ F' H' ys, Ext F H F' H' → RS X.K H' F' st' → DVs X.K H' F' vs ys → Q ys H'
def tlT (X : Cx) (W : WX) (w : EQ → Sl → Store → (Bool → Store → Prop) → Prop) : TT := fun σ H Q => ∃ F τ st, RS X.K H F st ∧ RSl X.K H F τ σ ∧
  w (LX X W σ F H) τ st fun b st' => ∀ F' H', Ext F H F' H' → RS X.K H' F' st' → Q b H'
def tlO (X : Cx) (W : WX) (w : EQ → Sl → Store → (Option Int → Store → Prop) → Prop) : TO := fun σ H Q => ∃ F τ st, RS X.K H F st ∧ RSl X.K H F τ σ ∧
  w (LX X W σ F H) τ st fun b st' => ∀ F' H', Ext F H F' H' → RS X.K H' F' st' → Q b H'
/-- a walk over items -/
structure WP (K : PySem.W.Frag) (J : It) (F0 : FS) (H0 : Hp) (xs : List PV) (ok : Store → Prop) : Prop where
  mono : ∀ s t, Sub s t → ok s → ok t
  go : ∀ i F H st, i < xs.length → Ext F0 H0 F H → RS K H F st → ok st → J.go i H
  stop : ∀ F H st, Ext F0 H0 F H → RS K H F st → ok st → J.stop xs.length H
  yld : ∀ i F H st x H', i < xs.length → Ext F0 H0 F H → RS K H F st → ok st → J.yld i H x H' → Ext F H F H' ∧ RS K H' F st ∧ ∃ v, xs[i]? = some v ∧ DV K H' F v x
def tlI (X : Cx) (W : WX) (r : Bool) (w : EQ → Sl → Store → (List PV → (Store → Prop) → Store → Prop) → Prop) : TI := fun σ H R => ∃ F τ st, RS X.K H F st ∧ RSl X.K H F τ σ ∧
  w (LX X W σ F H) τ st fun xs ok st' => ∀ F' H' J, Ext F H F' H' → RS X.K H' F' st' → WP X.K J F' H' xs ok → (r = false → xs.length ≤ sizeLine) → R J H'

theorem impE {X : Cx} {e : Expr} {t t' : TE} (h : PE X e t) (i : ∀ σ H Q, t' σ H Q → t σ H Q) : PE X e t' := ⟨fun pins s σ H Q I q => h.run pins s σ H Q I (i σ H Q q)⟩
theorem impT {X : Cx} {e : Expr} {t t' : TT} (h : PT X e t) (i : ∀ σ H Q, t' σ H Q → t σ H Q) : PT X e t' := ⟨fun pins s σ H Q I q => h.run pins s σ H Q I (i σ H Q q)⟩
theorem impW {X : Cx} {e : Expr} {t t' : TT} (h : PW X e t) (i : ∀ σ H Q, t' σ H Q → t σ H Q) : PW X e t' := ⟨fun wh pins s σ H Q I q => h.run wh pins s σ H Q I (i σ H Q q)⟩
theorem impA {X : Cx} {e : List Expr} {t t' : TA} (h : PA X e t) (i : ∀ σ H Q, t' σ H Q → t σ H Q) : PA X e t' := ⟨fun pos pins s σ H Q I q => h.run pos pins s σ H Q I (i σ H Q q)⟩
theorem impO {X : Cx} {e : Option Expr} {t t' : TO} (h : PO X e t) (i : ∀ σ H Q, t' σ H Q → t σ H Q) : PO X e t' := ⟨fun pins s σ H Q I q => h.run pins s σ H Q I (i σ H Q q)⟩
theorem impI {X : Cx} {g e : Expr} {t t' : TI} (h : PI X g e t) (i : ∀ σ H Q, t' σ H Q → t σ H Q) : PI X g e t' := ⟨fun pins s σ H Q I q => h.run pins s σ H Q I (i σ H Q q)⟩
theorem impTs {X : Cx} {e : List Expr} {t t' : TT} (h : PTs X e t) (i : ∀ σ H Q, t' σ H Q → t σ H Q) : PTs X e t' := ⟨fun pins s σ H Q I q => h.run pins s σ H Q I (i σ H Q q)⟩
theorem impS {X : Cx} {e : Stmt} {t t' : TS} (h : PS X e t) (i : ∀ D σ H, t' D σ H → t D σ H) : PS X e t' := ⟨fun pins s σ H D I q => h.run pins s σ H D I (i D σ H q)⟩
theorem impSs {X : Cx} {e : List Stmt} {t t' : TS} (h : PSs X e t) (i : ∀ D σ H, t' D σ H → t D σ H) : PSs X e t' := ⟨fun pins s σ H D I q => h.run pins s σ H D I (i D σ H q)⟩
theorem impG {X : Cx} {e : Expr} {t t' : L2.TG} (h : PG X e t) (i : ∀ v σ H Q, t' v σ H Q → t v σ H Q) : PG X e t' := ⟨fun pins s σ H v u Q I r q => h.run pins s σ H v u Q I r (i v σ H Q q)⟩

section
variable {X : Cx} {W : WX} {σ : L2.St} {F0 F : FS} {H0 H : Hp} {τ : Sl} {st : Store}
theorem tl_go {wa : EQ → Sl → Store → PQ → Prop} {K0 : PQ} {Q1 : VK} (m : ∀ {X X' : EQ} {τ st} {Q Q' : PQ}, (∀ e s, X e s → X' e s) → (∀ v s, Q v s → Q' v s) → wa X τ st Q → wa X' τ st Q')
    (e0 : Ext F0 H0 F H) (rs : RS X.K H F st) (sl : RSl X.K H F τ σ) (h : wa (LX X W σ F0 H0) τ st K0)
    (n : ∀ F1 H1 x v st1, Ext F H F1 H1 → RS X.K H1 F1 st1 → RSl X.K H1 F1 τ σ → DV X.K H1 F1 v x → K0 v st1 → Q1 x H1) : tl X W wa σ H Q1 :=
  ⟨F, τ, st, rs, sl, m (LE.ext e0) (fun v st1 hk F1 H1 x e1 rs1 d => n F1 H1 x v st1 e1 rs1 (sl.ext e1) d hk) h⟩
theorem tlA_go {wa : EQ → Sl → Store → (List PV → Store → Prop) → Prop} {K0 : List PV → Store → Prop} {Q1 : List V → Hp → Prop} (m : ∀ {X X' : EQ} {τ st} {Q Q' : List PV → Store → Prop}, (∀ e s, X e s → X' e s) → (∀ v s, Q v s → Q' v s) → wa X τ st Q → wa X' τ st Q')
    (e0 : Ext F0 H0 F H) (rs : RS X.K H F st) (sl : RSl X.K H F τ σ) (h : wa (LX X W σ F0 H0) τ st K0)
    (n : ∀ F1 H1 x v st1, Ext F H F1 H1 → RS X.K H1 F1 st1 → RSl X.K H1 F1 τ σ → DVs X.K H1 F1 v x → K0 v st1 → Q1 x H1) : tlA X W wa σ H Q1 :=
  ⟨F, τ, st, rs, sl, m (LE.ext e0) (fun v st1 hk F1 H1 x e1 rs1 d => n F1 H1 x v st1 e1 rs1 (sl.ext e1) d hk) h⟩
theorem tlT_go {wa : EQ → Sl → Store → (Bool → Store → Prop) → Prop} {K0 : Bool → Store → Prop} {Q1 : Bool → Hp → Prop} (m : ∀ {X X' : EQ} {τ st} {Q Q' : Bool → Store → Prop}, (∀ e s, X e s → X' e s) → (∀ v s, Q v s → Q' v s) → wa X τ st Q → wa X' τ st Q')
    (e0 : Ext F0 H0 F H) (rs : RS X.K H F st) (sl : RSl X.K H F τ σ) (h : wa (LX X W σ F0 H0) τ st K0)
    (n : ∀ F1 H1 v st1, Ext F H F1 H1 → RS X.K H1 F1 st1 → RSl X.K H1 F1 τ σ → K0 v st1 → Q1 v H1) : tlT X W wa σ H Q1 :=
  ⟨F, τ, st, rs, sl, m (LE.ext e0) (fun v st1 hk F1 H1 e1 rs1 => n F1 H1 v st1 e1 rs1 (sl.ext e1) hk) h⟩
theorem tlO_go {wa : EQ → Sl → Store → (Option Int → Store → Prop) → Prop} {K0 : Option Int → Store → Prop} {Q1 : Option Int → Hp → Prop} (m : ∀ {X X' : EQ} {τ st} {Q Q' : Option Int → Store → Prop}, (∀ e s, X e s → X' e s) → (∀ v s, Q v s → Q' v s) → wa X τ st Q → wa X' τ st Q')
    (e0 : Ext F0 H0 F H) (rs : RS X.K H F st) (sl : RSl X.K H F τ σ) (h : wa (LX X W σ F0 H0) τ st K0)
    (n : ∀ F1 H1 v st1, Ext F H F1 H1 → RS X.K H1 F1 st1 → RSl X.K H1 F1 τ σ → K0 v st1 → Q1 v H1) : tlO X W wa σ H Q1 :=
  ⟨F, τ, st, rs, sl, m (LE.ext e0) (fun v st1 hk F1 H1 e1 rs1 => n F1 H1 v st1 e1 rs1 (sl.ext e1) hk) h⟩
theorem tlI_go {r : Bool} {wa : EQ → Sl → Store → (List PV → (Store → Prop) → Store → Prop) → Prop} {K0 : List PV → (Store → Prop) → Store → Prop} {Q1 : It → Hp → Prop} (m : ∀ {X X' : EQ} {τ st} {Q Q' : List PV → (Store → Prop) → Store → Prop}, (∀ e s, X e s → X' e s) → (∀ v o s, Q v o s → Q' v o s) → wa X τ st Q → wa X' τ st Q')
    (e0 : Ext F0 H0 F H) (rs : RS X.K H F st) (sl : RSl X.K H F τ σ) (h : wa (LX X W σ F0 H0) τ st K0)
    (n : ∀ F1 H1 J xs ok st1, Ext F H F1 H1 → RS X.K H1 F1 st1 → RSl X.K H1 F1 τ σ → WP X.K J F1 H1 xs ok → (r = false → xs.length ≤ sizeLine) → K0 xs ok st1 → Q1 J H1) : tlI X W r wa σ H Q1 :=
  ⟨F, τ, st, rs, sl, m (LE.ext e0) (fun xs ok st1 hk F1 H1 J e1 rs1 wp hz => n F1 H1 J xs ok st1 e1 rs1 (sl.ext e1) wp hz hk) h⟩
end

/-! ### a def, called -/
/-- a def's promise, laid into the layer's heap -/
def liftSp (K : PySem.W.Frag) (mg : Str → Option Value) (n : Nat) (sp : PSpec) : Sp := fun vs H Q E => ∃ F st pvs, RS K H F st ∧ DVs K H F pvs vs ∧ vs.length = n ∧ callS sp pvs st (LE K mg F H E) (LQ K F H Q)
structure FnG (P : Program) (w : World) (K : PySem.W.Frag) (mg : Str → Option Value) (base : Heap) (k : Nat) (f : Addr) (fd : FuncData) (ps : List Str) (sp : Sp) : Prop where
  len : ∀ vs H Q E, sp vs H Q E → vs.length = ps.length
  run : ∀ (A : Around) (outer : List Env) (s : Shared) (H : Hp) (args : Args) (us : List Value) (vs : List V) (Q : VK) (E : XK), A.guards = some [] → Room k A →
    Env0 P w K mg base A outer s H → BindsTo s fd args (ps.zip us) → Vals vs us → sp vs H Q E →
    codeAny (model P w) A (.call (.ref f) args) (CR (L2.CX P w) outer P w H s Q E) s
theorem FnG.mono {P : Program} {w : World} {K : PySem.W.Frag} {mg : Str → Option Value} {base : Heap} {j k : Nat} {f : Addr} {fd : FuncData} {ps : List Str} {sp : Sp} (F : FnG P w K mg base j f fd ps sp) (h : j ≤ k) : FnG P w K mg base k f fd ps sp :=
  ⟨F.len, fun A outer s H args us vs Q E hg hr => F.run A outer s H args us vs Q E hg (hr.mono h)⟩
/-- the program around a body: what runs, what the module's names hold -/
structure Wd where
  P : Program
  w : World
  K : PySem.W.Frag
  mg : Str → Option Value
  base : Heap
def HasFn (Γ : Wd) (k : Nat) (f : Str) (sp : PSpec) (n : Nat) : Prop := ∃ (fa : Addr) (fd : FuncData) (ps : List Str), Γ.mg f = some (.ref fa) ∧ PySem.W.keepIn Γ.K (.ref fa) = true ∧ Binds Γ.K fd ps [] ∧ ps.length = n ∧
  FnG Γ.P Γ.w Γ.K Γ.mg Γ.base k fa fd ps (liftSp Γ.K Γ.mg n sp)
theorem HasFn.mono {Γ : Wd} {j k : Nat} {f : Str} {sp : PSpec} {n : Nat} (h : HasFn Γ j f sp n) (hk : j ≤ k) : HasFn Γ k f sp n := by
  obtain ⟨fa, fd, ps, a, b, c, d, e⟩ := h
  exact ⟨fa, fd, ps, a, b, c, d, e.mono hk⟩
def HasGl (Γ : Wd) (x : Str) (v : PV) : Prop := ∃ (u : Value) (y : V), Γ.mg x = some u ∧ L2.RelV y u ∧ ∀ H F, DV Γ.K H F v y
abbrev wdX (X : Cx) : Wd := ⟨X.prog, X.w, X.K, X.mg, X.base⟩
section
variable {X : Cx} {pins : List (Addr × Obj)} {σ : L2.St} {H : Hp} {s : Shared} {W : WX}
theorem run_g {k : Nat} {f : Addr} {fd : FuncData} {ps : List Str} {sp : Sp} {Q : VK} {E : XK} {us : List Value} {vs : List V} (F : FnG X.prog X.w X.K X.mg X.base k f fd ps sp) (hg : X.A.guards = some []) (hr : Room k X.A) (hb : Binds X.K fd ps [])
    (hx : PassesAt (L2.CX X.prog X.w) X σ E) (I : L2.Inv X pins σ H s) (r : Vals vs us) (h : sp vs H Q E) : wpAny (model X.prog X.w) X.A (call (.ref f) us) (EP X pins σ Q) X.xe s := by
  have hl : us.length = ps.length := by
    rw [← r.length]
    exact F.len _ _ _ _ h
  have hz : (us ++ ([] : List Value)).length = ps.length := by
    rw [List.append_nil]; exact hl
  have b := hb s us I.kIn hz
  rw [List.append_nil] at b
  refine wpAny_call (codeAny_mono (F.run X.A X.stack s H ⟨us, []⟩ us vs Q E hg hr I.env0 b r h) fun q s' hq => ?_)
  cases q with
  | error e => exact hx pins H s e s' I hq
  | ok fl =>
    cases fl with
    | ret u => exact I.after hq
    | _ => exact hq.elim
end

/-! ### where a term is read -/
def bltNames : List Str := ["len", "int", "abs", "tuple", "list", "all", "any", "sum", "min", "max", "repr", "isinstance", "range", "enumerate", "zip", "bool", "str"]
structure CxOk (X : Cx) (C : SC) (k : Nat) (W : WX) : Prop where
  hN : X.N = C.N
  nd : C.N.Nodup
  hsc : X.env.scope = C.sc
  calm : X.calm = true
  kindF : C.sc.kind = .function
  room : Room k X.A
  gds : X.A.guards = some []
  tk : L2.Takes X W
  po : PassesOwn (model X.prog X.w) X.A X.env X.xe
  tg : ∀ x, locB C.tsc x = true → Loc C.sc x ∧ (X.fn x = true ∨ C.sc.names.lookup x = some .local)
  blt : ∀ x ∈ bltNames, X.mg x = none
section
variable {X : Cx} {C : SC} {k : Nat} {W : WX}
theorem CxOk.vis (ok : CxOk X C k W) {x : Str} (h : visB C.sc x = true) : Vis X.env.scope x := by
  rw [ok.hsc]
  unfold visB at h
  split at h <;> first | exact .inl ‹_› | exact .inr (.inl ‹_›) | exact .inr (.inr ‹_›) | cases h
theorem CxOk.gl (ok : CxOk X C k W) {x : Str} (h : glB C.sc x = true) : Gl X x ∧ (x == ("__debug__" : Str)) = false := by
  unfold glB at h
  split at h
  · rename_i e
    refine ⟨?_, by simpa using h⟩
    show X.env.scope.names.lookup x = _
    rw [ok.hsc]; exact e
  · cases h
theorem CxOk.bn (ok : CxOk X C k W) (f : BF) : X.mg f.name = none := by
  refine ok.blt _ ?_
  cases f <;> decide +kernel
theorem boot_bf (f : BF) : bootBuiltins f.name = some f.val ∧ f.name ≠ "__name__" := by
  cases f <;> exact ⟨by decide +kernel, by decide +kernel⟩
theorem nm_ok (ok : CxOk X C k W) {i : Nat} {x : Str} {pos : Pos} (h : nmB C i x = true) : PE X (.Name x pos) (tVar i) := by
  unfold nmB at h
  simp only [Bool.and_eq_true, decide_eq_true_eq, Bool.not_eq_true'] at h
  obtain ⟨⟨⟨h1, h2⟩, h3⟩, h4⟩ := h
  exact pe_var (by rw [ok.hN]; exact h1) (ok.vis h2) h3 h4
theorem star_cons {e : Expr} {es : List Expr} {env : Env} (h : notStar e = true) : starEach (e :: es) env = (false, eval e env) :: starEach es env := by
  cases e <;> first | rfl | cases h
theorem chkEs_star : ∀ {as : Es} {C : SC} {es : List Expr}, chkEs as C es = true → ∀ env : Env, (starEach es env).all (fun x => !x.1) = true
  | .nil, C, es, h, env => by
    cases es with
    | nil => rfl
    | cons e r => cases h
  | .cons a as, C, es, h, env => by
    cases es with
    | nil => cases h
    | cons e r =>
      have h' : (notStar e && chkE a C e && chkEs as C r) = true := h
      simp only [Bool.and_eq_true] at h'
      rw [star_cons h'.1.1, List.all_cons, chkEs_star h'.2 env]
      rfl
theorem backTo_any {l : List (Bool × Sem Value)} {pos : Pos} (h : l.all (fun x => !x.1) = true) : (backTo pos l).any (·.1) = false := by
  unfold backTo
  rw [List.any_map, List.any_eq_false]
  intro x hx
  have := List.all_eq_true.mp h x hx
  simpa using this
theorem backTo_all {l : List (Bool × Sem Value)} {pos : Pos} (h : l.all (fun x => !x.1) = true) : (backTo pos l).all (fun x => !x.1) = true := by
  unfold backTo
  rw [List.all_map, List.all_eq_true]
  intro x hx
  exact List.all_eq_true.mp h x hx
end
theorem chkEs_len : ∀ {as : Es} {C : SC} {es : List Expr}, chkEs as C es = true → es.length = as.len
  | .nil, C, es, h => by
    cases es with
    | nil => rfl
    | cons e r => cases h
  | .cons a as, C, es, h => by
    cases es with
    | nil => cases h
    | cons e r =>
      have h' : (notStar e && chkE a C e && chkEs as C r) = true := h
      simp only [Bool.and_eq_true] at h'
      exact congrArg (· + 1) (chkEs_len h'.2)
theorem wpEs_len : ∀ (es : Es) {X : EQ} {τ : Sl} {st : Store} {Q : List PV → Store → Prop}, wpEs es X τ st Q → wpEs es X τ st fun vs s => vs.length = es.len ∧ Q vs s
  | .nil, _, _, _, _, h => ⟨rfl, h⟩
  | .cons e es, X, τ, st, Q, h => by
    unfold wpEs at h ⊢
    exact wpE_mono e (fun _ _ h => h) (fun v s h => wpEs_mono es (fun _ _ h => h) (fun vs s h => ⟨congrArg (· + 1) h.1, h.2⟩) (wpEs_len es h)) h
end TK

set_option maxRecDepth 100000
set_option maxHeartbeats 4000000
namespace TK
open PySem PySem.Spec PyProof.Rows L2
open PySem.AutoSeq1 (wpAny_loadPart')
/-! ### enumerate over a tuple -/
theorem meets_enumT (l : Addr) (items : Array Value) (n : Nat) (dct : Option Addr) (sl : Array (Option Value)) :
    Meets (Builtin.«enumerate.__new__» ⟨[.type "enumerate", .ref l], []⟩) (fun _ R s => s.heap.get? l = some { cls := .type "tuple", dict := dct, data := .seq items n, slots := sl } ∧
      R (.ok (.ret (.ref (s.heap.push { cls := .type "tuple_iterator", data := .fields #[.ref l, .int 0 0] }).objs.size)))
        { s with heap := (s.heap.push { cls := .type "tuple_iterator", data := .fields #[.ref l, .int 0 0] }).push { cls := .type "enumerate", data := .fields #[.none, .bool false, .ref s.heap.objs.size, rawInt 0, .none, .none] } }) :=
  .of_wp fun prog w A R s h => by
    obtain ⟨hp, g, d, tk, os⟩ := s; obtain ⟨hl, h⟩ := h
    have hsub := sub_enumerate
    have hL : Heap.IsTuple (Shared.heap ⟨hp, g, d, tk, os⟩) l items := ⟨_, hl, rfl, n, rfl⟩
    wp_walk using wpAny_loadPart' hl
    refine wpAny_stack_any fun st => wpAny_pure ?_
    split
    · rename_i c _ _ _ _ _
      cases (c == Value.type "enumerate")
      · wp_walk using wpAny_loadPart' hl, wpAny_pyIter_tuple hL
        exact ⟨_, rfl, h⟩
      · wp_walk using wpAny_loadPart' hl, wpAny_pyIter_tuple hL
        exact ⟨_, rfl, h⟩
    · wp_walk using wpAny_loadPart' hl, wpAny_pyIter_tuple hL
      exact ⟨_, rfl, h⟩
theorem call_enumT {prog : Program} {w : World} {A : Around} {E : Value → Shared → Prop} {s : Shared} {l : Addr} {items : Array Value} {Q : Value → Shared → Prop} (hL : s.heap.IsTuple l items)
    (h : ∀ h', IsEnum h' (s.heap.objs.size + 1) s.heap.objs.size 0 .none → h'.IsTupleIter s.heap.objs.size l 0 → h'.objs.size = s.heap.objs.size + 2 →
      (∀ b o, s.heap.get? b = some o → h'.get? b = some o) → Q (.ref (s.heap.objs.size + 1)) { s with heap := h' }) :
    wpAny (model prog w) A (call (.type "enumerate") [.ref l]) Q E s := by
  obtain ⟨⟨c, dct, dt, sl⟩, hl, hc, n, hd⟩ := hL
  replace hc : c = .type "tuple" := hc
  replace hd : dt = .seq items n := hd
  subst hc hd
  refine callType_new F.called_enumerate (by decide) (F.typeCall_enumerate_1 _) (F.newCall_enumerate_1 _) (fun obj => F.args_object_init_2 obj _) F.entry_enumerate_new
    (meets_enumT l items n dct sl) ⟨hl, ?_⟩
  have hz : (s.heap.push { cls := .type "tuple_iterator", data := .fields #[.ref l, .int 0 0] }).objs.size = s.heap.objs.size + 1 := Heap.size_push ..
  show _ ∧ _
  rw [hz]
  have he : IsEnum ((s.heap.push { cls := .type "tuple_iterator", data := .fields #[.ref l, .int 0 0] }).push
      { cls := .type "enumerate", data := .fields #[.none, .bool false, .ref s.heap.objs.size, rawInt 0, .none, .none] }) (s.heap.objs.size + 1) s.heap.objs.size 0 .none := by
    have := Heap.get?_push_size (s.heap.push { cls := .type "tuple_iterator", data := .fields #[.ref l, .int 0 0] })
      (o := { cls := .type "enumerate", data := .fields #[.none, .bool false, .ref s.heap.objs.size, rawInt 0, .none, .none] }) rfl
    rw [hz] at this; exact this
  refine ⟨⟨_, he, rfl⟩, h _ he ⟨_, Heap.get?_push_of_some _ (Heap.get?_push_size _ rfl), rfl, rfl⟩ (by rw [Heap.size_push, hz]) fun b o x => Heap.get?_push_of_some _ (Heap.get?_push_of_some _ x)⟩

def IteT (K : PySem.W.Frag) (a : Addr) : It :=
  ⟨fun i H => ∃ (xs : List V) (x : V), SqT K H a xs ∧ xs[i]? = some x, fun i H v H' => ∃ T x, v = .ref T ∧ H T = none ∧ H' = upd H T (.tup [.int (i : Nat), x]) ∧ ∀ xs, SqT K H a xs → xs[i]? = some x, fun i H => ∃ xs : List V, SqT K H a xs ∧ xs.length ≤ i⟩
theorem turn_enumT {P : Program} {w : World} {K : PySem.W.Frag} {elts : List Expr} {kk : Nat} {tpos : Pos} (a e it : Addr) :
    Turn P w K (.Tuple elts kk tpos) (IteT K a) [e, it] e (fun i h => (∃ old, IsEnum h e it ((i : Nat) : Int) old) ∧ h.IsTupleIter it a i ∧ e ≠ it) where
  mem := by simp
  obj := fun i h st b hb => by
    obtain ⟨⟨old, he⟩, ⟨o, ho, hc, hd⟩, _⟩ := st
    have e' : b = e ∨ b = it := by simpa using hb
    rcases e' with z | z
    · rw [z]; exact ⟨_, he, fun v q => nomatch q⟩
    · rw [z]; exact ⟨o, ho, fun v q => by rw [hd] at q; cases q⟩
  keep := fun i h h' st k => let ⟨⟨old, he⟩, hi, hne⟩ := st; ⟨⟨old, k e (by simp) _ he⟩, hi.at fun o q => k it (by simp) o q, hne⟩
  item := by
    intro X hP hw hK hc i pins s σ H E I hf st hg
    subst hP hw hK
    obtain ⟨⟨old, he⟩, hit, hne⟩ := st
    obtain ⟨xs, x, hq, hx⟩ := hg
    obtain ⟨its, rv, p, hz⟩ := I.tuple hq
    obtain ⟨u, hu, ru⟩ := rv.get hx
    have hel : e < s.heap.objs.size := Heap.lt_size he
    have hil : it < s.heap.objs.size := by obtain ⟨_, q, _⟩ := hit; exact Heap.lt_size q
    have pT : s.heap.IsTuple a its.toArray := p
    have hai : a ≠ it := fun z => by
      obtain ⟨o, h1, h2, _⟩ := hit
      obtain ⟨o2, h3, h4, _⟩ := pT
      rw [z, h1] at h3
      cases h3
      rw [h2] at h4
      exact absurd h4 (by decide)
    have hae : a ≠ e := fun z => by
      obtain ⟨o2, h3, h4, _⟩ := pT
      rw [z, he] at h3
      cases h3
      have h5 : Value.type "enumerate" = Value.type "tuple" := h4
      exact absurd h5 (by decide)
    have hh : X.A.in1.handled = none := I.ok.hd hc
    have hltI : i < its.toArray.size := by
      have := (List.getElem?_eq_some_iff.mp hu).1
      simpa using this
    refine wpAny_pyNext_enum_itemD (Draws.tuple hh it a hai its.toArray) he ⟨hit, pT⟩ hltI hne (by simp [hne, Ne.symm hae]) fun y h' tk hy ho hst hT hsz hk => ?_
    have ey : y = u := by
      have hy' : its.toArray[i]? = some y := hy
      rw [List.getElem?_toArray, hu] at hy'
      exact (Option.some.inj hy').symm
    subst ey
    refine ⟨_, rfl, wpAny_letOwnedTupleGo_enum (s := { s with heap := h', toks := tk + 1 }) ho fun h'' he' sb => ?_⟩
    have hT2 : h''.get? s.heap.objs.size = some { cls := .type "tuple", data := .seq #[.int i tk, y] } := (sb.2 _ (Nat.ne_of_gt hel)).trans hT
    have new : ObjOk X.prog X.w (upd H s.heap.objs.size (.tup [.int (i : Nat), x])) h'' s.heap.objs.size (.tup [.int (i : Nat), x]) :=
      ⟨by show 2 ≤ sizeLine; decide, [.int i tk, y], .cons ⟨_, rfl⟩ (.cons ru .nil), ⟨_, hT2, rfl, _, rfl⟩⟩
    have I1 : Inv X pins σ (upd H s.heap.objs.size (.tup [.int (i : Nat), x])) { s with heap := h'', toks := tk + 1 } :=
      I.turnedNew (ch := [e, it]) (fun b ob hb q => (sb.2 b (fun z => hb (by simp [z]))).trans (hk b ob (fun z => hb (by simp [z])) (fun z => hb (by simp [z])) q)) hf (Nat.le_refl _) new
    refine ⟨.ref s.heap.objs.size, _, I1, rfl, ⟨_, x, rfl, I.hok.fresh (Nat.le_refl _), rfl, fun ys hy => by rw [I.tuple_inj hy hq]; exact hx⟩, ⟨⟨y, ?_⟩, hst.1.at fun o q => (sb.2 it (Ne.symm hne)).trans q, hne⟩, fun b hb => ?_⟩
    · have e1 : ((i + 1 : Nat) : Int) = (i : Int) + 1 := by omega
      rw [e1]; exact he'
    · have hb' : b < s.heap.objs.size := by
        have e' : b = e ∨ b = it := by simpa using hb
        rcases e' with z | z
        · rw [z]; exact hel
        · rw [z]; exact hil
      rw [upd_ne (Nat.ne_of_lt hb')]
      exact (hf b hb).1
  done := by
    intro X hP hw hK hc i pins s σ H E I hf st hg
    subst hP hw hK
    obtain ⟨⟨old, he⟩, hit, hne⟩ := st
    obtain ⟨xs, hq, hx⟩ := hg
    obtain ⟨its, rv, p, hz⟩ := I.tuple hq
    obtain ⟨f0, f1, f2, f3, f4, f5⟩ := hf it (by simp)
    have hl := rv.length
    have pT : s.heap.IsTuple a its.toArray := p
    have hh : X.A.in1.handled = none := I.ok.hd hc
    have hno : its.toArray[i]? = none := by
      rw [List.getElem?_toArray]
      exact List.getElem?_eq_none (by omega)
    have hai : a ≠ it := fun z => by
      obtain ⟨o, h1, h2, _⟩ := hit
      obtain ⟨o2, h3, h4, _⟩ := pT
      rw [z, h1] at h3
      cases h3
      rw [h2] at h4
      exact absurd h4 (by decide)
    have D : Draws X.prog X.w X.A.in1 it [it, a] i (fun _ _ => False) (fun j h => j = i ∧ h.IsTupleIter it a i ∧ h.IsTuple a its.toArray) :=
      { live := fun _ _ st => let ⟨o, ho, _⟩ := st.2.1; ⟨o, ho⟩
        frame := fun _ _ _ st hk => ⟨st.1, st.2.1.at fun o e => hk it (by simp) o e, st.2.2.at fun o e => hk a (by simp) o e⟩
        item := fun j s Q E hj st hQ => absurd st.1 (Nat.ne_of_lt hj)
        done := fun s Q E st hE => wpAny_nextOf_tuple_end hh st.2.1 st.2.2 hno hE }
    exact wpAny_pyNext_enum_endD D he ⟨rfl, hit, pT⟩ fun h' eb => ⟨rfl, I.turned (t' := s.toks) (fun b o hb q => eb b o hb q) f0 f1 f3 f4 f5⟩
  self := fun A i s Q E st h => let ⟨⟨_, he⟩, _⟩ := st; wpAny_pyIter_enum he h

/-- enumerate over a list or a tuple -/
def iEnumA (K : PySem.W.Frag) (ta : TA) : TI := fun σ H R => ta σ H fun vs H1 => ∃ a xs, vs = [.ref a] ∧ ((SqL K H1 a xs ∧ R (Ite K a) H1) ∨ (SqT K H1 a xs ∧ R (IteT K a) H1))
theorem pi_enumA {X : Cx} {e : Expr} {ta : TA} {p pos tpos : Pos} {elts : List Expr} {kk : Nat} (hg : Gl X "enumerate") (hm : X.mg "enumerate" = none) (ha : PA X [e] ta) (hs : starEach [e] X.env = [(false, eval e X.env)] := by rfl) :
    PI X (.Tuple elts kk tpos) (.Call (.Name "enumerate" p) [e] [] pos) (iEnumA X.K ta) := by
  refine ⟨fun pins s σ H R I h => ?_⟩
  refine Call_ (ld_blt I hg hm boot_enumerate (PyProof.Rows.callWith_type1 (thn (ha.run pos pins s σ H _ I h) fun us s1 ⟨vs, H1, I1, r1, q1⟩ => ?_) hs rfl))
  obtain ⟨a, xs, ex, q⟩ := q1
  subst ex
  cases r1 with
  | cons r rr =>
    cases rr
    cases r
    have fpk : ∀ b, b ∈ [s1.heap.objs.size + 1, s1.heap.objs.size] → s1.heap.objs.size ≤ b := fun b hb => by
      have e' : b = s1.heap.objs.size + 1 ∨ b = s1.heap.objs.size := by simpa using hb
      rcases e' with z | z
      · rw [z]; exact Nat.le_add_right _ _
      · rw [z]; exact Nat.le_refl _
    rcases q with ⟨hq, q⟩ | ⟨hq, q⟩
    · obtain ⟨its, rv, p', hz⟩ := I1.list hq
      refine call_enumerate_list p'.isList fun h' he hit hsz hk => wpAny_pyIter_enum he ?_
      have I2 : Inv X pins σ H1 { s1 with heap := h' } := I1.kept (t' := s1.toks) hk
      refine ⟨s1.heap.objs.size + 1, [s1.heap.objs.size + 1, s1.heap.objs.size], _, _, H1, rfl, I2, turn_enum a (s1.heap.objs.size + 1) s1.heap.objs.size, ⟨⟨.none, he⟩, hit, Nat.succ_ne_self _⟩, fun b hb => ?_, q⟩
      exact I1.fpOk (fpk b hb) (I1.hok.fresh (fpk b hb))
    · obtain ⟨its, rv, p', hz⟩ := I1.tuple hq
      refine call_enumT (show s1.heap.IsTuple a its.toArray from p') fun h' he hit hsz hk => wpAny_pyIter_enum he ?_
      have I2 : Inv X pins σ H1 { s1 with heap := h' } := I1.kept (t' := s1.toks) hk
      refine ⟨s1.heap.objs.size + 1, [s1.heap.objs.size + 1, s1.heap.objs.size], _, _, H1, rfl, I2, turn_enumT a (s1.heap.objs.size + 1) s1.heap.objs.size, ⟨⟨.none, he⟩, hit, Nat.succ_ne_self _⟩, fun b hb => ?_, q⟩
      exact I1.fpOk (fpk b hb) (I1.hok.fresh (fpk b hb))
end TK

set_option maxRecDepth 100000
set_option maxHeartbeats 4000000
namespace TK
open PySem PySem.Spec PyProof.Rows L2

/-! ### what is walked -/
section
variable {X : Cx} {pins : List (Addr × Obj)} {σ : L2.St} {H1 : Hp} {s1 : Shared} {a : Addr} {ys : List V} {tg : Expr} {R : It → Hp → Prop}
theorem iter_l (J : L2.Inv X pins σ H1 s1) (hq : SqL X.K H1 a ys) (q : R (Itl X.K a) H1) : wpAny (model X.prog X.w) X.A (pyIter (.ref a)) (PIE X pins σ tg R) X.xe s1 := by
  obtain ⟨its, rv, p, hz⟩ := J.list hq
  refine wpAny_pyIter_list p.isList ?_
  refine ⟨s1.heap.objs.size, [s1.heap.objs.size], _, _, H1, rfl, ?_, turn_list a _, ⟨_, Heap.get?_push_size _ rfl, rfl, rfl⟩, fun b hb => ?_, q⟩
  · exact J.kept (t' := s1.toks) fun c o e => Heap.get?_push_of_some _ e
  · rw [List.mem_singleton.mp hb]
    exact J.fpOk (Nat.le_refl _) (J.hok.fresh (Nat.le_refl _))
theorem iter_t (J : L2.Inv X pins σ H1 s1) (hq : SqT X.K H1 a ys) (q : R (Itt X.K a) H1) : wpAny (model X.prog X.w) X.A (pyIter (.ref a)) (PIE X pins σ tg R) X.xe s1 := by
  obtain ⟨its, rv, p, hz⟩ := J.tuple hq
  refine wpAny_pyIter_tuple (show s1.heap.IsTuple a its.toArray from p) ?_
  refine ⟨s1.heap.objs.size, [s1.heap.objs.size], _, _, H1, rfl, ?_, turn_tuple a _, ⟨_, Heap.get?_push_size _ rfl, rfl, rfl⟩, fun b hb => ?_, q⟩
  · exact J.kept (t' := s1.toks) fun c o e => Heap.get?_push_of_some _ e
  · rw [List.mem_singleton.mp hb]
    exact J.fpOk (Nat.le_refl _) (J.hok.fresh (Nat.le_refl _))
end
section
variable {K : PySem.W.Frag} {F0 : FS} {H0 : Hp} {a b : Addr} {xs zs : List PV} {ys ws : List V}
theorem wp_list (f : F0 a) (h : H0 a = some (.lst ys)) (ds : DVs K H0 F0 xs ys) : WP K (Itl K a) F0 H0 xs (fun _ => True) := by
  have at_ : ∀ {F H}, Ext F0 H0 F H → SqL K H a ys := fun e => .of (e.kp _ _ h (.inl f))
  refine ⟨fun _ _ _ h => h, fun i F H st hi e r _ => ?_, fun F H st e r _ => ⟨ys, at_ e, by rw [ds.length]; exact Nat.le_refl _⟩, fun i F H st x H' hi e r _ y => ?_⟩
  · rw [ds.length] at hi
    exact ⟨ys, ys[i], at_ e, by simp [hi]⟩
  · obtain ⟨rfl, y⟩ := y
    obtain ⟨v, hv, dv⟩ := ds.get' (y ys (at_ e))
    exact ⟨.refl, r, v, hv, dv.ext e⟩
theorem wp_ref (xs : List PV) : WP K (Itl K a) F0 H0 xs (fun s => s a = some (.lst xs)) := by
  refine ⟨fun _ _ hs h => hs _ _ h, fun i F H st hi e r o => ?_, fun F H st e r o => ?_, fun i F H st x H' hi e r o y => ?_⟩
  · obtain ⟨_, ys, h, ds⟩ := r.lst a xs o
    rw [ds.length] at hi
    exact ⟨ys, ys[i], .of h, by simp [hi]⟩
  · obtain ⟨_, ys, h, ds⟩ := r.lst a xs o
    exact ⟨ys, .of h, by rw [ds.length]; exact Nat.le_refl _⟩
  · obtain ⟨rfl, y⟩ := y
    obtain ⟨_, ys, h, ds⟩ := r.lst a xs o
    obtain ⟨v, hv, dv⟩ := ds.get' (y ys (.of h))
    exact ⟨.refl, r, v, hv, dv⟩
theorem wp_tup (h : SqT K H0 a ys) (ds : DVs K H0 F0 xs ys) : WP K (Itt K a) F0 H0 xs (fun _ => True) := by
  refine ⟨fun _ _ _ h => h, fun i F H st hi e r _ => ?_, fun F H st e r _ => ⟨ys, sqText e h, by rw [ds.length]; exact Nat.le_refl _⟩, fun i F H st x H' hi e r _ y => ?_⟩
  · rw [ds.length] at hi
    exact ⟨ys, ys[i], sqText e h, by simp [hi]⟩
  · obtain ⟨rfl, y⟩ := y
    obtain ⟨v, hv, dv⟩ := ds.get' (y ys (sqText e h))
    exact ⟨.refl, r, v, hv, dv.ext e⟩
theorem rngL_len (lo : Int) (n : Nat) : (rngL lo n).length = n := by unfold rngL; rw [List.length_map, List.length_range]
theorem rngL_get {lo : Int} {n i : Nat} (h : i < n) : (rngL lo n)[i]? = some (.int (lo + i)) := by
  unfold rngL
  rw [List.getElem?_map, List.getElem?_range h]; rfl
theorem wp_rng (lo : Int) (n : Nat) : WP K (Itr lo n) F0 H0 (rngL lo n) (fun _ => True) := by
  refine ⟨fun _ _ _ h => h, fun i F H st hi e r _ => ?_, fun F H st e r _ => ?_, fun i F H st x H' hi e r _ y => ?_⟩
  · rw [rngL_len] at hi; exact hi
  · rw [rngL_len]; exact Nat.le_refl n
  · obtain ⟨rfl, rfl⟩ := y
    rw [rngL_len] at hi
    exact ⟨.refl, r, _, rngL_get hi, .int _⟩
theorem enumL_len : ∀ (k : Nat) (xs : List PV), (enumL k xs).length = xs.length
  | _, [] => rfl
  | k, _ :: r => congrArg (· + 1) (enumL_len (k + 1) r)
theorem enumL_get : ∀ {k i : Nat} {xs : List PV} {v : PV}, xs[i]? = some v → (enumL k xs)[i]? = some (.tup [.int ((k + i : Nat) : Int), v])
  | _, _, [], _, h => by simp at h
  | k, 0, x :: r, v, h => by simp at h; subst h; rfl
  | k, i + 1, x :: r, v, h => by
    have := enumL_get (k := k + 1) (i := i) (xs := r) (v := v) (by simpa using h)
    show (enumL (k + 1) r)[i]? = _
    rw [this]
    have e : k + 1 + i = k + (i + 1) := by omega
    rw [e]
theorem pair_ok {F : FS} {H : Hp} {st : Store} {T : Addr} {v w : PV} {x y : V} (r : RS K H F st) (hT : H T = none) (d : DV K H F v x) (d' : DV K H F w y) :
    Ext F H F (upd H T (.tup [x, y])) ∧ RS K (upd H T (.tup [x, y])) F st ∧ DV K (upd H T (.tup [x, y])) F (.tup [v, w]) (.ref T) :=
  ⟨.new hT, r.new hT, .tup (.of upd_same) (.cons (d.ext (.new hT)) (.cons (d'.ext (.new hT)) .nil))⟩
theorem wp_enumL (f : F0 a) (h : H0 a = some (.lst ys)) (ds : DVs K H0 F0 xs ys) : WP K (Ite K a) F0 H0 (enumL 0 xs) (fun _ => True) := by
  have at_ : ∀ {F H}, Ext F0 H0 F H → SqL K H a ys := fun e => .of (e.kp _ _ h (.inl f))
  refine ⟨fun _ _ _ h => h, fun i F H st hi e r _ => ?_, fun F H st e r _ => ⟨ys, at_ e, by rw [enumL_len, ds.length]; exact Nat.le_refl _⟩, fun i F H st x H' hi e r _ y => ?_⟩
  · rw [enumL_len, ds.length] at hi
    exact ⟨ys, ys[i], at_ e, by simp [hi]⟩
  · obtain ⟨T, z, rfl, hT, rfl, y⟩ := y
    obtain ⟨v, hv, dv⟩ := ds.get' (y ys (at_ e))
    obtain ⟨p1, p2, p3⟩ := pair_ok r hT (.int (i : Nat)) (dv.ext e)
    refine ⟨p1, p2, _, enumL_get hv, ?_⟩
    rw [Nat.zero_add]; exact p3
theorem wp_enumR (xs : List PV) : WP K (Ite K a) F0 H0 (enumL 0 xs) (fun s => s a = some (.lst xs)) := by
  refine ⟨fun _ _ hs h => hs _ _ h, fun i F H st hi e r o => ?_, fun F H st e r o => ?_, fun i F H st x H' hi e r o y => ?_⟩
  · obtain ⟨_, ys, h, ds⟩ := r.lst a xs o
    rw [enumL_len, ds.length] at hi
    exact ⟨ys, ys[i], .of h, by simp [hi]⟩
  · obtain ⟨_, ys, h, ds⟩ := r.lst a xs o
    exact ⟨ys, .of h, by rw [enumL_len, ds.length]; exact Nat.le_refl _⟩
  · obtain ⟨T, z, rfl, hT, rfl, y⟩ := y
    obtain ⟨_, ys, h, ds⟩ := r.lst a xs o
    obtain ⟨v, hv, dv⟩ := ds.get' (y ys (.of h))
    obtain ⟨p1, p2, p3⟩ := pair_ok r hT (.int (i : Nat)) dv
    refine ⟨p1, p2, _, enumL_get hv, ?_⟩
    rw [Nat.zero_add]; exact p3
theorem wp_enumT (h : SqT K H0 a ys) (ds : DVs K H0 F0 xs ys) : WP K (IteT K a) F0 H0 (enumL 0 xs) (fun _ => True) := by
  refine ⟨fun _ _ _ h => h, fun i F H st hi e r _ => ?_, fun F H st e r _ => ⟨ys, sqText e h, by rw [enumL_len, ds.length]; exact Nat.le_refl _⟩, fun i F H st x H' hi e r _ y => ?_⟩
  · rw [enumL_len, ds.length] at hi
    exact ⟨ys, ys[i], sqText e h, by simp [hi]⟩
  · obtain ⟨T, z, rfl, hT, rfl, y⟩ := y
    obtain ⟨v, hv, dv⟩ := ds.get' (y ys (sqText e h))
    obtain ⟨p1, p2, p3⟩ := pair_ok r hT (.int (i : Nat)) (dv.ext e)
    refine ⟨p1, p2, _, enumL_get hv, ?_⟩
    rw [Nat.zero_add]; exact p3
theorem zipL_len : ∀ (xs zs : List PV), (zipL xs zs).length = min xs.length zs.length
  | [], _ => by simp [zipL]
  | _ :: _, [] => by simp [zipL]
  | x :: r, y :: s => by show (zipL r s).length + 1 = _; rw [zipL_len r s, List.length_cons, List.length_cons]; omega
theorem zipL_get : ∀ {i : Nat} {xs zs : List PV} {v w : PV}, xs[i]? = some v → zs[i]? = some w → (zipL xs zs)[i]? = some (.tup [v, w])
  | _, [], _, _, _, h, _ => by simp at h
  | _, _ :: _, [], _, _, _, h => by simp at h
  | 0, x :: r, y :: s, v, w, h, h' => by simp at h h'; subst h h'; rfl
  | i + 1, x :: r, y :: s, v, w, h, h' => zipL_get (i := i) (xs := r) (zs := s) (by simpa using h) (by simpa using h')
theorem wp_zipL (f : F0 a) (h : H0 a = some (.lst ys)) (ds : DVs K H0 F0 xs ys) (f' : F0 b) (h' : H0 b = some (.lst ws)) (ds' : DVs K H0 F0 zs ws) : WP K (Itz K a b) F0 H0 (zipL xs zs) (fun _ => True) := by
  have at_ : ∀ {F H}, Ext F0 H0 F H → SqL K H a ys ∧ SqL K H b ws := fun e => ⟨.of (e.kp _ _ h (.inl f)), .of (e.kp _ _ h' (.inl f'))⟩
  refine ⟨fun _ _ _ h => h, fun i F H st hi e r _ => ?_, fun F H st e r _ => ⟨ys, ws, (at_ e).1, (at_ e).2, by rw [zipL_len, ds.length, ds'.length]; omega⟩, fun i F H st x H' hi e r _ y => ?_⟩
  · rw [zipL_len, ds.length, ds'.length] at hi
    have h1 : i < ys.length := by omega
    have h2 : i < ws.length := by omega
    exact ⟨ys, ws, ys[i], ws[i], (at_ e).1, (at_ e).2, by simp [h1], by simp [h2]⟩
  · obtain ⟨T, z, z', rfl, hT, rfl, y, y'⟩ := y
    obtain ⟨v, hv, dv⟩ := ds.get' (y ys (at_ e).1)
    obtain ⟨v', hv', dv'⟩ := ds'.get' (y' ws (at_ e).2)
    obtain ⟨p1, p2, p3⟩ := pair_ok r hT (dv.ext e) (dv'.ext e)
    exact ⟨p1, p2, _, zipL_get hv hv', p3⟩
theorem wp_zipT (h : SqT K H0 a ys) (ds : DVs K H0 F0 xs ys) (h' : SqT K H0 b ws) (ds' : DVs K H0 F0 zs ws) : WP K (RZ.ItzT K a b) F0 H0 (zipL xs zs) (fun _ => True) := by
  have at_ : ∀ {F H}, Ext F0 H0 F H → SqT K H a ys ∧ SqT K H b ws := fun e => ⟨sqText e h, sqText e h'⟩
  refine ⟨fun _ _ _ h => h, fun i F H st hi e r _ => ?_, fun F H st e r _ => ⟨ys, ws, (at_ e).1, (at_ e).2, by rw [zipL_len, ds.length, ds'.length]; omega⟩, fun i F H st x H' hi e r _ y => ?_⟩
  · rw [zipL_len, ds.length, ds'.length] at hi
    have h1 : i < ys.length := by omega
    have h2 : i < ws.length := by omega
    exact ⟨ys, ws, ys[i], ws[i], (at_ e).1, (at_ e).2, by simp [h1], by simp [h2]⟩
  · obtain ⟨T, z, z', rfl, hT, rfl, y, y'⟩ := y
    obtain ⟨v, hv, dv⟩ := ds.get' (y ys (at_ e).1)
    obtain ⟨v', hv', dv'⟩ := ds'.get' (y' ws (at_ e).2)
    obtain ⟨p1, p2, p3⟩ := pair_ok r hT (dv.ext e) (dv'.ext e)
    exact ⟨p1, p2, _, zipL_get hv hv', p3⟩
end

/-! ### targets -/
section
variable {X : Cx} {C : SC} {k : Nat} {W : WX}
/-- a target's reading -/
def tlG (K : PySem.W.Frag) (tg : TG) : L2.TG := fun v σ H Q => ∃ F τ τ' pv, RSl K H F τ σ ∧ DV K H F pv v ∧ tg.asg pv τ = some τ' ∧
  ∀ σ' : L2.St, RSl K H F τ' σ' → (∀ j, j ∉ tg.slots → σ'[j]? = σ[j]?) → Q σ' H
def tlGs (K : PySem.W.Frag) (tg : TGs) : L2.TGs := fun vs σ H Q => ∃ F τ τ' pvs, RSl K H F τ σ ∧ DVs K H F pvs vs ∧ tg.asg pvs τ = some τ' ∧
  ∀ σ' : L2.St, RSl K H F τ' σ' → (∀ j, j ∉ tg.slots → σ'[j]? = σ[j]?) → Q σ' H
theorem chkGs_star : ∀ {ts : TGs} {es : List Expr}, chkGs C ts es = true → ∀ env : Env, (assignEach es env).findIdx? (·.1) = none
  | .nil, es, h, env => by
    cases es with
    | nil => rfl
    | cons e r => cases h
  | .cons t ts, es, h, env => by
    cases es with
    | nil => cases h
    | cons e r =>
      have h' : (notStar e && chkG C t e && chkGs C ts r) = true := h
      simp only [Bool.and_eq_true] at h'
      have e1 : assignEach (e :: r) env = (false, assign e env) :: assignEach r env := by
        have := h'.1.1
        cases e <;> first | rfl | cases this
      rw [e1, List.findIdx?_cons, chkGs_star h'.2 env]
      rfl
theorem chkGs_len : ∀ {ts : TGs} {es : List Expr}, chkGs C ts es = true → ∀ (env : Env) {pvs : List PV} {τ τ' : Sl}, ts.asg pvs τ = some τ' → pvs.length = (assignEach es env).length
  | .nil, es, h, env, pvs, τ, τ', q => by
    cases es with
    | nil =>
      cases pvs with
      | nil => rfl
      | cons _ _ => cases q
    | cons e r => cases h
  | .cons t ts, es, h, env, pvs, τ, τ', q => by
    cases es with
    | nil => cases h
    | cons e r =>
      have h' : (notStar e && chkG C t e && chkGs C ts r) = true := h
      simp only [Bool.and_eq_true] at h'
      have e1 : assignEach (e :: r) env = (false, assign e env) :: assignEach r env := by
        have := h'.1.1
        cases e <;> first | rfl | cases this
      rw [e1]
      cases pvs with
      | nil => cases q
      | cons v vs =>
        have q' : (t.asg v τ).bind (ts.asg vs) = some τ' := q
        cases q1 : t.asg v τ with
        | none => rw [q1] at q'; cases q'
        | some τ1 =>
          rw [q1] at q'
          exact congrArg (· + 1) (chkGs_len h'.2 env (show ts.asg vs τ1 = some τ' from q'))
mutual
theorem sG : ∀ (tg : TG) {g : Expr}, CxOk X C k W → chkG C tg g = true → PG X g (tlG X.K tg)
  | .name i, g, ok, h => by
    unfold chkG at h
    split at h
    · simp only [Bool.and_eq_true, decide_eq_true_eq] at h
      obtain ⟨l1, l2⟩ := ok.tg _ h.2
      refine impG (pg_name (i := i) (by rw [ok.hN]; exact ok.nd) (by rw [ok.hN]; exact h.1) (by rw [ok.hsc]; exact l1) (by rw [ok.hsc]; exact l2)) fun v σ H Q q => ?_
      obtain ⟨F, τ, τ', pv, sl, d, e, q⟩ := q
      cases (Option.some.inj e)
      exact q _ (sl.set d i) fun j hj => List.getElem?_set_ne (fun z => hj (List.mem_singleton.mpr z.symm))
    · cases h
  | .tup ts, g, ok, h => by
    unfold chkG at h
    split at h
    · refine impG (pg_tup ok.calm (sGs ts ok h) rfl (chkGs_star h _)) fun v σ H Q q => ?_
      obtain ⟨F, τ, τ', pv, sl, d, e, q⟩ := q
      cases d with
      | tup h1 ds =>
        have e' : ts.asg _ τ = some τ' := e
        exact ⟨_, _, rfl, h1, by rw [← ds.length]; exact chkGs_len h _ e', F, τ, τ', _, sl, ds, e', q⟩
      | _ => cases e
    · cases h
theorem sGs : ∀ (tg : TGs) {gs : List Expr}, CxOk X C k W → chkGs C tg gs = true → PGs X gs (tlGs X.K tg)
  | .nil, gs, ok, h => by
    cases gs with
    | nil =>
      refine ⟨fun pins s σ H vs us Q I r q => ?_⟩
      obtain ⟨F, τ, τ', pvs, sl, ds, e, q⟩ := q
      cases ds with
      | nil =>
        cases (Option.some.inj e)
        exact pgs_nil.run pins s σ H _ us Q I r ⟨rfl, q _ sl fun _ _ => rfl⟩
      | cons _ _ => cases e
    | cons e r => cases h
  | .cons t ts, gs, ok, h => by
    cases gs with
    | nil => cases h
    | cons g r =>
      have h' : (notStar g && chkG C t g && chkGs C ts r) = true := h
      simp only [Bool.and_eq_true] at h'
      have e1 : (assignEach (g :: r) X.env).map (·.2) = assign g X.env :: (assignEach r X.env).map (·.2) := by
        have := h'.1.1
        cases g <;> first | rfl | cases this
      refine ⟨fun pins s σ H vs us Q I rr q => ?_⟩
      obtain ⟨F, τ, τ', pvs, sl, ds, e, q⟩ := q
      cases ds with
      | nil => cases e
      | @cons pv v pvs vs d ds =>
        have e' : (t.asg pv τ).bind (ts.asg pvs) = some τ' := e
        cases q1 : t.asg pv τ with
        | none => rw [q1] at e'; cases e'
        | some τ1 =>
          rw [q1] at e'
          refine (pgs_cons (sG t ok h'.1.2) (sGs ts ok h'.2) e1).run pins s σ H _ us Q I rr ⟨v, vs, rfl, F, τ, τ1, pv, sl, d, q1, fun σ1 sl1 k1 => ?_⟩
          refine ⟨F, τ1, τ', pvs, sl1, ds, e', fun σ2 sl2 k2 => q σ2 sl2 fun j hj => ?_⟩
          have hj' : j ∉ t.slots ++ ts.slots := hj
          rw [List.mem_append, not_or] at hj'
          exact (k2 j hj'.2).trans (k1 j hj'.1)
end
end
end TK

set_option maxRecDepth 100000
set_option maxHeartbeats 8000000
namespace TK
open PySem PySem.Spec PyProof.Rows L2
section
variable {X : Cx} {C : SC} {k : Nat} {W : WX}
theorem nobeh {o : CmpOp} {e : Expr} (h : notSet e = true) : behindInMarks o e = false := by
  cases e <;> first | rfl | cases h
theorem lastm {o p : CmpOp} {a b : Expr} (h : notSet b = true) : lastMarks [o, p] [a, b] = false := by
  show behindInMarks p b = false
  exact nobeh h
theorem plainIx {e : Expr} (h : notSlice e = true) : PlainIx e := by
  intro o i
  cases e <;> first | rfl | cases h
theorem attr_whole {e : Expr} (h : notCall e = true) (a : Str) (env : Env) (t : Sem Value) : attributeBase e a env t = t := by
  cases e <;> first | rfl | cases h
theorem plain_isTrue {e : Expr} (h : plainT e = true) (env : Env) : ∀ whole, isTrue e env whole = (do let v ← whole; standAt e.pos; holding [v] (truthy v)) := by
  intro whole
  cases e with
  | UnaryOp o x p => cases o <;> first | (with_unfolding_all rfl) | cases h
  | BoolOp _ _ _ => cases h
  | IfExp _ _ _ _ => cases h
  | Compare _ _ _ _ => cases h
  | _ => with_unfolding_all rfl
theorem folded {e : Expr} (h : notSet e = true) (env : Env) : ∀ x, foldedSetIterable e env x = pure x := by
  intro x
  cases e <;> first | rfl | cases h
theorem tru_lift {F : FS} {H : Hp} {st : Store} {v : PV} {x : V} {P : Bool → Store → Prop} (rs : RS X.K H F st) (d : DV X.K H F v x) (h : truV v st P) : ∃ b, TruV X.K x H b ∧ P b st := by
  unfold truV at h
  split at h
  · cases d; exact ⟨_, rfl, h⟩
  · cases d; exact ⟨_, rfl, h⟩
  · cases d; exact ⟨_, rfl, h⟩
  · cases d with
    | tup h1 ds => exact ⟨_, .inr (.inl ⟨_, h1, rfl⟩), by cases ds <;> exact h⟩
  · cases d with
    | lst f h1 ds => exact ⟨_, .inl ⟨_, .of h1, rfl⟩, by cases ds <;> exact h⟩
  · obtain ⟨xs, e, h⟩ := h
    cases d
    obtain ⟨_, ys, h1, ds⟩ := rs.lst _ _ e
    exact ⟨_, .inl ⟨_, .of h1, rfl⟩, by cases ds <;> exact h⟩
  · exact h.elim
abbrev pfX (X : Cx) (k : Nat) : Str → PSpec → Nat → Prop := HasFn (wdX X) k
abbrev pgX (X : Cx) : Str → PV → Prop := HasGl (wdX X)
/-- the context of a comprehension's block -/
theorem CxOk.blk {vs : List Nat} {scope : Scope} (ok : CxOk X C k W) (hblk0 : blkC C.N C.sc scope (ownOf C.N vs) = true) (s : Shared) (H : Hp) (a : Addr) (cl : List (Str × Addr)) (fp : List Addr) :
    CxOk (X.blk s H scope (compEnvC scope cl a X.env) fp) ⟨C.N, relS scope C.sc, scope⟩ k (fun _ _ _ _ => False) where
  hN := ok.hN
  nd := ok.nd
  hsc := by
    show relS scope X.env.scope = _
    rw [ok.hsc]
  calm := ok.calm
  kindF := by
    have := (blkOk_by hblk0).kind
    exact this
  room := ok.room
  gds := ok.gds
  tk := fun u s' ⟨_, _, _, _, _, _, _, _, _, _, _, _, _, _, _, _, w⟩ => w
  po := PassesOwn.never
  tg := fun x hx => by
    have hx' : locB scope x = true := hx
    unfold locB at hx'
    have key : ∀ kd, kd ≠ NameKind.free → scope.names.lookup x = some kd → (relS scope C.sc).names.lookup x = some kd := fun kd h1 h2 => lookup_relS_keep h1 h2
    split at hx'
    · rename_i e
      have := key _ (by decide) e
      exact ⟨.inl this, .inr this⟩
    · rename_i e
      refine ⟨.inr (key _ (by decide) e), .inl ?_⟩
      show (scope.names.lookup x == some NameKind.cell) = true
      rw [e]; rfl
    · cases hx'
  blt := ok.blt
theorem tyStr_more (ok : CxOk X C k W) {ty : Str} {c : String} (hc : c ∈ ["int", "bool", "str", "tuple", "list"]) (e : ty = Str.ofString c) : X.mg ty = none ∧ ty ≠ ("__name__" : Str) := by
  simp only [List.mem_cons, List.not_mem_nil, or_false] at hc
  subst e
  rcases hc with rfl | rfl | rfl | rfl | rfl <;> exact ⟨ok.blt _ (by decide +kernel), by decide +kernel⟩
theorem needTs_one {pf : Str → PSpec → Nat → Prop} {pg : Str → PV → Prop} {t : T} (h : needTs pf pg (.cons t .nil)) : needT pf pg t := h.1

mutual
theorem asg_length : ∀ {tg : TG} {v : PV} {τ τ1 : Sl}, tg.asg v τ = some τ1 → τ1.length = τ.length
  | .name i, v, τ, τ1, h => by
    cases (Option.some.inj h)
    exact setS_length _ _ _
  | .tup ts, v, τ, τ1, h => by
    cases v with
    | tup xs => exact asgs_length (show ts.asg xs τ = some τ1 from h)
    | _ => cases h
theorem asgs_length : ∀ {tg : TGs} {v : List PV} {τ τ1 : Sl}, tg.asg v τ = some τ1 → τ1.length = τ.length
  | .nil, v, τ, τ1, h => by
    cases v with
    | nil => cases (Option.some.inj h); rfl
    | cons _ _ => cases h
  | .cons t ts, v, τ, τ1, h => by
    cases v with
    | nil => cases h
    | cons x r =>
      have h' : (t.asg x τ).bind (ts.asg r) = some τ1 := h
      cases q : t.asg x τ with
      | none => rw [q] at h'; cases h'
      | some τ2 =>
        rw [q] at h'
        exact (asgs_length (show ts.asg r τ2 = some τ1 from h')).trans (asg_length q)
end
theorem wipe_get (σ : L2.St) (j : Nat) : ∀ vs : List Nat, (L2.wipe σ vs)[j]? = if j ∈ vs then σ[j]?.map (fun _ => none) else σ[j]?
  | [] => by simp [L2.wipe]
  | v :: vs => by
    show ((L2.wipe σ vs).set v none)[j]? = _
    by_cases e : v = j
    · subst e
      by_cases hv : v < (L2.wipe σ vs).length
      · rw [List.getElem?_set_self hv, if_pos List.mem_cons_self]
        rw [L2.wipe_length] at hv
        rw [List.getElem?_eq_getElem hv]; rfl
      · rw [List.getElem?_eq_none (by rw [List.length_set]; omega), if_pos List.mem_cons_self]
        rw [L2.wipe_length] at hv
        rw [List.getElem?_eq_none (by omega)]; rfl
    · rw [List.getElem?_set_ne e, wipe_get σ j vs]
      by_cases hm : j ∈ vs
      · rw [if_pos hm, if_pos (List.mem_cons_of_mem _ hm)]
      · rw [if_neg hm, if_neg (fun z => (List.mem_cons.mp z).elim (fun z => e z.symm) hm)]
theorem wipe_same {σ σ2 : L2.St} {vs : List Nat} (hl : σ2.length = σ.length) (h : ∀ j, j ∉ vs → σ2[j]? = (L2.wipe σ vs)[j]?) : L2.wipe σ2 vs = L2.wipe σ vs := by
  apply List.ext_getElem?
  intro j
  rw [wipe_get, wipe_get]
  by_cases hm : j ∈ vs
  · rw [if_pos hm, if_pos hm]
    by_cases hj : j < σ.length
    · rw [List.getElem?_eq_getElem hj, List.getElem?_eq_getElem (by omega)]; rfl
    · rw [List.getElem?_eq_none (by omega), List.getElem?_eq_none (by omega)]
  · rw [if_neg hm, if_neg hm, h j hm, wipe_get, if_neg hm]
theorem lc_sound {F1 : FS} {H1 : Hp} {st1 : Store} {τ : Sl} {σ : L2.St} {vs : List Nat} {tg : TG} {t : EQ → Sl → Store → (Bool → Store → Prop) → Prop} {e : EQ → Sl → Store → PQ → Prop} {J : It} {xs : List PV} {oks : Store → Prop} {m : Bool} {Q : VK} {Q0 : PQ}
    {tt : TT} {te : TE} (hsl : tg.slots.all (fun i => decide (i ∈ vs)) = true) (rs1 : RS X.K H1 F1 st1) (sl1 : RSl X.K H1 F1 τ σ) (wp : WP X.K J F1 H1 xs oks) (hok : oks st1) (hlen : xs.length ≤ sizeLine)
    (hq : ∀ {ys : List PV}, newList m ys st1 Q0 → newList m ys st1 (LQ X.K F1 H1 Q))
    (h : lcL tg (t fun _ _ => False) (e fun _ _ => False) (wipeS τ vs) st1 xs [] fun acc => newList m acc st1 Q0)
    (ht : ∀ σ H P, (∃ F τ st, RS X.K H F st ∧ RSl X.K H F τ σ ∧ t (fun _ _ => False) τ st fun b st' => ∀ F' H', Ext F H F' H' → RS X.K H' F' st' → P b H') → tt σ H P)
    (he : ∀ σ H P, (∃ F τ st, RS X.K H F st ∧ RSl X.K H F τ σ ∧ e (fun _ _ => False) τ st (LQ X.K F H P)) → te σ H P)
    (mt : ∀ {τ st} {P P' : Bool → Store → Prop}, (∀ v s, P v s → P' v s) → t (fun _ _ => False) τ st P → t (fun _ _ => False) τ st P')
    (me : ∀ {τ st} {P P' : PQ}, (∀ v s, P v s → P' v s) → e (fun _ _ => False) τ st P → e (fun _ _ => False) τ st P') :
    ∀ D, H1 D = none → ∃ Wv : Nat → Nat → Hp → Prop, (∃ m, Wv 0 m (upd H1 D (.lst []))) ∧ ∀ i m H, Wv i m H →
      (J.stop i H ∧ Q (.ref D) H) ∨ (J.go i H ∧ ∃ Nx : Hp → Prop, (∀ H', Nx H' → ∃ m', m' < m ∧ Wv (i + 1) m' H') ∧ ∀ x H', J.yld i H x H' → tlG X.K tg x (L2.wipe σ vs) H' fun σ2 H2 => L2.wipe σ2 vs = L2.wipe σ vs ∧ tt σ2 H2 fun b H3 =>
        if b = true then te σ2 H3 fun y H4 => ∃ acc, H4 D = some (.lst acc) ∧ acc.length < sizeLine ∧ Nx (upd H4 D (.lst (acc ++ [y]))) else Nx H3) := by
  intro D hD
  have stD := rs1.no hD
  refine ⟨fun i n H => n = xs.length - i ∧ i ≤ xs.length ∧ ∃ F2 acc, Ext F1 H1 F2 H ∧ RS X.K H F2 (up st1 D (some (.lst acc))) ∧ acc.length ≤ i ∧ lcL tg (t fun _ _ => False) (e fun _ _ => False) (wipeS τ vs) st1 (xs.drop i) acc fun acc => newList m acc st1 Q0,
    ⟨xs.length, rfl, Nat.zero_le _, F1, [], .new hD, rs1.putNew hD .nil, Nat.zero_le _, h⟩, ?_⟩
  rintro i n H ⟨rfl, hi, F2, acc, x2, r2, hl, h2⟩
  have sub : Sub st1 (up st1 D (some (.lst acc))) := fun a c ha => by
    have n : a ≠ D := fun z => by rw [z, stD] at ha; cases ha
    rw [up_ne n]; exact ha
  by_cases hlt : i < xs.length
  · refine .inr ⟨wp.go i F2 H _ hlt x2 r2 (wp.mono _ _ sub hok), fun H' => ∃ F3 acc', Ext F1 H1 F3 H' ∧ RS X.K H' F3 (up st1 D (some (.lst acc'))) ∧ acc'.length ≤ i + 1 ∧ lcL tg (t fun _ _ => False) (e fun _ _ => False) (wipeS τ vs) st1 (xs.drop (i + 1)) acc' fun acc => newList m acc st1 Q0,
      fun H' ⟨F3, acc', a1, a2, a3, a4⟩ => ⟨xs.length - (i + 1), by omega, rfl, hlt, F3, acc', a1, a2, a3, a4⟩, fun x H' y => ?_⟩
    obtain ⟨x3, r3, v, hv, dv⟩ := wp.yld i F2 H _ x H' hlt x2 r2 (wp.mono _ _ sub hok) y
    have hd : xs.drop i = v :: xs.drop (i + 1) := by
      rw [List.drop_eq_getElem_cons hlt]
      rw [List.getElem?_eq_getElem hlt] at hv
      rw [Option.some.inj hv]
    rw [hd] at h2
    have x13 := x2.trans x3
    cases ea : tg.asg v (wipeS τ vs) with
    | none =>
      have h3 : oP (tg.asg v (wipeS τ vs)) _ := h2
      rw [ea] at h3; exact h3.elim
    | some τ1 =>
      have h3 : oP (tg.asg v (wipeS τ vs)) _ := h2
      rw [ea] at h3
      refine ⟨F2, wipeS τ vs, τ1, v, (sl1.ext x13).wipe vs, dv, ea, fun σ2 sl2 k2 => ⟨?_, ?_⟩⟩
      · refine wipe_same ?_ fun j hj => k2 j fun z => hj (of_decide_eq_true (List.all_eq_true.mp hsl j z))
        have l1 := sl2.1
        have l2 := (sl1.wipe vs).1
        have l3 := L2.wipe_length σ vs
        have l4 : τ1.length = (wipeS τ vs).length := asg_length ea
        omega
      · refine ht _ _ _ ⟨F2, τ1, _, r3, sl2, mt (fun b s hb => ?_) (h3 _ sub)⟩
        obtain ⟨es, hb⟩ := hb
        subst es
        intro F4 H4 x4 r4
        cases b with
        | true =>
          refine he _ _ _ ⟨F4, τ1, _, r4, sl2.ext x4, me (fun y s hy => ?_) hb⟩
          obtain ⟨es, hy⟩ := hy
          subst es
          intro F5 H5 y' x5 r5 d5
          obtain ⟨nf, ys, hH, ds⟩ := r5.lst D acc up_same
          have ni : ∀ u, H5 D = some u → ¬ Imm u := fun u e => by
            rw [hH] at e; cases e; exact fun z => z
          refine ⟨ys, hH, by rw [← ds.length]; omega, F5, acc ++ [y], ?_, ?_, by rw [List.length_append]; exact Nat.succ_le_succ hl, hy⟩
          · exact ((x13.trans x4).trans x5).trans (.put nf ni)
          · have := r5.put nf ni (ds.append (.cons d5 .nil))
            have eup : up (up st1 D (some (.lst acc))) D (some (.lst (acc ++ [y]))) = up st1 D (some (.lst (acc ++ [y]))) := by
              funext b; unfold up; split <;> rfl
            rw [eup] at this
            exact this
        | false => exact ⟨F4, acc, x13.trans x4, r4, Nat.le_succ_of_le hl, hb⟩
  · have e : i = xs.length := by omega
    subst e
    refine .inl ⟨wp.stop F2 H _ x2 r2 (wp.mono _ _ sub hok), ?_⟩
    rw [List.drop_length] at h2
    have h3 := hq h2
    have stl : up st1 D (some (.lst acc)) D = some (.lst acc) := up_same
    have edn : up (up st1 D (some (.lst acc))) D Option.none = st1 := by
      funext b
      by_cases n : b = D
      · subst n; rw [up_same, stD]
      · rw [up_ne n, up_ne n]
    cases m with
    | true => exact h3 D stD F2 H _ x2 r2 (.ref D)
    | false =>
      obtain ⟨x4, r4, d4⟩ := r2.freeze stl
      rw [edn] at r4
      exact h3 _ H _ (x2.trans x4) r4 d4

mutual
theorem sE : ∀ (e : E) {X : Cx} {C : SC} {k : Nat} {W : WX} {x : Expr}, CxOk X C k W → chkE e C x = true → needE (pfX X k) (pgX X) e → PE X x (tl X W (wpE e))
  | .var i, X, C, k, W, x, ok, hc, hn => by
    unfold chkE at hc
    split at hc
    · refine impE (nm_ok ok hc) fun σ H Q q => ?_
      obtain ⟨F, τ, st, rs, sl, h⟩ := q
      unfold wpE at h
      cases e : getS τ i with
      | none => rw [e] at h; exact h.elim
      | some v =>
        rw [e] at h
        obtain ⟨y, e', d⟩ := sl.2 i v e
        exact ⟨y, e', LQ.now h rs d⟩
    · cases hc
  | .fvar i, X, C, k, W, x, ok, hc, hn => by
    unfold chkE at hc
    split at hc
    · refine impE (nm_ok ok hc) fun σ H Q q => ?_
      obtain ⟨F, τ, st, rs, sl, h⟩ := q
      unfold wpE at h
      cases e : getS τ i with
      | none => rw [e] at h; exact h.elim
      | some v =>
        rw [e] at h
        replace h : frzV v st (LQ X.K F H Q) := h
        obtain ⟨y, e', d⟩ := sl.2 i v e
        refine ⟨y, e', ?_⟩
        unfold frzV at h
        split at h
        · rename_i a
          cases q : st a with
          | none =>
            have e2 : lstOf st (.ref a) = none := by simp only [lstOf, q]
            rw [e2] at h; exact h.elim
          | some c =>
            cases c with
            | pool =>
              have e2 : lstOf st (.ref a) = none := by simp only [lstOf, q]
              rw [e2] at h; exact h.elim
            | lst xs =>
              have e2 : lstOf st (.ref a) = some xs := by simp only [lstOf, q]
              rw [e2] at h
              obtain ⟨x1, r1, d1⟩ := rs.freeze q
              cases d
              exact h _ _ _ x1 r1 d1
        · exact LQ.now h rs d
    · cases hc
  | .int n, X, C, k, W, x, ok, hc, hn => by
    unfold chkE at hc
    split at hc
    · have e := of_decide_eq_true hc
      subst e
      refine impE pe_int fun σ H Q q => ?_
      obtain ⟨F, τ, st, rs, sl, h⟩ := q
      exact LQ.now h rs (.int n)
    · cases hc
  | .bl n, X, C, k, W, x, ok, hc, hn => by
    unfold chkE at hc
    split at hc
    · have e := eq_of_beq hc
      subst e
      refine impE pe_bl fun σ H Q q => ?_
      obtain ⟨F, τ, st, rs, sl, h⟩ := q
      exact LQ.now h rs (.bl n)
    · cases hc
  | .non, X, C, k, W, x, ok, hc, hn => by
    unfold chkE at hc
    split at hc
    · refine impE pe_non fun σ H Q q => ?_
      obtain ⟨F, τ, st, rs, sl, h⟩ := q
      exact LQ.now h rs .non
    · cases hc
  | .str n, X, C, k, W, x, ok, hc, hn => by
    unfold chkE at hc
    split at hc
    · have e := of_decide_eq_true hc
      subst e
      refine impE pe_str fun σ H Q q => ?_
      obtain ⟨F, τ, st, rs, sl, h⟩ := q
      exact LQ.now h rs (.str n)
    · cases hc
  | .glob n v, X, C, k, W, x, ok, hc, hn => by
    unfold chkE at hc
    split at hc
    · simp only [Bool.and_eq_true, decide_eq_true_eq] at hc
      obtain ⟨e, hg⟩ := hc
      subst e
      obtain ⟨g1, g2⟩ := ok.gl hg
      obtain ⟨u, y, h1, h2, h3⟩ := hn
      refine impE (pe_glob g1 h1 h2 g2) fun σ H Q q => ?_
      obtain ⟨F, τ, st, rs, sl, h⟩ := q
      exact LQ.now h rs (h3 H F)
    · cases hc
  | .bin o m a b, X, C, k, W, x, ok, hc, hn => by
    unfold chkE at hc
    split at hc
    · simp only [Bool.and_eq_true, decide_eq_true_eq] at hc
      obtain ⟨⟨e, h1⟩, h2⟩ := hc
      subst e
      refine impE (pe_op (bin_ok (m := m)) (sE a ok h1 hn.1) (sE b ok h2 hn.2)) fun σ H Q q => ?_
      obtain ⟨F, τ, st, rs, sl, h⟩ := q
      unfold wpE at h
      refine tl_go (wpE_mono a) .refl rs sl h fun F1 H1 y v st1 e1 rs1 sl1 d1 h1 => ?_
      refine tl_go (wpE_mono b) e1 rs1 sl1 h1 fun F2 H2 z w st2 e2 rs2 sl2 d2 h2 => ?_
      exact ⟨F2, st2, v, w, rs2, d1.ext e2, d2, binV_mono (LQ.ext (e1.trans e2)) h2⟩
    · cases hc
  | .neg a, X, C, k, W, x, ok, hc, hn => by
    unfold chkE at hc
    split at hc
    · refine impE (pe_un un_neg (sE a ok hc hn)) fun σ H Q q => ?_
      obtain ⟨F, τ, st, rs, sl, h⟩ := q
      unfold wpE at h
      refine tl_go (wpE_mono a) .refl rs sl h fun F1 H1 y v st1 e1 rs1 sl1 d1 h1 => ?_
      unfold negV at h1
      split at h1
      · cases d1; exact ⟨_, rfl, h1 F1 H1 _ e1 rs1 (.int _)⟩
      · exact h1.elim
    · cases hc
  | .not a, X, C, k, W, x, ok, hc, hn => by
    unfold chkE at hc
    split at hc
    · refine impE (pe_not (sE a ok hc hn)) fun σ H Q q => ?_
      obtain ⟨F, τ, st, rs, sl, h⟩ := q
      unfold wpE at h
      refine tl_go (wpE_mono a) .refl rs sl h fun F1 H1 y v st1 e1 rs1 sl1 d1 h1 => ?_
      cases d1 with
      | bl b => exact ⟨_, rfl, h1 F1 H1 _ e1 rs1 (.bl _)⟩
      | _ => exact h1.elim
    · cases hc
  | .cmp o a b, X, C, k, W, x, ok, hc, hn => by
    unfold chkE at hc
    split at hc
    · simp only [Bool.and_eq_true, decide_eq_true_eq] at hc
      obtain ⟨⟨⟨e, h1⟩, h3⟩, h2⟩ := hc
      subst e
      refine impE (pe_cmpR (cmp_ok ok.room.units) (sE a ok h1 hn.1) (sE b ok h2 hn.2) (nobeh h3)) fun σ H Q q => ?_
      obtain ⟨F, τ, st, rs, sl, h⟩ := q
      unfold wpE at h
      refine tl_go (wpE_mono a) .refl rs sl h fun F1 H1 y v st1 e1 rs1 sl1 d1 h1 => ?_
      refine tl_go (wpE_mono b) e1 rs1 sl1 h1 fun F2 H2 z w st2 e2 rs2 sl2 d2 h2 => ?_
      exact ⟨F2, st2, v, w, rs2, d1.ext e2, d2, cmpV_mono (LQ.ext (e1.trans e2)) h2⟩
    · cases hc
  | .chain o o' a b c, X, C, k, W, x, ok, hc, hn => by
    unfold chkE at hc
    split at hc
    · simp only [Bool.and_eq_true, decide_eq_true_eq] at hc
      obtain ⟨⟨⟨⟨⟨e, e'⟩, h1⟩, h2⟩, h4⟩, h3⟩ := hc
      subst e e'
      refine impE (pe_chain (cmp_ok ok.room.units) (cmp_ok ok.room.units) (sE a ok h1 hn.1) (sE b ok h2 hn.2.1) (sE c ok h3 hn.2.2) (lastm h4)) fun σ H Q q => ?_
      obtain ⟨F, τ, st, rs, sl, h⟩ := q
      unfold wpE at h
      refine tl_go (wpE_mono a) .refl rs sl h fun F1 H1 y v st1 e1 rs1 sl1 d1 h1 => ?_
      refine tl_go (wpE_mono b) e1 rs1 sl1 h1 fun F2 H2 z w st2 e2 rs2 sl2 d2 h2 => ?_
      refine ⟨F2, st2, v, w, rs2, d1.ext e2, d2, cmpV_mono (fun r st3 h3 => ?_) h2⟩
      intro F3 H3 u e3 rs3 d3
      have e13 := (e1.trans e2).trans e3
      cases d3 with
      | bl b =>
        refine ⟨b, rfl, ?_⟩
        have h3 : (if b = true then wpE c (LX X W σ F H) τ st3 fun u st4 => cmpV o' w u st4 (LQ X.K F H Q) else LQ X.K F H Q (.bl false) st3) := h3
        cases b with
        | false => exact h3 F3 H3 _ e13 rs3 (.bl _)
        | true =>
          refine tl_go (wpE_mono c) e13 rs3 (sl2.ext e3) h3 fun F4 H4 z4 w4 st4 e4 rs4 sl4 d4 h4 => ?_
          exact ⟨F4, st4, w, w4, rs4, d2.ext (e3.trans e4), d4, cmpV_mono (LQ.ext (e13.trans e4)) h4⟩
      | _ => exact h3.elim
    · cases hc
  | .bools o es, X, C, k, W, x, ok, hc, hn => by
    unfold chkE at hc
    split at hc
    · simp only [Bool.and_eq_true, decide_eq_true_eq] at hc
      obtain ⟨e, h1⟩ := hc
      subst e
      refine impE (sBs es ok h1 hn) fun σ H Q q => ?_
      obtain ⟨F, τ, st, rs, sl, h⟩ := q
      unfold wpE at h
      exact ⟨F, τ, st, rs, sl, h⟩
    · cases hc
  | .ite t a b, X, C, k, W, x, ok, hc, hn => by
    unfold chkE at hc
    split at hc
    · simp only [Bool.and_eq_true] at hc
      obtain ⟨⟨h1, h2⟩, h3⟩ := hc
      refine impE (pe_ifExp (sT t ok h1 hn.1) (sE a ok h2 hn.2.1) (sE b ok h3 hn.2.2)) fun σ H Q q => ?_
      obtain ⟨F, τ, st, rs, sl, h⟩ := q
      unfold wpE at h
      refine tlT_go (wpT_mono t) .refl rs sl h fun F1 H1 c st1 e1 rs1 sl1 h1 => ?_
      cases c with
      | true => exact tl_go (wpE_mono a) e1 rs1 sl1 h1 fun F2 H2 z w st2 e2 rs2 sl2 d2 h2 => h2 F2 H2 z (e1.trans e2) rs2 d2
      | false => exact tl_go (wpE_mono b) e1 rs1 sl1 h1 fun F2 H2 z w st2 e2 rs2 sl2 d2 h2 => h2 F2 H2 z (e1.trans e2) rs2 d2
    · cases hc
  | .tup es, X, C, k, W, x, ok, hc, hn => by
    unfold chkE at hc
    split at hc
    · refine impE (pe_tup (sA es ok hc hn)) fun σ H Q q => ?_
      obtain ⟨F, τ, st, rs, sl, h⟩ := q
      unfold wpE at h
      refine tlA_go (wpEs_mono es) .refl rs sl h fun F1 H1 y v st1 e1 rs1 sl1 d1 h1 => ?_
      exact ⟨by rw [← d1.length]; exact h1.1, newTup_ok (LQ.ext e1 _ _ h1.2) rs1 d1⟩
    · cases hc
  | .lst m es, X, C, k, W, x, ok, hc, hn => by
    unfold chkE at hc
    split at hc
    · refine impE (pe_lst (sA es ok hc hn)) fun σ H Q q => ?_
      obtain ⟨F, τ, st, rs, sl, h⟩ := q
      unfold wpE at h
      refine tlA_go (wpEs_mono es) .refl rs sl h fun F1 H1 y v st1 e1 rs1 sl1 d1 h1 => ?_
      exact ⟨by rw [← d1.length]; exact h1.1, newList_ok (newList_mono (LQ.ext e1) h1.2) rs1 d1⟩
    · cases hc
  | .idx a i, X, C, k, W, x, ok, hc, hn => by
    unfold chkE at hc
    split at hc
    · simp only [Bool.and_eq_true] at hc
      obtain ⟨⟨h1, h2⟩, h3⟩ := hc
      refine impE (pe_ix ix_ok (sE a ok h1 hn.1) (sE i ok h3 hn.2) (plainIx h2)) fun σ H Q q => ?_
      obtain ⟨F, τ, st, rs, sl, h⟩ := q
      unfold wpE at h
      refine tl_go (wpE_mono a) .refl rs sl h fun F1 H1 y v st1 e1 rs1 sl1 d1 h1 => ?_
      refine tl_go (wpE_mono i) e1 rs1 sl1 h1 fun F2 H2 z w st2 e2 rs2 sl2 d2 h2 => ?_
      exact ⟨F2, st2, v, w, rs2, d1.ext e2, d2, idxV_mono (LQ.ext (e1.trans e2)) h2⟩
    · cases hc
  | .slice m a lo hi, X, C, k, W, x, ok, hc, hn => by
    unfold chkE at hc
    split at hc
    · simp only [Bool.and_eq_true] at hc
      obtain ⟨⟨h1, h2⟩, h3⟩ := hc
      refine impE (pe_slice (sl_ok (m := m)) (sE a ok h1 hn.1) (sO lo ok h2 hn.2.1) (sO hi ok h3 hn.2.2)) fun σ H Q q => ?_
      obtain ⟨F, τ, st, rs, sl, h⟩ := q
      unfold wpE at h
      refine tl_go (wpE_mono a) .refl rs sl h fun F1 H1 y v st1 e1 rs1 sl1 d1 h1 => ?_
      refine tlO_go (wpO_mono lo) e1 rs1 sl1 h1 fun F2 H2 l st2 e2 rs2 sl2 h2 => ?_
      refine tlO_go (wpO_mono hi) (e1.trans e2) rs2 sl2 h2 fun F3 H3 u st3 e3 rs3 sl3 h3 => ?_
      exact ⟨F3, st3, v, rs3, d1.ext (e2.trans e3), sliceV_mono (LQ.ext ((e1.trans e2).trans e3)) h3⟩
    · cases hc
  | .call f sp es, X, C, k, W, x, ok, hc, hn => by
    unfold chkE at hc
    split at hc
    · rename_i p xs pos
      simp only [Bool.and_eq_true, decide_eq_true_eq] at hc
      obtain ⟨⟨e, hg⟩, h1⟩ := hc
      subst e
      obtain ⟨g1, g2⟩ := ok.gl hg
      obtain ⟨⟨fa, fd, ps, m1, m2, m3, m4, m5⟩, hn2⟩ := hn
      have ha := sA es ok h1 hn2
      refine ⟨fun pins s σ H Q I q => ?_⟩
      obtain ⟨F, τ, st, rs, sl, h⟩ := q
      unfold wpE at h
      have hA : tlA X W (wpEs es) σ H (fun ys H1 => liftSp X.K X.mg es.len sp ys H1 Q (WE W σ)) := by
        refine tlA_go (wpEs_mono es) .refl rs sl (wpEs_len es h) fun F1 H1 y v st1 e1 rs1 sl1 d1 h1 => ?_
        exact ⟨F1, st1, v, rs1, d1, by rw [← d1.length]; exact h1.1, callS_mono (LE.ext e1) (LQ.ext e1) h1.2⟩
      refine wpAny_Call_Name_kw (ld_glob I g1 m1 ?_ g2)
      cases xs with
      | nil =>
        have hnil : es = .nil := by
          cases es with
          | nil => rfl
          | cons _ _ => cases h1
        subst hnil
        refine PySem.W.callWith_K0 I.kIn m2 (run_g (us := []) (vs := []) m5 ok.gds ok.room m3 (passAt ok.tk σ) I .nil ?_)
        obtain ⟨F1, τ1, st1, rs1, sl1, h1⟩ := hA
        exact h1 F1 H [] .refl rs1 .nil
      | cons x0 xr =>
        have hst : notStar x0 = true := by
          cases es with
          | nil => cases h1
          | cons a as =>
            have h' : (notStar x0 && chkE a C x0 && chkEs as C xr) = true := h1
            simp only [Bool.and_eq_true] at h'
            exact h'.1.1
        have hall := chkEs_star h1 X.env
        rw [star_cons hst, List.all_cons, Bool.and_eq_true] at hall
        refine PySem.W.callWith_K (h₀ := X.base) I.ok.mod.kin m2 (thn (ha.run pos pins s σ H _ I hA) fun us s1 ⟨vs, H1, I1, r, q⟩ => ⟨I1.kIn, ?_⟩) (star_cons hst) (backTo_any hall.2)
        exact run_g m5 ok.gds ok.room m3 (passAt ok.tk σ) I1 r q
    · cases hc
  | .blt f m es, X, C, k, W, x, ok, hc, hn => by
    unfold chkE at hc
    split at hc
    · rename_i p xs pos
      simp only [Bool.and_eq_true, decide_eq_true_eq] at hc
      obtain ⟨⟨⟨e, hg⟩, hne⟩, h1⟩ := hc
      subst e
      obtain ⟨g1, g2⟩ := ok.gl hg
      obtain ⟨b1, b2⟩ := boot_bf f
      have ha := sA es ok h1 hn
      cases xs with
      | nil => cases hne
      | cons x0 xr =>
        have hst : notStar x0 = true := by
          cases es with
          | nil => cases h1
          | cons a as =>
            have h' : (notStar x0 && chkE a C x0 && chkEs as C xr) = true := h1
            simp only [Bool.and_eq_true] at h'
            exact h'.1.1
        have hall := chkEs_star h1 X.env
        rw [star_cons hst, List.all_cons, Bool.and_eq_true] at hall
        have fin : ∀ σ H Q, tl X W (wpE (.blt f m es)) σ H Q → tCB (rC X.K (bltV f m)) (tlA X W (wpEs es)) σ H Q := fun σ H Q q => by
          obtain ⟨F, τ, st, rs, sl, h⟩ := q
          unfold wpE at h
          refine tlA_go (wpEs_mono es) .refl rs sl h fun F1 H1 y v st1 e1 rs1 sl1 d1 h1 => ?_
          exact ⟨F1, st1, v, rs1, d1, bltV_mono (LQ.ext e1) h1⟩
        have hb := blt_ok (X := X) (f := f) (m := m) ok.calm ok.gds ok.room.units
        cases ht : f.isTy with
        | true =>
          have ev : f.val = .type f.id := by unfold BF.val; rw [ht]; rfl
          rw [ev] at hb b1
          exact impE (pe_callTy hb g1 (ok.bn f) b1 ha b2 g2 (star_cons hst) (backTo_any hall.2)) fin
        | false =>
          have ev : f.val = .builtin f.id := by unfold BF.val; rw [ht]; rfl
          rw [ev] at hb b1
          exact impE (pe_callB hb g1 (ok.bn f) b1 ha b2 g2 (star_cons hst) (backTo_any hall.2)) fin
    · cases hc
  | .isi a ty, X, C, k, W, x, ok, hc, hn => by
    unfold chkE at hc
    split at hc
    · simp only [Bool.and_eq_true, decide_eq_true_eq] at hc
      obtain ⟨⟨⟨⟨⟨⟨e, hg⟩, hst⟩, h1⟩, e2⟩, ht⟩, hg2⟩ := hc
      subst e e2
      obtain ⟨g1, g2⟩ := ok.gl hg
      obtain ⟨g3, g4⟩ := ok.gl hg2
      obtain ⟨c, hcm, ec, bc⟩ := tyStr_ok ht
      have m1 : X.mg ("isinstance" : Str) = none := ok.blt _ (by decide +kernel)
      obtain ⟨m2, ne⟩ := tyStr_more ok hcm ec
      refine impE (pe_callB call_isi g1 m1 (by decide +kernel) (pa_cons (sE a ok h1 hn) (pa_cons (pe_bltn g3 m2 bc (v := .ty c) rfl ne g4) pa_nil rfl) (star_cons hst)) (by decide) g2 (star_cons hst) rfl) fun σ H Q q => ?_
      obtain ⟨F, τ, st, rs, sl, h⟩ := q
      unfold wpE at h
      refine tl_go (wpE_mono a) .refl rs sl h fun F1 H1 y v st1 e1 rs1 sl1 d1 h1 => ?_
      cases e : isiV _ v with
      | none => rw [e] at h1; exact h1.elim
      | some b =>
        rw [e] at h1
        obtain ⟨n1, n2, n3⟩ := isi_val hcm ec e
        obtain ⟨t1, t2⟩ := TyX_ok d1 n1 n2
        exact ⟨y, .ty c, _, _, b, rfl, .ty c, t1, by rw [kit_ty (kit_ok t2 hcm), n3], h1 F1 H1 _ e1 rs1 (.bl b)⟩
    · cases hc
  | .meth f o es, X, C, k, W, x, ok, hc, hn => by
    unfold chkE at hc
    split at hc
    · rename_i xs cp
      simp only [Bool.and_eq_true, decide_eq_true_eq] at hc
      obtain ⟨⟨⟨⟨⟨e, hl⟩, hno⟩, h30⟩, h1⟩, h2⟩ := hc
      subst e
      have ho := sE o ok h1 hn.1
      have ha := sA es ok h2 hn.2
      have slot : Slot "list" f.name f.id := by
        cases f
        · exact PySem.F.slot_list_append
        · exact PySem.F.slot_list_extend
        · exact PySem.F.slot_list_pop
        · exact PySem.F.slot_list_index
      have hty : typeOf (.builtin f.id) = pure (.type "method_descriptor") := by
        cases f
        · exact PySem.F.type_list_append
        · exact PySem.F.type_list_extend
        · exact PySem.F.type_list_pop
        · exact PySem.F.type_list_index
      have ty : ∀ {F H st v x}, RS X.K H F st → DV X.K H F v x → isLst st v → tyV X.K "list" x H := fun {F H st v x} rs d h => by
        unfold isLst at h
        cases e : lstOf st v with
        | none => rw [e] at h; exact h.elim
        | some xs =>
          obtain ⟨a, ys, rfl, h1, _⟩ := lstOf_ok rs e d
          exact .inl ⟨rfl, ys, .of h1⟩
      cases xs with
      | nil =>
        have hnil : es = .nil := by
          cases es with
          | nil => rfl
          | cons _ _ => cases h2
        subst hnil
        refine impE (pe_bm0 PySem.F.plainAttrs_list slot hty meth_ok ho (attr_whole hno _ _ _) hl) fun σ H Q q => ?_
        obtain ⟨F, τ, st, rs, sl, h⟩ := q
        unfold wpE at h
        refine tl_go (wpE_mono o) .refl rs sl h fun F1 H1 y v st1 e1 rs1 sl1 d1 h1 => ?_
        have h2 : methV f v [] st1 (LQ X.K F H Q) := h1.2
        exact ⟨ty rs1 d1 h1.1, F1, st1, v, [], rs1, d1, .nil, methV_mono (LQ.ext e1) h2⟩
      | cons x0 xr =>
        have hst : notStar x0 = true := by
          cases es with
          | nil => cases h2
          | cons a as =>
            have h' : (notStar x0 && chkE a C x0 && chkEs as C xr) = true := h2
            simp only [Bool.and_eq_true] at h'
            exact h'.1.1
        have hall := chkEs_star h2 X.env
        have hall' := hall
        rw [star_cons hst, List.all_cons, Bool.and_eq_true] at hall'
        have hfew : ((backTo cp (starEach (x0 :: xr) X.env)).all (fun x => !x.1) && (backToKw cp (keywordEach [] X.env)).all (fun x => x.1.isSome)
            && decide ((x0 :: xr).length + ([] : List Keyword).length + (if ([] : List Keyword).isEmpty then 0 else 1) < 30)) = true := by
          rw [backTo_all hall]
          show (true && true && decide ((x0 :: xr).length + 0 + 0 < 30)) = true
          rw [Bool.true_and, Bool.true_and]
          exact decide_eq_true h30
        refine impE (pe_bm PySem.F.plainAttrs_list slot hty meth_ok ho ha (attr_whole hno _ _ _) hfew hl (star_cons hst) (backTo_any hall'.2)) fun σ H Q q => ?_
        obtain ⟨F, τ, st, rs, sl, h⟩ := q
        unfold wpE at h
        refine tl_go (wpE_mono o) .refl rs sl h fun F1 H1 y v st1 e1 rs1 sl1 d1 h1 => ?_
        refine ⟨ty rs1 d1 h1.1, tlA_go (wpEs_mono es) e1 rs1 sl1 h1.2 fun F2 H2 z w st2 e2 rs2 sl2 d2 h2 => ?_⟩
        exact ⟨F2, st2, v, w, rs2, d1.ext e2, d2, methV_mono (LQ.ext (e1.trans e2)) h2⟩
    · cases hc
  | .comp m vs tg it ts elt, X, C, k, W, x, ok, hc, hn => by
    unfold chkE at hc
    split at hc
    · rename_i x0 g y ifs kz scope pos
      simp only [Bool.and_eq_true, decide_eq_true_eq] at hc
      obtain ⟨⟨⟨⟨⟨⟨⟨⟨⟨hk, hown⟩, hblk⟩, hsl⟩, hset⟩, h1⟩, h2⟩, h3⟩, h4⟩, h5⟩ := hc
      have ek := eq_of_beq hk
      subst ek
      have hb := fun s H a cl fp => ok.blk (vs := vs) (scope := scope) hblk s H a cl fp
      have hbk : BlkOk X.N X.env.scope scope (ownOf C.N vs) := by rw [ok.hN, ok.hsc]; exact blkOk_by hblk
      have := pe_lc (X := X) (elt := x0) (tg := g) (iter := y) (ifs := ifs) (scope := scope) (own := ownOf C.N vs) (pos := pos) (g := tlG X.K tg) (tt := tlT X (fun _ _ _ _ => False) (wpTs .And ts)) (te := tl X (fun _ _ _ _ => False) (wpE elt)) ok.calm (by rw [ok.hN]; exact ok.nd) (sI it ok h1 hn.1) hbk
        (fun s H a cl fp => sG tg (hb s H a cl fp) h2)
        (fun s H a cl fp => sPTs ts (hb s H a cl fp) h3 h4 hn.2.1)
        (fun s H a cl fp => sE elt (hb s H a cl fp) h5 hn.2.2) (folded hset _)
      rw [hown] at this
      refine impE this fun σ H Q q => ?_
      obtain ⟨F, τ, st, rs, sl, h⟩ := q
      unfold wpE at h
      refine tlI_go (wpI_mono it) .refl rs sl h fun F1 H1 J xs oks st1 e1 rs1 sl1 wp hz h6 => ?_
      obtain ⟨h7, h8, h9⟩ := h6
      have hlen : xs.length ≤ sizeLine := by
        cases hr : it.isR with
        | true => exact h7 hr
        | false => exact hz hr
      have hlc := lc_sound (X := X) (tt := tlT X (fun _ _ _ _ => False) (wpTs .And ts)) (te := tl X (fun _ _ _ _ => False) (wpE elt)) hsl rs1 sl1 wp h8 hlen (newList_mono (LQ.ext e1)) h9
        (fun σ H P q => let ⟨F, τ, st, rs, sl, h⟩ := q; ⟨F, τ, st, rs, sl, wpTs_mono ts (fun _ _ z => z.elim) (fun _ _ h => h) h⟩)
        (fun σ H P q => let ⟨F, τ, st, rs, sl, h⟩ := q; ⟨F, τ, st, rs, sl, wpE_mono elt (fun _ _ z => z.elim) (fun _ _ h => h) h⟩) (fun hp h => wpTs_mono ts (fun _ _ z => z) hp h) (fun hp h => wpE_mono elt (fun _ _ z => z) hp h)
      exact hlc
    · cases hc
theorem sA : ∀ (e : Es) {X : Cx} {C : SC} {k : Nat} {W : WX} {x : List Expr}, CxOk X C k W → chkEs e C x = true → needEs (pfX X k) (pgX X) e → PA X x (tlA X W (wpEs e))
  | .nil, X, C, k, W, xs, ok, hc, hn => by
    cases xs with
    | nil =>
      refine impA pa_nil fun σ H Q q => ?_
      obtain ⟨F, τ, st, rs, sl, h⟩ := q
      exact h F H [] .refl rs .nil
    | cons _ _ => cases hc
  | .cons a as, X, C, k, W, xs, ok, hc, hn => by
    cases xs with
    | nil => cases hc
    | cons x r =>
      have h' : (notStar x && chkE a C x && chkEs as C r) = true := hc
      simp only [Bool.and_eq_true] at h'
      refine impA (pa_cons (sE a ok h'.1.2 hn.1) (sA as ok h'.2 hn.2) (star_cons h'.1.1)) fun σ H Q q => ?_
      obtain ⟨F, τ, st, rs, sl, h⟩ := q
      unfold wpEs at h
      refine tl_go (wpE_mono a) .refl rs sl h fun F1 H1 y v st1 e1 rs1 sl1 d1 h1 => ?_
      refine tlA_go (wpEs_mono as) e1 rs1 sl1 h1 fun F2 H2 z w st2 e2 rs2 sl2 d2 h2 => ?_
      exact h2 F2 H2 _ (e1.trans e2) rs2 (.cons (d1.ext e2) d2)
theorem sBs : ∀ (e : Es) {o : BoolOp} {X : Cx} {C : SC} {k : Nat} {W : WX} {x : List Expr} {pos : Pos}, CxOk X C k W → chkEs e C x = true → needEs (pfX X k) (pgX X) e → PE X (.BoolOp o x pos) (tl X W (wpBs o e))
  | .nil, o, X, C, k, W, xs, pos, ok, hc, hn => ⟨fun pins s σ H Q I ⟨F, τ, st, rs, sl, h⟩ => h.elim⟩
  | .cons a .nil, o, X, C, k, W, xs, pos, ok, hc, hn => by
    cases xs with
    | nil => cases hc
    | cons x r =>
      have h' : (notStar x && chkE a C x && chkEs .nil C r) = true := hc
      simp only [Bool.and_eq_true] at h'
      cases r with
      | cons _ _ => cases h'.2
      | nil =>
        refine impE (pe_one (sE a ok h'.1.2 hn.1)) fun σ H Q q => ?_
        obtain ⟨F, τ, st, rs, sl, h⟩ := q
        unfold wpBs at h
        exact ⟨F, τ, st, rs, sl, h⟩
  | .cons a (.cons b bs), o, X, C, k, W, xs, pos, ok, hc, hn => by
    cases xs with
    | nil => cases hc
    | cons x r =>
      have h' : (notStar x && chkE a C x && chkEs (.cons b bs) C r) = true := hc
      simp only [Bool.and_eq_true] at h'
      cases r with
      | nil => cases h'.2
      | cons y r =>
        have ih := sBs (.cons b bs) (o := o) (pos := pos) ok h'.2 hn.2
        cases o with
        | And =>
          refine impE (pe_and (sE a ok h'.1.2 hn.1) ih) fun σ H Q q => ?_
          obtain ⟨F, τ, st, rs, sl, h⟩ := q
          unfold wpBs at h
          dsimp only at h
          refine tl_go (wpE_mono a) .refl rs sl h fun F1 H1 y v st1 e1 rs1 sl1 d1 h1 => ?_
          cases d1 with
          | bl c =>
            refine ⟨c, rfl, ?_⟩
            cases c with
            | true => exact tl_go (wpBs_mono (.cons b bs)) e1 rs1 sl1 h1 fun F2 H2 z w st2 e2 rs2 sl2 d2 h2 => h2 F2 H2 z (e1.trans e2) rs2 d2
            | false => exact h1 F1 H1 _ e1 rs1 (.bl _)
          | _ => exact h1.elim
        | Or =>
          refine impE (pe_or (sE a ok h'.1.2 hn.1) ih) fun σ H Q q => ?_
          obtain ⟨F, τ, st, rs, sl, h⟩ := q
          unfold wpBs at h
          dsimp only at h
          refine tl_go (wpE_mono a) .refl rs sl h fun F1 H1 y v st1 e1 rs1 sl1 d1 h1 => ?_
          cases d1 with
          | bl c =>
            refine ⟨c, rfl, ?_⟩
            cases c with
            | false => exact tl_go (wpBs_mono (.cons b bs)) e1 rs1 sl1 h1 fun F2 H2 z w st2 e2 rs2 sl2 d2 h2 => h2 F2 H2 z (e1.trans e2) rs2 d2
            | true => exact h1 F1 H1 _ e1 rs1 (.bl _)
          | _ => exact h1.elim
theorem sO : ∀ (e : OE) {X : Cx} {C : SC} {k : Nat} {W : WX} {x : Option Expr}, CxOk X C k W → chkO e C x = true → needO (pfX X k) (pgX X) e → PO X x (tlO X W (wpO e))
  | .no, X, C, k, W, x, ok, hc, hn => by
    cases x with
    | some _ => cases hc
    | none =>
      refine impO po_none fun σ H Q q => ?_
      obtain ⟨F, τ, st, rs, sl, h⟩ := q
      exact h F H .refl rs
  | .yes a, X, C, k, W, x, ok, hc, hn => by
    cases x with
    | none => cases hc
    | some x =>
      refine impO (po_some (sE a ok hc hn)) fun σ H Q q => ?_
      obtain ⟨F, τ, st, rs, sl, h⟩ := q
      unfold wpO at h
      refine tl_go (wpE_mono a) .refl rs sl h fun F1 H1 y v st1 e1 rs1 sl1 d1 h1 => ?_
      cases d1 with
      | int i => exact ⟨i, rfl, h1 F1 H1 e1 rs1⟩
      | _ => exact h1.elim
theorem sT : ∀ (e : T) {X : Cx} {C : SC} {k : Nat} {W : WX} {x : Expr}, CxOk X C k W → chkT e C x = true → needT (pfX X k) (pgX X) e → PT X x (tlT X W (wpT e))
  | .val a, X, C, k, W, x, ok, hc, hn => by
    have hc' : (plainT x && chkE a C x) = true := hc
    simp only [Bool.and_eq_true] at hc'
    refine impT (pt_truth (sE a ok hc'.2 hn) (plain_isTrue hc'.1 _)) fun σ H Q q => ?_
    obtain ⟨F, τ, st, rs, sl, h⟩ := q
    unfold wpT at h
    refine tl_go (wpE_mono a) .refl rs sl h fun F1 H1 y v st1 e1 rs1 sl1 d1 h1 => ?_
    obtain ⟨b, h2, h3⟩ := tru_lift rs1 d1 h1
    exact ⟨b, h2, h3 F1 H1 e1 rs1⟩
  | .cmp o a b, X, C, k, W, x, ok, hc, hn => by
    unfold chkT at hc
    split at hc
    · simp only [Bool.and_eq_true, decide_eq_true_eq] at hc
      obtain ⟨⟨⟨e, h1⟩, h3⟩, h2⟩ := hc
      subst e
      refine impT (pt_cmpR (cmp_ok ok.room.units) (sE a ok h1 hn.1) (sE b ok h2 hn.2) (nobeh h3)) fun σ H Q q => ?_
      obtain ⟨F, τ, st, rs, sl, h⟩ := q
      unfold wpT at h
      refine tl_go (wpE_mono a) .refl rs sl h fun F1 H1 y v st1 e1 rs1 sl1 d1 h1 => ?_
      refine tl_go (wpE_mono b) e1 rs1 sl1 h1 fun F2 H2 z w st2 e2 rs2 sl2 d2 h2 => ?_
      refine ⟨F2, st2, v, w, rs2, d1.ext e2, d2, cmpV_mono (fun r st3 h3 => ?_) h2⟩
      intro F3 H3 u e3 rs3 d3
      cases d3 with
      | bl c => exact ⟨c, rfl, h3 F3 H3 ((e1.trans e2).trans e3) rs3⟩
      | _ => exact h3.elim
    · cases hc
  | .chain o o' a b c, X, C, k, W, x, ok, hc, hn => by
    unfold chkT at hc
    split at hc
    · simp only [Bool.and_eq_true, decide_eq_true_eq] at hc
      obtain ⟨⟨⟨⟨⟨e, e'⟩, h1⟩, h2⟩, h4⟩, h3⟩ := hc
      subst e e'
      refine impT (pt_chain (cmp_ok ok.room.units) (cmp_ok ok.room.units) (sE a ok h1 hn.1) (sE b ok h2 hn.2.1) (sE c ok h3 hn.2.2) (lastm h4)) fun σ H Q q => ?_
      obtain ⟨F, τ, st, rs, sl, h⟩ := q
      unfold wpT at h
      refine tl_go (wpE_mono a) .refl rs sl h fun F1 H1 y v st1 e1 rs1 sl1 d1 h1 => ?_
      refine tl_go (wpE_mono b) e1 rs1 sl1 h1 fun F2 H2 z w st2 e2 rs2 sl2 d2 h2 => ?_
      refine ⟨F2, st2, v, w, rs2, d1.ext e2, d2, cmpV_mono (fun r st3 h3 => ?_) h2⟩
      intro F3 H3 u e3 rs3 d3
      have e13 := (e1.trans e2).trans e3
      cases d3 with
      | bl b =>
        refine ⟨b, rfl, ?_⟩
        cases b with
        | false => exact ⟨false, rfl, h3 F3 H3 e13 rs3⟩
        | true =>
          refine tl_go (wpE_mono c) e13 rs3 (sl2.ext e3) h3 fun F4 H4 z4 w4 st4 e4 rs4 sl4 d4 h4 => ?_
          refine ⟨F4, st4, w, w4, rs4, d2.ext (e3.trans e4), d4, cmpV_mono (fun r st5 h5 => ?_) h4⟩
          intro F5 H5 u5 e5 rs5 d5
          cases d5 with
          | bl c => exact ⟨c, rfl, h5 F5 H5 ((e13.trans e4).trans e5) rs5⟩
          | _ => exact h5.elim
      | _ => exact h3.elim
    · cases hc
  | .not t, X, C, k, W, x, ok, hc, hn => by
    unfold chkT at hc
    split at hc
    · refine impT (pt_not (sT t ok hc hn)) fun σ H Q q => ?_
      obtain ⟨F, τ, st, rs, sl, h⟩ := q
      unfold wpT at h
      exact tlT_go (wpT_mono t) .refl rs sl h fun F1 H1 c st1 e1 rs1 sl1 h1 => h1 F1 H1 e1 rs1
    · cases hc
  | .bools o ts, X, C, k, W, x, ok, hc, hn => by
    unfold chkT at hc
    split at hc
    · rename_i o' xs pos
      simp only [Bool.and_eq_true, decide_eq_true_eq] at hc
      obtain ⟨⟨e, hne⟩, h1⟩ := hc
      subst e
      have hne' : xs ≠ [] := by
        intro z; subst z; cases hne
      refine impT (PW.pt (sTs ts (o := o) ok h1 hne' hn)) fun σ H Q q => ?_
      obtain ⟨F, τ, st, rs, sl, h⟩ := q
      unfold wpT at h
      exact ⟨F, τ, st, rs, sl, h⟩
    · cases hc
  | .ite _ _ _, X, C, k, W, x, ok, hc, hn => by
    unfold chkT at hc
    cases hc
theorem sTs : ∀ (e : Ts) {o : BoolOp} {X : Cx} {C : SC} {k : Nat} {W : WX} {x : List Expr} {pos : Pos}, CxOk X C k W → chkTs e C x = true → x ≠ [] → needTs (pfX X k) (pgX X) e → PW X (.BoolOp o x pos) (tlT X W (wpTs o e))
  | .nil, o, X, C, k, W, xs, pos, ok, hc, hne, hn => by
    cases xs with
    | nil => exact absurd rfl hne
    | cons _ _ => cases hc
  | .cons t .nil, o, X, C, k, W, xs, pos, ok, hc, hne, hn => by
    cases xs with
    | nil => cases hc
    | cons x r =>
      have h' : (chkT t C x && chkTs .nil C r) = true := hc
      simp only [Bool.and_eq_true] at h'
      cases r with
      | cons _ _ => cases h'.2
      | nil =>
        cases o with
        | And =>
          refine impW (pw_and1 (sT t ok h'.1 hn.1)) fun σ H Q q => ?_
          obtain ⟨F, τ, st, rs, sl, h⟩ := q
          unfold wpTs at h
          refine tlT_go (wpT_mono t) .refl rs sl h fun F1 H1 c st1 e1 rs1 sl1 h1 => ?_
          cases c with
          | true => exact h1 F1 H1 e1 rs1
          | false => exact h1 F1 H1 e1 rs1
        | Or =>
          refine impW (pw_or1 (sT t ok h'.1 hn.1)) fun σ H Q q => ?_
          obtain ⟨F, τ, st, rs, sl, h⟩ := q
          unfold wpTs at h
          refine tlT_go (wpT_mono t) .refl rs sl h fun F1 H1 c st1 e1 rs1 sl1 h1 => ?_
          cases c with
          | true => exact h1 F1 H1 e1 rs1
          | false => exact h1 F1 H1 e1 rs1
  | .cons t (.cons u us), o, X, C, k, W, xs, pos, ok, hc, hne, hn => by
    cases xs with
    | nil => cases hc
    | cons x r =>
      have h' : (chkT t C x && chkTs (.cons u us) C r) = true := hc
      simp only [Bool.and_eq_true] at h'
      cases r with
      | nil => cases h'.2
      | cons y r =>
        have ih := sTs (.cons u us) (o := o) (pos := pos) ok h'.2 (fun z => nomatch z) hn.2
        cases o with
        | And =>
          refine impW (pw_and (sT t ok h'.1 hn.1) ih) fun σ H Q q => ?_
          obtain ⟨F, τ, st, rs, sl, h⟩ := q
          have h : wpT t (LX X W σ F H) τ st fun k st1 => if k = true then wpTs .And (.cons u us) (LX X W σ F H) τ st1 _ else _ := h
          refine tlT_go (wpT_mono t) .refl rs sl h fun F1 H1 c st1 e1 rs1 sl1 h1 => ?_
          cases c with
          | true => exact tlT_go (wpTs_mono (.cons u us)) e1 rs1 sl1 h1 fun F2 H2 c st2 e2 rs2 sl2 h2 => h2 F2 H2 (e1.trans e2) rs2
          | false => exact h1 F1 H1 e1 rs1
        | Or =>
          refine impW (pw_or (sT t ok h'.1 hn.1) ih) fun σ H Q q => ?_
          obtain ⟨F, τ, st, rs, sl, h⟩ := q
          have h : wpT t (LX X W σ F H) τ st fun k st1 => if k = true then _ else wpTs .Or (.cons u us) (LX X W σ F H) τ st1 _ := h
          refine tlT_go (wpT_mono t) .refl rs sl h fun F1 H1 c st1 e1 rs1 sl1 h1 => ?_
          cases c with
          | false => exact tlT_go (wpTs_mono (.cons u us)) e1 rs1 sl1 h1 fun F2 H2 c st2 e2 rs2 sl2 h2 => h2 F2 H2 (e1.trans e2) rs2
          | true => exact h1 F1 H1 e1 rs1
theorem sI : ∀ (e : I) {X : Cx} {C : SC} {k : Nat} {W : WX} {g x : Expr}, CxOk X C k W → chkI e C g x = true → needI (pfX X k) (pgX X) e → PI X g x (tlI X W e.isR (wpI e))
  | .val a, X, C, k, W, g, x, ok, hc, hn => by
    refine ⟨fun pins s σ H R I q => ?_⟩
    obtain ⟨F, τ, st, rs, sl, h⟩ := q
    unfold wpI at h
    refine thn ((sE a ok hc hn).run pins s σ H (fun x H1 => ∃ b ys, x = .ref b ∧ ((SqL X.K H1 b ys ∧ (ys.length ≤ sizeLine → R (Itl X.K b) H1)) ∨ (SqT X.K H1 b ys ∧ (ys.length ≤ sizeLine → R (Itt X.K b) H1)))) I ?_) fun v s1 ⟨y, H1, I1, r1, q1⟩ => ?_
    · refine tl_go (wpE_mono a) .refl rs sl h fun F1 H1 y v st1 e1 rs1 sl1 d1 h1 => ?_
      unfold itV at h1
      split at h1
      · cases d1 with
        | tup hq ds => exact ⟨_, _, rfl, .inr ⟨hq, fun hz => h1 F1 H1 _ e1 rs1 (wp_tup hq ds) fun _ => Nat.le_trans (Nat.le_of_eq ds.length) hz⟩⟩
      · cases d1 with
        | lst f hq ds => exact ⟨_, _, rfl, .inl ⟨.of hq, fun hz => h1 F1 H1 _ e1 rs1 (wp_list f hq ds) fun _ => Nat.le_trans (Nat.le_of_eq ds.length) hz⟩⟩
      · rename_i a'
        cases e : lstOf st1 (.ref a') with
        | none => rw [e] at h1; exact h1.elim
        | some zs =>
          rw [e] at h1
          obtain ⟨b, ys, rfl, hq, ds⟩ := lstOf_ok rs1 e d1
          cases d1
          exact ⟨_, _, rfl, .inl ⟨.of hq, fun hz => h1 F1 H1 _ e1 rs1 (wp_ref zs) fun _ => Nat.le_trans (Nat.le_of_eq ds.length) hz⟩⟩
      · exact h1.elim
    · obtain ⟨b, ys, rfl, q⟩ := q1
      cases r1
      rcases q with ⟨hq, q⟩ | ⟨hq, q⟩
      · obtain ⟨_, _, _, hz⟩ := I1.list hq
        exact iter_l I1 hq (q hz)
      · obtain ⟨_, _, _, hz⟩ := I1.tuple hq
        exact iter_t I1 hq (q hz)
  | .range1 a, X, C, k, W, g, x, ok, hc, hn => by
    unfold chkI at hc
    split at hc
    · simp only [Bool.and_eq_true, decide_eq_true_eq] at hc
      obtain ⟨⟨⟨e, hg⟩, hst⟩, h1⟩ := hc
      subst e
      refine impI (pi_range1 (ok.gl hg).1 (ok.blt _ (by decide +kernel)) (pa_cons (sE a ok h1 hn) pa_nil (star_cons hst)) (star_cons hst)) fun σ H R q => ?_
      obtain ⟨F, τ, st, rs, sl, h⟩ := q
      unfold wpI at h
      refine tl_go (wpE_mono a) .refl rs sl h fun F1 H1 y v st1 e1 rs1 sl1 d1 h1 => ?_
      cases d1 with
      | int j => exact ⟨j, rfl, h1.1.1, h1.1.2, h1.2 F1 H1 _ e1 rs1 (wp_rng 0 _) (fun z => nomatch z)⟩
      | _ => exact h1.elim
    · cases hc
  | .range2 a b, X, C, k, W, g, x, ok, hc, hn => by
    unfold chkI at hc
    split at hc
    · simp only [Bool.and_eq_true, decide_eq_true_eq] at hc
      obtain ⟨⟨⟨⟨⟨e, hg⟩, hst⟩, h1⟩, hst2⟩, h2⟩ := hc
      subst e
      have hs2 : starEach [_, _] X.env = [(false, eval _ X.env), (false, eval _ X.env)] := (star_cons hst).trans (congrArg _ (star_cons hst2))
      refine impI (pi_range2 (ok.gl hg).1 (ok.blt _ (by decide +kernel)) (pa_cons (sE a ok h1 hn.1) (pa_cons (sE b ok h2 hn.2) pa_nil (star_cons hst2)) (star_cons hst)) hs2 (star_cons hst2)) fun σ H R q => ?_
      obtain ⟨F, τ, st, rs, sl, h⟩ := q
      unfold wpI at h
      refine tl_go (wpE_mono a) .refl rs sl h fun F1 H1 y v st1 e1 rs1 sl1 d1 h1 => ?_
      refine tl_go (wpE_mono b) e1 rs1 sl1 h1 fun F2 H2 z w st2 e2 rs2 sl2 d2 h2 => ?_
      cases d1 with
      | int i =>
        cases d2 with
        | int j => exact ⟨i, j, rfl, ⟨h2.1.1, h2.1.2, h2.2.1.1, h2.2.1.2⟩, h2.2.2 F2 H2 _ (e1.trans e2) rs2 (wp_rng i _) (fun z => nomatch z)⟩
        | _ => exact h2.elim
      | _ => exact h2.elim
    · cases hc
  | .enum a, X, C, k, W, g, x, ok, hc, hn => by
    unfold chkI at hc
    split at hc
    · simp only [Bool.and_eq_true, decide_eq_true_eq] at hc
      obtain ⟨⟨⟨e, hg⟩, hst⟩, h1⟩ := hc
      subst e
      refine impI (pi_enumA (ok.gl hg).1 (ok.blt _ (by decide +kernel)) (pa_cons (sE a ok h1 hn) pa_nil (star_cons hst)) (star_cons hst)) fun σ H R q => ?_
      obtain ⟨F, τ, st, rs, sl, h⟩ := q
      unfold wpI at h
      refine tl_go (wpE_mono a) .refl rs sl h fun F1 H1 y v st1 e1 rs1 sl1 d1 h1 => ?_
      unfold itV at h1
      split at h1
      · cases d1 with
        | tup hq ds => exact ⟨_, _, rfl, .inr ⟨hq, h1 F1 H1 _ e1 rs1 (wp_enumT hq ds) (fun z => nomatch z)⟩⟩
      · cases d1 with
        | lst f hq ds => exact ⟨_, _, rfl, .inl ⟨.of hq, h1 F1 H1 _ e1 rs1 (wp_enumL f hq ds) (fun z => nomatch z)⟩⟩
      · rename_i a'
        cases e : lstOf st1 (.ref a') with
        | none => rw [e] at h1; exact h1.elim
        | some zs =>
          rw [e] at h1
          obtain ⟨b, ys, rfl, hq, ds⟩ := lstOf_ok rs1 e d1
          cases d1
          exact ⟨_, _, rfl, .inl ⟨.of hq, h1 F1 H1 _ e1 rs1 (wp_enumR zs) (fun z => nomatch z)⟩⟩
      · exact h1.elim
    · cases hc
  | .zip a b, X, C, k, W, g, x, ok, hc, hn => by
    unfold chkI at hc
    split at hc
    · simp only [Bool.and_eq_true, decide_eq_true_eq] at hc
      obtain ⟨⟨⟨⟨⟨e, hg⟩, hst⟩, h1⟩, hst2⟩, h2⟩ := hc
      subst e
      have hs2 : starEach [_, _] X.env = [(false, eval _ X.env), (false, eval _ X.env)] := (star_cons hst).trans (congrArg _ (star_cons hst2))
      refine impI (RZ.pi_zipA (ok.gl hg).1 (ok.blt _ (by decide +kernel)) (pa_cons (sE a ok h1 hn.1) (pa_cons (sE b ok h2 hn.2) pa_nil (star_cons hst2)) (star_cons hst)) (star_cons hst) (by rw [star_cons hst2]; rfl)) fun σ H R q => ?_
      obtain ⟨F, τ, st, rs, sl, h⟩ := q
      unfold wpI at h
      refine tl_go (wpE_mono a) .refl rs sl h fun F1 H1 y v st1 e1 rs1 sl1 d1 h1 => ?_
      refine tl_go (wpE_mono b) e1 rs1 sl1 h1 fun F2 H2 z w st2 e2 rs2 sl2 d2 h2 => ?_
      unfold zipV at h2
      split at h2
      · cases d1 with
        | tup hq ds =>
          cases d2 with
          | tup hq' ds' =>
            have := sqText e2 hq
            exact ⟨_, _, _, _, rfl, .inr ⟨this, hq', h2 F2 H2 _ (e1.trans e2) rs2 (wp_zipT this (ds.ext e2) hq' ds') (fun z => nomatch z)⟩⟩
      · cases d1 with
        | lst f hq ds =>
          cases d2 with
          | lst f' hq' ds' =>
            have := e2.kp _ _ hq (.inl f)
            exact ⟨_, _, _, _, rfl, .inl ⟨.of this, .of hq', h2 F2 H2 _ (e1.trans e2) rs2 (wp_zipL (e2.le _ f) this (ds.ext e2) f' hq' ds') (fun z => nomatch z)⟩⟩
      · exact h2.elim
    · cases hc
theorem sPTs : ∀ (e : Ts) {X : Cx} {C : SC} {k : Nat} {W : WX} {x : List Expr}, CxOk X C k W → chkTs e C x = true → x.length ≤ 1 → needTs (pfX X k) (pgX X) e → PTs X x (tlT X W (wpTs .And e))
  | .nil, X, C, k, W, xs, ok, hc, hl, hn => by
    cases xs with
    | cons _ _ => cases hc
    | nil =>
      refine impTs pts_nil fun σ H Q q => ?_
      obtain ⟨F, τ, st, rs, sl, h⟩ := q
      exact h F H .refl rs
  | .cons t .nil, X, C, k, W, xs, ok, hc, hl, hn => by
    cases xs with
    | nil => cases hc
    | cons x r =>
      have h' : (chkT t C x && chkTs .nil C r) = true := hc
      simp only [Bool.and_eq_true] at h'
      cases r with
      | cons _ _ => cases h'.2
      | nil =>
        refine impTs (pts_one (sT t ok h'.1 hn.1)) fun σ H Q q => ?_
        obtain ⟨F, τ, st, rs, sl, h⟩ := q
        unfold wpTs at h
        refine tlT_go (wpT_mono t) .refl rs sl h fun F1 H1 c st1 e1 rs1 sl1 h1 => ?_
        cases c with
        | true => exact h1 F1 H1 e1 rs1
        | false => exact h1 F1 H1 e1 rs1
  | .cons t (.cons u us), X, C, k, W, xs, ok, hc, hl, hn => by
    cases xs with
    | nil => cases hc
    | cons x r =>
      have h' : (chkT t C x && chkTs (.cons u us) C r) = true := hc
      simp only [Bool.and_eq_true] at h'
      cases r with
      | nil => cases h'.2
      | cons y r => exact absurd hl (by simp)
end
end
end TK

set_option maxRecDepth 100000
set_option maxHeartbeats 8000000
namespace TK
open PySem PySem.Spec PyProof.Rows L2
/-! ### statements -/
def PD (X : Cx) (W : WX) (D : Ends) (F : FS) (H : Hp) : PEnds where
  nx := fun τ' st' => ∀ F' H' σ', Ext F H F' H' → RS X.K H' F' st' → RSl X.K H' F' τ' σ' → D.nx σ' H'
  rt := LQ X.K F H D.rt
  bk := fun τ' st' => ∀ F' H' σ', Ext F H F' H' → RS X.K H' F' st' → RSl X.K H' F' τ' σ' → D.bk σ' H'
  ct := fun τ' st' => ∀ F' H' σ', Ext F H F' H' → RS X.K H' F' st' → RSl X.K H' F' τ' σ' → D.ct σ' H'
  ex := fun e τ' st' => ∀ F' H' σ' cls d, Ext F H F' H' → RS X.K H' F' st' → RSl X.K H' F' τ' σ' → ExRep X.K X.mg H' F' e cls d → W cls d σ' H'
theorem PD.ext {X : Cx} {W : WX} {D : Ends} {F F1 : FS} {H H1 : Hp} (x : Ext F H F1 H1) : (PD X W D F H).Le (PD X W D F1 H1) :=
  ⟨fun _ _ h F' H' σ' e => h F' H' σ' (x.trans e), fun _ _ h F' H' y e => h F' H' y (x.trans e), fun _ _ h F' H' σ' e => h F' H' σ' (x.trans e), fun _ _ h F' H' σ' e => h F' H' σ' (x.trans e), fun _ _ _ h F' H' σ' c d e => h F' H' σ' c d (x.trans e)⟩
theorem PD.lx {X : Cx} {W : WX} {D : Ends} {F : FS} {H : Hp} {τ : Sl} {σ : L2.St} (sl : RSl X.K H F τ σ) : ∀ e s, (PD X W D F H).ex e τ s → LX X W σ F H e s :=
  fun e s h F' H' c d x r q => h F' H' σ c d x r (sl.ext x) q
def tls (X : Cx) (W : WX) (w : PEnds → Sl → Store → Prop) : TS := fun D σ H => ∃ F τ st, RS X.K H F st ∧ RSl X.K H F τ σ ∧ w (PD X W D F H) τ st
section
variable {X : Cx} {C : SC} {k : Nat} {W : WX}
theorem notComp_swaps {e : Expr} (h : notComp e = true) (t : Option Expr) (n : Nat) (env : Env) : swapsWith e t n env = pure false := by
  cases e <;> first | rfl | cases h
theorem noswap {g e : Expr} {env : Env} (h : (notTup g || notTup e) = true) : swappedStores [g] e env = pure none := by
  rcases Bool.or_eq_true_iff.mp h with h | h
  · cases g <;> first | rfl | cases h
  · cases e with
    | Tuple _ _ _ => cases h
    | _ =>
      unfold swappedStores
      split
      · rename_i e1
        split at e1 <;> first | (rename_i hh; cases hh; done) | cases e1
      · rfl
theorem chkG_star {tg : TG} {g : Expr} (h : chkG C tg g = true) : notStar g = true := by
  cases g with
  | Starred _ _ => cases tg <;> cases h
  | _ => rfl
theorem assign_one {g : Expr} {env : Env} (h : notStar g = true) : (assignEach [g] env).map (·.2) = [assign g env] := by
  cases g <;> first | rfl | cases h
theorem aug_ok {o : Operator} : PIp X o (rB X.K (augV o)) := by
  intro pins s σ H x y vv uu Q I rx ry ⟨F, st, v, w, rs, dv, dw, h⟩
  unfold augV at h
  split at h
  · cases dv; cases dw
    exact iop_add pins s σ H _ _ _ _ Q I rx ry ⟨_, _, rfl, rfl, h.now rs (.int _)⟩
  · cases dv; cases dw
    exact iop_sub pins s σ H _ _ _ _ Q I rx ry ⟨_, _, rfl, rfl, h.now rs (.int _)⟩
  · exact h.elim
/-- an expression, then a target -/
theorem sS_asg {tg : TG} {a : E} {D : Ends} {σ : L2.St} {H : Hp} (q : tls X W (wpS (.asg tg a)) D σ H) : tAsg (tl X W (wpE a)) (tlG X.K tg) D σ H := by
  obtain ⟨F, τ, st, rs, sl, h⟩ := q
  unfold wpS at h
  refine tl_go (wpE_mono a) .refl rs sl (wpE_mono a (PD.lx sl) (fun _ _ h => h) h) fun F1 H1 y v st1 e1 rs1 sl1 d1 h1 => ?_
  cases e : tg.asg v τ with
  | none => rw [e] at h1; exact h1.elim
  | some τ' =>
    rw [e] at h1
    exact ⟨F1, τ, τ', v, sl1, d1, e, fun σ' sl' _ => h1 F1 H1 σ' e1 rs1 sl'⟩
mutual
theorem sS : ∀ (s : S) {X : Cx} {C : SC} {k : Nat} {W : WX} {x : Stmt}, CxOk X C k W → chkS s C x = true → needS (pfX X k) (pgX X) s → PS X x (tls X W (wpS s))
  | .asg tg a, X, C, k, W, x, ok, hc, hn => by
    unfold chkS at hc
    split at hc
    · simp only [Bool.and_eq_true] at hc
      obtain ⟨⟨⟨h1, h2⟩, h3⟩, h4⟩ := hc
      exact impS (ps_asg (sE a ok h4 hn) (sG tg ok h1) (notComp_swaps h2 _ _ _) (noswap h3) (assign_one (chkG_star h1))) fun D σ H q => sS_asg q
    · cases hc
  | .asgLc i a, X, C, k, W, x, ok, hc, hn => by
    unfold chkS at hc
    split at hc
    · rename_i y py elt gs scope pos spos
      simp only [Bool.and_eq_true, decide_eq_true_eq] at hc
      obtain ⟨⟨⟨⟨⟨g1, g2⟩, g3⟩, g4⟩, g5⟩, g6⟩ := hc
      cases a with
      | comp m vs tg it ts elt' =>
        unfold chkE at g6
        split at g6
        · rename_i x0 g y ifs kz scope' pos' e6
          cases e6
          simp only [Bool.and_eq_true, decide_eq_true_eq] at g6
          obtain ⟨⟨⟨⟨⟨⟨⟨⟨⟨hk, hown⟩, hblk⟩, hsl⟩, hset⟩, h1⟩, h2⟩, h3⟩, h4⟩, h5⟩ := g6
          have ek := eq_of_beq hk
          subst ek
          have hb := fun s H a cl fp => ok.blk (vs := vs) (scope := scope) hblk s H a cl fp
          have hbk : BlkOk X.N X.env.scope scope (ownOf C.N vs) := by rw [ok.hN, ok.hsc]; exact blkOk_by hblk
          have hsw := sw_true (elt := elt) (gs := [⟨g, y, ifs, 0⟩]) (pos := pos) (py := py) (l := spos.line) (env := X.env) (by rw [ok.hsc]; have := ok.kindF; exact this) (by rw [ok.hsc]; exact g2) g3 (scope := scope) (by simpa using g4)
          have := ps_setLc (X := X) (i := i) (py := py) (elt := elt) (tg := g) (iter := y) (ifs := ifs) (scope := scope) (own := ownOf C.N vs) (pos := pos) (spos := spos) (g := tlG X.K tg) (tt := tlT X (fun _ _ _ _ => False) (wpTs .And ts)) (te := tl X (fun _ _ _ _ => False) (wpE elt'))
            ok.calm (by rw [ok.hN]; exact ok.nd) (by rw [ok.hN]; exact g1) (by rw [ok.hsc]; exact g2) hsw (sI it ok h1 hn.1) hbk
            (fun s H a cl fp => sG tg (hb s H a cl fp) h2)
            (fun s H a cl fp => sPTs ts (hb s H a cl fp) h3 h4 hn.2.1)
            (fun s H a cl fp => sE elt' (hb s H a cl fp) h5 hn.2.2) (folded hset _)
          rw [hown] at this
          refine impS this fun D σ H q => ?_
          obtain ⟨F, τ, st, rs, sl, h⟩ := q
          unfold wpS at h
          have h := wpE_mono (.comp m vs tg it ts elt') (PD.lx sl) (fun _ _ h => h) h
          unfold wpE at h
          refine tlI_go (wpI_mono it) .refl rs sl h fun F1 H1 J xs oks st1 e1 rs1 sl1 wp hz h6 => ?_
          obtain ⟨h7, h8, h9⟩ := h6
          have hlen : xs.length ≤ sizeLine := by
            cases hr : it.isR with
            | true => exact h7 hr
            | false => exact hz hr
          have hlc := lc_sound (X := X) (Q := fun x H1 => gName i x σ H1 D.nx) (tt := tlT X (fun _ _ _ _ => False) (wpTs .And ts)) (te := tl X (fun _ _ _ _ => False) (wpE elt')) hsl rs1 sl1 wp h8 hlen
            (fun {ys} h => newList_mono (fun v s h2 => (fun F2 H2 y x2 r2 d2 => h2 F2 H2 _ (e1.trans x2) r2 ((sl1.ext x2).set d2 i) : LQ X.K F1 H1 (fun x H1 => gName i x σ H1 D.nx) v s)) h) h9
            (fun σ H P q => let ⟨F, τ, st, rs, sl, h⟩ := q; ⟨F, τ, st, rs, sl, wpTs_mono ts (fun _ _ z => z.elim) (fun _ _ h => h) h⟩)
            (fun σ H P q => let ⟨F, τ, st, rs, sl, h⟩ := q; ⟨F, τ, st, rs, sl, wpE_mono elt' (fun _ _ z => z.elim) (fun _ _ h => h) h⟩) (fun hp h => wpTs_mono ts (fun _ _ z => z) hp h) (fun hp h => wpE_mono elt' (fun _ _ z => z) hp h)
          exact hlc
        · cases g6
      | _ => cases g5
    · cases hc
  | .setIx o i a, X, C, k, W, x, ok, hc, hn => by
    unfold chkS at hc
    split at hc
    · rename_i y z ps e ps'
      simp only [Bool.and_eq_true] at hc
      obtain ⟨⟨⟨h1, h2⟩, h3⟩, h4⟩ := hc
      have hz : ∀ v, assign (.Subscript y z ps) X.env v = (do
          let ov ← holding [v] (eval y X.env)
          let iv ← holding [v, ov] (eval z X.env)
          standAt ps
          holding [v, ov, iv] (setItem ov iv v)
          release [v, ov, iv] []) := by
        intro v
        cases z <;> first | rfl | cases h1
      have hs : swapsWithSole [.Subscript y z ps] e ps'.line X.env = pure false := by
        show swapsWith e (some (.Subscript y z ps)) ps'.line X.env = pure false
        cases e <;> rfl
      refine impS (ps_asg (sE a ok h4 hn.2.2) (pg_sub (sE o ok h2 hn.1) (sE i ok h3 hn.2.1) set_ok hz) hs rfl rfl) fun D σ H q => ?_
      obtain ⟨F, τ, st, rs, sl, h⟩ := q
      unfold wpS at h
      refine tl_go (wpE_mono a) .refl rs sl (wpE_mono a (PD.lx sl) (fun _ _ h => h) h) fun F1 H1 y v st1 e1 rs1 sl1 d1 h1 => ?_
      refine tl_go (wpE_mono o) e1 rs1 sl1 (wpE_mono o (PD.lx sl) (fun _ _ h => h) h1) fun F2 H2 y2 v2 st2 e2 rs2 sl2 d2 h2 => ?_
      refine tl_go (wpE_mono i) (e1.trans e2) rs2 sl2 (wpE_mono i (PD.lx sl) (fun _ _ h => h) h2) fun F3 H3 y3 v3 st3 e3 rs3 sl3 d3 h3 => ?_
      refine ⟨F3, st3, v2, v3, v, rs3, d2.ext e3, d3, d1.ext (e2.trans e3), setIxV_mono (fun s4 h4 F4 H4 e4 rs4 => ?_) h3⟩
      exact h4 F4 H4 σ (((e1.trans e2).trans e3).trans e4) rs4 (sl3.ext e4)
    · cases hc
  | .aug i o a, X, C, k, W, x, ok, hc, hn => by
    unfold chkS at hc
    split at hc
    · simp only [Bool.and_eq_true, decide_eq_true_eq] at hc
      obtain ⟨⟨⟨h1, h2⟩, h3⟩, h4⟩ := hc
      subst h3
      obtain ⟨l1, l2⟩ := ok.tg _ h2
      refine impS (ps_aug (i := i) (by rw [ok.hN]; exact ok.nd) (by rw [ok.hN]; exact h1) (by rw [ok.hsc]; exact l1) (sE a ok h4 hn) aug_ok (by rw [ok.hsc]; exact l2)) fun D σ H q => ?_
      obtain ⟨F, τ, st, rs, sl, h⟩ := q
      unfold wpS at h
      cases e : getS τ i with
      | none => rw [e] at h; exact h.elim
      | some v =>
        rw [e] at h
        obtain ⟨y, e', d⟩ := sl.2 i v e
        refine ⟨y, e', tl_go (wpE_mono a) .refl rs sl (wpE_mono a (PD.lx sl) (fun _ _ h => h) h) fun F1 H1 y1 v1 st1 e1 rs1 sl1 d1 h1 => ?_⟩
        refine ⟨F1, st1, v, v1, rs1, d.ext e1, d1, augV_mono (fun z s2 h2 F2 H2 y2 e2 rs2 d2 => ?_) h1⟩
        exact h2 F2 H2 _ (e1.trans e2) rs2 ((sl1.ext e2).set d2 i)
    · cases hc
  | .expr a, X, C, k, W, x, ok, hc, hn => by
    unfold chkS at hc
    split at hc
    · simp only [Bool.and_eq_true] at hc
      refine impS (ps_expr (sE a ok hc.2 hn) (notComp_swaps hc.1 _ _ _)) fun D σ H q => ?_
      obtain ⟨F, τ, st, rs, sl, h⟩ := q
      unfold wpS at h
      exact tl_go (wpE_mono a) .refl rs sl (wpE_mono a (PD.lx sl) (fun _ _ h => h) h) fun F1 H1 y1 v1 st1 e1 rs1 sl1 d1 h1 => h1 F1 H1 σ e1 rs1 sl1
    · cases hc
  | .ret a, X, C, k, W, x, ok, hc, hn => by
    unfold chkS at hc
    split at hc
    · refine impS (ps_ret (sE a ok hc hn)) fun D σ H q => ?_
      obtain ⟨F, τ, st, rs, sl, h⟩ := q
      unfold wpS at h
      exact ⟨F, τ, st, rs, sl, wpE_mono a (PD.lx sl) (fun _ _ h => h) h⟩
    · cases hc
  | .retN, X, C, k, W, x, ok, hc, hn => by
    unfold chkS at hc
    split at hc
    · refine impS ps_retN fun D σ H q => ?_
      obtain ⟨F, τ, st, rs, sl, h⟩ := q
      exact h F H _ .refl rs .non
    · cases hc
  | .ite t a b, X, C, k, W, x, ok, hc, hn => by
    unfold chkS at hc
    split at hc
    · simp only [Bool.and_eq_true] at hc
      obtain ⟨⟨h1, h2⟩, h3⟩ := hc
      refine impS (ps_if (sT t ok h1 hn.1) (sSs a ok h2 hn.2.1) (sSs b ok h3 hn.2.2)) fun D σ H q => ?_
      obtain ⟨F, τ, st, rs, sl, h⟩ := q
      unfold wpS at h
      refine tlT_go (wpT_mono t) .refl rs sl (wpT_mono t (PD.lx sl) (fun _ _ h => h) h) fun F1 H1 c st1 e1 rs1 sl1 h1 => ?_
      cases c with
      | true => exact ⟨F1, τ, st1, rs1, sl1, wpSs_mono a (PD.ext e1) h1⟩
      | false => exact ⟨F1, τ, st1, rs1, sl1, wpSs_mono b (PD.ext e1) h1⟩
    · cases hc
  | .loop tg it b, X, C, k, W, x, ok, hc, hn => by
    unfold chkS at hc
    split at hc
    · simp only [Bool.and_eq_true] at hc
      obtain ⟨⟨⟨h1, h2⟩, h3⟩, h4⟩ := hc
      refine impS (ps_for ok.po ok.calm (sI it ok h3 hn.1) (sG tg ok h1) (sSs b ok h4 hn.2) (folded h2 _)) fun D σ H q => ?_
      obtain ⟨F, τ, st, rs, sl, h⟩ := q
      unfold wpS at h
      refine tlI_go (wpI_mono it) .refl rs sl (wpI_mono it (PD.lx sl) (fun _ _ _ h => h) h) fun F1 H1 J xs oks st1 e1 rs1 sl1 wp hz h6 => ?_
      refine ⟨fun i m σ H2 => m = xs.length - i ∧ i ≤ xs.length ∧ ∃ F2 τ2 st2, Ext F1 H1 F2 H2 ∧ RS X.K H2 F2 st2 ∧ RSl X.K H2 F2 τ2 σ ∧ forL tg (wpSs b) oks (xs.drop i) (PD X W D F H) τ2 st2,
        ⟨xs.length, rfl, Nat.zero_le _, F1, τ, st1, .refl, rs1, sl1, h6⟩, ?_⟩
      rintro i m σ2 H2 ⟨rfl, hi, F2, τ2, st2, x2, r2, sl2, hf⟩
      by_cases hlt : i < xs.length
      · have hd : xs.drop i = xs[i] :: xs.drop (i + 1) := List.drop_eq_getElem_cons hlt
        rw [hd] at hf
        have hf' : oks st2 ∧ oP (tg.asg xs[i] τ2) fun τ1 => wpSs b { PD X W D F H with nx := forL tg (wpSs b) oks (xs.drop (i + 1)) (PD X W D F H), ct := forL tg (wpSs b) oks (xs.drop (i + 1)) (PD X W D F H), bk := (PD X W D F H).nx } τ1 st2 := hf
        refine .inr ⟨wp.go i F2 H2 _ hlt x2 r2 hf'.1, fun σ' H' => ∃ F3 τ3 st3, Ext F1 H1 F3 H' ∧ RS X.K H' F3 st3 ∧ RSl X.K H' F3 τ3 σ' ∧ forL tg (wpSs b) oks (xs.drop (i + 1)) (PD X W D F H) τ3 st3,
          fun σ' H' ⟨F3, τ3, st3, a1, a2, a3, a4⟩ => ⟨xs.length - (i + 1), by omega, rfl, hlt, F3, τ3, st3, a1, a2, a3, a4⟩, fun x H' y => ?_⟩
        obtain ⟨x3, r3, v, hv, dv⟩ := wp.yld i F2 H2 _ x H' hlt x2 r2 hf'.1 y
        rw [List.getElem?_eq_getElem hlt] at hv
        cases (Option.some.inj hv)
        have h8 := hf'.2
        cases ea : tg.asg xs[i] τ2 with
        | none => rw [ea] at h8; exact h8.elim
        | some τ3 =>
          rw [ea] at h8
          refine ⟨F2, τ2, τ3, _, sl2.ext x3, dv, ea, fun σ3 sl3 _ => ⟨F2, τ3, st2, r3, sl3, wpSs_mono b ?_ h8⟩⟩
          have x13 := x2.trans x3
          have le := PD.ext (X := X) (W := W) (D := D) (e1.trans x13)
          exact ⟨fun τ' s' h F' H'' σ' x4 r4 sl4 => ⟨F', τ', s', x13.trans x4, r4, sl4, h⟩, le.rt, le.nx, fun τ' s' h F' H'' σ' x4 r4 sl4 => ⟨F', τ', s', x13.trans x4, r4, sl4, h⟩, le.ex⟩
      · have e : i = xs.length := by omega
        subst e
        rw [List.drop_length] at hf
        exact .inl ⟨wp.stop F2 H2 _ x2 r2 hf.1, hf.2 F2 H2 σ2 (e1.trans x2) r2 sl2⟩
    · cases hc
  | .while t b, X, C, k, W, x, ok, hc, hn => by
    unfold chkS at hc
    split at hc
    · simp only [Bool.and_eq_true] at hc
      refine impS (ps_while ok.po (sT t ok hc.1 hn.1) (sSs b ok hc.2 hn.2)) fun D σ H q => ?_
      obtain ⟨F, τ, st, rs, sl, h⟩ := q
      unfold wpS at h
      obtain ⟨Wv, ⟨n0, w0⟩, h⟩ := h
      refine ⟨fun n σ2 H2 => ∃ F2 τ2 st2, Ext F H F2 H2 ∧ RS X.K H2 F2 st2 ∧ RSl X.K H2 F2 τ2 σ2 ∧ Wv n τ2 st2, ⟨n0, F, τ, st, .refl, rs, sl, w0⟩, ?_⟩
      rintro n σ2 H2 ⟨F2, τ2, st2, x2, r2, sl2, w2⟩
      have h2 := h n τ2 st2 w2
      refine ⟨F2, τ2, st2, r2, sl2, wpT_mono t (fun e s h => PD.lx sl2 e s ((PD.ext x2).ex _ _ _ h)) (fun c s hcs => ?_) h2⟩
      intro F3 H3 x3 r3
      have x13 := x2.trans x3
      have le := PD.ext (X := X) (W := W) (D := D) x13
      cases c with
      | true =>
        refine ⟨fun σ' H' => ∃ m, m < n ∧ ∃ F4 τ4 st4, Ext F H F4 H' ∧ RS X.K H' F4 st4 ∧ RSl X.K H' F4 τ4 σ' ∧ Wv m τ4 st4, fun σ' H' ⟨m, hm, q⟩ => ⟨m, hm, q⟩, F3, τ2, s, r3, sl2.ext x3, wpSs_mono b ?_ hcs⟩
        exact ⟨fun τ' s' ⟨m, hm, hw⟩ F' H'' σ' x4 r4 sl4 => ⟨m, hm, F', τ', s', x13.trans x4, r4, sl4, hw⟩, le.rt, le.nx, fun τ' s' ⟨m, hm, hw⟩ F' H'' σ' x4 r4 sl4 => ⟨m, hm, F', τ', s', x13.trans x4, r4, sl4, hw⟩, le.ex⟩
      | false => exact hcs F3 H3 σ2 x13 r3 (sl2.ext x3)
    · cases hc
  | .pass, X, C, k, W, x, ok, hc, hn => by
    unfold chkS at hc
    split at hc
    · refine impS ps_pass fun D σ H q => ?_
      obtain ⟨F, τ, st, rs, sl, h⟩ := q
      exact h F H σ .refl rs sl
    · cases hc
  | .brk, X, C, k, W, x, ok, hc, hn => by
    unfold chkS at hc
    split at hc
    · refine impS ps_break fun D σ H q => ?_
      obtain ⟨F, τ, st, rs, sl, h⟩ := q
      exact h F H σ .refl rs sl
    · cases hc
  | .cont, X, C, k, W, x, ok, hc, hn => by
    unfold chkS at hc
    split at hc
    · refine impS ps_continue fun D σ H q => ?_
      obtain ⟨F, τ, st, rs, sl, h⟩ := q
      exact h F H σ .refl rs sl
    · cases hc
  | .never, X, C, k, W, x, ok, hc, hn => by
    refine impS ps_never fun D σ H q => ?_
    obtain ⟨F, τ, st, rs, sl, h⟩ := q
    exact h
theorem sSs : ∀ (s : Ss) {X : Cx} {C : SC} {k : Nat} {W : WX} {x : List Stmt}, CxOk X C k W → chkSs s C x = true → needSs (pfX X k) (pgX X) s → PSs X x (tls X W (wpSs s))
  | .nil, X, C, k, W, xs, ok, hc, hn => by
    cases xs with
    | cons _ _ => cases hc
    | nil =>
      refine impSs pss_nil fun D σ H q => ?_
      obtain ⟨F, τ, st, rs, sl, h⟩ := q
      exact h F H σ .refl rs sl
  | .cons s ss, X, C, k, W, xs, ok, hc, hn => by
    cases xs with
    | nil => cases hc
    | cons x r =>
      have h' : (chkS s C x && chkSs ss C r) = true := hc
      simp only [Bool.and_eq_true] at h'
      refine impSs (pss_cons (sS s ok h'.1 hn.1) (sSs ss ok h'.2 hn.2)) fun D σ H q => ?_
      obtain ⟨F, τ, st, rs, sl, h⟩ := q
      unfold wpSs at h
      refine ⟨F, τ, st, rs, sl, wpS_mono s ?_ h⟩
      exact ⟨fun τ' s' h F' H' σ' e r sl => ⟨F', τ', s', r, sl, wpSs_mono ss (PD.ext e) h⟩, fun _ _ h => h, fun _ _ h => h, fun _ _ h => h, fun _ _ _ h => h⟩
end
end
end TK

set_option maxRecDepth 100000
set_option maxHeartbeats 4000000
namespace TK
open PySem PySem.Spec PyProof.Rows L2
/-! ### a def by its body -/
theorem getS_some : ∀ {τ : Sl} {i : Nat} {v : PV}, getS τ i = some v → τ[i]? = some (some v)
  | [], _, _, h => by cases h
  | _ :: _, 0, _, h => by
    have h' : _ = some _ := h
    rw [List.getElem?_cons_zero]; exact congrArg some h'
  | _ :: r, i + 1, v, h => by
    rw [List.getElem?_cons_succ]
    exact getS_some (τ := r) h
theorem start_init {K : PySem.W.Frag} {H : Hp} {F : FS} {N : List Str} {pvs : List PV} {vs : List V} (d : DVs K H F pvs vs) : RSl K H F (initS N.length pvs) (L2.start N vs) := by
  have hl := d.length
  refine ⟨by unfold initS L2.start; simp only [List.length_append, List.length_map, List.length_replicate]; omega, fun i v e => ?_⟩
  have hi : (initS N.length pvs)[i]? = some (some v) := getS_some e
  unfold initS at hi
  by_cases h : i < pvs.length
  · rw [List.getElem?_append_left (by simpa using h), List.getElem?_map] at hi
    cases e2 : pvs[i]? with
    | none => rw [e2] at hi; cases hi
    | some w =>
      rw [e2] at hi; cases hi
      obtain ⟨y, e3, dy⟩ := d.get e2
      refine ⟨y, ?_, dy⟩
      unfold L2.start
      rw [List.getElem?_append_left (by simpa [← hl] using h), List.getElem?_map, e3]; rfl
  · rw [List.getElem?_append_right (by simpa using h), List.getElem?_replicate] at hi
    split at hi <;> cases hi
theorem fnG_of {P : Program} {w : World} {K : PySem.W.Frag} {mg : Str → Option Value} {base : Heap} {k n : Nat} {f : Addr} {fd : FuncData} {x qual : Str} {st : Stmt} {N ps : List Str} {sp : PSpec} {body : Ss}
    (F : L2.Fun K x qual st f fd) (S : FnScope N ps (defScope st)) (hbl : ∀ x ∈ bltNames, mg x = none) (hpn : ps.length = n)
    (hc : chkSs body ⟨N, defScope st, defScope st⟩ (defBody st) = true) (hn : needSs (HasFn ⟨P, w, K, mg, base⟩ k) (HasGl ⟨P, w, K, mg, base⟩) body)
    (hs : ∀ vs s Q X, vs.length = n → sp vs s Q X → wpFn N.length body vs s Q X) : FnG P w K mg base (k + 1) f fd ps (liftSp K mg n sp) := by
  obtain ⟨oc, od, kV, doc, pm, an, cdv, ct, osl, rfl, lk, hcd⟩ := F.ex
  refine ⟨fun vs H Q E ⟨_, _, _, _, _, h, _⟩ => h.trans hpn.symm, fun A outer s H args us vs Q E hg hr e0 hb r hsp => ?_⟩
  obtain ⟨F0, s0, pvs, rs, dvs, hl, Q0, X0, hsp0, hQ0, hX0⟩ := hsp
  have hl' : vs.length = ps.length := hl.trans hpn.symm
  have KX : K.In s.heap := e0.mod.kin.keeps fun b o e => (e0.bs b o e).1
  have lim : s.heap.NoLimit := e0.mod.nolimit.keeps fun b o e => (e0.bs b o e).1
  have hkind : ∀ y ∈ ps.zip us, (defScope st).names.lookup y.1 = some .local ∨ ((defScope st).names.lookup y.1 = some .cell ∧ ((cellsFrom (s.heap.objs.size + 1) (defScope st).names []).lookup y.1).isSome = true) := fun ⟨n, v⟩ hy => by
    rcases S.par n (List.of_mem_zip hy).1 with q | q
    · exact .inl q
    · exact .inr ⟨q, PySem.W.cellsFrom_some _ _ _ (.inl q)⟩
  refine codeAny_call_function hr.depth (KX _ _ lk) rfl S.co S.gen rfl (PySem.W.codeRec_of KX hcd) (hb _ _ _ _ ?_)
  refine wpAny_newFunctionEnv_cells S.kind hkind fun env he s1 x => ?_
  subst he
  refine ⟨lim.keeps x.toInCall.keep, codeAny_func ?_⟩
  have hroom := hr.deeper (envOfC qual (defScope st) s.heap.objs.size f cdv)
  have ok : CxOk (cxOf (L2.CX P w) P w K mg base N qual (defScope st) f cdv A outer s H E) ⟨N, defScope st, defScope st⟩ k (fun cls d _ H => E cls d H) :=
    { hN := rfl, nd := S.nd, hsc := rfl, calm := rfl, kindF := S.kind, room := hroom, gds := hg, tk := takes_of rfl rfl rfl rfl, po := passes_of rfl, blt := hbl
      tg := fun y hy => by
        unfold locB at hy
        refine ⟨?_, .inl rfl⟩
        split at hy
        · exact .inl ‹_›
        · exact .inr ‹_›
        · cases hy }
  have ht := sSs body ok hc hn
  have hq : tls (cxOf (L2.CX P w) P w K mg base N qual (defScope st) f cdv A outer s H E) (fun cls d _ H => E cls d H) (wpSs body) { nx := fun _ H' => Q .non H', rt := Q } (L2.start N vs) H := by
    have hw := hs pvs s0 Q0 X0 (dvs.length.trans hl) hsp0
    unfold wpFn at hw
    refine ⟨F0, initS N.length pvs, s0, rs, start_init dvs, wpSs_mono body ⟨?_, ?_, ?_, ?_, ?_⟩ hw⟩
    · rintro τ' s' ⟨s2, sub, h⟩ F' H' σ' ex r' _
      exact hQ0 _ _ h F' H' _ ex (r'.less sub) .non
    · rintro v s' ⟨s2, sub, h⟩ F' H' y ex r' d'
      exact hQ0 _ _ h F' H' y ex (r'.less sub) d'
    · exact fun _ _ h => h.elim
    · exact fun _ _ h => h.elim
    · rintro e τ' s' ⟨s2, sub, h⟩ F' H' σ' cls d ex r' _ rep
      exact hX0 _ _ h F' H' cls d ex (r'.less sub) rep
  have I : Inv (cxOf (L2.CX P w) P w K mg base N qual (defScope st) f cdv A outer s H E) [] (L2.start N vs) H s1 := inv_start S hr.hd e0 hl' r x
  refine wpAny_mono (ht.run [] s1 (L2.start N vs) H _ I hq) (fun fl s' hs => ?_) fun e s' hs => hs
  have fin : ∀ {σ' : L2.St} {H' : Hp} {v : V} {u : Value}, Inv (cxOf (L2.CX P w) P w K mg base N qual (defScope st) f cdv A outer s H E) [] σ' H' s' → RelV v u → Q v H' → CE outer P w H s Q u s' :=
    fun {σ' H' v u} J rv q => ⟨v, H', J.os, J.bare, J.base, J.hok, rv, q⟩
  cases fl with
  | ret u =>
    obtain ⟨v, σ', H', J, rv, q⟩ := hs
    exact fin J rv q
  | next =>
    obtain ⟨σ', H', J, q⟩ := hs
    exact fin (v := V.non) (u := Value.none) J rfl q
  | brk =>
    obtain ⟨_, _, _, q⟩ := hs
    exact False.elim q
  | cont =>
    obtain ⟨_, _, _, q⟩ := hs
    exact False.elim q
/-- every parameter is given by position -/
theorem hasFn_of {P : Program} {w : World} {K : PySem.W.Frag} {mg : Str → Option Value} {base : Heap} {k n : Nat} {f : Addr} {fd : FuncData} {x : Str} {st : Stmt} {N ps : List Str} {sp : PSpec} {body : Ss}
    (F : L2.Fun K x x st f fd) (hm : mg x = some (.ref f)) (b : Binds K fd ps []) (S : FnScope N ps (defScope st)) (hbl : ∀ x ∈ bltNames, mg x = none) (hpn : ps.length = n)
    (hc : chkSs body ⟨N, defScope st, defScope st⟩ (defBody st) = true) (hn : needSs (HasFn ⟨P, w, K, mg, base⟩ k) (HasGl ⟨P, w, K, mg, base⟩) body)
    (hs : ∀ vs s Q X, vs.length = n → sp vs s Q X → wpFn N.length body vs s Q X) : HasFn ⟨P, w, K, mg, base⟩ (k + 1) x sp n :=
  ⟨f, fd, ps, hm, F.kp, b, hpn, fnG_of F S hbl hpn hc hn hs⟩
theorem HasGl.int {Γ : Wd} {x : Str} {n : Int} {t : Tok} (h : Γ.mg x = some (.int n t)) : HasGl Γ x (.int n) := ⟨_, .int n, h, ⟨t, rfl⟩, fun _ _ => .int n⟩
theorem HasGl.str {Γ : Wd} {x : Str} {n : Str} {t : Tok} (h : Γ.mg x = some (.str n t)) : HasGl Γ x (.str n) := ⟨_, .str n, h, ⟨t, rfl⟩, fun _ _ => .str n⟩

theorem HasGl.tup {Γ : Wd} {x : Str} {a : Addr} {xs : List PV} {ys : List V} {o : Obj} {its : Array Value} {n : Nat} (h : Γ.mg x = some (.ref a)) (hk : Γ.K.lookup a = some o) (hc : o.cls = .type "tuple") (hd : o.data = .seq its n) (hz : its.size ≤ sizeLine) (hv : Vals ys its.toList)
    (hx : ∀ H F, DVs Γ.K H F xs ys) : HasGl Γ x (.tup xs) := ⟨_, .ref a, h, rfl, fun H F => .tup (.inr ⟨o, its, n, hk, hc, hd, hz, hv⟩) (hx H F)⟩
/-- a tuple of two numbers, ZERO for one -/
theorem HasGl.two {Γ : Wd} {x : Str} {a : Addr} {i j : Int} {od : Option Addr} {t u : Tok} {n : Nat} {sl : Array (Option Value)} (h : Γ.mg x = some (.ref a)) (hk : Γ.K.lookup a = some ⟨.type "tuple", od, .seq #[.int i t, .int j u] n, sl⟩) :
    HasGl Γ x (.tup [.int i, .int j]) :=
  .tup (ys := [.int i, .int j]) h hk rfl rfl (show 2 ≤ sizeLine by decide) (.cons ⟨_, rfl⟩ (.cons ⟨_, rfl⟩ .nil)) fun _ _ => .cons (.int i) (.cons (.int j) .nil)

/-! ### the law's own head -/
/-- a law's promise: a short script, and it answers True -/
def lawSp : PSpec := fun vs st Q _ => ∃ ns : List Int, vs = [.scr ns] ∧ ns.length ≤ 63 ∧ ∀ s, Q (.bl true) s
theorem scr_of {K : PySem.W.Frag} {H : Hp} {a : Addr} {ys : List V} (hO : Only H) (h : SqL K H a ys) : ScrL K H a ys := by
  rcases h with (h | h) | h
  · rcases hO a with z | ⟨o, xs, z⟩
    · rw [z] at h; cases h
    · rw [z] at h; cases h
  · exact .inl h
  · exact .inr (.inr h)
theorem lawcall {P : Program} {w : World} {K : PySem.W.Frag} {mg mb : Str → Option Value} {k : Nat} {fa a : Addr} {fd : FuncData} {x : Str} {s₁ : Shared} {vs : List Value} {ns : List Int}
    (KX : K.In s₁.heap) (hns : s₁.heap.Ns mainGlobals mg) (hb : s₁.heap.Ns builtinsNs mb) (hbb : ∀ x : Str, x ≠ "__name__" → mb x = bootBuiltins x) (hlim : s₁.heap.NoLimit) (hg : s₁.gens = #[])
    (ha : s₁.heap.get? a = some { cls := .type "list", data := .seq vs.toArray }) (hi : IntsAre vs ns) (hl : ns.length ≤ 63) (hr : Room k callerA)
    (F : ∀ base : Heap, K.In base → base.Ns mainGlobals mg → FnG P w K mg base k fa fd [x] (liftSp K mg 1 lawSp)) (hbind : ∀ (s : Shared) (u : Value), BindsTo s fd ⟨[u], []⟩ [(x, u)]) :
    codeAny (model P w) callerA (.call (.ref fa) ⟨[.ref a], []⟩) (fun r s' => r = .ok (.ret (.bool true)) ∧ OldK s₁.heap s'.heap ∧ s'.os = s₁.os ∧ AllBare s'.gens) s₁ := by
  have rv := vals_ints hi
  have lenV := hi.length
  have hlz : ns.length ≤ sizeLine := Nat.le_trans hl (by decide)
  have core : ∀ H : Hp, Only H → SqL K H a (ns.map V.int) → HOk P w H s₁.heap → (∀ b, H b ≠ none → b = a) → (H a ≠ none → K.lookup a = none) →
      codeAny (model P w) callerA (.call (.ref fa) ⟨[.ref a], []⟩) (fun r s' => r = .ok (.ret (.bool true)) ∧ OldK s₁.heap s'.heap ∧ s'.os = s₁.os ∧ AllBare s'.gens) s₁ := by
    intro H hO hS hok hA hK
    have base_of : ∀ {b : Addr} {o : Obj}, s₁.heap.get? b = some o → H b = none → (hidT s₁.heap H).get? b = some o := fun e n => hidT_get e n
    have noA : ∀ {b : Addr} {o : Obj} {es : Array DictEntry} {ep : Nat}, s₁.heap.get? b = some o → o.data = .dict es ep → H b = none := fun {b o es ep} e d => by
      cases q : H b with
      | none => rfl
      | some u =>
        have e' : b = a := hA b (by rw [q]; simp)
        subst e'
        rw [ha] at e; cases e
        have d' : Data.seq vs.toArray _ = Data.dict es ep := d
        cases d'
    have nsK : ∀ {b : Addr} {m : Str → Option Value}, s₁.heap.Ns b m → (hidT s₁.heap H).Ns b m := fun {b m} ⟨o, es, ep, e, d, r⟩ => ⟨o, es, ep, base_of e (noA e d), d, r⟩
    have hKb : K.In (hidT s₁.heap H) := fun b o e => base_of (KX b o e) (by
      cases q : H b with
      | none => rfl
      | some u =>
        have e' : b = a := hA b (by rw [q]; simp)
        subst e'
        rw [hK (by rw [q]; simp)] at e; cases e)
    have hM : Mod K mg (hidT s₁.heap H) := ⟨hKb, nsK hns, ⟨mb, nsK hb, hbb⟩, let ⟨mc, h1, h2⟩ := hlim; ⟨mc, nsK h1, h2⟩⟩
    have e0 : Env0 P w K mg (hidT s₁.heap H) callerA [] s₁ H := ⟨rfl, hM, fun b o e => of_hidT e, Nat.le_of_eq (hidT_size _ _), trivial, fun b hb => absurd (show b ∈ ([] : List Addr) from hb) (by simp), hok, .of_eq hg⟩
    have hsp : liftSp K mg 1 lawSp [.ref a] H (fun v _ => v = .bl true) fun _ _ _ => False :=
      ⟨fun _ => False, fun _ => none, [.scr ns], ⟨fun _ _ e => (nomatch e), fun _ e => (nomatch e), fun _ f => f.elim⟩, .cons (.scr (scr_of hO hS)) .nil, rfl,
        fun v _ => v = .bl true, fun _ _ => False, ⟨ns, rfl, hl, fun _ => rfl⟩, fun v s e F' H' y _ _ d => by subst e; cases d; rfl, fun _ _ h => h.elim⟩
    refine codeAny_mono ((F _ hKb (nsK hns)).run callerA [] s₁ H ⟨[.ref a], []⟩ [.ref a] [.ref a] _ _ rfl hr e0 (hbind s₁ (.ref a)) (.cons rfl .nil) hsp) fun r s' h => ?_
    cases r with
    | error e => exact (by
        obtain ⟨_, _, _, _, _, _, _, _, _, _, _, _, h⟩ := h
        exact h.elim)
    | ok fl =>
      cases fl with
      | next => exact False.elim h
      | brk => exact False.elim h
      | cont => exact False.elim h
      | ret u =>
        obtain ⟨v, H', os, bare, un, hok', r', q⟩ := h
        have q' : v = .bl true := q
        subst q'
        obtain rfl : u = Value.bool true := r'
        refine ⟨rfl, OldK.of_keep fun b o e => ?_, os, bare⟩
        cases q : H b with
        | none => exact un.keep b o e q (by intro z; exact absurd (show b ∈ ([] : List Addr) from z) (by simp)) (by simp)
        | some u =>
          rcases hO b with z | ⟨ob, xs, z⟩
          · rw [q] at z; cases z
          · have z2 := un.frzs b ob _ z
            obtain ⟨e1, _⟩ := hok b _ z
            obtain ⟨e2, _⟩ := hok' b _ z2
            rw [e] at e1; cases e1
            exact e2
  cases hk : K.lookup a with
  | some o =>
    have e := KX a o hk
    rw [ha] at e
    cases e
    refine core (fun _ => none) (fun _ => .inl rfl) (.inr ⟨_, vs.toArray, _, hk, rfl, rfl, rfl, by rw [List.size_toArray, lenV]; exact hlz, by simpa using rv⟩) (fun b u z => by have z' : (none : Option HO) = some u := z; cases z') (fun b z => absurd rfl z) fun z => absurd rfl z
  | none =>
    refine core (fun b => if b = a then some (.frz { cls := .type "list", data := .seq vs.toArray } (.lst (ns.map V.int))) else none) (fun b => ?_) (.inl (.inr ⟨{ cls := .type "list", data := .seq vs.toArray }, if_pos rfl⟩)) (fun b u z => ?_) (fun b z => ?_) fun _ => hk
    · by_cases hb : b = a
      · exact .inr ⟨_, _, if_pos hb⟩
      · exact .inl (if_neg hb)
    · by_cases hb : b = a
      · have z' := (if_pos hb).symm.trans z
        cases z'
        subst hb
        exact ⟨ha, by rw [List.length_map]; exact hlz, vs, _, rv, ha⟩
      · have z' := (if_neg hb).symm.trans z
        cases z'
    · by_cases hb : b = a
      · exact hb
      · exact absurd (if_neg hb) z
/-- the goal that k_fill leaves, from the law's def -/
theorem walk_of {l : PySem.W.OpenLaw} {k : Nat} {q : Program} {loose : List Str} {XP : (Str → Option Value) → Heap → Prop} {YP : World → Heap → Prop} {d : DefRec} {K : Params → PySem.W.Frag} {x : Str}
    (hn : l.most = some 63) (hdf : d.params.defaults = []) (hr : Room k callerA)
    (hY : ∀ (w : World) (h : Heap), YP w h → (K w.params).In h)
    (F : ∀ (w : World) (mg : Str → Option Value) (fa : Addr) (h : Heap), (K w.params).In h → h.Ns mainGlobals mg → mg d.name = some (.ref fa) →
      ∃ fd : FuncData, (∀ (s : Shared) (u : Value), BindsTo s fd ⟨[u], []⟩ [(x, u)]) ∧
        ∀ base : Heap, (K w.params).In base → base.Ns mainGlobals mg → FnG l.prog w (K w.params) mg base k fa fd [x] (liftSp (K w.params) mg 1 lawSp)) :
    PySem.W.WalkO q loose XP YP l.row.toRowW d [] (fun f vs => PySem.call f vs) := by
  refine Att.attach_call hn hdf fun w s₀ s₁ mg mb fa o pm cd doc a vs ns G Y ho hd hcd hmg hobj hints hlen hg => ?_
  have KX := hY w _ Y
  obtain ⟨fd, hb, hF⟩ := F w mg fa _ KX G.T.g hmg
  exact lawcall KX G.T.g G.T.b G.T.builtins G.T.nolimit hg hobj hints hlen hr hF hb
end TK

set_option maxRecDepth 100000
set_option maxHeartbeats 4000000
namespace TK
open PySem PySem.Spec PyProof.Rows L2
/-! ### promises that bear weaker wishes -/
def Mono (sp : PSpec) : Prop := ∀ vs st (Q Q' : PQ) (X X' : EQ), (∀ v s, Q v s → Q' v s) → (∀ e s, X e s → X' e s) → sp vs st Q X → sp vs st Q' X'
theorem callS_eq {sp : PSpec} (m : Mono sp) {vs : List PV} {st : Store} {X : EQ} {Q : PQ} : callS sp vs st X Q = sp vs st Q X :=
  propext ⟨fun ⟨_, _, h, hq, hx⟩ => m _ _ _ _ _ _ hq hx h, fun h => ⟨Q, X, h, fun _ _ h => h, fun _ _ h => h⟩⟩
theorem callS_of {sp : PSpec} {vs : List PV} {st : Store} {X : EQ} {Q : PQ} (h : sp vs st Q X) : callS sp vs st X Q := ⟨Q, X, h, fun _ _ h => h, fun _ _ h => h⟩
/-! ### stepping -/
/-- the statements that are left -/
theorem wpSs_ex : Nonempty { f : Ss → PEnds → Sl → Store → Prop // f = wpSs } := ⟨⟨wpSs, rfl⟩⟩
/-- wpSs under a name that does not unfold -/
noncomputable def wpSsC : { f : Ss → PEnds → Sl → Store → Prop // f = wpSs } := Classical.choice wpSs_ex
noncomputable def Nx (ss : Ss) (D : PEnds) (τ : Sl) (st : Store) : Prop := wpSsC.1 ss D τ st
theorem Nx_eq {ss : Ss} {D : PEnds} {τ : Sl} {st : Store} : Nx ss D τ st = wpSs ss D τ st := congrFun (congrFun (congrFun (congrFun wpSsC.2 ss) D) τ) st
theorem Nx_fun {ss : Ss} {D : PEnds} : Nx ss D = wpSs ss D := by funext τ st; exact Nx_eq
theorem ss_nil {D : PEnds} {τ : Sl} {st : Store} : wpSs .nil D τ st = D.nx τ st := rfl
noncomputable def PEnds.nxt (D : PEnds) (ss : Ss) : PEnds := { D with nx := Nx ss D }
def PEnds.lp (D : PEnds) (J : Sl → Store → Prop) : PEnds := { D with nx := J, ct := J, bk := D.nx }
theorem ss_cons {s : S} {ss : Ss} {D : PEnds} {τ : Sl} {st : Store} : wpSs (.cons s ss) D τ st = wpS s (D.nxt ss) τ st := by
  unfold PEnds.nxt
  rw [Nx_fun]; rfl
theorem nxt_nx {D : PEnds} {ss : Ss} : (D.nxt ss).nx = Nx ss D := rfl
theorem nxt_rt {D : PEnds} {ss : Ss} : (D.nxt ss).rt = D.rt := rfl
theorem nxt_bk {D : PEnds} {ss : Ss} : (D.nxt ss).bk = D.bk := rfl
theorem nxt_ct {D : PEnds} {ss : Ss} : (D.nxt ss).ct = D.ct := rfl
theorem lp_nx {D : PEnds} {J : Sl → Store → Prop} : (D.lp J).nx = J := rfl
theorem lp_rt {D : PEnds} {J : Sl → Store → Prop} : (D.lp J).rt = D.rt := rfl
theorem lp_bk {D : PEnds} {J : Sl → Store → Prop} : (D.lp J).bk = D.nx := rfl
theorem lp_ct {D : PEnds} {J : Sl → Store → Prop} : (D.lp J).ct = J := rfl
theorem Nx_nil {D : PEnds} : Nx .nil D = D.nx := by funext τ st; exact Nx_eq
/-- an if: its arms are looked at later -/
noncomputable def Arm (ss : Ss) (D : PEnds) (τ : Sl) (st : Store) : Prop := wpSsC.1 ss D τ st
theorem Arm_eq {ss : Ss} {D : PEnds} {τ : Sl} {st : Store} : Arm ss D τ st = wpSs ss D τ st := congrFun (congrFun (congrFun (congrFun wpSsC.2 ss) D) τ) st
/-- the def's ends -/
def fnEnds (Q : PQ) (X : EQ) : PEnds := ⟨fun _ s => ∃ s0, Sub s0 s ∧ Q .non s0, fun v s => ∃ s0, Sub s0 s ∧ Q v s0, fun _ _ => False, fun _ _ => False, fun e _ s => ∃ s0, Sub s0 s ∧ X e s0⟩
theorem fn_eq {n : Nat} {b : Ss} {vs : List PV} {st : Store} {Q : PQ} {X : EQ} : wpFn n b vs st Q X = wpSs b (fnEnds Q X) (initS n vs) st := rfl
theorem fnRet {Q : PQ} {X : EQ} {v : PV} {s : Store} (s0 : Store) (hs : Sub s0 s) (h : Q v s0) : (fnEnds Q X).rt v s := ⟨s0, hs, h⟩
theorem Sub.rfl {s : Store} : Sub s s := fun _ _ h => h
theorem fnRet1 {Q : PQ} {X : EQ} {v : PV} {s : Store} (h : Q v s) : (fnEnds Q X).rt v s := ⟨s, .rfl, h⟩
theorem fnNx1 {Q : PQ} {X : EQ} {τ : Sl} {s : Store} (h : Q .non s) : (fnEnds Q X).nx τ s := ⟨s, .rfl, h⟩
theorem sub_new {s : Store} {p : Addr} {c : Option Cell} (h : s p = none) : Sub s (up s p c) := fun a d e => by
  by_cases n : a = p
  · subst n; rw [h] at e; cases e
  · rw [up_ne n]; exact e
theorem up_up {s : Store} {p : Addr} {c d : Option Cell} : up (up s p c) p d = up s p d := by
  funext a
  by_cases n : a = p
  · subst n; rw [up_same, up_same]
  · rw [up_ne n, up_ne n, up_ne n]
theorem up_id {s : Store} {p : Addr} {c : Option Cell} (h : s p = c) : up s p c = s := by
  funext a
  by_cases n : a = p
  · subst n; rw [up_same, h]
  · rw [up_ne n]
/-! ### loops -/
/-- a loop over items: what holds ahead of the rest -/
theorem for_ind {tg : TG} {b : Ss} {ok : Store → Prop} {D : PEnds} (J : List PV → Sl → Store → Prop)
    (hstep : ∀ x r τ st, J (x :: r) τ st → ok st ∧ oP (tg.asg x τ) fun τ1 => wpSs b (D.lp (J r)) τ1 st)
    (hend : ∀ τ st, J [] τ st → ok st ∧ D.nx τ st) : ∀ xs τ st, J xs τ st → forL tg (wpSs b) ok xs D τ st
  | [], τ, st, h => hend τ st h
  | x :: r, τ, st, h => by
    refine ⟨(hstep x r τ st h).1, ?_⟩
    have h2 := (hstep x r τ st h).2
    have ih := for_ind J hstep hend r
    cases e : tg.asg x τ with
    | none => rw [e] at h2; exact h2.elim
    | some τ1 =>
      rw [e] at h2
      refine wpSs_mono b ?_ h2
      exact ⟨fun _ _ h => ih _ _ h, fun _ _ h => h, fun _ _ h => h, fun _ _ h => ih _ _ h, fun _ _ _ h => h⟩
/-- .. by the number of items that are done -/
theorem for_at {tg : TG} {b : Ss} {ok : Store → Prop} {D : PEnds} {xs : List PV} (J : Nat → Sl → Store → Prop)
    (hstep : ∀ i x τ st, xs[i]? = some x → J i τ st → ok st ∧ oP (tg.asg x τ) fun τ1 => wpSs b (D.lp (J (i + 1))) τ1 st)
    (hend : ∀ τ st, J xs.length τ st → ok st ∧ D.nx τ st) {τ : Sl} {st : Store} (h : J 0 τ st) : forL tg (wpSs b) ok xs D τ st := by
  refine for_ind (fun r τ st => ∃ i, r = xs.drop i ∧ i ≤ xs.length ∧ J i τ st) ?_ ?_ xs τ st ⟨0, by simp, Nat.zero_le _, h⟩
  · rintro x r τ st ⟨i, e, hi, h⟩
    have hx : xs[i]? = some x := by
      have := congrArg (·[0]?) e
      simpa using this.symm
    obtain ⟨h1, h2⟩ := hstep i x τ st hx h
    refine ⟨h1, ?_⟩
    have hl : i < xs.length := by
      rcases Nat.lt_or_ge i xs.length with h | h
      · exact h
      · rw [List.getElem?_eq_none h] at hx; cases hx
    have er : r = xs.drop (i + 1) := by
      rw [List.drop_eq_getElem_cons hl] at e
      exact (List.cons.inj e).2
    cases e2 : tg.asg x τ with
    | none => rw [e2] at h2; exact h2.elim
    | some τ1 =>
      rw [e2] at h2
      refine wpSs_mono b ?_ h2
      exact ⟨fun _ _ h => ⟨i + 1, er, hl, h⟩, fun _ _ h => h, fun _ _ h => h, fun _ _ h => ⟨i + 1, er, hl, h⟩, fun _ _ _ h => h⟩
  · rintro τ st ⟨i, e, hi, h⟩
    have : i = xs.length := by
      have := congrArg List.length e
      simp only [List.length_nil, List.length_drop] at this
      omega
    subst this
    exact hend τ st h
/-! ### calls: another look at the same heap -/
theorem HasFn.view {Γ : Wd} {k n : Nat} {f : Str} {sp sp' : PSpec} (h : HasFn Γ k f sp n)
    (c : ∀ vs st Q X H F, RS Γ.K H F st → sp' vs st Q X → ∃ st2 Q2, RS Γ.K H F st2 ∧ sp vs st2 Q2 (fun _ _ => False) ∧ ∀ v s2 H' F', Ext F H F' H' → RS Γ.K H' F' s2 → Q2 v s2 → ∃ s, RS Γ.K H' F' s ∧ Q v s) :
    HasFn Γ k f sp' n := by
  obtain ⟨fa, fd, ps, h1, h2, h3, h4, hf⟩ := h
  refine ⟨fa, fd, ps, h1, h2, h3, h4, ⟨fun vs H Q E ⟨_, _, _, _, _, h, _⟩ => h.trans h4.symm, fun A outer s H args us vs Q E hg hr e0 hb r hsp => ?_⟩⟩
  refine hf.run A outer s H args us vs Q E hg hr e0 hb r ?_
  obtain ⟨F, st, pvs, rs, d, hl, Q0, X0, h0, hq, hx⟩ := hsp
  obtain ⟨st2, Q2, rs2, hs2, hc⟩ := c pvs st Q0 X0 H F rs h0
  refine ⟨F, st2, pvs, rs2, d, hl, Q2, fun _ _ => False, hs2, fun v s2 h2 F' H' y ex r' dv => ?_, fun _ _ h => h.elim⟩
  obtain ⟨s, rs', hq'⟩ := hc v s2 H' F' ex r' h2
  exact hq v s hq' F' H' y ex rs' dv
end TK

namespace TK
open PySem PySem.Spec PyProof.Rows L2
/-! ### the same readings, what is still to come under a name -/
def KEx (D : PEnds) (τ : Sl) : EQ := fun x s => D.ex x τ s
theorem ex_nxt {D : PEnds} {ss : Ss} {τ : Sl} : KEx (D.nxt ss) τ = KEx D τ := rfl
theorem ex_lp {D : PEnds} {J : Sl → Store → Prop} {τ : Sl} : KEx (D.lp J) τ = KEx D τ := rfl
def KV (st : Store) (Q : PQ) (v : PV) : Prop := Q v st
def KF (st : Store) (Q : PQ) (v : PV) : Prop := frzV v st Q
def KBin2 (o : Operator) (m : Bool) (v : PV) (Q : PQ) (w : PV) (st : Store) : Prop := binV o m v w st Q
def KBin1 (o : Operator) (m : Bool) (b : E) (X : EQ) (τ : Sl) (Q : PQ) (v : PV) (st : Store) : Prop := wpE b X τ st (KBin2 o m v Q)
def KNeg (Q : PQ) (v : PV) (st : Store) : Prop := negV v st Q
def KNot2 (Q : PQ) (st : Store) (b : Bool) : Prop := Q (.bl (!b)) st
def KNot (Q : PQ) (v : PV) (st : Store) : Prop := onBl v (KNot2 Q st)
def KCmp2 (o : CmpOp) (v : PV) (Q : PQ) (w : PV) (st : Store) : Prop := cmpV o v w st Q
def KCmp1 (o : CmpOp) (b : E) (X : EQ) (τ : Sl) (Q : PQ) (v : PV) (st : Store) : Prop := wpE b X τ st (KCmp2 o v Q)
def KCh4 (o : CmpOp) (c : E) (X : EQ) (τ : Sl) (w : PV) (Q : PQ) (st : Store) (k : Bool) : Prop := if k = true then wpE c X τ st (KCmp2 o w Q) else Q (.bl false) st
def KCh3 (o : CmpOp) (c : E) (X : EQ) (τ : Sl) (w : PV) (Q : PQ) (z : PV) (st : Store) : Prop := onBl z (KCh4 o c X τ w Q st)
def KCh2 (o o' : CmpOp) (c : E) (X : EQ) (τ : Sl) (v : PV) (Q : PQ) (w : PV) (st : Store) : Prop := cmpV o v w st (KCh3 o' c X τ w Q)
def KCh1 (o o' : CmpOp) (b c : E) (X : EQ) (τ : Sl) (Q : PQ) (v : PV) (st : Store) : Prop := wpE b X τ st (KCh2 o o' c X τ v Q)
def KBs2 (o : BoolOp) (es : Es) (X : EQ) (τ : Sl) (Q : PQ) (st : Store) (b : Bool) : Prop := match o with | .And => if b = true then wpBs .And es X τ st Q else Q (.bl false) st | .Or => if b = true then Q (.bl true) st else wpBs .Or es X τ st Q
def KBs (o : BoolOp) (es : Es) (X : EQ) (τ : Sl) (Q : PQ) (v : PV) (st : Store) : Prop := onBl v (KBs2 o es X τ Q st)
def KIf (a b : E) (X : EQ) (τ : Sl) (Q : PQ) (k : Bool) (st : Store) : Prop := if k = true then wpE a X τ st Q else wpE b X τ st Q
def KTup (Q : PQ) (vs : List PV) (st : Store) : Prop := vs.length ≤ sizeLine ∧ Q (.tup vs) st
def KLst (m : Bool) (Q : PQ) (vs : List PV) (st : Store) : Prop := vs.length ≤ sizeLine ∧ newList m vs st Q
def KIdx2 (v : PV) (Q : PQ) (w : PV) (st : Store) : Prop := idxV v w st Q
def KIdx1 (i : E) (X : EQ) (τ : Sl) (Q : PQ) (v : PV) (st : Store) : Prop := wpE i X τ st (KIdx2 v Q)
def KSl3 (m : Bool) (v : PV) (l : Option Int) (Q : PQ) (u : Option Int) (st : Store) : Prop := sliceV m v l u st Q
def KSl2 (m : Bool) (hi : OE) (X : EQ) (τ : Sl) (v : PV) (Q : PQ) (l : Option Int) (st : Store) : Prop := wpO hi X τ st (KSl3 m v l Q)
def KSl1 (m : Bool) (lo hi : OE) (X : EQ) (τ : Sl) (Q : PQ) (v : PV) (st : Store) : Prop := wpO lo X τ st (KSl2 m hi X τ v Q)
def KCall (sp : PSpec) (X : EQ) (Q : PQ) (vs : List PV) (st : Store) : Prop := callS sp vs st X Q
def KBlt (f : BF) (m : Bool) (Q : PQ) (vs : List PV) (st : Store) : Prop := bltV f m vs st Q
def KIsi2 (Q : PQ) (st : Store) (b : Bool) : Prop := Q (.bl b) st
def KIsi (ty : Str) (Q : PQ) (v : PV) (st : Store) : Prop := oP (isiV ty v) (KIsi2 Q st)
def KMe2 (f : MF) (v : PV) (Q : PQ) (vs : List PV) (st : Store) : Prop := methV f v vs st Q
def KMe1 (f : MF) (es : Es) (X : EQ) (τ : Sl) (Q : PQ) (v : PV) (st : Store) : Prop := isLst st v ∧ wpEs es X τ st (KMe2 f v Q)
def KComp2 (m : Bool) (st : Store) (Q : PQ) (acc : List PV) : Prop := newList m acc st Q
def KComp (m : Bool) (vs : List Nat) (tg : TG) (r : Bool) (ts : Ts) (elt : E) (τ : Sl) (Q : PQ) (xs : List PV) (ok : Store → Prop) (st : Store) : Prop := (r = true → xs.length ≤ sizeLine) ∧ ok st ∧ lcL tg (wpTs .And ts fun _ _ => False) (wpE elt fun _ _ => False) (wipeS τ vs) st xs [] (KComp2 m st Q)
def KEs2 (v : PV) (Q : List PV → Store → Prop) (vs : List PV) (st : Store) : Prop := Q (v :: vs) st
def KEs1 (es : Es) (X : EQ) (τ : Sl) (Q : List PV → Store → Prop) (v : PV) (st : Store) : Prop := wpEs es X τ st (KEs2 v Q)
def KO2 (Q : Option Int → Store → Prop) (st : Store) (i : Int) : Prop := Q (some i) st
def KO (Q : Option Int → Store → Prop) (v : PV) (st : Store) : Prop := onInt v (KO2 Q st)
def KTv (Q : Bool → Store → Prop) (v : PV) (st : Store) : Prop := truV v st Q
def KT4 (Q : Bool → Store → Prop) (st : Store) (k : Bool) : Prop := Q k st
def KT3 (Q : Bool → Store → Prop) (z : PV) (st : Store) : Prop := onBl z (KT4 Q st)
def KT2 (o : CmpOp) (v : PV) (Q : Bool → Store → Prop) (w : PV) (st : Store) : Prop := cmpV o v w st (KT3 Q)
def KT1 (o : CmpOp) (b : E) (X : EQ) (τ : Sl) (Q : Bool → Store → Prop) (v : PV) (st : Store) : Prop := wpE b X τ st (KT2 o v Q)
def KTc4 (o : CmpOp) (c : E) (X : EQ) (τ : Sl) (w : PV) (Q : Bool → Store → Prop) (st : Store) (k : Bool) : Prop := if k = true then wpE c X τ st (KT2 o w Q) else Q false st
def KTc3 (o : CmpOp) (c : E) (X : EQ) (τ : Sl) (w : PV) (Q : Bool → Store → Prop) (z : PV) (st : Store) : Prop := onBl z (KTc4 o c X τ w Q st)
def KTc2 (o o' : CmpOp) (c : E) (X : EQ) (τ : Sl) (v : PV) (Q : Bool → Store → Prop) (w : PV) (st : Store) : Prop := cmpV o v w st (KTc3 o' c X τ w Q)
def KTc1 (o o' : CmpOp) (b c : E) (X : EQ) (τ : Sl) (Q : Bool → Store → Prop) (v : PV) (st : Store) : Prop := wpE b X τ st (KTc2 o o' c X τ v Q)
def KTn (Q : Bool → Store → Prop) (k : Bool) (st : Store) : Prop := Q (!k) st
def KTs (o : BoolOp) (ts : Ts) (X : EQ) (τ : Sl) (Q : Bool → Store → Prop) (k : Bool) (st : Store) : Prop := match o with | .And => if k = true then wpTs .And ts X τ st Q else Q false st | .Or => if k = true then Q true st else wpTs .Or ts X τ st Q
def KTi (a b : T) (X : EQ) (τ : Sl) (Q : Bool → Store → Prop) (k : Bool) (st : Store) : Prop := if k = true then wpT a X τ st Q else wpT b X τ st Q
def KI1 (Q : List PV → (Store → Prop) → Store → Prop) (v : PV) (st : Store) : Prop := itV id v st Q
def KR12 (Q : List PV → (Store → Prop) → Store → Prop) (st : Store) (j : Int) : Prop := R62 j ∧ Q (rngL 0 j.toNat) (fun _ => True) st
def KR1 (Q : List PV → (Store → Prop) → Store → Prop) (v : PV) (st : Store) : Prop := onInt v (KR12 Q st)
def KR2d (Q : List PV → (Store → Prop) → Store → Prop) (st : Store) (i j : Int) : Prop := R62 i ∧ R62 j ∧ Q (rngL i (j - i).toNat) (fun _ => True) st
def KR2c (Q : List PV → (Store → Prop) → Store → Prop) (st : Store) (w : PV) (i : Int) : Prop := onInt w (KR2d Q st i)
def KR2b (v : PV) (Q : List PV → (Store → Prop) → Store → Prop) (w : PV) (st : Store) : Prop := onInt v (KR2c Q st w)
def KR2a (b : E) (X : EQ) (τ : Sl) (Q : List PV → (Store → Prop) → Store → Prop) (v : PV) (st : Store) : Prop := wpE b X τ st (KR2b v Q)
def KEn (Q : List PV → (Store → Prop) → Store → Prop) (v : PV) (st : Store) : Prop := itV (enumL 0) v st Q
def KZ2 (v : PV) (Q : List PV → (Store → Prop) → Store → Prop) (w : PV) (st : Store) : Prop := zipV v w st Q
def KZ1 (b : E) (X : EQ) (τ : Sl) (Q : List PV → (Store → Prop) → Store → Prop) (v : PV) (st : Store) : Prop := wpE b X τ st (KZ2 v Q)
def KNx (D : PEnds) (st : Store) (τ : Sl) : Prop := D.nx τ st
def KAsg (tg : TG) (τ : Sl) (D : PEnds) (v : PV) (st : Store) : Prop := oP (tg.asg v τ) (KNx D st)
def KAsgN (i : Nat) (τ : Sl) (D : PEnds) (v : PV) (st : Store) : Prop := D.nx (setS τ i (some v)) st
def KSx4 (τ : Sl) (D : PEnds) (st : Store) : Prop := D.nx τ st
def KSx3 (v ov : PV) (τ : Sl) (D : PEnds) (iv : PV) (st : Store) : Prop := setIxV ov iv v st (KSx4 τ D)
def KSx2 (v : PV) (i : E) (τ : Sl) (D : PEnds) (ov : PV) (st : Store) : Prop := wpE i (KEx D τ) τ st (KSx3 v ov τ D)
def KSx1 (o i : E) (τ : Sl) (D : PEnds) (v : PV) (st : Store) : Prop := wpE o (KEx D τ) τ st (KSx2 v i τ D)
def KAug2 (i : Nat) (o : Operator) (v : PV) (τ : Sl) (D : PEnds) (w : PV) (st : Store) : Prop := augV o v w st (KAsgN i τ D)
def KAug1 (i : Nat) (o : Operator) (e : E) (τ : Sl) (D : PEnds) (st : Store) (v : PV) : Prop := wpE e (KEx D τ) τ st (KAug2 i o v τ D)
def KExpr (τ : Sl) (D : PEnds) (v : PV) (st : Store) : Prop := D.nx τ st
noncomputable def KArm (a b : Ss) (τ : Sl) (D : PEnds) (k : Bool) (st : Store) : Prop := if k = true then Arm a D τ st else Arm b D τ st
def KLoop (tg : TG) (b : Ss) (τ : Sl) (D : PEnds) (xs : List PV) (ok : Store → Prop) (st : Store) : Prop := forL tg (wpSs b) ok xs D τ st
def KWt (t : T) (D : PEnds) (τ : Sl) (st : Store) (Q : Bool → Store → Prop) : Prop := wpT t (KEx D τ) τ st Q
section
variable {X : EQ} {τ : Sl} {st : Store} {Q : PQ}
theorem e_var {i : Nat} : wpE (.var i) X τ st Q = oP (getS τ i) (KV st Q) := rfl
theorem e_fvar {i : Nat} : wpE (.fvar i) X τ st Q = oP (getS τ i) (KF st Q) := rfl
theorem e_int {n : Int} : wpE (.int n) X τ st Q = Q (.int n) st := rfl
theorem e_bl {n : Bool} : wpE (.bl n) X τ st Q = Q (.bl n) st := rfl
theorem e_non  : wpE .non X τ st Q = Q .non st := rfl
theorem e_str {n : Str} : wpE (.str n) X τ st Q = Q (.str n) st := rfl
theorem e_glob {n : Str} {v : PV} : wpE (.glob n v) X τ st Q = Q v st := rfl
theorem e_bin {o : Operator} {m : Bool} {a b : E} : wpE (.bin o m a b) X τ st Q = wpE a X τ st (KBin1 o m b X τ Q) := rfl
theorem e_neg {a : E} : wpE (.neg a) X τ st Q = wpE a X τ st (KNeg Q) := rfl
theorem e_not {a : E} : wpE (.not a) X τ st Q = wpE a X τ st (KNot Q) := rfl
theorem e_cmp {o : CmpOp} {a b : E} : wpE (.cmp o a b) X τ st Q = wpE a X τ st (KCmp1 o b X τ Q) := rfl
theorem e_chain {o o' : CmpOp} {a b c : E} : wpE (.chain o o' a b c) X τ st Q = wpE a X τ st (KCh1 o o' b c X τ Q) := rfl
theorem e_bools {o : BoolOp} {es : Es} : wpE (.bools o es) X τ st Q = wpBs o es X τ st Q := rfl
theorem e_ite {t : T} {a b : E} : wpE (.ite t a b) X τ st Q = wpT t X τ st (KIf a b X τ Q) := rfl
theorem e_tup {es : Es} : wpE (.tup es) X τ st Q = wpEs es X τ st (KTup Q) := rfl
theorem e_lst {m : Bool} {es : Es} : wpE (.lst m es) X τ st Q = wpEs es X τ st (KLst m Q) := rfl
theorem e_idx {a i : E} : wpE (.idx a i) X τ st Q = wpE a X τ st (KIdx1 i X τ Q) := rfl
theorem e_slice {m : Bool} {a : E} {lo hi : OE} : wpE (.slice m a lo hi) X τ st Q = wpE a X τ st (KSl1 m lo hi X τ Q) := rfl
theorem e_call {f : Str} {sp : PSpec} {es : Es} : wpE (.call f sp es) X τ st Q = wpEs es X τ st (KCall sp X Q) := rfl
theorem e_blt {f : BF} {m : Bool} {es : Es} : wpE (.blt f m es) X τ st Q = wpEs es X τ st (KBlt f m Q) := rfl
theorem e_isi {e : E} {ty : Str} : wpE (.isi e ty) X τ st Q = wpE e X τ st (KIsi ty Q) := rfl
theorem e_meth {f : MF} {o : E} {es : Es} : wpE (.meth f o es) X τ st Q = wpE o X τ st (KMe1 f es X τ Q) := rfl
theorem e_comp {m : Bool} {vs : List Nat} {tg : TG} {it : I} {ts : Ts} {elt : E} : wpE (.comp m vs tg it ts elt) X τ st Q = wpI it X τ st (KComp m vs tg it.isR ts elt τ Q) := rfl
theorem es_nil {R : List PV → Store → Prop} : wpEs .nil X τ st R = R [] st := rfl
theorem es_cons {e : E} {es : Es} {R : List PV → Store → Prop} : wpEs (.cons e es) X τ st R = wpE e X τ st (KEs1 es X τ R) := rfl
theorem bs_one {o : BoolOp} {e : E} : wpBs o (.cons e .nil) X τ st Q = wpE e X τ st Q := rfl
theorem bs_and {e e' : E} {es : Es} : wpBs .And (.cons e (.cons e' es)) X τ st Q = wpE e X τ st (KBs .And (.cons e' es) X τ Q) := rfl
theorem bs_or {e e' : E} {es : Es} : wpBs .Or (.cons e (.cons e' es)) X τ st Q = wpE e X τ st (KBs .Or (.cons e' es) X τ Q) := rfl
theorem o_no {R : Option Int → Store → Prop} : wpO .no X τ st R = R none st := rfl
theorem o_yes {e : E} {R : Option Int → Store → Prop} : wpO (.yes e) X τ st R = wpE e X τ st (KO R) := rfl
theorem t_val {e : E} {R : Bool → Store → Prop} : wpT (.val e) X τ st R = wpE e X τ st (KTv R) := rfl
theorem t_cmp {o : CmpOp} {a b : E} {R : Bool → Store → Prop} : wpT (.cmp o a b) X τ st R = wpE a X τ st (KT1 o b X τ R) := rfl
theorem t_chain {o o' : CmpOp} {a b c : E} {R : Bool → Store → Prop} : wpT (.chain o o' a b c) X τ st R = wpE a X τ st (KTc1 o o' b c X τ R) := rfl
theorem t_not {t : T} {R : Bool → Store → Prop} : wpT (.not t) X τ st R = wpT t X τ st (KTn R) := rfl
theorem t_bools {o : BoolOp} {ts : Ts} {R : Bool → Store → Prop} : wpT (.bools o ts) X τ st R = wpTs o ts X τ st R := rfl
theorem t_ite {t a b : T} {R : Bool → Store → Prop} : wpT (.ite t a b) X τ st R = wpT t X τ st (KTi a b X τ R) := rfl
theorem ts_nilA {R : Bool → Store → Prop} : wpTs .And .nil X τ st R = R true st := rfl
theorem ts_nilO {R : Bool → Store → Prop} : wpTs .Or .nil X τ st R = R false st := rfl
theorem ts_and {t : T} {ts : Ts} {R : Bool → Store → Prop} : wpTs .And (.cons t ts) X τ st R = wpT t X τ st (KTs .And ts X τ R) := rfl
theorem ts_or {t : T} {ts : Ts} {R : Bool → Store → Prop} : wpTs .Or (.cons t ts) X τ st R = wpT t X τ st (KTs .Or ts X τ R) := rfl
theorem i_val {e : E} {R : List PV → (Store → Prop) → Store → Prop} : wpI (.val e) X τ st R = wpE e X τ st (KI1 R) := rfl
theorem i_r1 {e : E} {R : List PV → (Store → Prop) → Store → Prop} : wpI (.range1 e) X τ st R = wpE e X τ st (KR1 R) := rfl
theorem i_r2 {a b : E} {R : List PV → (Store → Prop) → Store → Prop} : wpI (.range2 a b) X τ st R = wpE a X τ st (KR2a b X τ R) := rfl
theorem i_en {e : E} {R : List PV → (Store → Prop) → Store → Prop} : wpI (.enum e) X τ st R = wpE e X τ st (KEn R) := rfl
theorem i_zip {a b : E} {R : List PV → (Store → Prop) → Store → Prop} : wpI (.zip a b) X τ st R = wpE a X τ st (KZ1 b X τ R) := rfl
end
section
variable {D : PEnds} {τ : Sl} {st : Store}
theorem s_asgN {i : Nat} {e : E} : wpS (.asg (.name i) e) D τ st = wpE e (KEx D τ) τ st (KAsgN i τ D) := rfl
theorem s_asgT {ts : TGs} {e : E} : wpS (.asg (.tup ts) e) D τ st = wpE e (KEx D τ) τ st (KAsg (.tup ts) τ D) := rfl
theorem s_asgLc {i : Nat} {e : E} : wpS (.asgLc i e) D τ st = wpE e (KEx D τ) τ st (KAsgN i τ D) := rfl
theorem s_setIx {o i e : E} : wpS (.setIx o i e) D τ st = wpE e (KEx D τ) τ st (KSx1 o i τ D) := rfl
theorem s_aug {i : Nat} {o : Operator} {e : E} : wpS (.aug i o e) D τ st = oP (getS τ i) (KAug1 i o e τ D st) := rfl
theorem s_expr {e : E} : wpS (.expr e) D τ st = wpE e (KEx D τ) τ st (KExpr τ D) := rfl
theorem s_ret {e : E} : wpS (.ret e) D τ st = wpE e (KEx D τ) τ st D.rt := rfl
theorem s_retN  : wpS .retN D τ st = D.rt .non st := rfl
theorem s_ite {t : T} {a b : Ss} : wpS (.ite t a b) D τ st = wpT t (KEx D τ) τ st (KArm a b τ D) := by
  have e : KArm a b τ D = fun k st1 => if k = true then wpSs a D τ st1 else wpSs b D τ st1 := by
    funext k st1; unfold KArm; rw [Arm_eq, Arm_eq]
  rw [e]; rfl
theorem s_loop {tg : TG} {it : I} {b : Ss} : wpS (.loop tg it b) D τ st = wpI it (KEx D τ) τ st (KLoop tg b τ D) := rfl
theorem s_while {t : T} {b : Ss} : wpS (.while t b) D τ st = whileL (KWt t D) (wpSs b) D τ st := rfl
theorem s_pass  : wpS .pass D τ st = D.nx τ st := rfl
theorem s_brk  : wpS .brk D τ st = D.bk τ st := rfl
theorem s_cont  : wpS .cont D τ st = D.ct τ st := rfl
end
theorem rt_fn {Q : PQ} {X : EQ} {v : PV} {s : Store} : (fnEnds Q X).rt v s = ∃ s0, Sub s0 s ∧ Q v s0 := rfl
theorem nx_fn {Q : PQ} {X : EQ} {τ : Sl} {s : Store} : (fnEnds Q X).nx τ s = ∃ s0, Sub s0 s ∧ Q .non s0 := rfl
theorem oP_some {α : Type} {a : α} {k : α → Prop} : oP (some a) k = k a := rfl
theorem oP_none {α : Type} {k : α → Prop} : oP none k = False := rfl
theorem onBl_eq {b : Bool} {k : Bool → Prop} : onBl (.bl b) k = k b := rfl
theorem onInt_eq {b : Int} {k : Int → Prop} : onInt (.int b) k = k b := rfl
theorem natc0 : ((0 : Nat) : Int) = 0 := rfl
theorem natc1 : ((1 : Nat) : Int) = 1 := rfl
theorem natc2 : ((2 : Nat) : Int) = 2 := rfl
theorem natc3 : ((3 : Nat) : Int) = 3 := rfl
theorem natc4 : ((4 : Nat) : Int) = 4 := rfl
theorem natc5 : ((5 : Nat) : Int) = 5 := rfl
theorem natc6 : ((6 : Nat) : Int) = 6 := rfl
theorem natc7 : ((7 : Nat) : Int) = 7 := rfl
theorem natc8 : ((8 : Nat) : Int) = 8 := rfl
theorem isNon_non : isNon .non = true := rfl
theorem isNon_int {i : Int} : isNon (.int i) = false := rfl
theorem isNon_bl {i : Bool} : isNon (.bl i) = false := rfl
theorem isNon_str {i : Str} : isNon (.str i) = false := rfl
theorem isNon_tup {i : List PV} : isNon (.tup i) = false := rfl
theorem isNon_lst {i : List PV} : isNon (.lst i) = false := rfl
theorem isNon_ref {i : Nat} : isNon (.ref i) = false := rfl
theorem getS_0 {x : Option PV} {r : Sl} : getS (x :: r) 0 = x := rfl
theorem getS_s {x : Option PV} {r : Sl} {n : Nat} : getS (x :: r) (n + 1) = getS r n := rfl
/-- an item at a number of the text -/
theorem atI_nat {α : Type} {xs : List α} {n : Nat} : atI xs (n : Int) = xs[n]? := by
  unfold atI ixN
  rw [if_pos (by omega)]
  by_cases h : n < xs.length
  · rw [if_pos (by omega)]; simp
  · rw [if_neg (by omega)]
    simp only [Option.bind_none]
    exact (List.getElem?_eq_none (by omega)).symm
theorem atI_0 {α : Type} {x : α} {r : List α} : atI (x :: r) 0 = some x := atI_nat (n := 0)
theorem atI_1 {α : Type} {x y : α} {r : List α} : atI (x :: y :: r) 1 = some y := atI_nat (n := 1)
theorem atI_2 {α : Type} {x y z : α} {r : List α} : atI (x :: y :: z :: r) 2 = some z := atI_nat (n := 2)
theorem atI_3 {α : Type} {x y z u : α} {r : List α} : atI (x :: y :: z :: u :: r) 3 = some u := atI_nat (n := 3)
theorem atI_4 {α : Type} {x y z u v : α} {r : List α} : atI (x :: y :: z :: u :: v :: r) 4 = some v := atI_nat (n := 4)
theorem atI_of {α : Type} {xs : List α} {i : Int} (h0 : 0 ≤ i) (h : i < xs.length) : atI xs i = some (xs[i.toNat]'(by omega)) := by
  obtain ⟨n, rfl⟩ := Int.eq_ofNat_of_zero_le h0
  rw [atI_nat]
  exact List.getElem?_eq_getElem _
theorem atI_int {ns : List Int} {i : Int} (h0 : 0 ≤ i) (h : i < ns.length) : atI (ns.map PV.int) i = some (.int (ns[i.toNat]'(by omega))) := by
  rw [atI_of h0 (by simpa using h)]
  simp
theorem ixN_nat {n m : Nat} (h : m < n) : ixN n (m : Int) = some m := by
  unfold ixN
  rw [if_pos (by omega), if_pos (by omega)]; simp
theorem while_ind {t : T} {b : Ss} {D : PEnds} (W : Nat → Sl → Store → Prop)
    (h : ∀ n τ st, W n τ st → wpT t (KEx D τ) τ st fun k st1 => if k = true then wpSs b (D.lp fun τ' st' => ∃ m, m < n ∧ W m τ' st') τ st1 else D.nx τ st1)
    {τ : Sl} {st : Store} (n : Nat) (h0 : W n τ st) : whileL (KWt t D) (wpSs b) D τ st := ⟨W, ⟨n, h0⟩, h⟩

/-! ### operations on followed lists -/
def KSet2 (a : Nat) (v : PV) (st : Store) (Q : Store → Prop) (xs : List PV) (j : Nat) : Prop := Q (up st a (some (.lst (xs.set j v))))
def KSet1 (a : Nat) (k : Int) (v : PV) (st : Store) (Q : Store → Prop) (xs : List PV) : Prop := oP (ixN xs.length k) (KSet2 a v st Q xs)
def KApp (a : Nat) (v : PV) (st : Store) (Q : PQ) (xs : List PV) : Prop := xs.length < sizeLine ∧ Q .non (up st a (some (.lst (xs ++ [v]))))
def KExt (a : Nat) (w : PV) (st : Store) (Q : PQ) (xs : List PV) : Prop := oP (lstOf st w) fun ys => xs.length + ys.length ≤ sizeLine ∧ Q .non (up st a (some (.lst (xs ++ ys))))
def KPop (a : Nat) (st : Store) (Q : PQ) (xs : List PV) : Prop := oP (xs[xs.length - 1]?) fun y => Q y (up st a (some (.lst xs.dropLast)))
def KAddL (m : Bool) (w : PV) (st : Store) (Q : PQ) (xs : List PV) : Prop := oP (lstOf st w) fun ys => xs.length + ys.length ≤ sizeLine ∧ newList m (xs ++ ys) st Q
def KCut (m : Bool) (lo hi : Option Int) (st : Store) (Q : PQ) (xs : List PV) : Prop := newList m (cutP xs lo hi) st Q
def KTru (st : Store) (Q : Bool → Store → Prop) (xs : List PV) : Prop := Q (!xs.isEmpty) st
theorem lstOf_ref {st : Store} {a : Nat} {xs : List PV} : lstOf st (.ref a) = some xs ↔ st a = some (.lst xs) := by
  show (match st a with
    | some (.lst xs) => some xs
    | _ => none) = some xs ↔ _
  cases h : st a with
  | none => simp
  | some c => cases c <;> simp
theorem oP_iff {α : Type} {o : Option α} {k : α → Prop} : oP o k ↔ ∃ a, o = some a ∧ k a := by
  cases o with
  | none => simp [oP]
  | some a => simp [oP]
theorem v_set {a : Nat} {k : Int} {v : PV} {st : Store} {Q : Store → Prop} : setIxV (.ref a) (.int k) v st Q = oP (lstOf st (.ref a)) (KSet1 a k v st Q) := by
  refine propext ⟨fun ⟨xs, j, h1, h2, h3⟩ => oP_iff.mpr ⟨xs, lstOf_ref.mpr h1, oP_iff.mpr ⟨j, h2, h3⟩⟩, fun h => ?_⟩
  obtain ⟨xs, h1, h2⟩ := oP_iff.mp h
  obtain ⟨j, h2, h3⟩ := oP_iff.mp h2
  exact ⟨xs, j, lstOf_ref.mp h1, h2, h3⟩
theorem v_app {a : Nat} {v : PV} {st : Store} {Q : PQ} : methV .append (.ref a) [v] st Q = oP (lstOf st (.ref a)) (KApp a v st Q) := by
  refine propext ⟨fun ⟨xs, h1, h2⟩ => oP_iff.mpr ⟨xs, lstOf_ref.mpr h1, h2⟩, fun h => ?_⟩
  obtain ⟨xs, h1, h2⟩ := oP_iff.mp h
  exact ⟨xs, lstOf_ref.mp h1, h2⟩
theorem v_ext {a : Nat} {w : PV} {st : Store} {Q : PQ} : methV .extend (.ref a) [w] st Q = oP (lstOf st (.ref a)) (KExt a w st Q) := by
  refine propext ⟨fun ⟨xs, ys, h1, h2, h3⟩ => oP_iff.mpr ⟨xs, lstOf_ref.mpr h1, oP_iff.mpr ⟨ys, h2, h3⟩⟩, fun h => ?_⟩
  obtain ⟨xs, h1, h2⟩ := oP_iff.mp h
  obtain ⟨ys, h2, h3⟩ := oP_iff.mp h2
  exact ⟨xs, ys, lstOf_ref.mp h1, h2, h3⟩
theorem v_pop {a : Nat} {st : Store} {Q : PQ} : methV .pop (.ref a) [] st Q = oP (lstOf st (.ref a)) (KPop a st Q) := by
  refine propext ⟨fun ⟨xs, ys, h1, h2, h3⟩ => oP_iff.mpr ⟨xs, lstOf_ref.mpr h1, oP_iff.mpr ⟨ys, h2, h3⟩⟩, fun h => ?_⟩
  obtain ⟨xs, h1, h2⟩ := oP_iff.mp h
  obtain ⟨ys, h2, h3⟩ := oP_iff.mp h2
  exact ⟨xs, ys, lstOf_ref.mp h1, h2, h3⟩
theorem v_addRL {m : Bool} {a : Nat} {ys : List PV} {st : Store} {Q : PQ} : binV .Add m (.ref a) (.lst ys) st Q = oP (lstOf st (.ref a)) (KAddL m (.lst ys) st Q) := by
  refine propext ⟨fun ⟨xs, h1, h2⟩ => oP_iff.mpr ⟨xs, lstOf_ref.mpr h1, h2⟩, fun h => ?_⟩
  obtain ⟨xs, h1, h2⟩ := oP_iff.mp h
  exact ⟨xs, lstOf_ref.mp h1, h2⟩
theorem v_addLR {m : Bool} {a : Nat} {xs : List PV} {st : Store} {Q : PQ} : binV .Add m (.lst xs) (.ref a) st Q = KAddL m (.ref a) st Q xs := by
  refine propext ⟨fun ⟨ys, h1, h2⟩ => oP_iff.mpr ⟨ys, lstOf_ref.mpr h1, h2⟩, fun h => ?_⟩
  obtain ⟨ys, h1, h2⟩ := oP_iff.mp h
  exact ⟨ys, lstOf_ref.mp h1, h2⟩
theorem v_addRR {m : Bool} {a b : Nat} {st : Store} {Q : PQ} : binV .Add m (.ref a) (.ref b) st Q = oP (lstOf st (.ref a)) (KAddL m (.ref b) st Q) := by
  refine propext ⟨fun ⟨xs, ys, h1, h2, h3⟩ => oP_iff.mpr ⟨xs, lstOf_ref.mpr h1, oP_iff.mpr ⟨ys, lstOf_ref.mpr h2, h3⟩⟩, fun h => ?_⟩
  obtain ⟨xs, h1, h2⟩ := oP_iff.mp h
  obtain ⟨ys, h2, h3⟩ := oP_iff.mp h2
  exact ⟨xs, ys, lstOf_ref.mp h1, lstOf_ref.mp h2, h3⟩
theorem v_cut {m : Bool} {a : Nat} {lo hi : Option Int} {st : Store} {Q : PQ} : sliceV m (.ref a) lo hi st Q = oP (lstOf st (.ref a)) (KCut m lo hi st Q) := by
  refine propext ⟨fun ⟨xs, h1, h2⟩ => oP_iff.mpr ⟨xs, lstOf_ref.mpr h1, h2⟩, fun h => ?_⟩
  obtain ⟨xs, h1, h2⟩ := oP_iff.mp h
  exact ⟨xs, lstOf_ref.mp h1, h2⟩
theorem v_tru {a : Nat} {st : Store} {Q : Bool → Store → Prop} : truV (.ref a) st Q = oP (lstOf st (.ref a)) (KTru st Q) := by
  refine propext ⟨fun ⟨xs, h1, h2⟩ => oP_iff.mpr ⟨xs, lstOf_ref.mpr h1, h2⟩, fun h => ?_⟩
  obtain ⟨xs, h1, h2⟩ := oP_iff.mp h
  exact ⟨xs, lstOf_ref.mp h1, h2⟩
theorem ix_50 : ixN 5 0 = some 0 := rfl
theorem ix_51 : ixN 5 1 = some 1 := rfl
theorem ix_52 : ixN 5 2 = some 2 := rfl
theorem ix_53 : ixN 5 3 = some 3 := rfl
theorem ix_54 : ixN 5 4 = some 4 := rfl
/-! ### operations whose wish is looked at later -/
def KItL (i : Int) (st : Store) (Q : PQ) (xs : List PV) : Prop := oP (atI xs i) (KV st Q)
def KLen (st : Store) (Q : PQ) (xs : List PV) : Prop := Q (.int xs.length) st
def KTupB (st : Store) (Q : PQ) (xs : List PV) : Prop := Q (.tup xs) st
def KListB (m : Bool) (st : Store) (Q : PQ) (xs : List PV) : Prop := newList m xs st Q
def KAll2 (st : Store) (Q : PQ) (bs : List Bool) : Prop := Q (.bl (bs.all id)) st
def KAll (st : Store) (Q : PQ) (xs : List PV) : Prop := oP (blsOf xs) (KAll2 st Q)
def KAny2 (st : Store) (Q : PQ) (bs : List Bool) : Prop := Q (.bl (bs.any id)) st
def KAny (st : Store) (Q : PQ) (xs : List PV) : Prop := oP (blsOf xs) (KAny2 st Q)
def KSum2 (st : Store) (Q : PQ) (ns : List Int) : Prop := Q (.int ns.sum) st
def KSum (st : Store) (Q : PQ) (xs : List PV) : Prop := oP (intsOf xs) (KSum2 st Q)
def KMax2 (st : Store) (Q : PQ) (ns : List Int) : Prop := ns ≠ [] ∧ Q (.int (maxL ns)) st
def KMax (st : Store) (Q : PQ) (xs : List PV) : Prop := oP (intsOf xs) (KMax2 st Q)
def KMin2 (st : Store) (Q : PQ) (ns : List Int) : Prop := ns ≠ [] ∧ Q (.int (minL ns)) st
def KMin (st : Store) (Q : PQ) (xs : List PV) : Prop := oP (intsOf xs) (KMin2 st Q)
def KIn (v : PV) (st : Store) (Q : PQ) (xs : List PV) : Prop := isSc v = true ∧ xs.all isSc = true ∧ Q (.bl (xs.any fun y => eqv y v)) st
def KNotIn (v : PV) (st : Store) (Q : PQ) (xs : List PV) : Prop := isSc v = true ∧ xs.all isSc = true ∧ Q (.bl (!xs.any fun y => eqv y v)) st
def KItR (f : List PV → List PV) (a : Nat) (st : Store) (Q : List PV → (Store → Prop) → Store → Prop) (xs : List PV) : Prop := Q (f xs) (fun s => s a = some (.lst xs)) st
def KFrz (a : Nat) (st : Store) (Q : PQ) (xs : List PV) : Prop := Q (.lst xs) (up st a none)
section
variable {m : Bool} {st : Store} {Q : PQ} {v : PV} {a : Nat} {xs : List PV} {i : Int}
theorem v_itT  : itemV i (.tup xs) st Q = oP (atI xs i) (KV st Q) := rfl
theorem v_itL  : itemV i (.lst xs) st Q = oP (atI xs i) (KV st Q) := rfl
theorem v_itR  : itemV i (.ref a) st Q = oP (lstOf st (.ref a)) (KItL i st Q) := rfl
theorem v_lenR  : bltV .len m [.ref a] st Q = oP (lstOf st (.ref a)) (KLen st Q) := rfl
theorem v_tuple  : bltV .tuple m [v] st Q = oP (seqOf st v) (KTupB st Q) := rfl
theorem v_listR  : bltV .list m [.ref a] st Q = oP (lstOf st (.ref a)) (KListB m st Q) := rfl
theorem v_all  : bltV .all m [v] st Q = oP (lstOf st v) (KAll st Q) := rfl
theorem v_any  : bltV .any m [v] st Q = oP (lstOf st v) (KAny st Q) := rfl
theorem v_sum  : bltV .sum m [v] st Q = oP (lstOf st v) (KSum st Q) := rfl
theorem v_max  : bltV .max m [v] st Q = oP (lstOf st v) (KMax st Q) := rfl
theorem v_min  : bltV .min m [v] st Q = oP (lstOf st v) (KMin st Q) := rfl
theorem v_in {w : PV} : cmpV .In v w st Q = oP (seqOf st w) (KIn v st Q) := rfl
theorem v_notIn {w : PV} : cmpV .NotIn v w st Q = oP (seqOf st w) (KNotIn v st Q) := rfl
theorem v_it {f : List PV → List PV} {K : List PV → (Store → Prop) → Store → Prop} : itV f (.ref a) st K = oP (lstOf st (.ref a)) (KItR f a st K) := rfl
theorem v_itL2 {f : List PV → List PV} {K : List PV → (Store → Prop) → Store → Prop} : itVL f (.ref a) st K = oP (lstOf st (.ref a)) (KItR f a st K) := rfl
theorem v_frz  : frzV (.ref a) st Q = oP (lstOf st (.ref a)) (KFrz a st Q) := rfl
end
section
variable {st : Store} {Q : PQ} {i j : Int} {a b : Bool}
theorem v_eqII : cmpV .Eq (.int i) (.int j) st Q = Q (.bl (decide (i = j))) st := by
  show (eqOk st (.int i) (.int j) ∧ Q (.bl (eqv (.int i) (.int j))) st) = _
  rw [show eqv (.int i) (.int j) = decide (i = j) by unfold eqv; rfl]
  exact propext ⟨fun h => h.2, fun h => ⟨.inl rfl, h⟩⟩
theorem v_neII : cmpV .NotEq (.int i) (.int j) st Q = Q (.bl (!decide (i = j))) st := by
  show (eqOk st (.int i) (.int j) ∧ Q (.bl (!eqv (.int i) (.int j))) st) = _
  rw [show eqv (.int i) (.int j) = decide (i = j) by unfold eqv; rfl]
  exact propext ⟨fun h => h.2, fun h => ⟨.inl rfl, h⟩⟩
theorem v_eqSS {x y : Str} : cmpV .Eq (.str x) (.str y) st Q = Q (.bl (decide (x = y))) st := by
  show (eqOk st (.str x) (.str y) ∧ Q (.bl (eqv (.str x) (.str y))) st) = _
  rw [show eqv (.str x) (.str y) = decide (x = y) by unfold eqv; rfl]
  exact propext ⟨fun h => h.2, fun h => ⟨.inl rfl, h⟩⟩
theorem v_eqBB : cmpV .Eq (.bl a) (.bl b) st Q = Q (.bl (a == b)) st := by
  show (eqOk st (.bl a) (.bl b) ∧ Q (.bl (eqv (.bl a) (.bl b))) st) = _
  rw [show eqv (.bl a) (.bl b) = (a == b) by unfold eqv; rfl]
  exact propext ⟨fun h => h.2, fun h => ⟨.inl rfl, h⟩⟩
theorem v_neBB : cmpV .NotEq (.bl a) (.bl b) st Q = Q (.bl (!(a == b))) st := by
  show (eqOk st (.bl a) (.bl b) ∧ Q (.bl (!eqv (.bl a) (.bl b))) st) = _
  rw [show eqv (.bl a) (.bl b) = (a == b) by unfold eqv; rfl]
  exact propext ⟨fun h => h.2, fun h => ⟨.inl rfl, h⟩⟩
end
end TK

set_option maxRecDepth 100000
set_option maxHeartbeats 4000000
namespace TK
open PySem PySem.Spec PyProof.Rows L2
/-! ### the drawing of numbers from the script -/
/-- a number one may divide by -/
def Sm (n : Int) : Prop := n.natAbs < 2 ^ 8000
theorem Sm.of {n : Int} (h : n.natAbs ≤ 10 ^ 100) : Sm n := Nat.lt_of_le_of_lt h (by decide)
theorem Sm.div {n : Int} (h : Sm n) (h0 : n ≠ 0) : DivOk n := ⟨h0, Nat.lt_of_lt_of_le ((Nat.log2_lt (by omega)).mpr h) (by decide)⟩
theorem Sm.lit {n : Nat} (h : n < 2 ^ 8000) : Sm (n : Int) := h
def poolC (ns : List Int) (x b c d : Int) : Cell := .lst [.lst (ns.map .int), .int x, .int b, .int c, .int d]
theorem unpool {K : PySem.W.Frag} {H : Hp} {F : FS} {st : Store} {p : Addr} (r : RS K H F st) (e : st p = some .pool) : ∃ ns x b c d, 0 ≤ x ∧ RS K H F (up st p (some (poolC ns x b c d))) := by
  obtain ⟨nf, q, ns, x, b, c, d, h1, h2, h3, h4⟩ := r.pool p e
  refine ⟨ns, x, b, c, d, h4, fun a xs z => ?_, fun a z => ?_, r.fz⟩
  · by_cases n : a = p
    · subst n
      rw [up_same] at z; cases z
      exact ⟨nf, _, h1, .cons (.lst h2 h3 (DVs.ints ns)) (.cons (.int _) (.cons (.int _) (.cons (.int _) (.cons (.int _) .nil))))⟩
    · rw [up_ne n] at z; exact r.lst a xs z
  · by_cases n : a = p
    · subst n; rw [up_same] at z; cases z
    · rw [up_ne n] at z; exact r.pool a z
theorem repool {K : PySem.W.Frag} {H : Hp} {F : FS} {st : Store} {p : Addr} {ns : List Int} {x b c d : Int} (r : RS K H F (up st p (some (poolC ns x b c d)))) (hx : 0 ≤ x) : RS K H F (up st p (some .pool)) := by
  refine ⟨fun a xs z => ?_, fun a z => ?_, r.fz⟩
  · by_cases n : a = p
    · subst n; rw [up_same] at z; cases z
    · rw [up_ne n] at z; exact r.lst a xs (by rw [up_ne n]; exact z)
  · by_cases n : a = p
    · subst n
      obtain ⟨nf, ys, h, d⟩ := r.lst a _ up_same
      refine ⟨nf, ?_⟩
      cases d with
      | cons d0 d =>
        cases d with
        | cons d1 d => cases d with
          | cons d2 d => cases d with
            | cons d3 d => cases d with
              | cons d4 d => cases d with
                | nil =>
                  cases d1; cases d2; cases d3; cases d4
                  cases d0 with
                  | lst f e dd => exact ⟨_, ns, _, _, _, _, h, f, e.trans (by rw [dd.of_ints]), hx⟩
    · rw [up_ne n] at z; exact r.pool a (by rw [up_ne n]; exact z)
/-- a list-level promise, told of the pool -/
def sl__law_pool : PSpec
  | [.scr ns], st, Q, _ => ∀ p, st p = none → Q (.ref p) (up st p (some (poolC ns 0 0 7 0)))
  | _, _, _, _ => False
def sp__law_pool : PSpec
  | [.scr _], st, Q, _ => ∀ p, st p = none → Q (.ref p) (up st p (some .pool))
  | _, _, _, _ => False
def sp__law_mix : PSpec
  | [.ref p], st, Q, _ => ∃ ns x b c d, st p = some (poolC ns x b c d) ∧ ∀ c' d', 0 ≤ c' → Q (.int c') (up st p (some (poolC ns x b c' d')))
  | _, _, _, _ => False
def sl__law_draw : PSpec
  | [.ref p, .int many], st, Q, _ => ∃ ns x b c d, st p = some (poolC ns x b c d) ∧ 0 ≤ x ∧ Sm many ∧ ∀ r x' b' c' d', 0 ≤ x' → 0 ≤ r → (2 ≤ many → r < many) → (many < 2 → r = 0) → Q (.int r) (up st p (some (poolC ns x' b' c' d')))
  | _, _, _, _ => False
def sp__law_draw : PSpec
  | [.ref p, .int many], st, Q, _ => st p = some .pool ∧ Sm many ∧ ∀ r, 0 ≤ r → (2 ≤ many → r < many) → (many < 2 → r = 0) → Q (.int r) st
  | _, _, _, _ => False
theorem pool_view {Γ : Wd} {k : Nat} (h : HasFn Γ k "_law_pool" sl__law_pool 1) : HasFn Γ k "_law_pool" sp__law_pool 1 := by
  refine h.view fun vs st Q X H F rs hs => ?_
  unfold sp__law_pool at hs
  split at hs
  · rename_i ns
    refine ⟨st, fun v s => ∃ p, st p = none ∧ v = .ref p ∧ s = up st p (some (poolC ns 0 0 7 0)), rs, fun p hp => ⟨p, hp, rfl, rfl⟩, ?_⟩
    rintro v s2 H' F' _ r2 ⟨p, hp, rfl, rfl⟩
    exact ⟨_, repool r2 (Int.le_refl 0), hs p hp⟩
  · exact hs.elim
theorem draw_view {Γ : Wd} {k : Nat} (h : HasFn Γ k "_law_draw" sl__law_draw 2) : HasFn Γ k "_law_draw" sp__law_draw 2 := by
  refine h.view fun vs st Q X H F rs hs => ?_
  unfold sp__law_draw at hs
  split at hs
  · rename_i p many
    obtain ⟨h1, h2, h3⟩ := hs
    obtain ⟨ns, x, b, c, d, hx, rs2⟩ := unpool rs h1
    refine ⟨_, fun v s => ∃ r x' b' c' d', v = .int r ∧ 0 ≤ x' ∧ 0 ≤ r ∧ (2 ≤ many → r < many) ∧ (many < 2 → r = 0) ∧ s = up (up st p (some (poolC ns x b c d))) p (some (poolC ns x' b' c' d')), rs2, ⟨ns, x, b, c, d, up_same, hx, h2, fun r x' b' c' d' a1 a2 a3 a4 => ⟨r, x', b', c', d', rfl, a1, a2, a3, a4, rfl⟩⟩, ?_⟩
    rintro v s2 H' F' _ r2 ⟨r, x', b', c', d', rfl, a1, a2, a3, a4, rfl⟩
    rw [up_up] at r2
    have r3 := repool r2 a1
    rw [up_id h1] at r3
    exact ⟨st, r3, h3 r a2 a3 a4⟩
  · exact hs.elim
end TK

set_option maxRecDepth 100000
set_option maxHeartbeats 4000000
namespace TK
open PySem PySem.Spec PyProof.Rows L2
/-! ### how long a value's text is, at most -/
def Pn (n : Int) : Prop := n.natAbs < 10 ^ 570
mutual
def shOk : Nat → PV → Prop
  | _, .non => True
  | _, .bl _ => True
  | _, .int i => Pn i
  | n, .tup xs => n ≠ 0 ∧ shOks (n - 1) xs
  | n, .lst xs => n ≠ 0 ∧ shOks (n - 1) xs
  | _, _ => False
def shOks : Nat → List PV → Prop
  | _, [] => True
  | n, x :: r => shOk n x ∧ shOks n r
end
mutual
def wgt : PV → Nat
  | .tup xs => wgts xs + 3
  | .lst xs => wgts xs + 3
  | _ => 571
def wgts : List PV → Nat
  | [] => 0
  | x :: r => wgt x + 2 + wgts r
end
theorem ten_pow (k : Nat) : ((10 : Int) ^ k) = ((10 ^ k : Nat) : Int) := by
  first
    | exact (Int.natCast_pow 10 k).symm
    | simp
theorem shown_int {i : Int} (h : Pn i) : (Str.ofString (toString i)).length ≤ 571 := by
  unfold Pn at h
  cases i with
  | ofNat m =>
    exact Nat.le_succ_of_le (toString_length_le (v := (m : Int)) (k := 570) (by omega) (by decide) (by rw [ten_pow]; exact Int.ofNat_lt.mpr h))
  | negSucc m =>
    have e : toString (Int.negSucc m) = "-" ++ toString (((m + 1 : Nat)) : Int) := rfl
    have h2 : (Str.ofString (toString (((m + 1 : Nat)) : Int))).length ≤ 570 := toString_length_le (v := ((m + 1 : Nat) : Int)) (k := 570) (by omega) (by decide) (by rw [ten_pow]; exact Int.ofNat_lt.mpr h)
    have l : ∀ s : String, (Str.ofString s).length = s.toList.length := fun s => by
      have := congrArg List.length (signs_ofString s)
      rw [List.length_map] at this
      exact this
    rw [e, l, String.toList_append, List.length_append, ← l, ← l]
    have : (Str.ofString "-").length = 1 := rfl
    omega
theorem piled_all : ∀ (ts : List Str), (listText ts).length ≤ piled ts + 2 ∧ (tupleText ts).length ≤ piled ts + 3
  | [] => ⟨by decide, by decide⟩
  | t :: r => by
    refine ⟨?_, ?_⟩
    · unfold listText
      rw [strLen_append]
      show (textFrom 1 (("[" : Str) ++ (if 0 > 0 then ", " else "" : String) ++ t) r).length + _ ≤ _
      rw [textFrom_length_pos _ _ _ (by decide), piled_cons, strLen_append, strLen_append]
      have e1 : (("[" : String) : Str).length = 1 := rfl
      have e2 : ((if 0 > 0 then ", " else "" : String) : Str).length = 0 := rfl
      have e3 : (("]" : String) : Str).length = 1 := rfl
      omega
    · unfold tupleText
      rw [strLen_append, strLen_append]
      have e1 : ((("(" : String) : Str)).length = 1 := rfl
      have e3 : (((if (t :: r).length == 1 then ",)" else ")" : String) : Str)).length ≤ 2 := by split <;> decide
      have := join_length_add (t :: r) (by simp)
      omega
mutual
theorem show_le : ∀ (n : Nat) (v : PV), n ≤ 60 → shOk n v → (toD v).showable = true ∧ (toD v).shown.length ≤ wgt v ∧ flat n v = true
  | _, .non, _, _ => ⟨rfl, by decide, by simp only [flat]⟩
  | _, .bl b, _, _ => ⟨rfl, by cases b <;> decide, by simp only [flat]⟩
  | _, .int i, _, h => by
    unfold shOk at h
    refine ⟨?_, ?_, by simp only [flat]⟩
    · simp only [toD, PyData.showable, decide_eq_true_eq]
      exact log2_small (Nat.lt_of_lt_of_le h (by decide))
    · simp only [toD, PyData.shown, wgt]
      exact shown_int h
  | n, .tup xs, hn, h => by
    unfold shOk at h
    obtain ⟨h1, h2⟩ := h
    obtain ⟨a, b, c⟩ := shows_le (n - 1) xs (by omega) h2
    refine ⟨?_, ?_, ?_⟩
    · simp only [toD, PyData.showable]; exact a
    · simp only [toD, PyData.shown, wgt]
      exact Nat.le_trans (piled_all _).2 (by omega)
    · simp only [flat, c, Bool.and_true]; simpa using h1
  | n, .lst xs, hn, h => by
    unfold shOk at h
    obtain ⟨h1, h2⟩ := h
    obtain ⟨a, b, c⟩ := shows_le (n - 1) xs (by omega) h2
    refine ⟨?_, ?_, ?_⟩
    · simp only [toD, PyData.showable]; exact a
    · simp only [toD, PyData.shown, wgt]
      exact Nat.le_trans (piled_all _).1 (by omega)
    · simp only [flat, c, Bool.and_true]; simpa using h1
  | _, .str _, _, h => by unfold shOk at h; exact h.elim
  | _, .ref _, _, h => by unfold shOk at h; exact h.elim
  | _, .scr _, _, h => by unfold shOk at h; exact h.elim
theorem shows_le : ∀ (n : Nat) (xs : List PV), n ≤ 60 → shOks n xs → PyData.showableAll (toDs xs) = true ∧ piled (PyData.shownAll (toDs xs)) ≤ wgts xs ∧ flats n xs = true
  | _, [], _, _ => ⟨rfl, by decide, by simp only [flats]⟩
  | n, x :: r, hn, h => by
    unfold shOks at h
    obtain ⟨a, b, c⟩ := show_le n x hn h.1
    obtain ⟨a2, b2, c2⟩ := shows_le n r hn h.2
    refine ⟨?_, ?_, ?_⟩
    · simp only [toDs, PyData.showableAll, a, a2, Bool.and_self]
    · simp only [toDs, PyData.shownAll, wgts]
      rw [piled_cons]; omega
    · simp only [flats, c, c2, Bool.and_self]
end
theorem flat_mono : True := trivial
theorem showOk_of {v : PV} (h : shOk 60 v) (hw : wgt v ≤ sizeLine) : ShowOk v :=
  let ⟨a, b, c⟩ := show_le 60 v (Nat.le_refl _) h
  ⟨a, Nat.le_trans b hw, c⟩
end TK

set_option maxRecDepth 100000
set_option maxHeartbeats 4000000
namespace TK
open PySem PySem.Spec PyProof.Rows L2
/-- a comprehension whose tests and elements are known -/
theorem lc_pure {tg : TG} {t : Sl → Store → (Bool → Store → Prop) → Prop} {e : Sl → Store → PQ → Prop} {τ : Sl} {st : Store} {K : List PV → Prop} (f : PV → Bool) (g : PV → PV) :
    ∀ (xs acc : List PV), (∀ x ∈ xs, ∃ τ1, tg.asg x τ = some τ1 ∧ ∀ st', Sub st st' → (∀ Q, Q (f x) st' → t τ1 st' Q) ∧ (f x = true → ∀ Q, Q (g x) st' → e τ1 st' Q)) → K (acc ++ (xs.filter f).map g) → lcL tg t e τ st xs acc K
  | [], acc, _, h => by
    show K acc
    simpa using h
  | x :: r, acc, hx, h => by
    obtain ⟨τ1, h1, h2⟩ := hx x List.mem_cons_self
    have hr := fun y hy => hx y (List.mem_cons_of_mem _ hy)
    unfold lcL
    rw [h1]
    intro st' sub
    obtain ⟨h3, h4⟩ := h2 st' sub
    refine h3 _ ⟨rfl, ?_⟩
    cases e : f x with
    | true =>
      rw [if_pos rfl]
      refine h4 e _ ⟨rfl, lc_pure f g r _ hr ?_⟩
      rw [List.filter_cons_of_pos e, List.map_cons] at h
      simpa using h
    | false =>
      rw [if_neg (by decide)]
      refine lc_pure f g r _ hr ?_
      rw [List.filter_cons_of_neg (by rw [e]; decide)] at h
      exact h
/-- .. without a test -/
theorem lc_map {tg : TG} {e : Sl → Store → PQ → Prop} {t : Sl → Store → (Bool → Store → Prop) → Prop} {τ : Sl} {st : Store} {K : List PV → Prop} (g : PV → PV)
    (xs : List PV) (ht : ∀ τ1 st' Q, Q true st' → t τ1 st' Q) (hx : ∀ x ∈ xs, ∃ τ1, tg.asg x τ = some τ1 ∧ ∀ st', Sub st st' → ∀ Q, Q (g x) st' → e τ1 st' Q) (h : K (xs.map g)) : lcL tg t e τ st xs [] K :=
  lc_pure (fun _ => true) g xs [] (fun x hm => let ⟨τ1, a, b⟩ := hx x hm; ⟨τ1, a, fun st' sub => ⟨fun Q q => ht _ _ _ q, fun _ Q q => b st' sub Q q⟩⟩) (by rw [List.filter_eq_self.mpr (fun _ _ => rfl)]; exact h)
/-- slices from the start, to the end -/
theorem cut_to {α : Type} {xs : List α} {k : Int} (h : 0 ≤ k) : cutP xs none (some k) = xs.take k.toNat := by
  obtain ⟨n, rfl⟩ := Int.eq_ofNat_of_zero_le h
  unfold cutP
  rw [HT.sIx_nat, HT.sIx_none, List.drop_zero, Int.toNat_natCast, Nat.sub_zero, List.take_eq_take_iff]
  omega
theorem cut_from {α : Type} {xs : List α} {k : Int} (h : 0 ≤ k) : cutP xs (some k) none = xs.drop k.toNat := by
  obtain ⟨n, rfl⟩ := Int.eq_ofNat_of_zero_le h
  unfold cutP
  rw [HT.sIx_nat, HT.sIx_none, Int.toNat_natCast]
  by_cases hn : n ≤ xs.length
  · rw [Nat.min_eq_left hn]
    exact List.take_of_length_le (by rw [List.length_drop]; omega)
  · rw [Nat.min_eq_right (by omega), Nat.sub_self, List.take_zero]
    exact (List.drop_eq_nil_of_le (by omega)).symm

/-- a comprehension over the images of a list -/
theorem lc_encA {α : Type} {enc : α → PV} {tg : TG} {t : Sl → Store → (Bool → Store → Prop) → Prop} {e : Sl → Store → PQ → Prop} {τ : Sl} {st : Store} {K : List PV → Prop} (f : α → Bool) (g : α → PV) :
    ∀ (l : List α) (acc : List PV), (∀ x ∈ l, ∃ τ1, tg.asg (enc x) τ = some τ1 ∧ ∀ st', Sub st st' → (∀ Q, Q (f x) st' → t τ1 st' Q) ∧ (f x = true → ∀ Q, Q (g x) st' → e τ1 st' Q)) → K (acc ++ (l.filter f).map g) → lcL tg t e τ st (l.map enc) acc K
  | [], acc, _, h => by
    show K acc
    simpa using h
  | x :: r, acc, hx, h => by
    obtain ⟨τ1, h1, h2⟩ := hx x List.mem_cons_self
    have hr := fun y hy => hx y (List.mem_cons_of_mem _ hy)
    rw [List.map_cons]
    unfold lcL
    rw [h1]
    intro st' sub
    obtain ⟨h3, h4⟩ := h2 st' sub
    refine h3 _ ⟨rfl, ?_⟩
    cases e : f x with
    | true =>
      rw [if_pos rfl]
      refine h4 e _ ⟨rfl, lc_encA f g r _ hr ?_⟩
      rw [List.filter_cons_of_pos e, List.map_cons] at h
      simpa using h
    | false =>
      rw [if_neg (by decide)]
      refine lc_encA f g r _ hr ?_
      rw [List.filter_cons_of_neg (by rw [e]; decide)] at h
      exact h
/-- .. with a test -/
theorem lc_filter {α : Type} {enc : α → PV} {tg : TG} {t : Sl → Store → (Bool → Store → Prop) → Prop} {e : Sl → Store → PQ → Prop} {τ : Sl} {st : Store} {K : List PV → Prop} (f : α → Bool) (g : α → PV) (l : List α)
    (hx : ∀ x ∈ l, ∃ τ1, tg.asg (enc x) τ = some τ1 ∧ ∀ st', Sub st st' → (∀ Q, Q (f x) st' → t τ1 st' Q) ∧ (f x = true → ∀ Q, Q (g x) st' → e τ1 st' Q)) (h : K ((l.filter f).map g)) : lcL tg t e τ st (l.map enc) [] K :=
  lc_encA f g l [] hx (by simpa using h)
/-- .. without one -/
theorem lc_enc {α : Type} {enc : α → PV} {tg : TG} {t : Sl → Store → (Bool → Store → Prop) → Prop} {e : Sl → Store → PQ → Prop} {τ : Sl} {st : Store} {K : List PV → Prop} (g : α → PV) (l : List α) (ht : ∀ τ1 st' Q, Q true st' → t τ1 st' Q)
    (hx : ∀ x ∈ l, ∃ τ1, tg.asg (enc x) τ = some τ1 ∧ ∀ st', Sub st st' → ∀ Q, Q (g x) st' → e τ1 st' Q) (h : K (l.map g)) : lcL tg t e τ st (l.map enc) [] K :=
  lc_encA (fun _ => true) g l [] (fun x hm => let ⟨τ1, a, b⟩ := hx x hm; ⟨τ1, a, fun st' sub => ⟨fun Q q => ht _ _ _ q, fun _ Q q => b st' sub Q q⟩⟩) (by rw [List.filter_eq_self.mpr (fun _ _ => rfl)]; exact h)
/-- a list with its numbers -/
theorem enumL_map {α : Type} (enc : α → PV) : ∀ (k : Nat) (l : List α), enumL k (l.map enc) = (l.zipIdx k).map fun p => .tup [.int (p.2 : Int), enc p.1]
  | _, [] => rfl
  | k, x :: r => by
    rw [List.map_cons, List.zipIdx_cons, List.map_cons, ← enumL_map enc (k + 1) r]
    rfl
end TK

open TK in
local macro_rules | `(tactic| simp_all only [$xs,*]) => `(tactic| simp only [ss_nil, ss_cons, nxt_nx, nxt_rt, nxt_bk, nxt_ct, lp_nx, lp_rt, lp_bk, lp_ct, ex_nxt, ex_lp, KV, KF, KBin2, KBin1, KNeg, KNot2, KNot, KCmp2, KCmp1, KCh4, KCh3, KCh2, KCh1, KBs2, KBs, KIf, KTup, KLst, KIdx2, KIdx1, KSl3, KSl2, KSl1, KCall, KBlt, KIsi2, KIsi, KMe2, KMe1, KComp2, KComp, KEs2, KEs1, KO2, KO, KTv, KT4, KT3, KT2, KT1, KTc4, KTc3, KTc2, KTc1, KTn, KTs, KTi, KI1, KR12, KR1, KR2d, KR2c, KR2b, KR2a, KEn, KZ2, KZ1, KNx, KAsg, KAsgN, KSx4, KSx3, KSx2, KSx1, KAug2, KAug1, KExpr, KArm, KLoop, KWt, e_var, e_fvar, e_int, e_bl, e_non, e_str, e_glob, e_bin, e_neg, e_not, e_cmp, e_chain, e_bools, e_ite, e_tup, e_lst, e_idx, e_slice, e_call, e_blt, e_isi, e_meth, e_comp, es_nil, es_cons, bs_one, bs_and, bs_or, o_no, o_yes, t_val, t_cmp, t_chain, t_not, t_bools, t_ite, ts_nilA, ts_nilO, ts_and, ts_or, i_val, i_r1, i_r2, i_en, i_zip, s_asgN, s_asgT, s_asgLc, s_setIx, s_aug, s_expr, s_ret, s_retN, s_ite, s_loop, s_while, s_pass, s_brk, s_cont, rt_fn, nx_fn, oP_some, oP_none, ↓v_itT, ↓v_itL, ↓v_itR, ↓v_lenR, ↓v_tuple, ↓v_listR, ↓v_all, ↓v_any, ↓v_sum, ↓v_max, ↓v_min, ↓v_in, ↓v_notIn, ↓v_it, ↓v_itL2, ↓v_frz, KItL, KLen, KTupB, KListB, KAll2, KAll, KAny2, KAny, KSum2, KSum, KMax2, KMax, KMin2, KMin, KIn, KNotIn, KItR, KFrz, ↓v_eqII, ↓v_eqSS, ↓v_neII, ↓v_eqBB, ↓v_neBB, ↓v_set, ↓v_app, ↓v_ext, ↓v_pop, ↓v_addRL, ↓v_addLR, ↓v_addRR, ↓v_cut, ↓v_tru, KSet1, KSet2, KApp, KExt, KPop, KAddL, KCut, KTru, List.set_cons_zero, List.set_cons_succ, onBl_eq, onInt_eq, getS_0, getS_s, getS, setS, wipeS, TG.asg, TGs.asg, Option.bind_some, binV, negV, cmpV, idxV, itemV, sliceV, bltV, isiV, methV, truV, setIxV, augV, newList, frzV, itV, itVL, zipV, lstOf, seqOf, isLst, natc0, natc1, natc2, natc3, natc4, natc5, natc6, natc7, natc8, isNon_non, isNon_int, isNon_bl, isNon_str, isNon_tup, isNon_lst, isNon_ref, atI_0, atI_1, atI_2, atI_3, atI_4, callS_eq, Bool.not_true, Bool.not_false, ite_true, ite_false, reduceIte, reduceCtorEq, Bool.false_eq_true, decide_eq_true_eq, decide_true, decide_false, decide_not, Bool.not_eq_true', decide_eq_false_iff_not, initS, List.map_cons, List.map_nil, List.length_cons, List.length_nil, List.cons_append, List.nil_append, Nat.reduceAdd, Nat.reduceSub, List.replicate_succ, List.replicate_zero, up_same, Option.some.injEq, Cell.lst.injEq, exists_eq_left', exists_eq_left, true_and, and_true, PV.int.injEq, Int.reduceLT, Int.reduceLE, Int.reduceAdd, Int.reduceMul, Int.reduceNeg, Int.reduceSub, Int.reduceToNat, Int.reducePow, id_eq, not_true_eq_false, not_false_eq_true, Nat.zero_add, I.isR, false_implies, true_implies, forall_const, $xs,*])

set_option maxRecDepth 100000
set_option maxHeartbeats 4000000
namespace TK
open PySem PySem.Spec PyProof.Rows L2
-- _law_pool
def b__law_pool : Ss :=
  (.cons (.ret (.lst true (.cons (.blt .list false (.cons (.var 0) .nil)) (.cons (.int 0) (.cons (.int 0) (.cons (.int 7) (.cons (.int 0) .nil))))))) .nil)
def n__law_pool : List Str := ["script"]
-- _law_mix
def b__law_mix : Ss :=
  (.cons (.setIx (.var 0) (.int 4) (.bin .Add false (.idx (.var 0) (.int 4)) (.int 1))) (.cons (.asg (.name 1) (.bin .Mod false (.blt .int false (.cons (.bin .Add false (.bin .Add false (.bin .Mult false (.idx (.var 0) (.int 3)) (.int 48271)) (.bin .Mult false (.idx (.var 0) (.int 4)) (.int 69621))) (.int 11)) .nil)) (.int 2147483647))) (.cons (.setIx (.var 0) (.int 3) (.bin .Mod false (.blt .int false (.cons (.bin .Add false (.bin .Add false (.bin .Mult false (.var 1) (.int 16807)) (.bin .Mult false (.idx (.var 0) (.int 4)) (.int 40692))) (.int 5)) .nil)) (.int 1000000007))) (.cons (.ret (.idx (.var 0) (.int 3))) .nil))))
def n__law_mix : List Str := ["pool", "first"]
-- _law_draw
def b__law_draw : Ss :=
  (.cons (.ite (.cmp .Lt (.var 1) (.int 2)) (.cons (.ret (.int 0)) .nil) .nil) (.cons (.ite (.cmp .Gt (.idx (.var 0) (.int 2)) (.int 0)) (.cons (.asg (.name 2) (.bin .Mod false (.blt .int false (.cons (.idx (.var 0) (.int 2)) .nil)) (.var 1))) (.cons (.setIx (.var 0) (.int 2) (.bin .FloorDiv false (.idx (.var 0) (.int 2)) (.var 1))) (.cons (.ret (.var 2)) .nil))) .nil) (.cons (.ite (.cmp .Lt (.idx (.var 0) (.int 1)) (.blt .len false (.cons (.idx (.var 0) (.int 0)) .nil))) (.cons (.asg (.name 3) (.idx (.idx (.var 0) (.int 0)) (.idx (.var 0) (.int 1)))) (.cons (.setIx (.var 0) (.int 1) (.bin .Add false (.idx (.var 0) (.int 1)) (.int 1))) (.cons (.ite (.cmp .GtE (.var 3) (.bin .Pow false (.int 10) (.int 18))) (.cons (.setIx (.var 0) (.int 2) (.bin .FloorDiv false (.var 3) (.var 1))) (.cons (.ret (.bin .Mod false (.blt .int false (.cons (.var 3) .nil)) (.var 1))) .nil)) .nil) (.cons (.setIx (.var 0) (.int 3) (.bin .Mod false (.blt .int false (.cons (.bin .Add false (.bin .Add false (.bin .Mult false (.idx (.var 0) (.int 3)) (.int 31)) (.bin .Mult false (.int 2) (.blt .abs false (.cons (.var 3) .nil)))) (.ite (.cmp .Lt (.var 3) (.int 0)) (.int 1) (.int 0))) .nil)) (.int 1000000007))) .nil)))) .nil) (.cons (.ret (.bin .Mod false (.blt .int false (.cons (.bin .FloorDiv false (.call "_law_mix" sp__law_mix (.cons (.var 0) .nil)) (.int 11)) .nil)) (.var 1))) .nil))))
def n__law_draw : List Str := ["pool", "many", "told", "cell"]
theorem w__law_pool : ∀ vs s Q X, vs.length = 1 → sl__law_pool vs s Q X → wpFn n__law_pool.length b__law_pool vs s Q X := by
  intro vs s Q X hl h
  unfold sl__law_pool at h
  split at h
  · rename_i ns
    rw [fn_eq]
    unfold b__law_pool n__law_pool
    simp_all only [ss_nil]
    exact ⟨by decide, fun p hp => ⟨_, .rfl, h p hp⟩⟩
  · exact h.elim
theorem w__law_mix : ∀ vs s Q X, vs.length = 1 → sp__law_mix vs s Q X → wpFn n__law_mix.length b__law_mix vs s Q X := by
  intro vs s Q X hl h
  unfold sp__law_mix at h
  split at h
  · rename_i p
    rw [fn_eq]
    unfold b__law_mix n__law_mix
    obtain ⟨ns, x, b, c, d, hp, h⟩ := h
    simp_all only [ss_nil, hp, poolC, ix_50, ix_51, ix_52, ix_53, ix_54, up_up]
    rw [Nx_eq]
    simp_all only [ss_nil, hp, poolC, ix_50, ix_51, ix_52, ix_53, ix_54, up_up]
    refine ⟨CMul.ok (by unfold CMul; omega), CMul.ok (by unfold CMul; omega), by decide, ?_⟩
    rw [Nx_eq]
    simp_all only [ss_nil, hp, poolC, ix_50, ix_51, ix_52, ix_53, ix_54, up_up]
    refine ⟨CMul.ok (by unfold CMul; omega), CMul.ok (by unfold CMul; omega), by decide, ?_⟩
    rw [Nx_eq]
    simp_all only [ss_nil, hp, poolC, ix_50, ix_51, ix_52, ix_53, ix_54, up_up]
    exact ⟨_, .rfl, h _ _ (Int.fmod_nonneg_of_pos _ (by decide))⟩
  · exact h.elim
theorem w__law_draw : ∀ vs s Q X, vs.length = 2 → sl__law_draw vs s Q X → wpFn n__law_draw.length b__law_draw vs s Q X := by
  intro vs s Q X hl h
  unfold sl__law_draw at h
  split at h
  · rename_i p many
    rw [fn_eq]
    unfold b__law_draw n__law_draw
    obtain ⟨ns, x, b, c, d, hp, hx, hm, h⟩ := h
    -- what is drawn is below many
    have low : ∀ z : Int, ¬ many < 2 → 0 ≤ z.fmod many ∧ (2 ≤ many → z.fmod many < many) ∧ (many < 2 → z.fmod many = 0) := fun z hz =>
      ⟨Int.fmod_nonneg_of_pos z (by omega), fun _ => Int.fmod_lt_of_pos z (by omega), fun h => absurd h hz⟩
    simp_all only [ss_nil, hp, poolC]
    split
    · (first | rw [Nx_eq] | rw [Arm_eq] | skip); (try simp_all only [ss_nil])
      have e := h 0 x b c d hx (Int.le_refl 0) (fun _ => by omega) (fun _ => rfl)
      rw [up_id hp] at e
      exact ⟨s, .rfl, e⟩
    · rename_i hmany
      have dv : DivOk many := hm.div (by omega)
      have m0 : many ≠ 0 := by omega
      (first | rw [Nx_eq] | rw [Arm_eq] | skip); (try simp_all only [ss_nil, Nx_eq, hp, poolC])
      split
      · (first | rw [Nx_eq] | rw [Arm_eq] | skip); (try simp_all only [ss_nil, hp, poolC, m0, ne_eq])
        (first | rw [Nx_eq] | rw [Arm_eq] | skip); (try simp_all only [ss_nil, hp, poolC, ix_52, up_up])
        refine ⟨dv, ?_⟩
        (first | rw [Nx_eq] | rw [Arm_eq] | skip); (try simp_all only [ss_nil])
        obtain ⟨l1, l2, l3⟩ := low b hmany
        exact ⟨_, .rfl, h _ _ _ _ _ hx l1 l2 l3⟩
      · (first | rw [Nx_eq] | rw [Arm_eq] | skip); (try simp_all only [ss_nil, Nx_eq, hp, poolC])
        split
        · rename_i hlt
          rw [List.length_map] at hlt
          (first | rw [Nx_eq] | rw [Arm_eq] | skip); (try simp_all only [ss_nil, hp, poolC, atI_int hx hlt])
          generalize ns[x.toNat]'(by omega) = z
          (first | rw [Nx_eq] | rw [Arm_eq] | skip); (try simp_all only [ss_nil, hp, poolC, ix_51])
          (first | rw [Nx_eq] | rw [Arm_eq] | skip); (try simp_all only [ss_nil, hp, poolC])
          refine ⟨by unfold CPow; decide, ?_⟩
          split
          · (first | rw [Nx_eq] | rw [Arm_eq] | skip); (try simp_all only [ss_nil, hp, poolC, ix_52, up_up])
            refine ⟨dv, ?_⟩
            (first | rw [Nx_eq] | rw [Arm_eq] | skip); (try simp_all only [ss_nil, m0, ne_eq])
            obtain ⟨l1, l2, l3⟩ := low z hmany
            exact ⟨_, .rfl, h _ _ _ _ _ (by omega) l1 l2 l3⟩
          · (first | rw [Nx_eq] | rw [Arm_eq] | skip); (try simp_all only [ss_nil, Nx_eq, hp, poolC, ix_53, up_up])
            refine ⟨CMul.ok (by unfold CMul; omega), CMul.ok (by unfold CMul; omega), ?_⟩
            split
            all_goals
              refine ⟨by decide, ?_⟩
              refine callS_of ⟨ns, x + 1, b, _, d, up_same, fun c' d' hc => ?_⟩
              simp_all only [ss_nil, up_up]
              refine ⟨⟨by decide, by decide⟩, ?_⟩
              simp_all only [ss_nil, m0, ne_eq]
              obtain ⟨l1, l2, l3⟩ := low (c'.fdiv 11) hmany
              exact ⟨_, .rfl, h _ _ _ _ _ (by omega) l1 l2 l3⟩
        · (first | rw [Nx_eq] | rw [Arm_eq] | skip); (try simp_all only [ss_nil, Nx_eq, hp, poolC])
          refine callS_of ⟨ns, x, b, c, d, hp, fun c' d' hc => ?_⟩
          simp_all only [ss_nil]
          refine ⟨⟨by decide, by decide⟩, ?_⟩
          simp_all only [ss_nil, m0, ne_eq]
          obtain ⟨l1, l2, l3⟩ := low (c'.fdiv 11) hmany
          exact ⟨_, .rfl, h _ _ _ _ _ hx l1 l2 l3⟩
  · exact h.elim

def pickR (xs : List PV) (st : Store) (Q : PQ) : Prop := xs ≠ [] ∧ xs.length ≤ 10 ^ 9 ∧ ∀ (i : Nat) v, xs[i]? = some v → Q v st
def sp__law_pick : PSpec
  | [.ref p, m], st, Q, _ => st p = some .pool ∧ (match m with
    | .lst xs => pickR xs st Q
    | .tup xs => pickR xs st Q
    | _ => False)
  | _, _, _, _ => False
def b__law_pick : Ss :=
  (.cons (.ret (.idx (.var 1) (.call "_law_draw" sp__law_draw (.cons (.var 0) (.cons (.blt .len false (.cons (.var 1) .nil)) .nil))))) .nil)
def n__law_pick : List Str := ["pool", "menu"]

theorem w__law_pick : ∀ vs s Q X, vs.length = 2 → sp__law_pick vs s Q X → wpFn n__law_pick.length b__law_pick vs s Q X := by
  intro vs s Q X hl h
  unfold sp__law_pick at h
  split at h
  · rename_i p m
    rw [fn_eq]
    unfold b__law_pick n__law_pick
    obtain ⟨hp, h⟩ := h
    have go : ∀ xs : List PV, pickR xs s Q → Sm xs.length ∧ ∀ r : Int, 0 ≤ r → (2 ≤ (xs.length : Int) → r < xs.length) → ((xs.length : Int) < 2 → r = 0) → ∃ v, atI xs r = some v ∧ Q v s := by
      rintro xs ⟨h0, hb, hq⟩
      have hpos : 0 < xs.length := List.length_pos_iff.mpr h0
      refine ⟨.of (by omega), fun r r0 r1 r2 => ?_⟩
      have hr : r < xs.length := by omega
      exact ⟨_, atI_of r0 hr, hq r.toNat _ (List.getElem?_eq_getElem _)⟩
    cases m with
    | lst xs =>
      obtain ⟨h1, h2⟩ := go xs h
      simp_all only [ss_nil]
      refine callS_of ⟨hp, h1, fun r r0 r1 r2 => ?_⟩
      obtain ⟨v, e, q⟩ := h2 r r0 r1 r2
      simp_all only [ss_nil, e]
      exact ⟨s, .rfl, q⟩
    | tup xs =>
      obtain ⟨h1, h2⟩ := go xs h
      simp_all only [ss_nil]
      refine callS_of ⟨hp, h1, fun r r0 r1 r2 => ?_⟩
      obtain ⟨v, e, q⟩ := h2 r r0 r1 r2
      simp_all only [ss_nil, e]
      exact ⟨s, .rfl, q⟩
    | _ => exact h.elim
  · exact h.elim
/-- is it a whole number? -/
def isI : PV → Bool
  | .int _ => true
  | _ => false
def noRef : PV → Bool
  | .ref _ => false
  | .scr _ => false
  | _ => true
def sp__law_int : PSpec
  | [v], st, Q, _ => noRef v = true ∧ Q (.bl (isI v)) st
  | _, _, _, _ => False
def b__law_int : Ss :=
  (.cons (.ret (.bools .And (.cons (.isi (.var 0) "int") (.cons (.not (.isi (.var 0) "bool")) .nil)))) .nil)
def n__law_int : List Str := ["value"]

theorem w__law_int : ∀ vs s Q X, vs.length = 1 → sp__law_int vs s Q X → wpFn n__law_int.length b__law_int vs s Q X := by
  intro vs s Q X hl h
  unfold sp__law_int at h
  split at h
  · rename_i v
    rw [fn_eq]
    unfold b__law_int n__law_int
    obtain ⟨hv, h⟩ := h
    cases v <;> first | (cases hv; done) | (simp_all only [ss_nil]; exact ⟨s, .rfl, h⟩)
  · exact h.elim
end TK

set_option maxRecDepth 100000
set_option maxHeartbeats 4000000
namespace TK
open PySem PySem.Spec PyProof.Rows L2
theorem res_of {st : Store} {v : PV} (h : noRef v = true) : res st v = v := by
  cases v <;> first | rfl | cases h
/-- equal ones are told the same -/
def sp__law_same : PSpec
  | [v, w], st, Q, _ => v = w ∧ noRef v = true ∧ ShowOk v ∧ Q (.bl true) st
  | _, _, _, _ => False
def b__law_same : Ss :=
  (.cons (.ret (.cmp .Eq (.blt .repr false (.cons (.var 0) .nil)) (.blt .repr false (.cons (.var 1) .nil)))) .nil)
def n__law_same : List Str := ["value", "due"]

theorem w__law_same : ∀ vs s Q X, vs.length = 2 → sp__law_same vs s Q X → wpFn n__law_same.length b__law_same vs s Q X := by
  intro vs s Q X hl h
  unfold sp__law_same at h
  split at h
  · rename_i v w
    rw [fn_eq]
    unfold b__law_same n__law_same
    obtain ⟨rfl, hn, hs, h⟩ := h
    simp_all only [ss_nil, res_of hn]
    exact ⟨hs, hs, s, .rfl, h⟩
  · exact h.elim
def sp__law_gcd : PSpec
  | [.int a, .int b], st, Q, _ => Q (.int (Int.gcd a b)) st
  | _, _, _, _ => False
def b__law_gcd_1 : Ss :=
  (.cons (.asg (.name 2) (.bin .Mod false (.blt .int false (.cons (.var 0) .nil)) (.var 1))) (.cons (.asg (.name 0) (.var 1)) (.cons (.asg (.name 1) (.var 2)) .nil)))
def b__law_gcd : Ss :=
  (.cons (.asg (.name 0) (.blt .abs false (.cons (.var 0) .nil))) (.cons (.asg (.name 1) (.blt .abs false (.cons (.var 1) .nil))) (.cons (.while (.cmp .Gt (.var 1) (.int 0)) b__law_gcd_1) (.cons (.ret (.var 0)) .nil))))
def n__law_gcd : List Str := ["a", "b", "rest"]

theorem fmod_gcd (a b : Nat) (hb : 0 < b) : ((a : Int).fmod b) = ((a % b : Nat) : Int) := by
  rw [Int.fmod_eq_emod_of_nonneg _ (by omega)]; rfl
theorem w__law_gcd : ∀ vs s Q X, vs.length = 2 → sp__law_gcd vs s Q X → wpFn n__law_gcd.length b__law_gcd vs s Q X := by
  intro vs s Q X hl h
  unfold sp__law_gcd at h
  split at h
  · rename_i a b
    rw [fn_eq]
    unfold b__law_gcd n__law_gcd
    have ab : ∀ z : Int, (if z < 0 then -z else z) = (z.natAbs : Int) := fun z => by split <;> omega
    simp_all only [ss_nil, ab]
    (first | rw [Nx_eq] | rw [Arm_eq] | skip); (try simp_all only [ss_nil, ab])
    (first | rw [Nx_eq] | rw [Arm_eq] | skip); (try simp_all only [ss_nil])
    refine while_ind (fun n τ st => ∃ (x y : Nat) (o : Option PV), τ = [some (.int x), some (.int y), o] ∧ st = s ∧ y = n ∧ Nat.gcd x y = Int.gcd a b) ?_ b.natAbs ⟨a.natAbs, b.natAbs, none, rfl, rfl, rfl, rfl⟩
    rintro n τ st ⟨x, y, o, rfl, rfl, rfl, hg⟩
    simp_all only [ss_nil]
    split
    · rename_i hy
      have hy' : 0 < y := by omega
      unfold b__law_gcd_1
      simp_all only [ss_nil]
      refine ⟨by omega, ?_⟩
      (first | rw [Nx_eq] | rw [Arm_eq] | skip); (try simp_all only [ss_nil])
      (first | rw [Nx_eq] | rw [Arm_eq] | skip); (try simp_all only [ss_nil, Nx_eq])
      refine ⟨x % y, Nat.mod_lt _ hy', y, x % y, some (.int (x % y : Nat)), by rw [fmod_gcd x y hy'], rfl, ?_⟩
      rw [← hg, Nat.gcd_comm x y, Nat.gcd_rec y x, Nat.gcd_comm]
    · rename_i hy
      have : y = 0 := by omega
      subst this
      (first | rw [Nx_eq] | rw [Arm_eq] | skip); (try simp_all only [ss_nil])
      rw [Nat.gcd_zero_right] at hg
      subst hg
      exact ⟨st, .rfl, h⟩
  · exact h.elim
end TK

set_option maxRecDepth 100000
set_option maxHeartbeats 4000000
namespace TK
open PySem PySem.Spec PyProof.Rows L2
/-! ### ratios -/
/-- a ratio as the program holds it -/
def ratV (r : Rat) : PV := .tup [.int r.num, .int r.den]
def Sz (n : Int) : Prop := n.natAbs < 2 ^ 3900
def SzR (r : Rat) : Prop := Sz r.num ∧ Sz r.den
theorem Sz.of {n : Int} (h : n.natAbs ≤ 10 ^ 1000) : Sz n := Nat.lt_of_le_of_lt h (by decide)
theorem Sz.sm {n : Int} (h : Sz n) : Sm n := Nat.lt_of_lt_of_le h (Nat.pow_le_pow_right (by decide) (by decide))
theorem Sz.mulSm {m n : Int} (h : Sz m) (k : Sz n) : Sm (m * n) := by
  unfold Sm
  rw [Int.natAbs_mul]
  exact Nat.lt_of_lt_of_le (Nat.mul_lt_mul_of_lt_of_lt h k) (by rw [← Nat.pow_add]; exact Nat.pow_le_pow_right (by decide) (by decide))
theorem Sz.ok {m n : Int} (h : Sz m) (k : Sz n) : IntMulOk m n :=
  .of_le (intBits_le_iff.mpr h) (intBits_le_iff.mpr k) (by decide)
theorem divInt_num_le {n d : Int} (h : d ≠ 0) : (Rat.divInt n d).num.natAbs ≤ n.natAbs := by
  rw [Rat.num_divInt]
  refine Nat.le_trans (Int.natAbs_ediv_le_natAbs _ _) ?_
  rw [Int.natAbs_mul]
  rw [Int.natAbs_sign_of_ne_zero h, Nat.one_mul]
  exact Nat.le_refl _
theorem divInt_den_le {n d : Int} (h : d ≠ 0) : (Rat.divInt n d).den ≤ d.natAbs := by
  rw [Rat.den_divInt, if_neg h]
  exact Nat.div_le_self _ _
def sp__law_ratio : PSpec
  | [.int n, .int d], st, Q, _ => d ≠ 0 ∧ Sm d ∧ Q (ratV (Rat.divInt n d)) st
  | _, _, _, _ => False
def b__law_ratio : Ss :=
  (.cons (.ite (.cmp .Lt (.var 1) (.int 0)) (.cons (.asg (.name 0) (.neg (.var 0))) (.cons (.asg (.name 1) (.neg (.var 1))) .nil)) .nil) (.cons (.asg (.name 2) (.call "_law_gcd" sp__law_gcd (.cons (.var 0) (.cons (.var 1) .nil)))) (.cons (.ret (.tup (.cons (.bin .FloorDiv false (.var 0) (.var 2)) (.cons (.bin .FloorDiv false (.var 1) (.var 2)) .nil)))) .nil)))
def n__law_ratio : List Str := ["n", "d", "g"]

theorem w__law_ratio : ∀ vs s Q X, vs.length = 2 → sp__law_ratio vs s Q X → wpFn n__law_ratio.length b__law_ratio vs s Q X := by
  intro vs s Q X hl h
  unfold sp__law_ratio at h
  split at h
  · rename_i n d
    rw [fn_eq]
    unfold b__law_ratio n__law_ratio
    obtain ⟨h0, hs, h⟩ := h
    have key : ∀ n d : Int, 0 < d → Sm d → Q (ratV (Rat.divInt n d)) s → wpSs (.cons (.asg (.name 2) (.call "_law_gcd" sp__law_gcd (.cons (.var 0) (.cons (.var 1) .nil)))) (.cons (.ret (.tup (.cons (.bin .FloorDiv false (.var 0) (.var 2)) (.cons (.bin .FloorDiv false (.var 1) (.var 2)) .nil)))) .nil)) (fnEnds Q X) [some (.int n), some (.int d), none] s := by
      intro n d hd hs h
      simp_all only [ss_nil]
      refine callS_of ?_
      unfold sp__law_gcd
      simp_all only [ss_nil]
      have hg0 : 0 < Int.gcd n d := Int.gcd_pos_of_ne_zero_right _ (by omega)
      have hg1 : Int.gcd n d ≤ d.natAbs := Int.gcd_le_natAbs_right _ (by omega)
      have hdv : DivOk (Int.gcd n d) := Sm.div (Nat.lt_of_le_of_lt (by simpa using hg1) hs) (by omega)
      (first | rw [Nx_eq] | rw [Arm_eq] | skip); (try simp_all only [ss_nil])
      refine ⟨hdv, hdv, by decide, s, .rfl, ?_⟩
      have e1 : n.fdiv (Int.gcd n d) = (Rat.divInt n d).num := by
        rw [Rat.num_divInt, Int.sign_eq_one_of_pos hd, Int.one_mul, Int.gcd_comm, Int.fdiv_eq_ediv_of_nonneg _ (by omega)]
      have e2 : d.fdiv (Int.gcd n d) = ((Rat.divInt n d).den : Int) := by
        rw [Rat.den_divInt, if_neg (by omega), Int.gcd_comm, Int.fdiv_eq_ediv_of_nonneg _ (by omega)]
        rw [Int.natCast_ediv]
        congr 1
        omega
      rw [e1, e2]
      exact h
    simp_all only [ss_nil]
    split
    · rename_i hd
      (first | rw [Nx_eq] | rw [Arm_eq] | skip); (try simp_all only [ss_nil])
      (first | rw [Nx_eq] | rw [Arm_eq] | skip); (try simp_all only [ss_nil])
      (first | rw [Nx_eq] | rw [Arm_eq] | skip); (try simp_all only [ss_nil])
      rw [Nx_eq]
      refine key (-n) (-d) (by omega) (by unfold Sm at hs ⊢; omega) ?_
      rw [Rat.neg_divInt_neg]
      exact h
    · (first | rw [Nx_eq] | rw [Arm_eq] | skip); (try simp_all only [ss_nil])
      rw [Nx_eq]
      exact key n d (by omega) hs h
  · exact h.elim

/-- a ratio of small numbers -/
def Bd (k : Nat) (r : Rat) : Prop := r.num.natAbs < 2 ^ k ∧ r.den < 2 ^ k
/-- a value that tells a ratio, in lowest terms or not -/
def Fr (k : Nat) (v : PV) (r : Rat) : Prop := ∃ n d : Int, v = .tup [.int n, .int d] ∧ 0 < d ∧ n.natAbs < 2 ^ k ∧ d.natAbs < 2 ^ k ∧ r = Rat.divInt n d
theorem pow2_le {a b : Nat} (h : a ≤ b) : 2 ^ a ≤ 2 ^ b := Nat.pow_le_pow_right (by decide) h
theorem Bd.mono {a b : Nat} {r : Rat} (h : Bd a r) (k : a ≤ b) : Bd b r := ⟨Nat.lt_of_lt_of_le h.1 (pow2_le k), Nat.lt_of_lt_of_le h.2 (pow2_le k)⟩
theorem Fr.mono {a b : Nat} {v : PV} {r : Rat} (h : Fr a v r) (k : a ≤ b) : Fr b v r := by
  obtain ⟨n, d, e, h1, h2, h3, h4⟩ := h
  exact ⟨n, d, e, h1, Nat.lt_of_lt_of_le h2 (pow2_le k), Nat.lt_of_lt_of_le h3 (pow2_le k), h4⟩
theorem Fr.bd {a : Nat} {v : PV} {r : Rat} (h : Fr a v r) : Bd a r := by
  obtain ⟨n, d, _, h1, h2, h3, rfl⟩ := h
  exact ⟨Nat.lt_of_le_of_lt (divInt_num_le (by omega)) h2, Nat.lt_of_le_of_lt (divInt_den_le (by omega)) h3⟩
theorem Bd.fr {a : Nat} {r : Rat} (h : Bd a r) : Fr a (ratV r) r :=
  ⟨r.num, r.den, rfl, by have := r.den_nz; omega, h.1, h.2, (Rat.num_divInt_den r).symm⟩
theorem Bd.of_divInt {k : Nat} {n d : Int} (h0 : d ≠ 0) (h : n.natAbs < 2 ^ k) (h2 : d.natAbs < 2 ^ k) : Bd k (Rat.divInt n d) :=
  ⟨Nat.lt_of_le_of_lt (divInt_num_le h0) h, Nat.lt_of_le_of_lt (divInt_den_le h0) h2⟩
theorem mul_pow {a b x y : Nat} (h : x < 2 ^ a) (k : y < 2 ^ b) : x * y < 2 ^ (a + b) := by
  rw [Nat.pow_add]; exact Nat.mul_lt_mul_of_lt_of_lt h k
theorem sum_pow {a x y : Nat} (h : x < 2 ^ a) (k : y < 2 ^ a) : x + y < 2 ^ (a + 1) := by
  rw [Nat.pow_succ]; omega
theorem two_mul_abs {n d m e : Int} {a b : Nat} (h1 : n.natAbs < 2 ^ a) (h2 : d.natAbs < 2 ^ a) (h3 : m.natAbs < 2 ^ b) (h4 : e.natAbs < 2 ^ b) :
    (n * e + m * d).natAbs < 2 ^ (a + b + 1) ∧ (n * e - m * d).natAbs < 2 ^ (a + b + 1) ∧ (d * e).natAbs < 2 ^ (a + b + 1) := by
  have e1 : (n * e).natAbs < 2 ^ (a + b) := by rw [Int.natAbs_mul]; exact mul_pow h1 h4
  have e2 : (m * d).natAbs < 2 ^ (a + b) := by rw [Int.natAbs_mul, Nat.mul_comm]; exact mul_pow h2 h3
  have e3 : (d * e).natAbs < 2 ^ (a + b) := by rw [Int.natAbs_mul]; exact mul_pow h2 h4
  have := sum_pow e1 e2
  refine ⟨by omega, by omega, Nat.lt_of_lt_of_le e3 (pow2_le (by omega))⟩
theorem divInt_add {a b c d : Int} (hb : b ≠ 0) (hd : d ≠ 0) : Rat.divInt (a * d + c * b) (b * d) = Rat.divInt a b + Rat.divInt c d := (Rat.divInt_add_divInt a c hb hd).symm
theorem divInt_sub {a b c d : Int} (hb : b ≠ 0) (hd : d ≠ 0) : Rat.divInt (a * d - c * b) (b * d) = Rat.divInt a b - Rat.divInt c d := (Rat.divInt_sub_divInt a c hb hd).symm
theorem Fr.add {a b : Nat} {v w : PV} {x y : Rat} (h : Fr a v x) (k : Fr b w y) : Bd (a + b + 1) (x + y) ∧ Bd (a + b + 1) (x - y) := by
  obtain ⟨n, d, _, h1, h2, h3, rfl⟩ := h
  obtain ⟨m, e, _, k1, k2, k3, rfl⟩ := k
  obtain ⟨z1, z2, z3⟩ := two_mul_abs h2 h3 k2 k3
  have nz : d * e ≠ 0 := Int.mul_ne_zero (by omega) (by omega)
  rw [← divInt_add (by omega) (by omega), ← divInt_sub (by omega) (by omega)]
  exact ⟨.of_divInt nz z1 z3, .of_divInt nz z2 z3⟩
theorem Bd.add {a b : Nat} {x y : Rat} (h : Bd a x) (k : Bd b y) : Bd (a + b + 1) (x + y) := (h.fr.add k.fr).1
theorem Bd.sub {a b : Nat} {x y : Rat} (h : Bd a x) (k : Bd b y) : Bd (a + b + 1) (x - y) := (h.fr.add k.fr).2
def sp__law_plus : PSpec
  | [a, b], st, Q, _ => ∃ x y : Rat, Fr 3900 a x ∧ Fr 3900 b y ∧ Q (ratV (x + y)) st
  | _, _, _, _ => False
def b__law_plus : Ss :=
  (.cons (.ret (.call "_law_ratio" sp__law_ratio (.cons (.bin .Add false (.bin .Mult false (.idx (.var 0) (.int 0)) (.idx (.var 1) (.int 1))) (.bin .Mult false (.idx (.var 1) (.int 0)) (.idx (.var 0) (.int 1)))) (.cons (.bin .Mult false (.idx (.var 0) (.int 1)) (.idx (.var 1) (.int 1))) .nil)))) .nil)
def n__law_plus : List Str := ["a", "b"]

theorem w__law_plus : ∀ vs s Q X, vs.length = 2 → sp__law_plus vs s Q X → wpFn n__law_plus.length b__law_plus vs s Q X := by
  intro vs s Q X hl h
  unfold sp__law_plus at h
  split at h
  · rename_i a b
    rw [fn_eq]
    unfold b__law_plus n__law_plus
    obtain ⟨x, y, ⟨n, d, rfl, h1, h2, h3, rfl⟩, ⟨m, e, rfl, k1, k2, k3, rfl⟩, h⟩ := h
    simp_all only [ss_nil]
    refine ⟨Sz.ok h2 k3, Sz.ok k2 h3, Sz.ok h3 k3, callS_of ⟨Int.mul_ne_zero (by omega) (by omega), Sz.mulSm h3 k3, s, .rfl, ?_⟩⟩
    rw [divInt_add (by omega) (by omega)]
    exact h
  · exact h.elim
def sp__law_less_by : PSpec
  | [a, b], st, Q, _ => ∃ x y : Rat, Fr 3900 a x ∧ Fr 3900 b y ∧ Q (ratV (x - y)) st
  | _, _, _, _ => False
def b__law_less_by : Ss :=
  (.cons (.ret (.call "_law_ratio" sp__law_ratio (.cons (.bin .Sub false (.bin .Mult false (.idx (.var 0) (.int 0)) (.idx (.var 1) (.int 1))) (.bin .Mult false (.idx (.var 1) (.int 0)) (.idx (.var 0) (.int 1)))) (.cons (.bin .Mult false (.idx (.var 0) (.int 1)) (.idx (.var 1) (.int 1))) .nil)))) .nil)
def n__law_less_by : List Str := ["a", "b"]

theorem w__law_less_by : ∀ vs s Q X, vs.length = 2 → sp__law_less_by vs s Q X → wpFn n__law_less_by.length b__law_less_by vs s Q X := by
  intro vs s Q X hl h
  unfold sp__law_less_by at h
  split at h
  · rename_i a b
    rw [fn_eq]
    unfold b__law_less_by n__law_less_by
    obtain ⟨x, y, ⟨n, d, rfl, h1, h2, h3, rfl⟩, ⟨m, e, rfl, k1, k2, k3, rfl⟩, h⟩ := h
    simp_all only [ss_nil]
    refine ⟨Sz.ok h2 k3, Sz.ok k2 h3, Sz.ok h3 k3, callS_of ⟨Int.mul_ne_zero (by omega) (by omega), Sz.mulSm h3 k3, s, .rfl, ?_⟩⟩
    rw [divInt_sub (by omega) (by omega)]
    exact h
  · exact h.elim
/-- a wide number: below 10 ** 40 -/
def sp__law_wide : PSpec
  | [.ref p], st, Q, _ => st p = some .pool ∧ ∀ r : Int, 0 ≤ r → r < 10 ^ 40 → Q (.int r) st
  | _, _, _, _ => False
def b__law_wide_1 : Ss :=
  (.cons (.asg (.name 1) (.bin .Add false (.bin .Mult false (.var 1) (.bin .Pow false (.int 10) (.int 7))) (.call "_law_draw" sp__law_draw (.cons (.var 0) (.cons (.bin .Pow false (.int 10) (.int 7)) .nil))))) .nil)
def b__law_wide : Ss :=
  (.cons (.asg (.name 1) (.call "_law_draw" sp__law_draw (.cons (.var 0) (.cons (.bin .Pow false (.int 10) (.int 5)) .nil)))) (.cons (.loop (.name 2) (.range1 (.int 5)) b__law_wide_1) (.cons (.ret (.var 1)) .nil)))
def n__law_wide : List Str := ["pool", "told", "turn"]

theorem w__law_wide : ∀ vs s Q X, vs.length = 1 → sp__law_wide vs s Q X → wpFn n__law_wide.length b__law_wide vs s Q X := by
  intro vs s Q X hl h
  unfold sp__law_wide at h
  split at h
  · rename_i p
    rw [fn_eq]
    unfold b__law_wide n__law_wide
    obtain ⟨hp, h⟩ := h
    simp_all only [ss_nil]
    refine ⟨by unfold CPow; decide, callS_of ⟨hp, .of (by decide), fun r r0 r1 _ => ?_⟩⟩
    have r1 := r1 (by decide)
    simp_all only [ss_nil]
    (first | rw [Nx_eq] | rw [Arm_eq] | skip); (try simp_all only [ss_nil])
    refine ⟨by unfold R62; decide, ?_⟩
    refine for_at (fun i τ st => st = s ∧ ∃ (z : Int) (o : Option PV), τ = [some (.ref p), some (.int z), o] ∧ 0 ≤ z ∧ z < 10 ^ (5 + 7 * i)) ?_ ?_ ⟨rfl, r, none, rfl, r0, by simpa using r1⟩
    · rintro i x τ st hi ⟨rfl, z, o, rfl, z0, z1⟩
      have hi5 : i < 5 := by
        have := (List.getElem?_eq_some_iff.mp hi).1
        simpa [rngL] using this
      unfold b__law_wide_1
      refine ⟨trivial, ?_⟩
      simp_all only [ss_nil]
      refine ⟨by unfold CPow; decide, CMul.ok (by unfold CMul; omega), by unfold CPow; decide, callS_of ⟨hp, .of (by decide), fun u u0 u1 _ => ?_⟩⟩
      have u1 := u1 (by decide)
      simp_all only [ss_nil]
      (first | rw [Nx_eq] | rw [Arm_eq] | skip); (try simp_all only [ss_nil])
      refine ⟨_, _, rfl, by omega, ?_⟩
      have e : (10 : Int) ^ (5 + 7 * (i + 1)) = 10 ^ (5 + 7 * i) * 10000000 := by
        rw [show 5 + 7 * (i + 1) = (5 + 7 * i) + 7 by omega, Int.pow_add]; rfl
      rw [e]
      have := Int.mul_le_mul_of_nonneg_right (show z + 1 ≤ 10 ^ (5 + 7 * i) by omega) (show (0 : Int) ≤ 10000000 by decide)
      omega
    · rintro τ st ⟨rfl, z, o, rfl, z0, z1⟩
      refine ⟨trivial, ?_⟩
      simp_all only [ss_nil]
      (first | rw [Nx_eq] | rw [Arm_eq] | skip); (try simp_all only [ss_nil])
      exact ⟨st, .rfl, h z z0 (by simpa [rngL] using z1)⟩
  · exact h.elim

/-- a number of the law: at most 10 ** 40 away from 0 -/
def sp__law_number : PSpec
  | [.ref p], st, Q, _ => st p = some .pool ∧ ∀ r : Int, -(10 ^ 40) ≤ r → r ≤ 10 ^ 40 → Q (.int r) st
  | _, _, _, _ => False
def b__law_number : Ss :=
  (.cons (.asg (.name 1) (.call "_law_draw" sp__law_draw (.cons (.var 0) (.cons (.int 8) .nil)))) (.cons (.asg (.name 2) (.call "_law_draw" sp__law_draw (.cons (.var 0) (.cons (.int 13) .nil)))) (.cons (.ite (.bools .Or (.cons (.cmp .Eq (.var 1) (.int 3)) (.cons (.cmp .Eq (.var 1) (.int 4)) .nil))) (.cons (.asg (.name 2) (.call "_law_draw" sp__law_draw (.cons (.var 0) (.cons (.int 1000) .nil)))) .nil) (.cons (.ite (.cmp .Eq (.var 1) (.int 5)) (.cons (.asg (.name 2) (.bin .Add false (.bin .Pow false (.int 10) (.int 6)) (.call "_law_draw" sp__law_draw (.cons (.var 0) (.cons (.bin .Mult false (.int 9) (.bin .Pow false (.int 10) (.int 6))) .nil))))) .nil) (.cons (.ite (.cmp .Eq (.var 1) (.int 6)) (.cons (.asg (.name 2) (.call "_law_wide" sp__law_wide (.cons (.var 0) .nil))) .nil) (.cons (.ite (.cmp .Eq (.var 1) (.int 7)) (.cons (.asg (.name 2) (.bin .Sub false (.bin .Sub false (.call "_law_pick" sp__law_pick (.cons (.var 0) (.cons (.lst false (.cons (.bin .Pow false (.int 10) (.int 39)) (.cons (.bin .Pow false (.int 10) (.int 40)) .nil))) .nil))) (.int 1)) (.var 2))) .nil) .nil) .nil)) .nil)) .nil)) (.cons (.ite (.cmp .Eq (.call "_law_draw" sp__law_draw (.cons (.var 0) (.cons (.int 2) .nil))) (.int 1)) (.cons (.ret (.neg (.var 2))) .nil) .nil) (.cons (.ret (.var 2)) .nil)))))
def n__law_number : List Str := ["pool", "way", "told"]

theorem w__law_number : ∀ vs s Q X, vs.length = 1 → sp__law_number vs s Q X → wpFn n__law_number.length b__law_number vs s Q X := by
  intro vs s Q X hl h
  unfold sp__law_number at h
  split at h
  · rename_i p
    rw [fn_eq]
    unfold b__law_number n__law_number
    obtain ⟨hp, h⟩ := h
    simp_all only [ss_nil]
    refine callS_of ⟨hp, .of (by decide), fun way w0 w1 _ => ?_⟩
    simp_all only [ss_nil]
    (first | rw [Nx_eq] | rw [Arm_eq] | skip); (try simp_all only [ss_nil])
    refine callS_of ⟨hp, .of (by decide), fun t t0 t1 _ => ?_⟩
    have t1 := t1 (by decide)
    simp_all only [ss_nil]
    -- what comes last
    have fin : ∀ z : Int, 0 ≤ z → z ≤ 10 ^ 40 → Nx (.cons (.ite (.cmp .Eq (.call "_law_draw" sp__law_draw (.cons (.var 0) (.cons (.int 2) .nil))) (.int 1)) (.cons (.ret (.neg (.var 2))) .nil) .nil) (.cons (.ret (.var 2)) .nil)) (fnEnds Q X) [some (.ref p), some (.int way), some (.int z)] s := by
      intro z z0 z1
      (first | rw [Nx_eq] | rw [Arm_eq] | skip); (try simp_all only [ss_nil])
      refine callS_of ⟨hp, .of (by decide), fun u u0 u1 _ => ?_⟩
      simp_all only [ss_nil]
      split
      · (first | rw [Nx_eq] | rw [Arm_eq] | skip); (try simp_all only [ss_nil])
        exact ⟨s, .rfl, h _ (by omega) (by omega)⟩
      · (first | rw [Nx_eq] | rw [Arm_eq] | skip); (try simp_all only [ss_nil, Nx_eq])
        exact ⟨s, .rfl, h _ (by omega) (by omega)⟩
    (first | rw [Nx_eq] | rw [Arm_eq] | skip); (try simp_all only [ss_nil])
    have dr : ∀ (z : Int) (τ : Sl) (K : PQ) (X : EQ), Sm z → (∀ u, 0 ≤ u → (2 ≤ z → u < z) → K (.int u) s) → callS sp__law_draw [.ref p, .int z] s X K := fun z τ K X hz hk => callS_of ⟨hp, hz, fun u u0 u1 _ => hk u u0 u1⟩
    split
    · (first | rw [Nx_eq] | rw [Arm_eq] | skip); (try simp_all only [ss_nil])
      refine dr _ [] _ _ (.of (by decide)) fun u u0 u1 => ?_
      have u1 := u1 (by decide)
      simp_all only [ss_nil]
      (first | rw [Nx_eq] | rw [Arm_eq] | skip); (try simp_all only [ss_nil])
      first | exact fin _ (by omega) (by omega) | (simp only [Nx_nil, nxt_nx]; exact fin _ (by omega) (by omega))
    · split
      · (first | rw [Nx_eq] | rw [Arm_eq] | skip); (try simp_all only [ss_nil])
        refine dr _ [] _ _ (.of (by decide)) fun u u0 u1 => ?_
        have u1 := u1 (by decide)
        simp_all only [ss_nil]
        (first | rw [Nx_eq] | rw [Arm_eq] | skip); (try simp_all only [ss_nil])
        first | exact fin _ (by omega) (by omega) | (simp only [Nx_nil, nxt_nx]; exact fin _ (by omega) (by omega))
      · (first | rw [Nx_eq] | rw [Arm_eq] | skip); (try simp_all only [ss_nil])
        split
        · (first | rw [Nx_eq] | rw [Arm_eq] | skip); (try simp_all only [ss_nil])
          refine ⟨by unfold CPow; decide, by unfold CPow; decide, CMul.ok (by unfold CMul; omega), ?_⟩
          refine dr _ [] _ _ (.of (by decide)) fun u u0 u1 => ?_
          have u1 := u1 (by decide)
          simp_all only [ss_nil]
          (first | rw [Nx_eq] | rw [Arm_eq] | skip); (try simp_all only [ss_nil])
          first | exact fin _ (by omega) (by omega) | (simp only [Nx_nil, nxt_nx]; exact fin _ (by omega) (by omega))
        · (first | rw [Nx_eq] | rw [Arm_eq] | skip); (try simp_all only [ss_nil])
          split
          · (first | rw [Nx_eq] | rw [Arm_eq] | skip); (try simp_all only [ss_nil])
            refine callS_of ⟨hp, fun u u0 u1 => ?_⟩
            simp_all only [ss_nil]
            (first | rw [Nx_eq] | rw [Arm_eq] | skip); (try simp_all only [ss_nil])
            first | exact fin _ (by omega) (by omega) | (simp only [Nx_nil, nxt_nx]; exact fin _ (by omega) (by omega))
          · (first | rw [Nx_eq] | rw [Arm_eq] | skip); (try simp_all only [ss_nil])
            split
            · (first | rw [Nx_eq] | rw [Arm_eq] | skip); (try simp_all only [ss_nil])
              refine ⟨by unfold CPow; decide, by unfold CPow; decide, by decide, callS_of ⟨hp, ?_, by decide, fun i v hv => ?_⟩⟩
              · simp
              · have hv' : v = .int (10 ^ 39) ∨ v = .int (10 ^ 40) := by
                  match i, hv with
                  | 0, e => exact .inl (by simpa using e.symm)
                  | 1, e => exact .inr (by simpa using e.symm)
                  | i + 2, e => simp at e
                rcases hv' with rfl | rfl
                · simp_all only [ss_nil]
                  (first | rw [Nx_eq] | rw [Arm_eq] | skip); (try simp_all only [ss_nil])
                  first | exact fin _ (by omega) (by omega) | (simp only [Nx_nil, nxt_nx]; exact fin _ (by omega) (by omega))
                · simp_all only [ss_nil]
                  (first | rw [Nx_eq] | rw [Arm_eq] | skip); (try simp_all only [ss_nil])
                  first | exact fin _ (by omega) (by omega) | (simp only [Nx_nil, nxt_nx]; exact fin _ (by omega) (by omega))
            · (first | rw [Nx_eq] | rw [Arm_eq] | skip); (try simp_all only [ss_nil])
              first | exact fin _ (by omega) (by omega) | (simp only [Nx_nil, nxt_nx]; exact fin _ (by omega) (by omega))
  · exact h.elim
end TK

set_option maxRecDepth 100000
set_option maxHeartbeats 4000000
namespace TK
open PySem PySem.Spec PyProof.Rows L2
/-! ### machines, as plain data -/
inductive Sg where
  | lt | le | eq | ge | gt
deriving DecidableEq
def sgS : Sg → Str
  | .lt => "<" | .le => "<=" | .eq => "=" | .ge => ">=" | .gt => ">"
/-- a test: clock (from 1), sign, number -/
structure Tt where
  c : Nat
  s : Sg
  n : Nat
structure Dd where
  letter : Str
  src : Nat
  guard : List Tt
  backs : List Nat
  tgt : Nat
  price : Nat
structure Mc where
  k : Nat
  rooms : List (List Tt × Nat)
  deeds : List Dd
def tV (t : Tt) : PV := .tup [.int t.c, .str (sgS t.s), .int t.n]
def rmV (r : List Tt × Nat) : PV := .tup [.tup (r.1.map tV), .int r.2]
def dV (d : Dd) : PV := .tup [.str d.letter, .int d.src, .tup (d.guard.map tV), .tup (d.backs.map fun (b : Nat) => .int (b : Int)), .int d.tgt, .int d.price]
def mV (m : Mc) : PV := .tup [.int m.k, .tup (m.rooms.map rmV), .tup (m.deeds.map dV)]
/-- a test against a value -/
def sgH (s : Sg) (r : Rat) (n : Nat) : Bool := match s with
  | .lt => decide (r < ((n : Int) : Rat))
  | .le => decide (r ≤ ((n : Int) : Rat))
  | .eq => decide (r = ((n : Int) : Rat))
  | .ge => decide (((n : Int) : Rat) ≤ r)
  | .gt => decide (((n : Int) : Rat) < r)
def Tt.ok (k : Nat) (t : Tt) : Prop := 1 ≤ t.c ∧ t.c ≤ k ∧ t.n ≤ 1000
def Tt.holds (vals : List Rat) (t : Tt) : Bool := sgH t.s (vals.getD (t.c - 1) 0) t.n
/-- the values of the clocks -/
def vsV (vals : List Rat) : PV := .tup (vals.map ratV)
def VB (b : Nat) (vals : List Rat) : Prop := ∀ r ∈ vals, Bd b r
theorem divInt_lt_iff {n d e : Int} (h : 0 < d) : ((e : Rat) < Rat.divInt n d) ↔ e * d < n := by
  have hd : (0 : Rat) < (d : Rat) := Rat.intCast_pos.mpr h
  rw [Rat.divInt_eq_div, Rat.lt_div_iff hd, ← Rat.intCast_mul, Rat.intCast_lt_intCast]
theorem divInt_lt_iff' {n d e : Int} (h : 0 < d) : (Rat.divInt n d < (e : Rat)) ↔ n < e * d := by
  have hd : (0 : Rat) < (d : Rat) := Rat.intCast_pos.mpr h
  rw [Rat.divInt_eq_div, Rat.div_lt_iff hd, ← Rat.intCast_mul, Rat.intCast_lt_intCast]
/-- a comparison with a whole number, as the program makes it -/
def sp_compared : PSpec
  | [v, .str x, .int n], st, Q, _ => ∃ (r : Rat) (s : Sg) (m : Nat), Fr 3900 v r ∧ x = sgS s ∧ n = m ∧ m ≤ 1000 ∧ Q (.bl (sgH s r m)) st
  | _, _, _, _ => False
theorem sg_iff (s : Sg) : (sgS s = ("<" : Str) ↔ s = .lt) ∧ (sgS s = ("<=" : Str) ↔ s = .le) ∧ (sgS s = ("=" : Str) ↔ s = .eq) ∧ (sgS s = (">=" : Str) ↔ s = .ge) := by
  cases s <;> decide
def b_compared : Ss :=
  (.cons (.asg (.name 3) (.idx (.var 0) (.int 0))) (.cons (.asg (.name 4) (.bin .Mult false (.var 2) (.idx (.var 0) (.int 1)))) (.cons (.ite (.cmp .Eq (.var 1) (.str "<")) (.cons (.ret (.cmp .Lt (.var 3) (.var 4))) .nil) .nil) (.cons (.ite (.cmp .Eq (.var 1) (.str "<=")) (.cons (.ret (.cmp .LtE (.var 3) (.var 4))) .nil) .nil) (.cons (.ite (.cmp .Eq (.var 1) (.str "=")) (.cons (.ret (.cmp .Eq (.var 3) (.var 4))) .nil) .nil) (.cons (.ite (.cmp .Eq (.var 1) (.str ">=")) (.cons (.ret (.cmp .GtE (.var 3) (.var 4))) .nil) .nil) (.cons (.ret (.cmp .Gt (.var 3) (.var 4))) .nil)))))))
def n_compared : List Str := ["value", "sign", "number", "left", "right"]
theorem w_compared : ∀ vs s Q X, vs.length = 3 → sp_compared vs s Q X → wpFn n_compared.length b_compared vs s Q X := by
  intro vs s Q X hl h
  unfold sp_compared at h
  split at h
  · rename_i v x n
    rw [fn_eq]
    unfold b_compared n_compared
    obtain ⟨r, sg, m, ⟨a, d, rfl, h1, h2, h3, rfl⟩, rfl, rfl, hm, h⟩ := h
    obtain ⟨g1, g2, g3, g4⟩ := sg_iff sg
    have mk : IntMulOk (m : Int) d := CMul.ok (.inl ⟨by omega, by omega⟩)
    have e1 := @divInt_lt_iff' a d m h1
    have e2 := @divInt_lt_iff a d m h1
    have e3 : (Rat.divInt a d ≤ ((m : Int) : Rat)) ↔ a ≤ m * d := by rw [← Rat.not_lt, e2, Int.not_lt]
    have e4 : (((m : Int) : Rat) ≤ Rat.divInt a d) ↔ m * d ≤ a := by rw [← Rat.not_lt, e1, Int.not_lt]
    have e5 : (Rat.divInt a d = ((m : Int) : Rat)) ↔ a = m * d := ⟨fun e => Int.le_antisymm (e3.mp (by rw [e]; exact Rat.le_refl)) (e4.mp (by rw [e]; exact Rat.le_refl)), fun e => Rat.le_antisymm (e3.mpr (by omega)) (e4.mpr (by omega))⟩
    simp_all only [ss_nil]
    (first | rw [Nx_eq] | rw [Arm_eq] | skip); (try simp_all only [ss_nil])
    refine ⟨mk, ?_⟩
    (first | rw [Nx_eq] | rw [Arm_eq] | skip); (try simp_all only [ss_nil])
    (first | rw [Nx_eq] | rw [Arm_eq] | skip); (try simp_all only [ss_nil])
    cases sg <;> unfold sgH at h <;> simp only [e1, e2, e3, e4, e5] at h
    · simp_all only [ss_nil, g1, Arm_eq]
      exact ⟨s, .rfl, h⟩
    · simp_all only [ss_nil, g1, g2, Arm_eq, Nx_eq]
      exact ⟨s, .rfl, h⟩
    · simp_all only [ss_nil, g1, g2, g3, Arm_eq, Nx_eq]
      exact ⟨s, .rfl, h⟩
    · simp_all only [ss_nil, g1, g2, g3, g4, Arm_eq, Nx_eq]
      exact ⟨s, .rfl, h⟩
    · simp_all only [ss_nil, g1, g2, g3, g4, Arm_eq, Nx_eq]
      exact ⟨s, .rfl, h⟩
  · exact h.elim
end TK

set_option maxRecDepth 100000
set_option maxHeartbeats 4000000
namespace TK
open PySem PySem.Spec PyProof.Rows L2
/-! ### the program's own reckoning: as the law's -/
def sp_common_factor : PSpec
  | [.int a, .int b], st, Q, _ => Q (.int (Int.gcd a b)) st
  | _, _, _, _ => False
def b_common_factor_1 : Ss :=
  (.cons (.asg (.name 2) (.bin .Mod false (.blt .int false (.cons (.var 0) .nil)) (.var 1))) (.cons (.asg (.name 0) (.var 1)) (.cons (.asg (.name 1) (.var 2)) .nil)))
def b_common_factor : Ss :=
  (.cons (.asg (.name 0) (.blt .abs false (.cons (.var 0) .nil))) (.cons (.asg (.name 1) (.blt .abs false (.cons (.var 1) .nil))) (.cons (.while (.cmp .Gt (.var 1) (.int 0)) b_common_factor_1) (.cons (.ret (.var 0)) .nil))))
def n_common_factor : List Str := ["a", "b", "rest"]

theorem w_common_factor : ∀ vs s Q X, vs.length = 2 → sp_common_factor vs s Q X → wpFn n_common_factor.length b_common_factor vs s Q X := by
  intro vs s Q X hl h
  unfold sp_common_factor at h
  split at h
  · rename_i a b
    rw [fn_eq]
    unfold b_common_factor n_common_factor
    have ab : ∀ z : Int, (if z < 0 then -z else z) = (z.natAbs : Int) := fun z => by split <;> omega
    simp_all only [ss_nil, ab]
    (first | rw [Nx_eq] | rw [Arm_eq] | skip); (try simp_all only [ss_nil, ab])
    (first | rw [Nx_eq] | rw [Arm_eq] | skip); (try simp_all only [ss_nil])
    refine while_ind (fun n τ st => ∃ (x y : Nat) (o : Option PV), τ = [some (.int x), some (.int y), o] ∧ st = s ∧ y = n ∧ Nat.gcd x y = Int.gcd a b) ?_ b.natAbs ⟨a.natAbs, b.natAbs, none, rfl, rfl, rfl, rfl⟩
    rintro n τ st ⟨x, y, o, rfl, rfl, rfl, hg⟩
    simp_all only [ss_nil]
    split
    · rename_i hy
      have hy' : 0 < y := by omega
      unfold b_common_factor_1
      simp_all only [ss_nil]
      refine ⟨by omega, ?_⟩
      (first | rw [Nx_eq] | rw [Arm_eq] | skip); (try simp_all only [ss_nil])
      (first | rw [Nx_eq] | rw [Arm_eq] | skip); (try simp_all only [ss_nil, Nx_eq])
      refine ⟨x % y, Nat.mod_lt _ hy', y, x % y, some (.int (x % y : Nat)), by rw [fmod_gcd x y hy'], rfl, ?_⟩
      rw [← hg, Nat.gcd_comm x y, Nat.gcd_rec y x, Nat.gcd_comm]
    · rename_i hy
      have : y = 0 := by omega
      subst this
      (first | rw [Nx_eq] | rw [Arm_eq] | skip); (try simp_all only [ss_nil])
      rw [Nat.gcd_zero_right] at hg
      subst hg
      exact ⟨st, .rfl, h⟩
  · exact h.elim
def sp_lowest_terms : PSpec
  | [.int n, .int d], st, Q, _ => d ≠ 0 ∧ Sm d ∧ Q (ratV (Rat.divInt n d)) st
  | _, _, _, _ => False
def b_lowest_terms : Ss :=
  (.cons (.ite (.cmp .Lt (.var 1) (.int 0)) (.cons (.asg (.name 0) (.neg (.var 0))) (.cons (.asg (.name 1) (.neg (.var 1))) .nil)) .nil) (.cons (.asg (.name 2) (.call "common_factor" sp_common_factor (.cons (.var 0) (.cons (.var 1) .nil)))) (.cons (.ret (.tup (.cons (.bin .FloorDiv false (.var 0) (.var 2)) (.cons (.bin .FloorDiv false (.var 1) (.var 2)) .nil)))) .nil)))
def n_lowest_terms : List Str := ["n", "d", "factor"]

theorem w_lowest_terms : ∀ vs s Q X, vs.length = 2 → sp_lowest_terms vs s Q X → wpFn n_lowest_terms.length b_lowest_terms vs s Q X := by
  intro vs s Q X hl h
  unfold sp_lowest_terms at h
  split at h
  · rename_i n d
    rw [fn_eq]
    unfold b_lowest_terms n_lowest_terms
    obtain ⟨h0, hs, h⟩ := h
    have key : ∀ n d : Int, 0 < d → Sm d → Q (ratV (Rat.divInt n d)) s → wpSs (.cons (.asg (.name 2) (.call "common_factor" sp_common_factor (.cons (.var 0) (.cons (.var 1) .nil)))) (.cons (.ret (.tup (.cons (.bin .FloorDiv false (.var 0) (.var 2)) (.cons (.bin .FloorDiv false (.var 1) (.var 2)) .nil)))) .nil)) (fnEnds Q X) [some (.int n), some (.int d), none] s := by
      intro n d hd hs h
      simp_all only [ss_nil]
      refine callS_of ?_
      unfold sp_common_factor
      simp_all only [ss_nil]
      have hg0 : 0 < Int.gcd n d := Int.gcd_pos_of_ne_zero_right _ (by omega)
      have hg1 : Int.gcd n d ≤ d.natAbs := Int.gcd_le_natAbs_right _ (by omega)
      have hdv : DivOk (Int.gcd n d) := Sm.div (Nat.lt_of_le_of_lt (by simpa using hg1) hs) (by omega)
      (first | rw [Nx_eq] | rw [Arm_eq] | skip); (try simp_all only [ss_nil])
      refine ⟨hdv, hdv, by decide, s, .rfl, ?_⟩
      have e1 : n.fdiv (Int.gcd n d) = (Rat.divInt n d).num := by
        rw [Rat.num_divInt, Int.sign_eq_one_of_pos hd, Int.one_mul, Int.gcd_comm, Int.fdiv_eq_ediv_of_nonneg _ (by omega)]
      have e2 : d.fdiv (Int.gcd n d) = ((Rat.divInt n d).den : Int) := by
        rw [Rat.den_divInt, if_neg (by omega), Int.gcd_comm, Int.fdiv_eq_ediv_of_nonneg _ (by omega)]
        rw [Int.natCast_ediv]
        congr 1
        omega
      rw [e1, e2]
      exact h
    simp_all only [ss_nil]
    split
    · rename_i hd
      (first | rw [Nx_eq] | rw [Arm_eq] | skip); (try simp_all only [ss_nil])
      (first | rw [Nx_eq] | rw [Arm_eq] | skip); (try simp_all only [ss_nil])
      (first | rw [Nx_eq] | rw [Arm_eq] | skip); (try simp_all only [ss_nil])
      rw [Nx_eq]
      refine key (-n) (-d) (by omega) (by unfold Sm at hs ⊢; omega) ?_
      rw [Rat.neg_divInt_neg]
      exact h
    · (first | rw [Nx_eq] | rw [Arm_eq] | skip); (try simp_all only [ss_nil])
      rw [Nx_eq]
      exact key n d (by omega) hs h
  · exact h.elim

def sp_plus : PSpec
  | [a, b], st, Q, _ => ∃ x y : Rat, Fr 3900 a x ∧ Fr 3900 b y ∧ Q (ratV (x + y)) st
  | _, _, _, _ => False
def b_plus : Ss :=
  (.cons (.ret (.call "lowest_terms" sp_lowest_terms (.cons (.bin .Add false (.bin .Mult false (.idx (.var 0) (.int 0)) (.idx (.var 1) (.int 1))) (.bin .Mult false (.idx (.var 1) (.int 0)) (.idx (.var 0) (.int 1)))) (.cons (.bin .Mult false (.idx (.var 0) (.int 1)) (.idx (.var 1) (.int 1))) .nil)))) .nil)
def n_plus : List Str := ["a", "b"]

theorem w_plus : ∀ vs s Q X, vs.length = 2 → sp_plus vs s Q X → wpFn n_plus.length b_plus vs s Q X := by
  intro vs s Q X hl h
  unfold sp_plus at h
  split at h
  · rename_i a b
    rw [fn_eq]
    unfold b_plus n_plus
    obtain ⟨x, y, ⟨n, d, rfl, h1, h2, h3, rfl⟩, ⟨m, e, rfl, k1, k2, k3, rfl⟩, h⟩ := h
    simp_all only [ss_nil]
    refine ⟨Sz.ok h2 k3, Sz.ok k2 h3, Sz.ok h3 k3, callS_of ⟨Int.mul_ne_zero (by omega) (by omega), Sz.mulSm h3 k3, s, .rfl, ?_⟩⟩
    rw [divInt_add (by omega) (by omega)]
    exact h
  · exact h.elim
def sp__law_compare : PSpec
  | [v, .str x, .int n], st, Q, _ => ∃ (r : Rat) (s : Sg) (m : Nat), Fr 3900 v r ∧ x = sgS s ∧ n = m ∧ m ≤ 1000 ∧ Q (.bl (sgH s r m)) st
  | _, _, _, _ => False
def b__law_compare : Ss :=
  (.cons (.asg (.name 3) (.idx (.var 0) (.int 0))) (.cons (.asg (.name 4) (.bin .Mult false (.var 2) (.idx (.var 0) (.int 1)))) (.cons (.ite (.cmp .Eq (.var 1) (.str "<")) (.cons (.ret (.cmp .Lt (.var 3) (.var 4))) .nil) .nil) (.cons (.ite (.cmp .Eq (.var 1) (.str "<=")) (.cons (.ret (.cmp .LtE (.var 3) (.var 4))) .nil) .nil) (.cons (.ite (.cmp .Eq (.var 1) (.str "=")) (.cons (.ret (.cmp .Eq (.var 3) (.var 4))) .nil) .nil) (.cons (.ite (.cmp .Eq (.var 1) (.str ">=")) (.cons (.ret (.cmp .GtE (.var 3) (.var 4))) .nil) .nil) (.cons (.ret (.cmp .Gt (.var 3) (.var 4))) .nil)))))))
def n__law_compare : List Str := ["value", "sign", "number", "left", "right"]
theorem w__law_compare : ∀ vs s Q X, vs.length = 3 → sp__law_compare vs s Q X → wpFn n__law_compare.length b__law_compare vs s Q X := by
  intro vs s Q X hl h
  unfold sp__law_compare at h
  split at h
  · rename_i v x n
    rw [fn_eq]
    unfold b__law_compare n__law_compare
    obtain ⟨r, sg, m, ⟨a, d, rfl, h1, h2, h3, rfl⟩, rfl, rfl, hm, h⟩ := h
    obtain ⟨g1, g2, g3, g4⟩ := sg_iff sg
    have mk : IntMulOk (m : Int) d := CMul.ok (.inl ⟨by omega, by omega⟩)
    have e1 := @divInt_lt_iff' a d m h1
    have e2 := @divInt_lt_iff a d m h1
    have e3 : (Rat.divInt a d ≤ ((m : Int) : Rat)) ↔ a ≤ m * d := by rw [← Rat.not_lt, e2, Int.not_lt]
    have e4 : (((m : Int) : Rat) ≤ Rat.divInt a d) ↔ m * d ≤ a := by rw [← Rat.not_lt, e1, Int.not_lt]
    have e5 : (Rat.divInt a d = ((m : Int) : Rat)) ↔ a = m * d := ⟨fun e => Int.le_antisymm (e3.mp (by rw [e]; exact Rat.le_refl)) (e4.mp (by rw [e]; exact Rat.le_refl)), fun e => Rat.le_antisymm (e3.mpr (by omega)) (e4.mpr (by omega))⟩
    simp_all only [ss_nil]
    (first | rw [Nx_eq] | rw [Arm_eq] | skip); (try simp_all only [ss_nil])
    refine ⟨mk, ?_⟩
    (first | rw [Nx_eq] | rw [Arm_eq] | skip); (try simp_all only [ss_nil])
    (first | rw [Nx_eq] | rw [Arm_eq] | skip); (try simp_all only [ss_nil])
    cases sg <;> unfold sgH at h <;> simp only [e1, e2, e3, e4, e5] at h
    · simp_all only [ss_nil, g1, Arm_eq]
      exact ⟨s, .rfl, h⟩
    · simp_all only [ss_nil, g1, g2, Arm_eq, Nx_eq]
      exact ⟨s, .rfl, h⟩
    · simp_all only [ss_nil, g1, g2, g3, Arm_eq, Nx_eq]
      exact ⟨s, .rfl, h⟩
    · simp_all only [ss_nil, g1, g2, g3, g4, Arm_eq, Nx_eq]
      exact ⟨s, .rfl, h⟩
    · simp_all only [ss_nil, g1, g2, g3, g4, Arm_eq, Nx_eq]
      exact ⟨s, .rfl, h⟩
  · exact h.elim
end TK

set_option maxRecDepth 100000
set_option maxHeartbeats 4000000
namespace TK
open PySem PySem.Spec PyProof.Rows L2
/-! ### tests against values -/
theorem vs_get {b : Nat} {vals : List Rat} (hv : VB b vals) {t : Tt} (ht : t.ok vals.length) : atI (vals.map ratV) ((t.c : Int) - 1) = some (ratV (vals.getD (t.c - 1) 0)) ∧ Bd b (vals.getD (t.c - 1) 0) := by
  obtain ⟨h1, h2, _⟩ := ht
  have hl : t.c - 1 < vals.length := by omega
  have e : ((t.c : Int) - 1) = ((t.c - 1 : Nat) : Int) := by omega
  have eg : vals.getD (t.c - 1) 0 = vals[t.c - 1] := by rw [List.getD_eq_getElem?_getD, List.getElem?_eq_getElem hl]; rfl
  rw [e, atI_nat, List.getElem?_map, List.getElem?_eq_getElem hl, eg]
  exact ⟨rfl, hv _ (List.getElem_mem hl)⟩
def sp_meets : PSpec
  | [a, b], st, Q, _ => ∃ (t : Tt) (vals : List Rat), a = tV t ∧ b = vsV vals ∧ t.ok vals.length ∧ VB 3900 vals ∧ Q (.bl (t.holds vals)) st
  | _, _, _, _ => False
def b_meets : Ss :=
  (.cons (.ret (.call "compared" sp_compared (.cons (.idx (.var 1) (.bin .Sub false (.idx (.var 0) (.int 0)) (.int 1))) (.cons (.idx (.var 0) (.int 1)) (.cons (.idx (.var 0) (.int 2)) .nil))))) .nil)
def n_meets : List Str := ["test", "values"]
theorem w_meets : ∀ vs s Q X, vs.length = 2 → sp_meets vs s Q X → wpFn n_meets.length b_meets vs s Q X := by
  intro vs s Q X hl h
  unfold sp_meets at h
  split at h
  · rename_i a b
    rw [fn_eq]
    unfold b_meets n_meets
    obtain ⟨t, vals, rfl, rfl, ht, hv, h⟩ := h
    obtain ⟨e, hb⟩ := vs_get hv ht
    simp_all only [ss_nil, tV, vsV, e]
    exact callS_of ⟨_, t.s, t.n, hb.fr, rfl, rfl, ht.2.2, s, .rfl, h⟩
  · exact h.elim
/-- tests given as a tuple or a list -/
def sp_meets_all : PSpec
  | [.tup xs, b], st, Q, _ => ∃ (ts : List Tt) (vals : List Rat), xs = ts.map tV ∧ b = vsV vals ∧ (∀ t ∈ ts, t.ok vals.length) ∧ ts.length ≤ 10 ^ 6 ∧ VB 3900 vals ∧ Q (.bl (ts.all (Tt.holds vals))) st
  | _, _, _, _ => False
def b_meets_all : Ss :=
  (.cons (.ret (.blt .all false (.cons (.comp false [2] (.name 2) (.val (.var 0)) .nil (.call "meets" sp_meets (.cons (.var 2) (.cons (.var 1) .nil)))) .nil))) .nil)
def n_meets_all : List Str := ["tests", "values", "test"]
theorem bls_of : ∀ bs : List Bool, blsOf (bs.map PV.bl) = some bs
  | [] => rfl
  | b :: r => by
    show (blsOf (r.map PV.bl)).map (b :: ·) = _
    rw [bls_of r]; rfl
theorem w_meets_all : ∀ vs s Q X, vs.length = 2 → sp_meets_all vs s Q X → wpFn n_meets_all.length b_meets_all vs s Q X := by
  intro vs s Q X hl h
  unfold sp_meets_all at h
  split at h
  · rename_i xs b
    rw [fn_eq]
    unfold b_meets_all n_meets_all
    obtain ⟨ts, vals, rfl, rfl, hts, hlen, hv, h⟩ := h
    simp_all only [ss_nil]
    refine lc_enc (fun t => .bl (t.holds vals)) ts (fun τ1 st' Q q => by simp_all only [ss_nil]; exact q) (fun t ht => ⟨_, rfl, fun st' sub K hk => ?_⟩) ?_
    · simp_all only [ss_nil]
      exact callS_of ⟨t, vals, rfl, rfl, hts t ht, hv, hk⟩
    have e : (ts.map fun t => PV.bl (t.holds vals)) = (ts.map (Tt.holds vals)).map PV.bl := by rw [List.map_map]; rfl
    simp_all only [ss_nil, e, bls_of]
    refine ⟨s, .rfl, ?_⟩
    have e2 : (ts.map (Tt.holds vals)).all id = ts.all (Tt.holds vals) := by rw [List.all_map]; rfl
    rw [e2]
    exact h
  · exact h.elim
end TK

set_option maxRecDepth 100000
set_option maxHeartbeats 4000000
namespace TK
open PySem PySem.Spec PyProof.Rows L2
/-! ### steps of a machine -/
structure Mc.ok (m : Mc) : Prop where
  k : m.k ≤ 1000
  rooms : m.rooms ≠ []
  nrooms : m.rooms.length ≤ 1000
  ndeeds : m.deeds.length ≤ 1000
  hold : ∀ r ∈ m.rooms, (∀ t ∈ r.1, t.ok m.k) ∧ r.1.length ≤ 1000
  deed : ∀ d ∈ m.deeds, d.src < m.rooms.length ∧ d.tgt < m.rooms.length ∧ (∀ t ∈ d.guard, t.ok m.k) ∧ d.guard.length ≤ 1000 ∧ d.backs.length ≤ 1000
def Mc.holdOf (m : Mc) (p : Nat) : List Tt := (m.rooms.getD p ([], 0)).1
def stV (x : Nat × List Rat) : PV := .tup [.int x.1, vsV x.2]
def stO : Option (Nat × List Rat) → PV
  | none => .non
  | some x => stV x
theorem Mc.holdOf_ok {m : Mc} (h : m.ok) {p : Nat} (hp : p < m.rooms.length) : (∀ t ∈ m.holdOf p, t.ok m.k) ∧ (m.holdOf p).length ≤ 10 ^ 6 := by
  unfold Mc.holdOf
  rw [List.getD_eq_getElem?_getD, List.getElem?_eq_getElem hp]
  obtain ⟨a, b⟩ := h.hold _ (List.getElem_mem hp)
  exact ⟨a, Nat.le_trans b (by decide)⟩
theorem room_at {m : Mc} {p : Nat} (hp : p < m.rooms.length) : atI (m.rooms.map rmV) (p : Int) = some (.tup [.tup ((m.holdOf p).map tV), .int (m.rooms.getD p ([], 0)).2]) := by
  rw [atI_nat, List.getElem?_map]
  unfold Mc.holdOf
  rw [List.getD_eq_getElem?_getD, List.getElem?_eq_getElem hp]
  rfl
def Mc.wait (m : Mc) (x : Nat × List Rat) (r : Rat) : Option (Nat × List Rat) :=
  if (m.holdOf x.1).all (Tt.holds (x.2.map (· + r))) = true then some (x.1, x.2.map (· + r)) else none
theorem VB.add {a b : Nat} {vals : List Rat} {r : Rat} (h : VB a vals) (k : Bd b r) : VB (a + b + 1) (vals.map (· + r)) := fun x hx => by
  obtain ⟨y, hy, rfl⟩ := List.mem_map.mp hx
  exact (h y hy).add k
theorem VB.mono {a b : Nat} {vals : List Rat} (h : VB a vals) (k : a ≤ b) : VB b vals := fun x hx => (h x hx).mono k
def sp_start_state : PSpec
  | [a], st, Q, _ => ∃ m : Mc, a = mV m ∧ m.k ≤ 1000 ∧ Q (stV (0, List.replicate m.k 0)) st
  | _, _, _, _ => False
def b_start_state : Ss :=
  (.cons (.ret (.tup (.cons (.int 0) (.cons (.blt .tuple false (.cons (.comp false [1] (.name 1) (.range1 (.idx (.var 0) (.int 0))) .nil (.glob "ZERO" (.tup [.int 0, .int 1]))) .nil)) .nil)))) .nil)
def n_start_state : List Str := ["machine", "clock"]
theorem zeros {n : Nat} : ((List.range n).map fun _ => PV.tup [.int 0, .int 1]) = (List.replicate n (0 : Rat)).map ratV := by
  rw [List.map_const', List.length_range, List.map_replicate]; rfl
theorem w_start_state : ∀ vs s Q X, vs.length = 1 → sp_start_state vs s Q X → wpFn n_start_state.length b_start_state vs s Q X := by
  intro vs s Q X hl h
  unfold sp_start_state at h
  split at h
  · rw [fn_eq]
    unfold b_start_state n_start_state
    obtain ⟨m, rfl, hk, h⟩ := h
    simp_all only [ss_nil, mV]
    have sz : 1000 ≤ sizeLine := by decide
    refine ⟨by unfold R62; omega, ?_⟩
    unfold rngL
    refine ⟨by rw [List.length_map, List.length_range]; omega, ?_⟩
    refine lc_enc (fun _ => .tup [.int 0, .int 1]) _ (fun τ1 st' Q q => by simp_all only [ss_nil]; exact q) (fun t ht => ⟨_, rfl, fun st' sub K hk => ?_⟩) ?_
    · simp_all only [ss_nil]
      exact hk
    simp_all only [ss_nil]
    refine ⟨by decide, s, .rfl, ?_⟩
    rw [zeros, Int.toNat_natCast]
    exact h
  · exact h.elim
def sp_waited : PSpec
  | [a, b, c], st, Q, _ => ∃ (m : Mc) (x : Nat × List Rat) (r : Rat), a = mV m ∧ b = stV x ∧ Fr 1500 c r ∧ m.ok ∧ x.1 < m.rooms.length ∧ x.2.length = m.k ∧ VB 1500 x.2 ∧ Q (stO (m.wait x r)) st
  | _, _, _, _ => False
def b_waited : Ss :=
  (.cons (.asg (.tup (.cons (.name 4) (.cons (.name 5) .nil))) (.var 1)) (.cons (.asg (.name 3) (.blt .tuple false (.cons (.comp false [6] (.name 6) (.val (.var 5)) .nil (.call "plus" sp_plus (.cons (.var 6) (.cons (.var 2) .nil)))) .nil))) (.cons (.ite (.not (.val (.call "meets_all" sp_meets_all (.cons (.idx (.idx (.idx (.var 0) (.int 1)) (.var 4)) (.int 0)) (.cons (.var 3) .nil))))) (.cons (.ret .non) .nil) .nil) (.cons (.ret (.tup (.cons (.var 4) (.cons (.var 3) .nil)))) .nil))))
def n_waited : List Str := ["machine", "state", "wait", "later_values", "place", "values", "value"]
theorem w_waited : ∀ vs s Q X, vs.length = 3 → sp_waited vs s Q X → wpFn n_waited.length b_waited vs s Q X := by
  intro vs s Q X hl h
  unfold sp_waited at h
  split at h
  · rename_i a b c
    rw [fn_eq]
    unfold b_waited n_waited
    obtain ⟨m, x, r, rfl, rfl, hr, hm, hp, hx, hv, h⟩ := h
    obtain ⟨p, vals⟩ := x
    have ra := room_at hp
    obtain ⟨h1, h2⟩ := Mc.holdOf_ok hm hp
    simp_all only [ss_nil, mV, stV, vsV]
    (first | rw [Nx_eq] | rw [Arm_eq] | skip); (try simp_all only [ss_nil])
    refine lc_enc (fun y => ratV (y + r)) vals (fun τ1 st' Q q => by simp_all only [ss_nil]; exact q) (fun y hy => ⟨_, rfl, fun st' sub K hk => ?_⟩) ?_
    · simp_all only [ss_nil]
      exact callS_of ⟨y, r, (hv y hy).fr.mono (by decide), hr.mono (by decide), hk⟩
    have e : (vals.map fun y => ratV (y + r)) = (vals.map (· + r)).map ratV := by rw [List.map_map]; rfl
    have vb : VB 3900 (vals.map (· + r)) := (hv.add hr.bd).mono (by decide)
    simp_all only [ss_nil, e]
    (first | rw [Nx_eq] | rw [Arm_eq] | skip); (try simp_all only [ss_nil, ra])
    refine callS_of ⟨m.holdOf p, vals.map (· + r), rfl, rfl, fun t ht => by rw [List.length_map]; have := h1 t ht; rwa [← hx] at this, h2, vb, ?_⟩
    unfold Mc.wait at h
    by_cases hh : (m.holdOf p).all (Tt.holds (vals.map (· + r))) = true
    · rw [if_pos hh] at h
      simp_all only [ss_nil, hh]
      (first | rw [Nx_eq] | rw [Arm_eq] | skip); (try simp_all only [ss_nil])
      (first | rw [Nx_eq] | rw [Arm_eq] | skip); (try simp_all only [ss_nil])
      exact ⟨by decide, s, .rfl, h⟩
    · rw [if_neg hh] at h
      have hf : (m.holdOf p).all (Tt.holds (vals.map (· + r))) = false := by simpa using hh
      simp_all only [ss_nil, hf]
      (first | rw [Nx_eq] | rw [Arm_eq] | skip); (try simp_all only [ss_nil])
      exact ⟨s, .rfl, h⟩
  · exact h.elim
end TK

set_option maxRecDepth 100000
set_option maxHeartbeats 4000000
namespace TK
open PySem PySem.Spec PyProof.Rows L2
/-- the clocks of backs are set to 0 -/
def backV (vals : List Rat) (backs : List Nat) : List Rat := (vals.zipIdx 0).map fun p => if p.2 + 1 ∈ backs then 0 else p.1
theorem backV_len (vals : List Rat) (backs : List Nat) : (backV vals backs).length = vals.length := by
  unfold backV; rw [List.length_map, List.length_zipIdx]
theorem Bd.zero (b : Nat) (h : 0 < b) : Bd b 0 := ⟨Nat.two_pow_pos b, by show 1 < 2 ^ b; exact Nat.one_lt_two_pow (by omega)⟩
theorem VB.back {b : Nat} (hb : 0 < b) {vals : List Rat} (h : VB b vals) (backs : List Nat) : VB b (backV vals backs) := fun x hx => by
  obtain ⟨p, hp, rfl⟩ := List.mem_map.mp hx
  split
  · exact Bd.zero b hb
  · exact h _ (List.fst_mem_of_mem_zipIdx hp)
theorem any_nat (bs : List Nat) (i : Nat) : ((bs.map fun (b : Nat) => PV.int (b : Int)).any fun y => eqv y (.int ((i : Int) + 1))) = decide (i + 1 ∈ bs) := by
  rw [List.any_map]
  induction bs with
  | nil => rfl
  | cons x r ih =>
    rw [List.any_cons, ih]
    have e : eqv (.int (x : Int)) (.int ((i : Int) + 1)) = decide (x = i + 1) := by
      rw [show eqv (.int (x : Int)) (.int ((i : Int) + 1)) = decide ((x : Int) = (i : Int) + 1) by unfold eqv; rfl, decide_eq_decide]
      omega
    show (eqv (.int (x : Int)) (.int ((i : Int) + 1)) || _) = _
    rw [e]
    by_cases h : x = i + 1 <;> by_cases h2 : i + 1 ∈ r <;> simp [h, h2, eq_comm]
    all_goals omega
theorem all_scN (bs : List Nat) : (bs.map fun (b : Nat) => PV.int (b : Int)).all isSc = true := by
  rw [List.all_map, List.all_eq_true]
  intro x _
  rfl
def sp_values_back : PSpec
  | [a, b], st, Q, _ => ∃ (vals : List Rat) (bs : List Nat), a = vsV vals ∧ b = .tup (bs.map fun (b : Nat) => .int (b : Int)) ∧ vals.length ≤ 1000 ∧ Q (vsV (backV vals bs)) st
  | _, _, _, _ => False
def b_values_back : Ss :=
  (.cons (.ret (.blt .tuple false (.cons (.comp false [2, 3] (.tup (.cons (.name 2) (.cons (.name 3) .nil))) (.enum (.var 0)) .nil (.ite (.cmp .In (.bin .Add false (.var 2) (.int 1)) (.var 1)) (.glob "ZERO" (.tup [.int 0, .int 1])) (.var 3))) .nil))) .nil)
def n_values_back : List Str := ["values", "backs", "at", "value"]
theorem w_values_back : ∀ vs s Q X, vs.length = 2 → sp_values_back vs s Q X → wpFn n_values_back.length b_values_back vs s Q X := by
  intro vs s Q X hl h
  unfold sp_values_back at h
  split at h
  · rw [fn_eq]
    unfold b_values_back n_values_back
    obtain ⟨vals, bs, rfl, rfl, hlen, h⟩ := h
    have sz : 1000 ≤ sizeLine := by decide
    simp_all only [ss_nil, vsV]
    refine ⟨by rw [enumL_len, List.length_map]; omega, ?_⟩
    rw [enumL_map]
    refine lc_enc (fun p => ratV (if p.2 + 1 ∈ bs then 0 else p.1)) (vals.zipIdx 0) (fun τ1 st' Q q => by simp_all only [ss_nil]; exact q) (fun p hp => ⟨_, rfl, fun st' sub K hk => ?_⟩) ?_
    · simp_all only [ss_nil, any_nat, all_scN, isSc]
      split
      · rename_i hm
        rw [if_pos hm] at hk
        exact hk
      · rename_i hm
        rw [if_neg hm] at hk
        exact hk
    simp_all only [ss_nil]
    refine ⟨s, .rfl, ?_⟩
    have e : ((vals.zipIdx 0).map fun p => ratV (if p.2 + 1 ∈ bs then 0 else p.1)) = (backV vals bs).map ratV := by unfold backV; rw [List.map_map]; rfl
    rw [e]
    exact h
  · exact h.elim
def ddft : Dd := ⟨"", 0, [], [], 0, 0⟩
def Mc.deedOf (m : Mc) (d : Nat) : Dd := m.deeds.getD d ddft
def Mc.act (m : Mc) (x : Nat × List Rat) (d : Nat) : Option (Nat × List Rat) :=
  if (m.deedOf d).src = x.1 ∧ (m.deedOf d).guard.all (Tt.holds x.2) = true then
    (if (m.holdOf (m.deedOf d).tgt).all (Tt.holds (backV x.2 (m.deedOf d).backs)) = true then some ((m.deedOf d).tgt, backV x.2 (m.deedOf d).backs) else none) else none
theorem deed_at {m : Mc} {d : Nat} (hd : d < m.deeds.length) : atI (m.deeds.map dV) (d : Int) = some (dV (m.deedOf d)) ∧ m.deedOf d ∈ m.deeds := by
  unfold Mc.deedOf
  rw [atI_nat, List.getElem?_map, List.getD_eq_getElem?_getD, List.getElem?_eq_getElem hd]
  exact ⟨rfl, List.getElem_mem hd⟩
def sp_acted : PSpec
  | [a, b, .int d], st, Q, _ => ∃ (m : Mc) (x : Nat × List Rat) (e : Nat), a = mV m ∧ b = stV x ∧ d = e ∧ m.ok ∧ e < m.deeds.length ∧ x.2.length = m.k ∧ VB 1500 x.2 ∧ Q (stO (m.act x e)) st
  | _, _, _, _ => False
def b_acted : Ss :=
  (.cons (.asg (.tup (.cons (.name 5) (.cons (.name 6) .nil))) (.var 1)) (.cons (.asg (.name 3) (.idx (.idx (.var 0) (.int 2)) (.var 2))) (.cons (.ite (.bools .Or (.cons (.cmp .NotEq (.idx (.var 3) (.int 1)) (.var 5)) (.cons (.not (.val (.call "meets_all" sp_meets_all (.cons (.idx (.var 3) (.int 2)) (.cons (.var 6) .nil))))) .nil))) (.cons (.ret .non) .nil) .nil) (.cons (.asg (.name 4) (.call "values_back" sp_values_back (.cons (.var 6) (.cons (.idx (.var 3) (.int 3)) .nil)))) (.cons (.ite (.not (.val (.call "meets_all" sp_meets_all (.cons (.idx (.idx (.idx (.var 0) (.int 1)) (.idx (.var 3) (.int 4))) (.int 0)) (.cons (.var 4) .nil))))) (.cons (.ret .non) .nil) .nil) (.cons (.ret (.tup (.cons (.idx (.var 3) (.int 4)) (.cons (.var 4) .nil)))) .nil))))))
def n_acted : List Str := ["machine", "state", "deed", "told", "new_values", "place", "values"]
theorem atI_5 {α : Type} {x y z u v w : α} {r : List α} : atI (x :: y :: z :: u :: v :: w :: r) 5 = some w := atI_nat (n := 5)
theorem w_acted : ∀ vs s Q X, vs.length = 3 → sp_acted vs s Q X → wpFn n_acted.length b_acted vs s Q X := by
  intro vs s Q X hl h
  unfold sp_acted at h
  split at h
  · rename_i a b d
    rw [fn_eq]
    unfold b_acted n_acted
    obtain ⟨m, x, e, rfl, rfl, rfl, hm, hd, hx, hv, h⟩ := h
    obtain ⟨p, vals⟩ := x
    obtain ⟨da, dm⟩ := deed_at hd
    obtain ⟨d1, d2, d3, d4, d5⟩ := hm.deed _ dm
    unfold Mc.act at h
    revert da dm d1 d2 d3 d4 d5 h
    generalize m.deedOf e = D
    intro h da dm d1 d2 d3 d4 d5
    have ra := room_at d2
    obtain ⟨h1, h2⟩ := Mc.holdOf_ok hm d2
    have vb := VB.back (by decide) hv D.backs
    have okv : ∀ {vs : List Rat}, vs.length = m.k → ∀ {ts : List Tt}, (∀ t ∈ ts, t.ok m.k) → ∀ t ∈ ts, t.ok vs.length := fun h ts k t ht => by rw [h]; exact k t ht
    simp_all only [ss_nil, mV, stV]
    (first | rw [Nx_eq] | rw [Arm_eq] | skip); (try simp_all only [ss_nil])
    rw [da]
    simp_all only [ss_nil]
    (first | rw [Nx_eq] | rw [Arm_eq] | skip); (try simp_all only [ss_nil, dV])
    by_cases hs : D.src = p
    · have hs' : ((D.src : Int) = (p : Int)) = True := eq_true (by omega)
      simp_all only [ss_nil, hs']
      refine callS_of ⟨D.guard, vals, rfl, rfl, okv hx d3, Nat.le_trans d4 (by decide), hv.mono (by decide), ?_⟩
      by_cases hg : D.guard.all (Tt.holds vals) = true
      · simp_all only [ss_nil, hg]
        (first | rw [Nx_eq] | rw [Arm_eq] | skip); (try simp_all only [ss_nil])
        (first | rw [Nx_eq] | rw [Arm_eq] | skip); (try simp_all only [ss_nil])
        refine callS_of ⟨vals, D.backs, rfl, rfl, by rw [hx]; exact hm.k, ?_⟩
        simp_all only [ss_nil]
        (first | rw [Nx_eq] | rw [Arm_eq] | skip); (try simp_all only [ss_nil, ra])
        refine callS_of ⟨m.holdOf D.tgt, backV vals D.backs, rfl, rfl, okv (by rw [backV_len]; exact hx) h1, h2, vb.mono (by decide), ?_⟩
        rw [if_pos ⟨hs, hg⟩] at h
        by_cases hh : (m.holdOf D.tgt).all (Tt.holds (backV vals D.backs)) = true
        · rw [if_pos hh] at h
          simp_all only [ss_nil, hh]
          (first | rw [Nx_eq] | rw [Arm_eq] | skip); (try simp_all only [ss_nil])
          (first | rw [Nx_eq] | rw [Arm_eq] | skip); (try simp_all only [ss_nil])
          exact ⟨by decide, s, .rfl, h⟩
        · rw [if_neg hh] at h
          have hf : (m.holdOf D.tgt).all (Tt.holds (backV vals D.backs)) = false := by simpa using hh
          simp_all only [ss_nil, hf]
          (first | rw [Nx_eq] | rw [Arm_eq] | skip); (try simp_all only [ss_nil])
          exact ⟨s, .rfl, h⟩
      · rw [if_neg (fun z => hg z.2)] at h
        have hf : D.guard.all (Tt.holds vals) = false := by simpa using hg
        simp_all only [ss_nil, hf]
        (first | rw [Nx_eq] | rw [Arm_eq] | skip); (try simp_all only [ss_nil])
        exact ⟨s, .rfl, h⟩
    · rw [if_neg (fun z => hs z.1)] at h
      have hs' : ((D.src : Int) = (p : Int)) = False := eq_false (by omega)
      simp_all only [ss_nil, hs']
      (first | rw [Nx_eq] | rw [Arm_eq] | skip); (try simp_all only [ss_nil])
      exact ⟨s, .rfl, h⟩
  · exact h.elim
end TK

set_option maxRecDepth 100000
set_option maxHeartbeats 4000000
namespace TK
open PySem PySem.Spec PyProof.Rows L2
/-- the numbers of the deeds that start in a place -/
def Mc.from (m : Mc) (p : Nat) : List Nat := ((m.deeds.zipIdx 0).filter fun q => decide (q.1.src = p)).map (·.2)
theorem Mc.from_lt {m : Mc} {p : Nat} : ∀ d ∈ m.from p, d < m.deeds.length := fun d hd => by
  obtain ⟨q, hq, rfl⟩ := List.mem_map.mp hd
  have := List.mem_filter.mp hq
  have h2 := List.snd_lt_add_of_mem_zipIdx this.1
  omega
theorem Mc.from_len {m : Mc} {p : Nat} : (m.from p).length ≤ m.deeds.length := by
  unfold Mc.from
  rw [List.length_map]
  exact Nat.le_trans (List.length_filter_le ..) (by rw [List.length_zipIdx]; exact Nat.le_refl _)
def sp_deeds_from : PSpec
  | [a, .int p], st, Q, _ => ∃ (m : Mc) (q : Nat), a = mV m ∧ p = q ∧ m.deeds.length ≤ 1000 ∧ Q (.tup ((m.from q).map fun (d : Nat) => .int (d : Int))) st
  | _, _, _, _ => False
def b_deeds_from : Ss :=
  (.cons (.ret (.blt .tuple false (.cons (.comp false [2, 3] (.tup (.cons (.name 2) (.cons (.name 3) .nil))) (.enum (.idx (.var 0) (.int 2))) (.cons (.cmp .Eq (.idx (.var 3) (.int 1)) (.var 1)) .nil) (.var 2)) .nil))) .nil)
def n_deeds_from : List Str := ["machine", "place", "at", "deed"]
theorem w_deeds_from : ∀ vs s Q X, vs.length = 2 → sp_deeds_from vs s Q X → wpFn n_deeds_from.length b_deeds_from vs s Q X := by
  intro vs s Q X hl h
  unfold sp_deeds_from at h
  split at h
  · rw [fn_eq]
    unfold b_deeds_from n_deeds_from
    obtain ⟨m, q, rfl, rfl, hlen, h⟩ := h
    have sz : 1000 ≤ sizeLine := by decide
    simp_all only [ss_nil, mV]
    refine ⟨by rw [enumL_len, List.length_map]; omega, ?_⟩
    rw [enumL_map]
    refine lc_filter (fun p => decide (p.1.src = q)) (fun p => .int (p.2 : Int)) (m.deeds.zipIdx 0) (fun p hp => ⟨_, rfl, fun st' sub => ⟨fun K hk => ?_, fun _ K hk => ?_⟩⟩) ?_
    · have e : ((p.1.src : Int) = (q : Int)) ↔ p.1.src = q := by omega
      simp_all only [ss_nil, dV, e]
      by_cases hq : p.1.src = q
      · rw [decide_eq_true hq] at hk
        simp_all only [ss_nil, hq]
        exact hk
      · rw [decide_eq_false hq] at hk
        simp_all only [ss_nil, hq]
        exact hk
    · simp_all only [ss_nil]
      exact hk
    simp_all only [ss_nil]
    refine ⟨s, .rfl, ?_⟩
    have e : (((m.deeds.zipIdx 0).filter fun p => decide (p.1.src = q)).map fun p => PV.int (p.2 : Int)) = (m.from q).map fun (d : Nat) => .int (d : Int) := by unfold Mc.from; rw [List.map_map]; rfl
    rw [e]
    exact h
  · exact h.elim
/-- the deeds that can be done now -/
def Mc.open (m : Mc) (x : Nat × List Rat) : List Nat := (m.from x.1).filter fun d => (m.act x d).isSome
def sp_open_deeds : PSpec
  | [a, b], st, Q, _ => ∃ (m : Mc) (x : Nat × List Rat), a = mV m ∧ b = stV x ∧ m.ok ∧ x.2.length = m.k ∧ VB 1500 x.2 ∧ Q (.tup ((m.open x).map fun (d : Nat) => .int (d : Int))) st
  | _, _, _, _ => False
def b_open_deeds : Ss :=
  (.cons (.ret (.blt .tuple false (.cons (.comp false [2] (.name 2) (.val (.call "deeds_from" sp_deeds_from (.cons (.var 0) (.cons (.idx (.var 1) (.int 0)) .nil)))) (.cons (.cmp .IsNot (.call "acted" sp_acted (.cons (.var 0) (.cons (.var 1) (.cons (.var 2) .nil)))) .non) .nil) (.var 2)) .nil))) .nil)
def n_open_deeds : List Str := ["machine", "state", "deed"]
theorem w_open_deeds : ∀ vs s Q X, vs.length = 2 → sp_open_deeds vs s Q X → wpFn n_open_deeds.length b_open_deeds vs s Q X := by
  intro vs s Q X hl h
  unfold sp_open_deeds at h
  split at h
  · rw [fn_eq]
    unfold b_open_deeds n_open_deeds
    obtain ⟨m, x, rfl, rfl, hm, hx, hv, h⟩ := h
    have sz : 1000 ≤ sizeLine := by decide
    simp_all only [ss_nil, stV]
    refine callS_of ⟨m, x.1, rfl, rfl, hm.ndeeds, ?_⟩
    simp_all only [ss_nil]
    refine lc_filter (fun d => (m.act x d).isSome) (fun (d : Nat) => .int (d : Int)) (m.from x.1) (fun d hd => ⟨_, rfl, fun st' sub => ⟨fun K hk => ?_, fun _ K hk => ?_⟩⟩) ?_
    · simp_all only [ss_nil]
      refine callS_of ⟨m, x, d, rfl, rfl, rfl, hm, Mc.from_lt d hd, hx, hv, ?_⟩
      cases e : m.act x d with
      | none =>
        rw [e] at hk
        simp_all only [ss_nil, stO]
        exact hk
      | some y =>
        rw [e] at hk
        simp_all only [ss_nil, stO, stV]
        exact hk
    · simp_all only [ss_nil]
      exact hk
    simp_all only [ss_nil]
    exact ⟨s, .rfl, h⟩
  · exact h.elim
end TK

set_option maxRecDepth 100000
set_option maxHeartbeats 4000000
namespace TK
open PySem PySem.Spec PyProof.Rows L2
/-! ### the law's own steps -/
theorem get_map {α : Type} {enc : α → PV} {l : List α} {i : Nat} {v : PV} (h : (l.map enc)[i]? = some v) : ∃ x, v = enc x ∧ l[i]? = some x := by
  rw [List.getElem?_map] at h
  cases e : l[i]? with
  | none => rw [e] at h; cases h
  | some x => rw [e] at h; cases h; exact ⟨x, rfl, rfl⟩
theorem take_one {α : Type} {l : List α} {i : Nat} {x : α} (h : l[i]? = some x) : l.take (i + 1) = l.take i ++ [x] := by
  rw [List.take_add_one, h]; rfl
theorem mem_at {α : Type} {l : List α} {i : Nat} {v : α} (h : l[i]? = some v) : v ∈ l := List.mem_of_getElem? h
theorem get_rng {n i : Nat} {lo : Int} {v : PV} (h : (rngL lo n)[i]? = some v) : i < n ∧ v = .int (lo + (i : Int)) := by
  obtain ⟨h1, h2⟩ := List.getElem?_eq_some_iff.mp h
  simp only [rngL, List.length_map, List.length_range] at h1
  simp only [rngL, List.getElem_map, List.getElem_range] at h2
  exact ⟨h1, h2.symm⟩
theorem rng_len {n : Nat} {lo : Int} : (rngL lo n).length = n := by simp only [rngL, List.length_map, List.length_range]
/-- values given as a tuple, or as a list that is still written -/
def isVs (st : Store) (b : PV) (vals : List Rat) : Prop := b = vsV vals ∨ ∃ a, b = .ref a ∧ st a = some (.lst (vals.map ratV))
def sp__law_meets : PSpec
  | [.tup xs, b], st, Q, _ => ∃ (ts : List Tt) (vals : List Rat), xs = ts.map tV ∧ isVs st b vals ∧ (∀ t ∈ ts, t.ok vals.length) ∧ VB 3900 vals ∧ Q (.bl (ts.all (Tt.holds vals))) st
  | _, _, _, _ => False
def b__law_meets_1 : Ss :=
  (.cons (.ite (.not (.val (.call "_law_compare" sp__law_compare (.cons (.idx (.var 1) (.bin .Sub false (.idx (.var 2) (.int 0)) (.int 1))) (.cons (.idx (.var 2) (.int 1)) (.cons (.idx (.var 2) (.int 2)) .nil)))))) (.cons (.ret (.bl false)) .nil) .nil) .nil)
def b__law_meets : Ss :=
  (.cons (.loop (.name 2) (.val (.var 0)) b__law_meets_1) (.cons (.ret (.bl true)) .nil))
def n__law_meets : List Str := ["tests", "values", "test"]
theorem w__law_meets : ∀ vs s Q X, vs.length = 2 → sp__law_meets vs s Q X → wpFn n__law_meets.length b__law_meets vs s Q X := by
  intro vs s Q X hl h
  unfold sp__law_meets at h
  split at h
  · rename_i xs b
    rw [fn_eq]
    unfold b__law_meets n__law_meets
    obtain ⟨ts, vals, rfl, hb, hts, hv, h⟩ := h
    simp_all only [ss_nil]
    refine for_at (fun i τ st => st = s ∧ ∃ o, τ = [some (.tup (ts.map tV)), some b, o] ∧ (ts.take i).all (Tt.holds vals) = true) ?_ ?_ ⟨rfl, _, rfl, by simp⟩
    · rintro i v τ st hi ⟨rfl, o, rfl, ha⟩
      obtain ⟨t, rfl, ht⟩ := get_map hi
      obtain ⟨e, hbd⟩ := vs_get hv (hts t (mem_at ht))
      refine ⟨trivial, ?_⟩
      unfold b__law_meets_1
      have fin : ∀ k : Bool, k = t.holds vals → KTn (KArm (.cons (.ret (.bl false)) .nil) .nil [some (.tup (ts.map tV)), some b, some (tV t)] ((((fnEnds Q X).nxt (.cons (.ret (.bl true)) .nil)).lp fun τ st' => st' = st ∧ ∃ o, τ = [some (.tup (ts.map tV)), some b, o] ∧ (ts.take (i + 1)).all (Tt.holds vals) = true).nxt .nil)) k st := by
        rintro k rfl
        cases hh : t.holds vals with
        | true =>
          simp_all only [ss_nil]
          (first | rw [Nx_eq] | rw [Arm_eq] | skip); (try simp_all only [ss_nil])
          (first | rw [Nx_eq] | rw [Arm_eq] | skip); (try simp_all only [ss_nil])
          exact ⟨_, rfl, by rw [take_one ht, List.all_append, ha]; simp [hh]⟩
        | false =>
          simp_all only [ss_nil]
          (first | rw [Nx_eq] | rw [Arm_eq] | skip); (try simp_all only [ss_nil])
          have e2 : ts.all (Tt.holds vals) = false := List.all_eq_false.mpr ⟨t, mem_at ht, by simp [hh]⟩
          rw [e2] at h
          exact ⟨st, .rfl, h⟩
      rcases hb with rfl | ⟨a, rfl, hra⟩
      · simp_all only [ss_nil, tV, vsV, e]
        exact callS_of ⟨_, t.s, t.n, hbd.fr, rfl, rfl, (hts t (mem_at ht)).2.2, fin _ rfl⟩
      · simp_all only [ss_nil, tV, hra, e]
        exact callS_of ⟨_, t.s, t.n, hbd.fr, rfl, rfl, (hts t (mem_at ht)).2.2, fin _ rfl⟩
    · rintro τ st ⟨rfl, o, rfl, ha⟩
      refine ⟨trivial, ?_⟩
      rw [List.length_map, List.take_length] at ha
      simp_all only [ss_nil]
      (first | rw [Nx_eq] | rw [Arm_eq] | skip); (try simp_all only [ss_nil])
      rw [ha] at h
      exact ⟨st, .rfl, h⟩
  · exact h.elim
def sp__law_start : PSpec
  | [a], st, Q, _ => ∃ m : Mc, a = mV m ∧ m.k ≤ 1000 ∧ Q (stV (0, List.replicate m.k 0)) st
  | _, _, _, _ => False
def b__law_start : Ss :=
  (.cons (.ret (.tup (.cons (.int 0) (.cons (.blt .tuple false (.cons (.comp false [1] (.name 1) (.range1 (.idx (.var 0) (.int 0))) .nil (.tup (.cons (.int 0) (.cons (.int 1) .nil)))) .nil)) .nil)))) .nil)
def n__law_start : List Str := ["machine", "clock"]
theorem w__law_start : ∀ vs s Q X, vs.length = 1 → sp__law_start vs s Q X → wpFn n__law_start.length b__law_start vs s Q X := by
  intro vs s Q X hl h
  unfold sp__law_start at h
  split at h
  · rw [fn_eq]
    unfold b__law_start n__law_start
    obtain ⟨m, rfl, hk, h⟩ := h
    simp_all only [ss_nil, mV]
    have sz : 1000 ≤ sizeLine := by decide
    refine ⟨by unfold R62; omega, ?_⟩
    unfold rngL
    refine ⟨by rw [List.length_map, List.length_range]; omega, ?_⟩
    refine lc_enc (fun _ => .tup [.int 0, .int 1]) _ (fun τ1 st' Q q => by simp_all only [ss_nil]; exact q) (fun t ht => ⟨_, rfl, fun st' sub K hk => ?_⟩) ?_
    · simp_all only [ss_nil]
      exact ⟨by decide, hk⟩
    simp_all only [ss_nil]
    refine ⟨by decide, s, .rfl, ?_⟩
    rw [zeros, Int.toNat_natCast]
    exact h
  · exact h.elim
def sp__law_wait : PSpec
  | [a, b, c], st, Q, _ => ∃ (m : Mc) (x : Nat × List Rat) (r : Rat), a = mV m ∧ b = stV x ∧ Fr 1500 c r ∧ m.ok ∧ x.1 < m.rooms.length ∧ x.2.length = m.k ∧ VB 1500 x.2 ∧ Q (stO (m.wait x r)) st
  | _, _, _, _ => False
def b__law_wait : Ss :=
  (.cons (.asg (.name 3) (.blt .tuple false (.cons (.comp false [4] (.name 4) (.val (.idx (.var 1) (.int 1))) .nil (.call "_law_plus" sp__law_plus (.cons (.var 4) (.cons (.var 2) .nil)))) .nil))) (.cons (.ite (.val (.call "_law_meets" sp__law_meets (.cons (.idx (.idx (.idx (.var 0) (.int 1)) (.idx (.var 1) (.int 0))) (.int 0)) (.cons (.var 3) .nil)))) (.cons (.ret (.tup (.cons (.idx (.var 1) (.int 0)) (.cons (.var 3) .nil)))) .nil) .nil) (.cons (.ret .non) .nil)))
def n__law_wait : List Str := ["machine", "state", "wait", "values", "value"]
theorem w__law_wait : ∀ vs s Q X, vs.length = 3 → sp__law_wait vs s Q X → wpFn n__law_wait.length b__law_wait vs s Q X := by
  intro vs s Q X hl h
  unfold sp__law_wait at h
  split at h
  · rename_i a b c
    rw [fn_eq]
    unfold b__law_wait n__law_wait
    obtain ⟨m, x, r, rfl, rfl, hr, hm, hp, hx, hv, h⟩ := h
    obtain ⟨p, vals⟩ := x
    have ra := room_at hp
    obtain ⟨h1, h2⟩ := Mc.holdOf_ok hm hp
    simp_all only [ss_nil, mV, stV, vsV]
    refine lc_enc (fun y => ratV (y + r)) vals (fun τ1 st' Q q => by simp_all only [ss_nil]; exact q) (fun y hy => ⟨_, rfl, fun st' sub K hk => ?_⟩) ?_
    · simp_all only [ss_nil]
      exact callS_of ⟨y, r, (hv y hy).fr.mono (by decide), hr.mono (by decide), hk⟩
    have e : (vals.map fun y => ratV (y + r)) = (vals.map (· + r)).map ratV := by rw [List.map_map]; rfl
    have vb : VB 3900 (vals.map (· + r)) := (hv.add hr.bd).mono (by decide)
    simp_all only [ss_nil, e]
    (first | rw [Nx_eq] | rw [Arm_eq] | skip); (try simp_all only [ss_nil, ra])
    refine callS_of ⟨m.holdOf p, vals.map (· + r), rfl, .inl rfl, fun t ht => by rw [List.length_map]; have := h1 t ht; rwa [← hx] at this, vb, ?_⟩
    unfold Mc.wait at h
    by_cases hh : (m.holdOf p).all (Tt.holds (vals.map (· + r))) = true
    · rw [if_pos hh] at h
      simp_all only [ss_nil, hh]
      (first | rw [Nx_eq] | rw [Arm_eq] | skip); (try simp_all only [ss_nil])
      exact ⟨by decide, s, .rfl, h⟩
    · rw [if_neg hh] at h
      have hf : (m.holdOf p).all (Tt.holds (vals.map (· + r))) = false := by simpa using hh
      simp_all only [ss_nil, hf]
      (first | rw [Nx_eq] | rw [Arm_eq] | skip); (try simp_all only [ss_nil])
      (first | rw [Nx_eq] | rw [Arm_eq] | skip); (try simp_all only [ss_nil])
      exact ⟨s, .rfl, h⟩
  · exact h.elim
end TK

set_option maxRecDepth 100000
set_option maxHeartbeats 4000000
namespace TK
open PySem PySem.Spec PyProof.Rows L2
def sp__law_act : PSpec
  | [a, b, .int d], st, Q, _ => ∃ (m : Mc) (x : Nat × List Rat) (e : Nat), a = mV m ∧ b = stV x ∧ d = e ∧ m.ok ∧ e < m.deeds.length ∧ x.2.length = m.k ∧ VB 1500 x.2 ∧ Q (stO (m.act x e)) st
  | _, _, _, _ => False
theorem back_at {vals : List Rat} {bs : List Nat} {i : Nat} (h : i < vals.length) : (backV vals bs)[i]? = some (if i + 1 ∈ bs then 0 else vals[i]) := by
  unfold backV
  rw [List.getElem?_map, List.getElem?_zipIdx, List.getElem?_eq_getElem h]
  simp
def b__law_act_1 : Ss :=
  (.cons (.expr (.meth .append (.var 4) (.cons (.ite (.cmp .In (.bin .Add false (.var 5) (.int 1)) (.idx (.var 3) (.int 3))) (.tup (.cons (.int 0) (.cons (.int 1) .nil))) (.idx (.idx (.var 1) (.int 1)) (.var 5))) .nil))) .nil)
def b__law_act : Ss :=
  (.cons (.asg (.name 3) (.idx (.idx (.var 0) (.int 2)) (.var 2))) (.cons (.ite (.bools .Or (.cons (.cmp .NotEq (.idx (.var 3) (.int 1)) (.idx (.var 1) (.int 0))) (.cons (.not (.val (.call "_law_meets" sp__law_meets (.cons (.idx (.var 3) (.int 2)) (.cons (.idx (.var 1) (.int 1)) .nil))))) .nil))) (.cons (.ret .non) .nil) .nil) (.cons (.asg (.name 4) (.lst true .nil)) (.cons (.loop (.name 5) (.range1 (.blt .len false (.cons (.idx (.var 1) (.int 1)) .nil))) b__law_act_1) (.cons (.ite (.not (.val (.call "_law_meets" sp__law_meets (.cons (.idx (.idx (.idx (.var 0) (.int 1)) (.idx (.var 3) (.int 4))) (.int 0)) (.cons (.var 4) .nil))))) (.cons (.ret .non) .nil) .nil) (.cons (.ret (.tup (.cons (.idx (.var 3) (.int 4)) (.cons (.blt .tuple false (.cons (.var 4) .nil)) .nil)))) .nil))))))
def n__law_act : List Str := ["machine", "state", "deed", "told", "values", "at"]
theorem w__law_act : ∀ vs s Q X, vs.length = 3 → sp__law_act vs s Q X → wpFn n__law_act.length b__law_act vs s Q X := by
  intro vs s Q X hl h
  unfold sp__law_act at h
  split at h
  · rename_i a b d
    rw [fn_eq]
    unfold b__law_act n__law_act
    obtain ⟨m, x, e, rfl, rfl, rfl, hm, hd, hx, hv, h⟩ := h
    obtain ⟨p, vals⟩ := x
    obtain ⟨da, dm⟩ := deed_at hd
    obtain ⟨d1, d2, d3, d4, d5⟩ := hm.deed _ dm
    unfold Mc.act at h
    revert da dm d1 d2 d3 d4 d5 h
    generalize m.deedOf e = D
    intro h da dm d1 d2 d3 d4 d5
    have ra := room_at d2
    obtain ⟨h1, h2⟩ := Mc.holdOf_ok hm d2
    have vb := VB.back (by decide) hv D.backs
    have okv : ∀ {vs : List Rat}, vs.length = m.k → ∀ {ts : List Tt}, (∀ t ∈ ts, t.ok m.k) → ∀ t ∈ ts, t.ok vs.length := fun h ts k t ht => by rw [h]; exact k t ht
    have hk := hm.k
    have hx' : vals.length = m.k := hx
    simp_all only [ss_nil, Nx_nil, mV, stV]
    have da2 : atI (m.deeds.map dV) (e : Int) = some (.tup [.str D.letter, .int D.src, .tup (D.guard.map tV), .tup (D.backs.map fun (b : Nat) => .int (b : Int)), .int D.tgt, .int D.price]) := da
    rw [da2]
    simp_all only [ss_nil, Nx_nil]
    (first | rw [Nx_eq] | rw [Arm_eq] | skip); (try simp_all only [ss_nil, Nx_nil])
    by_cases hs : D.src = p
    · have hs' : ((D.src : Int) = (p : Int)) = True := eq_true (by omega)
      simp_all only [ss_nil, Nx_nil, hs']
      refine callS_of ⟨D.guard, vals, rfl, .inl rfl, okv hx d3, hv.mono (by decide), ?_⟩
      by_cases hg : D.guard.all (Tt.holds vals) = true
      · simp_all only [ss_nil, Nx_nil, hg]
        (first | rw [Nx_eq] | rw [Arm_eq] | skip); (try simp_all only [ss_nil, Nx_nil])
        (first | rw [Nx_eq] | rw [Arm_eq] | skip); (try simp_all only [ss_nil, Nx_nil])
        refine ⟨by decide, fun q hq => ?_⟩
        (first | rw [Nx_eq] | rw [Arm_eq] | skip); (try simp_all only [ss_nil, Nx_nil, vsV, List.length_map])
        refine ⟨by unfold R62; omega, ?_⟩
        refine for_at (fun i τ st => ∃ o, τ = [some (.tup [.int m.k, .tup (m.rooms.map rmV), .tup (m.deeds.map dV)]), some (.tup [.int p, .tup (vals.map ratV)]), some (.int e), some (.tup [.str D.letter, .int D.src, .tup (D.guard.map tV), .tup (D.backs.map fun (b : Nat) => .int (b : Int)), .int D.tgt, .int D.price]), some (.ref q), o] ∧ st = up s q (some (.lst (((backV vals D.backs).take i).map ratV)))) ?_ ?_ ⟨_, rfl, rfl⟩
        · rintro i v τ st hi ⟨o, rfl, rfl⟩
          obtain ⟨i1, rfl⟩ := get_rng hi
          refine ⟨trivial, ?_⟩
          have i2 : i < vals.length := by omega
          unfold b__law_act_1
          have ei : atI (vals.map ratV) (0 + (i : Int)) = some (ratV vals[i]) := by rw [Int.zero_add, atI_nat, List.getElem?_map, List.getElem?_eq_getElem i2]; rfl
          have bi := back_at (bs := D.backs) i2
          have sz : 1000 ≤ sizeLine := by decide
          have fin : ∀ r : Rat, r = (if i + 1 ∈ D.backs then 0 else vals[i]) → up s q (some (.lst (((backV vals D.backs).take i).map ratV ++ [ratV r]))) = up s q (some (.lst (((backV vals D.backs).take (i + 1)).map ratV))) := by
            rintro r rfl
            rw [take_one bi, List.map_append]; rfl
          simp_all only [ss_nil, Nx_nil, any_nat, all_scN, isSc, ei]
          rw [Int.zero_add]
          simp_all only [ss_nil, Nx_nil, any_nat, all_scN, isSc]
          split
          · rename_i hb
            rw [if_pos hb] at fin
            simp_all only [ss_nil, Nx_nil, List.length_map, List.length_take, backV_len, up_up]
            exact ⟨by decide, by omega, _, rfl, fin 0 rfl⟩
          · rename_i hb
            rw [if_neg hb] at fin
            simp_all only [ss_nil, Nx_nil, List.length_map, List.length_take, backV_len, up_up, ei]
            exact ⟨by omega, _, rfl, fin _ rfl⟩
        · rintro τ st ⟨o, rfl, rfl⟩
          refine ⟨trivial, ?_⟩
          rw [rng_len, Int.toNat_natCast, List.take_of_length_le (by rw [backV_len]; exact Nat.le_refl _)]
          simp_all only [ss_nil, Nx_nil]
          (first | rw [Nx_eq] | rw [Arm_eq] | skip); (try simp_all only [ss_nil, Nx_nil, ra])
          refine callS_of ⟨m.holdOf D.tgt, backV vals D.backs, rfl, .inr ⟨q, rfl, up_same⟩, okv (by rw [backV_len]; exact hx) h1, vb.mono (by decide), ?_⟩
          rw [if_pos ⟨hs, hg⟩] at h
          by_cases hh : (m.holdOf D.tgt).all (Tt.holds (backV vals D.backs)) = true
          · rw [if_pos hh] at h
            simp_all only [ss_nil, Nx_nil, hh]
            (first | rw [Nx_eq] | rw [Arm_eq] | skip); (try simp_all only [ss_nil, Nx_nil])
            (first | rw [Nx_eq] | rw [Arm_eq] | skip); (try simp_all only [ss_nil, Nx_nil])
            exact ⟨by decide, s, sub_new hq, h⟩
          · rw [if_neg hh] at h
            have hf : (m.holdOf D.tgt).all (Tt.holds (backV vals D.backs)) = false := by simpa using hh
            simp_all only [ss_nil, Nx_nil, hf]
            (first | rw [Nx_eq] | rw [Arm_eq] | skip); (try simp_all only [ss_nil, Nx_nil])
            exact ⟨s, sub_new hq, h⟩
      · rw [if_neg (fun z => hg z.2)] at h
        have hf : D.guard.all (Tt.holds vals) = false := by simpa using hg
        simp_all only [ss_nil, Nx_nil, hf]
        (first | rw [Nx_eq] | rw [Arm_eq] | skip); (try simp_all only [ss_nil, Nx_nil])
        exact ⟨s, .rfl, h⟩
    · rw [if_neg (fun z => hs z.1)] at h
      have hs' : ((D.src : Int) = (p : Int)) = False := eq_false (by omega)
      simp_all only [ss_nil, Nx_nil, hs']
      (first | rw [Nx_eq] | rw [Arm_eq] | skip); (try simp_all only [ss_nil, Nx_nil])
      exact ⟨s, .rfl, h⟩
  · exact h.elim
end TK

set_option maxRecDepth 100000
set_option maxHeartbeats 4000000
namespace TK
open PySem PySem.Spec PyProof.Rows L2
/-! ### the drawing of machines -/
/-- a comprehension whose elements are drawn: all of them have a property -/
theorem lc_prop {P : PV → Prop} {tg : TG} {t : Sl → Store → (Bool → Store → Prop) → Prop} {e : Sl → Store → PQ → Prop} {τ : Sl} {st : Store} {K : List PV → Prop} (ht : ∀ τ1 st' Q, Q true st' → t τ1 st' Q) :
    ∀ (xs acc : List PV), (∀ x ∈ xs, ∃ τ1, tg.asg x τ = some τ1 ∧ ∀ st', Sub st st' → ∀ Q : PQ, (∀ y, P y → Q y st') → e τ1 st' Q) → (∀ y ∈ acc, P y) → (∀ ys, ys.length = acc.length + xs.length → (∀ y ∈ ys, P y) → K ys) → lcL tg t e τ st xs acc K
  | [], acc, _, ha, h => by
    show K acc
    exact h acc rfl ha
  | x :: r, acc, hx, ha, h => by
    obtain ⟨τ1, h1, h2⟩ := hx x List.mem_cons_self
    unfold lcL
    rw [h1]
    intro st' sub
    refine ht _ _ _ ⟨rfl, ?_⟩
    rw [if_pos rfl]
    refine h2 st' sub _ fun y hy => ⟨rfl, lc_prop ht r _ (fun z hz => hx z (List.mem_cons_of_mem _ hz)) (fun z hz => ?_) fun ys hl hp => h ys ?_ hp⟩
    · rcases List.mem_append.mp hz with hz | hz
      · exact ha z hz
      · rw [List.mem_singleton.mp hz]; exact hy
    · rw [hl, List.length_append, List.length_cons]; simp; omega
/-- all are images -/
theorem all_enc {α : Type} {enc : α → PV} {P : α → Prop} : ∀ {ys : List PV}, (∀ y ∈ ys, ∃ x, y = enc x ∧ P x) → ∃ l : List α, ys = l.map enc ∧ ∀ x ∈ l, P x
  | [], _ => ⟨[], rfl, fun _ h => (nomatch h)⟩
  | y :: r, h => by
    obtain ⟨x, rfl, hx⟩ := h y List.mem_cons_self
    obtain ⟨l, rfl, hl⟩ := all_enc (ys := r) fun z hz => h z (List.mem_cons_of_mem _ hz)
    exact ⟨x :: l, rfl, fun z hz => by
      rcases List.mem_cons.mp hz with rfl | hz
      · exact hx
      · exact hl z hz⟩
/-- one of some signs, a number of at most top -/
def Tt.drw (k top : Nat) (ss : List Sg) (t : Tt) : Prop := 1 ≤ t.c ∧ t.c ≤ k ∧ t.n ≤ top ∧ t.s ∈ ss
def sgV (s : Sg) : PV := .str (sgS s)
def sp__law_test : PSpec
  | [.ref p, .int c, .int n, .lst xs], st, Q, _ => st p = some .pool ∧ ∃ (k top : Nat) (ss : List Sg), c = k ∧ n = top ∧ xs = ss.map sgV ∧ 1 ≤ k ∧ k ≤ 1000 ∧ 1 ≤ top ∧ top ≤ 1000 ∧ ss ≠ [] ∧ ss.length ≤ 1000 ∧ ∀ t : Tt, t.drw k top ss → Q (tV t) st
  | _, _, _, _ => False
def b__law_test : Ss :=
  (.cons (.asg (.name 4) (.call "_law_pick" sp__law_pick (.cons (.var 0) (.cons (.var 3) .nil)))) (.cons (.asg (.name 5) (.call "_law_draw" sp__law_draw (.cons (.var 0) (.cons (.bin .Add false (.var 2) (.int 1)) .nil)))) (.cons (.ite (.bools .And (.cons (.cmp .Eq (.var 4) (.str "<")) (.cons (.cmp .Eq (.var 5) (.int 0)) .nil))) (.cons (.asg (.name 5) (.bin .Add false (.int 1) (.call "_law_draw" sp__law_draw (.cons (.var 0) (.cons (.var 2) .nil))))) .nil) .nil) (.cons (.ret (.tup (.cons (.bin .Add false (.int 1) (.call "_law_draw" sp__law_draw (.cons (.var 0) (.cons (.var 1) .nil)))) (.cons (.var 4) (.cons (.var 5) .nil))))) .nil))))
def n__law_test : List Str := ["pool", "clocks", "top", "signs", "sign", "number"]
theorem w__law_test : ∀ vs s Q X, vs.length = 4 → sp__law_test vs s Q X → wpFn n__law_test.length b__law_test vs s Q X := by
  intro vs s Q X hl h
  unfold sp__law_test at h
  split at h
  · rename_i p c n xs
    rw [fn_eq]
    unfold b__law_test n__law_test
    obtain ⟨hp, k, top, ss, rfl, rfl, rfl, k1, k2, t1, t2, s1, s2, h⟩ := h
    simp_all only [ss_nil, Nx_nil]
    refine callS_of ⟨hp, by simpa using s1, by rw [List.length_map]; omega, fun i v hv => ?_⟩
    obtain ⟨sg, rfl, hs⟩ := get_map hv
    have hsm := mem_at hs
    unfold sgV
    simp_all only [ss_nil, Nx_nil]
    (first | rw [Nx_eq] | rw [Arm_eq] | skip); (try simp_all only [ss_nil, Nx_nil])
    refine callS_of ⟨hp, .of (by omega), fun r r0 r1 _ => ?_⟩
    have r1 := r1 (by omega)
    -- the end
    have fin : ∀ z : Int, 0 ≤ z → z ≤ top → Nx (.cons (.ret (.tup (.cons (.bin .Add false (.int 1) (.call "_law_draw" sp__law_draw (.cons (.var 0) (.cons (.var 1) .nil)))) (.cons (.var 4) (.cons (.var 5) .nil))))) .nil) (fnEnds Q X) [some (.ref p), some (.int k), some (.int top), some (.lst (ss.map sgV)), some (.str (sgS sg)), some (.int z)] s := by
      intro z z0 z1
      (first | rw [Nx_eq] | rw [Arm_eq] | skip); (try simp_all only [ss_nil, Nx_nil])
      refine callS_of ⟨hp, .of (by omega), fun u u0 u1 u2 => ?_⟩
      have hu : u < k := by rcases Nat.lt_or_ge k 2 with h | h <;> omega
      simp_all only [ss_nil, Nx_nil]
      refine ⟨by decide, s, .rfl, ?_⟩
      have e := h ⟨(1 + u).toNat, sg, z.toNat⟩ ⟨by show 1 ≤ (1 + u).toNat; omega, by show (1 + u).toNat ≤ k; omega, by show z.toNat ≤ top; omega, hsm⟩
      unfold tV at e
      rw [Int.toNat_of_nonneg (by omega), Int.toNat_of_nonneg z0] at e
      exact e
    simp_all only [ss_nil, Nx_nil]
    (first | rw [Nx_eq] | rw [Arm_eq] | skip); (try simp_all only [ss_nil, Nx_nil])
    by_cases hz : sgS sg = ("<" : Str)
    · simp_all only [ss_nil, Nx_nil, hz]
      split
      · (first | rw [Nx_eq] | rw [Arm_eq] | skip); (try simp_all only [ss_nil, Nx_nil])
        refine callS_of ⟨hp, .of (by omega), fun u u0 u1 u2 => ?_⟩
        have hu : u < top := by rcases Nat.lt_or_ge top 2 with h | h <;> omega
        simp_all only [ss_nil, Nx_nil]
        have e := fin (1 + u) (by omega) (by omega)
        rw [hz] at e
        exact e
      · (first | rw [Nx_eq] | rw [Arm_eq] | skip); (try simp_all only [ss_nil, Nx_nil])
        have e := fin r r0 (by omega)
        rw [hz] at e
        exact e
    · simp_all only [ss_nil, Nx_nil, hz]
      (first | rw [Nx_eq] | rw [Arm_eq] | skip); (try simp_all only [ss_nil, Nx_nil])
      exact fin r r0 (by omega)
  · exact h.elim
/-- what is told of pool, clocks, top, signs -/
def drw4 (p : Nat) (c n : Int) (xs : List PV) (st : Store) (k top : Nat) (ss : List Sg) : Prop := st p = some .pool ∧ c = k ∧ n = top ∧ xs = ss.map sgV ∧ k ≤ 1000 ∧ 1 ≤ top ∧ top ≤ 1000 ∧ ss ≠ [] ∧ ss.length ≤ 1000
def sp__law_hold : PSpec
  | [.ref p, .int c, .int n, .lst xs], st, Q, _ => ∃ (k top : Nat) (ss : List Sg), drw4 p c n xs st k top ss ∧ ∀ ts : List Tt, ts.length ≤ 2 → (∀ t ∈ ts, t.drw k top ss) → Q (.tup (ts.map tV)) st
  | _, _, _, _ => False
def b__law_hold : Ss :=
  (.cons (.ite (.bools .Or (.cons (.cmp .Eq (.var 1) (.int 0)) (.cons (.cmp .Lt (.call "_law_draw" sp__law_draw (.cons (.var 0) (.cons (.int 5) .nil))) (.int 2)) .nil))) (.cons (.ret (.tup .nil)) .nil) .nil) (.cons (.asg (.name 4) (.lst true (.cons (.call "_law_test" sp__law_test (.cons (.var 0) (.cons (.var 1) (.cons (.var 2) (.cons (.var 3) .nil))))) .nil))) (.cons (.ite (.cmp .Eq (.call "_law_draw" sp__law_draw (.cons (.var 0) (.cons (.int 6) .nil))) (.int 0)) (.cons (.expr (.meth .append (.var 4) (.cons (.call "_law_test" sp__law_test (.cons (.var 0) (.cons (.var 1) (.cons (.var 2) (.cons (.var 3) .nil))))) .nil))) .nil) .nil) (.cons (.ret (.blt .tuple false (.cons (.var 4) .nil))) .nil))))
def n__law_hold : List Str := ["pool", "clocks", "top", "signs", "hold"]
theorem w__law_hold : ∀ vs s Q X, vs.length = 4 → sp__law_hold vs s Q X → wpFn n__law_hold.length b__law_hold vs s Q X := by
  intro vs s Q X hl h
  unfold sp__law_hold at h
  split at h
  · rename_i p c n xs
    rw [fn_eq]
    unfold b__law_hold n__law_hold
    obtain ⟨k, top, ss, ⟨hp, rfl, rfl, rfl, k2, t1, t2, s1, s2⟩, h⟩ := h
    have nil := h [] (by simp) fun _ h => (nomatch h)
    simp_all only [ss_nil, Nx_nil]
    by_cases hk : k = 0
    · subst hk
      simp_all only [ss_nil, Nx_nil, natc0]
      (first | rw [Nx_eq] | rw [Arm_eq] | skip); (try simp_all only [ss_nil, Nx_nil])
      exact ⟨by decide, s, .rfl, nil⟩
    · have hk' : ((k : Int) = 0) = False := eq_false (by omega)
      simp_all only [ss_nil, Nx_nil, hk']
      refine callS_of ⟨hp, .of (by decide), fun r r0 r1 _ => ?_⟩
      simp_all only [ss_nil, Nx_nil]
      split
      · (first | rw [Nx_eq] | rw [Arm_eq] | skip); (try simp_all only [ss_nil, Nx_nil])
        exact ⟨by decide, s, .rfl, nil⟩
      · (first | rw [Nx_eq] | rw [Arm_eq] | skip); (try simp_all only [ss_nil, Nx_nil])
        (first | rw [Nx_eq] | rw [Arm_eq] | skip); (try simp_all only [ss_nil, Nx_nil])
        refine callS_of ⟨hp, k, top, ss, rfl, rfl, rfl, by omega, k2, t1, t2, s1, s2, fun t ht => ?_⟩
        simp_all only [ss_nil, Nx_nil]
        refine ⟨by decide, fun q hq => ?_⟩
        have pq : p ≠ q := fun e => by rw [← e, hp] at hq; cases hq
        have hpu : ∀ c, up s q c p = some .pool := fun c => by rw [up_ne pq]; exact hp
        (first | rw [Nx_eq] | rw [Arm_eq] | skip); (try simp_all only [ss_nil, Nx_nil])
        refine callS_of ⟨hpu _, .of (by decide), fun u u0 u1 _ => ?_⟩
        simp_all only [ss_nil, Nx_nil]
        split
        · (first | rw [Nx_eq] | rw [Arm_eq] | skip); (try simp_all only [ss_nil, Nx_nil])
          refine callS_of ⟨hpu _, k, top, ss, rfl, rfl, rfl, by omega, k2, t1, t2, s1, s2, fun t' ht' => ?_⟩
          simp_all only [ss_nil, Nx_nil, up_up]
          refine ⟨by decide, ?_⟩
          (first | rw [Nx_eq] | rw [Arm_eq] | skip); (try simp_all only [ss_nil, Nx_nil])
          (first | rw [Nx_eq] | rw [Arm_eq] | skip); (try simp_all only [ss_nil, Nx_nil])
          refine ⟨s, sub_new hq, h [t, t'] (by simp) fun z hz => ?_⟩
          simp only [List.mem_cons, List.not_mem_nil, or_false] at hz
          rcases hz with rfl | rfl
          · exact ht
          · exact ht'
        · (first | rw [Nx_eq] | rw [Arm_eq] | skip); (try simp_all only [ss_nil, Nx_nil])
          (first | rw [Nx_eq] | rw [Arm_eq] | skip); (try simp_all only [ss_nil, Nx_nil])
          refine ⟨s, sub_new hq, h [t] (by simp) fun z hz => ?_⟩
          simp only [List.mem_cons, List.not_mem_nil, or_false] at hz
          rw [hz]; exact ht
  · exact h.elim
def sp__law_guard : PSpec
  | [.ref p, .int c, .int n, .lst xs], st, Q, _ => ∃ (k top : Nat) (ss : List Sg), drw4 p c n xs st k top ss ∧ ∀ ts : List Tt, ts.length ≤ 2 → (∀ t ∈ ts, t.drw k top ss) → Q (.tup (ts.map tV)) st
  | _, _, _, _ => False
def b__law_guard : Ss :=
  (.cons (.ite (.cmp .Eq (.var 1) (.int 0)) (.cons (.ret (.tup .nil)) .nil) .nil) (.cons (.asg (.name 4) (.call "_law_pick" sp__law_pick (.cons (.var 0) (.cons (.lst false (.cons (.int 0) (.cons (.int 1) (.cons (.int 1) (.cons (.int 1) (.cons (.int 2) .nil)))))) .nil)))) (.cons (.ret (.blt .tuple false (.cons (.comp false [5] (.name 5) (.range1 (.var 4)) .nil (.call "_law_test" sp__law_test (.cons (.var 0) (.cons (.var 1) (.cons (.var 2) (.cons (.var 3) .nil)))))) .nil))) .nil)))
def n__law_guard : List Str := ["pool", "clocks", "top", "signs", "many", "k"]
theorem w__law_guard : ∀ vs s Q X, vs.length = 4 → sp__law_guard vs s Q X → wpFn n__law_guard.length b__law_guard vs s Q X := by
  intro vs s Q X hl h
  unfold sp__law_guard at h
  split at h
  · rename_i p c n xs
    rw [fn_eq]
    unfold b__law_guard n__law_guard
    obtain ⟨k, top, ss, ⟨hp, rfl, rfl, rfl, k2, t1, t2, s1, s2⟩, h⟩ := h
    have nil := h [] (by simp) fun _ h => (nomatch h)
    simp_all only [ss_nil, Nx_nil]
    by_cases hk : k = 0
    · subst hk
      simp_all only [ss_nil, Nx_nil, natc0]
      (first | rw [Nx_eq] | rw [Arm_eq] | skip); (try simp_all only [ss_nil, Nx_nil])
      exact ⟨by decide, s, .rfl, nil⟩
    · have hk' : ((k : Int) = 0) = False := eq_false (by omega)
      simp_all only [ss_nil, Nx_nil, hk']
      (first | rw [Nx_eq] | rw [Arm_eq] | skip); (try simp_all only [ss_nil, Nx_nil])
      (first | rw [Nx_eq] | rw [Arm_eq] | skip); (try simp_all only [ss_nil, Nx_nil])
      refine ⟨by decide, callS_of ⟨hp, by simp, by decide, fun i v hv => ?_⟩⟩
      have hv' : ∃ n : Nat, v = .int n ∧ n ≤ 2 := by
        have := mem_at hv
        simp only [List.mem_cons, List.not_mem_nil, or_false] at this
        rcases this with e | e | e | e | e
        · exact ⟨0, e, by decide⟩
        · exact ⟨1, e, by decide⟩
        · exact ⟨1, e, by decide⟩
        · exact ⟨1, e, by decide⟩
        · exact ⟨2, e, by decide⟩
      obtain ⟨n, rfl, hn⟩ := hv'
      simp_all only [ss_nil, Nx_nil]
      (first | rw [Nx_eq] | rw [Arm_eq] | skip); (try simp_all only [ss_nil, Nx_nil])
      refine ⟨by unfold R62; omega, by rw [rng_len, Int.toNat_natCast]; exact Nat.le_trans hn (by decide), ?_⟩
      refine lc_prop (P := fun y => ∃ t : Tt, y = tV t ∧ t.drw k top ss) (fun τ1 st' Q q => by simp_all only [ss_nil, Nx_nil]; exact q) _ [] (fun x hx => ⟨_, rfl, fun st' sub K hk => ?_⟩) (fun _ h => (nomatch h)) fun ys hl hp => ?_
      · simp_all only [ss_nil, Nx_nil]
        exact callS_of ⟨sub _ _ hp, k, top, ss, rfl, rfl, rfl, by omega, k2, t1, t2, s1, s2, fun t ht => hk _ ⟨t, rfl, ht⟩⟩
      obtain ⟨ts, rfl, hts⟩ := all_enc hp
      rw [rng_len, Int.toNat_natCast, List.length_map] at hl
      simp_all only [ss_nil, Nx_nil]
      exact ⟨s, .rfl, h ts (by simp at hl; omega) hts⟩
  · exact h.elim
def sp__law_backs : PSpec
  | [.ref p, .int c], st, Q, _ => st p = some .pool ∧ ∃ k : Nat, c = k ∧ k ≤ 1000 ∧ ∀ bs : List Nat, bs.length ≤ k → (∀ b ∈ bs, 1 ≤ b ∧ b ≤ k) → Q (.tup (bs.map fun (b : Nat) => .int (b : Int))) st
  | _, _, _, _ => False
def b__law_backs_1 : Ss :=
  (.cons (.ite (.cmp .Eq (.call "_law_draw" sp__law_draw (.cons (.var 0) (.cons (.int 3) .nil))) (.int 0)) (.cons (.expr (.meth .append (.var 2) (.cons (.var 3) .nil))) .nil) .nil) .nil)
def b__law_backs : Ss :=
  (.cons (.asg (.name 2) (.lst true .nil)) (.cons (.loop (.name 3) (.range2 (.int 1) (.bin .Add false (.var 1) (.int 1))) b__law_backs_1) (.cons (.ret (.blt .tuple false (.cons (.var 2) .nil))) .nil)))
def n__law_backs : List Str := ["pool", "clocks", "told", "clock"]
theorem w__law_backs : ∀ vs s Q X, vs.length = 2 → sp__law_backs vs s Q X → wpFn n__law_backs.length b__law_backs vs s Q X := by
  intro vs s Q X hl h
  unfold sp__law_backs at h
  split at h
  · rename_i p c
    rw [fn_eq]
    unfold b__law_backs n__law_backs
    obtain ⟨hp, k, rfl, hk, h⟩ := h
    simp_all only [ss_nil, Nx_nil]
    refine ⟨by decide, fun q hq => ?_⟩
    have pq : p ≠ q := fun e => by rw [← e, hp] at hq; cases hq
    have hpu : ∀ c, up s q c p = some .pool := fun c => by rw [up_ne pq]; exact hp
    (first | rw [Nx_eq] | rw [Arm_eq] | skip); (try simp_all only [ss_nil, Nx_nil])
    refine ⟨by unfold R62; omega, by unfold R62; omega, ?_⟩
    refine for_at (fun i τ st => ∃ (o : Option PV) (bs : List Nat), τ = [some (.ref p), some (.int k), some (.ref q), o] ∧ st = up s q (some (.lst (bs.map fun (b : Nat) => .int (b : Int)))) ∧ bs.length ≤ i ∧ ∀ b ∈ bs, 1 ≤ b ∧ b ≤ k) ?_ ?_ ⟨_, [], rfl, rfl, Nat.le_refl _, fun _ h => (nomatch h)⟩
    · rintro i v τ st hi ⟨o, bs, rfl, rfl, hl, hb⟩
      obtain ⟨i1, rfl⟩ := get_rng hi
      refine ⟨trivial, ?_⟩
      unfold b__law_backs_1
      simp_all only [ss_nil, Nx_nil]
      refine callS_of ⟨hpu _, .of (by decide), fun u u0 u1 _ => ?_⟩
      have sz : 10000 ≤ sizeLine := by decide
      simp_all only [ss_nil, Nx_nil]
      split
      · (first | rw [Nx_eq] | rw [Arm_eq] | skip); (try simp_all only [ss_nil, Nx_nil, List.length_map, up_up])
        refine ⟨by omega, _, bs ++ [i + 1], rfl, ?_, by rw [List.length_append]; simp; omega, fun b hb' => ?_⟩
        · rw [List.map_append]
          have e : (1 : Int) + (i : Int) = ((i + 1 : Nat) : Int) := by omega
          rw [e]; rfl
        · rcases List.mem_append.mp hb' with hb' | hb'
          · exact hb b hb'
          · rw [List.mem_singleton.mp hb']; omega
      · (first | rw [Nx_eq] | rw [Arm_eq] | skip); (try simp_all only [ss_nil, Nx_nil])
        exact ⟨_, bs, rfl, rfl, by omega, hb⟩
    · rintro τ st ⟨o, bs, rfl, rfl, hl, hb⟩
      refine ⟨trivial, ?_⟩
      rw [rng_len] at hl
      simp_all only [ss_nil, Nx_nil]
      (first | rw [Nx_eq] | rw [Arm_eq] | skip); (try simp_all only [ss_nil, Nx_nil])
      exact ⟨s, sub_new hq, h bs (by omega) hb⟩
  · exact h.elim
def strV (x : Str) : PV := .str x
/-- a drawn deed -/
def Dd.drw (k P top : Nat) (ss : List Sg) (ls : List Str) (d : Dd) : Prop := d.letter ∈ ls ∧ d.src < P ∧ d.tgt < P ∧ d.guard.length ≤ 2 ∧ (∀ t ∈ d.guard, t.drw k top ss) ∧ d.backs.length ≤ k ∧ (∀ b ∈ d.backs, 1 ≤ b ∧ b ≤ k) ∧ d.price < 4
def sp__law_deed : PSpec
  | [.ref p, .int c, .int pl, .int nu, .int n, .lst ls, .lst xs], st, Q, _ => ∃ (k top P N : Nat) (ss : List Sg) (lt : List Str), drw4 p c n xs st k top ss ∧ pl = P ∧ nu = N ∧ ls = lt.map strV ∧ lt ≠ [] ∧ lt.length ≤ 1000 ∧ 1 ≤ P ∧ P ≤ 1000 ∧ ∀ d : Dd, d.drw k P top ss lt → Q (dV d) st
  | _, _, _, _ => False
def b__law_deed : Ss :=
  (.cons (.asg (.name 7) (.call "_law_draw" sp__law_draw (.cons (.var 0) (.cons (.blt .min2 false (.cons (.var 2) (.cons (.bin .Add false (.var 3) (.int 1)) .nil))) .nil)))) (.cons (.asg (.name 8) (.call "_law_draw" sp__law_draw (.cons (.var 0) (.cons (.var 2) .nil)))) (.cons (.ite (.bools .And (.cons (.cmp .Eq (.var 8) (.var 7)) (.cons (.cmp .Eq (.call "_law_draw" sp__law_draw (.cons (.var 0) (.cons (.int 2) .nil))) (.int 0)) .nil))) (.cons (.asg (.name 8) (.bin .Mod false (.blt .int false (.cons (.bin .Add false (.var 7) (.int 1)) .nil)) (.var 2))) .nil) .nil) (.cons (.asg (.name 9) (.call "_law_guard" sp__law_guard (.cons (.var 0) (.cons (.var 1) (.cons (.var 4) (.cons (.var 6) .nil)))))) (.cons (.ret (.tup (.cons (.call "_law_pick" sp__law_pick (.cons (.var 0) (.cons (.var 5) .nil))) (.cons (.var 7) (.cons (.var 9) (.cons (.call "_law_backs" sp__law_backs (.cons (.var 0) (.cons (.var 1) .nil))) (.cons (.var 8) (.cons (.call "_law_draw" sp__law_draw (.cons (.var 0) (.cons (.int 4) .nil))) .nil)))))))) .nil)))))
def n__law_deed : List Str := ["pool", "clocks", "places", "number", "top", "letters", "signs", "source", "target", "guard"]
theorem w__law_deed : ∀ vs s Q X, vs.length = 7 → sp__law_deed vs s Q X → wpFn n__law_deed.length b__law_deed vs s Q X := by
  intro vs s Q X hl h
  unfold sp__law_deed at h
  split at h
  · rename_i p c pl nu n ls xs
    rw [fn_eq]
    unfold b__law_deed n__law_deed
    obtain ⟨k, top, P, N, ss, lt, dr, rfl, rfl, rfl, l1, l2, p1, p2, h⟩ := h
    obtain ⟨hp, rfl, rfl, rfl, k2, t1, t2, s1, s2⟩ := id dr
    have mn : ∃ M : Nat, (if (N : Int) + 1 < (P : Int) then (N : Int) + 1 else (P : Int)) = M ∧ 1 ≤ M ∧ M ≤ P := by
      split
      · exact ⟨N + 1, rfl, by omega, by omega⟩
      · exact ⟨P, rfl, by omega, by omega⟩
    obtain ⟨M, eM, M1, M2⟩ := mn
    simp_all only [ss_nil, Nx_nil, eM]
    refine callS_of ⟨hp, .of (by omega), fun src r0 r1 r2 => ?_⟩
    have hsrc : src < P := by rcases Nat.lt_or_ge M 2 with h | h <;> omega
    simp_all only [ss_nil, Nx_nil]
    (first | rw [Nx_eq] | rw [Arm_eq] | skip); (try simp_all only [ss_nil, Nx_nil])
    refine callS_of ⟨hp, .of (by omega), fun tgt u0 u1 u2 => ?_⟩
    have htgt : tgt < P := by rcases Nat.lt_or_ge P 2 with h | h <;> omega
    simp_all only [ss_nil, Nx_nil]
    have fin : ∀ z : Int, 0 ≤ z → z < P → Nx (.cons (.asg (.name 9) (.call "_law_guard" sp__law_guard (.cons (.var 0) (.cons (.var 1) (.cons (.var 4) (.cons (.var 6) .nil)))))) (.cons (.ret (.tup (.cons (.call "_law_pick" sp__law_pick (.cons (.var 0) (.cons (.var 5) .nil))) (.cons (.var 7) (.cons (.var 9) (.cons (.call "_law_backs" sp__law_backs (.cons (.var 0) (.cons (.var 1) .nil))) (.cons (.var 8) (.cons (.call "_law_draw" sp__law_draw (.cons (.var 0) (.cons (.int 4) .nil))) .nil)))))))) .nil)) (fnEnds Q X)
        [some (.ref p), some (.int k), some (.int P), some (.int N), some (.int top), some (.lst (lt.map strV)), some (.lst (ss.map sgV)), some (.int src), some (.int z), none] s := by
      intro z z0 z1
      (first | rw [Nx_eq] | rw [Arm_eq] | skip); (try simp_all only [ss_nil, Nx_nil])
      refine callS_of ⟨k, top, ss, dr, fun ts ht1 ht2 => ?_⟩
      simp_all only [ss_nil, Nx_nil]
      (first | rw [Nx_eq] | rw [Arm_eq] | skip); (try simp_all only [ss_nil, Nx_nil])
      refine callS_of ⟨hp, by simpa using l1, by rw [List.length_map]; omega, fun i v hv => ?_⟩
      obtain ⟨x, rfl, hx⟩ := get_map hv
      simp_all only [ss_nil, Nx_nil]
      refine callS_of ⟨hp, k, rfl, k2, fun bs hb1 hb2 => ?_⟩
      simp_all only [ss_nil, Nx_nil]
      refine callS_of ⟨hp, .of (by decide), fun w w0 w1 _ => ?_⟩
      have w1 := w1 (by decide)
      simp_all only [ss_nil, Nx_nil]
      refine ⟨by decide, s, .rfl, ?_⟩
      have e := h ⟨x, src.toNat, ts, bs, z.toNat, w.toNat⟩ ⟨mem_at hx, by show src.toNat < P; omega, by show z.toNat < P; omega, ht1, ht2, hb1, hb2, by show w.toNat < 4; omega⟩
      unfold dV at e
      rw [Int.toNat_of_nonneg r0, Int.toNat_of_nonneg z0, Int.toNat_of_nonneg w0] at e
      exact e
    (first | rw [Nx_eq] | rw [Arm_eq] | skip); (try simp_all only [ss_nil, Nx_nil])
    split
    · refine callS_of ⟨hp, .of (by decide), fun w w0 w1 _ => ?_⟩
      simp_all only [ss_nil, Nx_nil]
      split
      · (first | rw [Nx_eq] | rw [Arm_eq] | skip); (try simp_all only [ss_nil, Nx_nil])
        refine ⟨by omega, ?_⟩
        exact fin _ (Int.fmod_nonneg_of_pos _ (by omega)) (Int.fmod_lt_of_pos _ (by omega))
      · (first | rw [Nx_eq] | rw [Arm_eq] | skip); (try simp_all only [ss_nil, Nx_nil])
        exact fin _ u0 htgt
    · (first | rw [Nx_eq] | rw [Arm_eq] | skip); (try simp_all only [ss_nil, Nx_nil])
      exact fin _ u0 htgt
  · exact h.elim
end TK

set_option maxRecDepth 100000
set_option maxHeartbeats 4000000
namespace TK
open PySem PySem.Spec PyProof.Rows L2
/-- a drawn machine -/
structure Mc.drw (m : Mc) (c P D top : Nat) (hs gs : List Sg) (ls : List Str) : Prop where
  k : m.k = c
  nrooms : m.rooms.length = P
  ndeeds : m.deeds.length = D
  rooms : ∀ r ∈ m.rooms, r.1.length ≤ 2 ∧ (∀ t ∈ r.1, t.drw c top hs) ∧ r.2 < 4
  deeds : ∀ d ∈ m.deeds, d.drw c P top gs ls
theorem Tt.drw.ok {k top : Nat} {ss : List Sg} {t : Tt} (h : t.drw k top ss) (ht : top ≤ 1000) : t.ok k := ⟨h.1, h.2.1, Nat.le_trans h.2.2.1 ht⟩
theorem Mc.drw.ok {m : Mc} {k P D top : Nat} {hs gs : List Sg} {ls : List Str} (h : m.drw k P D top hs gs ls) (hk : k ≤ 1000) (p1 : 1 ≤ P) (p2 : P ≤ 1000) (hd : D ≤ 1000) (ht : top ≤ 1000) : m.ok where
  k := by rw [h.k]; exact hk
  rooms := fun e => by have := h.nrooms; rw [e] at this; simp at this; omega
  nrooms := by rw [h.nrooms]; exact p2
  ndeeds := by rw [h.ndeeds]; exact hd
  hold := fun r hr => let ⟨a, b, _⟩ := h.rooms r hr; ⟨fun t ht' => by rw [h.k]; exact (b t ht').ok ht, Nat.le_trans a (by decide)⟩
  deed := fun d hd => by
    obtain ⟨_, a1, a2, a3, a4, a5, _⟩ := h.deeds d hd
    rw [h.nrooms, h.k]
    exact ⟨a1, a2, fun t ht' => (a4 t ht').ok ht, Nat.le_trans a3 (by decide), Nat.le_trans a5 hk⟩
def holdSg (closed : Bool) : List Sg := if closed then [.le] else [.lt, .le, .le]
def guardSg (closed : Bool) : List Sg := if closed then [.le, .ge, .ge, .eq] else [.lt, .le, .eq, .ge, .ge, .gt, .gt]
def sp__law_machine : PSpec
  | [.ref p, .int c, .int pl, .int nd, .int n, .lst ls, .bl closed], st, Q, _ => st p = some .pool ∧ ∃ (k top P D : Nat) (lt : List Str), c = k ∧ pl = P ∧ nd = D ∧ n = top ∧ ls = lt.map strV ∧ lt ≠ [] ∧ lt.length ≤ 1000 ∧ k ≤ 1000 ∧ 1 ≤ P ∧ P ≤ 1000 ∧ D ≤ 1000 ∧ 1 ≤ top ∧ top ≤ 1000 ∧ ∀ m : Mc, m.drw k P D top (holdSg closed) (guardSg closed) lt → Q (mV m) st
  | _, _, _, _ => False
def b__law_machine_2 : Ss :=
  (.cons (.expr (.meth .append (.var 11) (.cons (.call "_law_deed" sp__law_deed (.cons (.var 0) (.cons (.var 1) (.cons (.var 2) (.cons (.var 10) (.cons (.var 4) (.cons (.var 5) (.cons (.var 8) .nil)))))))) .nil))) .nil)
def b__law_machine_1 : Ss :=
  (.cons (.asg (.name 12) (.call "_law_hold" sp__law_hold (.cons (.var 0) (.cons (.var 1) (.cons (.var 4) (.cons (.var 7) .nil)))))) (.cons (.expr (.meth .append (.var 9) (.cons (.tup (.cons (.var 12) (.cons (.call "_law_draw" sp__law_draw (.cons (.var 0) (.cons (.int 4) .nil))) .nil))) .nil))) .nil))
def b__law_machine : Ss :=
  (.cons (.asg (.name 7) (.ite (.val (.var 6)) (.lst false (.cons (.str "<=") .nil)) (.lst false (.cons (.str "<") (.cons (.str "<=") (.cons (.str "<=") .nil)))))) (.cons (.asg (.name 8) (.ite (.val (.var 6)) (.lst false (.cons (.str "<=") (.cons (.str ">=") (.cons (.str ">=") (.cons (.str "=") .nil))))) (.lst false (.cons (.str "<") (.cons (.str "<=") (.cons (.str "=") (.cons (.str ">=") (.cons (.str ">=") (.cons (.str ">") (.cons (.str ">") .nil)))))))))) (.cons (.asg (.name 9) (.lst true .nil)) (.cons (.loop (.name 10) (.range1 (.var 2)) b__law_machine_1) (.cons (.asg (.name 11) (.lst true .nil)) (.cons (.loop (.name 10) (.range1 (.var 3)) b__law_machine_2) (.cons (.ret (.tup (.cons (.var 1) (.cons (.blt .tuple false (.cons (.var 9) .nil)) (.cons (.blt .tuple false (.cons (.var 11) .nil)) .nil))))) .nil)))))))
def n__law_machine : List Str := ["pool", "clocks", "places", "deeds", "top", "letters", "closed", "holds", "signs", "rooms", "k", "told", "hold"]
theorem w__law_machine : ∀ vs s Q X, vs.length = 7 → sp__law_machine vs s Q X → wpFn n__law_machine.length b__law_machine vs s Q X := by
  intro vs s Q X hl h
  unfold sp__law_machine at h
  split at h
  · rename_i p c pl nd n ls closed
    rw [fn_eq]
    unfold b__law_machine n__law_machine
    obtain ⟨hp, k, top, P, D, lt, rfl, rfl, rfl, rfl, rfl, l1, l2, k2, p1, p2, d2, t1, t2, h⟩ := h
    have sz : 10000 ≤ sizeLine := by decide
    have hg : ∀ (D : PEnds) (w : PV) (τ : Sl) (ss : Ss), True := fun _ _ _ _ => trivial
    -- the signs
    have body : Nx (.cons (.asg (.name 9) (.lst true .nil)) (.cons (.loop (.name 10) (.range1 (.var 2)) b__law_machine_1) (.cons (.asg (.name 11) (.lst true .nil)) (.cons (.loop (.name 10) (.range1 (.var 3)) b__law_machine_2) (.cons (.ret (.tup (.cons (.var 1) (.cons (.blt .tuple false (.cons (.var 9) .nil)) (.cons (.blt .tuple false (.cons (.var 11) .nil)) .nil))))) .nil))))) (fnEnds Q X)
        [some (.ref p), some (.int k), some (.int P), some (.int D), some (.int top), some (.lst (lt.map strV)), some (.bl closed), some (.lst ((holdSg closed).map sgV)), some (.lst ((guardSg closed).map sgV)), none, none, none, none] s := by
      have hs1 : holdSg closed ≠ [] ∧ (holdSg closed).length ≤ 1000 := by cases closed <;> exact ⟨by decide, by decide⟩
      have gs1 : guardSg closed ≠ [] ∧ (guardSg closed).length ≤ 1000 := by cases closed <;> exact ⟨by decide, by decide⟩
      revert hs1 gs1 h
      generalize holdSg closed = hs
      generalize guardSg closed = gs
      intro h ⟨hs1, hs2⟩ ⟨gs1, gs2⟩
      (first | rw [Nx_eq] | rw [Arm_eq] | skip); (try simp_all only [ss_nil, Nx_nil])
      refine ⟨by decide, fun q hq => ?_⟩
      have pq : p ≠ q := fun e => by rw [← e, hp] at hq; cases hq
      have hpu : ∀ c, up s q c p = some .pool := fun c => by rw [up_ne pq]; exact hp
      (first | rw [Nx_eq] | rw [Arm_eq] | skip); (try simp_all only [ss_nil, Nx_nil])
      refine ⟨by unfold R62; omega, ?_⟩
      refine for_at (fun i τ st => ∃ (o10 o12 : Option PV) (rs : List (List Tt × Nat)), τ = [some (.ref p), some (.int k), some (.int P), some (.int D), some (.int top), some (.lst (lt.map strV)), some (.bl closed), some (.lst (hs.map sgV)), some (.lst (gs.map sgV)), some (.ref q), o10, none, o12] ∧ st = up s q (some (.lst (rs.map rmV))) ∧ rs.length = i ∧ ∀ r ∈ rs, r.1.length ≤ 2 ∧ (∀ t ∈ r.1, t.drw k top hs) ∧ r.2 < 4) ?_ ?_ ⟨_, _, [], rfl, rfl, rfl, fun _ h => (nomatch h)⟩
      · rintro i v τ st hi ⟨o10, o12, rs, rfl, rfl, hlen, hrs⟩
        obtain ⟨i1, rfl⟩ := get_rng hi
        refine ⟨trivial, ?_⟩
        unfold b__law_machine_1
        simp_all only [ss_nil, Nx_nil]
        refine callS_of ⟨k, top, hs, ⟨hpu _, rfl, rfl, rfl, k2, t1, t2, hs1, hs2⟩, fun ts ht1 ht2 => ?_⟩
        simp_all only [ss_nil, Nx_nil]
        (first | rw [Nx_eq] | rw [Arm_eq] | skip); (try simp_all only [ss_nil, Nx_nil])
        refine callS_of ⟨hpu _, .of (by decide), fun u u0 u1 _ => ?_⟩
        have u1 := u1 (by decide)
        simp_all only [ss_nil, Nx_nil, List.length_map, up_up]
        refine ⟨by decide, by omega, _, _, rs ++ [(ts, u.toNat)], rfl, ?_, by rw [List.length_append, hlen]; rfl, fun r hr => ?_⟩
        · rw [List.map_append]
          have e : rmV (ts, u.toNat) = .tup [.tup (ts.map tV), .int u] := by unfold rmV; rw [Int.toNat_of_nonneg u0]
          show _ = up s q (some (.lst (rs.map rmV ++ [rmV (ts, u.toNat)])))
          rw [e]
        · rcases List.mem_append.mp hr with hr | hr
          · exact hrs r hr
          · rw [List.mem_singleton.mp hr]
            exact ⟨ht1, ht2, by show u.toNat < 4; omega⟩
      · rintro τ st ⟨o10, o12, rs, rfl, rfl, hlen, hrs⟩
        rw [rng_len, Int.toNat_natCast] at hlen
        refine ⟨trivial, ?_⟩
        simp_all only [ss_nil, Nx_nil]
        (first | rw [Nx_eq] | rw [Arm_eq] | skip); (try simp_all only [ss_nil, Nx_nil])
        refine ⟨by decide, fun q2 hq2 => ?_⟩
        have q12 : q ≠ q2 := fun e => by rw [← e, up_same] at hq2; cases hq2
        have pq2 : p ≠ q2 := fun e => by rw [← e, hpu] at hq2; cases hq2
        have hpu2 : ∀ c, up (up s q (some (.lst (rs.map rmV)))) q2 c p = some .pool := fun c => by rw [up_ne pq2]; exact hpu _
        have hqu2 : ∀ c, up (up s q (some (.lst (rs.map rmV)))) q2 c q = some (.lst (rs.map rmV)) := fun c => by rw [up_ne q12]; exact up_same
        (first | rw [Nx_eq] | rw [Arm_eq] | skip); (try simp_all only [ss_nil, Nx_nil])
        refine ⟨by unfold R62; omega, ?_⟩
        refine for_at (fun i τ st => ∃ (o10 o12 : Option PV) (ds : List Dd), τ = [some (.ref p), some (.int k), some (.int P), some (.int D), some (.int top), some (.lst (lt.map strV)), some (.bl closed), some (.lst (hs.map sgV)), some (.lst (gs.map sgV)), some (.ref q), o10, some (.ref q2), o12] ∧ st = up (up s q (some (.lst (rs.map rmV)))) q2 (some (.lst (ds.map dV))) ∧ ds.length = i ∧ ∀ d ∈ ds, d.drw k P top gs lt) ?_ ?_ ⟨_, _, [], rfl, rfl, rfl, fun _ h => (nomatch h)⟩
        · rintro i v τ st hi ⟨o10, o12, ds, rfl, rfl, hdl, hds⟩
          obtain ⟨i1, rfl⟩ := get_rng hi
          refine ⟨trivial, ?_⟩
          unfold b__law_machine_2
          simp_all only [ss_nil, Nx_nil]
          refine callS_of ⟨k, top, P, i, gs, lt, ⟨hpu2 _, rfl, rfl, rfl, k2, t1, t2, gs1, gs2⟩, rfl, by rw [Int.zero_add], rfl, l1, l2, p1, p2, fun d hd => ?_⟩
          simp_all only [ss_nil, Nx_nil, List.length_map, up_up]
          refine ⟨by omega, _, _, ds ++ [d], rfl, by rw [List.map_append]; rfl, by rw [List.length_append, hdl]; rfl, fun d' hd' => ?_⟩
          rcases List.mem_append.mp hd' with hd' | hd'
          · exact hds d' hd'
          · rw [List.mem_singleton.mp hd']; exact hd
        · rintro τ st ⟨o10, o12, ds, rfl, rfl, hdl, hds⟩
          rw [rng_len, Int.toNat_natCast] at hdl
          refine ⟨trivial, ?_⟩
          simp_all only [ss_nil, Nx_nil]
          (first | rw [Nx_eq] | rw [Arm_eq] | skip); (try simp_all only [ss_nil, Nx_nil, hqu2])
          refine ⟨by decide, s, fun a c e => ?_, h ⟨k, rs, ds⟩ ⟨rfl, hlen, hdl, hrs, hds⟩⟩
          exact sub_new hq2 a c (sub_new hq a c e)
    cases closed with
    | true =>
      simp_all only [ss_nil, Nx_nil]
      refine ⟨by decide, ?_⟩
      (first | rw [Nx_eq] | rw [Arm_eq] | skip); (try simp_all only [ss_nil, Nx_nil])
      refine ⟨by decide, ?_⟩
      exact body
    | false =>
      simp_all only [ss_nil, Nx_nil]
      refine ⟨by decide, ?_⟩
      (first | rw [Nx_eq] | rw [Arm_eq] | skip); (try simp_all only [ss_nil, Nx_nil])
      refine ⟨by decide, ?_⟩
      exact body
  · exact h.elim
def sp__law_fraction : PSpec
  | [.ref p], st, Q, _ => st p = some .pool ∧ ∀ r : Rat, Bd 10 r → 0 ≤ r → Q (ratV r) st
  | _, _, _, _ => False
def b__law_fraction : Ss :=
  (.cons (.ret (.call "_law_ratio" sp__law_ratio (.cons (.call "_law_draw" sp__law_draw (.cons (.var 0) (.cons (.int 13) .nil))) (.cons (.call "_law_pick" sp__law_pick (.cons (.var 0) (.cons (.lst false (.cons (.int 1) (.cons (.int 1) (.cons (.int 2) (.cons (.int 2) (.cons (.int 3) (.cons (.int 4) (.cons (.int 5) (.cons (.int 6) .nil))))))))) .nil))) .nil)))) .nil)
def n__law_fraction : List Str := ["pool"]
theorem w__law_fraction : ∀ vs s Q X, vs.length = 1 → sp__law_fraction vs s Q X → wpFn n__law_fraction.length b__law_fraction vs s Q X := by
  intro vs s Q X hl h
  unfold sp__law_fraction at h
  split at h
  · rename_i p
    rw [fn_eq]
    unfold b__law_fraction n__law_fraction
    obtain ⟨hp, h⟩ := h
    simp_all only [ss_nil, Nx_nil]
    refine callS_of ⟨hp, .of (by decide), fun u u0 u1 _ => ?_⟩
    have u1 := u1 (by decide)
    simp_all only [ss_nil, Nx_nil]
    refine ⟨by decide, callS_of ⟨hp, by simp, by decide, fun i v hv => ?_⟩⟩
    have hv' : ∃ n : Int, v = .int n ∧ 1 ≤ n ∧ n ≤ 6 := by
      have := mem_at hv
      simp only [List.mem_cons, List.not_mem_nil, or_false] at this
      rcases this with e | e | e | e | e | e | e | e <;> exact ⟨_, e, by decide, by decide⟩
    obtain ⟨n, rfl, n1, n6⟩ := hv'
    simp_all only [ss_nil, Nx_nil]
    refine callS_of ⟨by omega, .of (by omega), s, .rfl, h _ (.of_divInt (by omega) (by omega) (by omega)) ?_⟩
    rw [Rat.divInt_nonneg_iff_of_pos_right (by omega)]
    exact u0
  · exact h.elim
theorem sm_pick {xs ys : List Int} {i : Nat} {v : PV} (h : (xs.map PV.int)[i]? = some v) : ∃ n ∈ xs, v = .int n := by
  obtain ⟨n, rfl, hn⟩ := get_map h
  exact ⟨n, mem_at hn, rfl⟩
/-- a machine of the law -/
def Mc.drawn (m : Mc) : Prop := ∃ (k P D top : Nat) (closed : Bool), k ≤ 8 ∧ 1 ≤ P ∧ P ≤ 64 ∧ D ≤ 100 ∧ 1 ≤ top ∧ top ≤ 99 ∧ m.drw k P D top (holdSg closed) (guardSg closed) ["a", "b"]
theorem Mc.drawn.ok {m : Mc} (h : m.drawn) : m.ok := by
  obtain ⟨k, P, D, top, c, h1, h2, h3, h4, h5, h6, h⟩ := h
  exact h.ok (by omega) h2 (by omega) (by omega) (by omega)
def sp__law_drawn : PSpec
  | [.ref p], st, Q, _ => st p = some .pool ∧ ∀ m : Mc, m.drawn → Q (mV m) st
  | _, _, _, _ => False
def b__law_drawn : Ss :=
  (.cons (.asg (.name 1) (.call "_law_pick" sp__law_pick (.cons (.var 0) (.cons (.lst false (.cons (.int 0) (.cons (.int 1) (.cons (.int 1) (.cons (.int 2) (.cons (.int 2) (.cons (.int 3) (.cons (.int 8) .nil)))))))) .nil)))) (.cons (.asg (.name 2) (.bin .Add false (.int 1) (.call "_law_draw" sp__law_draw (.cons (.var 0) (.cons (.int 5) .nil))))) (.cons (.asg (.name 3) (.call "_law_draw" sp__law_draw (.cons (.var 0) (.cons (.int 9) .nil)))) (.cons (.ite (.cmp .Eq (.call "_law_draw" sp__law_draw (.cons (.var 0) (.cons (.int 12) .nil))) (.int 0)) (.cons (.asg (.name 2) (.int 64)) (.cons (.asg (.name 3) (.int 100)) .nil)) .nil) (.cons (.asg (.name 4) (.call "_law_pick" sp__law_pick (.cons (.var 0) (.cons (.lst false (.cons (.int 1) (.cons (.int 2) (.cons (.int 3) (.cons (.int 5) (.cons (.int 99) .nil)))))) .nil)))) (.cons (.ret (.call "_law_machine" sp__law_machine (.cons (.var 0) (.cons (.var 1) (.cons (.var 2) (.cons (.var 3) (.cons (.var 4) (.cons (.lst false (.cons (.str "a") (.cons (.str "b") .nil))) (.cons (.cmp .Eq (.call "_law_draw" sp__law_draw (.cons (.var 0) (.cons (.int 4) .nil))) (.int 0)) .nil))))))))) .nil))))))
def n__law_drawn : List Str := ["pool", "clocks", "places", "deeds", "top"]
theorem w__law_drawn : ∀ vs s Q X, vs.length = 1 → sp__law_drawn vs s Q X → wpFn n__law_drawn.length b__law_drawn vs s Q X := by
  intro vs s Q X hl h
  unfold sp__law_drawn at h
  split at h
  · rename_i p
    rw [fn_eq]
    unfold b__law_drawn n__law_drawn
    obtain ⟨hp, h⟩ := h
    simp_all only [ss_nil, Nx_nil]
    refine ⟨by decide, callS_of ⟨hp, by simp, by decide, fun i v hv => ?_⟩⟩
    have hv' : ∃ n : Nat, v = .int n ∧ n ≤ 8 := by
      have := mem_at hv
      simp only [List.mem_cons, List.not_mem_nil, or_false] at this
      rcases this with e | e | e | e | e | e | e
      · exact ⟨0, e, by decide⟩
      · exact ⟨1, e, by decide⟩
      · exact ⟨1, e, by decide⟩
      · exact ⟨2, e, by decide⟩
      · exact ⟨2, e, by decide⟩
      · exact ⟨3, e, by decide⟩
      · exact ⟨8, e, by decide⟩
    obtain ⟨k, rfl, hk⟩ := hv'
    simp_all only [ss_nil, Nx_nil]
    (first | rw [Nx_eq] | rw [Arm_eq] | skip); (try simp_all only [ss_nil, Nx_nil])
    refine callS_of ⟨hp, .of (by decide), fun u u0 u1 _ => ?_⟩
    have u1 := u1 (by decide)
    simp_all only [ss_nil, Nx_nil]
    (first | rw [Nx_eq] | rw [Arm_eq] | skip); (try simp_all only [ss_nil, Nx_nil])
    refine callS_of ⟨hp, .of (by decide), fun w w0 w1 _ => ?_⟩
    have w1 := w1 (by decide)
    simp_all only [ss_nil, Nx_nil]
    (first | rw [Nx_eq] | rw [Arm_eq] | skip); (try simp_all only [ss_nil, Nx_nil])
    refine callS_of ⟨hp, .of (by decide), fun z z0 z1 _ => ?_⟩
    have fin : ∀ P D : Int, 1 ≤ P → P ≤ 64 → 0 ≤ D → D ≤ 100 → Nx (.cons (.asg (.name 4) (.call "_law_pick" sp__law_pick (.cons (.var 0) (.cons (.lst false (.cons (.int 1) (.cons (.int 2) (.cons (.int 3) (.cons (.int 5) (.cons (.int 99) .nil)))))) .nil)))) (.cons (.ret (.call "_law_machine" sp__law_machine (.cons (.var 0) (.cons (.var 1) (.cons (.var 2) (.cons (.var 3) (.cons (.var 4) (.cons (.lst false (.cons (.str "a") (.cons (.str "b") .nil))) (.cons (.cmp .Eq (.call "_law_draw" sp__law_draw (.cons (.var 0) (.cons (.int 4) .nil))) (.int 0)) .nil))))))))) .nil)) (fnEnds Q X)
        [some (.ref p), some (.int k), some (.int P), some (.int D), none] s := by
      intro P D P1 P2 D0 D2
      (first | rw [Nx_eq] | rw [Arm_eq] | skip); (try simp_all only [ss_nil, Nx_nil])
      refine ⟨by decide, callS_of ⟨hp, by simp, by decide, fun i v hv => ?_⟩⟩
      have hv' : ∃ n : Nat, v = .int n ∧ 1 ≤ n ∧ n ≤ 99 := by
        have := mem_at hv
        simp only [List.mem_cons, List.not_mem_nil, or_false] at this
        rcases this with e | e | e | e | e
        · exact ⟨1, e, by decide, by decide⟩
        · exact ⟨2, e, by decide, by decide⟩
        · exact ⟨3, e, by decide, by decide⟩
        · exact ⟨5, e, by decide, by decide⟩
        · exact ⟨99, e, by decide, by decide⟩
      obtain ⟨top, rfl, t1, t2⟩ := hv'
      simp_all only [ss_nil, Nx_nil]
      (first | rw [Nx_eq] | rw [Arm_eq] | skip); (try simp_all only [ss_nil, Nx_nil])
      refine ⟨by decide, callS_of ⟨hp, .of (by decide), fun y y0 y1 _ => ?_⟩⟩
      simp_all only [ss_nil, Nx_nil]
      refine callS_of ⟨hp, k, top, P.toNat, D.toNat, ["a", "b"], rfl, (Int.toNat_of_nonneg (by omega)).symm, (Int.toNat_of_nonneg (by omega)).symm, rfl, rfl, by simp, by decide, by omega, by omega, by omega, by omega, t1, by omega, fun m hm => ⟨s, .rfl, h m ⟨k, P.toNat, D.toNat, top, _, hk, by omega, by omega, by omega, t1, t2, hm⟩⟩⟩
    simp_all only [ss_nil, Nx_nil]
    split
    · (first | rw [Nx_eq] | rw [Arm_eq] | skip); (try simp_all only [ss_nil, Nx_nil])
      (first | rw [Nx_eq] | rw [Arm_eq] | skip); (try simp_all only [ss_nil, Nx_nil])
      exact fin _ _ (by decide) (by decide) (by decide) (by decide)
    · (first | rw [Nx_eq] | rw [Arm_eq] | skip); (try simp_all only [ss_nil, Nx_nil])
      exact fin _ _ (by omega) (by omega) (by omega) (by omega)
  · exact h.elim
end TK

set_option maxRecDepth 100000
set_option maxHeartbeats 4000000
namespace TK
open PySem PySem.Spec PyProof.Rows L2
/-- all tests of a machine -/
def Mc.tests (m : Mc) : List Tt := m.rooms.flatMap (·.1) ++ m.deeds.flatMap (·.guard)
theorem flat_take {α β : Type} {f : α → List β} {l : List α} {i : Nat} {x : α} (h : l[i]? = some x) : (l.take (i + 1)).flatMap f = (l.take i).flatMap f ++ f x := by
  rw [take_one h, List.flatMap_append]; simp
theorem flat_len {α β : Type} {f : α → List β} : ∀ {l : List α}, (∀ x ∈ l, (f x).length ≤ 1000) → (l.flatMap f).length ≤ 1000 * l.length
  | [], _ => by simp
  | x :: r, h => by
    have a := h x List.mem_cons_self
    have b := flat_len (l := r) fun y hy => h y (List.mem_cons_of_mem _ hy)
    rw [List.flatMap_cons, List.length_append, List.length_cons]; omega
theorem Mc.tests_ok {m : Mc} (h : m.ok) : (∀ t ∈ m.tests, t.ok m.k) ∧ m.tests.length ≤ 2000000 := by
  unfold Mc.tests
  refine ⟨fun t ht => ?_, ?_⟩
  · rcases List.mem_append.mp ht with ht | ht
    · obtain ⟨r, hr, hrt⟩ := List.mem_flatMap.mp ht
      exact (h.hold r hr).1 t hrt
    · obtain ⟨r, hr, hrt⟩ := List.mem_flatMap.mp ht
      exact (h.deed r hr).2.2.1 t hrt
  · have a := flat_len (f := fun r : List Tt × Nat => r.1) (l := m.rooms) fun r hr => (h.hold r hr).2
    have b := flat_len (f := fun r : Dd => r.guard) (l := m.deeds) fun r hr => (h.deed r hr).2.2.2.1
    have := h.nrooms
    have := h.ndeeds
    rw [List.length_append]; omega
def sp__law_all_tests : PSpec
  | [a], st, Q, _ => ∃ m : Mc, a = mV m ∧ m.ok ∧ Q (.lst (m.tests.map tV)) st
  | _, _, _, _ => False
def b__law_all_tests_2 : Ss :=
  (.cons (.expr (.meth .extend (.var 1) (.cons (.blt .list false (.cons (.idx (.var 3) (.int 2)) .nil)) .nil))) .nil)
def b__law_all_tests_1 : Ss :=
  (.cons (.expr (.meth .extend (.var 1) (.cons (.blt .list false (.cons (.idx (.var 2) (.int 0)) .nil)) .nil))) .nil)
def b__law_all_tests : Ss :=
  (.cons (.asg (.name 1) (.lst true .nil)) (.cons (.loop (.name 2) (.val (.idx (.var 0) (.int 1))) b__law_all_tests_1) (.cons (.loop (.name 3) (.val (.idx (.var 0) (.int 2))) b__law_all_tests_2) (.cons (.ret (.fvar 1)) .nil))))
def n__law_all_tests : List Str := ["machine", "told", "place", "deed"]
theorem w__law_all_tests : ∀ vs s Q X, vs.length = 1 → sp__law_all_tests vs s Q X → wpFn n__law_all_tests.length b__law_all_tests vs s Q X := by
  intro vs s Q X hl h
  unfold sp__law_all_tests at h
  split at h
  · rename_i a
    rw [fn_eq]
    unfold b__law_all_tests n__law_all_tests
    obtain ⟨m, rfl, hm, h⟩ := h
    have sz : 3000000 ≤ sizeLine := by decide
    have h1 := hm.nrooms
    have h2 := hm.ndeeds
    simp_all only [ss_nil, Nx_nil, mV]
    refine ⟨by decide, fun q hq => ?_⟩
    (first | rw [Nx_eq] | rw [Arm_eq] | skip); (try simp_all only [ss_nil, Nx_nil])
    refine for_at (fun i τ st => ∃ (o : Option PV), τ = [some (.tup [.int m.k, .tup (m.rooms.map rmV), .tup (m.deeds.map dV)]), some (.ref q), o, none] ∧ st = up s q (some (.lst (((m.rooms.take i).flatMap (·.1)).map tV)))) ?_ ?_ ⟨_, rfl, rfl⟩
    · rintro i v τ st hi ⟨o, rfl, rfl⟩
      obtain ⟨r, rfl, hr⟩ := get_map hi
      refine ⟨trivial, ?_⟩
      unfold b__law_all_tests_1
      have l1 := flat_len (f := fun r : List Tt × Nat => r.1) (l := m.rooms.take i) fun r hr => (hm.hold r (List.mem_of_mem_take hr)).2
      have l2 := (hm.hold r (mem_at hr)).2
      rw [List.length_take] at l1
      simp_all only [ss_nil, Nx_nil, rmV, lstOf_ref, up_same, List.length_map, up_up]
      refine ⟨by omega, ?_⟩
      exact ⟨_, rfl, by rw [flat_take hr, List.map_append]⟩
    · rintro τ st ⟨o, rfl, rfl⟩
      refine ⟨trivial, ?_⟩
      rw [List.length_map, List.take_length]
      simp_all only [ss_nil, Nx_nil]
      (first | rw [Nx_eq] | rw [Arm_eq] | skip); (try simp_all only [ss_nil, Nx_nil])
      refine for_at (fun i τ st => ∃ (o3 : Option PV), τ = [some (.tup [.int m.k, .tup (m.rooms.map rmV), .tup (m.deeds.map dV)]), some (.ref q), o, o3] ∧ st = up s q (some (.lst ((m.rooms.flatMap (·.1) ++ (m.deeds.take i).flatMap (·.guard)).map tV)))) ?_ ?_ ⟨_, rfl, by simp⟩
      · rintro i v τ st hi ⟨o3, rfl, rfl⟩
        obtain ⟨r, rfl, hr⟩ := get_map hi
        refine ⟨trivial, ?_⟩
        unfold b__law_all_tests_2
        have l1 := flat_len (f := fun r : List Tt × Nat => r.1) (l := m.rooms) fun r hr => (hm.hold r hr).2
        have l3 := flat_len (f := fun r : Dd => r.guard) (l := m.deeds.take i) fun r hr => (hm.deed r (List.mem_of_mem_take hr)).2.2.2.1
        have l2 := (hm.deed r (mem_at hr)).2.2.2.1
        rw [List.length_take] at l3
        unfold dV
        simp_all only [ss_nil, Nx_nil, lstOf_ref, up_same, List.length_map, List.length_append, up_up]
        refine ⟨by omega, ?_⟩
        exact ⟨_, rfl, by rw [flat_take hr, List.map_append, List.map_append, List.map_append, List.append_assoc]⟩
      · rintro τ st ⟨o3, rfl, rfl⟩
        refine ⟨trivial, ?_⟩
        rw [List.length_map, List.take_length]
        simp_all only [ss_nil, Nx_nil]
        (first | rw [Nx_eq] | rw [Arm_eq] | skip); (try simp_all only [ss_nil, Nx_nil, up_up])
        rw [up_id hq]
        exact ⟨s, .rfl, h⟩
  · exact h.elim
def sp__law_step : PSpec
  | [.ref p], st, Q, _ => st p = some .pool ∧ ∀ (v : PV) (r : Rat), Fr 60 v r → Q v st
  | _, _, _, _ => False
def b__law_step : Ss :=
  (.cons (.asg (.name 1) (.bin .Add false (.bin .Pow false (.int 10) (.int 12)) (.call "_law_pick" sp__law_pick (.cons (.var 0) (.cons (.lst false (.cons (.int 0) (.cons (.int 39) .nil))) .nil))))) (.cons (.ret (.call "_law_pick" sp__law_pick (.cons (.var 0) (.cons (.lst false (.cons (.tup (.cons (.int 0) (.cons (.int 1) .nil))) (.cons (.tup (.cons (.int 0) (.cons (.int 1) .nil))) (.cons (.tup (.cons (.int 0) (.cons (.int 1) .nil))) (.cons (.tup (.cons (.int 1) (.cons (.int 2) .nil))) (.cons (.tup (.cons (.neg (.int 1)) (.cons (.int 3) .nil))) (.cons (.tup (.cons (.int 1) (.cons (.var 1) .nil))) (.cons (.tup (.cons (.neg (.int 1)) (.cons (.var 1) .nil))) (.cons (.tup (.cons (.int 5) (.cons (.int 7) .nil))) (.cons (.tup (.cons (.int 3) (.cons (.int 1) .nil))) .nil)))))))))) .nil)))) .nil))
def n__law_step : List Str := ["pool", "great"]
theorem w__law_step : ∀ vs s Q X, vs.length = 1 → sp__law_step vs s Q X → wpFn n__law_step.length b__law_step vs s Q X := by
  intro vs s Q X hl h
  unfold sp__law_step at h
  split at h
  · rename_i p
    rw [fn_eq]
    unfold b__law_step n__law_step
    obtain ⟨hp, h⟩ := h
    simp_all only [ss_nil, Nx_nil]
    refine ⟨by unfold CPow; decide, by decide, callS_of ⟨hp, by simp, by decide, fun i v hv => ?_⟩⟩
    have hv' : ∃ n : Int, v = .int n ∧ 0 ≤ n ∧ n ≤ 39 := by
      have := mem_at hv
      simp only [List.mem_cons, List.not_mem_nil, or_false] at this
      rcases this with e | e <;> exact ⟨_, e, by decide, by decide⟩
    obtain ⟨n, rfl, n1, n6⟩ := hv'
    simp_all only [ss_nil, Nx_nil]
    (first | rw [Nx_eq] | rw [Arm_eq] | skip); (try simp_all only [ss_nil, Nx_nil])
    repeat (refine ⟨by decide, ?_⟩)
    refine callS_of ⟨hp, by simp, (show (9 : Nat) ≤ 10 ^ 9 by decide), fun i v hv => ?_⟩
    have mk : ∀ a b : Int, 0 < b → a.natAbs ≤ 5 → b ≤ 10 ^ 12 + 39 → ∃ r, Fr 60 (.tup [.int a, .int b]) r := fun a b h1 h2 h3 => ⟨_, a, b, rfl, h1, by omega, by omega, rfl⟩
    have hv' : ∃ r, Fr 60 v r := by
      have := mem_at hv
      simp only [List.mem_cons, List.not_mem_nil, or_false] at this
      rcases this with rfl | rfl | rfl | rfl | rfl | rfl | rfl | rfl | rfl <;> exact mk _ _ (by omega) (by decide) (by omega)
    obtain ⟨r, hr⟩ := hv'
    exact ⟨s, .rfl, h v r hr⟩
  · exact h.elim
def sp__law_near : PSpec
  | [.ref p, .int c, .lst xs], st, Q, _ => st p = some .pool ∧ ∃ (k : Nat) (ts : List Tt), c = k ∧ k ≤ 1000 ∧ xs = ts.map tV ∧ ts.length ≤ 2000000 ∧ (∀ t ∈ ts, t.n ≤ 1000) ∧ ∀ vals : List Rat, vals.length = k → VB 100 vals → Q (vsV vals) st
  | _, _, _, _ => False
def b__law_near_1 : Ss :=
  (.cons (.asg (.name 5) (.bin .Add false (.comp false [7] (.name 7) (.val (.var 2)) (.cons (.cmp .Eq (.idx (.var 7) (.int 0)) (.var 4)) .nil) (.idx (.var 7) (.int 2))) (.lst false (.cons (.int 0) (.cons (.int 0) (.cons (.int 1) .nil)))))) (.cons (.asg (.name 6) (.call "_law_plus" sp__law_plus (.cons (.tup (.cons (.call "_law_pick" sp__law_pick (.cons (.var 0) (.cons (.var 5) .nil))) (.cons (.int 1) .nil))) (.cons (.call "_law_step" sp__law_step (.cons (.var 0) .nil)) .nil)))) (.cons (.expr (.meth .append (.var 3) (.cons (.ite (.cmp .Lt (.idx (.var 6) (.int 0)) (.int 0)) (.tup (.cons (.int 0) (.cons (.int 1) .nil))) (.var 6)) .nil))) .nil)))
def b__law_near : Ss :=
  (.cons (.asg (.name 3) (.lst true .nil)) (.cons (.loop (.name 4) (.range2 (.int 1) (.bin .Add false (.var 1) (.int 1))) b__law_near_1) (.cons (.ret (.blt .tuple false (.cons (.var 3) .nil))) .nil)))
def n__law_near : List Str := ["pool", "clocks", "tests", "told", "clock", "numbers", "value", "test"]
theorem w__law_near : ∀ vs s Q X, vs.length = 3 → sp__law_near vs s Q X → wpFn n__law_near.length b__law_near vs s Q X := by
  intro vs s Q X hl h
  unfold sp__law_near at h
  split at h
  · rename_i p c xs
    rw [fn_eq]
    unfold b__law_near n__law_near
    obtain ⟨hp, k, ts, rfl, hk, rfl, htl, hts, h⟩ := h
    simp_all only [ss_nil, Nx_nil]
    refine ⟨by decide, fun q hq => ?_⟩
    have pq : p ≠ q := fun e => by rw [← e, hp] at hq; cases hq
    have hpu : ∀ c, up s q c p = some .pool := fun c => by rw [up_ne pq]; exact hp
    have sz : 3000000 ≤ sizeLine := by decide
    (first | rw [Nx_eq] | rw [Arm_eq] | skip); (try simp_all only [ss_nil, Nx_nil])
    refine ⟨by unfold R62; omega, by unfold R62; omega, ?_⟩
    refine for_at (fun i τ st => ∃ (o4 o5 o6 : Option PV) (vals : List Rat), τ = [some (.ref p), some (.int k), some (.lst (ts.map tV)), some (.ref q), o4, o5, o6, none] ∧ st = up s q (some (.lst (vals.map ratV))) ∧ vals.length = i ∧ VB 100 vals) ?_ ?_ ⟨_, _, _, [], rfl, rfl, rfl, fun _ h => (nomatch h)⟩
    · rintro i v τ st hi ⟨o4, o5, o6, vals, rfl, rfl, hlen, hv⟩
      obtain ⟨i1, rfl⟩ := get_rng hi
      refine ⟨trivial, ?_⟩
      unfold b__law_near_1
      simp_all only [ss_nil, Nx_nil]
      refine lc_filter (fun t => decide ((t.c : Int) = 1 + (i : Int))) (fun t : Tt => .int t.n) ts (fun t ht => ⟨_, rfl, fun st' sub => ⟨fun K hk => ?_, fun _ K hk => ?_⟩⟩) ?_
      · simp_all only [ss_nil, Nx_nil, tV]
        split <;> rename_i hc
        · rw [decide_eq_true hc] at hk; exact hk
        · rw [decide_eq_false hc] at hk; exact hk
      · simp_all only [ss_nil, Nx_nil, tV]
        exact hk
      have hfl := List.length_filter_le (fun t : Tt => decide ((t.c : Int) = 1 + (i : Int))) ts
      have hfm : ∀ t ∈ ts.filter (fun t : Tt => decide ((t.c : Int) = 1 + (i : Int))), t.n ≤ 1000 := fun t ht => hts t (List.mem_filter.mp ht).1
      revert hfl hfm
      generalize ts.filter (fun t : Tt => decide ((t.c : Int) = 1 + (i : Int))) = fs
      intro hfl hfm
      simp_all only [ss_nil, Nx_nil, List.length_map]
      refine ⟨by decide, by omega, ?_⟩
      (first | rw [Nx_eq] | rw [Arm_eq] | skip); (try simp_all only [ss_nil, Nx_nil])
      refine callS_of ⟨hpu _, by simp, by rw [List.length_append, List.length_map]; simp; omega, fun j v hv' => ?_⟩
      have hv2 : ∃ n : Int, v = .int n ∧ 0 ≤ n ∧ n ≤ 1000 := by
        rcases List.mem_append.mp (mem_at hv') with hm | hm
        · obtain ⟨t, ht, rfl⟩ := List.mem_map.mp hm
          have := hfm t ht
          exact ⟨_, rfl, by omega, by omega⟩
        · simp only [List.mem_cons, List.not_mem_nil, or_false] at hm
          rcases hm with e | e | e <;> exact ⟨_, e, by decide, by decide⟩
      obtain ⟨n, rfl, n0, n1⟩ := hv2
      simp_all only [ss_nil, Nx_nil]
      refine ⟨by decide, callS_of ⟨hpu _, fun v r hr => ?_⟩⟩
      simp_all only [ss_nil, Nx_nil]
      have f1 : Fr 10 (.tup [.int n, .int 1]) (Rat.divInt n 1) := ⟨n, 1, rfl, by decide, by omega, by decide, rfl⟩
      refine callS_of ⟨_, _, f1.mono (by decide), hr.mono (by decide), ?_⟩
      have hb : Bd 100 (Rat.divInt n 1 + r) := (f1.add hr).1.mono (by decide)
      revert hb
      generalize Rat.divInt n 1 + r = y
      intro hb
      have app : ∀ z : Rat, Bd 100 z → ∃ vals' : List Rat, up (up s q (some (.lst (vals.map ratV)))) q (some (.lst (vals.map ratV ++ [ratV z]))) = up s q (some (.lst (vals'.map ratV))) ∧ vals'.length = i + 1 ∧ VB 100 vals' := by
        intro z hz
        refine ⟨vals ++ [z], by rw [up_up, List.map_append]; rfl, by rw [List.length_append, hlen]; rfl, fun c hc => ?_⟩
        rcases List.mem_append.mp hc with hc | hc
        · exact hv c hc
        · rw [List.mem_singleton.mp hc]; exact hz
      have ln : (vals.map ratV).length < sizeLine := by rw [List.length_map]; omega
      simp_all only [ss_nil, Nx_nil]
      (first | rw [Nx_eq] | rw [Arm_eq] | skip); (try simp_all only [ss_nil, Nx_nil, ratV])
      split
      · obtain ⟨vals', e1, e2, e3⟩ := app 0 (Bd.zero 100 (by decide))
        exact ⟨by decide, ln, _, _, _, vals', rfl, e1, e2, e3⟩
      · obtain ⟨vals', e1, e2, e3⟩ := app y hb
        exact ⟨ln, _, _, _, vals', rfl, e1, e2, e3⟩
    · rintro τ st ⟨o4, o5, o6, vals, rfl, rfl, hlen, hv⟩
      rw [rng_len] at hlen
      refine ⟨trivial, ?_⟩
      simp_all only [ss_nil, Nx_nil]
      (first | rw [Nx_eq] | rw [Arm_eq] | skip); (try simp_all only [ss_nil, Nx_nil])
      exact ⟨s, sub_new hq, h vals (by omega) hv⟩
  · exact h.elim
def sp__law_wait_near : PSpec
  | [.ref p, a, b], st, Q, _ => st p = some .pool ∧ ∃ (m : Mc) (x : Nat × List Rat), a = mV m ∧ b = stV x ∧ m.ok ∧ x.1 < m.rooms.length ∧ x.2.length = m.k ∧ VB 100 x.2 ∧ ∀ (v : PV) (r : Rat), Fr 300 v r → Q v st
  | _, _, _, _ => False
def b__law_wait_near : Ss :=
  (.cons (.asg (.name 3) (.idx (.idx (.idx (.var 1) (.int 1)) (.idx (.var 2) (.int 0))) (.int 0))) (.cons (.ite (.bools .And (.cons (.cmp .Gt (.blt .len false (.cons (.var 3) .nil)) (.int 0)) (.cons (.cmp .Gt (.call "_law_draw" sp__law_draw (.cons (.var 0) (.cons (.int 4) .nil))) (.int 0)) .nil))) (.cons (.asg (.name 4) (.call "_law_pick" sp__law_pick (.cons (.var 0) (.cons (.var 3) .nil)))) (.cons (.asg (.name 5) (.call "_law_less_by" sp__law_less_by (.cons (.tup (.cons (.idx (.var 4) (.int 2)) (.cons (.int 1) .nil))) (.cons (.idx (.idx (.var 2) (.int 1)) (.bin .Sub false (.idx (.var 4) (.int 0)) (.int 1))) .nil)))) (.cons (.asg (.name 5) (.call "_law_plus" sp__law_plus (.cons (.var 5) (.cons (.call "_law_step" sp__law_step (.cons (.var 0) .nil)) .nil)))) (.cons (.ite (.cmp .GtE (.idx (.var 5) (.int 0)) (.int 0)) (.cons (.ret (.var 5)) .nil) .nil) .nil)))) .nil) (.cons (.ret (.call "_law_pick" sp__law_pick (.cons (.var 0) (.cons (.lst false (.cons (.tup (.cons (.int 0) (.cons (.int 1) .nil))) (.cons (.tup (.cons (.int 1) (.cons (.bin .Pow false (.int 10) (.int 12)) .nil))) (.cons (.tup (.cons (.int 99) (.cons (.int 1) .nil))) (.cons (.call "_law_fraction" sp__law_fraction (.cons (.var 0) .nil)) (.cons (.call "_law_fraction" sp__law_fraction (.cons (.var 0) .nil)) .nil)))))) .nil)))) .nil)))
def n__law_wait_near : List Str := ["pool", "machine", "state", "hold", "test", "rest"]
theorem w__law_wait_near : ∀ vs s Q X, vs.length = 3 → sp__law_wait_near vs s Q X → wpFn n__law_wait_near.length b__law_wait_near vs s Q X := by
  intro vs s Q X hl h
  unfold sp__law_wait_near at h
  split at h
  · rename_i p a b
    rw [fn_eq]
    unfold b__law_wait_near n__law_wait_near
    obtain ⟨hp, m, x, rfl, rfl, hm, hx1, hx2, hv, h⟩ := h
    obtain ⟨pl, vals⟩ := x
    have ra := room_at hx1
    obtain ⟨h1, h2⟩ := Mc.holdOf_ok hm hx1
    have h2' : (m.holdOf pl).length ≤ 10 ^ 6 := h2
    simp_all only [ss_nil, Nx_nil, mV, stV, vsV, ra]
    have last : ∀ o4 o5 : Option PV, Nx (.cons (.ret (.call "_law_pick" sp__law_pick (.cons (.var 0) (.cons (.lst false (.cons (.tup (.cons (.int 0) (.cons (.int 1) .nil))) (.cons (.tup (.cons (.int 1) (.cons (.bin .Pow false (.int 10) (.int 12)) .nil))) (.cons (.tup (.cons (.int 99) (.cons (.int 1) .nil))) (.cons (.call "_law_fraction" sp__law_fraction (.cons (.var 0) .nil)) (.cons (.call "_law_fraction" sp__law_fraction (.cons (.var 0) .nil)) .nil)))))) .nil)))) .nil) (fnEnds Q X)
        [some (.ref p), some (.tup [.int m.k, .tup (m.rooms.map rmV), .tup (m.deeds.map dV)]), some (.tup [.int pl, .tup (vals.map ratV)]), some (.tup ((m.holdOf pl).map tV)), o4, o5] s := by
      intro o4 o5
      (first | rw [Nx_eq] | rw [Arm_eq] | skip); (try simp_all only [ss_nil, Nx_nil])
      refine ⟨by decide, by unfold CPow; decide, by decide, by decide, callS_of ⟨hp, fun r1 hr1 _ => ?_⟩⟩
      simp_all only [ss_nil, Nx_nil]
      refine callS_of ⟨hp, fun r2 hr2 _ => ?_⟩
      simp_all only [ss_nil, Nx_nil]
      refine ⟨by decide, callS_of ⟨hp, by simp, (show (5 : Nat) ≤ 10 ^ 9 by decide), fun i v hv => ?_⟩⟩
      have mk : ∀ a b : Int, 0 < b → a.natAbs ≤ 99 → b ≤ 10 ^ 12 + 39 → ∃ r, Fr 300 (.tup [.int a, .int b]) r := fun a b h1 h2 h3 => ⟨_, a, b, rfl, h1, by omega, by omega, rfl⟩
      have hv' : ∃ r, Fr 300 v r := by
        have := mem_at hv
        simp only [List.mem_cons, List.not_mem_nil, or_false] at this
        rcases this with rfl | rfl | rfl | rfl | rfl
        · exact mk _ _ (by omega) (by decide) (by omega)
        · exact mk _ _ (by omega) (by decide) (by omega)
        · exact mk _ _ (by omega) (by decide) (by omega)
        · exact ⟨_, hr1.fr.mono (by decide)⟩
        · exact ⟨_, hr2.fr.mono (by decide)⟩
      obtain ⟨r, hr⟩ := hv'
      exact ⟨s, .rfl, h v r hr⟩
    (first | rw [Nx_eq] | rw [Arm_eq] | skip); (try simp_all only [ss_nil, Nx_nil, List.length_map])
    by_cases hz : m.holdOf pl = []
    · have hz' : (0 < ((m.holdOf pl).length : Int)) = False := by simp [hz]
      simp_all only [ss_nil, Nx_nil, hz']
      (first | rw [Nx_eq] | rw [Arm_eq] | skip); (try simp_all only [ss_nil, Nx_nil])
      exact last _ _
    · have hlen : 0 < (m.holdOf pl).length := List.length_pos_iff.mpr hz
      have hz' : (0 < ((m.holdOf pl).length : Int)) = True := by simp [hlen]
      simp_all only [ss_nil, Nx_nil, hz']
      refine callS_of ⟨hp, .of (by decide), fun u u0 u1 _ => ?_⟩
      simp_all only [ss_nil, Nx_nil]
      split
      · (first | rw [Nx_eq] | rw [Arm_eq] | skip); (try simp_all only [ss_nil, Nx_nil])
        refine callS_of ⟨hp, by simpa using hz, by rw [List.length_map]; omega, fun i v hv' => ?_⟩
        obtain ⟨t, rfl, ht⟩ := get_map hv'
        have tok := h1 t (mem_at ht)
        rw [← hx2] at tok
        obtain ⟨e, hb⟩ := vs_get hv tok
        have f1 : Fr 10 (.tup [.int t.n, .int 1]) (Rat.divInt t.n 1) := ⟨t.n, 1, rfl, by decide, by have := tok.2.2; omega, by decide, rfl⟩
        have tv : tV t = .tup [.int t.c, .str (sgS t.s), .int t.n] := rfl
        simp_all only [ss_nil, Nx_nil, tv]
        (first | rw [Nx_eq] | rw [Arm_eq] | skip); (try simp_all only [ss_nil, Nx_nil, e])
        refine ⟨by decide, callS_of ⟨_, _, f1.mono (by decide), hb.fr.mono (by decide), ?_⟩⟩
        have b1 := (f1.add hb.fr).2
        revert b1
        generalize Rat.divInt t.n 1 - vals.getD (t.c - 1) 0 = y
        intro b1
        simp_all only [ss_nil, Nx_nil]
        (first | rw [Nx_eq] | rw [Arm_eq] | skip); (try simp_all only [ss_nil, Nx_nil])
        refine callS_of ⟨hp, fun v r hr => ?_⟩
        simp_all only [ss_nil, Nx_nil]
        refine callS_of ⟨_, _, b1.fr.mono (by decide), hr.mono (by decide), ?_⟩
        have b2 := (b1.fr.add hr).1
        revert b2
        generalize y + r = z
        intro b2
        simp_all only [ss_nil, Nx_nil]
        (first | rw [Nx_eq] | rw [Arm_eq] | skip); (try simp_all only [ss_nil, Nx_nil, ratV])
        split
        · (first | rw [Nx_eq] | rw [Arm_eq] | skip); (try simp_all only [ss_nil, Nx_nil])
          exact ⟨s, .rfl, h _ z (b2.fr.mono (by decide))⟩
        · (first | rw [Nx_eq] | rw [Arm_eq] | skip); (try simp_all only [ss_nil, Nx_nil])
          exact last _ _
      · (first | rw [Nx_eq] | rw [Arm_eq] | skip); (try simp_all only [ss_nil, Nx_nil])
        exact last _ _
  · exact h.elim
end TK

set_option maxRecDepth 100000
set_option maxHeartbeats 4000000
namespace TK
open PySem PySem.Spec PyProof.Rows L2
/-! ### the plain law of waits -/
def Mc.lo (m : Mc) : Prop := ∀ r ∈ m.rooms, ∀ t ∈ r.1, t.s = .lt ∨ t.s = .le
theorem Mc.drawn.lo {m : Mc} (h : m.drawn) : m.lo := by
  obtain ⟨k, P, D, top, c, h1, h2, h3, h4, h5, h6, h⟩ := h
  intro r hr t ht
  have := ((h.rooms r hr).2.1 t ht).2.2.2
  cases c with
  | true => simp [holdSg] at this; exact .inr this
  | false => simp [holdSg] at this; exact this
theorem getD_add {vals : List Rat} {i : Nat} {r : Rat} (h : i < vals.length) : (vals.map (· + r)).getD i 0 = vals.getD i 0 + r := by
  rw [List.getD_eq_getElem?_getD, List.getD_eq_getElem?_getD, List.getElem?_map, List.getElem?_eq_getElem h]; rfl
theorem Tt.holds_le {t : Tt} {v w : List Rat} (ht : t.s = .lt ∨ t.s = .le) (h : v.getD (t.c - 1) 0 ≤ w.getD (t.c - 1) 0) (hw : t.holds w = true) : t.holds v = true := by
  unfold Tt.holds at *
  rcases ht with e | e <;> rw [e] at hw ⊢ <;> unfold sgH at * <;> simp only [decide_eq_true_eq] at hw ⊢
  · exact Std.lt_of_le_of_lt h hw
  · exact Rat.le_trans h hw
theorem Mc.holdOf_lo {m : Mc} (h : m.lo) {p : Nat} (hp : p < m.rooms.length) : ∀ t ∈ m.holdOf p, t.s = .lt ∨ t.s = .le := by
  unfold Mc.holdOf
  rw [List.getD_eq_getElem?_getD, List.getElem?_eq_getElem hp]
  exact h _ (List.getElem_mem hp)
theorem Mc.wait_none {m : Mc} (hm : m.ok) (lo : m.lo) {x : Nat × List Rat} {r1 r2 : Rat} (hp : x.1 < m.rooms.length) (hx : x.2.length = m.k) (h2 : 0 ≤ r2) (h : m.wait x r1 = none) : m.wait x (r1 + r2) = none := by
  unfold Mc.wait at *
  by_cases hh : (m.holdOf x.1).all (Tt.holds (x.2.map (· + (r1 + r2)))) = true
  · exfalso
    have e : (m.holdOf x.1).all (Tt.holds (x.2.map (· + r1))) = true := by
      rw [List.all_eq_true] at hh ⊢
      intro t ht
      have tok := (Mc.holdOf_ok hm hp).1 t ht
      refine Tt.holds_le (Mc.holdOf_lo lo hp t ht) ?_ (hh t ht)
      have hl : t.c - 1 < x.2.length := by have := tok.1; have := tok.2.1; omega
      rw [getD_add hl, getD_add hl, ← Rat.add_assoc]
      have := Rat.add_le_add_left (c := x.2.getD (t.c - 1) 0 + r1) |>.mpr h2
      rwa [Rat.add_zero] at this
    rw [if_pos e] at h; cases h
  · exact if_neg hh
theorem Mc.wait_two {m : Mc} {x y : Nat × List Rat} {r1 r2 : Rat} (h : m.wait x r1 = some y) : m.wait y r2 = m.wait x (r1 + r2) := by
  have e : y = (x.1, x.2.map (· + r1)) := by
    unfold Mc.wait at h
    split at h
    · exact (Option.some.inj h).symm
    · cases h
  subst e
  unfold Mc.wait
  have e2 : (x.2.map (· + r1)).map (· + r2) = x.2.map (· + (r1 + r2)) := by
    rw [List.map_map]
    refine List.map_congr_left fun a _ => ?_
    show a + r1 + r2 = a + (r1 + r2)
    exact Rat.add_assoc ..
  show (if (m.holdOf x.1).all (Tt.holds ((x.2.map (· + r1)).map (· + r2))) = true then some (x.1, (x.2.map (· + r1)).map (· + r2)) else none) = _
  rw [e2]
theorem Mc.wait_some {m : Mc} {x y : Nat × List Rat} {r : Rat} (h : m.wait x r = some y) : y = (x.1, x.2.map (· + r)) := by
  unfold Mc.wait at h
  split at h
  · exact (Option.some.inj h).symm
  · cases h
theorem Mc.act_some {m : Mc} {x y : Nat × List Rat} {d : Nat} (h : m.act x d = some y) : (m.deedOf d).src = x.1 ∧ y = ((m.deedOf d).tgt, backV x.2 (m.deedOf d).backs) := by
  unfold Mc.act at h
  split at h
  · rename_i hs
    split at h
    · exact ⟨hs.1, (Option.some.inj h).symm⟩
    · cases h
  · cases h
/-! ### states may be shown -/
theorem rats_show {vals : List Rat} (h : VB 1800 vals) {n : Nat} (hn : n ≠ 0) : shOks n (vals.map ratV) ∧ wgts (vals.map ratV) = 1151 * vals.length := by
  induction vals with
  | nil => exact ⟨by unfold List.map shOks; trivial, rfl⟩
  | cons x r ih =>
    obtain ⟨a, b⟩ := ih fun y hy => h y (List.mem_cons_of_mem _ hy)
    obtain ⟨h1, h2⟩ := h x List.mem_cons_self
    have lt : 2 ^ 1800 ≤ 10 ^ 570 := by decide
    refine ⟨?_, ?_⟩
    · rw [List.map_cons]
      unfold shOks
      refine ⟨?_, a⟩
      unfold ratV shOk
      refine ⟨hn, ?_⟩
      unfold shOks
      refine ⟨?_, ?_⟩
      · unfold shOk; exact Nat.lt_of_lt_of_le h1 lt
      · unfold shOks
        refine ⟨?_, ?_⟩
        · unfold shOk; exact Nat.lt_of_lt_of_le h2 lt
        · unfold shOks; trivial
    · rw [List.map_cons, List.length_cons]
      show 1149 + 2 + wgts (r.map ratV) = _
      rw [b]; omega
theorem stO_show {o : Option (Nat × List Rat)} (h : ∀ y, o = some y → y.1 ≤ 10 ^ 6 ∧ y.2.length ≤ 1000 ∧ VB 1800 y.2) : ShowOk (stO o) ∧ noRef (stO o) = true := by
  cases o with
  | none => exact ⟨showOk_of (by unfold stO shOk; trivial) (by decide), rfl⟩
  | some y =>
    obtain ⟨h1, h2, h3⟩ := h y rfl
    refine ⟨?_, rfl⟩
    obtain ⟨a, b⟩ := rats_show h3 (n := 58) (by decide)
    refine showOk_of ?_ ?_
    · unfold stO stV vsV shOk
      refine ⟨by decide, ?_⟩
      unfold shOks
      refine ⟨?_, ?_⟩
      · unfold shOk Pn
        exact Nat.lt_of_le_of_lt (by simpa using h1) (show (10 : Nat) ^ 6 < 10 ^ 570 by decide)
      · unfold shOks
        refine ⟨?_, by unfold shOks; trivial⟩
        unfold shOk
        exact ⟨by decide, a⟩
    · show 571 + 2 + ((wgts (y.2.map ratV) + 3) + 2 + 0) + 3 ≤ _
      rw [b]
      have sz : 2000000 ≤ sizeLine := by decide
      omega
theorem nats_show {bs : List Nat} (h : ∀ b ∈ bs, b ≤ 10 ^ 6) (hl : bs.length ≤ 1000) : ShowOk (.tup (bs.map fun (b : Nat) => .int (b : Int))) := by
  have key : ∀ {bs : List Nat}, (∀ b ∈ bs, b ≤ 10 ^ 6) → shOks 59 (bs.map fun (b : Nat) => .int (b : Int)) ∧ wgts (bs.map fun (b : Nat) => .int (b : Int)) = 573 * bs.length := by
    intro bs
    induction bs with
    | nil => intro _; exact ⟨by unfold List.map shOks; trivial, rfl⟩
    | cons x r ih =>
      intro h
      obtain ⟨a, b⟩ := ih fun y hy => h y (List.mem_cons_of_mem _ hy)
      refine ⟨?_, ?_⟩
      · rw [List.map_cons]
        unfold shOks
        refine ⟨?_, a⟩
        unfold shOk Pn
        exact Nat.lt_of_le_of_lt (by simpa using h x List.mem_cons_self) (show (10 : Nat) ^ 6 < 10 ^ 570 by decide)
      · rw [List.map_cons, List.length_cons]
        show 571 + 2 + wgts _ = _
        rw [b]; omega
  obtain ⟨a, b⟩ := key h
  refine showOk_of ?_ ?_
  · unfold shOk; exact ⟨by decide, a⟩
  · show wgts _ + 3 ≤ _
    rw [b]
    have sz : 2000000 ≤ sizeLine := by decide
    omega
theorem bool_show (b : Bool) : ShowOk (.bl b) := showOk_of (by unfold shOk; trivial) (show (571 : Nat) ≤ sizeLine by decide)
/-- what is asked of a state -/
structure stOk (m : Mc) (x : Nat × List Rat) : Prop where
  p : x.1 < m.rooms.length
  k : x.2.length = m.k
  b : VB 100 x.2
def sp__law_waits_asked : PSpec
  | [.ref p, a, b], st, Q, _ => st p = some .pool ∧ ∃ (m : Mc) (x : Nat × List Rat), a = mV m ∧ b = stV x ∧ m.ok ∧ m.lo ∧ stOk m x ∧ Q (.bl true) st
  | _, _, _, _ => False
def b__law_waits_asked : Ss :=
  (.cons (.asg (.name 3) (.call "_law_wait_near" sp__law_wait_near (.cons (.var 0) (.cons (.var 1) (.cons (.var 2) .nil))))) (.cons (.asg (.name 4) (.call "_law_pick" sp__law_pick (.cons (.var 0) (.cons (.lst false (.cons (.tup (.cons (.int 0) (.cons (.int 1) .nil))) (.cons (.tup (.cons (.int 1) (.cons (.int 3) .nil))) (.cons (.tup (.cons (.int 1) (.cons (.bin .Pow false (.int 10) (.int 12)) .nil))) (.cons (.call "_law_fraction" sp__law_fraction (.cons (.var 0) .nil)) .nil))))) .nil)))) (.cons (.asg (.name 5) (.call "waited" sp_waited (.cons (.var 1) (.cons (.var 2) (.cons (.var 3) .nil))))) (.cons (.ite (.not (.val (.call "_law_same" sp__law_same (.cons (.var 5) (.cons (.call "_law_wait" sp__law_wait (.cons (.var 1) (.cons (.var 2) (.cons (.var 3) .nil)))) .nil))))) (.cons (.ret (.bl false)) .nil) .nil) (.cons (.asg (.name 6) (.call "_law_plus" sp__law_plus (.cons (.var 3) (.cons (.var 4) .nil)))) (.cons (.asg (.name 7) (.call "_law_wait" sp__law_wait (.cons (.var 1) (.cons (.var 2) (.cons (.var 6) .nil))))) (.cons (.ite (.not (.val (.call "_law_same" sp__law_same (.cons (.call "waited" sp_waited (.cons (.var 1) (.cons (.var 2) (.cons (.var 6) .nil)))) (.cons (.var 7) .nil))))) (.cons (.ret (.bl false)) .nil) .nil) (.cons (.ite (.cmp .Is (.var 5) .non) (.cons (.ret (.cmp .Is (.var 7) .non)) .nil) .nil) (.cons (.ret (.call "_law_same" sp__law_same (.cons (.call "waited" sp_waited (.cons (.var 1) (.cons (.var 5) (.cons (.var 4) .nil)))) (.cons (.var 7) .nil)))) .nil)))))))))
def n__law_waits_asked : List Str := ["pool", "machine", "state", "first", "rest", "part", "both", "due"]
theorem w__law_waits_asked : ∀ vs s Q X, vs.length = 3 → sp__law_waits_asked vs s Q X → wpFn n__law_waits_asked.length b__law_waits_asked vs s Q X := by
  intro vs s Q X hl h
  unfold sp__law_waits_asked at h
  split at h
  · rename_i p a b
    rw [fn_eq]
    unfold b__law_waits_asked n__law_waits_asked
    obtain ⟨hp, m, x, rfl, rfl, hm, lo, hx, h⟩ := h
    have h1 := hm.nrooms
    have h2 := hm.k
    have h3 := hx.p
    have h4 := hx.k
    simp_all only [ss_nil, Nx_nil]
    refine callS_of ⟨hp, m, x, rfl, rfl, hm, hx.p, hx.k, hx.b, fun v r hr => ?_⟩
    simp_all only [ss_nil, Nx_nil]
    (first | rw [Nx_eq] | rw [Arm_eq] | skip); (try simp_all only [ss_nil, Nx_nil])
    refine ⟨by decide, by decide, by unfold CPow; decide, by decide, callS_of ⟨hp, fun r1 hr1 n1 => ?_⟩⟩
    simp_all only [ss_nil, Nx_nil]
    refine ⟨by decide, callS_of ⟨hp, by simp, (show (4 : Nat) ≤ 10 ^ 9 by decide), fun i v hv => ?_⟩⟩
    have mk : ∀ a b : Int, 0 < b → 0 ≤ a → a.natAbs ≤ 99 → b ≤ 10 ^ 12 + 39 → ∃ r, Fr 300 (.tup [.int a, .int b]) r ∧ 0 ≤ r := fun a b h1 h0 h2 h3 => ⟨_, ⟨a, b, rfl, h1, by omega, by omega, rfl⟩, by
      rw [Rat.divInt_nonneg_iff_of_pos_right h1]; exact h0⟩
    have hv' : ∃ r, Fr 300 v r ∧ 0 ≤ r := by
      have := mem_at hv
      simp only [List.mem_cons, List.not_mem_nil, or_false] at this
      rcases this with rfl | rfl | rfl | rfl
      · exact mk _ _ (by omega) (by omega) (by decide) (by omega)
      · exact mk _ _ (by omega) (by omega) (by decide) (by omega)
      · exact mk _ _ (by omega) (by omega) (by decide) (by omega)
      · exact ⟨_, hr1.fr.mono (by decide), n1⟩
    obtain ⟨r2, hr2, n2⟩ := hv'
    simp_all only [ss_nil, Nx_nil]
    (first | rw [Nx_eq] | rw [Arm_eq] | skip); (try simp_all only [ss_nil, Nx_nil])
    refine callS_of ⟨m, x, r, rfl, rfl, hr.mono (by decide), hm, hx.p, hx.k, hx.b.mono (by decide), ?_⟩
    simp_all only [ss_nil, Nx_nil]
    (first | rw [Nx_eq] | rw [Arm_eq] | skip); (try simp_all only [ss_nil, Nx_nil])
    have vb1 : VB 401 (x.2.map (· + r)) := hx.b.add hr.bd
    have sh1 := stO_show (o := m.wait x r) fun y hy => by
      rw [Mc.wait_some hy]
      exact ⟨by show x.1 ≤ _; omega, by rw [List.length_map]; omega, vb1.mono (by decide)⟩
    have br := (hr.add hr2).1
    have vb2 : VB 702 (x.2.map (· + (r + r2))) := hx.b.add br
    have sh2 := stO_show (o := m.wait x (r + r2)) fun y hy => by
      rw [Mc.wait_some hy]
      exact ⟨by show x.1 ≤ _; omega, by rw [List.length_map]; omega, vb2.mono (by decide)⟩
    refine callS_of ⟨m, x, r, rfl, rfl, hr.mono (by decide), hm, hx.p, hx.k, hx.b.mono (by decide), ?_⟩
    simp_all only [ss_nil, Nx_nil]
    refine callS_of ⟨rfl, sh1.2, sh1.1, ?_⟩
    simp_all only [ss_nil, Nx_nil]
    (first | rw [Nx_eq] | rw [Arm_eq] | skip); (try simp_all only [ss_nil, Nx_nil])
    (first | rw [Nx_eq] | rw [Arm_eq] | skip); (try simp_all only [ss_nil, Nx_nil])
    refine callS_of ⟨r, r2, hr.mono (by decide), hr2.mono (by decide), ?_⟩
    simp_all only [ss_nil, Nx_nil]
    (first | rw [Nx_eq] | rw [Arm_eq] | skip); (try simp_all only [ss_nil, Nx_nil])
    refine callS_of ⟨m, x, r + r2, rfl, rfl, br.fr.mono (by decide), hm, hx.p, hx.k, hx.b.mono (by decide), ?_⟩
    simp_all only [ss_nil, Nx_nil]
    (first | rw [Nx_eq] | rw [Arm_eq] | skip); (try simp_all only [ss_nil, Nx_nil])
    refine callS_of ⟨m, x, r + r2, rfl, rfl, br.fr.mono (by decide), hm, hx.p, hx.k, hx.b.mono (by decide), ?_⟩
    simp_all only [ss_nil, Nx_nil]
    refine callS_of ⟨rfl, sh2.2, sh2.1, ?_⟩
    simp_all only [ss_nil, Nx_nil]
    (first | rw [Nx_eq] | rw [Arm_eq] | skip); (try simp_all only [ss_nil, Nx_nil])
    (first | rw [Nx_eq] | rw [Arm_eq] | skip); (try simp_all only [ss_nil, Nx_nil])
    cases e1 : m.wait x r with
    | none =>
      have e2 := Mc.wait_none hm lo hx.p hx.k n2 e1
      rw [e2]
      simp_all only [ss_nil, Nx_nil, stO]
      (first | rw [Nx_eq] | rw [Arm_eq] | skip); (try simp_all only [ss_nil, Nx_nil, stO])
      exact ⟨s, .rfl, h⟩
    | some y =>
      have ey := Mc.wait_some e1
      have e2 := Mc.wait_two (r2 := r2) e1
      have y1 : y.1 < m.rooms.length := by rw [ey]; exact hx.p
      have y2 : y.2.length = m.k := by rw [ey]; show (x.2.map (· + r)).length = _; rw [List.length_map]; exact hx.k
      have y3 : VB 1500 y.2 := by rw [ey]; exact vb1.mono (by decide)
      have so : stO (some y) = stV y := rfl
      have sn : isNon (stV y) = false := rfl
      simp_all only [ss_nil, Nx_nil, so, sn]
      (first | rw [Nx_eq] | rw [Arm_eq] | skip); (try simp_all only [ss_nil, Nx_nil])
      (first | rw [Nx_eq] | rw [Arm_eq] | skip); (try simp_all only [ss_nil, Nx_nil])
      refine callS_of ⟨m, y, r2, rfl, rfl, hr2.mono (by decide), hm, y1, y2, y3, ?_⟩
      rw [e2]
      simp_all only [ss_nil, Nx_nil]
      exact callS_of ⟨rfl, sh2.2, sh2.1, s, .rfl, h⟩
  · exact h.elim
end TK

set_option maxRecDepth 100000
set_option maxHeartbeats 4000000
namespace TK
open PySem PySem.Spec PyProof.Rows L2
theorem Mc.act_show {m : Mc} (hm : m.ok) {x : Nat × List Rat} (hx : stOk m x) {d : Nat} (hd : d < m.deeds.length) : ShowOk (stO (m.act x d)) ∧ noRef (stO (m.act x d)) = true := by
  refine stO_show fun y hy => ?_
  obtain ⟨_, rfl⟩ := Mc.act_some hy
  have := (hm.deed _ (deed_at hd).2).2.1
  have h1 := hm.nrooms
  have h2 := hm.k
  refine ⟨by show (m.deedOf d).tgt ≤ _; omega, by show (backV _ _).length ≤ _; rw [backV_len, hx.k]; omega, (VB.back (by decide) hx.b _).mono (by decide)⟩
theorem zip_range {α : Type} (P : Nat → Bool) : ∀ (l : List α) (k : Nat), (∀ q ∈ l.zipIdx k, P q.2 = true ∨ P q.2 = false) → ((l.zipIdx k).map (·.2)).filter P = ((List.range' k l.length).filter P) := by
  intro l k _
  rw [List.zipIdx_map_snd]
/-- the deeds that can be done are those that act tells -/
theorem Mc.open_eq {m : Mc} {x : Nat × List Rat} : m.open x = (List.range m.deeds.length).filter fun d => (m.act x d).isSome := by
  unfold Mc.open Mc.from
  rw [List.filter_map, List.filter_filter]
  have e : (m.deeds.zipIdx 0).filter (fun a => ((fun d => (m.act x d).isSome) ∘ fun q : Dd × Nat => q.2) a && decide (a.1.src = x.1)) = (m.deeds.zipIdx 0).filter ((fun d => (m.act x d).isSome) ∘ fun q : Dd × Nat => q.2) := by
    refine List.filter_congr fun q hq => ?_
    show ((m.act x q.2).isSome && decide (q.1.src = x.1)) = (m.act x q.2).isSome
    cases h : m.act x q.2 with
    | none => rfl
    | some y =>
      have hs := (Mc.act_some h).1
      have hq2 : m.deeds[q.2]? = some q.1 := List.mem_zipIdx_iff_getElem?.mp hq
      have e : m.deedOf q.2 = q.1 := by unfold Mc.deedOf; rw [List.getD_eq_getElem?_getD, hq2]; rfl
      rw [e] at hs
      simp [hs]
  rw [e, ← List.filter_map, List.zipIdx_map_snd, List.range_eq_range']
def sp__law_deeds_asked : PSpec
  | [a, b], st, Q, _ => ∃ (m : Mc) (x : Nat × List Rat), a = mV m ∧ b = stV x ∧ m.ok ∧ stOk m x ∧ Q (.bl true) st
  | _, _, _, _ => False
def b__law_deeds_asked_1 : Ss :=
  (.cons (.asg (.name 4) (.call "_law_act" sp__law_act (.cons (.var 0) (.cons (.var 1) (.cons (.var 3) .nil))))) (.cons (.ite (.cmp .IsNot (.var 4) .non) (.cons (.expr (.meth .append (.var 2) (.cons (.var 3) .nil))) .nil) .nil) (.cons (.ite (.not (.val (.call "_law_same" sp__law_same (.cons (.call "acted" sp_acted (.cons (.var 0) (.cons (.var 1) (.cons (.var 3) .nil)))) (.cons (.var 4) .nil))))) (.cons (.ret (.bl false)) .nil) .nil) .nil)))
def b__law_deeds_asked : Ss :=
  (.cons (.asg (.name 2) (.lst true .nil)) (.cons (.loop (.name 3) (.range1 (.blt .len false (.cons (.idx (.var 0) (.int 2)) .nil))) b__law_deeds_asked_1) (.cons (.ret (.call "_law_same" sp__law_same (.cons (.call "open_deeds" sp_open_deeds (.cons (.var 0) (.cons (.var 1) .nil))) (.cons (.blt .tuple false (.cons (.var 2) .nil)) .nil)))) .nil)))
def n__law_deeds_asked : List Str := ["machine", "state", "ready", "deed", "due"]
theorem filter_snoc {P : Nat → Bool} {i : Nat} : (List.range (i + 1)).filter P = (List.range i).filter P ++ (if P i = true then [i] else []) := by
  rw [List.range_succ, List.filter_append]
  congr 1
  cases h : P i <;> simp [h]
theorem w__law_deeds_asked : ∀ vs s Q X, vs.length = 2 → sp__law_deeds_asked vs s Q X → wpFn n__law_deeds_asked.length b__law_deeds_asked vs s Q X := by
  intro vs s Q X hl h
  unfold sp__law_deeds_asked at h
  split at h
  · rename_i a b
    rw [fn_eq]
    unfold b__law_deeds_asked n__law_deeds_asked
    obtain ⟨m, x, rfl, rfl, hm, hx, h⟩ := h
    have sz : 10000 ≤ sizeLine := by decide
    have h3 := hm.ndeeds
    simp_all only [ss_nil, Nx_nil]
    refine ⟨by decide, fun q hq => ?_⟩
    have mv : mV m = .tup [.int m.k, .tup (m.rooms.map rmV), .tup (m.deeds.map dV)] := rfl
    (first | rw [Nx_eq] | rw [Arm_eq] | skip); (try simp_all only [ss_nil, Nx_nil, mv])
    rw [← mv]
    refine ⟨by unfold R62; rw [List.length_map]; omega, ?_⟩
    refine for_at (fun i τ st => ∃ (o3 o4 : Option PV), τ = [some (mV m), some (stV x), some (.ref q), o3, o4] ∧ st = up s q (some (.lst (((List.range i).filter fun d => (m.act x d).isSome).map fun (d : Nat) => .int (d : Int))))) ?_ ?_ ⟨_, _, rfl, rfl⟩
    · rintro i v τ st hi ⟨o3, o4, rfl, rfl⟩
      obtain ⟨i1, rfl⟩ := get_rng hi
      rw [List.length_map, Int.toNat_natCast] at i1
      refine ⟨trivial, ?_⟩
      unfold b__law_deeds_asked_1
      have fl := List.length_filter_le (fun d => (m.act x d).isSome) (List.range i)
      rw [List.length_range] at fl
      have sh := Mc.act_show hm hx i1
      simp_all only [ss_nil, Nx_nil, Int.zero_add]
      refine callS_of ⟨m, x, i, rfl, rfl, rfl, hm, i1, hx.k, hx.b.mono (by decide), ?_⟩
      simp_all only [ss_nil, Nx_nil]
      cases e : m.act x i with
      | none =>
        rw [e] at sh
        have so : stO none = .non := rfl
        (first | rw [Nx_eq] | rw [Arm_eq] | skip); (try simp_all only [ss_nil, Nx_nil, so])
        (first | rw [Nx_eq] | rw [Arm_eq] | skip); (try simp_all only [ss_nil, Nx_nil])
        (first | rw [Nx_eq] | rw [Arm_eq] | skip); (try simp_all only [ss_nil, Nx_nil])
        refine callS_of ⟨m, x, i, rfl, rfl, rfl, hm, i1, hx.k, hx.b.mono (by decide), ?_⟩
        rw [e]
        simp_all only [ss_nil, Nx_nil, so]
        refine callS_of ⟨rfl, sh.2, sh.1, ?_⟩
        simp_all only [ss_nil, Nx_nil]
        (first | rw [Nx_eq] | rw [Arm_eq] | skip); (try simp_all only [ss_nil, Nx_nil])
        exact ⟨_, _, rfl, by rw [filter_snoc, e]; simp⟩
      | some y =>
        rw [e] at sh
        have so : isNon (stO (some y)) = false := rfl
        (first | rw [Nx_eq] | rw [Arm_eq] | skip); (try simp_all only [ss_nil, Nx_nil, so])
        (first | rw [Nx_eq] | rw [Arm_eq] | skip); (try simp_all only [ss_nil, Nx_nil, List.length_map, up_up])
        refine ⟨by omega, ?_⟩
        (first | rw [Nx_eq] | rw [Arm_eq] | skip); (try simp_all only [ss_nil, Nx_nil])
        refine callS_of ⟨m, x, i, rfl, rfl, rfl, hm, i1, hx.k, hx.b.mono (by decide), ?_⟩
        rw [e]
        simp_all only [ss_nil, Nx_nil]
        refine callS_of ⟨rfl, sh.2, sh.1, ?_⟩
        simp_all only [ss_nil, Nx_nil]
        (first | rw [Nx_eq] | rw [Arm_eq] | skip); (try simp_all only [ss_nil, Nx_nil])
        exact ⟨_, _, rfl, by rw [filter_snoc, e]; simp⟩
    · rintro τ st ⟨o3, o4, rfl, rfl⟩
      refine ⟨trivial, ?_⟩
      rw [rng_len, List.length_map, Int.toNat_natCast, ← Mc.open_eq]
      simp_all only [ss_nil, Nx_nil]
      (first | rw [Nx_eq] | rw [Arm_eq] | skip); (try simp_all only [ss_nil, Nx_nil])
      refine callS_of ⟨m, x, rfl, rfl, hm, hx.k, hx.b.mono (by decide), ?_⟩
      simp_all only [ss_nil, Nx_nil]
      have ol : (m.open x).length ≤ 1000 := by
        rw [Mc.open_eq]
        have fl := List.length_filter_le (fun d => (m.act x d).isSome) (List.range m.deeds.length)
        rw [List.length_range] at fl
        omega
      have ob : ∀ b ∈ m.open x, b ≤ 10 ^ 6 := fun b hb => by
        rw [Mc.open_eq] at hb
        have := List.mem_range.mp (List.mem_filter.mp hb).1
        omega
      exact callS_of ⟨rfl, rfl, nats_show ob ol, s, sub_new hq, h⟩
  · exact h.elim
def sp__law_tests_asked : PSpec
  | [a, .lst xs, b], st, Q, _ => ∃ (m : Mc) (x : Nat × List Rat), a = mV m ∧ xs = m.tests.map tV ∧ b = stV x ∧ m.ok ∧ stOk m x ∧ Q (.bl true) st
  | _, _, _, _ => False
def b__law_tests_asked_3 : Ss :=
  (.cons (.ite (.not (.val (.call "_law_same" sp__law_same (.cons (.call "meets_all" sp_meets_all (.cons (.idx (.var 5) (.int 2)) (.cons (.idx (.var 2) (.int 1)) .nil))) (.cons (.call "_law_meets" sp__law_meets (.cons (.idx (.var 5) (.int 2)) (.cons (.idx (.var 2) (.int 1)) .nil))) .nil))))) (.cons (.ret (.bl false)) .nil) .nil) .nil)
def b__law_tests_asked_2 : Ss :=
  (.cons (.ite (.not (.val (.call "_law_same" sp__law_same (.cons (.call "meets_all" sp_meets_all (.cons (.idx (.var 4) (.int 0)) (.cons (.idx (.var 2) (.int 1)) .nil))) (.cons (.call "_law_meets" sp__law_meets (.cons (.idx (.var 4) (.int 0)) (.cons (.idx (.var 2) (.int 1)) .nil))) .nil))))) (.cons (.ret (.bl false)) .nil) .nil) .nil)
def b__law_tests_asked_1 : Ss :=
  (.cons (.asg (.name 6) (.call "_law_compare" sp__law_compare (.cons (.idx (.idx (.var 2) (.int 1)) (.bin .Sub false (.idx (.var 3) (.int 0)) (.int 1))) (.cons (.idx (.var 3) (.int 1)) (.cons (.idx (.var 3) (.int 2)) .nil))))) (.cons (.ite (.not (.val (.call "_law_same" sp__law_same (.cons (.call "meets" sp_meets (.cons (.var 3) (.cons (.idx (.var 2) (.int 1)) .nil))) (.cons (.var 6) .nil))))) (.cons (.ret (.bl false)) .nil) .nil) .nil))
def b__law_tests_asked : Ss :=
  (.cons (.loop (.name 3) (.val (.var 1)) b__law_tests_asked_1) (.cons (.loop (.name 4) (.val (.idx (.var 0) (.int 1))) b__law_tests_asked_2) (.cons (.loop (.name 5) (.val (.idx (.var 0) (.int 2))) b__law_tests_asked_3) (.cons (.ret (.call "_law_same" sp__law_same (.cons (.call "meets_all" sp_meets_all (.cons (.tup .nil) (.cons (.idx (.var 2) (.int 1)) .nil))) (.cons (.bl true) .nil)))) .nil))))
def n__law_tests_asked : List Str := ["machine", "tests", "state", "test", "place", "deed", "due"]
theorem w__law_tests_asked : ∀ vs s Q X, vs.length = 3 → sp__law_tests_asked vs s Q X → wpFn n__law_tests_asked.length b__law_tests_asked vs s Q X := by
  intro vs s Q X hl h
  unfold sp__law_tests_asked at h
  split at h
  · rename_i a xs b
    rw [fn_eq]
    unfold b__law_tests_asked n__law_tests_asked
    obtain ⟨m, x, rfl, rfl, rfl, hm, hx, h⟩ := h
    obtain ⟨pl, vals⟩ := x
    have hk : vals.length = m.k := hx.k
    have hv : VB 3900 vals := hx.b.mono (by decide)
    have okv : ∀ {ts : List Tt}, (∀ t ∈ ts, t.ok m.k) → ∀ t ∈ ts, t.ok vals.length := fun k t ht => by rw [hk]; exact k t ht
    have tl : ∀ n : Nat, n ≤ 1000 → n ≤ 10 ^ 6 := fun n h => Nat.le_trans h (by decide)
    simp_all only [ss_nil, Nx_nil]
    refine for_at (fun i τ st => st = s ∧ ∃ o3 o6, τ = [some (mV m), some (.lst (m.tests.map tV)), some (stV (pl, vals)), o3, none, none, o6]) ?_ ?_ ⟨rfl, _, _, rfl⟩
    · rintro i v τ st hi ⟨rfl, o3, o6, rfl⟩
      obtain ⟨t, rfl, ht⟩ := get_map hi
      have tok := (Mc.tests_ok hm).1 t (mem_at ht)
      rw [← hk] at tok
      obtain ⟨e, hb⟩ := vs_get hv tok
      refine ⟨trivial, ?_⟩
      unfold b__law_tests_asked_1
      simp_all only [ss_nil, Nx_nil, tV, stV, vsV, e]
      refine callS_of ⟨_, t.s, t.n, hb.fr, rfl, rfl, tok.2.2, ?_⟩
      simp_all only [ss_nil, Nx_nil]
      (first | rw [Nx_eq] | rw [Arm_eq] | skip); (try simp_all only [ss_nil, Nx_nil])
      refine callS_of ⟨t, vals, rfl, rfl, tok, hv, ?_⟩
      simp_all only [ss_nil, Nx_nil]
      refine callS_of ⟨rfl, rfl, bool_show _, ?_⟩
      simp_all only [ss_nil, Nx_nil]
      (first | rw [Nx_eq] | rw [Arm_eq] | skip); (try simp_all only [ss_nil, Nx_nil])
      exact ⟨_, _, rfl⟩
    · rintro τ st ⟨rfl, o3, o6, rfl⟩
      refine ⟨trivial, ?_⟩
      simp_all only [ss_nil, Nx_nil]
      (first | rw [Nx_eq] | rw [Arm_eq] | skip); (try simp_all only [ss_nil, Nx_nil, mV])
      refine for_at (fun i τ st' => st' = st ∧ ∃ o4, τ = [some (mV m), some (.lst (m.tests.map tV)), some (stV (pl, vals)), o3, o4, none, o6]) ?_ ?_ ⟨rfl, _, rfl⟩
      · rintro i v τ st' hi ⟨rfl, o4, rfl⟩
        obtain ⟨r, rfl, hr⟩ := get_map hi
        obtain ⟨r1, r2⟩ := hm.hold r (mem_at hr)
        refine ⟨trivial, ?_⟩
        unfold b__law_tests_asked_2
        simp_all only [ss_nil, Nx_nil, rmV, stV]
        refine callS_of ⟨r.1, vals, rfl, rfl, okv r1, tl _ r2, hv, ?_⟩
        simp_all only [ss_nil, Nx_nil]
        refine callS_of ⟨r.1, vals, rfl, .inl rfl, okv r1, hv, ?_⟩
        simp_all only [ss_nil, Nx_nil]
        refine callS_of ⟨rfl, rfl, bool_show _, ?_⟩
        simp_all only [ss_nil, Nx_nil]
        (first | rw [Nx_eq] | rw [Arm_eq] | skip); (try simp_all only [ss_nil, Nx_nil])
        exact ⟨_, rfl⟩
      · rintro τ st' ⟨rfl, o4, rfl⟩
        refine ⟨trivial, ?_⟩
        simp_all only [ss_nil, Nx_nil]
        (first | rw [Nx_eq] | rw [Arm_eq] | skip); (try simp_all only [ss_nil, Nx_nil, mV])
        refine for_at (fun i τ st => st = st' ∧ ∃ o5, τ = [some (mV m), some (.lst (m.tests.map tV)), some (stV (pl, vals)), o3, o4, o5, o6]) ?_ ?_ ⟨rfl, _, rfl⟩
        · rintro i v τ st hi ⟨rfl, o5, rfl⟩
          obtain ⟨d, rfl, hd⟩ := get_map hi
          obtain ⟨_, _, r1, r2, _⟩ := hm.deed d (mem_at hd)
          refine ⟨trivial, ?_⟩
          unfold b__law_tests_asked_3
          simp_all only [ss_nil, Nx_nil, dV, stV]
          refine callS_of ⟨d.guard, vals, rfl, rfl, okv r1, tl _ r2, hv, ?_⟩
          simp_all only [ss_nil, Nx_nil]
          refine callS_of ⟨d.guard, vals, rfl, .inl rfl, okv r1, hv, ?_⟩
          simp_all only [ss_nil, Nx_nil]
          refine callS_of ⟨rfl, rfl, bool_show _, ?_⟩
          simp_all only [ss_nil, Nx_nil]
          (first | rw [Nx_eq] | rw [Arm_eq] | skip); (try simp_all only [ss_nil, Nx_nil])
          exact ⟨_, rfl⟩
        · rintro τ st ⟨rfl, o5, rfl⟩
          refine ⟨trivial, ?_⟩
          simp_all only [ss_nil, Nx_nil]
          (first | rw [Nx_eq] | rw [Arm_eq] | skip); (try simp_all only [ss_nil, Nx_nil, stV])
          refine ⟨by decide, callS_of ⟨[], vals, rfl, rfl, fun _ h => (nomatch h), by decide, hv, ?_⟩⟩
          simp_all only [ss_nil, Nx_nil]
          exact callS_of ⟨rfl, rfl, bool_show _, st, .rfl, h⟩
  · exact h.elim
def sp__law_machine_asked : PSpec
  | [.ref p, a], st, Q, _ => st p = some .pool ∧ ∃ m : Mc, a = mV m ∧ m.drawn ∧ Q (.bl true) st
  | _, _, _, _ => False
def b__law_machine_asked_2 : Ss :=
  (.cons (.ite (.bools .Or (.cons (.not (.val (.call "_law_waits_asked" sp__law_waits_asked (.cons (.var 0) (.cons (.var 1) (.cons (.var 5) .nil)))))) (.cons (.not (.val (.call "_law_deeds_asked" sp__law_deeds_asked (.cons (.var 1) (.cons (.var 5) .nil))))) .nil))) (.cons (.ret (.bl false)) .nil) .nil) (.cons (.ite (.not (.val (.call "_law_tests_asked" sp__law_tests_asked (.cons (.var 1) (.cons (.var 2) (.cons (.var 5) .nil)))))) (.cons (.ret (.bl false)) .nil) .nil) .nil))
def b__law_machine_asked_1 : Ss :=
  (.cons (.expr (.meth .append (.var 3) (.cons (.tup (.cons (.call "_law_draw" sp__law_draw (.cons (.var 0) (.cons (.blt .len false (.cons (.idx (.var 1) (.int 1)) .nil)) .nil))) (.cons (.call "_law_near" sp__law_near (.cons (.var 0) (.cons (.idx (.var 1) (.int 0)) (.cons (.var 2) .nil)))) .nil))) .nil))) .nil)
def b__law_machine_asked : Ss :=
  (.cons (.asg (.name 2) (.call "_law_all_tests" sp__law_all_tests (.cons (.var 1) .nil))) (.cons (.ite (.not (.val (.call "_law_same" sp__law_same (.cons (.call "start_state" sp_start_state (.cons (.var 1) .nil)) (.cons (.call "_law_start" sp__law_start (.cons (.var 1) .nil)) .nil))))) (.cons (.ret (.bl false)) .nil) .nil) (.cons (.asg (.name 3) (.lst true (.cons (.call "_law_start" sp__law_start (.cons (.var 1) .nil)) .nil))) (.cons (.loop (.name 4) (.range1 (.int 4)) b__law_machine_asked_1) (.cons (.loop (.name 5) (.val (.var 3)) b__law_machine_asked_2) (.cons (.ret (.bl true)) .nil))))))
def n__law_machine_asked : List Str := ["pool", "machine", "tests", "states", "k", "state"]
theorem w__law_machine_asked : ∀ vs s Q X, vs.length = 2 → sp__law_machine_asked vs s Q X → wpFn n__law_machine_asked.length b__law_machine_asked vs s Q X := by
  intro vs s Q X hl h
  unfold sp__law_machine_asked at h
  split at h
  · rename_i p a
    rw [fn_eq]
    unfold b__law_machine_asked n__law_machine_asked
    obtain ⟨hp, m, rfl, hm, h⟩ := h
    have ok := hm.ok
    have lo := hm.lo
    have hr0 : 0 < m.rooms.length := List.length_pos_iff.mpr ok.rooms
    have hr1 := ok.nrooms
    have hk1 := ok.k
    have st0 : stOk m (0, List.replicate m.k 0) := ⟨hr0, by simp, fun r hr => by rw [List.eq_of_mem_replicate hr]; exact Bd.zero 100 (by decide)⟩
    have sz : 10000 ≤ sizeLine := by decide
    simp_all only [ss_nil, Nx_nil]
    refine callS_of ⟨m, rfl, ok, ?_⟩
    simp_all only [ss_nil, Nx_nil]
    (first | rw [Nx_eq] | rw [Arm_eq] | skip); (try simp_all only [ss_nil, Nx_nil])
    refine callS_of ⟨m, rfl, ok.k, ?_⟩
    simp_all only [ss_nil, Nx_nil]
    refine callS_of ⟨m, rfl, ok.k, ?_⟩
    simp_all only [ss_nil, Nx_nil]
    have sh := stO_show (o := some (0, List.replicate m.k 0)) fun y hy => by
      cases hy
      exact ⟨(show (0 : Nat) ≤ 10 ^ 6 by decide), by rw [List.length_replicate]; exact ok.k, st0.b.mono (by decide)⟩
    refine callS_of ⟨rfl, sh.2, sh.1, ?_⟩
    simp_all only [ss_nil, Nx_nil]
    (first | rw [Nx_eq] | rw [Arm_eq] | skip); (try simp_all only [ss_nil, Nx_nil])
    (first | rw [Nx_eq] | rw [Arm_eq] | skip); (try simp_all only [ss_nil, Nx_nil])
    refine callS_of ⟨m, rfl, ok.k, ?_⟩
    simp_all only [ss_nil, Nx_nil]
    refine ⟨by decide, fun q hq => ?_⟩
    have pq : p ≠ q := fun e => by rw [← e, hp] at hq; cases hq
    have hpu : ∀ c, up s q c p = some .pool := fun c => by rw [up_ne pq]; exact hp
    (first | rw [Nx_eq] | rw [Arm_eq] | skip); (try simp_all only [ss_nil, Nx_nil])
    refine ⟨by unfold R62; decide, ?_⟩
    refine for_at (fun i τ st => ∃ (o4 : Option PV) (xs : List (Nat × List Rat)), τ = [some (.ref p), some (mV m), some (.lst (m.tests.map tV)), some (.ref q), o4, none] ∧ st = up s q (some (.lst (xs.map stV))) ∧ xs.length = i + 1 ∧ ∀ x ∈ xs, stOk m x) ?_ ?_ ⟨_, [(0, List.replicate m.k 0)], rfl, rfl, rfl, fun x hx => by rw [List.mem_singleton.mp hx]; exact st0⟩
    · rintro i v τ st hi ⟨o4, xs, rfl, rfl, hlen, hxs⟩
      obtain ⟨i1, rfl⟩ := get_rng hi
      have i4 : i < 4 := i1
      refine ⟨trivial, ?_⟩
      unfold b__law_machine_asked_1
      simp_all only [ss_nil, Nx_nil, mV, List.length_map]
      refine callS_of ⟨hpu _, .of (by omega), fun u u0 u1 u2 => ?_⟩
      have hu : u < m.rooms.length := by rcases Nat.lt_or_ge m.rooms.length 2 with h | h <;> omega
      simp_all only [ss_nil, Nx_nil]
      refine callS_of ⟨hpu _, m.k, m.tests, rfl, hk1, rfl, (Mc.tests_ok ok).2, fun t ht => ((Mc.tests_ok ok).1 t ht).2.2, fun vals hv1 hv2 => ?_⟩
      simp_all only [ss_nil, Nx_nil, List.length_map, up_up]
      refine ⟨by decide, by omega, _, xs ++ [(u.toNat, vals)], rfl, ?_, by rw [List.length_append, hlen]; rfl, fun x hx => ?_⟩
      · rw [List.map_append]
        have e : stV (u.toNat, vals) = .tup [.int u, vsV vals] := by unfold stV; rw [Int.toNat_of_nonneg u0]
        show _ = up s q (some (.lst (xs.map stV ++ [stV (u.toNat, vals)])))
        rw [e]
      · rcases List.mem_append.mp hx with hx | hx
        · exact hxs x hx
        · rw [List.mem_singleton.mp hx]; exact ⟨by show u.toNat < _; omega, hv1, hv2⟩
    · rintro τ st ⟨o4, xs, rfl, rfl, hlen, hxs⟩
      refine ⟨trivial, ?_⟩
      simp_all only [ss_nil, Nx_nil]
      (first | rw [Nx_eq] | rw [Arm_eq] | skip); (try simp_all only [ss_nil, Nx_nil])
      refine for_at (fun i τ st => ∃ (o5 : Option PV), τ = [some (.ref p), some (mV m), some (.lst (m.tests.map tV)), some (.ref q), o4, o5] ∧ st = up s q (some (.lst (xs.map stV)))) ?_ ?_ ⟨_, rfl, rfl⟩
      · rintro i v τ st hi ⟨o5, rfl, rfl⟩
        obtain ⟨x, rfl, hx⟩ := get_map hi
        have so := hxs x (mem_at hx)
        refine ⟨up_same, ?_⟩
        unfold b__law_machine_asked_2
        simp_all only [ss_nil, Nx_nil]
        refine callS_of ⟨hpu _, m, x, rfl, rfl, ok, lo, so, ?_⟩
        simp_all only [ss_nil, Nx_nil]
        refine callS_of ⟨m, x, rfl, rfl, ok, so, ?_⟩
        simp_all only [ss_nil, Nx_nil]
        (first | rw [Nx_eq] | rw [Arm_eq] | skip); (try simp_all only [ss_nil, Nx_nil])
        (first | rw [Nx_eq] | rw [Arm_eq] | skip); (try simp_all only [ss_nil, Nx_nil])
        refine callS_of ⟨m, x, rfl, rfl, rfl, ok, so, ?_⟩
        simp_all only [ss_nil, Nx_nil]
        (first | rw [Nx_eq] | rw [Arm_eq] | skip); (try simp_all only [ss_nil, Nx_nil])
        exact ⟨_, rfl⟩
      · rintro τ st ⟨o5, rfl, rfl⟩
        refine ⟨up_same, ?_⟩
        simp_all only [ss_nil, Nx_nil]
        (first | rw [Nx_eq] | rw [Arm_eq] | skip); (try simp_all only [ss_nil, Nx_nil])
        exact ⟨s, sub_new hq, h⟩
  · exact h.elim
def b_law_1 : Ss :=
  (.cons (.ite (.not (.val (.call "_law_machine_asked" sp__law_machine_asked (.cons (.var 1) (.cons (.var 4) .nil))))) (.cons (.ret (.bl false)) .nil) .nil) .nil)
def b_law : Ss :=
  (.cons (.asg (.name 1) (.call "_law_pool" sp__law_pool (.cons (.var 0) .nil))) (.cons (.asg (.name 2) (.call "_law_drawn" sp__law_drawn (.cons (.var 1) .nil))) (.cons (.asg (.name 3) (.call "_law_drawn" sp__law_drawn (.cons (.var 1) .nil))) (.cons (.loop (.name 4) (.val (.lst false (.cons (.var 2) (.cons (.var 3) (.cons (.var 2) .nil))))) b_law_1) (.cons (.ret (.bl true)) .nil)))))
def n_law : List Str := ["script", "pool", "first", "other", "machine"]
theorem w_law : ∀ vs s Q X, vs.length = 1 → lawSp vs s Q X → wpFn n_law.length b_law vs s Q X := by
  rintro vs s Q X hl ⟨ns, rfl, hns, h⟩
  rw [fn_eq]
  unfold b_law n_law
  simp_all only [ss_nil, Nx_nil]
  refine callS_of fun p hp0 => ?_
  have hp : up s p (some .pool) p = some .pool := up_same
  revert hp
  generalize up s p (some .pool) = s1
  intro hp
  simp_all only [ss_nil, Nx_nil]
  (first | rw [Nx_eq] | rw [Arm_eq] | skip); (try simp_all only [ss_nil, Nx_nil])
  refine callS_of ⟨hp, fun m1 h1 => ?_⟩
  simp_all only [ss_nil, Nx_nil]
  (first | rw [Nx_eq] | rw [Arm_eq] | skip); (try simp_all only [ss_nil, Nx_nil])
  refine callS_of ⟨hp, fun m2 h2 => ?_⟩
  simp_all only [ss_nil, Nx_nil]
  (first | rw [Nx_eq] | rw [Arm_eq] | skip); (try simp_all only [ss_nil, Nx_nil])
  refine ⟨by decide, ?_⟩
  refine for_at (fun i τ st => st = s1 ∧ ∃ o4 : Option PV, τ = [some (.scr ns), some (.ref p), some (mV m1), some (mV m2), o4]) ?_ ?_ ⟨rfl, _, rfl⟩
  · rintro i v τ st hi ⟨rfl, o4, rfl⟩
    have hv : ∃ m : Mc, v = mV m ∧ m.drawn := by
      have := mem_at hi
      simp only [List.mem_cons, List.not_mem_nil, or_false] at this
      rcases this with rfl | rfl | rfl
      · exact ⟨m1, rfl, h1⟩
      · exact ⟨m2, rfl, h2⟩
      · exact ⟨m1, rfl, h1⟩
    obtain ⟨m, rfl, hm⟩ := hv
    refine ⟨trivial, ?_⟩
    unfold b_law_1
    simp_all only [ss_nil, Nx_nil]
    refine callS_of ⟨hp, m, rfl, hm, ?_⟩
    simp_all only [ss_nil, Nx_nil]
    (first | rw [Nx_eq] | rw [Arm_eq] | skip); (try simp_all only [ss_nil, Nx_nil])
    exact ⟨_, rfl⟩
  · rintro τ st ⟨rfl, o4, rfl⟩
    refine ⟨trivial, ?_⟩
    simp_all only [ss_nil, Nx_nil]
    (first | rw [Nx_eq] | rw [Arm_eq] | skip); (try simp_all only [ss_nil, Nx_nil])
    exact ⟨st, .rfl, h st⟩
end TK

namespace TK
open PySem PySem.Spec PyProof.Rows L2
/-! ### the linked text: its defs -/
def topS (i : Nat) : Stmt := PySem.Challenge.pw_tickless_k13_steps_in_fractions.main.body.getD i (.Pass ⟨0, 0, 0, 0⟩)
abbrev s_common_factor : Stmt := topS 2
theorem sc_common_factor : FnScope n_common_factor ["a", "b"] (defScope s_common_factor) := ⟨rfl, rfl, rfl, by decide +kernel, rfl, by decide +kernel, by decide +kernel⟩
theorem ck_common_factor : chkSs b_common_factor ⟨n_common_factor, defScope s_common_factor, defScope s_common_factor⟩ (defBody s_common_factor) = true := by decide +kernel
abbrev s_lowest_terms : Stmt := topS 3
theorem sc_lowest_terms : FnScope n_lowest_terms ["n", "d"] (defScope s_lowest_terms) := ⟨rfl, rfl, rfl, by decide +kernel, rfl, by decide +kernel, by decide +kernel⟩
theorem ck_lowest_terms : chkSs b_lowest_terms ⟨n_lowest_terms, defScope s_lowest_terms, defScope s_lowest_terms⟩ (defBody s_lowest_terms) = true := by decide +kernel
abbrev s_plus : Stmt := topS 4
theorem sc_plus : FnScope n_plus ["a", "b"] (defScope s_plus) := ⟨rfl, rfl, rfl, by decide +kernel, rfl, by decide +kernel, by decide +kernel⟩
theorem ck_plus : chkSs b_plus ⟨n_plus, defScope s_plus, defScope s_plus⟩ (defBody s_plus) = true := by decide +kernel
abbrev s_deeds_from : Stmt := topS 6
theorem sc_deeds_from : FnScope n_deeds_from ["machine", "place"] (defScope s_deeds_from) := ⟨rfl, rfl, rfl, by decide +kernel, rfl, by decide +kernel, by decide +kernel⟩
theorem ck_deeds_from : chkSs b_deeds_from ⟨n_deeds_from, defScope s_deeds_from, defScope s_deeds_from⟩ (defBody s_deeds_from) = true := by decide +kernel
abbrev s_compared : Stmt := topS 8
theorem sc_compared : FnScope n_compared ["value", "sign", "number"] (defScope s_compared) := ⟨rfl, rfl, rfl, by decide +kernel, rfl, by decide +kernel, by decide +kernel⟩
theorem ck_compared : chkSs b_compared ⟨n_compared, defScope s_compared, defScope s_compared⟩ (defBody s_compared) = true := by decide +kernel
abbrev s_meets : Stmt := topS 9
theorem sc_meets : FnScope n_meets ["test", "values"] (defScope s_meets) := ⟨rfl, rfl, rfl, by decide +kernel, rfl, by decide +kernel, by decide +kernel⟩
theorem ck_meets : chkSs b_meets ⟨n_meets, defScope s_meets, defScope s_meets⟩ (defBody s_meets) = true := by decide +kernel
abbrev s_meets_all : Stmt := topS 10
theorem sc_meets_all : FnScope n_meets_all ["tests", "values"] (defScope s_meets_all) := ⟨rfl, rfl, rfl, by decide +kernel, rfl, by decide +kernel, by decide +kernel⟩
theorem ck_meets_all : chkSs b_meets_all ⟨n_meets_all, defScope s_meets_all, defScope s_meets_all⟩ (defBody s_meets_all) = true := by decide +kernel
abbrev s_start_state : Stmt := topS 11
theorem sc_start_state : FnScope n_start_state ["machine"] (defScope s_start_state) := ⟨rfl, rfl, rfl, by decide +kernel, rfl, by decide +kernel, by decide +kernel⟩
theorem ck_start_state : chkSs b_start_state ⟨n_start_state, defScope s_start_state, defScope s_start_state⟩ (defBody s_start_state) = true := by decide +kernel
abbrev s_waited : Stmt := topS 12
theorem sc_waited : FnScope n_waited ["machine", "state", "wait"] (defScope s_waited) := ⟨rfl, rfl, rfl, by decide +kernel, rfl, by decide +kernel, by decide +kernel⟩
theorem ck_waited : chkSs b_waited ⟨n_waited, defScope s_waited, defScope s_waited⟩ (defBody s_waited) = true := by decide +kernel
abbrev s_values_back : Stmt := topS 13
theorem sc_values_back : FnScope n_values_back ["values", "backs"] (defScope s_values_back) := ⟨rfl, rfl, rfl, by decide +kernel, rfl, by decide +kernel, by decide +kernel⟩
theorem ck_values_back : chkSs b_values_back ⟨n_values_back, defScope s_values_back, defScope s_values_back⟩ (defBody s_values_back) = true := by decide +kernel
abbrev s_acted : Stmt := topS 14
theorem sc_acted : FnScope n_acted ["machine", "state", "deed"] (defScope s_acted) := ⟨rfl, rfl, rfl, by decide +kernel, rfl, by decide +kernel, by decide +kernel⟩
theorem ck_acted : chkSs b_acted ⟨n_acted, defScope s_acted, defScope s_acted⟩ (defBody s_acted) = true := by decide +kernel
abbrev s_open_deeds : Stmt := topS 15
theorem sc_open_deeds : FnScope n_open_deeds ["machine", "state"] (defScope s_open_deeds) := ⟨rfl, rfl, rfl, by decide +kernel, rfl, by decide +kernel, by decide +kernel⟩
theorem ck_open_deeds : chkSs b_open_deeds ⟨n_open_deeds, defScope s_open_deeds, defScope s_open_deeds⟩ (defBody s_open_deeds) = true := by decide +kernel
abbrev s__law_pool : Stmt := topS 17
theorem sc__law_pool : FnScope n__law_pool ["script"] (defScope s__law_pool) := ⟨rfl, rfl, rfl, by decide +kernel, rfl, by decide +kernel, by decide +kernel⟩
theorem ck__law_pool : chkSs b__law_pool ⟨n__law_pool, defScope s__law_pool, defScope s__law_pool⟩ (defBody s__law_pool) = true := by decide +kernel
abbrev s__law_mix : Stmt := topS 18
theorem sc__law_mix : FnScope n__law_mix ["pool"] (defScope s__law_mix) := ⟨rfl, rfl, rfl, by decide +kernel, rfl, by decide +kernel, by decide +kernel⟩
theorem ck__law_mix : chkSs b__law_mix ⟨n__law_mix, defScope s__law_mix, defScope s__law_mix⟩ (defBody s__law_mix) = true := by decide +kernel
abbrev s__law_draw : Stmt := topS 19
theorem sc__law_draw : FnScope n__law_draw ["pool", "many"] (defScope s__law_draw) := ⟨rfl, rfl, rfl, by decide +kernel, rfl, by decide +kernel, by decide +kernel⟩
theorem ck__law_draw : chkSs b__law_draw ⟨n__law_draw, defScope s__law_draw, defScope s__law_draw⟩ (defBody s__law_draw) = true := by decide +kernel
abbrev s__law_pick : Stmt := topS 20
theorem sc__law_pick : FnScope n__law_pick ["pool", "menu"] (defScope s__law_pick) := ⟨rfl, rfl, rfl, by decide +kernel, rfl, by decide +kernel, by decide +kernel⟩
theorem ck__law_pick : chkSs b__law_pick ⟨n__law_pick, defScope s__law_pick, defScope s__law_pick⟩ (defBody s__law_pick) = true := by decide +kernel
abbrev s__law_same : Stmt := topS 21
theorem sc__law_same : FnScope n__law_same ["value", "due"] (defScope s__law_same) := ⟨rfl, rfl, rfl, by decide +kernel, rfl, by decide +kernel, by decide +kernel⟩
theorem ck__law_same : chkSs b__law_same ⟨n__law_same, defScope s__law_same, defScope s__law_same⟩ (defBody s__law_same) = true := by decide +kernel
abbrev s__law_gcd : Stmt := topS 22
theorem sc__law_gcd : FnScope n__law_gcd ["a", "b"] (defScope s__law_gcd) := ⟨rfl, rfl, rfl, by decide +kernel, rfl, by decide +kernel, by decide +kernel⟩
theorem ck__law_gcd : chkSs b__law_gcd ⟨n__law_gcd, defScope s__law_gcd, defScope s__law_gcd⟩ (defBody s__law_gcd) = true := by decide +kernel
abbrev s__law_ratio : Stmt := topS 23
theorem sc__law_ratio : FnScope n__law_ratio ["n", "d"] (defScope s__law_ratio) := ⟨rfl, rfl, rfl, by decide +kernel, rfl, by decide +kernel, by decide +kernel⟩
theorem ck__law_ratio : chkSs b__law_ratio ⟨n__law_ratio, defScope s__law_ratio, defScope s__law_ratio⟩ (defBody s__law_ratio) = true := by decide +kernel
abbrev s__law_plus : Stmt := topS 24
theorem sc__law_plus : FnScope n__law_plus ["a", "b"] (defScope s__law_plus) := ⟨rfl, rfl, rfl, by decide +kernel, rfl, by decide +kernel, by decide +kernel⟩
theorem ck__law_plus : chkSs b__law_plus ⟨n__law_plus, defScope s__law_plus, defScope s__law_plus⟩ (defBody s__law_plus) = true := by decide +kernel
abbrev s__law_less_by : Stmt := topS 25
theorem sc__law_less_by : FnScope n__law_less_by ["a", "b"] (defScope s__law_less_by) := ⟨rfl, rfl, rfl, by decide +kernel, rfl, by decide +kernel, by decide +kernel⟩
theorem ck__law_less_by : chkSs b__law_less_by ⟨n__law_less_by, defScope s__law_less_by, defScope s__law_less_by⟩ (defBody s__law_less_by) = true := by decide +kernel
abbrev s__law_compare : Stmt := topS 26
theorem sc__law_compare : FnScope n__law_compare ["value", "sign", "number"] (defScope s__law_compare) := ⟨rfl, rfl, rfl, by decide +kernel, rfl, by decide +kernel, by decide +kernel⟩
theorem ck__law_compare : chkSs b__law_compare ⟨n__law_compare, defScope s__law_compare, defScope s__law_compare⟩ (defBody s__law_compare) = true := by decide +kernel
abbrev s__law_meets : Stmt := topS 27
theorem sc__law_meets : FnScope n__law_meets ["tests", "values"] (defScope s__law_meets) := ⟨rfl, rfl, rfl, by decide +kernel, rfl, by decide +kernel, by decide +kernel⟩
theorem ck__law_meets : chkSs b__law_meets ⟨n__law_meets, defScope s__law_meets, defScope s__law_meets⟩ (defBody s__law_meets) = true := by decide +kernel
abbrev s__law_start : Stmt := topS 28
theorem sc__law_start : FnScope n__law_start ["machine"] (defScope s__law_start) := ⟨rfl, rfl, rfl, by decide +kernel, rfl, by decide +kernel, by decide +kernel⟩
theorem ck__law_start : chkSs b__law_start ⟨n__law_start, defScope s__law_start, defScope s__law_start⟩ (defBody s__law_start) = true := by decide +kernel
abbrev s__law_wait : Stmt := topS 29
theorem sc__law_wait : FnScope n__law_wait ["machine", "state", "wait"] (defScope s__law_wait) := ⟨rfl, rfl, rfl, by decide +kernel, rfl, by decide +kernel, by decide +kernel⟩
theorem ck__law_wait : chkSs b__law_wait ⟨n__law_wait, defScope s__law_wait, defScope s__law_wait⟩ (defBody s__law_wait) = true := by decide +kernel
abbrev s__law_act : Stmt := topS 30
theorem sc__law_act : FnScope n__law_act ["machine", "state", "deed"] (defScope s__law_act) := ⟨rfl, rfl, rfl, by decide +kernel, rfl, by decide +kernel, by decide +kernel⟩
theorem ck__law_act : chkSs b__law_act ⟨n__law_act, defScope s__law_act, defScope s__law_act⟩ (defBody s__law_act) = true := by decide +kernel
abbrev s__law_test : Stmt := topS 31
theorem sc__law_test : FnScope n__law_test ["pool", "clocks", "top", "signs"] (defScope s__law_test) := ⟨rfl, rfl, rfl, by decide +kernel, rfl, by decide +kernel, by decide +kernel⟩
theorem ck__law_test : chkSs b__law_test ⟨n__law_test, defScope s__law_test, defScope s__law_test⟩ (defBody s__law_test) = true := by decide +kernel
abbrev s__law_hold : Stmt := topS 32
theorem sc__law_hold : FnScope n__law_hold ["pool", "clocks", "top", "signs"] (defScope s__law_hold) := ⟨rfl, rfl, rfl, by decide +kernel, rfl, by decide +kernel, by decide +kernel⟩
theorem ck__law_hold : chkSs b__law_hold ⟨n__law_hold, defScope s__law_hold, defScope s__law_hold⟩ (defBody s__law_hold) = true := by decide +kernel
abbrev s__law_guard : Stmt := topS 33
theorem sc__law_guard : FnScope n__law_guard ["pool", "clocks", "top", "signs"] (defScope s__law_guard) := ⟨rfl, rfl, rfl, by decide +kernel, rfl, by decide +kernel, by decide +kernel⟩
theorem ck__law_guard : chkSs b__law_guard ⟨n__law_guard, defScope s__law_guard, defScope s__law_guard⟩ (defBody s__law_guard) = true := by decide +kernel
abbrev s__law_backs : Stmt := topS 34
theorem sc__law_backs : FnScope n__law_backs ["pool", "clocks"] (defScope s__law_backs) := ⟨rfl, rfl, rfl, by decide +kernel, rfl, by decide +kernel, by decide +kernel⟩
theorem ck__law_backs : chkSs b__law_backs ⟨n__law_backs, defScope s__law_backs, defScope s__law_backs⟩ (defBody s__law_backs) = true := by decide +kernel
abbrev s__law_deed : Stmt := topS 35
theorem sc__law_deed : FnScope n__law_deed ["pool", "clocks", "places", "number", "top", "letters", "signs"] (defScope s__law_deed) := ⟨rfl, rfl, rfl, by decide +kernel, rfl, by decide +kernel, by decide +kernel⟩
theorem ck__law_deed : chkSs b__law_deed ⟨n__law_deed, defScope s__law_deed, defScope s__law_deed⟩ (defBody s__law_deed) = true := by decide +kernel
abbrev s__law_machine : Stmt := topS 36
theorem sc__law_machine : FnScope n__law_machine ["pool", "clocks", "places", "deeds", "top", "letters", "closed"] (defScope s__law_machine) := ⟨rfl, rfl, rfl, by decide +kernel, rfl, by decide +kernel, by decide +kernel⟩
theorem ck__law_machine : chkSs b__law_machine ⟨n__law_machine, defScope s__law_machine, defScope s__law_machine⟩ (defBody s__law_machine) = true := by decide +kernel
abbrev s__law_fraction : Stmt := topS 37
theorem sc__law_fraction : FnScope n__law_fraction ["pool"] (defScope s__law_fraction) := ⟨rfl, rfl, rfl, by decide +kernel, rfl, by decide +kernel, by decide +kernel⟩
theorem ck__law_fraction : chkSs b__law_fraction ⟨n__law_fraction, defScope s__law_fraction, defScope s__law_fraction⟩ (defBody s__law_fraction) = true := by decide +kernel
abbrev s__law_drawn : Stmt := topS 38
theorem sc__law_drawn : FnScope n__law_drawn ["pool"] (defScope s__law_drawn) := ⟨rfl, rfl, rfl, by decide +kernel, rfl, by decide +kernel, by decide +kernel⟩
theorem ck__law_drawn : chkSs b__law_drawn ⟨n__law_drawn, defScope s__law_drawn, defScope s__law_drawn⟩ (defBody s__law_drawn) = true := by decide +kernel
abbrev s__law_all_tests : Stmt := topS 39
theorem sc__law_all_tests : FnScope n__law_all_tests ["machine"] (defScope s__law_all_tests) := ⟨rfl, rfl, rfl, by decide +kernel, rfl, by decide +kernel, by decide +kernel⟩
theorem ck__law_all_tests : chkSs b__law_all_tests ⟨n__law_all_tests, defScope s__law_all_tests, defScope s__law_all_tests⟩ (defBody s__law_all_tests) = true := by decide +kernel
abbrev s__law_step : Stmt := topS 40
theorem sc__law_step : FnScope n__law_step ["pool"] (defScope s__law_step) := ⟨rfl, rfl, rfl, by decide +kernel, rfl, by decide +kernel, by decide +kernel⟩
theorem ck__law_step : chkSs b__law_step ⟨n__law_step, defScope s__law_step, defScope s__law_step⟩ (defBody s__law_step) = true := by decide +kernel
abbrev s__law_near : Stmt := topS 41
theorem sc__law_near : FnScope n__law_near ["pool", "clocks", "tests"] (defScope s__law_near) := ⟨rfl, rfl, rfl, by decide +kernel, rfl, by decide +kernel, by decide +kernel⟩
theorem ck__law_near : chkSs b__law_near ⟨n__law_near, defScope s__law_near, defScope s__law_near⟩ (defBody s__law_near) = true := by decide +kernel
abbrev s__law_wait_near : Stmt := topS 42
theorem sc__law_wait_near : FnScope n__law_wait_near ["pool", "machine", "state"] (defScope s__law_wait_near) := ⟨rfl, rfl, rfl, by decide +kernel, rfl, by decide +kernel, by decide +kernel⟩
theorem ck__law_wait_near : chkSs b__law_wait_near ⟨n__law_wait_near, defScope s__law_wait_near, defScope s__law_wait_near⟩ (defBody s__law_wait_near) = true := by decide +kernel
abbrev s__law_waits_asked : Stmt := topS 43
theorem sc__law_waits_asked : FnScope n__law_waits_asked ["pool", "machine", "state"] (defScope s__law_waits_asked) := ⟨rfl, rfl, rfl, by decide +kernel, rfl, by decide +kernel, by decide +kernel⟩
theorem ck__law_waits_asked : chkSs b__law_waits_asked ⟨n__law_waits_asked, defScope s__law_waits_asked, defScope s__law_waits_asked⟩ (defBody s__law_waits_asked) = true := by decide +kernel
abbrev s__law_deeds_asked : Stmt := topS 44
theorem sc__law_deeds_asked : FnScope n__law_deeds_asked ["machine", "state"] (defScope s__law_deeds_asked) := ⟨rfl, rfl, rfl, by decide +kernel, rfl, by decide +kernel, by decide +kernel⟩
theorem ck__law_deeds_asked : chkSs b__law_deeds_asked ⟨n__law_deeds_asked, defScope s__law_deeds_asked, defScope s__law_deeds_asked⟩ (defBody s__law_deeds_asked) = true := by decide +kernel
abbrev s__law_tests_asked : Stmt := topS 45
theorem sc__law_tests_asked : FnScope n__law_tests_asked ["machine", "tests", "state"] (defScope s__law_tests_asked) := ⟨rfl, rfl, rfl, by decide +kernel, rfl, by decide +kernel, by decide +kernel⟩
theorem ck__law_tests_asked : chkSs b__law_tests_asked ⟨n__law_tests_asked, defScope s__law_tests_asked, defScope s__law_tests_asked⟩ (defBody s__law_tests_asked) = true := by decide +kernel
abbrev s__law_machine_asked : Stmt := topS 46
theorem sc__law_machine_asked : FnScope n__law_machine_asked ["pool", "machine"] (defScope s__law_machine_asked) := ⟨rfl, rfl, rfl, by decide +kernel, rfl, by decide +kernel, by decide +kernel⟩
theorem ck__law_machine_asked : chkSs b__law_machine_asked ⟨n__law_machine_asked, defScope s__law_machine_asked, defScope s__law_machine_asked⟩ (defBody s__law_machine_asked) = true := by decide +kernel
abbrev s_law : Stmt := topS 47
theorem sc_law : FnScope n_law ["script"] (defScope s_law) := ⟨rfl, rfl, rfl, by decide +kernel, rfl, by decide +kernel, by decide +kernel⟩
theorem ck_law : chkSs b_law ⟨n_law, defScope s_law, defScope s_law⟩ (defBody s_law) = true := by decide +kernel
/-- a def behind the top -/
def Known (K : PySem.W.Frag) (mg : Str → Option Value) (x : Str) (st : Stmt) (ps : List Str) : Prop := ∃ f fd, L2.Fun K x x st f fd ∧ mg x = some (.ref f) ∧ Binds K fd ps []
structure Facts (K : PySem.W.Frag) (mg : Str → Option Value) : Prop where
  blt : ∀ x ∈ bltNames, mg x = none
  g_ZERO : ∃ a od t u n sl, mg "ZERO" = some (.ref a) ∧ K.lookup a = some ⟨.type "tuple", od, .seq #[.int 0 t, .int 1 u] n, sl⟩
  f_common_factor : Known K mg "common_factor" s_common_factor ["a", "b"]
  f_lowest_terms : Known K mg "lowest_terms" s_lowest_terms ["n", "d"]
  f_plus : Known K mg "plus" s_plus ["a", "b"]
  f_deeds_from : Known K mg "deeds_from" s_deeds_from ["machine", "place"]
  f_compared : Known K mg "compared" s_compared ["value", "sign", "number"]
  f_meets : Known K mg "meets" s_meets ["test", "values"]
  f_meets_all : Known K mg "meets_all" s_meets_all ["tests", "values"]
  f_start_state : Known K mg "start_state" s_start_state ["machine"]
  f_waited : Known K mg "waited" s_waited ["machine", "state", "wait"]
  f_values_back : Known K mg "values_back" s_values_back ["values", "backs"]
  f_acted : Known K mg "acted" s_acted ["machine", "state", "deed"]
  f_open_deeds : Known K mg "open_deeds" s_open_deeds ["machine", "state"]
  f__law_pool : Known K mg "_law_pool" s__law_pool ["script"]
  f__law_mix : Known K mg "_law_mix" s__law_mix ["pool"]
  f__law_draw : Known K mg "_law_draw" s__law_draw ["pool", "many"]
  f__law_pick : Known K mg "_law_pick" s__law_pick ["pool", "menu"]
  f__law_same : Known K mg "_law_same" s__law_same ["value", "due"]
  f__law_gcd : Known K mg "_law_gcd" s__law_gcd ["a", "b"]
  f__law_ratio : Known K mg "_law_ratio" s__law_ratio ["n", "d"]
  f__law_plus : Known K mg "_law_plus" s__law_plus ["a", "b"]
  f__law_less_by : Known K mg "_law_less_by" s__law_less_by ["a", "b"]
  f__law_compare : Known K mg "_law_compare" s__law_compare ["value", "sign", "number"]
  f__law_meets : Known K mg "_law_meets" s__law_meets ["tests", "values"]
  f__law_start : Known K mg "_law_start" s__law_start ["machine"]
  f__law_wait : Known K mg "_law_wait" s__law_wait ["machine", "state", "wait"]
  f__law_act : Known K mg "_law_act" s__law_act ["machine", "state", "deed"]
  f__law_test : Known K mg "_law_test" s__law_test ["pool", "clocks", "top", "signs"]
  f__law_hold : Known K mg "_law_hold" s__law_hold ["pool", "clocks", "top", "signs"]
  f__law_guard : Known K mg "_law_guard" s__law_guard ["pool", "clocks", "top", "signs"]
  f__law_backs : Known K mg "_law_backs" s__law_backs ["pool", "clocks"]
  f__law_deed : Known K mg "_law_deed" s__law_deed ["pool", "clocks", "places", "number", "top", "letters", "signs"]
  f__law_machine : Known K mg "_law_machine" s__law_machine ["pool", "clocks", "places", "deeds", "top", "letters", "closed"]
  f__law_fraction : Known K mg "_law_fraction" s__law_fraction ["pool"]
  f__law_drawn : Known K mg "_law_drawn" s__law_drawn ["pool"]
  f__law_all_tests : Known K mg "_law_all_tests" s__law_all_tests ["machine"]
  f__law_step : Known K mg "_law_step" s__law_step ["pool"]
  f__law_near : Known K mg "_law_near" s__law_near ["pool", "clocks", "tests"]
  f__law_wait_near : Known K mg "_law_wait_near" s__law_wait_near ["pool", "machine", "state"]
  f__law_waits_asked : Known K mg "_law_waits_asked" s__law_waits_asked ["pool", "machine", "state"]
  f__law_deeds_asked : Known K mg "_law_deeds_asked" s__law_deeds_asked ["machine", "state"]
  f__law_tests_asked : Known K mg "_law_tests_asked" s__law_tests_asked ["machine", "tests", "state"]
  f__law_machine_asked : Known K mg "_law_machine_asked" s__law_machine_asked ["pool", "machine"]
section
variable {P : Program} {w : World} {K : PySem.W.Frag} {mg : Str → Option Value} {base : Heap}
theorem ok_common_factor (L : Facts K mg) : HasFn (⟨P, w, K, mg, base⟩ : Wd) 1 "common_factor" sp_common_factor 2 := by
  obtain ⟨f, fd, F, hm, b⟩ := L.f_common_factor
  exact hasFn_of (sp := sp_common_factor) F hm b sc_common_factor L.blt rfl ck_common_factor (by simp only [b_common_factor, b_common_factor_1, needSs, needS, needE, needEs, needO, needT, needTs, needI, Es.len, Nat.zero_add, Nat.reduceAdd, and_true, true_and, and_self]) w_common_factor
theorem ok_deeds_from (L : Facts K mg) : HasFn (⟨P, w, K, mg, base⟩ : Wd) 1 "deeds_from" sp_deeds_from 2 := by
  obtain ⟨f, fd, F, hm, b⟩ := L.f_deeds_from
  exact hasFn_of (sp := sp_deeds_from) F hm b sc_deeds_from L.blt rfl ck_deeds_from (by simp only [b_deeds_from, needSs, needS, needE, needEs, needO, needT, needTs, needI, Es.len, Nat.zero_add, Nat.reduceAdd, and_true, true_and, and_self]) w_deeds_from
theorem ok_compared (L : Facts K mg) : HasFn (⟨P, w, K, mg, base⟩ : Wd) 1 "compared" sp_compared 3 := by
  obtain ⟨f, fd, F, hm, b⟩ := L.f_compared
  exact hasFn_of (sp := sp_compared) F hm b sc_compared L.blt rfl ck_compared (by simp only [b_compared, needSs, needS, needE, needEs, needO, needT, needTs, needI, Es.len, Nat.zero_add, Nat.reduceAdd, and_true, true_and, and_self]) w_compared
theorem ok_start_state (L : Facts K mg) : HasFn (⟨P, w, K, mg, base⟩ : Wd) 1 "start_state" sp_start_state 1 := by
  obtain ⟨f, fd, F, hm, b⟩ := L.f_start_state
  have c_ZERO : HasGl (⟨P, w, K, mg, base⟩ : Wd) "ZERO" (.tup [.int 0, .int 1]) := let ⟨_, _, _, _, _, _, e, k⟩ := L.g_ZERO; .two e k
  exact hasFn_of (sp := sp_start_state) F hm b sc_start_state L.blt rfl ck_start_state (by simp only [b_start_state, needSs, needS, needE, needEs, needO, needT, needTs, needI, Es.len, Nat.zero_add, Nat.reduceAdd, and_true, true_and, and_self, c_ZERO]) w_start_state
theorem ok_values_back (L : Facts K mg) : HasFn (⟨P, w, K, mg, base⟩ : Wd) 1 "values_back" sp_values_back 2 := by
  obtain ⟨f, fd, F, hm, b⟩ := L.f_values_back
  have c_ZERO : HasGl (⟨P, w, K, mg, base⟩ : Wd) "ZERO" (.tup [.int 0, .int 1]) := let ⟨_, _, _, _, _, _, e, k⟩ := L.g_ZERO; .two e k
  exact hasFn_of (sp := sp_values_back) F hm b sc_values_back L.blt rfl ck_values_back (by simp only [b_values_back, needSs, needS, needE, needEs, needO, needT, needTs, needI, Es.len, Nat.zero_add, Nat.reduceAdd, and_true, true_and, and_self, c_ZERO]) w_values_back
theorem ok__law_pool (L : Facts K mg) : HasFn (⟨P, w, K, mg, base⟩ : Wd) 1 "_law_pool" sp__law_pool 1 := by
  obtain ⟨f, fd, F, hm, b⟩ := L.f__law_pool
  exact pool_view (hasFn_of (sp := sl__law_pool) F hm b sc__law_pool L.blt rfl ck__law_pool (by simp only [b__law_pool, needSs, needS, needE, needEs, needO, needT, needTs, needI, Es.len, Nat.zero_add, Nat.reduceAdd, and_true, true_and, and_self]) w__law_pool)
theorem ok__law_mix (L : Facts K mg) : HasFn (⟨P, w, K, mg, base⟩ : Wd) 1 "_law_mix" sp__law_mix 1 := by
  obtain ⟨f, fd, F, hm, b⟩ := L.f__law_mix
  exact hasFn_of (sp := sp__law_mix) F hm b sc__law_mix L.blt rfl ck__law_mix (by simp only [b__law_mix, needSs, needS, needE, needEs, needO, needT, needTs, needI, Es.len, Nat.zero_add, Nat.reduceAdd, and_true, true_and, and_self]) w__law_mix
theorem ok__law_same (L : Facts K mg) : HasFn (⟨P, w, K, mg, base⟩ : Wd) 1 "_law_same" sp__law_same 2 := by
  obtain ⟨f, fd, F, hm, b⟩ := L.f__law_same
  exact hasFn_of (sp := sp__law_same) F hm b sc__law_same L.blt rfl ck__law_same (by simp only [b__law_same, needSs, needS, needE, needEs, needO, needT, needTs, needI, Es.len, Nat.zero_add, Nat.reduceAdd, and_true, true_and, and_self]) w__law_same
theorem ok__law_gcd (L : Facts K mg) : HasFn (⟨P, w, K, mg, base⟩ : Wd) 1 "_law_gcd" sp__law_gcd 2 := by
  obtain ⟨f, fd, F, hm, b⟩ := L.f__law_gcd
  exact hasFn_of (sp := sp__law_gcd) F hm b sc__law_gcd L.blt rfl ck__law_gcd (by simp only [b__law_gcd, b__law_gcd_1, needSs, needS, needE, needEs, needO, needT, needTs, needI, Es.len, Nat.zero_add, Nat.reduceAdd, and_true, true_and, and_self]) w__law_gcd
theorem ok__law_compare (L : Facts K mg) : HasFn (⟨P, w, K, mg, base⟩ : Wd) 1 "_law_compare" sp__law_compare 3 := by
  obtain ⟨f, fd, F, hm, b⟩ := L.f__law_compare
  exact hasFn_of (sp := sp__law_compare) F hm b sc__law_compare L.blt rfl ck__law_compare (by simp only [b__law_compare, needSs, needS, needE, needEs, needO, needT, needTs, needI, Es.len, Nat.zero_add, Nat.reduceAdd, and_true, true_and, and_self]) w__law_compare
theorem ok__law_start (L : Facts K mg) : HasFn (⟨P, w, K, mg, base⟩ : Wd) 1 "_law_start" sp__law_start 1 := by
  obtain ⟨f, fd, F, hm, b⟩ := L.f__law_start
  exact hasFn_of (sp := sp__law_start) F hm b sc__law_start L.blt rfl ck__law_start (by simp only [b__law_start, needSs, needS, needE, needEs, needO, needT, needTs, needI, Es.len, Nat.zero_add, Nat.reduceAdd, and_true, true_and, and_self]) w__law_start
theorem ok__law_all_tests (L : Facts K mg) : HasFn (⟨P, w, K, mg, base⟩ : Wd) 1 "_law_all_tests" sp__law_all_tests 1 := by
  obtain ⟨f, fd, F, hm, b⟩ := L.f__law_all_tests
  exact hasFn_of (sp := sp__law_all_tests) F hm b sc__law_all_tests L.blt rfl ck__law_all_tests (by simp only [b__law_all_tests, b__law_all_tests_1, b__law_all_tests_2, needSs, needS, needE, needEs, needO, needT, needTs, needI, Es.len, Nat.zero_add, Nat.reduceAdd, and_true, true_and, and_self]) w__law_all_tests
theorem ok_lowest_terms (L : Facts K mg) : HasFn (⟨P, w, K, mg, base⟩ : Wd) 2 "lowest_terms" sp_lowest_terms 2 := by
  obtain ⟨f, fd, F, hm, b⟩ := L.f_lowest_terms
  have h_common_factor := (ok_common_factor (P := P) (w := w) (base := base) L).mono (show 1 ≤ 1 by decide)
  exact hasFn_of (sp := sp_lowest_terms) F hm b sc_lowest_terms L.blt rfl ck_lowest_terms (by simp only [b_lowest_terms, needSs, needS, needE, needEs, needO, needT, needTs, needI, Es.len, Nat.zero_add, Nat.reduceAdd, and_true, true_and, and_self, h_common_factor]) w_lowest_terms
theorem ok_meets (L : Facts K mg) : HasFn (⟨P, w, K, mg, base⟩ : Wd) 2 "meets" sp_meets 2 := by
  obtain ⟨f, fd, F, hm, b⟩ := L.f_meets
  have h_compared := (ok_compared (P := P) (w := w) (base := base) L).mono (show 1 ≤ 1 by decide)
  exact hasFn_of (sp := sp_meets) F hm b sc_meets L.blt rfl ck_meets (by simp only [b_meets, needSs, needS, needE, needEs, needO, needT, needTs, needI, Es.len, Nat.zero_add, Nat.reduceAdd, and_true, true_and, and_self, h_compared]) w_meets
theorem ok__law_draw (L : Facts K mg) : HasFn (⟨P, w, K, mg, base⟩ : Wd) 2 "_law_draw" sp__law_draw 2 := by
  obtain ⟨f, fd, F, hm, b⟩ := L.f__law_draw
  have h__law_mix := (ok__law_mix (P := P) (w := w) (base := base) L).mono (show 1 ≤ 1 by decide)
  exact draw_view (hasFn_of (sp := sl__law_draw) F hm b sc__law_draw L.blt rfl ck__law_draw (by simp only [b__law_draw, needSs, needS, needE, needEs, needO, needT, needTs, needI, Es.len, Nat.zero_add, Nat.reduceAdd, and_true, true_and, and_self, h__law_mix]) w__law_draw)
theorem ok__law_ratio (L : Facts K mg) : HasFn (⟨P, w, K, mg, base⟩ : Wd) 2 "_law_ratio" sp__law_ratio 2 := by
  obtain ⟨f, fd, F, hm, b⟩ := L.f__law_ratio
  have h__law_gcd := (ok__law_gcd (P := P) (w := w) (base := base) L).mono (show 1 ≤ 1 by decide)
  exact hasFn_of (sp := sp__law_ratio) F hm b sc__law_ratio L.blt rfl ck__law_ratio (by simp only [b__law_ratio, needSs, needS, needE, needEs, needO, needT, needTs, needI, Es.len, Nat.zero_add, Nat.reduceAdd, and_true, true_and, and_self, h__law_gcd]) w__law_ratio
theorem ok__law_meets (L : Facts K mg) : HasFn (⟨P, w, K, mg, base⟩ : Wd) 2 "_law_meets" sp__law_meets 2 := by
  obtain ⟨f, fd, F, hm, b⟩ := L.f__law_meets
  have h__law_compare := (ok__law_compare (P := P) (w := w) (base := base) L).mono (show 1 ≤ 1 by decide)
  exact hasFn_of (sp := sp__law_meets) F hm b sc__law_meets L.blt rfl ck__law_meets (by simp only [b__law_meets, b__law_meets_1, needSs, needS, needE, needEs, needO, needT, needTs, needI, Es.len, Nat.zero_add, Nat.reduceAdd, and_true, true_and, and_self, h__law_compare]) w__law_meets
theorem ok_plus (L : Facts K mg) : HasFn (⟨P, w, K, mg, base⟩ : Wd) 3 "plus" sp_plus 2 := by
  obtain ⟨f, fd, F, hm, b⟩ := L.f_plus
  have h_lowest_terms := (ok_lowest_terms (P := P) (w := w) (base := base) L).mono (show 2 ≤ 2 by decide)
  exact hasFn_of (sp := sp_plus) F hm b sc_plus L.blt rfl ck_plus (by simp only [b_plus, needSs, needS, needE, needEs, needO, needT, needTs, needI, Es.len, Nat.zero_add, Nat.reduceAdd, and_true, true_and, and_self, h_lowest_terms]) w_plus
theorem ok_meets_all (L : Facts K mg) : HasFn (⟨P, w, K, mg, base⟩ : Wd) 3 "meets_all" sp_meets_all 2 := by
  obtain ⟨f, fd, F, hm, b⟩ := L.f_meets_all
  have h_meets := (ok_meets (P := P) (w := w) (base := base) L).mono (show 2 ≤ 2 by decide)
  exact hasFn_of (sp := sp_meets_all) F hm b sc_meets_all L.blt rfl ck_meets_all (by simp only [b_meets_all, needSs, needS, needE, needEs, needO, needT, needTs, needI, Es.len, Nat.zero_add, Nat.reduceAdd, and_true, true_and, and_self, h_meets]) w_meets_all
theorem ok__law_pick (L : Facts K mg) : HasFn (⟨P, w, K, mg, base⟩ : Wd) 3 "_law_pick" sp__law_pick 2 := by
  obtain ⟨f, fd, F, hm, b⟩ := L.f__law_pick
  have h__law_draw := (ok__law_draw (P := P) (w := w) (base := base) L).mono (show 2 ≤ 2 by decide)
  exact hasFn_of (sp := sp__law_pick) F hm b sc__law_pick L.blt rfl ck__law_pick (by simp only [b__law_pick, needSs, needS, needE, needEs, needO, needT, needTs, needI, Es.len, Nat.zero_add, Nat.reduceAdd, and_true, true_and, and_self, h__law_draw]) w__law_pick
theorem ok__law_plus (L : Facts K mg) : HasFn (⟨P, w, K, mg, base⟩ : Wd) 3 "_law_plus" sp__law_plus 2 := by
  obtain ⟨f, fd, F, hm, b⟩ := L.f__law_plus
  have h__law_ratio := (ok__law_ratio (P := P) (w := w) (base := base) L).mono (show 2 ≤ 2 by decide)
  exact hasFn_of (sp := sp__law_plus) F hm b sc__law_plus L.blt rfl ck__law_plus (by simp only [b__law_plus, needSs, needS, needE, needEs, needO, needT, needTs, needI, Es.len, Nat.zero_add, Nat.reduceAdd, and_true, true_and, and_self, h__law_ratio]) w__law_plus
theorem ok__law_less_by (L : Facts K mg) : HasFn (⟨P, w, K, mg, base⟩ : Wd) 3 "_law_less_by" sp__law_less_by 2 := by
  obtain ⟨f, fd, F, hm, b⟩ := L.f__law_less_by
  have h__law_ratio := (ok__law_ratio (P := P) (w := w) (base := base) L).mono (show 2 ≤ 2 by decide)
  exact hasFn_of (sp := sp__law_less_by) F hm b sc__law_less_by L.blt rfl ck__law_less_by (by simp only [b__law_less_by, needSs, needS, needE, needEs, needO, needT, needTs, needI, Es.len, Nat.zero_add, Nat.reduceAdd, and_true, true_and, and_self, h__law_ratio]) w__law_less_by
theorem ok__law_act (L : Facts K mg) : HasFn (⟨P, w, K, mg, base⟩ : Wd) 3 "_law_act" sp__law_act 3 := by
  obtain ⟨f, fd, F, hm, b⟩ := L.f__law_act
  have h__law_meets := (ok__law_meets (P := P) (w := w) (base := base) L).mono (show 2 ≤ 2 by decide)
  exact hasFn_of (sp := sp__law_act) F hm b sc__law_act L.blt rfl ck__law_act (by simp only [b__law_act, b__law_act_1, needSs, needS, needE, needEs, needO, needT, needTs, needI, Es.len, Nat.zero_add, Nat.reduceAdd, and_true, true_and, and_self, h__law_meets]) w__law_act
theorem ok__law_backs (L : Facts K mg) : HasFn (⟨P, w, K, mg, base⟩ : Wd) 3 "_law_backs" sp__law_backs 2 := by
  obtain ⟨f, fd, F, hm, b⟩ := L.f__law_backs
  have h__law_draw := (ok__law_draw (P := P) (w := w) (base := base) L).mono (show 2 ≤ 2 by decide)
  exact hasFn_of (sp := sp__law_backs) F hm b sc__law_backs L.blt rfl ck__law_backs (by simp only [b__law_backs, b__law_backs_1, needSs, needS, needE, needEs, needO, needT, needTs, needI, Es.len, Nat.zero_add, Nat.reduceAdd, and_true, true_and, and_self, h__law_draw]) w__law_backs
theorem ok_waited (L : Facts K mg) : HasFn (⟨P, w, K, mg, base⟩ : Wd) 4 "waited" sp_waited 3 := by
  obtain ⟨f, fd, F, hm, b⟩ := L.f_waited
  have h_plus := (ok_plus (P := P) (w := w) (base := base) L).mono (show 3 ≤ 3 by decide)
  have h_meets_all := (ok_meets_all (P := P) (w := w) (base := base) L).mono (show 3 ≤ 3 by decide)
  exact hasFn_of (sp := sp_waited) F hm b sc_waited L.blt rfl ck_waited (by simp only [b_waited, needSs, needS, needE, needEs, needO, needT, needTs, needI, Es.len, Nat.zero_add, Nat.reduceAdd, and_true, true_and, and_self, h_plus, h_meets_all]) w_waited
theorem ok_acted (L : Facts K mg) : HasFn (⟨P, w, K, mg, base⟩ : Wd) 4 "acted" sp_acted 3 := by
  obtain ⟨f, fd, F, hm, b⟩ := L.f_acted
  have h_meets_all := (ok_meets_all (P := P) (w := w) (base := base) L).mono (show 3 ≤ 3 by decide)
  have h_values_back := (ok_values_back (P := P) (w := w) (base := base) L).mono (show 1 ≤ 3 by decide)
  exact hasFn_of (sp := sp_acted) F hm b sc_acted L.blt rfl ck_acted (by simp only [b_acted, needSs, needS, needE, needEs, needO, needT, needTs, needI, Es.len, Nat.zero_add, Nat.reduceAdd, and_true, true_and, and_self, h_meets_all, h_values_back]) w_acted
theorem ok__law_wait (L : Facts K mg) : HasFn (⟨P, w, K, mg, base⟩ : Wd) 4 "_law_wait" sp__law_wait 3 := by
  obtain ⟨f, fd, F, hm, b⟩ := L.f__law_wait
  have h__law_plus := (ok__law_plus (P := P) (w := w) (base := base) L).mono (show 3 ≤ 3 by decide)
  have h__law_meets := (ok__law_meets (P := P) (w := w) (base := base) L).mono (show 2 ≤ 3 by decide)
  exact hasFn_of (sp := sp__law_wait) F hm b sc__law_wait L.blt rfl ck__law_wait (by simp only [b__law_wait, needSs, needS, needE, needEs, needO, needT, needTs, needI, Es.len, Nat.zero_add, Nat.reduceAdd, and_true, true_and, and_self, h__law_plus, h__law_meets]) w__law_wait
theorem ok__law_test (L : Facts K mg) : HasFn (⟨P, w, K, mg, base⟩ : Wd) 4 "_law_test" sp__law_test 4 := by
  obtain ⟨f, fd, F, hm, b⟩ := L.f__law_test
  have h__law_pick := (ok__law_pick (P := P) (w := w) (base := base) L).mono (show 3 ≤ 3 by decide)
  have h__law_draw := (ok__law_draw (P := P) (w := w) (base := base) L).mono (show 2 ≤ 3 by decide)
  exact hasFn_of (sp := sp__law_test) F hm b sc__law_test L.blt rfl ck__law_test (by simp only [b__law_test, needSs, needS, needE, needEs, needO, needT, needTs, needI, Es.len, Nat.zero_add, Nat.reduceAdd, and_true, true_and, and_self, h__law_pick, h__law_draw]) w__law_test
theorem ok__law_fraction (L : Facts K mg) : HasFn (⟨P, w, K, mg, base⟩ : Wd) 4 "_law_fraction" sp__law_fraction 1 := by
  obtain ⟨f, fd, F, hm, b⟩ := L.f__law_fraction
  have h__law_ratio := (ok__law_ratio (P := P) (w := w) (base := base) L).mono (show 2 ≤ 3 by decide)
  have h__law_pick := (ok__law_pick (P := P) (w := w) (base := base) L).mono (show 3 ≤ 3 by decide)
  have h__law_draw := (ok__law_draw (P := P) (w := w) (base := base) L).mono (show 2 ≤ 3 by decide)
  exact hasFn_of (sp := sp__law_fraction) F hm b sc__law_fraction L.blt rfl ck__law_fraction (by simp only [b__law_fraction, needSs, needS, needE, needEs, needO, needT, needTs, needI, Es.len, Nat.zero_add, Nat.reduceAdd, and_true, true_and, and_self, h__law_ratio, h__law_pick, h__law_draw]) w__law_fraction
theorem ok__law_step (L : Facts K mg) : HasFn (⟨P, w, K, mg, base⟩ : Wd) 4 "_law_step" sp__law_step 1 := by
  obtain ⟨f, fd, F, hm, b⟩ := L.f__law_step
  have h__law_pick := (ok__law_pick (P := P) (w := w) (base := base) L).mono (show 3 ≤ 3 by decide)
  exact hasFn_of (sp := sp__law_step) F hm b sc__law_step L.blt rfl ck__law_step (by simp only [b__law_step, needSs, needS, needE, needEs, needO, needT, needTs, needI, Es.len, Nat.zero_add, Nat.reduceAdd, and_true, true_and, and_self, h__law_pick]) w__law_step
theorem ok__law_tests_asked (L : Facts K mg) : HasFn (⟨P, w, K, mg, base⟩ : Wd) 4 "_law_tests_asked" sp__law_tests_asked 3 := by
  obtain ⟨f, fd, F, hm, b⟩ := L.f__law_tests_asked
  have h__law_compare := (ok__law_compare (P := P) (w := w) (base := base) L).mono (show 1 ≤ 3 by decide)
  have h__law_same := (ok__law_same (P := P) (w := w) (base := base) L).mono (show 1 ≤ 3 by decide)
  have h_meets := (ok_meets (P := P) (w := w) (base := base) L).mono (show 2 ≤ 3 by decide)
  have h__law_meets := (ok__law_meets (P := P) (w := w) (base := base) L).mono (show 2 ≤ 3 by decide)
  have h_meets_all := (ok_meets_all (P := P) (w := w) (base := base) L).mono (show 3 ≤ 3 by decide)
  exact hasFn_of (sp := sp__law_tests_asked) F hm b sc__law_tests_asked L.blt rfl ck__law_tests_asked (by simp only [b__law_tests_asked, b__law_tests_asked_1, b__law_tests_asked_2, b__law_tests_asked_3, needSs, needS, needE, needEs, needO, needT, needTs, needI, Es.len, Nat.zero_add, Nat.reduceAdd, and_true, true_and, and_self, h__law_compare, h__law_same, h_meets, h__law_meets, h_meets_all]) w__law_tests_asked
theorem ok_open_deeds (L : Facts K mg) : HasFn (⟨P, w, K, mg, base⟩ : Wd) 5 "open_deeds" sp_open_deeds 2 := by
  obtain ⟨f, fd, F, hm, b⟩ := L.f_open_deeds
  have h_acted := (ok_acted (P := P) (w := w) (base := base) L).mono (show 4 ≤ 4 by decide)
  have h_deeds_from := (ok_deeds_from (P := P) (w := w) (base := base) L).mono (show 1 ≤ 4 by decide)
  exact hasFn_of (sp := sp_open_deeds) F hm b sc_open_deeds L.blt rfl ck_open_deeds (by simp only [b_open_deeds, needSs, needS, needE, needEs, needO, needT, needTs, needI, Es.len, Nat.zero_add, Nat.reduceAdd, and_true, true_and, and_self, h_acted, h_deeds_from]) w_open_deeds
theorem ok__law_hold (L : Facts K mg) : HasFn (⟨P, w, K, mg, base⟩ : Wd) 5 "_law_hold" sp__law_hold 4 := by
  obtain ⟨f, fd, F, hm, b⟩ := L.f__law_hold
  have h__law_draw := (ok__law_draw (P := P) (w := w) (base := base) L).mono (show 2 ≤ 4 by decide)
  have h__law_test := (ok__law_test (P := P) (w := w) (base := base) L).mono (show 4 ≤ 4 by decide)
  exact hasFn_of (sp := sp__law_hold) F hm b sc__law_hold L.blt rfl ck__law_hold (by simp only [b__law_hold, needSs, needS, needE, needEs, needO, needT, needTs, needI, Es.len, Nat.zero_add, Nat.reduceAdd, and_true, true_and, and_self, h__law_draw, h__law_test]) w__law_hold
theorem ok__law_guard (L : Facts K mg) : HasFn (⟨P, w, K, mg, base⟩ : Wd) 5 "_law_guard" sp__law_guard 4 := by
  obtain ⟨f, fd, F, hm, b⟩ := L.f__law_guard
  have h__law_pick := (ok__law_pick (P := P) (w := w) (base := base) L).mono (show 3 ≤ 4 by decide)
  have h__law_test := (ok__law_test (P := P) (w := w) (base := base) L).mono (show 4 ≤ 4 by decide)
  exact hasFn_of (sp := sp__law_guard) F hm b sc__law_guard L.blt rfl ck__law_guard (by simp only [b__law_guard, needSs, needS, needE, needEs, needO, needT, needTs, needI, Es.len, Nat.zero_add, Nat.reduceAdd, and_true, true_and, and_self, h__law_pick, h__law_test]) w__law_guard
theorem ok__law_near (L : Facts K mg) : HasFn (⟨P, w, K, mg, base⟩ : Wd) 5 "_law_near" sp__law_near 3 := by
  obtain ⟨f, fd, F, hm, b⟩ := L.f__law_near
  have h__law_plus := (ok__law_plus (P := P) (w := w) (base := base) L).mono (show 3 ≤ 4 by decide)
  have h__law_step := (ok__law_step (P := P) (w := w) (base := base) L).mono (show 4 ≤ 4 by decide)
  have h__law_pick := (ok__law_pick (P := P) (w := w) (base := base) L).mono (show 3 ≤ 4 by decide)
  exact hasFn_of (sp := sp__law_near) F hm b sc__law_near L.blt rfl ck__law_near (by simp only [b__law_near, b__law_near_1, needSs, needS, needE, needEs, needO, needT, needTs, needI, Es.len, Nat.zero_add, Nat.reduceAdd, and_true, true_and, and_self, h__law_plus, h__law_step, h__law_pick]) w__law_near
theorem ok__law_wait_near (L : Facts K mg) : HasFn (⟨P, w, K, mg, base⟩ : Wd) 5 "_law_wait_near" sp__law_wait_near 3 := by
  obtain ⟨f, fd, F, hm, b⟩ := L.f__law_wait_near
  have h__law_draw := (ok__law_draw (P := P) (w := w) (base := base) L).mono (show 2 ≤ 4 by decide)
  have h__law_pick := (ok__law_pick (P := P) (w := w) (base := base) L).mono (show 3 ≤ 4 by decide)
  have h__law_less_by := (ok__law_less_by (P := P) (w := w) (base := base) L).mono (show 3 ≤ 4 by decide)
  have h__law_plus := (ok__law_plus (P := P) (w := w) (base := base) L).mono (show 3 ≤ 4 by decide)
  have h__law_step := (ok__law_step (P := P) (w := w) (base := base) L).mono (show 4 ≤ 4 by decide)
  have h__law_fraction := (ok__law_fraction (P := P) (w := w) (base := base) L).mono (show 4 ≤ 4 by decide)
  exact hasFn_of (sp := sp__law_wait_near) F hm b sc__law_wait_near L.blt rfl ck__law_wait_near (by simp only [b__law_wait_near, needSs, needS, needE, needEs, needO, needT, needTs, needI, Es.len, Nat.zero_add, Nat.reduceAdd, and_true, true_and, and_self, h__law_draw, h__law_pick, h__law_less_by, h__law_plus, h__law_step, h__law_fraction]) w__law_wait_near
theorem ok__law_deed (L : Facts K mg) : HasFn (⟨P, w, K, mg, base⟩ : Wd) 6 "_law_deed" sp__law_deed 7 := by
  obtain ⟨f, fd, F, hm, b⟩ := L.f__law_deed
  have h__law_draw := (ok__law_draw (P := P) (w := w) (base := base) L).mono (show 2 ≤ 5 by decide)
  have h__law_guard := (ok__law_guard (P := P) (w := w) (base := base) L).mono (show 5 ≤ 5 by decide)
  have h__law_backs := (ok__law_backs (P := P) (w := w) (base := base) L).mono (show 3 ≤ 5 by decide)
  have h__law_pick := (ok__law_pick (P := P) (w := w) (base := base) L).mono (show 3 ≤ 5 by decide)
  exact hasFn_of (sp := sp__law_deed) F hm b sc__law_deed L.blt rfl ck__law_deed (by simp only [b__law_deed, needSs, needS, needE, needEs, needO, needT, needTs, needI, Es.len, Nat.zero_add, Nat.reduceAdd, and_true, true_and, and_self, h__law_draw, h__law_guard, h__law_backs, h__law_pick]) w__law_deed
theorem ok__law_waits_asked (L : Facts K mg) : HasFn (⟨P, w, K, mg, base⟩ : Wd) 6 "_law_waits_asked" sp__law_waits_asked 3 := by
  obtain ⟨f, fd, F, hm, b⟩ := L.f__law_waits_asked
  have h__law_wait_near := (ok__law_wait_near (P := P) (w := w) (base := base) L).mono (show 5 ≤ 5 by decide)
  have h__law_pick := (ok__law_pick (P := P) (w := w) (base := base) L).mono (show 3 ≤ 5 by decide)
  have h__law_fraction := (ok__law_fraction (P := P) (w := w) (base := base) L).mono (show 4 ≤ 5 by decide)
  have h_waited := (ok_waited (P := P) (w := w) (base := base) L).mono (show 4 ≤ 5 by decide)
  have h__law_same := (ok__law_same (P := P) (w := w) (base := base) L).mono (show 1 ≤ 5 by decide)
  have h__law_wait := (ok__law_wait (P := P) (w := w) (base := base) L).mono (show 4 ≤ 5 by decide)
  have h__law_plus := (ok__law_plus (P := P) (w := w) (base := base) L).mono (show 3 ≤ 5 by decide)
  exact hasFn_of (sp := sp__law_waits_asked) F hm b sc__law_waits_asked L.blt rfl ck__law_waits_asked (by simp only [b__law_waits_asked, needSs, needS, needE, needEs, needO, needT, needTs, needI, Es.len, Nat.zero_add, Nat.reduceAdd, and_true, true_and, and_self, h__law_wait_near, h__law_pick, h__law_fraction, h_waited, h__law_same, h__law_wait, h__law_plus]) w__law_waits_asked
theorem ok__law_deeds_asked (L : Facts K mg) : HasFn (⟨P, w, K, mg, base⟩ : Wd) 6 "_law_deeds_asked" sp__law_deeds_asked 2 := by
  obtain ⟨f, fd, F, hm, b⟩ := L.f__law_deeds_asked
  have h__law_act := (ok__law_act (P := P) (w := w) (base := base) L).mono (show 3 ≤ 5 by decide)
  have h__law_same := (ok__law_same (P := P) (w := w) (base := base) L).mono (show 1 ≤ 5 by decide)
  have h_acted := (ok_acted (P := P) (w := w) (base := base) L).mono (show 4 ≤ 5 by decide)
  have h_open_deeds := (ok_open_deeds (P := P) (w := w) (base := base) L).mono (show 5 ≤ 5 by decide)
  exact hasFn_of (sp := sp__law_deeds_asked) F hm b sc__law_deeds_asked L.blt rfl ck__law_deeds_asked (by simp only [b__law_deeds_asked, b__law_deeds_asked_1, needSs, needS, needE, needEs, needO, needT, needTs, needI, Es.len, Nat.zero_add, Nat.reduceAdd, and_true, true_and, and_self, h__law_act, h__law_same, h_acted, h_open_deeds]) w__law_deeds_asked
theorem ok__law_machine (L : Facts K mg) : HasFn (⟨P, w, K, mg, base⟩ : Wd) 7 "_law_machine" sp__law_machine 7 := by
  obtain ⟨f, fd, F, hm, b⟩ := L.f__law_machine
  have h__law_hold := (ok__law_hold (P := P) (w := w) (base := base) L).mono (show 5 ≤ 6 by decide)
  have h__law_draw := (ok__law_draw (P := P) (w := w) (base := base) L).mono (show 2 ≤ 6 by decide)
  have h__law_deed := (ok__law_deed (P := P) (w := w) (base := base) L).mono (show 6 ≤ 6 by decide)
  exact hasFn_of (sp := sp__law_machine) F hm b sc__law_machine L.blt rfl ck__law_machine (by simp only [b__law_machine, b__law_machine_1, b__law_machine_2, needSs, needS, needE, needEs, needO, needT, needTs, needI, Es.len, Nat.zero_add, Nat.reduceAdd, and_true, true_and, and_self, h__law_hold, h__law_draw, h__law_deed]) w__law_machine
theorem ok__law_machine_asked (L : Facts K mg) : HasFn (⟨P, w, K, mg, base⟩ : Wd) 7 "_law_machine_asked" sp__law_machine_asked 2 := by
  obtain ⟨f, fd, F, hm, b⟩ := L.f__law_machine_asked
  have h__law_all_tests := (ok__law_all_tests (P := P) (w := w) (base := base) L).mono (show 1 ≤ 6 by decide)
  have h__law_same := (ok__law_same (P := P) (w := w) (base := base) L).mono (show 1 ≤ 6 by decide)
  have h__law_start := (ok__law_start (P := P) (w := w) (base := base) L).mono (show 1 ≤ 6 by decide)
  have h_start_state := (ok_start_state (P := P) (w := w) (base := base) L).mono (show 1 ≤ 6 by decide)
  have h__law_near := (ok__law_near (P := P) (w := w) (base := base) L).mono (show 5 ≤ 6 by decide)
  have h__law_draw := (ok__law_draw (P := P) (w := w) (base := base) L).mono (show 2 ≤ 6 by decide)
  have h__law_deeds_asked := (ok__law_deeds_asked (P := P) (w := w) (base := base) L).mono (show 6 ≤ 6 by decide)
  have h__law_waits_asked := (ok__law_waits_asked (P := P) (w := w) (base := base) L).mono (show 6 ≤ 6 by decide)
  have h__law_tests_asked := (ok__law_tests_asked (P := P) (w := w) (base := base) L).mono (show 4 ≤ 6 by decide)
  exact hasFn_of (sp := sp__law_machine_asked) F hm b sc__law_machine_asked L.blt rfl ck__law_machine_asked (by simp only [b__law_machine_asked, b__law_machine_asked_1, b__law_machine_asked_2, needSs, needS, needE, needEs, needO, needT, needTs, needI, Es.len, Nat.zero_add, Nat.reduceAdd, and_true, true_and, and_self, h__law_all_tests, h__law_same, h__law_start, h_start_state, h__law_near, h__law_draw, h__law_deeds_asked, h__law_waits_asked, h__law_tests_asked]) w__law_machine_asked
theorem ok__law_drawn (L : Facts K mg) : HasFn (⟨P, w, K, mg, base⟩ : Wd) 8 "_law_drawn" sp__law_drawn 1 := by
  obtain ⟨f, fd, F, hm, b⟩ := L.f__law_drawn
  have h__law_pick := (ok__law_pick (P := P) (w := w) (base := base) L).mono (show 3 ≤ 7 by decide)
  have h__law_draw := (ok__law_draw (P := P) (w := w) (base := base) L).mono (show 2 ≤ 7 by decide)
  have h__law_machine := (ok__law_machine (P := P) (w := w) (base := base) L).mono (show 7 ≤ 7 by decide)
  exact hasFn_of (sp := sp__law_drawn) F hm b sc__law_drawn L.blt rfl ck__law_drawn (by simp only [b__law_drawn, needSs, needS, needE, needEs, needO, needT, needTs, needI, Es.len, Nat.zero_add, Nat.reduceAdd, and_true, true_and, and_self, h__law_pick, h__law_draw, h__law_machine]) w__law_drawn
theorem ok_law (L : Facts K mg) {f : Addr} {fd : FuncData} (F : L2.Fun K "law" "law" s_law f fd) : FnG P w K mg base 9 f fd ["script"] (liftSp K mg 1 lawSp) := by
  have h__law_pool := (ok__law_pool (P := P) (w := w) (base := base) L).mono (show 1 ≤ 8 by decide)
  have h__law_drawn := (ok__law_drawn (P := P) (w := w) (base := base) L).mono (show 8 ≤ 8 by decide)
  have h__law_machine_asked := (ok__law_machine_asked (P := P) (w := w) (base := base) L).mono (show 7 ≤ 8 by decide)
  exact fnG_of F sc_law L.blt rfl ck_law (by simp only [b_law, b_law_1, needSs, needS, needE, needEs, needO, needT, needTs, needI, Es.len, Nat.zero_add, Nat.reduceAdd, and_true, true_and, and_self, h__law_pool, h__law_drawn, h__law_machine_asked]) w_law
end
theorem all_mk {l : PySem.W.OpenLaw} {w : World} {K : PySem.W.Frag} {h : Heap} {mg : Str → Option Value} {fa : Addr} (X : K.In h) (G : h.Ns mainGlobals mg) (hfa : mg "law" = some (.ref fa))
    {f0 : Addr} {od0 an0 : Option Addr} {sl0 : Array (Option Value)} {oc0 kV0 dc0 pm0 cd0 ct0 : Value}
    {f1 : Addr} {od1 an1 : Option Addr} {sl1 : Array (Option Value)} {oc1 kV1 dc1 pm1 cd1 ct1 : Value}
    {f2 : Addr} {od2 an2 : Option Addr} {sl2 : Array (Option Value)} {oc2 kV2 dc2 pm2 cd2 ct2 : Value}
    {f3 : Addr} {od3 an3 : Option Addr} {sl3 : Array (Option Value)} {oc3 kV3 dc3 pm3 cd3 ct3 : Value}
    {f4 : Addr} {od4 an4 : Option Addr} {sl4 : Array (Option Value)} {oc4 kV4 dc4 pm4 cd4 ct4 : Value}
    {f5 : Addr} {od5 an5 : Option Addr} {sl5 : Array (Option Value)} {oc5 kV5 dc5 pm5 cd5 ct5 : Value}
    {f6 : Addr} {od6 an6 : Option Addr} {sl6 : Array (Option Value)} {oc6 kV6 dc6 pm6 cd6 ct6 : Value}
    {f7 : Addr} {od7 an7 : Option Addr} {sl7 : Array (Option Value)} {oc7 kV7 dc7 pm7 cd7 ct7 : Value}
    {f8 : Addr} {od8 an8 : Option Addr} {sl8 : Array (Option Value)} {oc8 kV8 dc8 pm8 cd8 ct8 : Value}
    {f9 : Addr} {od9 an9 : Option Addr} {sl9 : Array (Option Value)} {oc9 kV9 dc9 pm9 cd9 ct9 : Value}
    {f10 : Addr} {od10 an10 : Option Addr} {sl10 : Array (Option Value)} {oc10 kV10 dc10 pm10 cd10 ct10 : Value}
    {f11 : Addr} {od11 an11 : Option Addr} {sl11 : Array (Option Value)} {oc11 kV11 dc11 pm11 cd11 ct11 : Value}
    {f12 : Addr} {od12 an12 : Option Addr} {sl12 : Array (Option Value)} {oc12 kV12 dc12 pm12 cd12 ct12 : Value}
    {f13 : Addr} {od13 an13 : Option Addr} {sl13 : Array (Option Value)} {oc13 kV13 dc13 pm13 cd13 ct13 : Value}
    {f14 : Addr} {od14 an14 : Option Addr} {sl14 : Array (Option Value)} {oc14 kV14 dc14 pm14 cd14 ct14 : Value}
    {f15 : Addr} {od15 an15 : Option Addr} {sl15 : Array (Option Value)} {oc15 kV15 dc15 pm15 cd15 ct15 : Value}
    {f16 : Addr} {od16 an16 : Option Addr} {sl16 : Array (Option Value)} {oc16 kV16 dc16 pm16 cd16 ct16 : Value}
    {f17 : Addr} {od17 an17 : Option Addr} {sl17 : Array (Option Value)} {oc17 kV17 dc17 pm17 cd17 ct17 : Value}
    {f18 : Addr} {od18 an18 : Option Addr} {sl18 : Array (Option Value)} {oc18 kV18 dc18 pm18 cd18 ct18 : Value}
    {f19 : Addr} {od19 an19 : Option Addr} {sl19 : Array (Option Value)} {oc19 kV19 dc19 pm19 cd19 ct19 : Value}
    {f20 : Addr} {od20 an20 : Option Addr} {sl20 : Array (Option Value)} {oc20 kV20 dc20 pm20 cd20 ct20 : Value}
    {f21 : Addr} {od21 an21 : Option Addr} {sl21 : Array (Option Value)} {oc21 kV21 dc21 pm21 cd21 ct21 : Value}
    {f22 : Addr} {od22 an22 : Option Addr} {sl22 : Array (Option Value)} {oc22 kV22 dc22 pm22 cd22 ct22 : Value}
    {f23 : Addr} {od23 an23 : Option Addr} {sl23 : Array (Option Value)} {oc23 kV23 dc23 pm23 cd23 ct23 : Value}
    {f24 : Addr} {od24 an24 : Option Addr} {sl24 : Array (Option Value)} {oc24 kV24 dc24 pm24 cd24 ct24 : Value}
    {f25 : Addr} {od25 an25 : Option Addr} {sl25 : Array (Option Value)} {oc25 kV25 dc25 pm25 cd25 ct25 : Value}
    {f26 : Addr} {od26 an26 : Option Addr} {sl26 : Array (Option Value)} {oc26 kV26 dc26 pm26 cd26 ct26 : Value}
    {f27 : Addr} {od27 an27 : Option Addr} {sl27 : Array (Option Value)} {oc27 kV27 dc27 pm27 cd27 ct27 : Value}
    {f28 : Addr} {od28 an28 : Option Addr} {sl28 : Array (Option Value)} {oc28 kV28 dc28 pm28 cd28 ct28 : Value}
    {f29 : Addr} {od29 an29 : Option Addr} {sl29 : Array (Option Value)} {oc29 kV29 dc29 pm29 cd29 ct29 : Value}
    {f30 : Addr} {od30 an30 : Option Addr} {sl30 : Array (Option Value)} {oc30 kV30 dc30 pm30 cd30 ct30 : Value}
    {f31 : Addr} {od31 an31 : Option Addr} {sl31 : Array (Option Value)} {oc31 kV31 dc31 pm31 cd31 ct31 : Value}
    {f32 : Addr} {od32 an32 : Option Addr} {sl32 : Array (Option Value)} {oc32 kV32 dc32 pm32 cd32 ct32 : Value}
    {f33 : Addr} {od33 an33 : Option Addr} {sl33 : Array (Option Value)} {oc33 kV33 dc33 pm33 cd33 ct33 : Value}
    {f34 : Addr} {od34 an34 : Option Addr} {sl34 : Array (Option Value)} {oc34 kV34 dc34 pm34 cd34 ct34 : Value}
    {f35 : Addr} {od35 an35 : Option Addr} {sl35 : Array (Option Value)} {oc35 kV35 dc35 pm35 cd35 ct35 : Value}
    {f36 : Addr} {od36 an36 : Option Addr} {sl36 : Array (Option Value)} {oc36 kV36 dc36 pm36 cd36 ct36 : Value}
    {f37 : Addr} {od37 an37 : Option Addr} {sl37 : Array (Option Value)} {oc37 kV37 dc37 pm37 cd37 ct37 : Value}
    {f38 : Addr} {od38 an38 : Option Addr} {sl38 : Array (Option Value)} {oc38 kV38 dc38 pm38 cd38 ct38 : Value}
    {f39 : Addr} {od39 an39 : Option Addr} {sl39 : Array (Option Value)} {oc39 kV39 dc39 pm39 cd39 ct39 : Value}
    {f40 : Addr} {od40 an40 : Option Addr} {sl40 : Array (Option Value)} {oc40 kV40 dc40 pm40 cd40 ct40 : Value}
    {f41 : Addr} {od41 an41 : Option Addr} {sl41 : Array (Option Value)} {oc41 kV41 dc41 pm41 cd41 ct41 : Value}
    {f42 : Addr} {od42 an42 : Option Addr} {sl42 : Array (Option Value)} {oc42 kV42 dc42 pm42 cd42 ct42 : Value}
    {ga0 : Addr} {gd0 : Option Addr} {gt0 gu0 : Tok} {gn0 : Nat} {gs0 : Array (Option Value)}
    (a0 : PySem.W.nsIn K mainGlobals "common_factor" = some (some (.ref f0)))
    (l0 : K.lookup f0 = some ⟨oc0, od0, .func (PySem.W.fnOf "common_factor" "common_factor" (defArgs s_common_factor) (defBody s_common_factor) (defScope s_common_factor) .none kV0 dc0 pm0 an0 cd0 ct0), sl0⟩)
    (c0 : PySem.W.codeIn K cd0 "common_factor" = true)
    (k0 : PySem.W.keepIn K (.ref f0) = true)
    (a1 : PySem.W.nsIn K mainGlobals "lowest_terms" = some (some (.ref f1)))
    (l1 : K.lookup f1 = some ⟨oc1, od1, .func (PySem.W.fnOf "lowest_terms" "lowest_terms" (defArgs s_lowest_terms) (defBody s_lowest_terms) (defScope s_lowest_terms) .none kV1 dc1 pm1 an1 cd1 ct1), sl1⟩)
    (c1 : PySem.W.codeIn K cd1 "lowest_terms" = true)
    (k1 : PySem.W.keepIn K (.ref f1) = true)
    (a2 : PySem.W.nsIn K mainGlobals "plus" = some (some (.ref f2)))
    (l2 : K.lookup f2 = some ⟨oc2, od2, .func (PySem.W.fnOf "plus" "plus" (defArgs s_plus) (defBody s_plus) (defScope s_plus) .none kV2 dc2 pm2 an2 cd2 ct2), sl2⟩)
    (c2 : PySem.W.codeIn K cd2 "plus" = true)
    (k2 : PySem.W.keepIn K (.ref f2) = true)
    (a3 : PySem.W.nsIn K mainGlobals "deeds_from" = some (some (.ref f3)))
    (l3 : K.lookup f3 = some ⟨oc3, od3, .func (PySem.W.fnOf "deeds_from" "deeds_from" (defArgs s_deeds_from) (defBody s_deeds_from) (defScope s_deeds_from) .none kV3 dc3 pm3 an3 cd3 ct3), sl3⟩)
    (c3 : PySem.W.codeIn K cd3 "deeds_from" = true)
    (k3 : PySem.W.keepIn K (.ref f3) = true)
    (a4 : PySem.W.nsIn K mainGlobals "compared" = some (some (.ref f4)))
    (l4 : K.lookup f4 = some ⟨oc4, od4, .func (PySem.W.fnOf "compared" "compared" (defArgs s_compared) (defBody s_compared) (defScope s_compared) .none kV4 dc4 pm4 an4 cd4 ct4), sl4⟩)
    (c4 : PySem.W.codeIn K cd4 "compared" = true)
    (k4 : PySem.W.keepIn K (.ref f4) = true)
    (a5 : PySem.W.nsIn K mainGlobals "meets" = some (some (.ref f5)))
    (l5 : K.lookup f5 = some ⟨oc5, od5, .func (PySem.W.fnOf "meets" "meets" (defArgs s_meets) (defBody s_meets) (defScope s_meets) .none kV5 dc5 pm5 an5 cd5 ct5), sl5⟩)
    (c5 : PySem.W.codeIn K cd5 "meets" = true)
    (k5 : PySem.W.keepIn K (.ref f5) = true)
    (a6 : PySem.W.nsIn K mainGlobals "meets_all" = some (some (.ref f6)))
    (l6 : K.lookup f6 = some ⟨oc6, od6, .func (PySem.W.fnOf "meets_all" "meets_all" (defArgs s_meets_all) (defBody s_meets_all) (defScope s_meets_all) .none kV6 dc6 pm6 an6 cd6 ct6), sl6⟩)
    (c6 : PySem.W.codeIn K cd6 "meets_all" = true)
    (k6 : PySem.W.keepIn K (.ref f6) = true)
    (a7 : PySem.W.nsIn K mainGlobals "start_state" = some (some (.ref f7)))
    (l7 : K.lookup f7 = some ⟨oc7, od7, .func (PySem.W.fnOf "start_state" "start_state" (defArgs s_start_state) (defBody s_start_state) (defScope s_start_state) .none kV7 dc7 pm7 an7 cd7 ct7), sl7⟩)
    (c7 : PySem.W.codeIn K cd7 "start_state" = true)
    (k7 : PySem.W.keepIn K (.ref f7) = true)
    (a8 : PySem.W.nsIn K mainGlobals "waited" = some (some (.ref f8)))
    (l8 : K.lookup f8 = some ⟨oc8, od8, .func (PySem.W.fnOf "waited" "waited" (defArgs s_waited) (defBody s_waited) (defScope s_waited) .none kV8 dc8 pm8 an8 cd8 ct8), sl8⟩)
    (c8 : PySem.W.codeIn K cd8 "waited" = true)
    (k8 : PySem.W.keepIn K (.ref f8) = true)
    (a9 : PySem.W.nsIn K mainGlobals "values_back" = some (some (.ref f9)))
    (l9 : K.lookup f9 = some ⟨oc9, od9, .func (PySem.W.fnOf "values_back" "values_back" (defArgs s_values_back) (defBody s_values_back) (defScope s_values_back) .none kV9 dc9 pm9 an9 cd9 ct9), sl9⟩)
    (c9 : PySem.W.codeIn K cd9 "values_back" = true)
    (k9 : PySem.W.keepIn K (.ref f9) = true)
    (a10 : PySem.W.nsIn K mainGlobals "acted" = some (some (.ref f10)))
    (l10 : K.lookup f10 = some ⟨oc10, od10, .func (PySem.W.fnOf "acted" "acted" (defArgs s_acted) (defBody s_acted) (defScope s_acted) .none kV10 dc10 pm10 an10 cd10 ct10), sl10⟩)
    (c10 : PySem.W.codeIn K cd10 "acted" = true)
    (k10 : PySem.W.keepIn K (.ref f10) = true)
    (a11 : PySem.W.nsIn K mainGlobals "open_deeds" = some (some (.ref f11)))
    (l11 : K.lookup f11 = some ⟨oc11, od11, .func (PySem.W.fnOf "open_deeds" "open_deeds" (defArgs s_open_deeds) (defBody s_open_deeds) (defScope s_open_deeds) .none kV11 dc11 pm11 an11 cd11 ct11), sl11⟩)
    (c11 : PySem.W.codeIn K cd11 "open_deeds" = true)
    (k11 : PySem.W.keepIn K (.ref f11) = true)
    (a12 : PySem.W.nsIn K mainGlobals "_law_pool" = some (some (.ref f12)))
    (l12 : K.lookup f12 = some ⟨oc12, od12, .func (PySem.W.fnOf "_law_pool" "_law_pool" (defArgs s__law_pool) (defBody s__law_pool) (defScope s__law_pool) .none kV12 dc12 pm12 an12 cd12 ct12), sl12⟩)
    (c12 : PySem.W.codeIn K cd12 "_law_pool" = true)
    (k12 : PySem.W.keepIn K (.ref f12) = true)
    (a13 : PySem.W.nsIn K mainGlobals "_law_mix" = some (some (.ref f13)))
    (l13 : K.lookup f13 = some ⟨oc13, od13, .func (PySem.W.fnOf "_law_mix" "_law_mix" (defArgs s__law_mix) (defBody s__law_mix) (defScope s__law_mix) .none kV13 dc13 pm13 an13 cd13 ct13), sl13⟩)
    (c13 : PySem.W.codeIn K cd13 "_law_mix" = true)
    (k13 : PySem.W.keepIn K (.ref f13) = true)
    (a14 : PySem.W.nsIn K mainGlobals "_law_draw" = some (some (.ref f14)))
    (l14 : K.lookup f14 = some ⟨oc14, od14, .func (PySem.W.fnOf "_law_draw" "_law_draw" (defArgs s__law_draw) (defBody s__law_draw) (defScope s__law_draw) .none kV14 dc14 pm14 an14 cd14 ct14), sl14⟩)
    (c14 : PySem.W.codeIn K cd14 "_law_draw" = true)
    (k14 : PySem.W.keepIn K (.ref f14) = true)
    (a15 : PySem.W.nsIn K mainGlobals "_law_pick" = some (some (.ref f15)))
    (l15 : K.lookup f15 = some ⟨oc15, od15, .func (PySem.W.fnOf "_law_pick" "_law_pick" (defArgs s__law_pick) (defBody s__law_pick) (defScope s__law_pick) .none kV15 dc15 pm15 an15 cd15 ct15), sl15⟩)
    (c15 : PySem.W.codeIn K cd15 "_law_pick" = true)
    (k15 : PySem.W.keepIn K (.ref f15) = true)
    (a16 : PySem.W.nsIn K mainGlobals "_law_same" = some (some (.ref f16)))
    (l16 : K.lookup f16 = some ⟨oc16, od16, .func (PySem.W.fnOf "_law_same" "_law_same" (defArgs s__law_same) (defBody s__law_same) (defScope s__law_same) .none kV16 dc16 pm16 an16 cd16 ct16), sl16⟩)
    (c16 : PySem.W.codeIn K cd16 "_law_same" = true)
    (k16 : PySem.W.keepIn K (.ref f16) = true)
    (a17 : PySem.W.nsIn K mainGlobals "_law_gcd" = some (some (.ref f17)))
    (l17 : K.lookup f17 = some ⟨oc17, od17, .func (PySem.W.fnOf "_law_gcd" "_law_gcd" (defArgs s__law_gcd) (defBody s__law_gcd) (defScope s__law_gcd) .none kV17 dc17 pm17 an17 cd17 ct17), sl17⟩)
    (c17 : PySem.W.codeIn K cd17 "_law_gcd" = true)
    (k17 : PySem.W.keepIn K (.ref f17) = true)
    (a18 : PySem.W.nsIn K mainGlobals "_law_ratio" = some (some (.ref f18)))
    (l18 : K.lookup f18 = some ⟨oc18, od18, .func (PySem.W.fnOf "_law_ratio" "_law_ratio" (defArgs s__law_ratio) (defBody s__law_ratio) (defScope s__law_ratio) .none kV18 dc18 pm18 an18 cd18 ct18), sl18⟩)
    (c18 : PySem.W.codeIn K cd18 "_law_ratio" = true)
    (k18 : PySem.W.keepIn K (.ref f18) = true)
    (a19 : PySem.W.nsIn K mainGlobals "_law_plus" = some (some (.ref f19)))
    (l19 : K.lookup f19 = some ⟨oc19, od19, .func (PySem.W.fnOf "_law_plus" "_law_plus" (defArgs s__law_plus) (defBody s__law_plus) (defScope s__law_plus) .none kV19 dc19 pm19 an19 cd19 ct19), sl19⟩)
    (c19 : PySem.W.codeIn K cd19 "_law_plus" = true)
    (k19 : PySem.W.keepIn K (.ref f19) = true)
    (a20 : PySem.W.nsIn K mainGlobals "_law_less_by" = some (some (.ref f20)))
    (l20 : K.lookup f20 = some ⟨oc20, od20, .func (PySem.W.fnOf "_law_less_by" "_law_less_by" (defArgs s__law_less_by) (defBody s__law_less_by) (defScope s__law_less_by) .none kV20 dc20 pm20 an20 cd20 ct20), sl20⟩)
    (c20 : PySem.W.codeIn K cd20 "_law_less_by" = true)
    (k20 : PySem.W.keepIn K (.ref f20) = true)
    (a21 : PySem.W.nsIn K mainGlobals "_law_compare" = some (some (.ref f21)))
    (l21 : K.lookup f21 = some ⟨oc21, od21, .func (PySem.W.fnOf "_law_compare" "_law_compare" (defArgs s__law_compare) (defBody s__law_compare) (defScope s__law_compare) .none kV21 dc21 pm21 an21 cd21 ct21), sl21⟩)
    (c21 : PySem.W.codeIn K cd21 "_law_compare" = true)
    (k21 : PySem.W.keepIn K (.ref f21) = true)
    (a22 : PySem.W.nsIn K mainGlobals "_law_meets" = some (some (.ref f22)))
    (l22 : K.lookup f22 = some ⟨oc22, od22, .func (PySem.W.fnOf "_law_meets" "_law_meets" (defArgs s__law_meets) (defBody s__law_meets) (defScope s__law_meets) .none kV22 dc22 pm22 an22 cd22 ct22), sl22⟩)
    (c22 : PySem.W.codeIn K cd22 "_law_meets" = true)
    (k22 : PySem.W.keepIn K (.ref f22) = true)
    (a23 : PySem.W.nsIn K mainGlobals "_law_start" = some (some (.ref f23)))
    (l23 : K.lookup f23 = some ⟨oc23, od23, .func (PySem.W.fnOf "_law_start" "_law_start" (defArgs s__law_start) (defBody s__law_start) (defScope s__law_start) .none kV23 dc23 pm23 an23 cd23 ct23), sl23⟩)
    (c23 : PySem.W.codeIn K cd23 "_law_start" = true)
    (k23 : PySem.W.keepIn K (.ref f23) = true)
    (a24 : PySem.W.nsIn K mainGlobals "_law_wait" = some (some (.ref f24)))
    (l24 : K.lookup f24 = some ⟨oc24, od24, .func (PySem.W.fnOf "_law_wait" "_law_wait" (defArgs s__law_wait) (defBody s__law_wait) (defScope s__law_wait) .none kV24 dc24 pm24 an24 cd24 ct24), sl24⟩)
    (c24 : PySem.W.codeIn K cd24 "_law_wait" = true)
    (k24 : PySem.W.keepIn K (.ref f24) = true)
    (a25 : PySem.W.nsIn K mainGlobals "_law_act" = some (some (.ref f25)))
    (l25 : K.lookup f25 = some ⟨oc25, od25, .func (PySem.W.fnOf "_law_act" "_law_act" (defArgs s__law_act) (defBody s__law_act) (defScope s__law_act) .none kV25 dc25 pm25 an25 cd25 ct25), sl25⟩)
    (c25 : PySem.W.codeIn K cd25 "_law_act" = true)
    (k25 : PySem.W.keepIn K (.ref f25) = true)
    (a26 : PySem.W.nsIn K mainGlobals "_law_test" = some (some (.ref f26)))
    (l26 : K.lookup f26 = some ⟨oc26, od26, .func (PySem.W.fnOf "_law_test" "_law_test" (defArgs s__law_test) (defBody s__law_test) (defScope s__law_test) .none kV26 dc26 pm26 an26 cd26 ct26), sl26⟩)
    (c26 : PySem.W.codeIn K cd26 "_law_test" = true)
    (k26 : PySem.W.keepIn K (.ref f26) = true)
    (a27 : PySem.W.nsIn K mainGlobals "_law_hold" = some (some (.ref f27)))
    (l27 : K.lookup f27 = some ⟨oc27, od27, .func (PySem.W.fnOf "_law_hold" "_law_hold" (defArgs s__law_hold) (defBody s__law_hold) (defScope s__law_hold) .none kV27 dc27 pm27 an27 cd27 ct27), sl27⟩)
    (c27 : PySem.W.codeIn K cd27 "_law_hold" = true)
    (k27 : PySem.W.keepIn K (.ref f27) = true)
    (a28 : PySem.W.nsIn K mainGlobals "_law_guard" = some (some (.ref f28)))
    (l28 : K.lookup f28 = some ⟨oc28, od28, .func (PySem.W.fnOf "_law_guard" "_law_guard" (defArgs s__law_guard) (defBody s__law_guard) (defScope s__law_guard) .none kV28 dc28 pm28 an28 cd28 ct28), sl28⟩)
    (c28 : PySem.W.codeIn K cd28 "_law_guard" = true)
    (k28 : PySem.W.keepIn K (.ref f28) = true)
    (a29 : PySem.W.nsIn K mainGlobals "_law_backs" = some (some (.ref f29)))
    (l29 : K.lookup f29 = some ⟨oc29, od29, .func (PySem.W.fnOf "_law_backs" "_law_backs" (defArgs s__law_backs) (defBody s__law_backs) (defScope s__law_backs) .none kV29 dc29 pm29 an29 cd29 ct29), sl29⟩)
    (c29 : PySem.W.codeIn K cd29 "_law_backs" = true)
    (k29 : PySem.W.keepIn K (.ref f29) = true)
    (a30 : PySem.W.nsIn K mainGlobals "_law_deed" = some (some (.ref f30)))
    (l30 : K.lookup f30 = some ⟨oc30, od30, .func (PySem.W.fnOf "_law_deed" "_law_deed" (defArgs s__law_deed) (defBody s__law_deed) (defScope s__law_deed) .none kV30 dc30 pm30 an30 cd30 ct30), sl30⟩)
    (c30 : PySem.W.codeIn K cd30 "_law_deed" = true)
    (k30 : PySem.W.keepIn K (.ref f30) = true)
    (a31 : PySem.W.nsIn K mainGlobals "_law_machine" = some (some (.ref f31)))
    (l31 : K.lookup f31 = some ⟨oc31, od31, .func (PySem.W.fnOf "_law_machine" "_law_machine" (defArgs s__law_machine) (defBody s__law_machine) (defScope s__law_machine) .none kV31 dc31 pm31 an31 cd31 ct31), sl31⟩)
    (c31 : PySem.W.codeIn K cd31 "_law_machine" = true)
    (k31 : PySem.W.keepIn K (.ref f31) = true)
    (a32 : PySem.W.nsIn K mainGlobals "_law_fraction" = some (some (.ref f32)))
    (l32 : K.lookup f32 = some ⟨oc32, od32, .func (PySem.W.fnOf "_law_fraction" "_law_fraction" (defArgs s__law_fraction) (defBody s__law_fraction) (defScope s__law_fraction) .none kV32 dc32 pm32 an32 cd32 ct32), sl32⟩)
    (c32 : PySem.W.codeIn K cd32 "_law_fraction" = true)
    (k32 : PySem.W.keepIn K (.ref f32) = true)
    (a33 : PySem.W.nsIn K mainGlobals "_law_drawn" = some (some (.ref f33)))
    (l33 : K.lookup f33 = some ⟨oc33, od33, .func (PySem.W.fnOf "_law_drawn" "_law_drawn" (defArgs s__law_drawn) (defBody s__law_drawn) (defScope s__law_drawn) .none kV33 dc33 pm33 an33 cd33 ct33), sl33⟩)
    (c33 : PySem.W.codeIn K cd33 "_law_drawn" = true)
    (k33 : PySem.W.keepIn K (.ref f33) = true)
    (a34 : PySem.W.nsIn K mainGlobals "_law_all_tests" = some (some (.ref f34)))
    (l34 : K.lookup f34 = some ⟨oc34, od34, .func (PySem.W.fnOf "_law_all_tests" "_law_all_tests" (defArgs s__law_all_tests) (defBody s__law_all_tests) (defScope s__law_all_tests) .none kV34 dc34 pm34 an34 cd34 ct34), sl34⟩)
    (c34 : PySem.W.codeIn K cd34 "_law_all_tests" = true)
    (k34 : PySem.W.keepIn K (.ref f34) = true)
    (a35 : PySem.W.nsIn K mainGlobals "_law_step" = some (some (.ref f35)))
    (l35 : K.lookup f35 = some ⟨oc35, od35, .func (PySem.W.fnOf "_law_step" "_law_step" (defArgs s__law_step) (defBody s__law_step) (defScope s__law_step) .none kV35 dc35 pm35 an35 cd35 ct35), sl35⟩)
    (c35 : PySem.W.codeIn K cd35 "_law_step" = true)
    (k35 : PySem.W.keepIn K (.ref f35) = true)
    (a36 : PySem.W.nsIn K mainGlobals "_law_near" = some (some (.ref f36)))
    (l36 : K.lookup f36 = some ⟨oc36, od36, .func (PySem.W.fnOf "_law_near" "_law_near" (defArgs s__law_near) (defBody s__law_near) (defScope s__law_near) .none kV36 dc36 pm36 an36 cd36 ct36), sl36⟩)
    (c36 : PySem.W.codeIn K cd36 "_law_near" = true)
    (k36 : PySem.W.keepIn K (.ref f36) = true)
    (a37 : PySem.W.nsIn K mainGlobals "_law_wait_near" = some (some (.ref f37)))
    (l37 : K.lookup f37 = some ⟨oc37, od37, .func (PySem.W.fnOf "_law_wait_near" "_law_wait_near" (defArgs s__law_wait_near) (defBody s__law_wait_near) (defScope s__law_wait_near) .none kV37 dc37 pm37 an37 cd37 ct37), sl37⟩)
    (c37 : PySem.W.codeIn K cd37 "_law_wait_near" = true)
    (k37 : PySem.W.keepIn K (.ref f37) = true)
    (a38 : PySem.W.nsIn K mainGlobals "_law_waits_asked" = some (some (.ref f38)))
    (l38 : K.lookup f38 = some ⟨oc38, od38, .func (PySem.W.fnOf "_law_waits_asked" "_law_waits_asked" (defArgs s__law_waits_asked) (defBody s__law_waits_asked) (defScope s__law_waits_asked) .none kV38 dc38 pm38 an38 cd38 ct38), sl38⟩)
    (c38 : PySem.W.codeIn K cd38 "_law_waits_asked" = true)
    (k38 : PySem.W.keepIn K (.ref f38) = true)
    (a39 : PySem.W.nsIn K mainGlobals "_law_deeds_asked" = some (some (.ref f39)))
    (l39 : K.lookup f39 = some ⟨oc39, od39, .func (PySem.W.fnOf "_law_deeds_asked" "_law_deeds_asked" (defArgs s__law_deeds_asked) (defBody s__law_deeds_asked) (defScope s__law_deeds_asked) .none kV39 dc39 pm39 an39 cd39 ct39), sl39⟩)
    (c39 : PySem.W.codeIn K cd39 "_law_deeds_asked" = true)
    (k39 : PySem.W.keepIn K (.ref f39) = true)
    (a40 : PySem.W.nsIn K mainGlobals "_law_tests_asked" = some (some (.ref f40)))
    (l40 : K.lookup f40 = some ⟨oc40, od40, .func (PySem.W.fnOf "_law_tests_asked" "_law_tests_asked" (defArgs s__law_tests_asked) (defBody s__law_tests_asked) (defScope s__law_tests_asked) .none kV40 dc40 pm40 an40 cd40 ct40), sl40⟩)
    (c40 : PySem.W.codeIn K cd40 "_law_tests_asked" = true)
    (k40 : PySem.W.keepIn K (.ref f40) = true)
    (a41 : PySem.W.nsIn K mainGlobals "_law_machine_asked" = some (some (.ref f41)))
    (l41 : K.lookup f41 = some ⟨oc41, od41, .func (PySem.W.fnOf "_law_machine_asked" "_law_machine_asked" (defArgs s__law_machine_asked) (defBody s__law_machine_asked) (defScope s__law_machine_asked) .none kV41 dc41 pm41 an41 cd41 ct41), sl41⟩)
    (c41 : PySem.W.codeIn K cd41 "_law_machine_asked" = true)
    (k41 : PySem.W.keepIn K (.ref f41) = true)
    (a42 : PySem.W.nsIn K mainGlobals "law" = some (some (.ref f42)))
    (l42 : K.lookup f42 = some ⟨oc42, od42, .func (PySem.W.fnOf "law" "law" (defArgs s_law) (defBody s_law) (defScope s_law) .none kV42 dc42 pm42 an42 cd42 ct42), sl42⟩)
    (c42 : PySem.W.codeIn K cd42 "law" = true)
    (k42 : PySem.W.keepIn K (.ref f42) = true)
    (z0 : PySem.W.nsIn K mainGlobals "len" = some none)
    (z1 : PySem.W.nsIn K mainGlobals "int" = some none)
    (z2 : PySem.W.nsIn K mainGlobals "abs" = some none)
    (z3 : PySem.W.nsIn K mainGlobals "tuple" = some none)
    (z4 : PySem.W.nsIn K mainGlobals "list" = some none)
    (z5 : PySem.W.nsIn K mainGlobals "all" = some none)
    (z6 : PySem.W.nsIn K mainGlobals "any" = some none)
    (z7 : PySem.W.nsIn K mainGlobals "sum" = some none)
    (z8 : PySem.W.nsIn K mainGlobals "min" = some none)
    (z9 : PySem.W.nsIn K mainGlobals "max" = some none)
    (z10 : PySem.W.nsIn K mainGlobals "repr" = some none)
    (z11 : PySem.W.nsIn K mainGlobals "isinstance" = some none)
    (z12 : PySem.W.nsIn K mainGlobals "range" = some none)
    (z13 : PySem.W.nsIn K mainGlobals "enumerate" = some none)
    (z14 : PySem.W.nsIn K mainGlobals "zip" = some none)
    (z15 : PySem.W.nsIn K mainGlobals "bool" = some none)
    (z16 : PySem.W.nsIn K mainGlobals "str" = some none)
    (y0 : PySem.W.nsIn K mainGlobals "ZERO" = some (some (.ref ga0)))
    (x0 : K.lookup ga0 = some ⟨.type "tuple", gd0, .seq #[.int 0 gt0, .int 1 gu0] gn0, gs0⟩) :
    ∃ fd : FuncData, (∀ (s : Shared) (v : Value), BindsTo s fd ⟨[v], []⟩ [("script", v)]) ∧ ∀ base : Heap, K.In base → base.Ns mainGlobals mg → FnG l.prog w K mg base 9 fa fd ["script"] (liftSp K mg 1 lawSp) := by
  have e := hfa.symm.trans (PySem.W.mg_of X G a42)
  cases e
  have hb : ∀ x ∈ bltNames, mg x = none := by
    intro x hx
    simp only [bltNames, List.mem_cons, List.not_mem_nil, or_false] at hx
    rcases hx with rfl | rfl | rfl | rfl | rfl | rfl | rfl | rfl | rfl | rfl | rfl | rfl | rfl | rfl | rfl | rfl | rfl
    · exact PySem.W.mg_none_of X G z0
    · exact PySem.W.mg_none_of X G z1
    · exact PySem.W.mg_none_of X G z2
    · exact PySem.W.mg_none_of X G z3
    · exact PySem.W.mg_none_of X G z4
    · exact PySem.W.mg_none_of X G z5
    · exact PySem.W.mg_none_of X G z6
    · exact PySem.W.mg_none_of X G z7
    · exact PySem.W.mg_none_of X G z8
    · exact PySem.W.mg_none_of X G z9
    · exact PySem.W.mg_none_of X G z10
    · exact PySem.W.mg_none_of X G z11
    · exact PySem.W.mg_none_of X G z12
    · exact PySem.W.mg_none_of X G z13
    · exact PySem.W.mg_none_of X G z14
    · exact PySem.W.mg_none_of X G z15
    · exact PySem.W.mg_none_of X G z16
  have L : Facts K mg :=
    { blt := hb
      g_ZERO := ⟨_, _, _, _, _, _, PySem.W.mg_of X G y0, x0⟩
      f_common_factor := ⟨f0, _, fun_mk (st := s_common_factor) l0 c0 k0, PySem.W.mg_of X G a0, (fun_mk (st := s_common_factor) l0 c0 k0).binds fun _ _ _ _ _ _ us hl => match us, hl with | [_, _], _ => rfl⟩
      f_lowest_terms := ⟨f1, _, fun_mk (st := s_lowest_terms) l1 c1 k1, PySem.W.mg_of X G a1, (fun_mk (st := s_lowest_terms) l1 c1 k1).binds fun _ _ _ _ _ _ us hl => match us, hl with | [_, _], _ => rfl⟩
      f_plus := ⟨f2, _, fun_mk (st := s_plus) l2 c2 k2, PySem.W.mg_of X G a2, (fun_mk (st := s_plus) l2 c2 k2).binds fun _ _ _ _ _ _ us hl => match us, hl with | [_, _], _ => rfl⟩
      f_deeds_from := ⟨f3, _, fun_mk (st := s_deeds_from) l3 c3 k3, PySem.W.mg_of X G a3, (fun_mk (st := s_deeds_from) l3 c3 k3).binds fun _ _ _ _ _ _ us hl => match us, hl with | [_, _], _ => rfl⟩
      f_compared := ⟨f4, _, fun_mk (st := s_compared) l4 c4 k4, PySem.W.mg_of X G a4, (fun_mk (st := s_compared) l4 c4 k4).binds fun _ _ _ _ _ _ us hl => match us, hl with | [_, _, _], _ => rfl⟩
      f_meets := ⟨f5, _, fun_mk (st := s_meets) l5 c5 k5, PySem.W.mg_of X G a5, (fun_mk (st := s_meets) l5 c5 k5).binds fun _ _ _ _ _ _ us hl => match us, hl with | [_, _], _ => rfl⟩
      f_meets_all := ⟨f6, _, fun_mk (st := s_meets_all) l6 c6 k6, PySem.W.mg_of X G a6, (fun_mk (st := s_meets_all) l6 c6 k6).binds fun _ _ _ _ _ _ us hl => match us, hl with | [_, _], _ => rfl⟩
      f_start_state := ⟨f7, _, fun_mk (st := s_start_state) l7 c7 k7, PySem.W.mg_of X G a7, (fun_mk (st := s_start_state) l7 c7 k7).binds fun _ _ _ _ _ _ us hl => match us, hl with | [_], _ => rfl⟩
      f_waited := ⟨f8, _, fun_mk (st := s_waited) l8 c8 k8, PySem.W.mg_of X G a8, (fun_mk (st := s_waited) l8 c8 k8).binds fun _ _ _ _ _ _ us hl => match us, hl with | [_, _, _], _ => rfl⟩
      f_values_back := ⟨f9, _, fun_mk (st := s_values_back) l9 c9 k9, PySem.W.mg_of X G a9, (fun_mk (st := s_values_back) l9 c9 k9).binds fun _ _ _ _ _ _ us hl => match us, hl with | [_, _], _ => rfl⟩
      f_acted := ⟨f10, _, fun_mk (st := s_acted) l10 c10 k10, PySem.W.mg_of X G a10, (fun_mk (st := s_acted) l10 c10 k10).binds fun _ _ _ _ _ _ us hl => match us, hl with | [_, _, _], _ => rfl⟩
      f_open_deeds := ⟨f11, _, fun_mk (st := s_open_deeds) l11 c11 k11, PySem.W.mg_of X G a11, (fun_mk (st := s_open_deeds) l11 c11 k11).binds fun _ _ _ _ _ _ us hl => match us, hl with | [_, _], _ => rfl⟩
      f__law_pool := ⟨f12, _, fun_mk (st := s__law_pool) l12 c12 k12, PySem.W.mg_of X G a12, (fun_mk (st := s__law_pool) l12 c12 k12).binds fun _ _ _ _ _ _ us hl => match us, hl with | [_], _ => rfl⟩
      f__law_mix := ⟨f13, _, fun_mk (st := s__law_mix) l13 c13 k13, PySem.W.mg_of X G a13, (fun_mk (st := s__law_mix) l13 c13 k13).binds fun _ _ _ _ _ _ us hl => match us, hl with | [_], _ => rfl⟩
      f__law_draw := ⟨f14, _, fun_mk (st := s__law_draw) l14 c14 k14, PySem.W.mg_of X G a14, (fun_mk (st := s__law_draw) l14 c14 k14).binds fun _ _ _ _ _ _ us hl => match us, hl with | [_, _], _ => rfl⟩
      f__law_pick := ⟨f15, _, fun_mk (st := s__law_pick) l15 c15 k15, PySem.W.mg_of X G a15, (fun_mk (st := s__law_pick) l15 c15 k15).binds fun _ _ _ _ _ _ us hl => match us, hl with | [_, _], _ => rfl⟩
      f__law_same := ⟨f16, _, fun_mk (st := s__law_same) l16 c16 k16, PySem.W.mg_of X G a16, (fun_mk (st := s__law_same) l16 c16 k16).binds fun _ _ _ _ _ _ us hl => match us, hl with | [_, _], _ => rfl⟩
      f__law_gcd := ⟨f17, _, fun_mk (st := s__law_gcd) l17 c17 k17, PySem.W.mg_of X G a17, (fun_mk (st := s__law_gcd) l17 c17 k17).binds fun _ _ _ _ _ _ us hl => match us, hl with | [_, _], _ => rfl⟩
      f__law_ratio := ⟨f18, _, fun_mk (st := s__law_ratio) l18 c18 k18, PySem.W.mg_of X G a18, (fun_mk (st := s__law_ratio) l18 c18 k18).binds fun _ _ _ _ _ _ us hl => match us, hl with | [_, _], _ => rfl⟩
      f__law_plus := ⟨f19, _, fun_mk (st := s__law_plus) l19 c19 k19, PySem.W.mg_of X G a19, (fun_mk (st := s__law_plus) l19 c19 k19).binds fun _ _ _ _ _ _ us hl => match us, hl with | [_, _], _ => rfl⟩
      f__law_less_by := ⟨f20, _, fun_mk (st := s__law_less_by) l20 c20 k20, PySem.W.mg_of X G a20, (fun_mk (st := s__law_less_by) l20 c20 k20).binds fun _ _ _ _ _ _ us hl => match us, hl with | [_, _], _ => rfl⟩
      f__law_compare := ⟨f21, _, fun_mk (st := s__law_compare) l21 c21 k21, PySem.W.mg_of X G a21, (fun_mk (st := s__law_compare) l21 c21 k21).binds fun _ _ _ _ _ _ us hl => match us, hl with | [_, _, _], _ => rfl⟩
      f__law_meets := ⟨f22, _, fun_mk (st := s__law_meets) l22 c22 k22, PySem.W.mg_of X G a22, (fun_mk (st := s__law_meets) l22 c22 k22).binds fun _ _ _ _ _ _ us hl => match us, hl with | [_, _], _ => rfl⟩
      f__law_start := ⟨f23, _, fun_mk (st := s__law_start) l23 c23 k23, PySem.W.mg_of X G a23, (fun_mk (st := s__law_start) l23 c23 k23).binds fun _ _ _ _ _ _ us hl => match us, hl with | [_], _ => rfl⟩
      f__law_wait := ⟨f24, _, fun_mk (st := s__law_wait) l24 c24 k24, PySem.W.mg_of X G a24, (fun_mk (st := s__law_wait) l24 c24 k24).binds fun _ _ _ _ _ _ us hl => match us, hl with | [_, _, _], _ => rfl⟩
      f__law_act := ⟨f25, _, fun_mk (st := s__law_act) l25 c25 k25, PySem.W.mg_of X G a25, (fun_mk (st := s__law_act) l25 c25 k25).binds fun _ _ _ _ _ _ us hl => match us, hl with | [_, _, _], _ => rfl⟩
      f__law_test := ⟨f26, _, fun_mk (st := s__law_test) l26 c26 k26, PySem.W.mg_of X G a26, (fun_mk (st := s__law_test) l26 c26 k26).binds fun _ _ _ _ _ _ us hl => match us, hl with | [_, _, _, _], _ => rfl⟩
      f__law_hold := ⟨f27, _, fun_mk (st := s__law_hold) l27 c27 k27, PySem.W.mg_of X G a27, (fun_mk (st := s__law_hold) l27 c27 k27).binds fun _ _ _ _ _ _ us hl => match us, hl with | [_, _, _, _], _ => rfl⟩
      f__law_guard := ⟨f28, _, fun_mk (st := s__law_guard) l28 c28 k28, PySem.W.mg_of X G a28, (fun_mk (st := s__law_guard) l28 c28 k28).binds fun _ _ _ _ _ _ us hl => match us, hl with | [_, _, _, _], _ => rfl⟩
      f__law_backs := ⟨f29, _, fun_mk (st := s__law_backs) l29 c29 k29, PySem.W.mg_of X G a29, (fun_mk (st := s__law_backs) l29 c29 k29).binds fun _ _ _ _ _ _ us hl => match us, hl with | [_, _], _ => rfl⟩
      f__law_deed := ⟨f30, _, fun_mk (st := s__law_deed) l30 c30 k30, PySem.W.mg_of X G a30, (fun_mk (st := s__law_deed) l30 c30 k30).binds fun _ _ _ _ _ _ us hl => match us, hl with | [_, _, _, _, _, _, _], _ => rfl⟩
      f__law_machine := ⟨f31, _, fun_mk (st := s__law_machine) l31 c31 k31, PySem.W.mg_of X G a31, (fun_mk (st := s__law_machine) l31 c31 k31).binds fun _ _ _ _ _ _ us hl => match us, hl with | [_, _, _, _, _, _, _], _ => rfl⟩
      f__law_fraction := ⟨f32, _, fun_mk (st := s__law_fraction) l32 c32 k32, PySem.W.mg_of X G a32, (fun_mk (st := s__law_fraction) l32 c32 k32).binds fun _ _ _ _ _ _ us hl => match us, hl with | [_], _ => rfl⟩
      f__law_drawn := ⟨f33, _, fun_mk (st := s__law_drawn) l33 c33 k33, PySem.W.mg_of X G a33, (fun_mk (st := s__law_drawn) l33 c33 k33).binds fun _ _ _ _ _ _ us hl => match us, hl with | [_], _ => rfl⟩
      f__law_all_tests := ⟨f34, _, fun_mk (st := s__law_all_tests) l34 c34 k34, PySem.W.mg_of X G a34, (fun_mk (st := s__law_all_tests) l34 c34 k34).binds fun _ _ _ _ _ _ us hl => match us, hl with | [_], _ => rfl⟩
      f__law_step := ⟨f35, _, fun_mk (st := s__law_step) l35 c35 k35, PySem.W.mg_of X G a35, (fun_mk (st := s__law_step) l35 c35 k35).binds fun _ _ _ _ _ _ us hl => match us, hl with | [_], _ => rfl⟩
      f__law_near := ⟨f36, _, fun_mk (st := s__law_near) l36 c36 k36, PySem.W.mg_of X G a36, (fun_mk (st := s__law_near) l36 c36 k36).binds fun _ _ _ _ _ _ us hl => match us, hl with | [_, _, _], _ => rfl⟩
      f__law_wait_near := ⟨f37, _, fun_mk (st := s__law_wait_near) l37 c37 k37, PySem.W.mg_of X G a37, (fun_mk (st := s__law_wait_near) l37 c37 k37).binds fun _ _ _ _ _ _ us hl => match us, hl with | [_, _, _], _ => rfl⟩
      f__law_waits_asked := ⟨f38, _, fun_mk (st := s__law_waits_asked) l38 c38 k38, PySem.W.mg_of X G a38, (fun_mk (st := s__law_waits_asked) l38 c38 k38).binds fun _ _ _ _ _ _ us hl => match us, hl with | [_, _, _], _ => rfl⟩
      f__law_deeds_asked := ⟨f39, _, fun_mk (st := s__law_deeds_asked) l39 c39 k39, PySem.W.mg_of X G a39, (fun_mk (st := s__law_deeds_asked) l39 c39 k39).binds fun _ _ _ _ _ _ us hl => match us, hl with | [_, _], _ => rfl⟩
      f__law_tests_asked := ⟨f40, _, fun_mk (st := s__law_tests_asked) l40 c40 k40, PySem.W.mg_of X G a40, (fun_mk (st := s__law_tests_asked) l40 c40 k40).binds fun _ _ _ _ _ _ us hl => match us, hl with | [_, _, _], _ => rfl⟩
      f__law_machine_asked := ⟨f41, _, fun_mk (st := s__law_machine_asked) l41 c41 k41, PySem.W.mg_of X G a41, (fun_mk (st := s__law_machine_asked) l41 c41 k41).binds fun _ _ _ _ _ _ us hl => match us, hl with | [_, _], _ => rfl⟩ }
  exact ⟨_, fun s v => .of_eq rfl, fun base _ _ => ok_law L (fun_mk (st := s_law) l42 c42 k42)⟩
end TK
open PySem PySem.W PyProof.Rows
set_option maxHeartbeats 0 in
theorem PySem.Challenge.cw_tickless_k13_steps_in_fractions_holds : PySem.Challenge.rw_tickless_k13_steps_in_fractions.Holds := by
  w_on; o_law; k_head; (case hw => w_witness2)
  k_fill
  refine TK.walk_of (l := PySem.Challenge.rw_tickless_k13_steps_in_fractions) (k := 9) (x := "script") rfl rfl ⟨rfl, by decide, by decide⟩ (fun w h Y => PySem.W.kIn_of Y) ?F
  case F =>
    intro w mg fa h KX G hmg
    refine' TK.all_mk KX G hmg ?a0 ?l0 ?c0 ?k0 ?a1 ?l1 ?c1 ?k1 ?a2 ?l2 ?c2 ?k2 ?a3 ?l3 ?c3 ?k3 ?a4 ?l4 ?c4 ?k4 ?a5 ?l5 ?c5 ?k5 ?a6 ?l6 ?c6 ?k6 ?a7 ?l7 ?c7 ?k7 ?a8 ?l8 ?c8 ?k8 ?a9 ?l9 ?c9 ?k9 ?a10 ?l10 ?c10 ?k10 ?a11 ?l11 ?c11 ?k11 ?a12 ?l12 ?c12 ?k12 ?a13 ?l13 ?c13 ?k13 ?a14 ?l14 ?c14 ?k14 ?a15 ?l15 ?c15 ?k15 ?a16 ?l16 ?c16 ?k16 ?a17 ?l17 ?c17 ?k17 ?a18 ?l18 ?c18 ?k18 ?a19 ?l19 ?c19 ?k19 ?a20 ?l20 ?c20 ?k20 ?a21 ?l21 ?c21 ?k21 ?a22 ?l22 ?c22 ?k22 ?a23 ?l23 ?c23 ?k23 ?a24 ?l24 ?c24 ?k24 ?a25 ?l25 ?c25 ?k25 ?a26 ?l26 ?c26 ?k26 ?a27 ?l27 ?c27 ?k27 ?a28 ?l28 ?c28 ?k28 ?a29 ?l29 ?c29 ?k29 ?a30 ?l30 ?c30 ?k30 ?a31 ?l31 ?c31 ?k31 ?a32 ?l32 ?c32 ?k32 ?a33 ?l33 ?c33 ?k33 ?a34 ?l34 ?c34 ?k34 ?a35 ?l35 ?c35 ?k35 ?a36 ?l36 ?c36 ?k36 ?a37 ?l37 ?c37 ?k37 ?a38 ?l38 ?c38 ?k38 ?a39 ?l39 ?c39 ?k39 ?a40 ?l40 ?c40 ?k40 ?a41 ?l41 ?c41 ?k41 ?a42 ?l42 ?c42 ?k42 ?z0 ?z1 ?z2 ?z3 ?z4 ?z5 ?z6 ?z7 ?z8 ?z9 ?z10 ?z11 ?z12 ?z13 ?z14 ?z15 ?z16 ?y0 ?x0
    (case a0 => k_is); (case l0 => k_is); (case c0 => k_is); (case k0 => k_is); (case a1 => k_is); (case l1 => k_is); (case c1 => k_is); (case k1 => k_is); (case a2 => k_is); (case l2 => k_is); (case c2 => k_is); (case k2 => k_is); (case a3 => k_is); (case l3 => k_is); (case c3 => k_is); (case k3 => k_is); (case a4 => k_is); (case l4 => k_is); (case c4 => k_is); (case k4 => k_is); (case a5 => k_is); (case l5 => k_is); (case c5 => k_is); (case k5 => k_is); (case a6 => k_is); (case l6 => k_is); (case c6 => k_is); (case k6 => k_is); (case a7 => k_is); (case l7 => k_is); (case c7 => k_is); (case k7 => k_is); (case a8 => k_is); (case l8 => k_is); (case c8 => k_is); (case k8 => k_is); (case a9 => k_is); (case l9 => k_is); (case c9 => k_is); (case k9 => k_is); (case a10 => k_is); (case l10 => k_is); (case c10 => k_is); (case k10 => k_is); (case a11 => k_is); (case l11 => k_is); (case c11 => k_is); (case k11 => k_is); (case a12 => k_is); (case l12 => k_is); (case c12 => k_is); (case k12 => k_is); (case a13 => k_is); (case l13 => k_is); (case c13 => k_is); (case k13 => k_is); (case a14 => k_is); (case l14 => k_is); (case c14 => k_is); (case k14 => k_is); (case a15 => k_is); (case l15 => k_is); (case c15 => k_is); (case k15 => k_is); (case a16 => k_is); (case l16 => k_is); (case c16 => k_is); (case k16 => k_is); (case a17 => k_is); (case l17 => k_is); (case c17 => k_is); (case k17 => k_is); (case a18 => k_is); (case l18 => k_is); (case c18 => k_is); (case k18 => k_is); (case a19 => k_is); (case l19 => k_is); (case c19 => k_is); (case k19 => k_is); (case a20 => k_is); (case l20 => k_is); (case c20 => k_is); (case k20 => k_is); (case a21 => k_is); (case l21 => k_is); (case c21 => k_is); (case k21 => k_is); (case a22 => k_is); (case l22 => k_is); (case c22 => k_is); (case k22 => k_is); (case a23 => k_is); (case l23 => k_is); (case c23 => k_is); (case k23 => k_is); (case a24 => k_is); (case l24 => k_is); (case c24 => k_is); (case k24 => k_is); (case a25 => k_is); (case l25 => k_is); (case c25 => k_is); (case k25 => k_is); (case a26 => k_is); (case l26 => k_is); (case c26 => k_is); (case k26 => k_is); (case a27 => k_is); (case l27 => k_is); (case c27 => k_is); (case k27 => k_is); (case a28 => k_is); (case l28 => k_is); (case c28 => k_is); (case k28 => k_is); (case a29 => k_is); (case l29 => k_is); (case c29 => k_is); (case k29 => k_is); (case a30 => k_is); (case l30 => k_is); (case c30 => k_is); (case k30 => k_is); (case a31 => k_is); (case l31 => k_is); (case c31 => k_is); (case k31 => k_is); (case a32 => k_is); (case l32 => k_is); (case c32 => k_is); (case k32 => k_is); (case a33 => k_is); (case l33 => k_is); (case c33 => k_is); (case k33 => k_is); (case a34 => k_is); (case l34 => k_is); (case c34 => k_is); (case k34 => k_is); (case a35 => k_is); (case l35 => k_is); (case c35 => k_is); (case k35 => k_is); (case a36 => k_is); (case l36 => k_is); (case c36 => k_is); (case k36 => k_is); (case a37 => k_is); (case l37 => k_is); (case c37 => k_is); (case k37 => k_is); (case a38 => k_is); (case l38 => k_is); (case c38 => k_is); (case k38 => k_is); (case a39 => k_is); (case l39 => k_is); (case c39 => k_is); (case k39 => k_is); (case a40 => k_is); (case l40 => k_is); (case c40 => k_is); (case k40 => k_is); (case a41 => k_is); (case l41 => k_is); (case c41 => k_is); (case k41 => k_is); (case a42 => k_is); (case l42 => k_is); (case c42 => k_is); (case k42 => k_is); (case z0 => k_is); (case z1 => k_is); (case z2 => k_is); (case z3 => k_is); (case z4 => k_is); (case z5 => k_is); (case z6 => k_is); (case z7 => k_is); (case z8 => k_is); (case z9 => k_is); (case z10 => k_is); (case z11 => k_is); (case z12 => k_is); (case z13 => k_is); (case z14 => k_is); (case z15 => k_is); (case z16 => k_is); (case y0 => k_is); (case x0 => k_is)
