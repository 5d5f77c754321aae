import PyProof.Rows.All
import Wide.All
import OpenK.AllK
import Wide.FinOn
import HandS.ForExc
import HandS.ForMost
import HandS.Wide
import HandS.Walk
import HandS.IsInst
import HandS.Zip
import HandS.Words
import HandS.Ends
import PySem.Challenge.RW_tickless_k04_codes_turn_and_allow
set_option Elab.async false
set_option linter.all false
set_option maxRecDepth 100000
set_option maxHeartbeats 8000000
set_option maxRecDepth 100000
namespace TK
open PySem PySem.Spec PyProof.Rows L2

/-! ### values without a heap -/
/-- a value: tuples and frozen lists are their items; a list that is still written is its address -/
inductive PV where
  | non | bl (b : Bool) | int (i : Int) | str (x : Str) | tup (xs : List PV) | lst (xs : List PV) | ref (a : Nat) | scr (ns : List Int)
instance : Inhabited PV := ⟨.non⟩

abbrev Sl := List (Option PV)
def getS : Sl → Nat → Option PV
  | [], _ => none
  | x :: _, 0 => x
  | _ :: r, n + 1 => getS r n
def setS : Sl → Nat → Option PV → Sl
  | [], _, _ => []
  | _ :: r, 0, y => y :: r
  | x :: r, n + 1, y => x :: setS r n y
theorem setS_length : ∀ (τ : Sl) (i : Nat) (y : Option PV), (setS τ i y).length = τ.length
  | [], _, _ => rfl
  | _ :: _, 0, _ => rfl
  | _ :: r, n + 1, y => congrArg (· + 1) (setS_length r n y)
theorem getS_setS_same : ∀ {τ : Sl} {i : Nat} {y : Option PV}, i < τ.length → getS (setS τ i y) i = y
  | [], _, _, h => absurd h (Nat.not_lt_zero _)
  | _ :: _, 0, _, _ => rfl
  | _ :: r, n + 1, _, h => getS_setS_same (τ := r) (Nat.lt_of_succ_lt_succ h)
theorem getS_setS_ne : ∀ {τ : Sl} {i j : Nat} {y : Option PV}, j ≠ i → getS (setS τ i y) j = getS τ j
  | [], _, _, _, _ => rfl
  | _ :: _, 0, 0, _, h => absurd rfl h
  | _ :: _, 0, _ + 1, _, _ => rfl
  | _ :: _, _ + 1, 0, _, _ => rfl
  | _ :: r, i + 1, j + 1, _, h => getS_setS_ne (τ := r) (fun e => h (congrArg (· + 1) e))
theorem getS_lt : ∀ {τ : Sl} {i : Nat} {v : PV}, getS τ i = some v → i < τ.length
  | [], _, _, h => nomatch h
  | _ :: _, 0, _, _ => Nat.succ_pos _
  | _ :: r, n + 1, _, h => Nat.succ_lt_succ (getS_lt (τ := r) h)
def wipeS (τ : Sl) : List Nat → Sl
  | [] => τ
  | v :: vs => setS (wipeS τ vs) v none
theorem wipeS_length (τ : Sl) : ∀ vs, (wipeS τ vs).length = τ.length
  | [] => rfl
  | v :: vs => by show (setS (wipeS τ vs) v none).length = _; rw [setS_length, wipeS_length τ vs]
theorem wipeS_some {τ : Sl} {i : Nat} {x : PV} : ∀ {vs : List Nat}, getS (wipeS τ vs) i = some x → getS τ i = some x ∧ i ∉ vs
  | [], h => ⟨h, List.not_mem_nil⟩
  | v :: vs, h => by
    have h' : getS (setS (wipeS τ vs) v none) i = some x := h
    by_cases e : i = v
    · subst e
      have := getS_lt h'
      rw [setS_length] at this
      rw [getS_setS_same this] at h'; cases h'
    · rw [getS_setS_ne e] at h'
      obtain ⟨a, b⟩ := wipeS_some h'
      exact ⟨a, fun hm => (List.mem_cons.mp hm).elim e b⟩

/-- what the proofs follow of the heap: lists that are still written; the law's own pool of draws -/
inductive Cell where
  | lst (xs : List PV)
  | pool
abbrev Store := Nat → Option Cell
def up (st : Store) (a : Nat) (c : Option Cell) : Store := fun b => if b = a then c else st b
theorem up_same {st : Store} {a : Nat} {c : Option Cell} : up st a c a = c := if_pos rfl
theorem up_ne {st : Store} {a b : Nat} {c : Option Cell} (h : b ≠ a) : up st a c b = st b := if_neg h

/-- an exception: its class's name, its attributes -/
abbrev Exn := Str × List (Str × PV)

/-! ### how they lie in the layer's heap -/
abbrev FS := Addr → Prop
def Imm : HO → Prop
  | .tup _ => True
  | .xd _ => True
  | .frz _ _ => True
  | _ => False
def Kp (H : Hp) (F : FS) (H' : Hp) : Prop := ∀ a u, H a = some u → F a ∨ Imm u → H' a = some u
structure Ext (F : FS) (H : Hp) (F' : FS) (H' : Hp) : Prop where
  le : ∀ a, F a → F' a
  kp : Kp H F H'
theorem Ext.refl {F : FS} {H : Hp} : Ext F H F H := ⟨fun _ h => h, fun _ _ h _ => h⟩
theorem Ext.trans {F F1 F2 : FS} {H H1 H2 : Hp} (a : Ext F H F1 H1) (b : Ext F1 H1 F2 H2) : Ext F H F2 H2 :=
  ⟨fun x h => b.le x (a.le x h), fun x u h i => b.kp x u (a.kp x u h i) (i.imp (a.le x) id)⟩

/-- the law's script, known for good -/
def ScrL (K : PySem.W.Frag) (H : Hp) (a : Addr) (ys : List V) : Prop :=
  (∃ o, H a = some (.frz o (.lst ys))) ∨ SqL K (fun _ => none) a ys
theorem sqk {K : PySem.W.Frag} {H : Hp} {a : Addr} {ys : List V} (h : SqL K (fun _ => none) a ys) : SqL K H a ys := by
  rcases h with (h | ⟨_, h⟩) | h
  · cases h
  · cases h
  · exact .inr h
theorem ScrL.sq {K : PySem.W.Frag} {H : Hp} {a : Addr} {ys : List V} (h : ScrL K H a ys) : SqL K H a ys := by
  rcases h with ⟨o, h⟩ | h
  · exact .inl (.inr ⟨o, h⟩)
  · exact sqk h
theorem ScrL.ext {K : PySem.W.Frag} {H H' : Hp} {F F' : FS} {a : Addr} {ys : List V} (x : Ext F H F' H') (h : ScrL K H a ys) : ScrL K H' a ys := by
  rcases h with ⟨o, h⟩ | h
  · exact .inl ⟨o, x.kp _ _ h (.inr trivial)⟩
  · exact .inr h
theorem sqText {K : PySem.W.Frag} {H H' : Hp} {F F' : FS} {a : Addr} {ys : List V} (x : Ext F H F' H') (h : SqT K H a ys) : SqT K H' a ys := by
  rcases h with (h | ⟨o, h⟩) | h
  · exact .inl (.inl (x.kp _ _ h (.inr trivial)))
  · exact .inl (.inr ⟨o, x.kp _ _ h (.inr trivial)⟩)
  · exact .inr h

mutual
inductive DV (K : PySem.W.Frag) (H : Hp) (F : FS) : PV → V → Prop
  | non : DV K H F .non .non
  | bl (b : Bool) : DV K H F (.bl b) (.bl b)
  | int (i : Int) : DV K H F (.int i) (.int i)
  | str (x : Str) : DV K H F (.str x) (.str x)
  | tup {a : Addr} {xs : List PV} {ys : List V} : SqT K H a ys → DVs K H F xs ys → DV K H F (.tup xs) (.ref a)
  | lst {a : Addr} {xs : List PV} {ys : List V} : F a → H a = some (.lst ys) → DVs K H F xs ys → DV K H F (.lst xs) (.ref a)
  | ref (a : Addr) : DV K H F (.ref a) (.ref a)
  | scr {a : Addr} {ns : List Int} : ScrL K H a (ns.map V.int) → DV K H F (.scr ns) (.ref a)
inductive DVs (K : PySem.W.Frag) (H : Hp) (F : FS) : List PV → List V → Prop
  | nil : DVs K H F [] []
  | cons {v : PV} {x : V} {vs : List PV} {xs : List V} : DV K H F v x → DVs K H F vs xs → DVs K H F (v :: vs) (x :: xs)
end
section
variable {K : PySem.W.Frag} {H H' : Hp} {F F' : FS}
mutual
theorem DV.ext (x : Ext F H F' H') : ∀ {v : PV} {y : V}, DV K H F v y → DV K H' F' v y
  | _, _, .non => .non
  | _, _, .bl b => .bl b
  | _, _, .int i => .int i
  | _, _, .str z => .str z
  | _, _, .tup h hs => .tup (sqText x h) (DVs.ext x hs)
  | _, _, .lst f h hs => .lst (x.le _ f) (x.kp _ _ h (.inl f)) (DVs.ext x hs)
  | _, _, .ref a => .ref a
  | _, _, .scr h => .scr (h.ext x)
theorem DVs.ext (x : Ext F H F' H') : ∀ {vs : List PV} {ys : List V}, DVs K H F vs ys → DVs K H' F' vs ys
  | _, _, .nil => .nil
  | _, _, .cons h hs => .cons (DV.ext x h) (DVs.ext x hs)
end
theorem DVs.length : ∀ {vs : List PV} {ys : List V}, DVs K H F vs ys → vs.length = ys.length
  | _, _, .nil => rfl
  | _, _, .cons _ hs => congrArg (· + 1) hs.length
theorem DVs.get : ∀ {vs : List PV} {ys : List V} {i : Nat} {v : PV}, DVs K H F vs ys → vs[i]? = some v → ∃ y, ys[i]? = some y ∧ DV K H F v y
  | _, _, _, _, .nil, e => by simp at e
  | _, _, 0, _, .cons h _, e => by simp at e; subst e; exact ⟨_, rfl, h⟩
  | _, _, i + 1, _, .cons _ hs, e => by simpa using hs.get (i := i) (by simpa using e)
theorem DVs.get' : ∀ {vs : List PV} {ys : List V} {i : Nat} {y : V}, DVs K H F vs ys → ys[i]? = some y → ∃ v, vs[i]? = some v ∧ DV K H F v y
  | _, _, _, _, .nil, e => by simp at e
  | _, _, 0, _, .cons h _, e => by simp at e; subst e; exact ⟨_, rfl, h⟩
  | _, _, i + 1, _, .cons _ hs, e => by simpa using hs.get' (i := i) (by simpa using e)
theorem DVs.append : ∀ {vs ws : List PV} {ys zs : List V}, DVs K H F vs ys → DVs K H F ws zs → DVs K H F (vs ++ ws) (ys ++ zs)
  | _, _, _, _, .nil, h => h
  | _, _, _, _, .cons a b, h => .cons a (b.append h)
theorem DVs.take : ∀ {vs : List PV} {ys : List V} (n : Nat), DVs K H F vs ys → DVs K H F (vs.take n) (ys.take n)
  | _, _, 0, _ => .nil
  | _, _, _ + 1, .nil => .nil
  | _, _, n + 1, .cons a b => .cons a (b.take n)
theorem DVs.drop : ∀ {vs : List PV} {ys : List V} (n : Nat), DVs K H F vs ys → DVs K H F (vs.drop n) (ys.drop n)
  | _, _, 0, h => h
  | _, _, _ + 1, .nil => .nil
  | _, _, n + 1, .cons _ b => b.drop n
theorem DVs.set {v : PV} {y : V} (h : DV K H F v y) : ∀ {vs : List PV} {ys : List V} (i : Nat), DVs K H F vs ys → DVs K H F (vs.set i v) (ys.set i y)
  | _, _, _, .nil => .nil
  | _, _, 0, .cons _ b => .cons h b
  | _, _, i + 1, .cons a b => .cons a (b.set h i)
theorem DVs.dropLast : ∀ {vs : List PV} {ys : List V}, DVs K H F vs ys → DVs K H F vs.dropLast ys.dropLast
  | _, _, .nil => .nil
  | _, _, .cons a .nil => .nil
  | _, _, .cons a (.cons b c) => .cons a (DVs.dropLast (.cons b c))
theorem DVs.flat {vs : List PV} {ys : List V} (h : DVs K H F vs ys) : ∀ k : Nat, DVs K H F (List.replicate k vs).flatten (List.replicate k ys).flatten
  | 0 => .nil
  | k + 1 => h.append (h.flat k)
theorem DVs.ints : ∀ (ns : List Int), DVs K H F (ns.map PV.int) (ns.map V.int)
  | [] => .nil
  | n :: r => .cons (.int n) (DVs.ints r)
theorem DVs.of_ints : ∀ {ns : List Int} {ys : List V}, DVs K H F (ns.map PV.int) ys → ys = ns.map V.int
  | [], _, .nil => rfl
  | n :: r, _, .cons h hs => by cases h; rw [hs.of_ints]; rfl
end

/-- the pool at a: the script's copy, and four numbers -/
def PoolH (H : Hp) (F : FS) (a : Addr) : Prop :=
  ∃ (q : Addr) (ns : List Int) (x b c d : Int), H a = some (.lst [.ref q, .int x, .int b, .int c, .int d]) ∧ F q ∧ H q = some (.lst (ns.map V.int)) ∧ 0 ≤ x
structure RS (K : PySem.W.Frag) (H : Hp) (F : FS) (st : Store) : Prop where
  lst : ∀ a xs, st a = some (.lst xs) → ¬ F a ∧ ∃ ys, H a = some (.lst ys) ∧ DVs K H F xs ys
  pool : ∀ a, st a = some .pool → ¬ F a ∧ PoolH H F a
  fz : ∀ a, F a → ∃ ys, H a = some (.lst ys)
def RSl (K : PySem.W.Frag) (H : Hp) (F : FS) (τ : Sl) (σ : L2.St) : Prop :=
  τ.length = σ.length ∧ ∀ i v, getS τ i = some v → ∃ x, σ[i]? = some (some x) ∧ DV K H F v x
section
variable {K : PySem.W.Frag} {H H' : Hp} {F F' : FS} {τ : Sl} {σ : L2.St} {st : Store}
theorem RSl.ext (x : Ext F H F' H') (h : RSl K H F τ σ) : RSl K H' F' τ σ :=
  ⟨h.1, fun i v e => let ⟨y, e', d⟩ := h.2 i v e; ⟨y, e', d.ext x⟩⟩
theorem RSl.set {v : PV} {y : V} (h : RSl K H F τ σ) (d : DV K H F v y) (i : Nat) : RSl K H F (setS τ i (some v)) (σ.set i (some y)) := by
  refine ⟨by rw [setS_length, List.length_set]; exact h.1, fun j w e => ?_⟩
  by_cases hj : j = i
  · subst hj
    have hl := getS_lt e
    rw [setS_length] at hl
    rw [getS_setS_same hl] at e
    cases e
    exact ⟨y, by rw [List.getElem?_set_self (by rw [← h.1]; exact hl)], d⟩
  · rw [getS_setS_ne hj] at e
    obtain ⟨z, e', d'⟩ := h.2 j w e
    exact ⟨z, by rw [List.getElem?_set_ne (Ne.symm hj)]; exact e', d'⟩
theorem RSl.wipe (h : RSl K H F τ σ) (vs : List Nat) : RSl K H F (wipeS τ vs) (L2.wipe σ vs) := by
  refine ⟨by rw [wipeS_length, L2.wipe_length]; exact h.1, fun j w e => ?_⟩
  obtain ⟨e1, hn⟩ := wipeS_some e
  obtain ⟨z, e', d'⟩ := h.2 j w e1
  refine ⟨z, ?_, d'⟩
  induction vs with
  | nil => exact e'
  | cons v vs ih =>
    show ((L2.wipe σ vs).set v none)[j]? = _
    have hv : v ≠ j := fun e => hn (e ▸ List.mem_cons_self)
    rw [List.getElem?_set_ne hv]
    exact ih (by
      have e2 : getS (setS (wipeS τ vs) v none) j = some w := e
      rwa [getS_setS_ne (Ne.symm hv)] at e2) (fun hm => hn (List.mem_cons_of_mem _ hm))
theorem RSl.none (h : RSl K H F τ σ) (i : Nat) (y : Option V) (hn : True) : RSl K H F (setS τ i Option.none) (σ.set i y) := by
  refine ⟨by rw [setS_length, List.length_set]; exact h.1, fun j w e => ?_⟩
  by_cases hj : j = i
  · subst hj
    have hl := getS_lt e
    rw [setS_length] at hl
    rw [getS_setS_same hl] at e
    cases e
  · rw [getS_setS_ne hj] at e
    obtain ⟨z, e', d'⟩ := h.2 j w e
    exact ⟨z, by rw [List.getElem?_set_ne (Ne.symm hj)]; exact e', d'⟩

/-- a new object that nothing follows -/
theorem Ext.new {p : Addr} {o : HO} (hp : H p = none) : Ext F H F (upd H p o) := by
  refine ⟨fun _ h => h, fun a u e _ => ?_⟩
  rw [upd_ne (fun z => by rw [z, hp] at e; cases e)]; exact e
theorem RS.nof (r : RS K H F st) {p : Addr} (hp : H p = none) : ¬ F p := fun f => by
  obtain ⟨ys, e⟩ := r.fz p f
  rw [hp] at e; cases e
theorem RS.no {p : Addr} (r : RS K H F st) (hp : H p = none) : st p = Option.none := by
  cases e : st p with
  | none => rfl
  | some c =>
    cases c with
    | lst xs => obtain ⟨_, ys, h, _⟩ := r.lst p xs e; rw [hp] at h; cases h
    | pool => obtain ⟨_, q, ns, x, b, c, d, h, _⟩ := r.pool p e; rw [hp] at h; cases h
theorem PoolH.ext (x : Ext F H F' H') {a : Addr} (h : PoolH H F a) (e : H' a = H a) : PoolH H' F' a := by
  obtain ⟨q, ns, y, b, c, d, h1, h2, h3, h4⟩ := h
  exact ⟨q, ns, y, b, c, d, e.trans h1, x.le _ h2, x.kp _ _ h3 (.inl h2), h4⟩
/-- the followed objects stand; what is frozen stands -/
theorem RS.keep (r : RS K H F st) (x : Ext F H F H') (hs : ∀ a, st a ≠ Option.none → H' a = H a) : RS K H' F st := by
  refine ⟨fun a xs e => ?_, fun a e => ?_, fun a f => ?_⟩
  · obtain ⟨nf, ys, h, d⟩ := r.lst a xs e
    exact ⟨nf, ys, (hs a (by rw [e]; exact fun z => nomatch z)).trans h, d.ext x⟩
  · obtain ⟨nf, h⟩ := r.pool a e
    exact ⟨nf, h.ext x (hs a (by rw [e]; exact fun z => nomatch z))⟩
  · obtain ⟨ys, h⟩ := r.fz a f
    exact ⟨ys, x.kp _ _ h (.inl f)⟩
theorem RS.there (r : RS K H F st) {a : Addr} (h : st a ≠ Option.none) : H a ≠ Option.none := fun e => h (r.no e)
theorem RS.new {p : Addr} {o : HO} (r : RS K H F st) (hp : H p = none) : RS K (upd H p o) F st :=
  r.keep (.new hp) fun a h => upd_ne (fun z => r.there h (z ▸ hp))
/-- a new list, frozen at once -/
theorem Ext.newF {p : Addr} {o : HO} (hp : H p = none) : Ext F H (fun a => F a ∨ a = p) (upd H p o) :=
  ⟨fun _ h => .inl h, (Ext.new (F := F) hp).kp⟩
theorem RS.newF {p : Addr} {ys : List V} (r : RS K H F st) (hp : H p = none) : RS K (upd H p (.lst ys)) (fun a => F a ∨ a = p) st := by
  have x : Ext F H (fun a => F a ∨ a = p) (upd H p (.lst ys)) := .newF hp
  have ne : ∀ a, st a ≠ Option.none → a ≠ p := fun a h z => r.there h (z ▸ hp)
  refine ⟨fun a xs e => ?_, fun a e => ?_, fun a f => ?_⟩
  · obtain ⟨nf, ys, h, d⟩ := r.lst a xs e
    have n := ne a (by rw [e]; exact fun z => nomatch z)
    exact ⟨fun f => f.elim nf n, ys, (upd_ne n).trans h, d.ext x⟩
  · obtain ⟨nf, h⟩ := r.pool a e
    have n := ne a (by rw [e]; exact fun z => nomatch z)
    exact ⟨fun f => f.elim nf n, h.ext x (upd_ne n)⟩
  · rcases f with f | rfl
    · obtain ⟨ys, h⟩ := r.fz a f
      exact ⟨ys, x.kp _ _ h (.inl f)⟩
    · exact ⟨_, upd_same⟩
/-- a followed list takes other items, or a new one is followed -/
theorem Ext.put {p : Addr} {ys : List V} (hF : ¬ F p) (hp : ∀ u, H p = some u → ¬ Imm u) : Ext F H F (upd H p (.lst ys)) := by
  refine ⟨fun _ h => h, fun a u e i => ?_⟩
  have n : a ≠ p := fun z => by
    subst z
    exact i.elim hF (hp u e)
  rw [upd_ne n]; exact e
theorem RS.put {p : Addr} {xs : List PV} {ys : List V} (r : RS K H F st) (hF : ¬ F p) (hp : ∀ u, H p = some u → ¬ Imm u) (d : DVs K H F xs ys) : RS K (upd H p (.lst ys)) F (up st p (some (.lst xs))) := by
  have x : Ext F H F (upd H p (.lst ys)) := .put hF hp
  refine ⟨fun a zs e => ?_, fun a e => ?_, fun a f => ?_⟩
  · by_cases n : a = p
    · subst n
      rw [up_same] at e; cases e
      exact ⟨hF, ys, upd_same, d.ext x⟩
    · rw [up_ne n] at e
      obtain ⟨nf, ys, h, d⟩ := r.lst a zs e
      exact ⟨nf, ys, (upd_ne n).trans h, d.ext x⟩
  · by_cases n : a = p
    · subst n
      rw [up_same] at e; cases e
    · rw [up_ne n] at e
      obtain ⟨nf, h⟩ := r.pool a e
      exact ⟨nf, h.ext x (upd_ne n)⟩
  · obtain ⟨ys, h⟩ := r.fz a f
    exact ⟨ys, x.kp _ _ h (.inl f)⟩
theorem RS.putNew {p : Addr} {xs : List PV} {ys : List V} (r : RS K H F st) (hp : H p = none) (d : DVs K H F xs ys) : RS K (upd H p (.lst ys)) F (up st p (some (.lst xs))) :=
  r.put (r.nof hp) (fun u e => by rw [hp] at e; cases e) d
/-- a followed list is frozen -/
theorem RS.freeze {p : Addr} {xs : List PV} (r : RS K H F st) (e : st p = some (.lst xs)) :
    Ext F H (fun a => F a ∨ a = p) H ∧ RS K H (fun a => F a ∨ a = p) (up st p Option.none) ∧ DV K H (fun a => F a ∨ a = p) (.lst xs) (.ref p) := by
  have x : Ext F H (fun a => F a ∨ a = p) H := ⟨fun _ h => .inl h, fun _ _ h _ => h⟩
  obtain ⟨nf, ys, h, d⟩ := r.lst p xs e
  refine ⟨x, ⟨fun a zs q => ?_, fun a q => ?_, fun a f => ?_⟩, .lst (.inr rfl) h (d.ext x)⟩
  · by_cases n : a = p
    · subst n; rw [up_same] at q; cases q
    · rw [up_ne n] at q
      obtain ⟨nf, ys, h, d⟩ := r.lst a zs q
      exact ⟨fun f => f.elim nf n, ys, h, d.ext x⟩
  · by_cases n : a = p
    · subst n; rw [up_same] at q; cases q
    · rw [up_ne n] at q
      obtain ⟨nf, h⟩ := r.pool a q
      exact ⟨fun f => f.elim nf n, h.ext x rfl⟩
  · rcases f with f | rfl
    · exact r.fz a f
    · exact ⟨ys, h⟩
/-- less may be followed -/
theorem RS.less {st' : Store} (r : RS K H F st) (h : ∀ a c, st' a = some c → st a = some c) : RS K H F st' :=
  ⟨fun a xs e => r.lst a xs (h a _ e), fun a e => r.pool a (h a _ e), r.fz⟩
end

/-- an exception of a class of the program -/
def ExRep (K : PySem.W.Frag) (mg : Str → Option Value) (H : Hp) (F : FS) (e : Exn) (cls : Value) (d : Option Addr) : Prop :=
  ∃ C, cls = .ref C ∧ mg e.1 = some (.ref C) ∧ ∃ (dx : Addr) (fs : List (Str × V)), d = some dx ∧ H dx = some (.xd fs) ∧ ∀ n v, e.2.lookup n = some v → ∃ x, fs.lookup n = some x ∧ DV K H F v x
end TK

set_option maxRecDepth 100000
namespace TK
open PySem PySem.Spec PyProof.Rows L2

/-! ### the small language: a def's body as a term -/
/-- a def's promise: arguments, store, the wanted end, the wanted exception -/
abbrev PSpec := List PV → Store → (PV → Store → Prop) → (Exn → Store → Prop) → Prop

mutual
inductive TG where
  | name (i : Nat)
  | tup (ts : TGs)
inductive TGs where
  | nil
  | cons (t : TG) (ts : TGs)
end
mutual
def TG.slots : TG → List Nat
  | .name i => [i]
  | .tup ts => ts.slots
def TGs.slots : TGs → List Nat
  | .nil => []
  | .cons t ts => t.slots ++ ts.slots
end
mutual
def TG.asg : TG → PV → Sl → Option Sl
  | .name i, v, τ => some (setS τ i (some v))
  | .tup ts, v, τ => match v with
    | .tup xs => ts.asg xs τ
    | _ => none
def TGs.asg : TGs → List PV → Sl → Option Sl
  | .nil, xs, τ => match xs with
    | [] => some τ
    | _ :: _ => none
  | .cons t ts, xs, τ => match xs with
    | [] => none
    | x :: r => (t.asg x τ).bind (ts.asg r)
end

/-- built-in functions -/
inductive BF where
  | len | int | abs | tuple | list | all | any | sum | min2 | max2 | min | max | repr
/-- methods -/
inductive MF where
  | append | extend | pop | index

mutual
inductive E where
  | var (i : Nat)
  | fvar (i : Nat)
  | int (n : Int)
  | bl (b : Bool)
  | non
  | str (x : Str)
  | glob (x : Str) (v : PV)
  | bin (o : Operator) (m : Bool) (a b : E)
  | neg (a : E)
  | not (a : E)
  | cmp (o : CmpOp) (a b : E)
  | chain (o o' : CmpOp) (a b c : E)
  | bools (o : BoolOp) (es : Es)
  | ite (t : T) (a b : E)
  | tup (es : Es)
  | lst (m : Bool) (es : Es)
  | idx (a i : E)
  | slice (m : Bool) (a : E) (lo hi : OE)
  | call (f : Str) (sp : PSpec) (es : Es)
  | blt (f : BF) (m : Bool) (es : Es)
  | isi (e : E) (ty : Str)
  | meth (f : MF) (o : E) (es : Es)
  | comp (m : Bool) (vs : List Nat) (tg : TG) (it : I) (ts : Ts) (elt : E)
inductive Es where
  | nil
  | cons (e : E) (es : Es)
inductive OE where
  | no
  | yes (e : E)
inductive T where
  | val (e : E)
  | cmp (o : CmpOp) (a b : E)
  | chain (o o' : CmpOp) (a b c : E)
  | not (t : T)
  | bools (o : BoolOp) (ts : Ts)
  | ite (t a b : T)
inductive Ts where
  | nil
  | cons (t : T) (ts : Ts)
inductive I where
  | val (e : E)
  | range1 (a : E)
  | range2 (a b : E)
  | enum (e : E)
  | zip (a b : E)
end

def Es.len : Es → Nat
  | .nil => 0
  | .cons _ es => es.len + 1
/-! ### what operations do -/
abbrev PQ := PV → Store → Prop
abbrev EQ := Exn → Store → Prop
def oP {α : Type} (o : Option α) (k : α → Prop) : Prop :=
  match o with
  | some a => k a
  | none => False
def onBl (v : PV) (k : Bool → Prop) : Prop :=
  match v with
  | .bl b => k b
  | _ => False
def onInt (v : PV) (k : Int → Prop) : Prop :=
  match v with
  | .int b => k b
  | _ => False
def seqOf (st : Store) : PV → Option (List PV)
  | .tup xs => some xs
  | .lst xs => some xs
  | .ref a => match st a with
    | some (.lst xs) => some xs
    | _ => none
  | _ => none
/-- a list's items; the script's too -/
def lstOf (st : Store) : PV → Option (List PV)
  | .lst xs => some xs
  | .ref a => match st a with
    | some (.lst xs) => some xs
    | _ => none
  | _ => none
def newList (m : Bool) (xs : List PV) (st : Store) (Q : PQ) : Prop :=
  match m with
  | true => ∀ p, st p = none → Q (.ref p) (up st p (some (.lst xs)))
  | false => Q (.lst xs) st
def DivOk (j : Int) : Prop := j ≠ 0 ∧ j.natAbs.log2 < 9000
def binV (o : Operator) (m : Bool) (v w : PV) (st : Store) (Q : PQ) : Prop :=
  match o, v, w with
  | .Add, .int i, .int j => Q (.int (i + j)) st
  | .Add, .str x, .str y => x.length + y.length ≤ sizeLine ∧ Q (.str (x ++ y)) st
  | .Add, .tup xs, .tup ys => xs.length + ys.length ≤ sizeLine ∧ Q (.tup (xs ++ ys)) st
  | .Add, .lst xs, .lst ys => xs.length + ys.length ≤ sizeLine ∧ newList m (xs ++ ys) st Q
  | .Add, .ref a, .lst ys => ∃ xs, st a = some (.lst xs) ∧ xs.length + ys.length ≤ sizeLine ∧ newList m (xs ++ ys) st Q
  | .Add, .lst xs, .ref b => ∃ ys, st b = some (.lst ys) ∧ xs.length + ys.length ≤ sizeLine ∧ newList m (xs ++ ys) st Q
  | .Add, .ref a, .ref b => ∃ xs ys, st a = some (.lst xs) ∧ st b = some (.lst ys) ∧ xs.length + ys.length ≤ sizeLine ∧ newList m (xs ++ ys) st Q
  | .Sub, .int i, .int j => Q (.int (i - j)) st
  | .Mult, .int i, .int j => IntMulOk i j ∧ Q (.int (i * j)) st
  | .Mult, .lst xs, .int k => -(2 ^ 63) ≤ k ∧ k < 2 ^ 63 ∧ xs.length * k.toNat ≤ sizeLine ∧ newList m (List.replicate k.toNat xs).flatten st Q
  | .FloorDiv, .int i, .int j => DivOk j ∧ Q (.int (i.fdiv j)) st
  | .Mod, .int i, .int j => j ≠ 0 ∧ Q (.int (i.fmod j)) st
  | .Pow, .int i, .int j => CPow i j ∧ Q (.int (i ^ j.toNat)) st
  | .BitAnd, .int i, .int j => Q (.int (Builtin.bitAnd i j)) st
  | .BitOr, .int i, .int j => Q (.int (Builtin.bitOr i j)) st
  | _, _, _ => False
def negV (v : PV) (st : Store) (Q : PQ) : Prop :=
  match v with
  | .int i => Q (.int (-i)) st
  | _ => False

/-- data as Python compares and prints it -/
def res (st : Store) : PV → PV
  | .ref a => match st a with
    | some (.lst xs) => .lst xs
    | _ => .ref a
  | v => v
mutual
def toD : PV → PyData
  | .non => .none
  | .bl b => .bool b
  | .int i => .int i
  | .str x => .str x
  | .tup xs => .tuple (toDs xs)
  | .lst xs => .list (toDs xs)
  | .ref _ => .none
  | .scr _ => .none
def toDs : List PV → List PyData
  | [] => []
  | x :: r => toD x :: toDs r
end
mutual
/-- no address within, n levels at most -/
def flat : Nat → PV → Bool
  | n, .tup xs => n != 0 && flats (n - 1) xs
  | n, .lst xs => n != 0 && flats (n - 1) xs
  | _, .ref _ => false
  | _, .scr _ => false
  | _, .str x => PyData.strOk x
  | _, .non => true
  | _, .bl _ => true
  | _, .int _ => true
def flats : Nat → List PV → Bool
  | _, [] => true
  | n, x :: r => flat n x && flats n r
end
mutual
def eqv : PV → PV → Bool
  | .non, w => match w with
    | .non => true
    | _ => false
  | .bl a, w => match w with
    | .bl b => a == b
    | .int j => (if a then 1 else 0) == j
    | _ => false
  | .int i, w => match w with
    | .int j => decide (i = j)
    | .bl b => i == (if b then 1 else 0)
    | _ => false
  | .str x, w => match w with
    | .str y => decide (x = y)
    | _ => false
  | .tup xs, w => match w with
    | .tup ys => eqvs xs ys
    | _ => false
  | .lst xs, w => match w with
    | .lst ys => eqvs xs ys
    | _ => false
  | .ref _, _ => false
  | .scr _, _ => false
def eqvs : List PV → List PV → Bool
  | [], ys => match ys with
    | [] => true
    | _ => false
  | x :: xs, ys => match ys with
    | [] => false
    | y :: ys => eqv x y && eqvs xs ys
end
def isNon : PV → Bool
  | .non => true
  | _ => false
def isSc : PV → Bool
  | .non => true
  | .bl _ => true
  | .int _ => true
  | .str _ => true
  | _ => false
def scP : PV → PV → Bool
  | .non, .non => true | .non, .int _ => true | .int _, .non => true | .non, .bl _ => true | .bl _, .non => true | .non, .str _ => true | .str _, .non => true
  | .int _, .int _ => true | .bl _, .bl _ => true | .str _, .str _ => true
  | .int _, .str _ => true | .str _, .int _ => true | .bl _, .str _ => true | .str _, .bl _ => true
  | _, _ => false
def eqOk (st : Store) (v w : PV) : Prop := scP v w = true ∨ (flat 60 (res st v) = true ∧ flat 60 (res st w) = true)
def cmpV (o : CmpOp) (v w : PV) (st : Store) (Q : PQ) : Prop :=
  match o with
  | .Eq => eqOk st v w ∧ Q (.bl (eqv (res st v) (res st w))) st
  | .NotEq => eqOk st v w ∧ Q (.bl (!eqv (res st v) (res st w))) st
  | .Lt => match v, w with
    | .int i, .int j => Q (.bl (decide (i < j))) st
    | _, _ => False
  | .LtE => match v, w with
    | .int i, .int j => Q (.bl (decide (i ≤ j))) st
    | _, _ => False
  | .Gt => match v, w with
    | .int i, .int j => Q (.bl (decide (j < i))) st
    | _, _ => False
  | .GtE => match v, w with
    | .int i, .int j => Q (.bl (decide (j ≤ i))) st
    | _, _ => False
  | .Is => match w with
    | .non => Q (.bl (isNon v)) st
    | _ => False
  | .IsNot => match w with
    | .non => Q (.bl (!isNon v)) st
    | _ => False
  | .In => oP (seqOf st w) fun xs => isSc v = true ∧ xs.all isSc = true ∧ Q (.bl (xs.any fun y => eqv y v)) st
  | .NotIn => oP (seqOf st w) fun xs => isSc v = true ∧ xs.all isSc = true ∧ Q (.bl (!xs.any fun y => eqv y v)) st
def itemV (i : Int) (v : PV) (st : Store) (Q : PQ) : Prop :=
  match v with
  | .str z => z.length ≤ sizeLine ∧ oP (atI z.cps.toList i) fun c => Q (.str ⟨#[c]⟩) st
  | .tup xs => oP (atI xs i) fun y => Q y st
  | .lst xs => oP (atI xs i) fun y => Q y st
  | .ref a => oP (lstOf st (.ref a)) fun xs => oP (atI xs i) fun y => Q y st
  | _ => False
def idxV (v w : PV) (st : Store) (Q : PQ) : Prop := onInt w fun i => itemV i v st Q
def cutP {α : Type} (xs : List α) (lo hi : Option Int) : List α := (xs.drop (HT.sIx xs.length 0 lo)).take (HT.sIx xs.length xs.length hi - HT.sIx xs.length 0 lo)
def sliceV (m : Bool) (v : PV) (lo hi : Option Int) (st : Store) (Q : PQ) : Prop :=
  match v with
  | .tup xs => ¬ (HT.sIx xs.length 0 lo = 0 ∧ HT.sIx xs.length xs.length hi = xs.length) ∧ Q (.tup (cutP xs lo hi)) st
  | .lst xs => newList m (cutP xs lo hi) st Q
  | .ref a => ∃ xs, st a = some (.lst xs) ∧ newList m (cutP xs lo hi) st Q
  | _ => False
def blsOf : List PV → Option (List Bool)
  | [] => some []
  | .bl b :: r => (blsOf r).map (b :: ·)
  | _ => none
def intsOf : List PV → Option (List Int)
  | [] => some []
  | .int b :: r => (intsOf r).map (b :: ·)
  | _ => none
def maxL : List Int → Int
  | [] => 0
  | x :: r => r.foldl (fun m y => if y > m then y else m) x
def minL : List Int → Int
  | [] => 0
  | x :: r => r.foldl (fun m y => if y < m then y else m) x
/-- what may be printed: numbers below 2 ^ 1900, not too much of it -/
def ShowOk (v : PV) : Prop := (toD v).showable = true ∧ (toD v).shown.length ≤ sizeLine ∧ flat 60 v = true
def bltV (f : BF) (m : Bool) (vs : List PV) (st : Store) (Q : PQ) : Prop :=
  match f, vs with
  | .len, [.str z] => z.length ≤ sizeLine ∧ Q (.int z.length) st
  | .len, [.tup xs] => Q (.int xs.length) st
  | .len, [.lst xs] => Q (.int xs.length) st
  | .len, [.ref a] => oP (lstOf st (.ref a)) fun xs => Q (.int xs.length) st
  | .int, [.int i] => Q (.int i) st
  | .int, [.bl b] => Q (.int (if b then 1 else 0)) st
  | .abs, [.int i] => Q (.int (if i < 0 then -i else i)) st
  | .tuple, [v] => oP (seqOf st v) fun xs => Q (.tup xs) st
  | .list, [.scr ns] => newList m (ns.map PV.int) st Q
  | .list, [.tup xs] => newList m xs st Q
  | .list, [.lst xs] => newList m xs st Q
  | .list, [.ref a] => oP (lstOf st (.ref a)) fun xs => newList m xs st Q
  | .all, [v] => oP (lstOf st v) fun xs => oP (blsOf xs) fun bs => Q (.bl (bs.all id)) st
  | .any, [v] => oP (lstOf st v) fun xs => oP (blsOf xs) fun bs => Q (.bl (bs.any id)) st
  | .sum, [v] => oP (lstOf st v) fun xs => oP (intsOf xs) fun ns => Q (.int ns.sum) st
  | .max, [v] => oP (lstOf st v) fun xs => oP (intsOf xs) fun ns => ns ≠ [] ∧ Q (.int (maxL ns)) st
  | .min, [v] => oP (lstOf st v) fun xs => oP (intsOf xs) fun ns => ns ≠ [] ∧ Q (.int (minL ns)) st
  | .max2, [.int i, .int j] => Q (.int (if j > i then j else i)) st
  | .min2, [.int i, .int j] => Q (.int (if j < i then j else i)) st
  | .repr, [v] => ShowOk (res st v) ∧ Q (.str (toD (res st v)).shown) st
  | _, _ => False
def isiV (ty : Str) : PV → Option Bool
  | .non => some false
  | .bl _ => some (ty == ("int" : Str) || ty == ("bool" : Str))
  | .int _ => some (ty == ("int" : Str))
  | .str _ => some (ty == ("str" : Str))
  | .tup _ => some (ty == ("tuple" : Str))
  | .lst _ => some (ty == ("list" : Str))
  | _ => none
def tyOk (ty : Str) : Bool := ty == ("int" : Str) || ty == ("bool" : Str) || ty == ("str" : Str) || ty == ("tuple" : Str) || ty == ("list" : Str)
def methV (f : MF) (o : PV) (vs : List PV) (st : Store) (Q : PQ) : Prop :=
  match f, o, vs with
  | .append, .ref a, [v] => ∃ xs, st a = some (.lst xs) ∧ xs.length < sizeLine ∧ Q .non (up st a (some (.lst (xs ++ [v]))))
  | .extend, .ref a, [v] => ∃ xs ys, st a = some (.lst xs) ∧ lstOf st v = some ys ∧ xs.length + ys.length ≤ sizeLine ∧ Q .non (up st a (some (.lst (xs ++ ys))))
  | .pop, .ref a, [] => ∃ xs y, st a = some (.lst xs) ∧ xs[xs.length - 1]? = some y ∧ Q y (up st a (some (.lst xs.dropLast)))
  | .index, v, [w] => ∃ xs j z, lstOf st v = some xs ∧ isSc w = true ∧ xs.all isSc = true ∧ xs[j]? = some z ∧ eqv z w = true ∧ (∀ (k : Nat) z', k < j → xs[k]? = some z' → eqv z' w = false) ∧ Q (.int j) st
  | _, _, _ => False
/-- a def's call; the wish may be stronger than needed -/
def callS (sp : PSpec) (vs : List PV) (st : Store) (X : EQ) (Q : PQ) : Prop :=
  ∃ (Q0 : PQ) (X0 : EQ), sp vs st Q0 X0 ∧ (∀ v s, Q0 v s → Q v s) ∧ ∀ e s, X0 e s → X e s
def truV (v : PV) (st : Store) (Q : Bool → Store → Prop) : Prop :=
  match v with
  | .bl b => Q b st
  | .non => Q false st
  | .int i => Q (i != 0) st
  | .tup xs => Q (!xs.isEmpty) st
  | .lst xs => Q (!xs.isEmpty) st
  | .ref a => ∃ xs, st a = some (.lst xs) ∧ Q (!xs.isEmpty) st
  | _ => False
def rngL (lo : Int) (n : Nat) : List PV := (List.range n).map fun (k : Nat) => .int (lo + (k : Int))
def enumL : Nat → List PV → List PV
  | _, [] => []
  | k, x :: r => .tup [.int (k : Int), x] :: enumL (k + 1) r
def zipL : List PV → List PV → List PV
  | x :: r, y :: s => .tup [x, y] :: zipL r s
  | _, _ => []
def R62 (j : Int) : Prop := -(2 ^ 62) ≤ j ∧ j < 2 ^ 62
def itV (f : List PV → List PV) (v : PV) (st : Store) (K : List PV → (Store → Prop) → Store → Prop) : Prop :=
  match v with
  | .tup xs => K (f xs) (fun _ => True) st
  | .lst xs => K (f xs) (fun _ => True) st
  | .ref a => oP (lstOf st (.ref a)) fun xs => K (f xs) (fun s => s a = some (.lst xs)) st
  | _ => False
def itVL (f : List PV → List PV) (v : PV) (st : Store) (K : List PV → (Store → Prop) → Store → Prop) : Prop :=
  match v with
  | .lst xs => K (f xs) (fun _ => True) st
  | .ref a => oP (lstOf st (.ref a)) fun xs => K (f xs) (fun s => s a = some (.lst xs)) st
  | _ => False
def zipV (v w : PV) (st : Store) (K : List PV → (Store → Prop) → Store → Prop) : Prop :=
  match v, w with
  | .tup xs, .tup ys => K (zipL xs ys) (fun _ => True) st
  | .lst xs, .lst ys => K (zipL xs ys) (fun _ => True) st
  | _, _ => False
def frzV (v : PV) (st : Store) (Q : PQ) : Prop :=
  match v with
  | .ref a => oP (lstOf st (.ref a)) fun xs => Q (.lst xs) (up st a none)
  | v => Q v st
/-- more is followed -/
def Sub (s t : Store) : Prop := ∀ a c, s a = some c → t a = some c
/-- a comprehension over items: its tests and elements leave the store as it is, whatever else is followed -/
def lcL (tg : TG) (t : Sl → Store → (Bool → Store → Prop) → Prop) (e : Sl → Store → PQ → Prop) (τ : Sl) (st : Store) : List PV → List PV → (List PV → Prop) → Prop
  | [], acc, K => K acc
  | x :: r, acc, K => oP (tg.asg x τ) fun τ1 => ∀ st', Sub st st' → t τ1 st' fun b st1 => st1 = st' ∧ if b = true then e τ1 st' fun y st2 => st2 = st' ∧ lcL tg t e τ st r (acc ++ [y]) K else lcL tg t e τ st r acc K
def I.isR : I → Bool
  | .val _ => false
  | _ => true
def isLst (st : Store) (v : PV) : Prop := oP (lstOf st v) fun _ => True

mutual
def wpE : E → EQ → Sl → Store → PQ → Prop
  | .var i, _, τ, st, Q => oP (getS τ i) fun v => Q v st
  | .fvar i, _, τ, st, Q => oP (getS τ i) fun v => frzV v st Q
  | .int n, _, _, st, Q => Q (.int n) st
  | .bl b, _, _, st, Q => Q (.bl b) st
  | .non, _, _, st, Q => Q .non st
  | .str x, _, _, st, Q => Q (.str x) st
  | .glob _ v, _, _, st, Q => Q v st
  | .bin o m a b, X, τ, st, Q => wpE a X τ st fun v st1 => wpE b X τ st1 fun w st2 => binV o m v w st2 Q
  | .neg a, X, τ, st, Q => wpE a X τ st fun v st1 => negV v st1 Q
  | .not a, X, τ, st, Q => wpE a X τ st fun v st1 => onBl v fun b => Q (.bl (!b)) st1
  | .cmp o a b, X, τ, st, Q => wpE a X τ st fun v st1 => wpE b X τ st1 fun w st2 => cmpV o v w st2 Q
  | .chain o o' a b c, X, τ, st, Q => wpE a X τ st fun v st1 => wpE b X τ st1 fun w st2 => cmpV o v w st2 fun z st3 => onBl z fun k =>
      if k = true then wpE c X τ st3 fun u st4 => cmpV o' w u st4 Q else Q (.bl false) st3
  | .bools o es, X, τ, st, Q => wpBs o es X τ st Q
  | .ite t a b, X, τ, st, Q => wpT t X τ st fun k st1 => if k = true then wpE a X τ st1 Q else wpE b X τ st1 Q
  | .tup es, X, τ, st, Q => wpEs es X τ st fun vs st1 => vs.length ≤ sizeLine ∧ Q (.tup vs) st1
  | .lst m es, X, τ, st, Q => wpEs es X τ st fun vs st1 => vs.length ≤ sizeLine ∧ newList m vs st1 Q
  | .idx a i, X, τ, st, Q => wpE a X τ st fun v st1 => wpE i X τ st1 fun w st2 => idxV v w st2 Q
  | .slice m a lo hi, X, τ, st, Q => wpE a X τ st fun v st1 => wpO lo X τ st1 fun l st2 => wpO hi X τ st2 fun u st3 => sliceV m v l u st3 Q
  | .call _ sp es, X, τ, st, Q => wpEs es X τ st fun vs st1 => callS sp vs st1 X Q
  | .blt f m es, X, τ, st, Q => wpEs es X τ st fun vs st1 => bltV f m vs st1 Q
  | .isi e ty, X, τ, st, Q => wpE e X τ st fun v st1 => oP (isiV ty v) fun b => Q (.bl b) st1
  | .meth f o es, X, τ, st, Q => wpE o X τ st fun v st1 => isLst st1 v ∧ wpEs es X τ st1 fun vs st2 => methV f v vs st2 Q
  | .comp m vs tg it ts elt, X, τ, st, Q => wpI it X τ st fun xs ok st1 => (it.isR = true → xs.length ≤ sizeLine) ∧ ok st1 ∧
      lcL tg (wpTs .And ts fun _ _ => False) (wpE elt fun _ _ => False) (wipeS τ vs) st1 xs [] fun acc => newList m acc st1 Q
def wpEs : Es → EQ → Sl → Store → (List PV → Store → Prop) → Prop
  | .nil, _, _, st, Q => Q [] st
  | .cons e es, X, τ, st, Q => wpE e X τ st fun v st1 => wpEs es X τ st1 fun vs st2 => Q (v :: vs) st2
def wpBs : BoolOp → Es → EQ → Sl → Store → PQ → Prop
  | _, .nil, _, _, _, _ => False
  | o, .cons e es, X, τ, st, Q => match es with
    | .nil => wpE e X τ st Q
    | .cons _ _ => wpE e X τ st fun v st1 => onBl v fun b => match o with
      | .And => if b = true then wpBs o es X τ st1 Q else Q (.bl false) st1
      | .Or => if b = true then Q (.bl true) st1 else wpBs o es X τ st1 Q
def wpO : OE → EQ → Sl → Store → (Option Int → Store → Prop) → Prop
  | .no, _, _, st, Q => Q none st
  | .yes e, X, τ, st, Q => wpE e X τ st fun v st1 => onInt v fun i => Q (some i) st1
def wpT : T → EQ → Sl → Store → (Bool → Store → Prop) → Prop
  | .val e, X, τ, st, Q => wpE e X τ st fun v st1 => truV v st1 Q
  | .cmp o a b, X, τ, st, Q => wpE a X τ st fun v st1 => wpE b X τ st1 fun w st2 => cmpV o v w st2 fun z st3 => onBl z fun k => Q k st3
  | .chain o o' a b c, X, τ, st, Q => wpE a X τ st fun v st1 => wpE b X τ st1 fun w st2 => cmpV o v w st2 fun z st3 => onBl z fun k =>
      if k = true then wpE c X τ st3 fun u st4 => cmpV o' w u st4 fun y st5 => onBl y fun k' => Q k' st5 else Q false st3
  | .not t, X, τ, st, Q => wpT t X τ st fun k st1 => Q (!k) st1
  | .bools o ts, X, τ, st, Q => wpTs o ts X τ st Q
  | .ite t a b, X, τ, st, Q => wpT t X τ st fun k st1 => if k = true then wpT a X τ st1 Q else wpT b X τ st1 Q
def wpTs : BoolOp → Ts → EQ → Sl → Store → (Bool → Store → Prop) → Prop
  | o, .nil, _, _, st, Q => match o with
    | .And => Q true st
    | .Or => Q false st
  | o, .cons t ts, X, τ, st, Q => wpT t X τ st fun k st1 => match o with
    | .And => if k = true then wpTs o ts X τ st1 Q else Q false st1
    | .Or => if k = true then Q true st1 else wpTs o ts X τ st1 Q
def wpI : I → EQ → Sl → Store → (List PV → (Store → Prop) → Store → Prop) → Prop
  | .val e, X, τ, st, K => wpE e X τ st fun v st1 => itV id v st1 K
  | .range1 a, X, τ, st, K => wpE a X τ st fun v st1 => onInt v fun j => R62 j ∧ K (rngL 0 j.toNat) (fun _ => True) st1
  | .range2 a b, X, τ, st, K => wpE a X τ st fun v st1 => wpE b X τ st1 fun w st2 => onInt v fun i => onInt w fun j => R62 i ∧ R62 j ∧ K (rngL i (j - i).toNat) (fun _ => True) st2
  | .enum e, X, τ, st, K => wpE e X τ st fun v st1 => itVL (enumL 0) v st1 K
  | .zip a b, X, τ, st, K => wpE a X τ st fun v st1 => wpE b X τ st1 fun w st2 => zipV v w st2 K
end

/-! ### statements -/
structure PEnds where
  nx : Sl → Store → Prop
  rt : PQ
  bk : Sl → Store → Prop
  ct : Sl → Store → Prop
  ex : Exn → Sl → Store → Prop
mutual
inductive S where
  | asg (tg : TG) (e : E)
  | asgLc (i : Nat) (e : E)
  | setIx (o i e : E)
  | aug (i : Nat) (o : Operator) (e : E)
  | expr (e : E)
  | ret (e : E)
  | retN
  | ite (t : T) (a b : Ss)
  | loop (tg : TG) (it : I) (b : Ss)
  | while (t : T) (b : Ss)
  | pass
  | brk
  | cont
  | never
inductive Ss where
  | nil
  | cons (s : S) (ss : Ss)
end
def setIxV (o i v : PV) (st : Store) (Q : Store → Prop) : Prop :=
  match o, i with
  | .ref a, .int k => ∃ xs j, st a = some (.lst xs) ∧ ixN xs.length k = some j ∧ Q (up st a (some (.lst (xs.set j v))))
  | _, _ => False
def augV (o : Operator) (v w : PV) (st : Store) (Q : PQ) : Prop :=
  match o, v, w with
  | .Add, .int i, .int j => Q (.int (i + j)) st
  | .Sub, .int i, .int j => Q (.int (i - j)) st
  | _, _, _ => False
def forL (tg : TG) (b : PEnds → Sl → Store → Prop) (ok : Store → Prop) : List PV → PEnds → Sl → Store → Prop
  | [], D, τ, st => ok st ∧ D.nx τ st
  | x :: r, D, τ, st => ok st ∧ oP (tg.asg x τ) fun τ1 => b { D with nx := forL tg b ok r D, ct := forL tg b ok r D, bk := D.nx } τ1 st
def whileL (t : Sl → Store → (Bool → Store → Prop) → Prop) (b : PEnds → Sl → Store → Prop) (D : PEnds) (τ : Sl) (st : Store) : Prop :=
  ∃ W : Nat → Sl → Store → Prop, (∃ n, W n τ st) ∧ ∀ n τ st, W n τ st → t τ st fun k st1 => if k = true then
    b { D with nx := fun τ' st' => ∃ m, m < n ∧ W m τ' st', ct := fun τ' st' => ∃ m, m < n ∧ W m τ' st', bk := D.nx } τ st1 else D.nx τ st1
mutual
def wpS : S → PEnds → Sl → Store → Prop
  | .asg tg e, D, τ, st => wpE e (fun x s => D.ex x τ s) τ st fun v st1 => oP (tg.asg v τ) fun τ' => D.nx τ' st1
  | .asgLc i e, D, τ, st => wpE e (fun x s => D.ex x τ s) τ st fun v st1 => D.nx (setS τ i (some v)) st1
  | .setIx o i e, D, τ, st => wpE e (fun x s => D.ex x τ s) τ st fun v st1 => wpE o (fun x s => D.ex x τ s) τ st1 fun ov st2 => wpE i (fun x s => D.ex x τ s) τ st2 fun iv st3 => setIxV ov iv v st3 fun st4 => D.nx τ st4
  | .aug i o e, D, τ, st => oP (getS τ i) fun v => wpE e (fun x s => D.ex x τ s) τ st fun w st1 => augV o v w st1 fun z st2 => D.nx (setS τ i (some z)) st2
  | .expr e, D, τ, st => wpE e (fun x s => D.ex x τ s) τ st fun _ st1 => D.nx τ st1
  | .ret e, D, τ, st => wpE e (fun x s => D.ex x τ s) τ st D.rt
  | .retN, D, _, st => D.rt .non st
  | .ite t a b, D, τ, st => wpT t (fun x s => D.ex x τ s) τ st fun k st1 => if k = true then wpSs a D τ st1 else wpSs b D τ st1
  | .loop tg it b, D, τ, st => wpI it (fun x s => D.ex x τ s) τ st fun xs ok st1 => forL tg (wpSs b) ok xs D τ st1
  | .while t b, D, τ, st => whileL (fun τ st Q => wpT t (fun x s => D.ex x τ s) τ st Q) (wpSs b) D τ st
  | .pass, D, τ, st => D.nx τ st
  | .brk, D, τ, st => D.bk τ st
  | .cont, D, τ, st => D.ct τ st
  | .never, _, _, _ => False
def wpSs : Ss → PEnds → Sl → Store → Prop
  | .nil, D, τ, st => D.nx τ st
  | .cons s ss, D, τ, st => wpS s { D with nx := wpSs ss D } τ st
end
def initS (n : Nat) (vs : List PV) : Sl := vs.map some ++ List.replicate (n - vs.length) none
/-- a def's body: what it leaves behind may be forgotten -/
def wpFn (n : Nat) (b : Ss) (vs : List PV) (st : Store) (Q : PQ) (X : EQ) : Prop :=
  wpSs b ⟨fun _ s => ∃ s0, Sub s0 s ∧ Q .non s0, fun v s => ∃ s0, Sub s0 s ∧ Q v s0, fun _ _ => False, fun _ _ => False, fun e _ s => ∃ s0, Sub s0 s ∧ X e s0⟩ (initS n vs) st
end TK

set_option maxRecDepth 100000
set_option maxHeartbeats 1000000
namespace TK
open PySem PySem.Spec PyProof.Rows L2
/-! ### a weaker wish -/
theorem oP_mono {α : Type} {o : Option α} {k k' : α → Prop} (hk : ∀ a, k a → k' a) (h : oP o k) : oP o k' := by
  cases o with
  | none => exact h
  | some a => exact hk a h
theorem onBl_mono {v : PV} {k k' : Bool → Prop} (hk : ∀ a, k a → k' a) (h : onBl v k) : onBl v k' := by
  cases v with
  | bl b => exact hk b h
  | _ => exact h
theorem onInt_mono {v : PV} {k k' : Int → Prop} (hk : ∀ a, k a → k' a) (h : onInt v k) : onInt v k' := by
  cases v with
  | int b => exact hk b h
  | _ => exact h
section
variable {Q Q' : PQ} {st : Store}
theorem newList_mono {m : Bool} {xs : List PV} (hq : ∀ v s, Q v s → Q' v s) (h : newList m xs st Q) : newList m xs st Q' := by
  cases m with
  | true => exact fun p hp => hq _ _ (h p hp)
  | false => exact hq _ _ h
theorem binV_mono {o : Operator} {m : Bool} {v w : PV} (hq : ∀ v s, Q v s → Q' v s) (h : binV o m v w st Q) : binV o m v w st Q' := by
  unfold binV at h
  split at h <;> first
    | exact h.elim
    | exact hq _ _ h
    | exact ⟨h.1, hq _ _ h.2⟩
    | exact ⟨h.1, newList_mono hq h.2⟩
    | (obtain ⟨a, b, c, d⟩ := h; exact ⟨a, b, c, newList_mono hq d⟩)
    | (obtain ⟨a, b, c⟩ := h; exact ⟨a, b, newList_mono hq c⟩)
    | (obtain ⟨a, b, c, d, e, f⟩ := h; exact ⟨a, b, c, d, e, newList_mono hq f⟩)
    | (obtain ⟨a, b, c, d, e⟩ := h; exact ⟨a, b, c, d, newList_mono hq e⟩)
theorem negV_mono {v : PV} (hq : ∀ v s, Q v s → Q' v s) (h : negV v st Q) : negV v st Q' := by
  unfold negV at h
  split at h
  · exact hq _ _ h
  · exact h.elim
theorem cmpV_mono {o : CmpOp} {v w : PV} (hq : ∀ v s, Q v s → Q' v s) (h : cmpV o v w st Q) : cmpV o v w st Q' := by
  unfold cmpV at h ⊢
  cases o <;> dsimp only at h ⊢
  all_goals first
    | exact ⟨h.1, hq _ _ h.2⟩
    | exact oP_mono (fun xs h => ⟨h.1, h.2.1, hq _ _ h.2.2⟩) h
    | (split at h <;> first | exact h.elim | exact hq _ _ h)
theorem idxV_mono {v w : PV} (hq : ∀ v s, Q v s → Q' v s) (h : idxV v w st Q) : idxV v w st Q' := by
  unfold idxV at h ⊢
  refine onInt_mono (fun i h => ?_) h
  unfold itemV at h ⊢
  split at h
  · exact ⟨h.1, oP_mono (fun _ h => hq _ _ h) h.2⟩
  · exact oP_mono (fun _ h => hq _ _ h) h
  · exact oP_mono (fun _ h => hq _ _ h) h
  · exact oP_mono (fun _ h => oP_mono (fun _ h => hq _ _ h) h) h
  · exact h.elim
theorem sliceV_mono {m : Bool} {v : PV} {lo hi : Option Int} (hq : ∀ v s, Q v s → Q' v s) (h : sliceV m v lo hi st Q) : sliceV m v lo hi st Q' := by
  unfold sliceV at h
  split at h
  · exact ⟨h.1, hq _ _ h.2⟩
  · exact newList_mono hq h
  · obtain ⟨xs, e, h⟩ := h
    exact ⟨xs, e, newList_mono hq h⟩
  · exact h.elim
theorem bltV_mono {f : BF} {m : Bool} {vs : List PV} (hq : ∀ v s, Q v s → Q' v s) (h : bltV f m vs st Q) : bltV f m vs st Q' := by
  unfold bltV at h
  split at h <;> first
    | exact h.elim
    | exact hq _ _ h
    | exact newList_mono hq h
    | exact ⟨h.1, hq _ _ h.2⟩
    | exact oP_mono (fun _ h => hq _ _ h) h
    | exact oP_mono (fun _ h => newList_mono hq h) h
    | exact oP_mono (fun _ h => oP_mono (fun _ h => hq _ _ h) h) h
    | exact oP_mono (fun _ h => oP_mono (fun _ h => ⟨h.1, hq _ _ h.2⟩) h) h
theorem methV_mono {f : MF} {o : PV} {vs : List PV} (hq : ∀ v s, Q v s → Q' v s) (h : methV f o vs st Q) : methV f o vs st Q' := by
  unfold methV at h
  split at h
  · obtain ⟨a, b, c, d⟩ := h; exact ⟨a, b, c, hq _ _ d⟩
  · obtain ⟨a, b, c, d, e, f⟩ := h; exact ⟨a, b, c, d, e, hq _ _ f⟩
  · obtain ⟨a, b, c, d, e⟩ := h; exact ⟨a, b, c, d, hq _ _ e⟩
  · obtain ⟨a, b, z, c, d, e, f, g, i, j⟩ := h; exact ⟨a, b, z, c, d, e, f, g, i, hq _ _ j⟩
  · exact h.elim
theorem augV_mono {o : Operator} {v w : PV} (hq : ∀ v s, Q v s → Q' v s) (h : augV o v w st Q) : augV o v w st Q' := by
  unfold augV at h
  split at h <;> first | exact h.elim | exact hq _ _ h
theorem truV_mono {v : PV} {P P' : Bool → Store → Prop} (hq : ∀ v s, P v s → P' v s) (h : truV v st P) : truV v st P' := by
  unfold truV at h
  split at h <;> first
    | exact hq _ _ h
    | (obtain ⟨xs, e, h⟩ := h; exact ⟨xs, e, hq _ _ h⟩)
    | exact h.elim
theorem callS_mono {sp : PSpec} {vs : List PV} {X X' : EQ} (hx : ∀ e s, X e s → X' e s) (hq : ∀ v s, Q v s → Q' v s) (h : callS sp vs st X Q) : callS sp vs st X' Q' := by
  obtain ⟨Q0, X0, h, a, b⟩ := h
  exact ⟨Q0, X0, h, fun v s q => hq _ _ (a v s q), fun e s q => hx _ _ (b e s q)⟩
theorem setIxV_mono {o i v : PV} {P P' : Store → Prop} (hq : ∀ s, P s → P' s) (h : setIxV o i v st P) : setIxV o i v st P' := by
  unfold setIxV at h
  split at h
  · obtain ⟨xs, j, a, b, c⟩ := h
    exact ⟨xs, j, a, b, hq _ c⟩
  · exact h.elim
theorem frzV_mono {v : PV} (hq : ∀ v s, Q v s → Q' v s) (h : frzV v st Q) : frzV v st Q' := by
  unfold frzV at h ⊢
  split at h
  · exact oP_mono (fun _ h => hq _ _ h) h
  · exact hq _ _ h
theorem itV_mono {f : List PV → List PV} {v : PV} {K K' : List PV → (Store → Prop) → Store → Prop} (hq : ∀ v o s, K v o s → K' v o s) (h : itV f v st K) : itV f v st K' := by
  unfold itV at h ⊢
  split at h <;> first
    | exact hq _ _ _ h
    | exact oP_mono (fun _ h => hq _ _ _ h) h
    | exact h.elim
theorem itVL_mono {f : List PV → List PV} {v : PV} {K K' : List PV → (Store → Prop) → Store → Prop} (hq : ∀ v o s, K v o s → K' v o s) (h : itVL f v st K) : itVL f v st K' := by
  unfold itVL at h ⊢
  split at h <;> first
    | exact hq _ _ _ h
    | exact oP_mono (fun _ h => hq _ _ _ h) h
    | exact h.elim
theorem zipV_mono {v w : PV} {K K' : List PV → (Store → Prop) → Store → Prop} (hq : ∀ v o s, K v o s → K' v o s) (h : zipV v w st K) : zipV v w st K' := by
  unfold zipV at h ⊢
  split at h <;> first
    | exact hq _ _ _ h
    | exact h.elim
end
theorem ite_mono {c : Bool} {P P' R R' : Prop} (h1 : P → P') (h2 : R → R') (h : if c = true then P else R) : if c = true then P' else R' := by
  cases c with
  | true => exact h1 h
  | false => exact h2 h
theorem lcL_mono {tg : TG} {t : Sl → Store → (Bool → Store → Prop) → Prop} {e : Sl → Store → PQ → Prop} {τ : Sl} {st : Store}
    (ht : ∀ τ st (P P' : Bool → Store → Prop), (∀ v s, P v s → P' v s) → t τ st P → t τ st P') (he : ∀ τ st (P P' : PQ), (∀ v s, P v s → P' v s) → e τ st P → e τ st P') :
    ∀ {xs acc : List PV} {K K' : List PV → Prop}, (∀ v, K v → K' v) → lcL tg t e τ st xs acc K → lcL tg t e τ st xs acc K'
  | [], _, _, _, hk, h => hk _ h
  | x :: r, acc, K, K', hk, h => by
    refine oP_mono (fun τ1 h => ?_) h
    intro st' hs
    refine ht _ _ _ _ (fun b s hb => ⟨hb.1, ?_⟩) (h st' hs)
    exact ite_mono (fun hb => he _ _ _ _ (fun y s2 hy => ⟨hy.1, lcL_mono ht he hk hy.2⟩) hb) (fun hb => lcL_mono ht he hk hb) hb.2
mutual
theorem wpE_mono : ∀ (e : E) {X X' : EQ} {τ : Sl} {st : Store} {Q Q' : PQ}, (∀ e s, X e s → X' e s) → (∀ v s, Q v s → Q' v s) → wpE e X τ st Q → wpE e X' τ st Q'
  | .var i, X, X', τ, st, Q, Q', hx, hq, h => oP_mono (fun _ h => hq _ _ h) h
  | .fvar i, X, X', τ, st, Q, Q', hx, hq, h => oP_mono (fun _ h => frzV_mono hq h) h
  | .int n, X, X', τ, st, Q, Q', hx, hq, h => hq _ _ h
  | .bl n, X, X', τ, st, Q, Q', hx, hq, h => hq _ _ h
  | .non, X, X', τ, st, Q, Q', hx, hq, h => hq _ _ h
  | .str n, X, X', τ, st, Q, Q', hx, hq, h => hq _ _ h
  | .glob x v, X, X', τ, st, Q, Q', hx, hq, h => hq _ _ h
  | .bin o m a b, X, X', τ, st, Q, Q', hx, hq, h => by
    unfold wpE at h ⊢
    exact wpE_mono a hx (fun v s h => wpE_mono b hx (fun w s h => binV_mono hq h) h) h
  | .neg a, X, X', τ, st, Q, Q', hx, hq, h => by
    unfold wpE at h ⊢
    exact wpE_mono a hx (fun v s h => negV_mono hq h) h
  | .not a, X, X', τ, st, Q, Q', hx, hq, h => by
    unfold wpE at h ⊢
    exact wpE_mono a hx (fun v s h => onBl_mono (fun _ h => hq _ _ h) h) h
  | .cmp o a b, X, X', τ, st, Q, Q', hx, hq, h => by
    unfold wpE at h ⊢
    exact wpE_mono a hx (fun v s h => wpE_mono b hx (fun w s h => cmpV_mono hq h) h) h
  | .chain o o' a b c, X, X', τ, st, Q, Q', hx, hq, h => by
    unfold wpE at h ⊢
    refine wpE_mono a hx (fun v s h => wpE_mono b hx (fun w s h => cmpV_mono (fun z s h => onBl_mono (fun k h => ?_) h) h) h) h
    exact ite_mono (fun h => wpE_mono c hx (fun u s h => cmpV_mono hq h) h) (fun h => hq _ _ h) h
  | .bools o es, X, X', τ, st, Q, Q', hx, hq, h => by
    unfold wpE at h ⊢
    exact wpBs_mono es hx hq h
  | .ite t a b, X, X', τ, st, Q, Q', hx, hq, h => by
    unfold wpE at h ⊢
    exact wpT_mono t hx (fun k s h => ite_mono (fun h => wpE_mono a hx hq h) (fun h => wpE_mono b hx hq h) h) h
  | .tup es, X, X', τ, st, Q, Q', hx, hq, h => by
    unfold wpE at h ⊢
    exact wpEs_mono es hx (fun vs s h => ⟨h.1, hq _ _ h.2⟩) h
  | .lst m es, X, X', τ, st, Q, Q', hx, hq, h => by
    unfold wpE at h ⊢
    exact wpEs_mono es hx (fun vs s h => ⟨h.1, newList_mono hq h.2⟩) h
  | .idx a i, X, X', τ, st, Q, Q', hx, hq, h => by
    unfold wpE at h ⊢
    exact wpE_mono a hx (fun v s h => wpE_mono i hx (fun w s h => idxV_mono hq h) h) h
  | .slice m a lo hi, X, X', τ, st, Q, Q', hx, hq, h => by
    unfold wpE at h ⊢
    exact wpE_mono a hx (fun v s h => wpO_mono lo hx (fun l s h => wpO_mono hi hx (fun u s h => sliceV_mono hq h) h) h) h
  | .call f sp es, X, X', τ, st, Q, Q', hx, hq, h => by
    unfold wpE at h ⊢
    exact wpEs_mono es hx (fun vs s h => callS_mono hx hq h) h
  | .blt f m es, X, X', τ, st, Q, Q', hx, hq, h => by
    unfold wpE at h ⊢
    exact wpEs_mono es hx (fun vs s h => bltV_mono hq h) h
  | .isi e ty, X, X', τ, st, Q, Q', hx, hq, h => by
    unfold wpE at h ⊢
    exact wpE_mono e hx (fun v s h => oP_mono (fun _ h => hq _ _ h) h) h
  | .meth f o es, X, X', τ, st, Q, Q', hx, hq, h => by
    unfold wpE at h ⊢
    exact wpE_mono o hx (fun v s h => ⟨h.1, wpEs_mono es hx (fun vs s h => methV_mono hq h) h.2⟩) h
  | .comp m vs tg it ts elt, X, X', τ, st, Q, Q', hx, hq, h => by
    unfold wpE at h ⊢
    refine wpI_mono it hx (fun xs ok s h => ⟨h.1, h.2.1, ?_⟩) h
    refine lcL_mono ?_ ?_ (fun acc h => newList_mono hq h) h.2.2
    · exact fun τ st P P' hp h => wpTs_mono ts (fun _ _ z => z) hp h
    · exact fun τ st P P' hp h => wpE_mono elt (fun _ _ z => z) hp h
theorem wpEs_mono : ∀ (e : Es) {X X' : EQ} {τ : Sl} {st : Store} {Q Q' : List PV → Store → Prop}, (∀ e s, X e s → X' e s) → (∀ v s, Q v s → Q' v s) → wpEs e X τ st Q → wpEs e X' τ st Q'
  | .nil, X, X', τ, st, Q, Q', hx, hq, h => hq _ _ h
  | .cons e es, X, X', τ, st, Q, Q', hx, hq, h => by
    unfold wpEs at h ⊢
    exact wpE_mono e hx (fun v s h => wpEs_mono es hx (fun vs s h => hq _ _ h) h) h
theorem wpBs_mono : ∀ (e : Es) {o : BoolOp} {X X' : EQ} {τ : Sl} {st : Store} {Q Q' : PQ}, (∀ e s, X e s → X' e s) → (∀ v s, Q v s → Q' v s) → wpBs o e X τ st Q → wpBs o e X' τ st Q'
  | .nil, o, X, X', τ, st, Q, Q', hx, hq, h => h
  | .cons e .nil, o, X, X', τ, st, Q, Q', hx, hq, h => by
    unfold wpBs at h ⊢
    exact wpE_mono e hx hq h
  | .cons e (.cons e' es), o, X, X', τ, st, Q, Q', hx, hq, h => by
    unfold wpBs at h ⊢
    dsimp only at h ⊢
    refine wpE_mono e hx (fun v s h => onBl_mono (fun b h => ?_) h) h
    cases o with
    | And => exact ite_mono (fun h => wpBs_mono (.cons e' es) hx hq h) (fun h => hq _ _ h) h
    | Or => exact ite_mono (fun h => hq _ _ h) (fun h => wpBs_mono (.cons e' es) hx hq h) h
theorem wpO_mono : ∀ (e : OE) {X X' : EQ} {τ : Sl} {st : Store} {Q Q' : Option Int → Store → Prop}, (∀ e s, X e s → X' e s) → (∀ v s, Q v s → Q' v s) → wpO e X τ st Q → wpO e X' τ st Q'
  | .no, X, X', τ, st, Q, Q', hx, hq, h => hq _ _ h
  | .yes e, X, X', τ, st, Q, Q', hx, hq, h => by
    unfold wpO at h ⊢
    exact wpE_mono e hx (fun v s h => onInt_mono (fun _ h => hq _ _ h) h) h
theorem wpT_mono : ∀ (e : T) {X X' : EQ} {τ : Sl} {st : Store} {Q Q' : Bool → Store → Prop}, (∀ e s, X e s → X' e s) → (∀ v s, Q v s → Q' v s) → wpT e X τ st Q → wpT e X' τ st Q'
  | .val e, X, X', τ, st, Q, Q', hx, hq, h => by
    unfold wpT at h ⊢
    exact wpE_mono e hx (fun v s h => truV_mono hq h) h
  | .cmp o a b, X, X', τ, st, Q, Q', hx, hq, h => by
    unfold wpT at h ⊢
    exact wpE_mono a hx (fun v s h => wpE_mono b hx (fun w s h => cmpV_mono (fun z s h => onBl_mono (fun _ h => hq _ _ h) h) h) h) h
  | .chain o o' a b c, X, X', τ, st, Q, Q', hx, hq, h => by
    unfold wpT at h ⊢
    refine wpE_mono a hx (fun v s h => wpE_mono b hx (fun w s h => cmpV_mono (fun z s h => onBl_mono (fun k h => ?_) h) h) h) h
    exact ite_mono (fun h => wpE_mono c hx (fun u s h => cmpV_mono (fun z s h => onBl_mono (fun _ h => hq _ _ h) h) h) h) (fun h => hq _ _ h) h
  | .not t, X, X', τ, st, Q, Q', hx, hq, h => by
    unfold wpT at h ⊢
    exact wpT_mono t hx (fun k s h => hq _ _ h) h
  | .bools o ts, X, X', τ, st, Q, Q', hx, hq, h => by
    unfold wpT at h ⊢
    exact wpTs_mono ts hx hq h
  | .ite t a b, X, X', τ, st, Q, Q', hx, hq, h => by
    unfold wpT at h ⊢
    exact wpT_mono t hx (fun k s h => ite_mono (fun h => wpT_mono a hx hq h) (fun h => wpT_mono b hx hq h) h) h
theorem wpTs_mono : ∀ (e : Ts) {o : BoolOp} {X X' : EQ} {τ : Sl} {st : Store} {Q Q' : Bool → Store → Prop}, (∀ e s, X e s → X' e s) → (∀ v s, Q v s → Q' v s) → wpTs o e X τ st Q → wpTs o e X' τ st Q'
  | .nil, o, X, X', τ, st, Q, Q', hx, hq, h => by
    unfold wpTs at h ⊢
    cases o <;> exact hq _ _ h
  | .cons t ts, o, X, X', τ, st, Q, Q', hx, hq, h => by
    unfold wpTs at h ⊢
    refine wpT_mono t hx (fun k s h => ?_) h
    cases o with
    | And => exact ite_mono (fun h => wpTs_mono ts hx hq h) (fun h => hq _ _ h) h
    | Or => exact ite_mono (fun h => hq _ _ h) (fun h => wpTs_mono ts hx hq h) h
theorem wpI_mono : ∀ (e : I) {X X' : EQ} {τ : Sl} {st : Store} {Q Q' : List PV → (Store → Prop) → Store → Prop}, (∀ e s, X e s → X' e s) → (∀ v o s, Q v o s → Q' v o s) → wpI e X τ st Q → wpI e X' τ st Q'
  | .val e, X, X', τ, st, Q, Q', hx, hq, h => by
    unfold wpI at h ⊢
    exact wpE_mono e hx (fun v s h => itV_mono hq h) h
  | .range1 a, X, X', τ, st, Q, Q', hx, hq, h => by
    unfold wpI at h ⊢
    exact wpE_mono a hx (fun v s h => onInt_mono (fun j h => ⟨h.1, hq _ _ _ h.2⟩) h) h
  | .range2 a b, X, X', τ, st, Q, Q', hx, hq, h => by
    unfold wpI at h ⊢
    exact wpE_mono a hx (fun v s h => wpE_mono b hx (fun w s h => onInt_mono (fun i h => onInt_mono (fun j h => ⟨h.1, h.2.1, hq _ _ _ h.2.2⟩) h) h) h) h
  | .enum e, X, X', τ, st, Q, Q', hx, hq, h => by
    unfold wpI at h ⊢
    exact wpE_mono e hx (fun v s h => itVL_mono hq h) h
  | .zip a b, X, X', τ, st, Q, Q', hx, hq, h => by
    unfold wpI at h ⊢
    exact wpE_mono a hx (fun v s h => wpE_mono b hx (fun w s h => zipV_mono hq h) h) h
end
structure PEnds.Le (D D' : PEnds) : Prop where
  nx : ∀ τ s, D.nx τ s → D'.nx τ s
  rt : ∀ v s, D.rt v s → D'.rt v s
  bk : ∀ τ s, D.bk τ s → D'.bk τ s
  ct : ∀ τ s, D.ct τ s → D'.ct τ s
  ex : ∀ e τ s, D.ex e τ s → D'.ex e τ s
theorem forL_mono {tg : TG} {b : PEnds → Sl → Store → Prop} {ok : Store → Prop} (hb : ∀ (D D' : PEnds) τ st, D.Le D' → b D τ st → b D' τ st) :
    ∀ {xs : List PV} {D D' : PEnds} {τ : Sl} {st : Store}, D.Le D' → forL tg b ok xs D τ st → forL tg b ok xs D' τ st
  | [], _, _, _, _, hd, h => ⟨h.1, hd.nx _ _ h.2⟩
  | x :: r, D, D', τ, st, hd, h => by
    refine ⟨h.1, oP_mono (fun τ1 h => ?_) h.2⟩
    refine hb _ _ _ _ ?_ h
    exact ⟨fun _ _ h => forL_mono hb hd h, hd.rt, fun _ _ h => hd.nx _ _ h, fun _ _ h => forL_mono hb hd h, hd.ex⟩
mutual
theorem wpS_mono : ∀ (s : S) {D D' : PEnds} {τ : Sl} {st : Store}, D.Le D' → wpS s D τ st → wpS s D' τ st
  | .asg tg e, D, D', τ, st, hd, h => by
    unfold wpS at h ⊢
    exact wpE_mono e (fun x s h => hd.ex _ _ _ h) (fun v s h => oP_mono (fun _ h => hd.nx _ _ h) h) h
  | .asgLc i e, D, D', τ, st, hd, h => by
    unfold wpS at h ⊢
    exact wpE_mono e (fun x s h => hd.ex _ _ _ h) (fun v s h => hd.nx _ _ h) h
  | .setIx o i e, D, D', τ, st, hd, h => by
    unfold wpS at h ⊢
    exact wpE_mono e (fun x s h => hd.ex _ _ _ h) (fun v s h => wpE_mono o (fun x s h => hd.ex _ _ _ h) (fun v s h => wpE_mono i (fun x s h => hd.ex _ _ _ h) (fun v s h => setIxV_mono (fun s h => hd.nx _ _ h) h) h) h) h
  | .aug i o e, D, D', τ, st, hd, h => by
    unfold wpS at h ⊢
    exact oP_mono (fun v h => wpE_mono e (fun x s h => hd.ex _ _ _ h) (fun v s h => augV_mono (fun v s h => hd.nx _ _ h) h) h) h
  | .expr e, D, D', τ, st, hd, h => by
    unfold wpS at h ⊢
    exact wpE_mono e (fun x s h => hd.ex _ _ _ h) (fun v s h => hd.nx _ _ h) h
  | .ret e, D, D', τ, st, hd, h => by
    unfold wpS at h ⊢
    exact wpE_mono e (fun x s h => hd.ex _ _ _ h) (fun v s h => hd.rt _ _ h) h
  | .retN, D, D', τ, st, hd, h => hd.rt _ _ h
  | .ite t a b, D, D', τ, st, hd, h => by
    unfold wpS at h ⊢
    exact wpT_mono t (fun x s h => hd.ex _ _ _ h) (fun k s h => ite_mono (fun h => wpSs_mono a hd h) (fun h => wpSs_mono b hd h) h) h
  | .loop tg it b, D, D', τ, st, hd, h => by
    unfold wpS at h ⊢
    refine wpI_mono it (fun x s h => hd.ex _ _ _ h) (fun xs ok s h => ?_) h
    refine forL_mono ?_ hd h
    exact fun D D' τ st hd h => wpSs_mono b hd h
  | .while t b, D, D', τ, st, hd, h => by
    unfold wpS at h ⊢
    obtain ⟨W, w0, h⟩ := h
    refine ⟨W, w0, fun n τ st w => wpT_mono t (fun x s h => hd.ex _ _ _ h) (fun k s h => ?_) (h n τ st w)⟩
    refine ite_mono (fun h => ?_) (fun h => hd.nx _ _ h) h
    refine wpSs_mono b ?_ h
    exact ⟨fun _ _ h => h, hd.rt, fun _ _ h => hd.nx _ _ h, fun _ _ h => h, hd.ex⟩
  | .pass, D, D', τ, st, hd, h => hd.nx _ _ h
  | .brk, D, D', τ, st, hd, h => hd.bk _ _ h
  | .cont, D, D', τ, st, hd, h => hd.ct _ _ h
  | .never, D, D', τ, st, hd, h => h
theorem wpSs_mono : ∀ (s : Ss) {D D' : PEnds} {τ : Sl} {st : Store}, D.Le D' → wpSs s D τ st → wpSs s D' τ st
  | .nil, D, D', τ, st, hd, h => hd.nx _ _ h
  | .cons s ss, D, D', τ, st, hd, h => by
    unfold wpSs at h ⊢
    refine wpS_mono s ?_ h
    exact ⟨fun _ _ h => wpSs_mono ss hd h, hd.rt, hd.bk, hd.ct, hd.ex⟩
end
end TK

set_option maxRecDepth 100000
set_option maxHeartbeats 1000000
namespace TK
open PySem PySem.Spec PyProof.Rows L2

/-! ### is a term the term of this syntax? -/
/-- where one stands: the def's names by slot, the scope, the scope whose names may be stored -/
structure SC where
  N : List Str
  sc : Scope
  tsc : Scope
def visB (sc : Scope) (x : Str) : Bool := match sc.names.lookup x with
  | some .local => true
  | some .cell => true
  | some .free => true
  | _ => false
def locB (sc : Scope) (x : Str) : Bool := match sc.names.lookup x with
  | some .local => true
  | some .cell => true
  | _ => false
def glB (sc : Scope) (x : Str) : Bool := match sc.names.lookup x with
  | some .globalImplicit => !(x == ("__debug__" : Str))
  | _ => false
def notStar : Expr → Bool
  | .Starred _ _ => false
  | _ => true
def notComp : Expr → Bool
  | .ListComp _ _ _ _ => false
  | .SetComp _ _ _ _ => false
  | .DictComp _ _ _ _ _ => false
  | _ => true
def notSet : Expr → Bool
  | .Set _ _ _ => false
  | _ => true
def notTup : Expr → Bool
  | .Tuple _ _ _ => false
  | .List _ _ => false
  | _ => true
def plainT : Expr → Bool
  | .UnaryOp .Not _ _ => false
  | .BoolOp _ _ _ => false
  | .IfExp _ _ _ _ => false
  | .Compare _ _ _ _ => false
  | _ => true
def notCall : Expr → Bool
  | .Call _ _ _ _ => false
  | _ => true
def notSlice : Expr → Bool
  | .Slice _ _ _ _ => false
  | _ => true
def BF.name : BF → Str
  | .len => "len" | .int => "int" | .abs => "abs" | .tuple => "tuple" | .list => "list" | .all => "all" | .any => "any" | .sum => "sum"
  | .min2 => "min" | .max2 => "max" | .min => "min" | .max => "max" | .repr => "repr"
def MF.name : MF → Str
  | .append => "append" | .extend => "extend" | .pop => "pop" | .index => "index"
def nmB (C : SC) (i : Nat) (x : Str) : Bool := decide (C.N[i]? = some x) && visB C.sc x && !(x == ("__debug__" : Str)) && !(x == ("__classdict__" : Str))
mutual
def chkG (C : SC) : TG → Expr → Bool
  | .name i, e => match e with
    | .Name x _ => decide (C.N[i]? = some x) && locB C.tsc x
    | _ => false
  | .tup ts, e => match e with
    | .Tuple es _ _ => chkGs C ts es
    | _ => false
def chkGs (C : SC) : TGs → List Expr → Bool
  | .nil, es => match es with
    | [] => true
    | _ :: _ => false
  | .cons t ts, es => match es with
    | [] => false
    | e :: r => notStar e && chkG C t e && chkGs C ts r
end
def ownOf (N : List Str) (vs : List Nat) : List (Str × Nat) := vs.filterMap fun v => N[v]?.map fun x => (x, v)
mutual
def chkE : E → SC → Expr → Bool
  | .var i, C, e => match e with
    | .Name x _ => nmB C i x
    | _ => false
  | .fvar i, C, e => match e with
    | .Name x _ => nmB C i x
    | _ => false
  | .int n, _, e => match e with
    | .Constant (.int m) _ _ => decide (n = m)
    | _ => false
  | .bl n, _, e => match e with
    | .Constant (.bool m) _ _ => n == m
    | _ => false
  | .non, _, e => match e with
    | .Constant .none _ _ => true
    | _ => false
  | .str n, _, e => match e with
    | .Constant (.str m) _ _ => decide (n = m)
    | _ => false
  | .glob n _, C, e => match e with
    | .Name x _ => decide (n = x) && glB C.sc x
    | _ => false
  | .bin o _ a b, C, e => match e with
    | .BinOp x o' y _ => decide (o = o') && chkE a C x && chkE b C y
    | _ => false
  | .neg a, C, e => match e with
    | .UnaryOp .USub x _ => chkE a C x
    | _ => false
  | .not a, C, e => match e with
    | .UnaryOp .Not x _ => chkE a C x
    | _ => false
  | .cmp o a b, C, e => match e with
    | .Compare x [o'] [y] _ => decide (o = o') && chkE a C x && notSet y && chkE b C y
    | _ => false
  | .chain o p a b c, C, e => match e with
    | .Compare x [o', p'] [y, z] _ => decide (o = o') && decide (p = p') && chkE a C x && chkE b C y && notSet z && chkE c C z
    | _ => false
  | .bools o es, C, e => match e with
    | .BoolOp o' xs _ => decide (o = o') && chkEs es C xs
    | _ => false
  | .ite t a b, C, e => match e with
    | .IfExp x y z _ => chkT t C x && chkE a C y && chkE b C z
    | _ => false
  | .tup es, C, e => match e with
    | .Tuple xs _ _ => chkEs es C xs
    | _ => false
  | .lst _ es, C, e => match e with
    | .List xs _ => chkEs es C xs
    | _ => false
  | .idx a i, C, e => match e with
    | .Subscript x y _ => chkE a C x && notSlice y && chkE i C y
    | _ => false
  | .slice _ a lo hi, C, e => match e with
    | .Subscript x (.Slice l u none _) _ => chkE a C x && chkO lo C l && chkO hi C u
    | _ => false
  | .call f _ es, C, e => match e with
    | .Call (.Name x _) xs [] _ => decide (f = x) && glB C.sc x && chkEs es C xs
    | _ => false
  | .blt f _ es, C, e => match e with
    | .Call (.Name x _) xs [] _ => decide (f.name = x) && glB C.sc x && !xs.isEmpty && chkEs es C xs
    | _ => false
  | .isi a ty, C, e => match e with
    | .Call (.Name x _) [y, .Name z _] [] _ => decide (x = ("isinstance" : Str)) && glB C.sc x && notStar y && chkE a C y && decide (z = ty) && tyOk ty && glB C.sc z
    | _ => false
  | .meth f o es, C, e => match e with
    | .Call (.Attribute x y ap) xs [] cp => decide (y = f.name) && (ap.endLine == cp.line) && notCall x && decide (xs.length < 30) && chkE o C x && chkEs es C xs
    | _ => false
  | .comp _ vs tg it ts elt, C, e => match e with
    | .ListComp x [⟨g, y, ifs, k⟩] scope _ => k == 0 && decide ((ownOf C.N vs).map (·.2) = vs) && blkC C.N C.sc scope (ownOf C.N vs) && tg.slots.all (fun i => decide (i ∈ vs)) && notSet y && chkI it C g y &&
        chkG ⟨C.N, relS scope C.sc, scope⟩ tg g && chkTs ts ⟨C.N, relS scope C.sc, scope⟩ ifs && decide (ifs.length ≤ 1) && chkE elt ⟨C.N, relS scope C.sc, scope⟩ x
    | _ => false
def chkEs : Es → SC → List Expr → Bool
  | .nil, _, es => match es with
    | [] => true
    | _ :: _ => false
  | .cons a as, C, es => match es with
    | [] => false
    | e :: r => notStar e && chkE a C e && chkEs as C r
def chkO : OE → SC → Option Expr → Bool
  | .no, _, e => match e with
    | none => true
    | some _ => false
  | .yes a, C, e => match e with
    | none => false
    | some x => chkE a C x
def chkT : T → SC → Expr → Bool
  | .val a, C, e => plainT e && chkE a C e
  | .cmp o a b, C, e => match e with
    | .Compare x [o'] [y] _ => decide (o = o') && chkE a C x && notSet y && chkE b C y
    | _ => false
  | .chain o p a b c, C, e => match e with
    | .Compare x [o', p'] [y, z] _ => decide (o = o') && decide (p = p') && chkE a C x && chkE b C y && notSet z && chkE c C z
    | _ => false
  | .not t, C, e => match e with
    | .UnaryOp .Not x _ => chkT t C x
    | _ => false
  | .bools o ts, C, e => match e with
    | .BoolOp o' xs _ => decide (o = o') && !xs.isEmpty && chkTs ts C xs
    | _ => false
  | .ite _ _ _, _, _ => false
def chkTs : Ts → SC → List Expr → Bool
  | .nil, _, es => match es with
    | [] => true
    | _ :: _ => false
  | .cons a as, C, es => match es with
    | [] => false
    | e :: r => chkT a C e && chkTs as C r
def chkI : I → SC → Expr → Expr → Bool
  | .val a, C, _, e => chkE a C e
  | .range1 a, C, _, e => match e with
    | .Call (.Name x _) [y] [] _ => decide (x = ("range" : Str)) && glB C.sc x && notStar y && chkE a C y
    | _ => false
  | .range2 a b, C, _, e => match e with
    | .Call (.Name x _) [y, z] [] _ => decide (x = ("range" : Str)) && glB C.sc x && notStar y && chkE a C y && notStar z && chkE b C z
    | _ => false
  | .enum a, C, g, e => match g, e with
    | .Tuple _ _ _, .Call (.Name x _) [y] [] _ => decide (x = ("enumerate" : Str)) && glB C.sc x && notStar y && chkE a C y
    | _, _ => false
  | .zip a b, C, g, e => match g, e with
    | .Tuple _ _ _, .Call (.Name x _) [y, z] [] _ => decide (x = ("zip" : Str)) && glB C.sc x && notStar y && chkE a C y && notStar z && chkE b C z
    | _, _ => false
end
mutual
def chkS : S → SC → Stmt → Bool
  | .asg tg a, C, s => match s with
    | .Assign [g] e _ => chkG C tg g && notComp e && (notTup g || notTup e) && chkE a C e
    | _ => false
  | .asgLc i a, C, s => match s with
    | .Assign [.Name x p] (.ListComp elt gs scope pos) _ => decide (C.N[i]? = some x) && decide (C.sc.names.lookup x = some .local) && (p.line == pos.line) &&
        !(scope.names.any fun (n, k) => n == x && (k == .local || k == .cell)) && (match a with | .comp _ _ _ _ _ _ => true | _ => false) && chkE a C (.ListComp elt gs scope pos)
    | _ => false
  | .setIx o i a, C, s => match s with
    | .Assign [.Subscript x y _] e _ => notSlice y && chkE o C x && chkE i C y && chkE a C e
    | _ => false
  | .aug i o a, C, s => match s with
    | .AugAssign (.Name x _) o' e _ => decide (C.N[i]? = some x) && locB C.tsc x && decide (o = o') && chkE a C e
    | _ => false
  | .expr a, C, s => match s with
    | .Expr e _ => notComp e && chkE a C e
    | _ => false
  | .ret a, C, s => match s with
    | .Return (some e) _ => chkE a C e
    | _ => false
  | .retN, _, s => match s with
    | .Return none _ => true
    | _ => false
  | .ite t a b, C, s => match s with
    | .If c x y _ => chkT t C c && chkSs a C x && chkSs b C y
    | _ => false
  | .loop tg it b, C, s => match s with
    | .For g e x [] _ => chkG C tg g && notSet e && chkI it C g e && chkSs b C x
    | _ => false
  | .while t b, C, s => match s with
    | .While c x [] _ => chkT t C c && chkSs b C x
    | _ => false
  | .pass, _, s => match s with
    | .Pass _ => true
    | _ => false
  | .brk, _, s => match s with
    | .Break _ => true
    | _ => false
  | .cont, _, s => match s with
    | .Continue _ => true
    | _ => false
  | .never, _, _ => true
def chkSs : Ss → SC → List Stmt → Bool
  | .nil, _, ss => match ss with
    | [] => true
    | _ :: _ => false
  | .cons a as, C, ss => match ss with
    | [] => false
    | s :: r => chkS a C s && chkSs as C r
end

/-! ### what a term asks of the program around it -/
mutual
def needE (pf : Str → PSpec → Nat → Prop) (pg : Str → PV → Prop) : E → Prop
  | .var _ => True
  | .fvar _ => True
  | .int _ => True
  | .bl _ => True
  | .non => True
  | .str _ => True
  | .glob x v => pg x v
  | .bin _ _ a b => needE pf pg a ∧ needE pf pg b
  | .neg a => needE pf pg a
  | .not a => needE pf pg a
  | .cmp _ a b => needE pf pg a ∧ needE pf pg b
  | .chain _ _ a b c => needE pf pg a ∧ needE pf pg b ∧ needE pf pg c
  | .bools _ es => needEs pf pg es
  | .ite t a b => needT pf pg t ∧ needE pf pg a ∧ needE pf pg b
  | .tup es => needEs pf pg es
  | .lst _ es => needEs pf pg es
  | .idx a i => needE pf pg a ∧ needE pf pg i
  | .slice _ a lo hi => needE pf pg a ∧ needO pf pg lo ∧ needO pf pg hi
  | .call f sp es => pf f sp es.len ∧ needEs pf pg es
  | .blt _ _ es => needEs pf pg es
  | .isi e _ => needE pf pg e
  | .meth _ o es => needE pf pg o ∧ needEs pf pg es
  | .comp _ _ _ it ts elt => needI pf pg it ∧ needTs pf pg ts ∧ needE pf pg elt
def needEs (pf : Str → PSpec → Nat → Prop) (pg : Str → PV → Prop) : Es → Prop
  | .nil => True
  | .cons e es => needE pf pg e ∧ needEs pf pg es
def needO (pf : Str → PSpec → Nat → Prop) (pg : Str → PV → Prop) : OE → Prop
  | .no => True
  | .yes e => needE pf pg e
def needT (pf : Str → PSpec → Nat → Prop) (pg : Str → PV → Prop) : T → Prop
  | .val e => needE pf pg e
  | .cmp _ a b => needE pf pg a ∧ needE pf pg b
  | .chain _ _ a b c => needE pf pg a ∧ needE pf pg b ∧ needE pf pg c
  | .not t => needT pf pg t
  | .bools _ ts => needTs pf pg ts
  | .ite t a b => needT pf pg t ∧ needT pf pg a ∧ needT pf pg b
def needTs (pf : Str → PSpec → Nat → Prop) (pg : Str → PV → Prop) : Ts → Prop
  | .nil => True
  | .cons t ts => needT pf pg t ∧ needTs pf pg ts
def needI (pf : Str → PSpec → Nat → Prop) (pg : Str → PV → Prop) : I → Prop
  | .val e => needE pf pg e
  | .range1 a => needE pf pg a
  | .range2 a b => needE pf pg a ∧ needE pf pg b
  | .enum e => needE pf pg e
  | .zip a b => needE pf pg a ∧ needE pf pg b
end
mutual
def needS (pf : Str → PSpec → Nat → Prop) (pg : Str → PV → Prop) : S → Prop
  | .asg _ e => needE pf pg e
  | .asgLc _ e => needE pf pg e
  | .setIx o i e => needE pf pg o ∧ needE pf pg i ∧ needE pf pg e
  | .aug _ _ e => needE pf pg e
  | .expr e => needE pf pg e
  | .ret e => needE pf pg e
  | .retN => True
  | .ite t a b => needT pf pg t ∧ needSs pf pg a ∧ needSs pf pg b
  | .loop _ it b => needI pf pg it ∧ needSs pf pg b
  | .while t b => needT pf pg t ∧ needSs pf pg b
  | .pass => True
  | .brk => True
  | .cont => True
  | .never => True
def needSs (pf : Str → PSpec → Nat → Prop) (pg : Str → PV → Prop) : Ss → Prop
  | .nil => True
  | .cons s ss => needS pf pg s ∧ needSs pf pg ss
end
end TK

set_option maxRecDepth 100000
set_option maxHeartbeats 2000000
namespace TK
open PySem PySem.Spec PyProof.Rows L2

/-! ### wishes over the layer's heap -/
def LQ (K : PySem.W.Frag) (F : FS) (H : Hp) (Q : VK) : PQ := fun z st' => ∀ F' H' y, Ext F H F' H' → RS K H' F' st' → DV K H' F' z y → Q y H'
section
variable {K : PySem.W.Frag} {F F' : FS} {H H' : Hp} {Q : VK} {st : Store}
theorem LQ.ext (x : Ext F H F' H') : ∀ v s, LQ K F H Q v s → LQ K F' H' Q v s := fun v s h F2 H2 y x2 r d => h F2 H2 y (x.trans x2) r d
theorem LQ.now {z : PV} {y : V} (h : LQ K F H Q z st) (r : RS K H F st) (d : DV K H F z y) : Q y H := h F H y .refl r d
theorem newList_ok {m : Bool} {xs : List PV} {ys : List V} (h : newList m xs st (LQ K F H Q)) (r : RS K H F st) (d : DVs K H F xs ys) : ∀ p, H p = none → Q (.ref p) (upd H p (.lst ys)) := by
  intro p hp
  cases m with
  | true => exact h p (r.no hp) F _ _ (.new hp) (r.putNew hp d) (.ref p)
  | false => exact h (fun a => F a ∨ a = p) _ _ (.newF hp) (r.newF hp) (.lst (.inr rfl) upd_same (d.ext (.newF hp)))
theorem newTup_ok {xs : List PV} {ys : List V} (h : LQ K F H Q (.tup xs) st) (r : RS K H F st) (d : DVs K H F xs ys) : ∀ p, H p = none → Q (.ref p) (upd H p (.tup ys)) := by
  intro p hp
  exact h F _ _ (.new hp) (r.new hp) (.tup (.of upd_same) (d.ext (.new hp)))
theorem lstOf_ok {v : PV} {xs : List PV} {x : V} (r : RS K H F st) (e : lstOf st v = some xs) (d : DV K H F v x) : ∃ a ys, x = .ref a ∧ H a = some (.lst ys) ∧ DVs K H F xs ys := by
  cases d with
  | lst f h hs =>
    have e' : xs = _ := (Option.some.inj e).symm
    subst e'
    exact ⟨_, _, rfl, h, hs⟩
  | ref a =>
    have e' : (match st a with | some (.lst xs) => some xs | _ => none) = some xs := e
    cases q : st a with
    | none => rw [q] at e'; cases e'
    | some c =>
      cases c with
      | lst zs =>
        rw [q] at e'; cases e'
        obtain ⟨_, ys, h, hs⟩ := r.lst a _ q
        exact ⟨a, ys, rfl, h, hs⟩
      | pool => rw [q] at e'; cases e'
  | non => cases e
  | bl _ => cases e
  | int _ => cases e
  | str _ => cases e
  | tup _ _ => cases e
  | scr _ => cases e
theorem seqOf_ok {v : PV} {xs : List PV} {x : V} (r : RS K H F st) (e : seqOf st v = some xs) (d : DV K H F v x) : ∃ a ys, x = .ref a ∧ (SqL K H a ys ∨ SqT K H a ys) ∧ DVs K H F xs ys := by
  cases d with
  | tup h hs =>
    have e' : xs = _ := (Option.some.inj e).symm
    subst e'
    exact ⟨_, _, rfl, .inr h, hs⟩
  | lst f h hs =>
    obtain ⟨a, ys, e1, e2, e3⟩ := lstOf_ok r (show lstOf st (.lst _) = some xs from e) (.lst f h hs)
    exact ⟨a, ys, e1, .inl (.of e2), e3⟩
  | ref a =>
    obtain ⟨a, ys, e1, e2, e3⟩ := lstOf_ok r (show lstOf st (.ref a) = some xs from e) (.ref a)
    exact ⟨a, ys, e1, .inl (.of e2), e3⟩
  | non => cases e
  | bl _ => cases e
  | int _ => cases e
  | str _ => cases e
  | scr _ => cases e
end

/-! ### operators -/
section
variable {X : Cx}
theorem op_mulT : OpR X (binaryOp .Mult) (rI IntMulOk fun i j => .int (i * j)) := opI fun _ _ _ _ _ _ _ hc q => mul_int q hc
theorem op_fdivT : OpR X (binaryOp .FloorDiv) (rI (fun _ j => DivOk j) fun i j => .int (i.fdiv j)) := opI fun _ _ _ _ _ _ _ hc q => floordiv_int hc.1 q (.inl (PyProof.noPylong_of_log2 hc.2))
/-- t + u of tuples, any -/
theorem op_catTT : OpR X (binaryOp .Add) (fun x y H Q => ∃ a b xs ys, x = .ref a ∧ y = .ref b ∧ SqT X.K H a xs ∧ SqT X.K H b ys ∧ xs.length + ys.length ≤ sizeLine ∧
    (xs = [] → Q (.ref b) H) ∧ (xs ≠ [] → ys = [] → Q (.ref a) H) ∧ (xs ≠ [] → ys ≠ [] → ∀ p, H p = none → Q (.ref p) (upd H p (.tup (xs ++ ys))))) := by
  intro pins s σ H x y v u Q I rx ry h
  obtain ⟨a, b, xs, ys, rfl, rfl, ha, hb, hz, q0, q1, q2⟩ := h
  by_cases hx : xs = []
  · subst hx
    cases rx
    cases ry
    obtain ⟨its, r1, ⟨⟨c1, d1, t1, s1⟩, o1, k1, n1, e1⟩, _⟩ := I.tuple ha
    obtain ⟨its2, r2, ⟨⟨c2, d2, t2, s2⟩, o2, k2, n2, e2⟩, _⟩ := I.tuple hb
    simp only at k1 e1 k2 e2
    subst k1 e1 k2 e2
    have hn : its.toArray.isEmpty = true := by cases r1; rfl
    exact concat_meets ⟨_, o1, rfl⟩ ⟨_, o2, rfl⟩ noFill_tuple_add seq_tuple_add PySem.F.slot_tuple_add PySem.F.entry_tuple_add (PySem.F.args_tuple_add_2 _ _)
      (tuple_addW0 a b its.toArray its2.toArray n1 n2 d1 d2 s1 s2 hn) ⟨o1, o2, ⟨.ref b, H, I, rfl, q0 rfl⟩⟩
  · exact op_catT pins s σ H _ _ v u Q I rx ry ⟨a, b, xs, ys, rfl, rfl, ha, hb, hx, hz, q1 hx, fun hy => q2 hx hy⟩
abbrev rB (K : PySem.W.Frag) (f : PV → PV → Store → PQ → Prop) : R2 := fun x y H Q => ∃ F st v w, RS K H F st ∧ DV K H F v x ∧ DV K H F w y ∧ f v w st (LQ K F H Q)
theorem bin_ok {o : Operator} {m : Bool} : OpR X (binaryOp o) (rB X.K (binV o m)) := by
  intro pins s σ H x y vv uu Q I rx ry ⟨F, st, v, w, rs, dv, dw, h⟩
  unfold binV at h
  split at h
  · cases dv; cases dw
    exact op_add pins s σ H _ _ _ _ Q I rx ry ⟨_, _, rfl, rfl, h.now rs (.int _)⟩
  · cases dv; cases dw
    exact op_add_str pins s σ H _ _ _ _ Q I rx ry ⟨_, _, rfl, rfl, h.1, h.2.now rs (.str _)⟩
  · cases dv with
    | tup h1 hs1 =>
      cases dw with
      | tup h2 hs2 =>
        refine op_catTT pins s σ H _ _ _ _ Q I rx ry ⟨_, _, _, _, rfl, rfl, h1, h2, by rw [← hs1.length, ← hs2.length]; exact h.1, fun e => ?_, fun _ e => ?_, fun _ _ => newTup_ok h.2 rs (hs1.append hs2)⟩
        · subst e
          cases hs1
          exact h.2.now rs (.tup h2 hs2)
        · subst e
          cases hs2
          exact h.2.now rs (by rw [List.append_nil]; exact .tup h1 hs1)
  · cases dv with
    | lst f1 h1 hs1 =>
      cases dw with
      | lst f2 h2 hs2 => exact op_cat pins s σ H _ _ _ _ Q I rx ry ⟨_, _, _, _, rfl, rfl, h1, h2, by rw [← hs1.length, ← hs2.length]; exact h.1, newList_ok h.2 rs (hs1.append hs2)⟩
  · obtain ⟨xs, e, hz, h⟩ := h
    cases dv
    obtain ⟨_, zs, h1, hs1⟩ := rs.lst _ _ e
    cases dw with
    | lst f2 h2 hs2 => exact op_cat pins s σ H _ _ _ _ Q I rx ry ⟨_, _, _, _, rfl, rfl, h1, h2, by rw [← hs1.length, ← hs2.length]; exact hz, newList_ok h rs (hs1.append hs2)⟩
  · obtain ⟨ys, e, hz, h⟩ := h
    cases dw
    obtain ⟨_, zs, h2, hs2⟩ := rs.lst _ _ e
    cases dv with
    | lst f1 h1 hs1 => exact op_cat pins s σ H _ _ _ _ Q I rx ry ⟨_, _, _, _, rfl, rfl, h1, h2, by rw [← hs1.length, ← hs2.length]; exact hz, newList_ok h rs (hs1.append hs2)⟩
  · obtain ⟨xs, ys, e, e', hz, h⟩ := h
    cases dv
    cases dw
    obtain ⟨_, zs, h1, hs1⟩ := rs.lst _ _ e
    obtain ⟨_, zs', h2, hs2⟩ := rs.lst _ _ e'
    exact op_cat pins s σ H _ _ _ _ Q I rx ry ⟨_, _, _, _, rfl, rfl, h1, h2, by rw [← hs1.length, ← hs2.length]; exact hz, newList_ok h rs (hs1.append hs2)⟩
  · cases dv; cases dw
    exact op_sub pins s σ H _ _ _ _ Q I rx ry ⟨_, _, rfl, rfl, h.now rs (.int _)⟩
  · cases dv; cases dw
    exact op_mulT pins s σ H _ _ _ _ Q I rx ry ⟨_, _, rfl, rfl, h.1, h.2.now rs (.int _)⟩
  · obtain ⟨h1, h2, h3, h4⟩ := h
    cases dw
    cases dv with
    | lst f1 g1 hs1 => exact op_rep pins s σ H _ _ _ _ Q I rx ry ⟨_, _, _, rfl, rfl, g1, h1, h2, by rw [← hs1.length]; exact h3, newList_ok h4 rs (hs1.flat _)⟩
  · cases dv; cases dw
    exact op_fdivT pins s σ H _ _ _ _ Q I rx ry ⟨_, _, rfl, rfl, h.1, h.2.now rs (.int _)⟩
  · cases dv; cases dw
    exact op_modN pins s σ H _ _ _ _ Q I rx ry ⟨_, _, rfl, rfl, h.1, h.2.now rs (.int _)⟩
  · cases dv; cases dw
    exact op_pow pins s σ H _ _ _ _ Q I rx ry ⟨_, _, rfl, rfl, h.1, h.2.now rs (.int _)⟩
  · cases dv; cases dw
    exact op_and pins s σ H _ _ _ _ Q I rx ry ⟨_, _, rfl, rfl, h.now rs (.int _)⟩
  · cases dv; cases dw
    exact op_or pins s σ H _ _ _ _ Q I rx ry ⟨_, _, rfl, rfl, h.now rs (.int _)⟩
  · exact h.elim

/-! ### comparisons -/
mutual
theorem toD_dp {K : PySem.W.Frag} {H : Hp} {F : FS} : ∀ {n : Nat} {v : PV} {x : V}, flat n v = true → DV K H F v x → Dp K H x (toD v)
  | _, .non, _, _, .non => .non
  | _, .bl _, _, _, .bl b => .bl b
  | _, .int _, _, _, .int b => .int b
  | _, .str _, _, _, .str b => .str b
  | n, .tup xs, _, h, .tup h1 hs => .tup h1 (toD_dps (by have h' : (n != 0 && flats (n - 1) xs) = true := h; exact (Bool.and_eq_true_iff.mp h').2) hs)
  | n, .lst xs, _, h, .lst f h1 hs => .lst (.of h1) (toD_dps (by have h' : (n != 0 && flats (n - 1) xs) = true := h; exact (Bool.and_eq_true_iff.mp h').2) hs)
theorem toD_dps {K : PySem.W.Frag} {H : Hp} {F : FS} : ∀ {n : Nat} {v : List PV} {x : List V}, flats n v = true → DVs K H F v x → DpAll K H x (toDs v)
  | _, [], _, _, .nil => .nil
  | n, x :: r, _, h, .cons d ds => by
    have h' : (flat n x && flats n r) = true := h
    exact .cons (toD_dp (Bool.and_eq_true_iff.mp h').1 d) (toD_dps (Bool.and_eq_true_iff.mp h').2 ds)
end
mutual
theorem toD_lay : ∀ {n : Nat} {v : PV}, flat n v = true → (toD v).canLay0 = true ∧ (toD v).depth ≤ n
  | _, .non, _ => ⟨by simp [toD, PyData.canLay0], by simp [toD, PyData.depth]⟩
  | _, .bl _, _ => ⟨by simp [toD, PyData.canLay0], by simp [toD, PyData.depth]⟩
  | _, .int _, _ => ⟨by simp [toD, PyData.canLay0], by simp [toD, PyData.depth]⟩
  | _, .str x, h => ⟨by have h' : PyData.strOk x = true := h; simpa [toD, PyData.canLay0] using h', by simp [toD, PyData.depth]⟩
  | n, .tup xs, h => by
    have h' : (n != 0 && flats (n - 1) xs) = true := h
    obtain ⟨h1, h2⟩ := Bool.and_eq_true_iff.mp h'
    obtain ⟨a, b⟩ := toD_lays h2
    have h3 : n ≠ 0 := by simpa using h1
    exact ⟨by simpa [toD, PyData.canLay0] using a, by simp only [toD, PyData.depth]; omega⟩
  | n, .lst xs, h => by
    have h' : (n != 0 && flats (n - 1) xs) = true := h
    obtain ⟨h1, h2⟩ := Bool.and_eq_true_iff.mp h'
    obtain ⟨a, b⟩ := toD_lays h2
    have h3 : n ≠ 0 := by simpa using h1
    exact ⟨by simpa [toD, PyData.canLay0] using a, by simp only [toD, PyData.depth]; omega⟩
  | _, .ref _, h => nomatch h
  | _, .scr _, h => nomatch h
theorem toD_lays : ∀ {n : Nat} {v : List PV}, flats n v = true → PyData.canLayAll0 (toDs v) = true ∧ PyData.depthAll (toDs v) ≤ n
  | _, [], _ => ⟨by simp [toDs, PyData.canLayAll0], by simp [toDs, PyData.depthAll]⟩
  | n, x :: r, h => by
    have h' : (flat n x && flats n r) = true := h
    obtain ⟨h1, h2⟩ := Bool.and_eq_true_iff.mp h'
    obtain ⟨a, b⟩ := toD_lay h1
    obtain ⟨c, d⟩ := toD_lays h2
    exact ⟨by simp [toDs, PyData.canLayAll0, a, c], by simp only [toDs, PyData.depthAll]; omega⟩
end
theorem toD_shaped {v : PV} (h : flat 60 v = true) : SeqAt.shaped (toD v) = true := by
  obtain ⟨a, b⟩ := toD_lay h
  unfold SeqAt.shaped
  rw [a, Bool.true_and]
  exact decide_eq_true (by omega)
theorem beq_dec {i j : Int} : (i == j) = decide (i = j) := by
  by_cases e : i = j <;> simp [e]
mutual
theorem toD_eqv : ∀ {n m : Nat} {v w : PV}, flat n v = true → flat m w = true → PyData.eqv (toD v) (toD w) = eqv v w
  | _, _, .non, w, _, hw => by cases w <;> first | (simp [toD, PyData.eqv, eqv]; done) | cases hw
  | _, _, .bl _, w, _, hw => by cases w <;> first | (simp [toD, PyData.eqv, eqv]; done) | cases hw
  | _, _, .int _, w, _, hw => by cases w <;> first | (simp [toD, PyData.eqv, eqv, beq_dec]; done) | cases hw
  | _, _, .str a, w, _, hw => by
    cases w with
    | str b => simp only [toD, PyData.eqv, eqv]; by_cases e : a = b <;> simp [e]
    | ref _ => cases hw
    | scr _ => cases hw
    | _ => simp [toD, PyData.eqv, eqv]
  | n, m, .tup xs, w, h, hw => by
    have h' : (n != 0 && flats (n - 1) xs) = true := h
    cases w with
    | tup ys =>
      have hw' : (m != 0 && flats (m - 1) ys) = true := hw
      simp only [toD, PyData.eqv, eqv]
      exact toD_eqvs (Bool.and_eq_true_iff.mp h').2 (Bool.and_eq_true_iff.mp hw').2
    | ref _ => cases hw
    | scr _ => cases hw
    | _ => simp [toD, PyData.eqv, eqv]
  | n, m, .lst xs, w, h, hw => by
    have h' : (n != 0 && flats (n - 1) xs) = true := h
    cases w with
    | lst ys =>
      have hw' : (m != 0 && flats (m - 1) ys) = true := hw
      simp only [toD, PyData.eqv, eqv]
      exact toD_eqvs (Bool.and_eq_true_iff.mp h').2 (Bool.and_eq_true_iff.mp hw').2
    | ref _ => cases hw
    | scr _ => cases hw
    | _ => simp [toD, PyData.eqv, eqv]
  | _, _, .ref _, _, h, _ => nomatch h
  | _, _, .scr _, _, h, _ => nomatch h
theorem toD_eqvs : ∀ {n m : Nat} {v w : List PV}, flats n v = true → flats m w = true → PyData.eqvAll (toDs v) (toDs w) = eqvs v w
  | _, _, [], w, _, _ => by cases w <;> simp [toDs, PyData.eqvAll, eqvs]
  | n, m, x :: r, w, h, hw => by
    have h' : (flat n x && flats n r) = true := h
    cases w with
    | nil => simp [toDs, PyData.eqvAll, eqvs]
    | cons y s =>
      have hw' : (flat m y && flats m s) = true := hw
      simp only [toDs, PyData.eqvAll, eqvs]
      rw [toD_eqv (Bool.and_eq_true_iff.mp h').1 (Bool.and_eq_true_iff.mp hw').1, toD_eqvs (Bool.and_eq_true_iff.mp h').2 (Bool.and_eq_true_iff.mp hw').2]
end
theorem res_ok {K : PySem.W.Frag} {H : Hp} {F : FS} {st : Store} {v : PV} {x : V} {n : Nat} (r : RS K H F st) (d : DV K H F v x) (h : flat n (res st v) = true) : Dp K H x (toD (res st v)) := by
  cases v with
  | ref a =>
    cases q : st a with
    | none =>
      have e : res st (.ref a) = .ref a := by simp only [res, q]
      rw [e] at h; cases h
    | some c =>
      cases c with
      | pool =>
        have e : res st (.ref a) = .ref a := by simp only [res, q]
        rw [e] at h; cases h
      | lst xs =>
        have e : res st (.ref a) = .lst xs := by simp only [res, q]
        rw [e] at h ⊢
        obtain ⟨_, ys, h1, hs⟩ := r.lst a xs q
        cases d
        have h' : (n != 0 && flats (n - 1) xs) = true := h
        exact .lst (.of h1) (toD_dps (Bool.and_eq_true_iff.mp h').2 hs)
  | non => exact toD_dp h d
  | bl _ => exact toD_dp h d
  | int _ => exact toD_dp h d
  | str _ => exact toD_dp h d
  | tup _ => exact toD_dp h d
  | lst _ => exact toD_dp h d
  | scr _ => cases h
theorem scP_ok {K : PySem.W.Frag} {H : Hp} {F : FS} {st : Store} {v w : PV} {x y : V} (h : scP v w = true) (dv : DV K H F v x) (dw : DV K H F w y) : scal x y = true ∧ decide (x = y) = eqv (res st v) (res st w) := by
  cases dv <;> cases dw <;> first
    | (refine ⟨rfl, ?_⟩; simp [res, eqv]; done)
    | (refine ⟨rfl, ?_⟩; simp only [res, eqv]; rename_i a b; cases a <;> cases b <;> rfl)
    | cases h
theorem sc_flat {v : PV} (h : isSc v = true) {K : PySem.W.Frag} {H : Hp} {F : FS} {x : V} (d : DV K H F v x) : flatV x = true := by
  cases d <;> first | rfl | cases h
theorem sc_flats : ∀ {vs : List PV} {xs : List V}, vs.all isSc = true → ∀ {K : PySem.W.Frag} {H : Hp} {F : FS}, DVs K H F vs xs → xs.all flatV = true
  | [], _, _, _, _, _, .nil => rfl
  | v :: r, _, h, _, _, _, .cons d ds => by
    rw [List.all_cons, Bool.and_eq_true] at h ⊢
    exact ⟨sc_flat h.1 d, sc_flats h.2 ds⟩
theorem sc_eqV {v w : PV} (hv : isSc v = true) (hw : isSc w = true) {K : PySem.W.Frag} {H : Hp} {F : FS} {x y : V} (d : DV K H F v x) (d' : DV K H F w y) : eqV x y = eqv v w := by
  cases d <;> cases d' <;> first
    | exact absurd hv Bool.false_ne_true
    | exact absurd hw Bool.false_ne_true
    | (simp [eqV, eqv, beq_dec]; done)
    | (simp only [eqV, eqv]; rename_i a b; cases a <;> rfl)
    | (simp only [eqV, eqv]; rename_i a b; cases b <;> rfl)
    | (simp only [eqV, eqv]; rename_i a b; by_cases e : a = b <;> simp [e])
theorem sc_any {w : PV} (hw : isSc w = true) {K : PySem.W.Frag} {H : Hp} {F : FS} {y : V} (d' : DV K H F w y) : ∀ {vs : List PV} {xs : List V}, vs.all isSc = true → DVs K H F vs xs → inV y xs = vs.any fun z => eqv z w
  | [], _, _, .nil => rfl
  | v :: r, _, h, .cons d ds => by
    rw [List.all_cons, Bool.and_eq_true] at h
    have ih := sc_any hw d' h.2 ds
    unfold inV at ih ⊢
    rw [List.any_cons, List.any_cons, ih, sc_eqV h.1 hw d d']
theorem isNon_ok {K : PySem.W.Frag} {H : Hp} {F : FS} {v : PV} {x : V} (d : DV K H F v x) : decide (x = .non) = isNon v := by
  cases d <;> simp [isNon]
theorem cmp_ok {o : CmpOp} (hu : X.A.units + 64 < cLine) : OpR X (compareOp o) (rB X.K (cmpV o)) := by
  intro pins s σ H x y vv uu Q I rx ry ⟨F, st, v, w, rs, dv, dw, h⟩
  unfold cmpV at h
  cases o with
  | Eq =>
    obtain ⟨ok, h⟩ := h
    rcases ok with ok | ⟨f1, f2⟩
    · obtain ⟨e1, e2⟩ := scP_ok (st := st) ok dv dw
      exact op_eq pins s σ H _ _ _ _ Q I rx ry ⟨e1, by rw [e2]; exact h.now rs (.bl _)⟩
    · exact op_eqD hu pins s σ H _ _ _ _ Q I rx ry ⟨_, _, res_ok rs dv f1, res_ok rs dw f2, toD_shaped f1, toD_shaped f2, by rw [toD_eqv f1 f2]; exact h.now rs (.bl _)⟩
  | NotEq =>
    obtain ⟨ok, h⟩ := h
    rcases ok with ok | ⟨f1, f2⟩
    · obtain ⟨e1, e2⟩ := scP_ok (st := st) ok dv dw
      exact op_ne pins s σ H _ _ _ _ Q I rx ry ⟨e1, by rw [e2]; exact h.now rs (.bl _)⟩
    · exact op_neD hu pins s σ H _ _ _ _ Q I rx ry ⟨_, _, res_ok rs dv f1, res_ok rs dw f2, toD_shaped f1, toD_shaped f2, by rw [toD_eqv f1 f2]; exact h.now rs (.bl _)⟩
  | Lt =>
    dsimp only at h
    split at h
    · cases dv; cases dw; exact op_lt pins s σ H _ _ _ _ Q I rx ry ⟨_, _, rfl, rfl, h.now rs (.bl _)⟩
    · exact h.elim
  | LtE =>
    dsimp only at h
    split at h
    · cases dv; cases dw; exact op_le pins s σ H _ _ _ _ Q I rx ry ⟨_, _, rfl, rfl, h.now rs (.bl _)⟩
    · exact h.elim
  | Gt =>
    dsimp only at h
    split at h
    · cases dv; cases dw; exact op_gt pins s σ H _ _ _ _ Q I rx ry ⟨_, _, rfl, rfl, h.now rs (.bl _)⟩
    · exact h.elim
  | GtE =>
    dsimp only at h
    split at h
    · cases dv; cases dw; exact op_ge pins s σ H _ _ _ _ Q I rx ry ⟨_, _, rfl, rfl, h.now rs (.bl _)⟩
    · exact h.elim
  | Is =>
    dsimp only at h
    split at h
    · cases dw; exact op_isN pins s σ H _ _ _ _ Q I rx ry ⟨rfl, by rw [isNon_ok dv]; exact h.now rs (.bl _)⟩
    · exact h.elim
  | IsNot =>
    dsimp only at h
    split at h
    · cases dw; exact op_notN pins s σ H _ _ _ _ Q I rx ry ⟨rfl, by rw [isNon_ok dv]; exact h.now rs (.bl _)⟩
    · exact h.elim
  | In =>
    dsimp only at h
    cases q : seqOf st w with
    | none => rw [q] at h; exact h.elim
    | some xs =>
      rw [q] at h
      obtain ⟨h1, h2, h⟩ := h
      obtain ⟨a, ys, rfl, hs, ds⟩ := seqOf_ok rs q dw
      exact op_in_seq pins s σ H _ _ _ _ Q I rx ry ⟨a, ys, rfl, hs, sc_flat h1 dv, sc_flats h2 ds, by rw [if_neg Bool.false_ne_true, sc_any h1 dv h2 ds]; exact h.now rs (.bl _)⟩
  | NotIn =>
    dsimp only at h
    cases q : seqOf st w with
    | none => rw [q] at h; exact h.elim
    | some xs =>
      rw [q] at h
      obtain ⟨h1, h2, h⟩ := h
      obtain ⟨a, ys, rfl, hs, ds⟩ := seqOf_ok rs q dw
      exact op_notIn_seq pins s σ H _ _ _ _ Q I rx ry ⟨a, ys, rfl, hs, sc_flat h1 dv, sc_flats h2 ds, by rw [if_pos rfl, sc_any h1 dv h2 ds]; exact h.now rs (.bl _)⟩
end
end TK

set_option maxRecDepth 100000
set_option maxHeartbeats 2000000
namespace TK
open PySem PySem.Spec PyProof.Rows L2
/-! ### built-in functions -/
theorem bls_ok {K : PySem.W.Frag} {H : Hp} {F : FS} : ∀ {xs : List PV} {bs : List Bool} {ys : List V}, blsOf xs = some bs → DVs K H F xs ys → ys = bs.map V.bl
  | [], bs, _, e, .nil => by cases (Option.some.inj e); rfl
  | .bl b :: r, bs, _, e, .cons d ds => by
    have e' : (blsOf r).map (b :: ·) = some bs := e
    cases q : blsOf r with
    | none => rw [q] at e'; cases e'
    | some cs =>
      rw [q] at e'; cases e'
      cases d
      rw [bls_ok q ds]
      rfl
  | .non :: _, _, _, e, _ => nomatch e
  | .int _ :: _, _, _, e, _ => nomatch e
  | .str _ :: _, _, _, e, _ => nomatch e
  | .tup _ :: _, _, _, e, _ => nomatch e
  | .lst _ :: _, _, _, e, _ => nomatch e
  | .ref _ :: _, _, _, e, _ => nomatch e
  | .scr _ :: _, _, _, e, _ => nomatch e
theorem ints_ok {K : PySem.W.Frag} {H : Hp} {F : FS} : ∀ {xs : List PV} {bs : List Int} {ys : List V}, intsOf xs = some bs → DVs K H F xs ys → ys = bs.map V.int
  | [], bs, _, e, .nil => by cases (Option.some.inj e); rfl
  | .int b :: r, bs, _, e, .cons d ds => by
    have e' : (intsOf r).map (b :: ·) = some bs := e
    cases q : intsOf r with
    | none => rw [q] at e'; cases e'
    | some cs =>
      rw [q] at e'; cases e'
      cases d
      rw [ints_ok q ds]
      rfl
  | .non :: _, _, _, e, _ => nomatch e
  | .bl _ :: _, _, _, e, _ => nomatch e
  | .str _ :: _, _, _, e, _ => nomatch e
  | .tup _ :: _, _, _, e, _ => nomatch e
  | .lst _ :: _, _, _, e, _ => nomatch e
  | .ref _ :: _, _, _, e, _ => nomatch e
  | .scr _ :: _, _, _, e, _ => nomatch e
theorem max_fold : ∀ (r : List Int) (x : Int), (r.foldl (fun m y => if y > m then y else m) x ∈ x :: r) ∧ ∀ y ∈ x :: r, y ≤ r.foldl (fun m y => if y > m then y else m) x
  | [], x => ⟨List.mem_singleton.mpr rfl, fun y hy => by rw [List.mem_singleton.mp hy]; exact Int.le_refl _⟩
  | z :: r, x => by
    obtain ⟨a, b⟩ := max_fold r (if z > x then z else x)
    rw [List.foldl_cons]
    have hm : (if z > x then z else x) = z ∨ (if z > x then z else x) = x := by split <;> simp
    have h1 : z ≤ (if z > x then z else x) := by split <;> omega
    have h2 : x ≤ (if z > x then z else x) := by split <;> omega
    have h0 := b _ List.mem_cons_self
    refine ⟨?_, fun y hy => ?_⟩
    · rcases List.mem_cons.mp a with e | e
      · rcases hm with h | h <;> rw [e, h] <;> simp
      · exact List.mem_cons_of_mem _ (List.mem_cons_of_mem _ e)
    · rcases List.mem_cons.mp hy with rfl | hy
      · exact Int.le_trans h2 h0
      · rcases List.mem_cons.mp hy with rfl | hy
        · exact Int.le_trans h1 h0
        · exact b y (List.mem_cons_of_mem _ hy)
theorem min_fold : ∀ (r : List Int) (x : Int), (r.foldl (fun m y => if y < m then y else m) x ∈ x :: r) ∧ ∀ y ∈ x :: r, r.foldl (fun m y => if y < m then y else m) x ≤ y
  | [], x => ⟨List.mem_singleton.mpr rfl, fun y hy => by rw [List.mem_singleton.mp hy]; exact Int.le_refl _⟩
  | z :: r, x => by
    obtain ⟨a, b⟩ := min_fold r (if z < x then z else x)
    rw [List.foldl_cons]
    have hm : (if z < x then z else x) = z ∨ (if z < x then z else x) = x := by split <;> simp
    have h1 : (if z < x then z else x) ≤ z := by split <;> omega
    have h2 : (if z < x then z else x) ≤ x := by split <;> omega
    have h0 := b _ List.mem_cons_self
    refine ⟨?_, fun y hy => ?_⟩
    · rcases List.mem_cons.mp a with e | e
      · rcases hm with h | h <;> rw [e, h] <;> simp
      · exact List.mem_cons_of_mem _ (List.mem_cons_of_mem _ e)
    · rcases List.mem_cons.mp hy with rfl | hy
      · exact Int.le_trans h0 h2
      · rcases List.mem_cons.mp hy with rfl | hy
        · exact Int.le_trans h0 h1
        · exact b y (List.mem_cons_of_mem _ hy)
theorem maxL_mem {ns : List Int} (h : ns ≠ []) : maxL ns ∈ ns := by
  cases ns with
  | nil => exact absurd rfl h
  | cons x r => exact (max_fold r x).1
theorem maxL_ge {ns : List Int} : ∀ y ∈ ns, y ≤ maxL ns := by
  cases ns with
  | nil => exact fun _ h => nomatch h
  | cons x r => exact (max_fold r x).2
theorem minL_mem {ns : List Int} (h : ns ≠ []) : minL ns ∈ ns := by
  cases ns with
  | nil => exact absurd rfl h
  | cons x r => exact (min_fold r x).1
theorem minL_le {ns : List Int} : ∀ y ∈ ns, minL ns ≤ y := by
  cases ns with
  | nil => exact fun _ h => nomatch h
  | cons x r => exact (min_fold r x).2
theorem len_pos {ns : List Int} (h : ns ≠ []) : 0 < ns.length := by
  cases ns with
  | nil => exact absurd rfl h
  | cons x r => exact Nat.succ_pos _
mutual
theorem toD_nodict : ∀ v : PV, (toD v).hasDict = false
  | .non => by simp [toD, PyData.hasDict]
  | .bl _ => by simp [toD, PyData.hasDict]
  | .int _ => by simp [toD, PyData.hasDict]
  | .str _ => by simp [toD, PyData.hasDict]
  | .tup xs => by simp only [toD, PyData.hasDict]; exact toD_nodicts xs
  | .lst xs => by simp only [toD, PyData.hasDict]; exact toD_nodicts xs
  | .ref _ => by simp [toD, PyData.hasDict]
  | .scr _ => by simp [toD, PyData.hasDict]
theorem toD_nodicts : ∀ v : List PV, PyData.hasDictAll (toDs v) = false
  | [] => by simp [toDs, PyData.hasDictAll]
  | x :: r => by simp only [toDs, PyData.hasDictAll]; rw [toD_nodict x, toD_nodicts r]; rfl
end
section
variable {X : Cx}
abbrev rC (K : PySem.W.Frag) (f : List PV → Store → PQ → Prop) : List V → Hp → VK → Prop := fun xs H Q => ∃ F st vs, RS K H F st ∧ DVs K H F vs xs ∧ f vs st (LQ K F H Q)
theorem call_repr (hg : X.A.guards = some []) (hu : X.A.units + 64 < cLine) : CallR X (.builtin "repr") (fun xs H Q => ∃ v d, xs = [v] ∧ Dp X.K H v d ∧ d.hasDict = false ∧ d.showable = true ∧ d.shown.length ≤ sizeLine ∧ d.depth ≤ 60 ∧ Q (.str d.shown) H) := by
  intro pins s σ H xs us Q I r h
  obtain ⟨v, d, rfl, dp, nd, sh, sz, dd, q⟩ := h
  obtain ⟨u, rfl, ru⟩ := vals1 r
  obtain ⟨as, rd⟩ := Dp.reads I d v u dp ru
  cases dp with
  | non =>
    cases ru
    refine PySem.P.repr_of_none ⟨.str "None", H, I.tok _, ⟨_, rfl⟩, ?_⟩
    simpa [PyData.shown] using q
  | bl b =>
    cases ru
    refine PySem.P.repr_of_bool ⟨.str (if b then "True" else "False"), H, I.tok _, ⟨_, rfl⟩, ?_⟩
    simpa [PyData.shown] using q
  | int i =>
    obtain ⟨t, rfl⟩ := ru
    refine PySem.P.repr_of_int (by simpa [PyData.showable] using sh) ⟨.str (toString i), H, I.tok _, ⟨_, rfl⟩, ?_⟩
    simpa [PyData.shown] using q
  | str x =>
    obtain ⟨t, rfl⟩ := ru
    refine PySem.P.repr_of_str (hsz := by simpa [PyData.shown] using sz) ⟨.str (reprText x), H, I.tok _, ⟨_, rfl⟩, ?_⟩
    simpa [PyData.shown] using q
  | lst h1 h2 =>
    cases ru
    exact repr_of_reads' rd sh (fun z => by rw [nd] at z; cases z) hg (by omega) (fun _ _ e => e) (fun h' u tk hk => ⟨.str _, H, I.kept (t' := tk) hk, ⟨u, rfl⟩, q⟩) sz
  | tup h1 h2 =>
    cases ru
    exact repr_of_reads' rd sh (fun z => by rw [nd] at z; cases z) hg (by omega) (fun _ _ e => e) (fun h' u tk hk => ⟨.str _, H, I.kept (t' := tk) hk, ⟨u, rfl⟩, q⟩) sz
/-- which built-in it is -/
def BF.isTy : BF → Bool
  | .int => true
  | .tuple => true
  | .list => true
  | _ => false
def BF.id : BF → String
  | .len => "len" | .int => "int" | .abs => "abs" | .tuple => "tuple" | .list => "list" | .all => "all" | .any => "any" | .sum => "sum"
  | .min2 => "min" | .max2 => "max" | .min => "min" | .max => "max" | .repr => "repr"
def BF.val (f : BF) : Value := if f.isTy then .type f.id else .builtin f.id
theorem blt_ok {f : BF} {m : Bool} (hc : X.calm = true) (hg : X.A.guards = some []) (hu : X.A.units + 64 < cLine) : CallR X f.val (rC X.K (bltV f m)) := by
  intro pins s σ H xs us Q I r ⟨F, st, vs, rs, ds, h⟩
  have one : ∀ {v : PV} {xs : List V}, DVs X.K H F [v] xs → ∃ x, xs = [x] ∧ DV X.K H F v x := fun ds => by
    cases ds with
    | cons d ds => cases ds; exact ⟨_, rfl, d⟩
  have two : ∀ {v w : PV} {xs : List V}, DVs X.K H F [v, w] xs → ∃ x y, xs = [x, y] ∧ DV X.K H F v x ∧ DV X.K H F w y := fun ds => by
    cases ds with
    | cons d ds => cases ds with
      | cons d' ds => cases ds; exact ⟨_, _, rfl, d, d'⟩
  unfold bltV at h
  split at h
  · obtain ⟨x, rfl, d⟩ := one ds
    cases d
    exact call_len_str pins s σ H _ us Q I r ⟨_, rfl, h.1, h.2.now rs (.int _)⟩
  · obtain ⟨x, rfl, d⟩ := one ds
    cases d with
    | tup h1 hs => exact call_len_seq pins s σ H _ us Q I r ⟨_, _, rfl, .inr h1, by rw [← hs.length]; exact h.now rs (.int _)⟩
  · obtain ⟨x, rfl, d⟩ := one ds
    cases d with
    | lst f1 h1 hs => exact call_len_seq pins s σ H _ us Q I r ⟨_, _, rfl, .inl (.of h1), by rw [← hs.length]; exact h.now rs (.int _)⟩
  · obtain ⟨x, rfl, d⟩ := one ds
    rename_i a
    cases q : lstOf st (.ref a) with
    | none => rw [q] at h; exact h.elim
    | some zs =>
      rw [q] at h
      obtain ⟨b, ys, rfl, h1, hs⟩ := lstOf_ok rs q d
      exact call_len_seq pins s σ H _ us Q I r ⟨_, _, rfl, .inl (.of h1), by rw [← hs.length]; exact LQ.now h rs (.int _)⟩
  · obtain ⟨x, rfl, d⟩ := one ds
    cases d
    exact call_int1 pins s σ H _ us Q I r (.inl ⟨_, rfl, h.now rs (.int _)⟩)
  · obtain ⟨x, rfl, d⟩ := one ds
    cases d
    exact call_int1 pins s σ H _ us Q I r (.inr ⟨_, rfl, h.now rs (.int _)⟩)
  · obtain ⟨x, rfl, d⟩ := one ds
    cases d
    exact call_abs pins s σ H _ us Q I r ⟨_, rfl, h.now rs (.int _)⟩
  · obtain ⟨x, rfl, d⟩ := one ds
    rename_i v
    cases q : seqOf st v with
    | none => rw [q] at h; exact h.elim
    | some zs =>
      rw [q] at h
      cases d with
      | tup h1 hs =>
        cases (Option.some.inj q)
        exact call_tuple_of pins s σ H _ us Q I r ⟨_, _, rfl, .inr ⟨h1, LQ.now h rs (.tup h1 hs)⟩⟩
      | lst f1 h1 hs =>
        cases (Option.some.inj q)
        exact call_tuple_of pins s σ H _ us Q I r ⟨_, _, rfl, .inl ⟨.of h1, newTup_ok h rs hs⟩⟩
      | ref a =>
        obtain ⟨b, ys, e, h1, hs⟩ := lstOf_ok rs (show lstOf st (.ref a) = some zs from q) (.ref a)
        cases e
        exact call_tuple_of pins s σ H _ us Q I r ⟨_, _, rfl, .inl ⟨.of h1, newTup_ok h rs hs⟩⟩
      | non => cases q
      | bl _ => cases q
      | int _ => cases q
      | str _ => cases q
      | scr _ => cases q
  · obtain ⟨x, rfl, d⟩ := one ds
    cases d with
    | scr h1 => exact call_list_of pins s σ H _ us Q I r ⟨_, _, rfl, .inl h1.sq, newList_ok h rs (DVs.ints _)⟩
  · obtain ⟨x, rfl, d⟩ := one ds
    cases d with
    | tup h1 hs => exact call_list_of pins s σ H _ us Q I r ⟨_, _, rfl, .inr h1, newList_ok h rs hs⟩
  · obtain ⟨x, rfl, d⟩ := one ds
    cases d with
    | lst f1 h1 hs => exact call_list_of pins s σ H _ us Q I r ⟨_, _, rfl, .inl (.of h1), newList_ok h rs hs⟩
  · obtain ⟨x, rfl, d⟩ := one ds
    rename_i a
    cases q : lstOf st (.ref a) with
    | none => rw [q] at h; exact h.elim
    | some zs =>
      rw [q] at h
      obtain ⟨b, ys, rfl, h1, hs⟩ := lstOf_ok rs q d
      exact call_list_of pins s σ H _ us Q I r ⟨_, _, rfl, .inl (.of h1), newList_ok h rs hs⟩
  · obtain ⟨x, rfl, d⟩ := one ds
    rename_i v
    cases q : lstOf st v with
    | none => rw [q] at h; exact h.elim
    | some zs =>
      rw [q] at h
      have h : oP (blsOf zs) _ := h
      cases q2 : blsOf zs with
      | none => rw [q2] at h; exact h.elim
      | some bs =>
        rw [q2] at h
        obtain ⟨b, ys, rfl, h1, hs⟩ := lstOf_ok rs q d
        rw [bls_ok q2 hs] at h1
        exact cr_all hc pins s σ H _ us Q I r ⟨_, bs, rfl, .of h1, LQ.now h rs (.bl _)⟩
  · obtain ⟨x, rfl, d⟩ := one ds
    rename_i v
    cases q : lstOf st v with
    | none => rw [q] at h; exact h.elim
    | some zs =>
      rw [q] at h
      have h : oP (blsOf zs) _ := h
      cases q2 : blsOf zs with
      | none => rw [q2] at h; exact h.elim
      | some bs =>
        rw [q2] at h
        obtain ⟨b, ys, rfl, h1, hs⟩ := lstOf_ok rs q d
        rw [bls_ok q2 hs] at h1
        exact cr_any hc pins s σ H _ us Q I r ⟨_, bs, rfl, .of h1, LQ.now h rs (.bl _)⟩
  · obtain ⟨x, rfl, d⟩ := one ds
    rename_i v
    cases q : lstOf st v with
    | none => rw [q] at h; exact h.elim
    | some zs =>
      rw [q] at h
      have h : oP (intsOf zs) _ := h
      cases q2 : intsOf zs with
      | none => rw [q2] at h; exact h.elim
      | some bs =>
        rw [q2] at h
        obtain ⟨b, ys, rfl, h1, hs⟩ := lstOf_ok rs q d
        rw [ints_ok q2 hs] at h1
        exact cr_sum hc pins s σ H _ us Q I r ⟨_, bs, rfl, .of h1, LQ.now h rs (.int _)⟩
  · obtain ⟨x, rfl, d⟩ := one ds
    rename_i v
    cases q : lstOf st v with
    | none => rw [q] at h; exact h.elim
    | some zs =>
      rw [q] at h
      have h : oP (intsOf zs) _ := h
      cases q2 : intsOf zs with
      | none => rw [q2] at h; exact h.elim
      | some bs =>
        rw [q2] at h
        obtain ⟨ne, h⟩ := h
        obtain ⟨b, ys, rfl, h1, hs⟩ := lstOf_ok rs q d
        rw [ints_ok q2 hs] at h1
        refine cr_max hc pins s σ H _ us Q I r ⟨_, bs, rfl, .of h1, len_pos ne, fun k hk hge => ?_⟩
        have e : k = maxL bs := Int.le_antisymm (maxL_ge k hk) (hge _ (maxL_mem ne))
        rw [e]
        exact LQ.now h rs (.int _)
  · obtain ⟨x, rfl, d⟩ := one ds
    rename_i v
    cases q : lstOf st v with
    | none => rw [q] at h; exact h.elim
    | some zs =>
      rw [q] at h
      have h : oP (intsOf zs) _ := h
      cases q2 : intsOf zs with
      | none => rw [q2] at h; exact h.elim
      | some bs =>
        rw [q2] at h
        obtain ⟨ne, h⟩ := h
        obtain ⟨b, ys, rfl, h1, hs⟩ := lstOf_ok rs q d
        rw [ints_ok q2 hs] at h1
        refine cr_min hc pins s σ H _ us Q I r ⟨_, bs, rfl, .of h1, len_pos ne, fun k hk hge => ?_⟩
        have e : k = minL bs := Int.le_antisymm (hge _ (minL_mem ne)) (minL_le k hk)
        rw [e]
        exact LQ.now h rs (.int _)
  · obtain ⟨x, y, rfl, d, d'⟩ := two ds
    cases d; cases d'
    exact call_max2 hc pins s σ H _ us Q I r ⟨_, _, rfl, h.now rs (.int _)⟩
  · obtain ⟨x, y, rfl, d, d'⟩ := two ds
    cases d; cases d'
    exact call_min2 hc pins s σ H _ us Q I r ⟨_, _, rfl, h.now rs (.int _)⟩
  · obtain ⟨x, rfl, d⟩ := one ds
    obtain ⟨⟨h1, h2, h3⟩, h⟩ := h
    exact call_repr hg hu pins s σ H _ us Q I r ⟨_, _, rfl, res_ok rs d h3, toD_nodict _, h1, h2, (toD_lay h3).2, h.now rs (.str _)⟩
  · exact h.elim

/-! ### isinstance -/
def tyName : PV → String
  | .non => "NoneType" | .bl _ => "bool" | .int _ => "int" | .str _ => "str" | .tup _ => "tuple" | _ => "list"
theorem kit_table : (["NoneType", "bool", "int", "str", "tuple", "list"].all fun t => ["int", "bool", "str", "tuple", "list"].all fun c =>
    decide (kitB t c = some (t == c || (t == "bool" && c == "int")))) = true := by decide +kernel
theorem kit_ok {t c : String} (ht : t ∈ ["NoneType", "bool", "int", "str", "tuple", "list"]) (hc : c ∈ ["int", "bool", "str", "tuple", "list"]) : kitB t c = some (t == c || (t == "bool" && c == "int")) := by
  have h := List.all_eq_true.mp (List.all_eq_true.mp kit_table t ht) c hc
  exact of_decide_eq_true h
def tyStr (ty : Str) : Option String := if ty = ("int" : Str) then some "int" else if ty = ("bool" : Str) then some "bool" else if ty = ("str" : Str) then some "str" else if ty = ("tuple" : Str) then some "tuple" else if ty = ("list" : Str) then some "list" else none
theorem tyStr_ok {ty : Str} (h : tyOk ty = true) : ∃ c : String, c ∈ ["int", "bool", "str", "tuple", "list"] ∧ ty = Str.ofString c ∧ bootBuiltins ty = some (.type c) := by
  unfold tyOk at h
  simp only [Bool.or_eq_true, beq_iff_eq] at h
  rcases h with (((h | h) | h) | h) | h <;> subst h
  · exact ⟨"int", by decide, rfl, by decide +kernel⟩
  · exact ⟨"bool", by decide, rfl, by decide +kernel⟩
  · exact ⟨"str", by decide, rfl, by decide +kernel⟩
  · exact ⟨"tuple", by decide, rfl, by decide +kernel⟩
  · exact ⟨"list", by decide, rfl, by decide +kernel⟩
theorem TyX_ok {K : PySem.W.Frag} {H : Hp} {F : FS} {v : PV} {x : V} (d : DV K H F v x) (hv : ∀ a, v ≠ .ref a) (hs : ∀ a, v ≠ .scr a) : TyX K H x (.type (tyName v)) ∧ tyName v ∈ ["NoneType", "bool", "int", "str", "tuple", "list"] := by
  cases d with
  | non => exact ⟨.base .non, by decide⟩
  | bl b => exact ⟨.base (.bl b), by simp [tyName]⟩
  | int b => exact ⟨.base (.int b), by simp [tyName]⟩
  | str b => exact ⟨.base (.str b), by simp [tyName]⟩
  | tup h hs =>
    refine ⟨?_, by simp [tyName]⟩
    rcases h with (h | ⟨o, h⟩) | ⟨o, its, n, h, hc, _⟩
    · exact .base (.tup h)
    · exact .fTuple h
    · exact .kTuple h hc
  | lst f h hs => exact ⟨.base (.lst h), by simp [tyName]⟩
  | ref a => exact absurd rfl (hv a)
  | scr h => exact absurd rfl (hs _)
theorem isi_val {ty : Str} {c : String} (hc : c ∈ ["int", "bool", "str", "tuple", "list"]) (e : ty = Str.ofString c) {v : PV} {b : Bool} (h : isiV ty v = some b) :
    (∀ a, v ≠ .ref a) ∧ (∀ a, v ≠ .scr a) ∧ (tyName v == c || (tyName v == "bool" && c == "int")) = b := by
  subst e
  simp only [List.mem_cons, List.not_mem_nil, or_false] at hc
  cases v with
  | ref a => cases h
  | scr a => cases h
  | non =>
    have h' : some false = some b := h
    cases h'
    refine ⟨(fun a z => by cases z), (fun a z => by cases z), ?_⟩
    rcases hc with rfl | rfl | rfl | rfl | rfl <;> decide
  | bl _ =>
    have h' : some _ = some b := h
    cases h'
    refine ⟨(fun a z => by cases z), (fun a z => by cases z), ?_⟩
    rcases hc with rfl | rfl | rfl | rfl | rfl <;> (simp only [tyName]; decide +kernel)
  | int _ =>
    have h' : some _ = some b := h
    cases h'
    refine ⟨(fun a z => by cases z), (fun a z => by cases z), ?_⟩
    rcases hc with rfl | rfl | rfl | rfl | rfl <;> (simp only [tyName]; decide +kernel)
  | str _ =>
    have h' : some _ = some b := h
    cases h'
    refine ⟨(fun a z => by cases z), (fun a z => by cases z), ?_⟩
    rcases hc with rfl | rfl | rfl | rfl | rfl <;> (simp only [tyName]; decide +kernel)
  | tup _ =>
    have h' : some _ = some b := h
    cases h'
    refine ⟨(fun a z => by cases z), (fun a z => by cases z), ?_⟩
    rcases hc with rfl | rfl | rfl | rfl | rfl <;> (simp only [tyName]; decide +kernel)
  | lst _ =>
    have h' : some _ = some b := h
    cases h'
    refine ⟨(fun a z => by cases z), (fun a z => by cases z), ?_⟩
    rcases hc with rfl | rfl | rfl | rfl | rfl <;> (simp only [tyName]; decide +kernel)

/-! ### items, slices -/
theorem atI_map {K : PySem.W.Frag} {H : Hp} {F : FS} {xs : List PV} {ys : List V} {i : Int} {v : PV} (ds : DVs K H F xs ys) (e : atI xs i = some v) : ∃ y, atI ys i = some y ∧ DV K H F v y := by
  unfold atI at e ⊢
  rw [← ds.length]
  cases q : ixN xs.length i with
  | none => rw [q] at e; cases e
  | some j =>
    rw [q] at e
    exact ds.get e
theorem ix_ok : IxR X (rB X.K idxV) := by
  intro value slice pins s σ H x y vv uu Q I rx ry ⟨F, st, v, w, rs, dv, dw, h⟩ hs
  unfold idxV at h
  cases dw with
  | int i =>
    replace h : itemV i v st (LQ X.K F H Q) := h
    unfold itemV at h
    split at h
    · cases dv
      rename_i z
      cases q : atI z.cps.toList i with
      | none => rw [q] at h; exact h.2.elim
      | some c =>
        rw [q] at h
        exact ix_str value slice pins s σ H _ _ _ _ Q I rx ry ⟨z, i, c, rfl, rfl, h.1, q, LQ.now h.2 rs (.str _)⟩ hs
    · rename_i xs
      cases q : atI xs i with
      | none => rw [q] at h; exact h.elim
      | some c =>
        rw [q] at h
        cases dv with
        | tup h1 ds =>
          obtain ⟨y, e, d⟩ := atI_map ds q
          exact ix_tup value slice pins s σ H _ _ _ _ Q I rx ry ⟨_, _, i, y, rfl, rfl, h1, e, LQ.now h rs d⟩ hs
    · rename_i xs
      cases q : atI xs i with
      | none => rw [q] at h; exact h.elim
      | some c =>
        rw [q] at h
        cases dv with
        | lst f1 h1 ds =>
          obtain ⟨y, e, d⟩ := atI_map ds q
          exact ix_list value slice pins s σ H _ _ _ _ Q I rx ry ⟨_, _, i, y, rfl, rfl, .of h1, e, LQ.now h rs d⟩ hs
    · rename_i a
      cases q : lstOf st (.ref a) with
      | none => rw [q] at h; exact h.elim
      | some zs =>
        rw [q] at h
        have h : oP (atI zs i) _ := h
        cases q2 : atI zs i with
        | none => rw [q2] at h; exact h.elim
        | some c =>
          rw [q2] at h
          obtain ⟨b, ys, rfl, h1, ds⟩ := lstOf_ok rs q dv
          obtain ⟨y, e, d⟩ := atI_map ds q2
          exact ix_list value slice pins s σ H _ _ _ _ Q I rx ry ⟨_, _, i, y, rfl, rfl, .of h1, e, LQ.now h rs d⟩ hs
    · exact h.elim
  | _ => exact h.elim
theorem cut_ok {K : PySem.W.Frag} {H : Hp} {F : FS} {xs : List PV} {ys : List V} (ds : DVs K H F xs ys) (lo hi : Option Int) : DVs K H F (cutP xs lo hi) (cutV ys lo hi) := by
  unfold cutP cutV
  rw [ds.length]
  exact (ds.drop _).take _
theorem sl_ok {m : Bool} : SlR X (fun x lo hi H Q => ∃ F st v, RS X.K H F st ∧ DV X.K H F v x ∧ sliceV m v lo hi st (LQ X.K F H Q)) := by
  intro pins s σ H x v' vl vu lo hi sl Q I rx hs pl pu ⟨F, st, v, rs, dv, h⟩
  unfold sliceV at h
  split at h
  · cases dv with
    | tup h1 ds => exact sl_tup pins s σ H _ v' vl vu lo hi sl Q I rx hs pl pu ⟨_, _, rfl, h1, by rw [← ds.length]; exact h.1, newTup_ok h.2 rs (cut_ok ds lo hi)⟩
  · cases dv with
    | lst f1 h1 ds => exact sl_list pins s σ H _ v' vl vu lo hi sl Q I rx hs pl pu ⟨_, _, rfl, .of h1, newList_ok h rs (cut_ok ds lo hi)⟩
  · obtain ⟨xs, e, h⟩ := h
    cases dv
    obtain ⟨_, ys, h1, ds⟩ := rs.lst _ _ e
    exact sl_list pins s σ H _ v' vl vu lo hi sl Q I rx hs pl pu ⟨_, _, rfl, .of h1, newList_ok h rs (cut_ok ds lo hi)⟩
  · exact h.elim

/-! ### methods of lists -/
def MF.id : MF → String
  | .append => "list.append" | .extend => "list.extend" | .pop => "list.pop" | .index => "list.index"
theorem put_ok {K : PySem.W.Frag} {F : FS} {H : Hp} {Q : VK} {st : Store} {a : Addr} {xs : List PV} {ys ws : List V} {z : PV} {y : V} (h : LQ K F H Q z (up st a (some (.lst xs)))) (r : RS K H F st) (nf : ¬ F a) (ha : H a = some (.lst ws)) (ds : DVs K H F xs ys) (d : DV K H F z y) :
    Q y (upd H a (.lst ys)) := by
  have ni : ∀ u, H a = some u → ¬ Imm u := fun u e => by
    rw [ha] at e; cases e; exact fun z => z
  exact h F _ _ (.put nf ni) (r.put nf ni ds) (d.ext (.put nf ni))
theorem meth_ok {f : MF} : MtR X f.id (fun x xs H Q => ∃ F st v vs, RS X.K H F st ∧ DV X.K H F v x ∧ DVs X.K H F vs xs ∧ methV f v vs st (LQ X.K F H Q)) := by
  intro pins s σ H x xs v' us Q I rx r ⟨F, st, v, vs, rs, dv, ds, h⟩
  unfold methV at h
  split at h
  · obtain ⟨zs, e, hz, h⟩ := h
    cases dv
    cases ds with
    | cons d ds =>
      cases ds
      obtain ⟨nf, ys, h1, dz⟩ := rs.lst _ _ e
      exact mt_append pins s σ H _ _ v' us Q I rx r ⟨_, ys, _, rfl, rfl, h1, by rw [← dz.length]; exact hz, put_ok h rs nf h1 (dz.append (.cons d .nil)) .non⟩
  · obtain ⟨zs, ws, e, e', hz, h⟩ := h
    cases dv
    cases ds with
    | cons d ds =>
      cases ds
      obtain ⟨nf, ys, h1, dz⟩ := rs.lst _ _ e
      obtain ⟨b, us', rfl, h2, dw⟩ := lstOf_ok rs e' d
      exact mt_extend pins s σ H _ _ v' us Q I rx r ⟨_, b, ys, us', rfl, rfl, h1, h2, by rw [← dz.length, ← dw.length]; exact hz, put_ok h rs nf h1 (dz.append dw) .non⟩
  · obtain ⟨zs, y, e, e', h⟩ := h
    cases dv
    cases ds
    obtain ⟨nf, ys, h1, dz⟩ := rs.lst _ _ e
    rw [dz.length] at e'
    obtain ⟨y', e2, dy⟩ := dz.get e'
    exact mt_pop pins s σ H _ _ v' us Q I rx r ⟨_, ys, y', rfl, rfl, h1, e2, put_ok h rs nf h1 dz.dropLast dy⟩
  · rename_i w
    obtain ⟨zs, j, z, e, hw, hall, hz, he, hno, h⟩ := h
    cases ds with
    | cons d ds =>
      cases ds
      obtain ⟨b, ys, rfl, h1, dz⟩ := lstOf_ok rs e dv
      obtain ⟨z', e2, dzz⟩ := dz.get hz
      have sc : ∀ {k : Nat} {q : PV}, zs[k]? = some q → isSc q = true := fun hq => List.all_eq_true.mp hall _ (List.mem_of_getElem? hq)
      refine mt_index pins s σ H _ _ v' us Q I rx r ⟨b, ys, _, j, z', rfl, rfl, .of h1, sc_flat hw d, sc_flats hall dz, e2, by rw [sc_eqV (sc hz) hw dzz d]; exact he, fun k q hk hq => ?_, h.now rs (.int _)⟩
      obtain ⟨q', e3, dq⟩ := dz.get' hq
      rw [sc_eqV (sc e3) hw dq d]
      exact hno k q' hk e3
  · exact h.elim
theorem set_ok : PSet X (fun o i v H Q => ∃ F st ov iv vv, RS X.K H F st ∧ DV X.K H F ov o ∧ DV X.K H F iv i ∧ DV X.K H F vv v ∧ setIxV ov iv vv st (fun st' => ∀ F' H', Ext F H F' H' → RS X.K H' F' st' → Q H')) := by
  intro pins s σ H o i v ov iv u Q I ro ri rv ⟨F, st, o', i', v', rs, d1, d2, d3, h⟩
  unfold setIxV at h
  split at h
  · obtain ⟨xs, j, e, e2, h⟩ := h
    cases d1; cases d2
    obtain ⟨nf, ys, h1, dz⟩ := rs.lst _ _ e
    have ni : ∀ u, H _ = some u → ¬ Imm u := fun u e => by
      rw [h1] at e; cases e; exact fun z => z
    exact set_list pins s σ H _ _ _ ov iv u Q I ro ri rv ⟨_, ys, _, j, rfl, rfl, h1, by rw [← dz.length]; exact e2, h F _ (.put nf ni) (rs.put nf ni (dz.set d3 j))⟩
  · exact h.elim
end
end TK

set_option maxRecDepth 100000
set_option maxHeartbeats 2000000
namespace TK
open PySem PySem.Spec PyProof.Rows L2

/-! ### readings by the small language -/
def LE (K : PySem.W.Frag) (mg : Str → Option Value) (F : FS) (H : Hp) (E : XK) : EQ := fun e st' => ∀ F' H' cls d, Ext F H F' H' → RS K H' F' st' → ExRep K mg H' F' e cls d → E cls d H'
abbrev LX (X : Cx) (W : WX) (σ : L2.St) (F : FS) (H : Hp) : EQ := LE X.K X.mg F H (fun cls d H' => W cls d σ H')
theorem LE.ext {K : PySem.W.Frag} {mg : Str → Option Value} {F F' : FS} {H H' : Hp} {E : XK} (x : Ext F H F' H') : ∀ e s, LE K mg F H E e s → LE K mg F' H' E e s := fun e s h F2 H2 cls d x2 r q => h F2 H2 cls d (x.trans x2) r q
def tl (X : Cx) (W : WX) (w : EQ → Sl → Store → PQ → Prop) : TE := fun σ H Q => ∃ F τ st, RS X.K H F st ∧ RSl X.K H F τ σ ∧ w (LX X W σ F H) τ st (LQ X.K F H Q)
def tlA (X : Cx) (W : WX) (w : EQ → Sl → Store → (List PV → Store → Prop) → Prop) : TA := fun σ H Q => ∃ F τ st, RS X.K H F st ∧ RSl X.K H F τ σ ∧
  w (LX X W σ F H) τ st fun vs st' => ∀ F' H' ys, Ext F H F' H' → RS X.K H' F' st' → DVs X.K H' F' vs ys → Q ys H'
def tlT (X : Cx) (W : WX) (w : EQ → Sl → Store → (Bool → Store → Prop) → Prop) : TT := fun σ H Q => ∃ F τ st, RS X.K H F st ∧ RSl X.K H F τ σ ∧
  w (LX X W σ F H) τ st fun b st' => ∀ F' H', Ext F H F' H' → RS X.K H' F' st' → Q b H'
def tlO (X : Cx) (W : WX) (w : EQ → Sl → Store → (Option Int → Store → Prop) → Prop) : TO := fun σ H Q => ∃ F τ st, RS X.K H F st ∧ RSl X.K H F τ σ ∧
  w (LX X W σ F H) τ st fun b st' => ∀ F' H', Ext F H F' H' → RS X.K H' F' st' → Q b H'
/-- a walk over items -/
structure WP (K : PySem.W.Frag) (J : It) (F0 : FS) (H0 : Hp) (xs : List PV) (ok : Store → Prop) : Prop where
  mono : ∀ s t, Sub s t → ok s → ok t
  go : ∀ i F H st, i < xs.length → Ext F0 H0 F H → RS K H F st → ok st → J.go i H
  stop : ∀ F H st, Ext F0 H0 F H → RS K H F st → ok st → J.stop xs.length H
  yld : ∀ i F H st x H', i < xs.length → Ext F0 H0 F H → RS K H F st → ok st → J.yld i H x H' → Ext F H F H' ∧ RS K H' F st ∧ ∃ v, xs[i]? = some v ∧ DV K H' F v x
def tlI (X : Cx) (W : WX) (r : Bool) (w : EQ → Sl → Store → (List PV → (Store → Prop) → Store → Prop) → Prop) : TI := fun σ H R => ∃ F τ st, RS X.K H F st ∧ RSl X.K H F τ σ ∧
  w (LX X W σ F H) τ st fun xs ok st' => ∀ F' H' J, Ext F H F' H' → RS X.K H' F' st' → WP X.K J F' H' xs ok → (r = false → xs.length ≤ sizeLine) → R J H'

theorem impE {X : Cx} {e : Expr} {t t' : TE} (h : PE X e t) (i : ∀ σ H Q, t' σ H Q → t σ H Q) : PE X e t' := ⟨fun pins s σ H Q I q => h.run pins s σ H Q I (i σ H Q q)⟩
theorem impT {X : Cx} {e : Expr} {t t' : TT} (h : PT X e t) (i : ∀ σ H Q, t' σ H Q → t σ H Q) : PT X e t' := ⟨fun pins s σ H Q I q => h.run pins s σ H Q I (i σ H Q q)⟩
theorem impW {X : Cx} {e : Expr} {t t' : TT} (h : PW X e t) (i : ∀ σ H Q, t' σ H Q → t σ H Q) : PW X e t' := ⟨fun wh pins s σ H Q I q => h.run wh pins s σ H Q I (i σ H Q q)⟩
theorem impA {X : Cx} {e : List Expr} {t t' : TA} (h : PA X e t) (i : ∀ σ H Q, t' σ H Q → t σ H Q) : PA X e t' := ⟨fun pos pins s σ H Q I q => h.run pos pins s σ H Q I (i σ H Q q)⟩
theorem impO {X : Cx} {e : Option Expr} {t t' : TO} (h : PO X e t) (i : ∀ σ H Q, t' σ H Q → t σ H Q) : PO X e t' := ⟨fun pins s σ H Q I q => h.run pins s σ H Q I (i σ H Q q)⟩
theorem impI {X : Cx} {g e : Expr} {t t' : TI} (h : PI X g e t) (i : ∀ σ H Q, t' σ H Q → t σ H Q) : PI X g e t' := ⟨fun pins s σ H Q I q => h.run pins s σ H Q I (i σ H Q q)⟩
theorem impTs {X : Cx} {e : List Expr} {t t' : TT} (h : PTs X e t) (i : ∀ σ H Q, t' σ H Q → t σ H Q) : PTs X e t' := ⟨fun pins s σ H Q I q => h.run pins s σ H Q I (i σ H Q q)⟩
theorem impS {X : Cx} {e : Stmt} {t t' : TS} (h : PS X e t) (i : ∀ D σ H, t' D σ H → t D σ H) : PS X e t' := ⟨fun pins s σ H D I q => h.run pins s σ H D I (i D σ H q)⟩
theorem impSs {X : Cx} {e : List Stmt} {t t' : TS} (h : PSs X e t) (i : ∀ D σ H, t' D σ H → t D σ H) : PSs X e t' := ⟨fun pins s σ H D I q => h.run pins s σ H D I (i D σ H q)⟩
theorem impG {X : Cx} {e : Expr} {t t' : L2.TG} (h : PG X e t) (i : ∀ v σ H Q, t' v σ H Q → t v σ H Q) : PG X e t' := ⟨fun pins s σ H v u Q I r q => h.run pins s σ H v u Q I r (i v σ H Q q)⟩

section
variable {X : Cx} {W : WX} {σ : L2.St} {F0 F : FS} {H0 H : Hp} {τ : Sl} {st : Store}
theorem tl_go {wa : EQ → Sl → Store → PQ → Prop} {K0 : PQ} {Q1 : VK} (m : ∀ {X X' : EQ} {τ st} {Q Q' : PQ}, (∀ e s, X e s → X' e s) → (∀ v s, Q v s → Q' v s) → wa X τ st Q → wa X' τ st Q')
    (e0 : Ext F0 H0 F H) (rs : RS X.K H F st) (sl : RSl X.K H F τ σ) (h : wa (LX X W σ F0 H0) τ st K0)
    (n : ∀ F1 H1 x v st1, Ext F H F1 H1 → RS X.K H1 F1 st1 → RSl X.K H1 F1 τ σ → DV X.K H1 F1 v x → K0 v st1 → Q1 x H1) : tl X W wa σ H Q1 :=
  ⟨F, τ, st, rs, sl, m (LE.ext e0) (fun v st1 hk F1 H1 x e1 rs1 d => n F1 H1 x v st1 e1 rs1 (sl.ext e1) d hk) h⟩
theorem tlA_go {wa : EQ → Sl → Store → (List PV → Store → Prop) → Prop} {K0 : List PV → Store → Prop} {Q1 : List V → Hp → Prop} (m : ∀ {X X' : EQ} {τ st} {Q Q' : List PV → Store → Prop}, (∀ e s, X e s → X' e s) → (∀ v s, Q v s → Q' v s) → wa X τ st Q → wa X' τ st Q')
    (e0 : Ext F0 H0 F H) (rs : RS X.K H F st) (sl : RSl X.K H F τ σ) (h : wa (LX X W σ F0 H0) τ st K0)
    (n : ∀ F1 H1 x v st1, Ext F H F1 H1 → RS X.K H1 F1 st1 → RSl X.K H1 F1 τ σ → DVs X.K H1 F1 v x → K0 v st1 → Q1 x H1) : tlA X W wa σ H Q1 :=
  ⟨F, τ, st, rs, sl, m (LE.ext e0) (fun v st1 hk F1 H1 x e1 rs1 d => n F1 H1 x v st1 e1 rs1 (sl.ext e1) d hk) h⟩
theorem tlT_go {wa : EQ → Sl → Store → (Bool → Store → Prop) → Prop} {K0 : Bool → Store → Prop} {Q1 : Bool → Hp → Prop} (m : ∀ {X X' : EQ} {τ st} {Q Q' : Bool → Store → Prop}, (∀ e s, X e s → X' e s) → (∀ v s, Q v s → Q' v s) → wa X τ st Q → wa X' τ st Q')
    (e0 : Ext F0 H0 F H) (rs : RS X.K H F st) (sl : RSl X.K H F τ σ) (h : wa (LX X W σ F0 H0) τ st K0)
    (n : ∀ F1 H1 v st1, Ext F H F1 H1 → RS X.K H1 F1 st1 → RSl X.K H1 F1 τ σ → K0 v st1 → Q1 v H1) : tlT X W wa σ H Q1 :=
  ⟨F, τ, st, rs, sl, m (LE.ext e0) (fun v st1 hk F1 H1 e1 rs1 => n F1 H1 v st1 e1 rs1 (sl.ext e1) hk) h⟩
theorem tlO_go {wa : EQ → Sl → Store → (Option Int → Store → Prop) → Prop} {K0 : Option Int → Store → Prop} {Q1 : Option Int → Hp → Prop} (m : ∀ {X X' : EQ} {τ st} {Q Q' : Option Int → Store → Prop}, (∀ e s, X e s → X' e s) → (∀ v s, Q v s → Q' v s) → wa X τ st Q → wa X' τ st Q')
    (e0 : Ext F0 H0 F H) (rs : RS X.K H F st) (sl : RSl X.K H F τ σ) (h : wa (LX X W σ F0 H0) τ st K0)
    (n : ∀ F1 H1 v st1, Ext F H F1 H1 → RS X.K H1 F1 st1 → RSl X.K H1 F1 τ σ → K0 v st1 → Q1 v H1) : tlO X W wa σ H Q1 :=
  ⟨F, τ, st, rs, sl, m (LE.ext e0) (fun v st1 hk F1 H1 e1 rs1 => n F1 H1 v st1 e1 rs1 (sl.ext e1) hk) h⟩
theorem tlI_go {r : Bool} {wa : EQ → Sl → Store → (List PV → (Store → Prop) → Store → Prop) → Prop} {K0 : List PV → (Store → Prop) → Store → Prop} {Q1 : It → Hp → Prop} (m : ∀ {X X' : EQ} {τ st} {Q Q' : List PV → (Store → Prop) → Store → Prop}, (∀ e s, X e s → X' e s) → (∀ v o s, Q v o s → Q' v o s) → wa X τ st Q → wa X' τ st Q')
    (e0 : Ext F0 H0 F H) (rs : RS X.K H F st) (sl : RSl X.K H F τ σ) (h : wa (LX X W σ F0 H0) τ st K0)
    (n : ∀ F1 H1 J xs ok st1, Ext F H F1 H1 → RS X.K H1 F1 st1 → RSl X.K H1 F1 τ σ → WP X.K J F1 H1 xs ok → (r = false → xs.length ≤ sizeLine) → K0 xs ok st1 → Q1 J H1) : tlI X W r wa σ H Q1 :=
  ⟨F, τ, st, rs, sl, m (LE.ext e0) (fun xs ok st1 hk F1 H1 J e1 rs1 wp hz => n F1 H1 J xs ok st1 e1 rs1 (sl.ext e1) wp hz hk) h⟩
end

/-! ### a def, called -/
/-- a def's promise, laid into the layer's heap -/
def liftSp (K : PySem.W.Frag) (mg : Str → Option Value) (n : Nat) (sp : PSpec) : Sp := fun vs H Q E => ∃ F st pvs, RS K H F st ∧ DVs K H F pvs vs ∧ vs.length = n ∧ callS sp pvs st (LE K mg F H E) (LQ K F H Q)
structure FnG (P : Program) (w : World) (K : PySem.W.Frag) (mg : Str → Option Value) (base : Heap) (k : Nat) (f : Addr) (fd : FuncData) (ps : List Str) (sp : Sp) : Prop where
  len : ∀ vs H Q E, sp vs H Q E → vs.length = ps.length
  run : ∀ (A : Around) (outer : List Env) (s : Shared) (H : Hp) (args : Args) (us : List Value) (vs : List V) (Q : VK) (E : XK), A.guards = some [] → Room k A →
    Env0 P w K mg base A outer s H → BindsTo s fd args (ps.zip us) → Vals vs us → sp vs H Q E →
    codeAny (model P w) A (.call (.ref f) args) (CR (L2.CX P w) outer P w H s Q E) s
theorem FnG.mono {P : Program} {w : World} {K : PySem.W.Frag} {mg : Str → Option Value} {base : Heap} {j k : Nat} {f : Addr} {fd : FuncData} {ps : List Str} {sp : Sp} (F : FnG P w K mg base j f fd ps sp) (h : j ≤ k) : FnG P w K mg base k f fd ps sp :=
  ⟨F.len, fun A outer s H args us vs Q E hg hr => F.run A outer s H args us vs Q E hg (hr.mono h)⟩
/-- the program around a body: what runs, what the module's names hold -/
structure Wd where
  P : Program
  w : World
  K : PySem.W.Frag
  mg : Str → Option Value
  base : Heap
def HasFn (Γ : Wd) (k : Nat) (f : Str) (sp : PSpec) (n : Nat) : Prop := ∃ (fa : Addr) (fd : FuncData) (ps : List Str), Γ.mg f = some (.ref fa) ∧ PySem.W.keepIn Γ.K (.ref fa) = true ∧ Binds Γ.K fd ps [] ∧ ps.length = n ∧
  FnG Γ.P Γ.w Γ.K Γ.mg Γ.base k fa fd ps (liftSp Γ.K Γ.mg n sp)
theorem HasFn.mono {Γ : Wd} {j k : Nat} {f : Str} {sp : PSpec} {n : Nat} (h : HasFn Γ j f sp n) (hk : j ≤ k) : HasFn Γ k f sp n := by
  obtain ⟨fa, fd, ps, a, b, c, d, e⟩ := h
  exact ⟨fa, fd, ps, a, b, c, d, e.mono hk⟩
def HasGl (Γ : Wd) (x : Str) (v : PV) : Prop := ∃ (u : Value) (y : V), Γ.mg x = some u ∧ L2.RelV y u ∧ ∀ H F, DV Γ.K H F v y
abbrev wdX (X : Cx) : Wd := ⟨X.prog, X.w, X.K, X.mg, X.base⟩
section
variable {X : Cx} {pins : List (Addr × Obj)} {σ : L2.St} {H : Hp} {s : Shared} {W : WX}
theorem run_g {k : Nat} {f : Addr} {fd : FuncData} {ps : List Str} {sp : Sp} {Q : VK} {E : XK} {us : List Value} {vs : List V} (F : FnG X.prog X.w X.K X.mg X.base k f fd ps sp) (hg : X.A.guards = some []) (hr : Room k X.A) (hb : Binds X.K fd ps [])
    (hx : PassesAt (L2.CX X.prog X.w) X σ E) (I : L2.Inv X pins σ H s) (r : Vals vs us) (h : sp vs H Q E) : wpAny (model X.prog X.w) X.A (call (.ref f) us) (EP X pins σ Q) X.xe s := by
  have hl : us.length = ps.length := by
    rw [← r.length]
    exact F.len _ _ _ _ h
  have hz : (us ++ ([] : List Value)).length = ps.length := by
    rw [List.append_nil]; exact hl
  have b := hb s us I.kIn hz
  rw [List.append_nil] at b
  refine wpAny_call (codeAny_mono (F.run X.A X.stack s H ⟨us, []⟩ us vs Q E hg hr I.env0 b r h) fun q s' hq => ?_)
  cases q with
  | error e => exact hx pins H s e s' I hq
  | ok fl =>
    cases fl with
    | ret u => exact I.after hq
    | _ => exact hq.elim
end

/-! ### where a term is read -/
def bltNames : List Str := ["len", "int", "abs", "tuple", "list", "all", "any", "sum", "min", "max", "repr", "isinstance", "range", "enumerate", "zip", "bool", "str"]
structure CxOk (X : Cx) (C : SC) (k : Nat) (W : WX) : Prop where
  hN : X.N = C.N
  nd : C.N.Nodup
  hsc : X.env.scope = C.sc
  calm : X.calm = true
  kindF : C.sc.kind = .function
  room : Room k X.A
  gds : X.A.guards = some []
  tk : L2.Takes X W
  po : PassesOwn (model X.prog X.w) X.A X.env X.xe
  tg : ∀ x, locB C.tsc x = true → Loc C.sc x ∧ (X.fn x = true ∨ C.sc.names.lookup x = some .local)
  blt : ∀ x ∈ bltNames, X.mg x = none
section
variable {X : Cx} {C : SC} {k : Nat} {W : WX}
theorem CxOk.vis (ok : CxOk X C k W) {x : Str} (h : visB C.sc x = true) : Vis X.env.scope x := by
  rw [ok.hsc]
  unfold visB at h
  split at h <;> first | exact .inl ‹_› | exact .inr (.inl ‹_›) | exact .inr (.inr ‹_›) | cases h
theorem CxOk.gl (ok : CxOk X C k W) {x : Str} (h : glB C.sc x = true) : Gl X x ∧ (x == ("__debug__" : Str)) = false := by
  unfold glB at h
  split at h
  · rename_i e
    refine ⟨?_, by simpa using h⟩
    show X.env.scope.names.lookup x = _
    rw [ok.hsc]; exact e
  · cases h
theorem CxOk.bn (ok : CxOk X C k W) (f : BF) : X.mg f.name = none := by
  refine ok.blt _ ?_
  cases f <;> decide +kernel
theorem boot_bf (f : BF) : bootBuiltins f.name = some f.val ∧ f.name ≠ "__name__" := by
  cases f <;> exact ⟨by decide +kernel, by decide +kernel⟩
theorem nm_ok (ok : CxOk X C k W) {i : Nat} {x : Str} {pos : Pos} (h : nmB C i x = true) : PE X (.Name x pos) (tVar i) := by
  unfold nmB at h
  simp only [Bool.and_eq_true, decide_eq_true_eq, Bool.not_eq_true'] at h
  obtain ⟨⟨⟨h1, h2⟩, h3⟩, h4⟩ := h
  exact pe_var (by rw [ok.hN]; exact h1) (ok.vis h2) h3 h4
theorem star_cons {e : Expr} {es : List Expr} {env : Env} (h : notStar e = true) : starEach (e :: es) env = (false, eval e env) :: starEach es env := by
  cases e <;> first | rfl | cases h
theorem chkEs_star : ∀ {as : Es} {C : SC} {es : List Expr}, chkEs as C es = true → ∀ env : Env, (starEach es env).all (fun x => !x.1) = true
  | .nil, C, es, h, env => by
    cases es with
    | nil => rfl
    | cons e r => cases h
  | .cons a as, C, es, h, env => by
    cases es with
    | nil => cases h
    | cons e r =>
      have h' : (notStar e && chkE a C e && chkEs as C r) = true := h
      simp only [Bool.and_eq_true] at h'
      rw [star_cons h'.1.1, List.all_cons, chkEs_star h'.2 env]
      rfl
theorem backTo_any {l : List (Bool × Sem Value)} {pos : Pos} (h : l.all (fun x => !x.1) = true) : (backTo pos l).any (·.1) = false := by
  unfold backTo
  rw [List.any_map, List.any_eq_false]
  intro x hx
  have := List.all_eq_true.mp h x hx
  simpa using this
theorem backTo_all {l : List (Bool × Sem Value)} {pos : Pos} (h : l.all (fun x => !x.1) = true) : (backTo pos l).all (fun x => !x.1) = true := by
  unfold backTo
  rw [List.all_map, List.all_eq_true]
  intro x hx
  exact List.all_eq_true.mp h x hx
end
theorem chkEs_len : ∀ {as : Es} {C : SC} {es : List Expr}, chkEs as C es = true → es.length = as.len
  | .nil, C, es, h => by
    cases es with
    | nil => rfl
    | cons e r => cases h
  | .cons a as, C, es, h => by
    cases es with
    | nil => cases h
    | cons e r =>
      have h' : (notStar e && chkE a C e && chkEs as C r) = true := h
      simp only [Bool.and_eq_true] at h'
      exact congrArg (· + 1) (chkEs_len h'.2)
theorem wpEs_len : ∀ (es : Es) {X : EQ} {τ : Sl} {st : Store} {Q : List PV → Store → Prop}, wpEs es X τ st Q → wpEs es X τ st fun vs s => vs.length = es.len ∧ Q vs s
  | .nil, _, _, _, _, h => ⟨rfl, h⟩
  | .cons e es, X, τ, st, Q, h => by
    unfold wpEs at h ⊢
    exact wpE_mono e (fun _ _ h => h) (fun v s h => wpEs_mono es (fun _ _ h => h) (fun vs s h => ⟨congrArg (· + 1) h.1, h.2⟩) (wpEs_len es h)) h
end TK

set_option maxRecDepth 100000
set_option maxHeartbeats 4000000
namespace TK
open PySem PySem.Spec PyProof.Rows L2

/-! ### what is walked -/
section
variable {X : Cx} {pins : List (Addr × Obj)} {σ : L2.St} {H1 : Hp} {s1 : Shared} {a : Addr} {ys : List V} {tg : Expr} {R : It → Hp → Prop}
theorem iter_l (J : L2.Inv X pins σ H1 s1) (hq : SqL X.K H1 a ys) (q : R (Itl X.K a) H1) : wpAny (model X.prog X.w) X.A (pyIter (.ref a)) (PIE X pins σ tg R) X.xe s1 := by
  obtain ⟨its, rv, p, hz⟩ := J.list hq
  refine wpAny_pyIter_list p.isList ?_
  refine ⟨s1.heap.objs.size, [s1.heap.objs.size], _, _, H1, rfl, ?_, turn_list a _, ⟨_, Heap.get?_push_size _ rfl, rfl, rfl⟩, fun b hb => ?_, q⟩
  · exact J.kept (t' := s1.toks) fun c o e => Heap.get?_push_of_some _ e
  · rw [List.mem_singleton.mp hb]
    exact J.fpOk (Nat.le_refl _) (J.hok.fresh (Nat.le_refl _))
theorem iter_t (J : L2.Inv X pins σ H1 s1) (hq : SqT X.K H1 a ys) (q : R (Itt X.K a) H1) : wpAny (model X.prog X.w) X.A (pyIter (.ref a)) (PIE X pins σ tg R) X.xe s1 := by
  obtain ⟨its, rv, p, hz⟩ := J.tuple hq
  refine wpAny_pyIter_tuple (show s1.heap.IsTuple a its.toArray from p) ?_
  refine ⟨s1.heap.objs.size, [s1.heap.objs.size], _, _, H1, rfl, ?_, turn_tuple a _, ⟨_, Heap.get?_push_size _ rfl, rfl, rfl⟩, fun b hb => ?_, q⟩
  · exact J.kept (t' := s1.toks) fun c o e => Heap.get?_push_of_some _ e
  · rw [List.mem_singleton.mp hb]
    exact J.fpOk (Nat.le_refl _) (J.hok.fresh (Nat.le_refl _))
end
section
variable {K : PySem.W.Frag} {F0 : FS} {H0 : Hp} {a b : Addr} {xs zs : List PV} {ys ws : List V}
theorem wp_list (f : F0 a) (h : H0 a = some (.lst ys)) (ds : DVs K H0 F0 xs ys) : WP K (Itl K a) F0 H0 xs (fun _ => True) := by
  have at_ : ∀ {F H}, Ext F0 H0 F H → SqL K H a ys := fun e => .of (e.kp _ _ h (.inl f))
  refine ⟨fun _ _ _ h => h, fun i F H st hi e r _ => ?_, fun F H st e r _ => ⟨ys, at_ e, by rw [ds.length]; exact Nat.le_refl _⟩, fun i F H st x H' hi e r _ y => ?_⟩
  · rw [ds.length] at hi
    exact ⟨ys, ys[i], at_ e, by simp [hi]⟩
  · obtain ⟨rfl, y⟩ := y
    obtain ⟨v, hv, dv⟩ := ds.get' (y ys (at_ e))
    exact ⟨.refl, r, v, hv, dv.ext e⟩
theorem wp_ref (xs : List PV) : WP K (Itl K a) F0 H0 xs (fun s => s a = some (.lst xs)) := by
  refine ⟨fun _ _ hs h => hs _ _ h, fun i F H st hi e r o => ?_, fun F H st e r o => ?_, fun i F H st x H' hi e r o y => ?_⟩
  · obtain ⟨_, ys, h, ds⟩ := r.lst a xs o
    rw [ds.length] at hi
    exact ⟨ys, ys[i], .of h, by simp [hi]⟩
  · obtain ⟨_, ys, h, ds⟩ := r.lst a xs o
    exact ⟨ys, .of h, by rw [ds.length]; exact Nat.le_refl _⟩
  · obtain ⟨rfl, y⟩ := y
    obtain ⟨_, ys, h, ds⟩ := r.lst a xs o
    obtain ⟨v, hv, dv⟩ := ds.get' (y ys (.of h))
    exact ⟨.refl, r, v, hv, dv⟩
theorem wp_tup (h : SqT K H0 a ys) (ds : DVs K H0 F0 xs ys) : WP K (Itt K a) F0 H0 xs (fun _ => True) := by
  refine ⟨fun _ _ _ h => h, fun i F H st hi e r _ => ?_, fun F H st e r _ => ⟨ys, sqText e h, by rw [ds.length]; exact Nat.le_refl _⟩, fun i F H st x H' hi e r _ y => ?_⟩
  · rw [ds.length] at hi
    exact ⟨ys, ys[i], sqText e h, by simp [hi]⟩
  · obtain ⟨rfl, y⟩ := y
    obtain ⟨v, hv, dv⟩ := ds.get' (y ys (sqText e h))
    exact ⟨.refl, r, v, hv, dv.ext e⟩
theorem rngL_len (lo : Int) (n : Nat) : (rngL lo n).length = n := by unfold rngL; rw [List.length_map, List.length_range]
theorem rngL_get {lo : Int} {n i : Nat} (h : i < n) : (rngL lo n)[i]? = some (.int (lo + i)) := by
  unfold rngL
  rw [List.getElem?_map, List.getElem?_range h]; rfl
theorem wp_rng (lo : Int) (n : Nat) : WP K (Itr lo n) F0 H0 (rngL lo n) (fun _ => True) := by
  refine ⟨fun _ _ _ h => h, fun i F H st hi e r _ => ?_, fun F H st e r _ => ?_, fun i F H st x H' hi e r _ y => ?_⟩
  · rw [rngL_len] at hi; exact hi
  · rw [rngL_len]; exact Nat.le_refl n
  · obtain ⟨rfl, rfl⟩ := y
    rw [rngL_len] at hi
    exact ⟨.refl, r, _, rngL_get hi, .int _⟩
theorem enumL_len : ∀ (k : Nat) (xs : List PV), (enumL k xs).length = xs.length
  | _, [] => rfl
  | k, _ :: r => congrArg (· + 1) (enumL_len (k + 1) r)
theorem enumL_get : ∀ {k i : Nat} {xs : List PV} {v : PV}, xs[i]? = some v → (enumL k xs)[i]? = some (.tup [.int ((k + i : Nat) : Int), v])
  | _, _, [], _, h => by simp at h
  | k, 0, x :: r, v, h => by simp at h; subst h; rfl
  | k, i + 1, x :: r, v, h => by
    have := enumL_get (k := k + 1) (i := i) (xs := r) (v := v) (by simpa using h)
    show (enumL (k + 1) r)[i]? = _
    rw [this]
    have e : k + 1 + i = k + (i + 1) := by omega
    rw [e]
theorem pair_ok {F : FS} {H : Hp} {st : Store} {T : Addr} {v w : PV} {x y : V} (r : RS K H F st) (hT : H T = none) (d : DV K H F v x) (d' : DV K H F w y) :
    Ext F H F (upd H T (.tup [x, y])) ∧ RS K (upd H T (.tup [x, y])) F st ∧ DV K (upd H T (.tup [x, y])) F (.tup [v, w]) (.ref T) :=
  ⟨.new hT, r.new hT, .tup (.of upd_same) (.cons (d.ext (.new hT)) (.cons (d'.ext (.new hT)) .nil))⟩
theorem wp_enumL (f : F0 a) (h : H0 a = some (.lst ys)) (ds : DVs K H0 F0 xs ys) : WP K (Ite K a) F0 H0 (enumL 0 xs) (fun _ => True) := by
  have at_ : ∀ {F H}, Ext F0 H0 F H → SqL K H a ys := fun e => .of (e.kp _ _ h (.inl f))
  refine ⟨fun _ _ _ h => h, fun i F H st hi e r _ => ?_, fun F H st e r _ => ⟨ys, at_ e, by rw [enumL_len, ds.length]; exact Nat.le_refl _⟩, fun i F H st x H' hi e r _ y => ?_⟩
  · rw [enumL_len, ds.length] at hi
    exact ⟨ys, ys[i], at_ e, by simp [hi]⟩
  · obtain ⟨T, z, rfl, hT, rfl, y⟩ := y
    obtain ⟨v, hv, dv⟩ := ds.get' (y ys (at_ e))
    obtain ⟨p1, p2, p3⟩ := pair_ok r hT (.int (i : Nat)) (dv.ext e)
    refine ⟨p1, p2, _, enumL_get hv, ?_⟩
    rw [Nat.zero_add]; exact p3
theorem wp_enumR (xs : List PV) : WP K (Ite K a) F0 H0 (enumL 0 xs) (fun s => s a = some (.lst xs)) := by
  refine ⟨fun _ _ hs h => hs _ _ h, fun i F H st hi e r o => ?_, fun F H st e r o => ?_, fun i F H st x H' hi e r o y => ?_⟩
  · obtain ⟨_, ys, h, ds⟩ := r.lst a xs o
    rw [enumL_len, ds.length] at hi
    exact ⟨ys, ys[i], .of h, by simp [hi]⟩
  · obtain ⟨_, ys, h, ds⟩ := r.lst a xs o
    exact ⟨ys, .of h, by rw [enumL_len, ds.length]; exact Nat.le_refl _⟩
  · obtain ⟨T, z, rfl, hT, rfl, y⟩ := y
    obtain ⟨_, ys, h, ds⟩ := r.lst a xs o
    obtain ⟨v, hv, dv⟩ := ds.get' (y ys (.of h))
    obtain ⟨p1, p2, p3⟩ := pair_ok r hT (.int (i : Nat)) dv
    refine ⟨p1, p2, _, enumL_get hv, ?_⟩
    rw [Nat.zero_add]; exact p3
theorem zipL_len : ∀ (xs zs : List PV), (zipL xs zs).length = min xs.length zs.length
  | [], _ => by simp [zipL]
  | _ :: _, [] => by simp [zipL]
  | x :: r, y :: s => by show (zipL r s).length + 1 = _; rw [zipL_len r s, List.length_cons, List.length_cons]; omega
theorem zipL_get : ∀ {i : Nat} {xs zs : List PV} {v w : PV}, xs[i]? = some v → zs[i]? = some w → (zipL xs zs)[i]? = some (.tup [v, w])
  | _, [], _, _, _, h, _ => by simp at h
  | _, _ :: _, [], _, _, _, h => by simp at h
  | 0, x :: r, y :: s, v, w, h, h' => by simp at h h'; subst h h'; rfl
  | i + 1, x :: r, y :: s, v, w, h, h' => zipL_get (i := i) (xs := r) (zs := s) (by simpa using h) (by simpa using h')
theorem wp_zipL (f : F0 a) (h : H0 a = some (.lst ys)) (ds : DVs K H0 F0 xs ys) (f' : F0 b) (h' : H0 b = some (.lst ws)) (ds' : DVs K H0 F0 zs ws) : WP K (Itz K a b) F0 H0 (zipL xs zs) (fun _ => True) := by
  have at_ : ∀ {F H}, Ext F0 H0 F H → SqL K H a ys ∧ SqL K H b ws := fun e => ⟨.of (e.kp _ _ h (.inl f)), .of (e.kp _ _ h' (.inl f'))⟩
  refine ⟨fun _ _ _ h => h, fun i F H st hi e r _ => ?_, fun F H st e r _ => ⟨ys, ws, (at_ e).1, (at_ e).2, by rw [zipL_len, ds.length, ds'.length]; omega⟩, fun i F H st x H' hi e r _ y => ?_⟩
  · rw [zipL_len, ds.length, ds'.length] at hi
    have h1 : i < ys.length := by omega
    have h2 : i < ws.length := by omega
    exact ⟨ys, ws, ys[i], ws[i], (at_ e).1, (at_ e).2, by simp [h1], by simp [h2]⟩
  · obtain ⟨T, z, z', rfl, hT, rfl, y, y'⟩ := y
    obtain ⟨v, hv, dv⟩ := ds.get' (y ys (at_ e).1)
    obtain ⟨v', hv', dv'⟩ := ds'.get' (y' ws (at_ e).2)
    obtain ⟨p1, p2, p3⟩ := pair_ok r hT (dv.ext e) (dv'.ext e)
    exact ⟨p1, p2, _, zipL_get hv hv', p3⟩
theorem wp_zipT (h : SqT K H0 a ys) (ds : DVs K H0 F0 xs ys) (h' : SqT K H0 b ws) (ds' : DVs K H0 F0 zs ws) : WP K (RZ.ItzT K a b) F0 H0 (zipL xs zs) (fun _ => True) := by
  have at_ : ∀ {F H}, Ext F0 H0 F H → SqT K H a ys ∧ SqT K H b ws := fun e => ⟨sqText e h, sqText e h'⟩
  refine ⟨fun _ _ _ h => h, fun i F H st hi e r _ => ?_, fun F H st e r _ => ⟨ys, ws, (at_ e).1, (at_ e).2, by rw [zipL_len, ds.length, ds'.length]; omega⟩, fun i F H st x H' hi e r _ y => ?_⟩
  · rw [zipL_len, ds.length, ds'.length] at hi
    have h1 : i < ys.length := by omega
    have h2 : i < ws.length := by omega
    exact ⟨ys, ws, ys[i], ws[i], (at_ e).1, (at_ e).2, by simp [h1], by simp [h2]⟩
  · obtain ⟨T, z, z', rfl, hT, rfl, y, y'⟩ := y
    obtain ⟨v, hv, dv⟩ := ds.get' (y ys (at_ e).1)
    obtain ⟨v', hv', dv'⟩ := ds'.get' (y' ws (at_ e).2)
    obtain ⟨p1, p2, p3⟩ := pair_ok r hT (dv.ext e) (dv'.ext e)
    exact ⟨p1, p2, _, zipL_get hv hv', p3⟩
end

/-! ### targets -/
section
variable {X : Cx} {C : SC} {k : Nat} {W : WX}
/-- a target's reading -/
def tlG (K : PySem.W.Frag) (tg : TG) : L2.TG := fun v σ H Q => ∃ F τ τ' pv, RSl K H F τ σ ∧ DV K H F pv v ∧ tg.asg pv τ = some τ' ∧
  ∀ σ' : L2.St, RSl K H F τ' σ' → (∀ j, j ∉ tg.slots → σ'[j]? = σ[j]?) → Q σ' H
def tlGs (K : PySem.W.Frag) (tg : TGs) : L2.TGs := fun vs σ H Q => ∃ F τ τ' pvs, RSl K H F τ σ ∧ DVs K H F pvs vs ∧ tg.asg pvs τ = some τ' ∧
  ∀ σ' : L2.St, RSl K H F τ' σ' → (∀ j, j ∉ tg.slots → σ'[j]? = σ[j]?) → Q σ' H
theorem chkGs_star : ∀ {ts : TGs} {es : List Expr}, chkGs C ts es = true → ∀ env : Env, (assignEach es env).findIdx? (·.1) = none
  | .nil, es, h, env => by
    cases es with
    | nil => rfl
    | cons e r => cases h
  | .cons t ts, es, h, env => by
    cases es with
    | nil => cases h
    | cons e r =>
      have h' : (notStar e && chkG C t e && chkGs C ts r) = true := h
      simp only [Bool.and_eq_true] at h'
      have e1 : assignEach (e :: r) env = (false, assign e env) :: assignEach r env := by
        have := h'.1.1
        cases e <;> first | rfl | cases this
      rw [e1, List.findIdx?_cons, chkGs_star h'.2 env]
      rfl
theorem chkGs_len : ∀ {ts : TGs} {es : List Expr}, chkGs C ts es = true → ∀ (env : Env) {pvs : List PV} {τ τ' : Sl}, ts.asg pvs τ = some τ' → pvs.length = (assignEach es env).length
  | .nil, es, h, env, pvs, τ, τ', q => by
    cases es with
    | nil =>
      cases pvs with
      | nil => rfl
      | cons _ _ => cases q
    | cons e r => cases h
  | .cons t ts, es, h, env, pvs, τ, τ', q => by
    cases es with
    | nil => cases h
    | cons e r =>
      have h' : (notStar e && chkG C t e && chkGs C ts r) = true := h
      simp only [Bool.and_eq_true] at h'
      have e1 : assignEach (e :: r) env = (false, assign e env) :: assignEach r env := by
        have := h'.1.1
        cases e <;> first | rfl | cases this
      rw [e1]
      cases pvs with
      | nil => cases q
      | cons v vs =>
        have q' : (t.asg v τ).bind (ts.asg vs) = some τ' := q
        cases q1 : t.asg v τ with
        | none => rw [q1] at q'; cases q'
        | some τ1 =>
          rw [q1] at q'
          exact congrArg (· + 1) (chkGs_len h'.2 env (show ts.asg vs τ1 = some τ' from q'))
mutual
theorem sG : ∀ (tg : TG) {g : Expr}, CxOk X C k W → chkG C tg g = true → PG X g (tlG X.K tg)
  | .name i, g, ok, h => by
    unfold chkG at h
    split at h
    · simp only [Bool.and_eq_true, decide_eq_true_eq] at h
      obtain ⟨l1, l2⟩ := ok.tg _ h.2
      refine impG (pg_name (i := i) (by rw [ok.hN]; exact ok.nd) (by rw [ok.hN]; exact h.1) (by rw [ok.hsc]; exact l1) (by rw [ok.hsc]; exact l2)) fun v σ H Q q => ?_
      obtain ⟨F, τ, τ', pv, sl, d, e, q⟩ := q
      cases (Option.some.inj e)
      exact q _ (sl.set d i) fun j hj => List.getElem?_set_ne (fun z => hj (List.mem_singleton.mpr z.symm))
    · cases h
  | .tup ts, g, ok, h => by
    unfold chkG at h
    split at h
    · refine impG (pg_tup ok.calm (sGs ts ok h) rfl (chkGs_star h _)) fun v σ H Q q => ?_
      obtain ⟨F, τ, τ', pv, sl, d, e, q⟩ := q
      cases d with
      | tup h1 ds =>
        have e' : ts.asg _ τ = some τ' := e
        exact ⟨_, _, rfl, h1, by rw [← ds.length]; exact chkGs_len h _ e', F, τ, τ', _, sl, ds, e', q⟩
      | _ => cases e
    · cases h
theorem sGs : ∀ (tg : TGs) {gs : List Expr}, CxOk X C k W → chkGs C tg gs = true → PGs X gs (tlGs X.K tg)
  | .nil, gs, ok, h => by
    cases gs with
    | nil =>
      refine ⟨fun pins s σ H vs us Q I r q => ?_⟩
      obtain ⟨F, τ, τ', pvs, sl, ds, e, q⟩ := q
      cases ds with
      | nil =>
        cases (Option.some.inj e)
        exact pgs_nil.run pins s σ H _ us Q I r ⟨rfl, q _ sl fun _ _ => rfl⟩
      | cons _ _ => cases e
    | cons e r => cases h
  | .cons t ts, gs, ok, h => by
    cases gs with
    | nil => cases h
    | cons g r =>
      have h' : (notStar g && chkG C t g && chkGs C ts r) = true := h
      simp only [Bool.and_eq_true] at h'
      have e1 : (assignEach (g :: r) X.env).map (·.2) = assign g X.env :: (assignEach r X.env).map (·.2) := by
        have := h'.1.1
        cases g <;> first | rfl | cases this
      refine ⟨fun pins s σ H vs us Q I rr q => ?_⟩
      obtain ⟨F, τ, τ', pvs, sl, ds, e, q⟩ := q
      cases ds with
      | nil => cases e
      | @cons pv v pvs vs d ds =>
        have e' : (t.asg pv τ).bind (ts.asg pvs) = some τ' := e
        cases q1 : t.asg pv τ with
        | none => rw [q1] at e'; cases e'
        | some τ1 =>
          rw [q1] at e'
          refine (pgs_cons (sG t ok h'.1.2) (sGs ts ok h'.2) e1).run pins s σ H _ us Q I rr ⟨v, vs, rfl, F, τ, τ1, pv, sl, d, q1, fun σ1 sl1 k1 => ?_⟩
          refine ⟨F, τ1, τ', pvs, sl1, ds, e', fun σ2 sl2 k2 => q σ2 sl2 fun j hj => ?_⟩
          have hj' : j ∉ t.slots ++ ts.slots := hj
          rw [List.mem_append, not_or] at hj'
          exact (k2 j hj'.2).trans (k1 j hj'.1)
end
end
end TK

set_option maxRecDepth 100000
set_option maxHeartbeats 8000000
namespace TK
open PySem PySem.Spec PyProof.Rows L2
section
variable {X : Cx} {C : SC} {k : Nat} {W : WX}
theorem nobeh {o : CmpOp} {e : Expr} (h : notSet e = true) : behindInMarks o e = false := by
  cases e <;> first | rfl | cases h
theorem lastm {o p : CmpOp} {a b : Expr} (h : notSet b = true) : lastMarks [o, p] [a, b] = false := by
  show behindInMarks p b = false
  exact nobeh h
theorem plainIx {e : Expr} (h : notSlice e = true) : PlainIx e := by
  intro o i
  cases e <;> first | rfl | cases h
theorem attr_whole {e : Expr} (h : notCall e = true) (a : Str) (env : Env) (t : Sem Value) : attributeBase e a env t = t := by
  cases e <;> first | rfl | cases h
theorem plain_isTrue {e : Expr} (h : plainT e = true) (env : Env) : ∀ whole, isTrue e env whole = (do let v ← whole; standAt e.pos; holding [v] (truthy v)) := by
  intro whole
  cases e with
  | UnaryOp o x p => cases o <;> first | (with_unfolding_all rfl) | cases h
  | BoolOp _ _ _ => cases h
  | IfExp _ _ _ _ => cases h
  | Compare _ _ _ _ => cases h
  | _ => with_unfolding_all rfl
theorem folded {e : Expr} (h : notSet e = true) (env : Env) : ∀ x, foldedSetIterable e env x = pure x := by
  intro x
  cases e <;> first | rfl | cases h
theorem tru_lift {F : FS} {H : Hp} {st : Store} {v : PV} {x : V} {P : Bool → Store → Prop} (rs : RS X.K H F st) (d : DV X.K H F v x) (h : truV v st P) : ∃ b, TruV X.K x H b ∧ P b st := by
  unfold truV at h
  split at h
  · cases d; exact ⟨_, rfl, h⟩
  · cases d; exact ⟨_, rfl, h⟩
  · cases d; exact ⟨_, rfl, h⟩
  · cases d with
    | tup h1 ds => exact ⟨_, .inr (.inl ⟨_, h1, rfl⟩), by cases ds <;> exact h⟩
  · cases d with
    | lst f h1 ds => exact ⟨_, .inl ⟨_, .of h1, rfl⟩, by cases ds <;> exact h⟩
  · obtain ⟨xs, e, h⟩ := h
    cases d
    obtain ⟨_, ys, h1, ds⟩ := rs.lst _ _ e
    exact ⟨_, .inl ⟨_, .of h1, rfl⟩, by cases ds <;> exact h⟩
  · exact h.elim
abbrev pfX (X : Cx) (k : Nat) : Str → PSpec → Nat → Prop := HasFn (wdX X) k
abbrev pgX (X : Cx) : Str → PV → Prop := HasGl (wdX X)
/-- the context of a comprehension's block -/
theorem CxOk.blk {vs : List Nat} {scope : Scope} (ok : CxOk X C k W) (hblk0 : blkC C.N C.sc scope (ownOf C.N vs) = true) (s : Shared) (H : Hp) (a : Addr) (cl : List (Str × Addr)) (fp : List Addr) :
    CxOk (X.blk s H scope (compEnvC scope cl a X.env) fp) ⟨C.N, relS scope C.sc, scope⟩ k (fun _ _ _ _ => False) where
  hN := ok.hN
  nd := ok.nd
  hsc := by
    show relS scope X.env.scope = _
    rw [ok.hsc]
  calm := ok.calm
  kindF := by
    have := (blkOk_by hblk0).kind
    exact this
  room := ok.room
  gds := ok.gds
  tk := fun u s' ⟨_, _, _, _, _, _, _, _, _, _, _, _, _, _, _, _, w⟩ => w
  po := PassesOwn.never
  tg := fun x hx => by
    have hx' : locB scope x = true := hx
    unfold locB at hx'
    have key : ∀ kd, kd ≠ NameKind.free → scope.names.lookup x = some kd → (relS scope C.sc).names.lookup x = some kd := fun kd h1 h2 => lookup_relS_keep h1 h2
    split at hx'
    · rename_i e
      have := key _ (by decide) e
      exact ⟨.inl this, .inr this⟩
    · rename_i e
      refine ⟨.inr (key _ (by decide) e), .inl ?_⟩
      show (scope.names.lookup x == some NameKind.cell) = true
      rw [e]; rfl
    · cases hx'
  blt := ok.blt
theorem tyStr_more (ok : CxOk X C k W) {ty : Str} {c : String} (hc : c ∈ ["int", "bool", "str", "tuple", "list"]) (e : ty = Str.ofString c) : X.mg ty = none ∧ ty ≠ ("__name__" : Str) := by
  simp only [List.mem_cons, List.not_mem_nil, or_false] at hc
  subst e
  rcases hc with rfl | rfl | rfl | rfl | rfl <;> exact ⟨ok.blt _ (by decide +kernel), by decide +kernel⟩
theorem needTs_one {pf : Str → PSpec → Nat → Prop} {pg : Str → PV → Prop} {t : T} (h : needTs pf pg (.cons t .nil)) : needT pf pg t := h.1

mutual
theorem asg_length : ∀ {tg : TG} {v : PV} {τ τ1 : Sl}, tg.asg v τ = some τ1 → τ1.length = τ.length
  | .name i, v, τ, τ1, h => by
    cases (Option.some.inj h)
    exact setS_length _ _ _
  | .tup ts, v, τ, τ1, h => by
    cases v with
    | tup xs => exact asgs_length (show ts.asg xs τ = some τ1 from h)
    | _ => cases h
theorem asgs_length : ∀ {tg : TGs} {v : List PV} {τ τ1 : Sl}, tg.asg v τ = some τ1 → τ1.length = τ.length
  | .nil, v, τ, τ1, h => by
    cases v with
    | nil => cases (Option.some.inj h); rfl
    | cons _ _ => cases h
  | .cons t ts, v, τ, τ1, h => by
    cases v with
    | nil => cases h
    | cons x r =>
      have h' : (t.asg x τ).bind (ts.asg r) = some τ1 := h
      cases q : t.asg x τ with
      | none => rw [q] at h'; cases h'
      | some τ2 =>
        rw [q] at h'
        exact (asgs_length (show ts.asg r τ2 = some τ1 from h')).trans (asg_length q)
end
theorem wipe_get (σ : L2.St) (j : Nat) : ∀ vs : List Nat, (L2.wipe σ vs)[j]? = if j ∈ vs then σ[j]?.map (fun _ => none) else σ[j]?
  | [] => by simp [L2.wipe]
  | v :: vs => by
    show ((L2.wipe σ vs).set v none)[j]? = _
    by_cases e : v = j
    · subst e
      by_cases hv : v < (L2.wipe σ vs).length
      · rw [List.getElem?_set_self hv, if_pos List.mem_cons_self]
        rw [L2.wipe_length] at hv
        rw [List.getElem?_eq_getElem hv]; rfl
      · rw [List.getElem?_eq_none (by rw [List.length_set]; omega), if_pos List.mem_cons_self]
        rw [L2.wipe_length] at hv
        rw [List.getElem?_eq_none (by omega)]; rfl
    · rw [List.getElem?_set_ne e, wipe_get σ j vs]
      by_cases hm : j ∈ vs
      · rw [if_pos hm, if_pos (List.mem_cons_of_mem _ hm)]
      · rw [if_neg hm, if_neg (fun z => (List.mem_cons.mp z).elim (fun z => e z.symm) hm)]
theorem wipe_same {σ σ2 : L2.St} {vs : List Nat} (hl : σ2.length = σ.length) (h : ∀ j, j ∉ vs → σ2[j]? = (L2.wipe σ vs)[j]?) : L2.wipe σ2 vs = L2.wipe σ vs := by
  apply List.ext_getElem?
  intro j
  rw [wipe_get, wipe_get]
  by_cases hm : j ∈ vs
  · rw [if_pos hm, if_pos hm]
    by_cases hj : j < σ.length
    · rw [List.getElem?_eq_getElem hj, List.getElem?_eq_getElem (by omega)]; rfl
    · rw [List.getElem?_eq_none (by omega), List.getElem?_eq_none (by omega)]
  · rw [if_neg hm, if_neg hm, h j hm, wipe_get, if_neg hm]
theorem lc_sound {F1 : FS} {H1 : Hp} {st1 : Store} {τ : Sl} {σ : L2.St} {vs : List Nat} {tg : TG} {t : EQ → Sl → Store → (Bool → Store → Prop) → Prop} {e : EQ → Sl → Store → PQ → Prop} {J : It} {xs : List PV} {oks : Store → Prop} {m : Bool} {Q : VK} {Q0 : PQ}
    {tt : TT} {te : TE} (hsl : tg.slots.all (fun i => decide (i ∈ vs)) = true) (rs1 : RS X.K H1 F1 st1) (sl1 : RSl X.K H1 F1 τ σ) (wp : WP X.K J F1 H1 xs oks) (hok : oks st1) (hlen : xs.length ≤ sizeLine)
    (hq : ∀ {ys : List PV}, newList m ys st1 Q0 → newList m ys st1 (LQ X.K F1 H1 Q))
    (h : lcL tg (t fun _ _ => False) (e fun _ _ => False) (wipeS τ vs) st1 xs [] fun acc => newList m acc st1 Q0)
    (ht : ∀ σ H P, (∃ F τ st, RS X.K H F st ∧ RSl X.K H F τ σ ∧ t (fun _ _ => False) τ st fun b st' => ∀ F' H', Ext F H F' H' → RS X.K H' F' st' → P b H') → tt σ H P)
    (he : ∀ σ H P, (∃ F τ st, RS X.K H F st ∧ RSl X.K H F τ σ ∧ e (fun _ _ => False) τ st (LQ X.K F H P)) → te σ H P)
    (mt : ∀ {τ st} {P P' : Bool → Store → Prop}, (∀ v s, P v s → P' v s) → t (fun _ _ => False) τ st P → t (fun _ _ => False) τ st P')
    (me : ∀ {τ st} {P P' : PQ}, (∀ v s, P v s → P' v s) → e (fun _ _ => False) τ st P → e (fun _ _ => False) τ st P') :
    ∀ D, H1 D = none → ∃ Wv : Nat → Nat → Hp → Prop, (∃ m, Wv 0 m (upd H1 D (.lst []))) ∧ ∀ i m H, Wv i m H →
      (J.stop i H ∧ Q (.ref D) H) ∨ (J.go i H ∧ ∃ Nx : Hp → Prop, (∀ H', Nx H' → ∃ m', m' < m ∧ Wv (i + 1) m' H') ∧ ∀ x H', J.yld i H x H' → tlG X.K tg x (L2.wipe σ vs) H' fun σ2 H2 => L2.wipe σ2 vs = L2.wipe σ vs ∧ tt σ2 H2 fun b H3 =>
        if b = true then te σ2 H3 fun y H4 => ∃ acc, H4 D = some (.lst acc) ∧ acc.length < sizeLine ∧ Nx (upd H4 D (.lst (acc ++ [y]))) else Nx H3) := by
  intro D hD
  have stD := rs1.no hD
  refine ⟨fun i n H => n = xs.length - i ∧ i ≤ xs.length ∧ ∃ F2 acc, Ext F1 H1 F2 H ∧ RS X.K H F2 (up st1 D (some (.lst acc))) ∧ acc.length ≤ i ∧ lcL tg (t fun _ _ => False) (e fun _ _ => False) (wipeS τ vs) st1 (xs.drop i) acc fun acc => newList m acc st1 Q0,
    ⟨xs.length, rfl, Nat.zero_le _, F1, [], .new hD, rs1.putNew hD .nil, Nat.zero_le _, h⟩, ?_⟩
  rintro i n H ⟨rfl, hi, F2, acc, x2, r2, hl, h2⟩
  have sub : Sub st1 (up st1 D (some (.lst acc))) := fun a c ha => by
    have n : a ≠ D := fun z => by rw [z, stD] at ha; cases ha
    rw [up_ne n]; exact ha
  by_cases hlt : i < xs.length
  · refine .inr ⟨wp.go i F2 H _ hlt x2 r2 (wp.mono _ _ sub hok), fun H' => ∃ F3 acc', Ext F1 H1 F3 H' ∧ RS X.K H' F3 (up st1 D (some (.lst acc'))) ∧ acc'.length ≤ i + 1 ∧ lcL tg (t fun _ _ => False) (e fun _ _ => False) (wipeS τ vs) st1 (xs.drop (i + 1)) acc' fun acc => newList m acc st1 Q0,
      fun H' ⟨F3, acc', a1, a2, a3, a4⟩ => ⟨xs.length - (i + 1), by omega, rfl, hlt, F3, acc', a1, a2, a3, a4⟩, fun x H' y => ?_⟩
    obtain ⟨x3, r3, v, hv, dv⟩ := wp.yld i F2 H _ x H' hlt x2 r2 (wp.mono _ _ sub hok) y
    have hd : xs.drop i = v :: xs.drop (i + 1) := by
      rw [List.drop_eq_getElem_cons hlt]
      rw [List.getElem?_eq_getElem hlt] at hv
      rw [Option.some.inj hv]
    rw [hd] at h2
    have x13 := x2.trans x3
    cases ea : tg.asg v (wipeS τ vs) with
    | none =>
      have h3 : oP (tg.asg v (wipeS τ vs)) _ := h2
      rw [ea] at h3; exact h3.elim
    | some τ1 =>
      have h3 : oP (tg.asg v (wipeS τ vs)) _ := h2
      rw [ea] at h3
      refine ⟨F2, wipeS τ vs, τ1, v, (sl1.ext x13).wipe vs, dv, ea, fun σ2 sl2 k2 => ⟨?_, ?_⟩⟩
      · refine wipe_same ?_ fun j hj => k2 j fun z => hj (of_decide_eq_true (List.all_eq_true.mp hsl j z))
        have l1 := sl2.1
        have l2 := (sl1.wipe vs).1
        have l3 := L2.wipe_length σ vs
        have l4 : τ1.length = (wipeS τ vs).length := asg_length ea
        omega
      · refine ht _ _ _ ⟨F2, τ1, _, r3, sl2, mt (fun b s hb => ?_) (h3 _ sub)⟩
        obtain ⟨es, hb⟩ := hb
        subst es
        intro F4 H4 x4 r4
        cases b with
        | true =>
          refine he _ _ _ ⟨F4, τ1, _, r4, sl2.ext x4, me (fun y s hy => ?_) hb⟩
          obtain ⟨es, hy⟩ := hy
          subst es
          intro F5 H5 y' x5 r5 d5
          obtain ⟨nf, ys, hH, ds⟩ := r5.lst D acc up_same
          have ni : ∀ u, H5 D = some u → ¬ Imm u := fun u e => by
            rw [hH] at e; cases e; exact fun z => z
          refine ⟨ys, hH, by rw [← ds.length]; omega, F5, acc ++ [y], ?_, ?_, by rw [List.length_append]; exact Nat.succ_le_succ hl, hy⟩
          · exact ((x13.trans x4).trans x5).trans (.put nf ni)
          · have := r5.put nf ni (ds.append (.cons d5 .nil))
            have eup : up (up st1 D (some (.lst acc))) D (some (.lst (acc ++ [y]))) = up st1 D (some (.lst (acc ++ [y]))) := by
              funext b; unfold up; split <;> rfl
            rw [eup] at this
            exact this
        | false => exact ⟨F4, acc, x13.trans x4, r4, Nat.le_succ_of_le hl, hb⟩
  · have e : i = xs.length := by omega
    subst e
    refine .inl ⟨wp.stop F2 H _ x2 r2 (wp.mono _ _ sub hok), ?_⟩
    rw [List.drop_length] at h2
    have h3 := hq h2
    have stl : up st1 D (some (.lst acc)) D = some (.lst acc) := up_same
    have edn : up (up st1 D (some (.lst acc))) D Option.none = st1 := by
      funext b
      by_cases n : b = D
      · subst n; rw [up_same, stD]
      · rw [up_ne n, up_ne n]
    cases m with
    | true => exact h3 D stD F2 H _ x2 r2 (.ref D)
    | false =>
      obtain ⟨x4, r4, d4⟩ := r2.freeze stl
      rw [edn] at r4
      exact h3 _ H _ (x2.trans x4) r4 d4

mutual
theorem sE : ∀ (e : E) {X : Cx} {C : SC} {k : Nat} {W : WX} {x : Expr}, CxOk X C k W → chkE e C x = true → needE (pfX X k) (pgX X) e → PE X x (tl X W (wpE e))
  | .var i, X, C, k, W, x, ok, hc, hn => by
    unfold chkE at hc
    split at hc
    · refine impE (nm_ok ok hc) fun σ H Q q => ?_
      obtain ⟨F, τ, st, rs, sl, h⟩ := q
      unfold wpE at h
      cases e : getS τ i with
      | none => rw [e] at h; exact h.elim
      | some v =>
        rw [e] at h
        obtain ⟨y, e', d⟩ := sl.2 i v e
        exact ⟨y, e', LQ.now h rs d⟩
    · cases hc
  | .fvar i, X, C, k, W, x, ok, hc, hn => by
    unfold chkE at hc
    split at hc
    · refine impE (nm_ok ok hc) fun σ H Q q => ?_
      obtain ⟨F, τ, st, rs, sl, h⟩ := q
      unfold wpE at h
      cases e : getS τ i with
      | none => rw [e] at h; exact h.elim
      | some v =>
        rw [e] at h
        replace h : frzV v st (LQ X.K F H Q) := h
        obtain ⟨y, e', d⟩ := sl.2 i v e
        refine ⟨y, e', ?_⟩
        unfold frzV at h
        split at h
        · rename_i a
          cases q : st a with
          | none =>
            have e2 : lstOf st (.ref a) = none := by simp only [lstOf, q]
            rw [e2] at h; exact h.elim
          | some c =>
            cases c with
            | pool =>
              have e2 : lstOf st (.ref a) = none := by simp only [lstOf, q]
              rw [e2] at h; exact h.elim
            | lst xs =>
              have e2 : lstOf st (.ref a) = some xs := by simp only [lstOf, q]
              rw [e2] at h
              obtain ⟨x1, r1, d1⟩ := rs.freeze q
              cases d
              exact h _ _ _ x1 r1 d1
        · exact LQ.now h rs d
    · cases hc
  | .int n, X, C, k, W, x, ok, hc, hn => by
    unfold chkE at hc
    split at hc
    · have e := of_decide_eq_true hc
      subst e
      refine impE pe_int fun σ H Q q => ?_
      obtain ⟨F, τ, st, rs, sl, h⟩ := q
      exact LQ.now h rs (.int n)
    · cases hc
  | .bl n, X, C, k, W, x, ok, hc, hn => by
    unfold chkE at hc
    split at hc
    · have e := eq_of_beq hc
      subst e
      refine impE pe_bl fun σ H Q q => ?_
      obtain ⟨F, τ, st, rs, sl, h⟩ := q
      exact LQ.now h rs (.bl n)
    · cases hc
  | .non, X, C, k, W, x, ok, hc, hn => by
    unfold chkE at hc
    split at hc
    · refine impE pe_non fun σ H Q q => ?_
      obtain ⟨F, τ, st, rs, sl, h⟩ := q
      exact LQ.now h rs .non
    · cases hc
  | .str n, X, C, k, W, x, ok, hc, hn => by
    unfold chkE at hc
    split at hc
    · have e := of_decide_eq_true hc
      subst e
      refine impE pe_str fun σ H Q q => ?_
      obtain ⟨F, τ, st, rs, sl, h⟩ := q
      exact LQ.now h rs (.str n)
    · cases hc
  | .glob n v, X, C, k, W, x, ok, hc, hn => by
    unfold chkE at hc
    split at hc
    · simp only [Bool.and_eq_true, decide_eq_true_eq] at hc
      obtain ⟨e, hg⟩ := hc
      subst e
      obtain ⟨g1, g2⟩ := ok.gl hg
      obtain ⟨u, y, h1, h2, h3⟩ := hn
      refine impE (pe_glob g1 h1 h2 g2) fun σ H Q q => ?_
      obtain ⟨F, τ, st, rs, sl, h⟩ := q
      exact LQ.now h rs (h3 H F)
    · cases hc
  | .bin o m a b, X, C, k, W, x, ok, hc, hn => by
    unfold chkE at hc
    split at hc
    · simp only [Bool.and_eq_true, decide_eq_true_eq] at hc
      obtain ⟨⟨e, h1⟩, h2⟩ := hc
      subst e
      refine impE (pe_op (bin_ok (m := m)) (sE a ok h1 hn.1) (sE b ok h2 hn.2)) fun σ H Q q => ?_
      obtain ⟨F, τ, st, rs, sl, h⟩ := q
      unfold wpE at h
      refine tl_go (wpE_mono a) .refl rs sl h fun F1 H1 y v st1 e1 rs1 sl1 d1 h1 => ?_
      refine tl_go (wpE_mono b) e1 rs1 sl1 h1 fun F2 H2 z w st2 e2 rs2 sl2 d2 h2 => ?_
      exact ⟨F2, st2, v, w, rs2, d1.ext e2, d2, binV_mono (LQ.ext (e1.trans e2)) h2⟩
    · cases hc
  | .neg a, X, C, k, W, x, ok, hc, hn => by
    unfold chkE at hc
    split at hc
    · refine impE (pe_un un_neg (sE a ok hc hn)) fun σ H Q q => ?_
      obtain ⟨F, τ, st, rs, sl, h⟩ := q
      unfold wpE at h
      refine tl_go (wpE_mono a) .refl rs sl h fun F1 H1 y v st1 e1 rs1 sl1 d1 h1 => ?_
      unfold negV at h1
      split at h1
      · cases d1; exact ⟨_, rfl, h1 F1 H1 _ e1 rs1 (.int _)⟩
      · exact h1.elim
    · cases hc
  | .not a, X, C, k, W, x, ok, hc, hn => by
    unfold chkE at hc
    split at hc
    · refine impE (pe_not (sE a ok hc hn)) fun σ H Q q => ?_
      obtain ⟨F, τ, st, rs, sl, h⟩ := q
      unfold wpE at h
      refine tl_go (wpE_mono a) .refl rs sl h fun F1 H1 y v st1 e1 rs1 sl1 d1 h1 => ?_
      cases d1 with
      | bl b => exact ⟨_, rfl, h1 F1 H1 _ e1 rs1 (.bl _)⟩
      | _ => exact h1.elim
    · cases hc
  | .cmp o a b, X, C, k, W, x, ok, hc, hn => by
    unfold chkE at hc
    split at hc
    · simp only [Bool.and_eq_true, decide_eq_true_eq] at hc
      obtain ⟨⟨⟨e, h1⟩, h3⟩, h2⟩ := hc
      subst e
      refine impE (pe_cmpR (cmp_ok ok.room.units) (sE a ok h1 hn.1) (sE b ok h2 hn.2) (nobeh h3)) fun σ H Q q => ?_
      obtain ⟨F, τ, st, rs, sl, h⟩ := q
      unfold wpE at h
      refine tl_go (wpE_mono a) .refl rs sl h fun F1 H1 y v st1 e1 rs1 sl1 d1 h1 => ?_
      refine tl_go (wpE_mono b) e1 rs1 sl1 h1 fun F2 H2 z w st2 e2 rs2 sl2 d2 h2 => ?_
      exact ⟨F2, st2, v, w, rs2, d1.ext e2, d2, cmpV_mono (LQ.ext (e1.trans e2)) h2⟩
    · cases hc
  | .chain o o' a b c, X, C, k, W, x, ok, hc, hn => by
    unfold chkE at hc
    split at hc
    · simp only [Bool.and_eq_true, decide_eq_true_eq] at hc
      obtain ⟨⟨⟨⟨⟨e, e'⟩, h1⟩, h2⟩, h4⟩, h3⟩ := hc
      subst e e'
      refine impE (pe_chain (cmp_ok ok.room.units) (cmp_ok ok.room.units) (sE a ok h1 hn.1) (sE b ok h2 hn.2.1) (sE c ok h3 hn.2.2) (lastm h4)) fun σ H Q q => ?_
      obtain ⟨F, τ, st, rs, sl, h⟩ := q
      unfold wpE at h
      refine tl_go (wpE_mono a) .refl rs sl h fun F1 H1 y v st1 e1 rs1 sl1 d1 h1 => ?_
      refine tl_go (wpE_mono b) e1 rs1 sl1 h1 fun F2 H2 z w st2 e2 rs2 sl2 d2 h2 => ?_
      refine ⟨F2, st2, v, w, rs2, d1.ext e2, d2, cmpV_mono (fun r st3 h3 => ?_) h2⟩
      intro F3 H3 u e3 rs3 d3
      have e13 := (e1.trans e2).trans e3
      cases d3 with
      | bl b =>
        refine ⟨b, rfl, ?_⟩
        have h3 : (if b = true then wpE c (LX X W σ F H) τ st3 fun u st4 => cmpV o' w u st4 (LQ X.K F H Q) else LQ X.K F H Q (.bl false) st3) := h3
        cases b with
        | false => exact h3 F3 H3 _ e13 rs3 (.bl _)
        | true =>
          refine tl_go (wpE_mono c) e13 rs3 (sl2.ext e3) h3 fun F4 H4 z4 w4 st4 e4 rs4 sl4 d4 h4 => ?_
          exact ⟨F4, st4, w, w4, rs4, d2.ext (e3.trans e4), d4, cmpV_mono (LQ.ext (e13.trans e4)) h4⟩
      | _ => exact h3.elim
    · cases hc
  | .bools o es, X, C, k, W, x, ok, hc, hn => by
    unfold chkE at hc
    split at hc
    · simp only [Bool.and_eq_true, decide_eq_true_eq] at hc
      obtain ⟨e, h1⟩ := hc
      subst e
      refine impE (sBs es ok h1 hn) fun σ H Q q => ?_
      obtain ⟨F, τ, st, rs, sl, h⟩ := q
      unfold wpE at h
      exact ⟨F, τ, st, rs, sl, h⟩
    · cases hc
  | .ite t a b, X, C, k, W, x, ok, hc, hn => by
    unfold chkE at hc
    split at hc
    · simp only [Bool.and_eq_true] at hc
      obtain ⟨⟨h1, h2⟩, h3⟩ := hc
      refine impE (pe_ifExp (sT t ok h1 hn.1) (sE a ok h2 hn.2.1) (sE b ok h3 hn.2.2)) fun σ H Q q => ?_
      obtain ⟨F, τ, st, rs, sl, h⟩ := q
      unfold wpE at h
      refine tlT_go (wpT_mono t) .refl rs sl h fun F1 H1 c st1 e1 rs1 sl1 h1 => ?_
      cases c with
      | true => exact tl_go (wpE_mono a) e1 rs1 sl1 h1 fun F2 H2 z w st2 e2 rs2 sl2 d2 h2 => h2 F2 H2 z (e1.trans e2) rs2 d2
      | false => exact tl_go (wpE_mono b) e1 rs1 sl1 h1 fun F2 H2 z w st2 e2 rs2 sl2 d2 h2 => h2 F2 H2 z (e1.trans e2) rs2 d2
    · cases hc
  | .tup es, X, C, k, W, x, ok, hc, hn => by
    unfold chkE at hc
    split at hc
    · refine impE (pe_tup (sA es ok hc hn)) fun σ H Q q => ?_
      obtain ⟨F, τ, st, rs, sl, h⟩ := q
      unfold wpE at h
      refine tlA_go (wpEs_mono es) .refl rs sl h fun F1 H1 y v st1 e1 rs1 sl1 d1 h1 => ?_
      exact ⟨by rw [← d1.length]; exact h1.1, newTup_ok (LQ.ext e1 _ _ h1.2) rs1 d1⟩
    · cases hc
  | .lst m es, X, C, k, W, x, ok, hc, hn => by
    unfold chkE at hc
    split at hc
    · refine impE (pe_lst (sA es ok hc hn)) fun σ H Q q => ?_
      obtain ⟨F, τ, st, rs, sl, h⟩ := q
      unfold wpE at h
      refine tlA_go (wpEs_mono es) .refl rs sl h fun F1 H1 y v st1 e1 rs1 sl1 d1 h1 => ?_
      exact ⟨by rw [← d1.length]; exact h1.1, newList_ok (newList_mono (LQ.ext e1) h1.2) rs1 d1⟩
    · cases hc
  | .idx a i, X, C, k, W, x, ok, hc, hn => by
    unfold chkE at hc
    split at hc
    · simp only [Bool.and_eq_true] at hc
      obtain ⟨⟨h1, h2⟩, h3⟩ := hc
      refine impE (pe_ix ix_ok (sE a ok h1 hn.1) (sE i ok h3 hn.2) (plainIx h2)) fun σ H Q q => ?_
      obtain ⟨F, τ, st, rs, sl, h⟩ := q
      unfold wpE at h
      refine tl_go (wpE_mono a) .refl rs sl h fun F1 H1 y v st1 e1 rs1 sl1 d1 h1 => ?_
      refine tl_go (wpE_mono i) e1 rs1 sl1 h1 fun F2 H2 z w st2 e2 rs2 sl2 d2 h2 => ?_
      exact ⟨F2, st2, v, w, rs2, d1.ext e2, d2, idxV_mono (LQ.ext (e1.trans e2)) h2⟩
    · cases hc
  | .slice m a lo hi, X, C, k, W, x, ok, hc, hn => by
    unfold chkE at hc
    split at hc
    · simp only [Bool.and_eq_true] at hc
      obtain ⟨⟨h1, h2⟩, h3⟩ := hc
      refine impE (pe_slice (sl_ok (m := m)) (sE a ok h1 hn.1) (sO lo ok h2 hn.2.1) (sO hi ok h3 hn.2.2)) fun σ H Q q => ?_
      obtain ⟨F, τ, st, rs, sl, h⟩ := q
      unfold wpE at h
      refine tl_go (wpE_mono a) .refl rs sl h fun F1 H1 y v st1 e1 rs1 sl1 d1 h1 => ?_
      refine tlO_go (wpO_mono lo) e1 rs1 sl1 h1 fun F2 H2 l st2 e2 rs2 sl2 h2 => ?_
      refine tlO_go (wpO_mono hi) (e1.trans e2) rs2 sl2 h2 fun F3 H3 u st3 e3 rs3 sl3 h3 => ?_
      exact ⟨F3, st3, v, rs3, d1.ext (e2.trans e3), sliceV_mono (LQ.ext ((e1.trans e2).trans e3)) h3⟩
    · cases hc
  | .call f sp es, X, C, k, W, x, ok, hc, hn => by
    unfold chkE at hc
    split at hc
    · rename_i p xs pos
      simp only [Bool.and_eq_true, decide_eq_true_eq] at hc
      obtain ⟨⟨e, hg⟩, h1⟩ := hc
      subst e
      obtain ⟨g1, g2⟩ := ok.gl hg
      obtain ⟨⟨fa, fd, ps, m1, m2, m3, m4, m5⟩, hn2⟩ := hn
      have ha := sA es ok h1 hn2
      refine ⟨fun pins s σ H Q I q => ?_⟩
      obtain ⟨F, τ, st, rs, sl, h⟩ := q
      unfold wpE at h
      have hA : tlA X W (wpEs es) σ H (fun ys H1 => liftSp X.K X.mg es.len sp ys H1 Q (WE W σ)) := by
        refine tlA_go (wpEs_mono es) .refl rs sl (wpEs_len es h) fun F1 H1 y v st1 e1 rs1 sl1 d1 h1 => ?_
        exact ⟨F1, st1, v, rs1, d1, by rw [← d1.length]; exact h1.1, callS_mono (LE.ext e1) (LQ.ext e1) h1.2⟩
      refine wpAny_Call_Name_kw (ld_glob I g1 m1 ?_ g2)
      cases xs with
      | nil =>
        have hnil : es = .nil := by
          cases es with
          | nil => rfl
          | cons _ _ => cases h1
        subst hnil
        refine PySem.W.callWith_K0 I.kIn m2 (run_g (us := []) (vs := []) m5 ok.gds ok.room m3 (passAt ok.tk σ) I .nil ?_)
        obtain ⟨F1, τ1, st1, rs1, sl1, h1⟩ := hA
        exact h1 F1 H [] .refl rs1 .nil
      | cons x0 xr =>
        have hst : notStar x0 = true := by
          cases es with
          | nil => cases h1
          | cons a as =>
            have h' : (notStar x0 && chkE a C x0 && chkEs as C xr) = true := h1
            simp only [Bool.and_eq_true] at h'
            exact h'.1.1
        have hall := chkEs_star h1 X.env
        rw [star_cons hst, List.all_cons, Bool.and_eq_true] at hall
        refine PySem.W.callWith_K (h₀ := X.base) I.ok.mod.kin m2 (thn (ha.run pos pins s σ H _ I hA) fun us s1 ⟨vs, H1, I1, r, q⟩ => ⟨I1.kIn, ?_⟩) (star_cons hst) (backTo_any hall.2)
        exact run_g m5 ok.gds ok.room m3 (passAt ok.tk σ) I1 r q
    · cases hc
  | .blt f m es, X, C, k, W, x, ok, hc, hn => by
    unfold chkE at hc
    split at hc
    · rename_i p xs pos
      simp only [Bool.and_eq_true, decide_eq_true_eq] at hc
      obtain ⟨⟨⟨e, hg⟩, hne⟩, h1⟩ := hc
      subst e
      obtain ⟨g1, g2⟩ := ok.gl hg
      obtain ⟨b1, b2⟩ := boot_bf f
      have ha := sA es ok h1 hn
      cases xs with
      | nil => cases hne
      | cons x0 xr =>
        have hst : notStar x0 = true := by
          cases es with
          | nil => cases h1
          | cons a as =>
            have h' : (notStar x0 && chkE a C x0 && chkEs as C xr) = true := h1
            simp only [Bool.and_eq_true] at h'
            exact h'.1.1
        have hall := chkEs_star h1 X.env
        rw [star_cons hst, List.all_cons, Bool.and_eq_true] at hall
        have fin : ∀ σ H Q, tl X W (wpE (.blt f m es)) σ H Q → tCB (rC X.K (bltV f m)) (tlA X W (wpEs es)) σ H Q := fun σ H Q q => by
          obtain ⟨F, τ, st, rs, sl, h⟩ := q
          unfold wpE at h
          refine tlA_go (wpEs_mono es) .refl rs sl h fun F1 H1 y v st1 e1 rs1 sl1 d1 h1 => ?_
          exact ⟨F1, st1, v, rs1, d1, bltV_mono (LQ.ext e1) h1⟩
        have hb := blt_ok (X := X) (f := f) (m := m) ok.calm ok.gds ok.room.units
        cases ht : f.isTy with
        | true =>
          have ev : f.val = .type f.id := by unfold BF.val; rw [ht]; rfl
          rw [ev] at hb b1
          exact impE (pe_callTy hb g1 (ok.bn f) b1 ha b2 g2 (star_cons hst) (backTo_any hall.2)) fin
        | false =>
          have ev : f.val = .builtin f.id := by unfold BF.val; rw [ht]; rfl
          rw [ev] at hb b1
          exact impE (pe_callB hb g1 (ok.bn f) b1 ha b2 g2 (star_cons hst) (backTo_any hall.2)) fin
    · cases hc
  | .isi a ty, X, C, k, W, x, ok, hc, hn => by
    unfold chkE at hc
    split at hc
    · simp only [Bool.and_eq_true, decide_eq_true_eq] at hc
      obtain ⟨⟨⟨⟨⟨⟨e, hg⟩, hst⟩, h1⟩, e2⟩, ht⟩, hg2⟩ := hc
      subst e e2
      obtain ⟨g1, g2⟩ := ok.gl hg
      obtain ⟨g3, g4⟩ := ok.gl hg2
      obtain ⟨c, hcm, ec, bc⟩ := tyStr_ok ht
      have m1 : X.mg ("isinstance" : Str) = none := ok.blt _ (by decide +kernel)
      obtain ⟨m2, ne⟩ := tyStr_more ok hcm ec
      refine impE (pe_callB call_isi g1 m1 (by decide +kernel) (pa_cons (sE a ok h1 hn) (pa_cons (pe_bltn g3 m2 bc (v := .ty c) rfl ne g4) pa_nil rfl) (star_cons hst)) (by decide) g2 (star_cons hst) rfl) fun σ H Q q => ?_
      obtain ⟨F, τ, st, rs, sl, h⟩ := q
      unfold wpE at h
      refine tl_go (wpE_mono a) .refl rs sl h fun F1 H1 y v st1 e1 rs1 sl1 d1 h1 => ?_
      cases e : isiV _ v with
      | none => rw [e] at h1; exact h1.elim
      | some b =>
        rw [e] at h1
        obtain ⟨n1, n2, n3⟩ := isi_val hcm ec e
        obtain ⟨t1, t2⟩ := TyX_ok d1 n1 n2
        exact ⟨y, .ty c, _, _, b, rfl, .ty c, t1, by rw [kit_ty (kit_ok t2 hcm), n3], h1 F1 H1 _ e1 rs1 (.bl b)⟩
    · cases hc
  | .meth f o es, X, C, k, W, x, ok, hc, hn => by
    unfold chkE at hc
    split at hc
    · rename_i xs cp
      simp only [Bool.and_eq_true, decide_eq_true_eq] at hc
      obtain ⟨⟨⟨⟨⟨e, hl⟩, hno⟩, h30⟩, h1⟩, h2⟩ := hc
      subst e
      have ho := sE o ok h1 hn.1
      have ha := sA es ok h2 hn.2
      have slot : Slot "list" f.name f.id := by
        cases f
        · exact PySem.F.slot_list_append
        · exact PySem.F.slot_list_extend
        · exact PySem.F.slot_list_pop
        · exact PySem.F.slot_list_index
      have hty : typeOf (.builtin f.id) = pure (.type "method_descriptor") := by
        cases f
        · exact PySem.F.type_list_append
        · exact PySem.F.type_list_extend
        · exact PySem.F.type_list_pop
        · exact PySem.F.type_list_index
      have ty : ∀ {F H st v x}, RS X.K H F st → DV X.K H F v x → isLst st v → tyV X.K "list" x H := fun {F H st v x} rs d h => by
        unfold isLst at h
        cases e : lstOf st v with
        | none => rw [e] at h; exact h.elim
        | some xs =>
          obtain ⟨a, ys, rfl, h1, _⟩ := lstOf_ok rs e d
          exact .inl ⟨rfl, ys, .of h1⟩
      cases xs with
      | nil =>
        have hnil : es = .nil := by
          cases es with
          | nil => rfl
          | cons _ _ => cases h2
        subst hnil
        refine impE (pe_bm0 PySem.F.plainAttrs_list slot hty meth_ok ho (attr_whole hno _ _ _) hl) fun σ H Q q => ?_
        obtain ⟨F, τ, st, rs, sl, h⟩ := q
        unfold wpE at h
        refine tl_go (wpE_mono o) .refl rs sl h fun F1 H1 y v st1 e1 rs1 sl1 d1 h1 => ?_
        have h2 : methV f v [] st1 (LQ X.K F H Q) := h1.2
        exact ⟨ty rs1 d1 h1.1, F1, st1, v, [], rs1, d1, .nil, methV_mono (LQ.ext e1) h2⟩
      | cons x0 xr =>
        have hst : notStar x0 = true := by
          cases es with
          | nil => cases h2
          | cons a as =>
            have h' : (notStar x0 && chkE a C x0 && chkEs as C xr) = true := h2
            simp only [Bool.and_eq_true] at h'
            exact h'.1.1
        have hall := chkEs_star h2 X.env
        have hall' := hall
        rw [star_cons hst, List.all_cons, Bool.and_eq_true] at hall'
        have hfew : ((backTo cp (starEach (x0 :: xr) X.env)).all (fun x => !x.1) && (backToKw cp (keywordEach [] X.env)).all (fun x => x.1.isSome)
            && decide ((x0 :: xr).length + ([] : List Keyword).length + (if ([] : List Keyword).isEmpty then 0 else 1) < 30)) = true := by
          rw [backTo_all hall]
          show (true && true && decide ((x0 :: xr).length + 0 + 0 < 30)) = true
          rw [Bool.true_and, Bool.true_and]
          exact decide_eq_true h30
        refine impE (pe_bm PySem.F.plainAttrs_list slot hty meth_ok ho ha (attr_whole hno _ _ _) hfew hl (star_cons hst) (backTo_any hall'.2)) fun σ H Q q => ?_
        obtain ⟨F, τ, st, rs, sl, h⟩ := q
        unfold wpE at h
        refine tl_go (wpE_mono o) .refl rs sl h fun F1 H1 y v st1 e1 rs1 sl1 d1 h1 => ?_
        refine ⟨ty rs1 d1 h1.1, tlA_go (wpEs_mono es) e1 rs1 sl1 h1.2 fun F2 H2 z w st2 e2 rs2 sl2 d2 h2 => ?_⟩
        exact ⟨F2, st2, v, w, rs2, d1.ext e2, d2, methV_mono (LQ.ext (e1.trans e2)) h2⟩
    · cases hc
  | .comp m vs tg it ts elt, X, C, k, W, x, ok, hc, hn => by
    unfold chkE at hc
    split at hc
    · rename_i x0 g y ifs kz scope pos
      simp only [Bool.and_eq_true, decide_eq_true_eq] at hc
      obtain ⟨⟨⟨⟨⟨⟨⟨⟨⟨hk, hown⟩, hblk⟩, hsl⟩, hset⟩, h1⟩, h2⟩, h3⟩, h4⟩, h5⟩ := hc
      have ek := eq_of_beq hk
      subst ek
      have hb := fun s H a cl fp => ok.blk (vs := vs) (scope := scope) hblk s H a cl fp
      have hbk : BlkOk X.N X.env.scope scope (ownOf C.N vs) := by rw [ok.hN, ok.hsc]; exact blkOk_by hblk
      have := pe_lc (X := X) (elt := x0) (tg := g) (iter := y) (ifs := ifs) (scope := scope) (own := ownOf C.N vs) (pos := pos) (g := tlG X.K tg) (tt := tlT X (fun _ _ _ _ => False) (wpTs .And ts)) (te := tl X (fun _ _ _ _ => False) (wpE elt)) ok.calm (by rw [ok.hN]; exact ok.nd) (sI it ok h1 hn.1) hbk
        (fun s H a cl fp => sG tg (hb s H a cl fp) h2)
        (fun s H a cl fp => sPTs ts (hb s H a cl fp) h3 h4 hn.2.1)
        (fun s H a cl fp => sE elt (hb s H a cl fp) h5 hn.2.2) (folded hset _)
      rw [hown] at this
      refine impE this fun σ H Q q => ?_
      obtain ⟨F, τ, st, rs, sl, h⟩ := q
      unfold wpE at h
      refine tlI_go (wpI_mono it) .refl rs sl h fun F1 H1 J xs oks st1 e1 rs1 sl1 wp hz h6 => ?_
      obtain ⟨h7, h8, h9⟩ := h6
      have hlen : xs.length ≤ sizeLine := by
        cases hr : it.isR with
        | true => exact h7 hr
        | false => exact hz hr
      have hlc := lc_sound (X := X) (tt := tlT X (fun _ _ _ _ => False) (wpTs .And ts)) (te := tl X (fun _ _ _ _ => False) (wpE elt)) hsl rs1 sl1 wp h8 hlen (newList_mono (LQ.ext e1)) h9
        (fun σ H P q => let ⟨F, τ, st, rs, sl, h⟩ := q; ⟨F, τ, st, rs, sl, wpTs_mono ts (fun _ _ z => z.elim) (fun _ _ h => h) h⟩)
        (fun σ H P q => let ⟨F, τ, st, rs, sl, h⟩ := q; ⟨F, τ, st, rs, sl, wpE_mono elt (fun _ _ z => z.elim) (fun _ _ h => h) h⟩) (fun hp h => wpTs_mono ts (fun _ _ z => z) hp h) (fun hp h => wpE_mono elt (fun _ _ z => z) hp h)
      exact hlc
    · cases hc
theorem sA : ∀ (e : Es) {X : Cx} {C : SC} {k : Nat} {W : WX} {x : List Expr}, CxOk X C k W → chkEs e C x = true → needEs (pfX X k) (pgX X) e → PA X x (tlA X W (wpEs e))
  | .nil, X, C, k, W, xs, ok, hc, hn => by
    cases xs with
    | nil =>
      refine impA pa_nil fun σ H Q q => ?_
      obtain ⟨F, τ, st, rs, sl, h⟩ := q
      exact h F H [] .refl rs .nil
    | cons _ _ => cases hc
  | .cons a as, X, C, k, W, xs, ok, hc, hn => by
    cases xs with
    | nil => cases hc
    | cons x r =>
      have h' : (notStar x && chkE a C x && chkEs as C r) = true := hc
      simp only [Bool.and_eq_true] at h'
      refine impA (pa_cons (sE a ok h'.1.2 hn.1) (sA as ok h'.2 hn.2) (star_cons h'.1.1)) fun σ H Q q => ?_
      obtain ⟨F, τ, st, rs, sl, h⟩ := q
      unfold wpEs at h
      refine tl_go (wpE_mono a) .refl rs sl h fun F1 H1 y v st1 e1 rs1 sl1 d1 h1 => ?_
      refine tlA_go (wpEs_mono as) e1 rs1 sl1 h1 fun F2 H2 z w st2 e2 rs2 sl2 d2 h2 => ?_
      exact h2 F2 H2 _ (e1.trans e2) rs2 (.cons (d1.ext e2) d2)
theorem sBs : ∀ (e : Es) {o : BoolOp} {X : Cx} {C : SC} {k : Nat} {W : WX} {x : List Expr} {pos : Pos}, CxOk X C k W → chkEs e C x = true → needEs (pfX X k) (pgX X) e → PE X (.BoolOp o x pos) (tl X W (wpBs o e))
  | .nil, o, X, C, k, W, xs, pos, ok, hc, hn => ⟨fun pins s σ H Q I ⟨F, τ, st, rs, sl, h⟩ => h.elim⟩
  | .cons a .nil, o, X, C, k, W, xs, pos, ok, hc, hn => by
    cases xs with
    | nil => cases hc
    | cons x r =>
      have h' : (notStar x && chkE a C x && chkEs .nil C r) = true := hc
      simp only [Bool.and_eq_true] at h'
      cases r with
      | cons _ _ => cases h'.2
      | nil =>
        refine impE (pe_one (sE a ok h'.1.2 hn.1)) fun σ H Q q => ?_
        obtain ⟨F, τ, st, rs, sl, h⟩ := q
        unfold wpBs at h
        exact ⟨F, τ, st, rs, sl, h⟩
  | .cons a (.cons b bs), o, X, C, k, W, xs, pos, ok, hc, hn => by
    cases xs with
    | nil => cases hc
    | cons x r =>
      have h' : (notStar x && chkE a C x && chkEs (.cons b bs) C r) = true := hc
      simp only [Bool.and_eq_true] at h'
      cases r with
      | nil => cases h'.2
      | cons y r =>
        have ih := sBs (.cons b bs) (o := o) (pos := pos) ok h'.2 hn.2
        cases o with
        | And =>
          refine impE (pe_and (sE a ok h'.1.2 hn.1) ih) fun σ H Q q => ?_
          obtain ⟨F, τ, st, rs, sl, h⟩ := q
          unfold wpBs at h
          dsimp only at h
          refine tl_go (wpE_mono a) .refl rs sl h fun F1 H1 y v st1 e1 rs1 sl1 d1 h1 => ?_
          cases d1 with
          | bl c =>
            refine ⟨c, rfl, ?_⟩
            cases c with
            | true => exact tl_go (wpBs_mono (.cons b bs)) e1 rs1 sl1 h1 fun F2 H2 z w st2 e2 rs2 sl2 d2 h2 => h2 F2 H2 z (e1.trans e2) rs2 d2
            | false => exact h1 F1 H1 _ e1 rs1 (.bl _)
          | _ => exact h1.elim
        | Or =>
          refine impE (pe_or (sE a ok h'.1.2 hn.1) ih) fun σ H Q q => ?_
          obtain ⟨F, τ, st, rs, sl, h⟩ := q
          unfold wpBs at h
          dsimp only at h
          refine tl_go (wpE_mono a) .refl rs sl h fun F1 H1 y v st1 e1 rs1 sl1 d1 h1 => ?_
          cases d1 with
          | bl c =>
            refine ⟨c, rfl, ?_⟩
            cases c with
            | false => exact tl_go (wpBs_mono (.cons b bs)) e1 rs1 sl1 h1 fun F2 H2 z w st2 e2 rs2 sl2 d2 h2 => h2 F2 H2 z (e1.trans e2) rs2 d2
            | true => exact h1 F1 H1 _ e1 rs1 (.bl _)
          | _ => exact h1.elim
theorem sO : ∀ (e : OE) {X : Cx} {C : SC} {k : Nat} {W : WX} {x : Option Expr}, CxOk X C k W → chkO e C x = true → needO (pfX X k) (pgX X) e → PO X x (tlO X W (wpO e))
  | .no, X, C, k, W, x, ok, hc, hn => by
    cases x with
    | some _ => cases hc
    | none =>
      refine impO po_none fun σ H Q q => ?_
      obtain ⟨F, τ, st, rs, sl, h⟩ := q
      exact h F H .refl rs
  | .yes a, X, C, k, W, x, ok, hc, hn => by
    cases x with
    | none => cases hc
    | some x =>
      refine impO (po_some (sE a ok hc hn)) fun σ H Q q => ?_
      obtain ⟨F, τ, st, rs, sl, h⟩ := q
      unfold wpO at h
      refine tl_go (wpE_mono a) .refl rs sl h fun F1 H1 y v st1 e1 rs1 sl1 d1 h1 => ?_
      cases d1 with
      | int i => exact ⟨i, rfl, h1 F1 H1 e1 rs1⟩
      | _ => exact h1.elim
theorem sT : ∀ (e : T) {X : Cx} {C : SC} {k : Nat} {W : WX} {x : Expr}, CxOk X C k W → chkT e C x = true → needT (pfX X k) (pgX X) e → PT X x (tlT X W (wpT e))
  | .val a, X, C, k, W, x, ok, hc, hn => by
    have hc' : (plainT x && chkE a C x) = true := hc
    simp only [Bool.and_eq_true] at hc'
    refine impT (pt_truth (sE a ok hc'.2 hn) (plain_isTrue hc'.1 _)) fun σ H Q q => ?_
    obtain ⟨F, τ, st, rs, sl, h⟩ := q
    unfold wpT at h
    refine tl_go (wpE_mono a) .refl rs sl h fun F1 H1 y v st1 e1 rs1 sl1 d1 h1 => ?_
    obtain ⟨b, h2, h3⟩ := tru_lift rs1 d1 h1
    exact ⟨b, h2, h3 F1 H1 e1 rs1⟩
  | .cmp o a b, X, C, k, W, x, ok, hc, hn => by
    unfold chkT at hc
    split at hc
    · simp only [Bool.and_eq_true, decide_eq_true_eq] at hc
      obtain ⟨⟨⟨e, h1⟩, h3⟩, h2⟩ := hc
      subst e
      refine impT (pt_cmpR (cmp_ok ok.room.units) (sE a ok h1 hn.1) (sE b ok h2 hn.2) (nobeh h3)) fun σ H Q q => ?_
      obtain ⟨F, τ, st, rs, sl, h⟩ := q
      unfold wpT at h
      refine tl_go (wpE_mono a) .refl rs sl h fun F1 H1 y v st1 e1 rs1 sl1 d1 h1 => ?_
      refine tl_go (wpE_mono b) e1 rs1 sl1 h1 fun F2 H2 z w st2 e2 rs2 sl2 d2 h2 => ?_
      refine ⟨F2, st2, v, w, rs2, d1.ext e2, d2, cmpV_mono (fun r st3 h3 => ?_) h2⟩
      intro F3 H3 u e3 rs3 d3
      cases d3 with
      | bl c => exact ⟨c, rfl, h3 F3 H3 ((e1.trans e2).trans e3) rs3⟩
      | _ => exact h3.elim
    · cases hc
  | .chain o o' a b c, X, C, k, W, x, ok, hc, hn => by
    unfold chkT at hc
    split at hc
    · simp only [Bool.and_eq_true, decide_eq_true_eq] at hc
      obtain ⟨⟨⟨⟨⟨e, e'⟩, h1⟩, h2⟩, h4⟩, h3⟩ := hc
      subst e e'
      refine impT (pt_chain (cmp_ok ok.room.units) (cmp_ok ok.room.units) (sE a ok h1 hn.1) (sE b ok h2 hn.2.1) (sE c ok h3 hn.2.2) (lastm h4)) fun σ H Q q => ?_
      obtain ⟨F, τ, st, rs, sl, h⟩ := q
      unfold wpT at h
      refine tl_go (wpE_mono a) .refl rs sl h fun F1 H1 y v st1 e1 rs1 sl1 d1 h1 => ?_
      refine tl_go (wpE_mono b) e1 rs1 sl1 h1 fun F2 H2 z w st2 e2 rs2 sl2 d2 h2 => ?_
      refine ⟨F2, st2, v, w, rs2, d1.ext e2, d2, cmpV_mono (fun r st3 h3 => ?_) h2⟩
      intro F3 H3 u e3 rs3 d3
      have e13 := (e1.trans e2).trans e3
      cases d3 with
      | bl b =>
        refine ⟨b, rfl, ?_⟩
        cases b with
        | false => exact ⟨false, rfl, h3 F3 H3 e13 rs3⟩
        | true =>
          refine tl_go (wpE_mono c) e13 rs3 (sl2.ext e3) h3 fun F4 H4 z4 w4 st4 e4 rs4 sl4 d4 h4 => ?_
          refine ⟨F4, st4, w, w4, rs4, d2.ext (e3.trans e4), d4, cmpV_mono (fun r st5 h5 => ?_) h4⟩
          intro F5 H5 u5 e5 rs5 d5
          cases d5 with
          | bl c => exact ⟨c, rfl, h5 F5 H5 ((e13.trans e4).trans e5) rs5⟩
          | _ => exact h5.elim
      | _ => exact h3.elim
    · cases hc
  | .not t, X, C, k, W, x, ok, hc, hn => by
    unfold chkT at hc
    split at hc
    · refine impT (pt_not (sT t ok hc hn)) fun σ H Q q => ?_
      obtain ⟨F, τ, st, rs, sl, h⟩ := q
      unfold wpT at h
      exact tlT_go (wpT_mono t) .refl rs sl h fun F1 H1 c st1 e1 rs1 sl1 h1 => h1 F1 H1 e1 rs1
    · cases hc
  | .bools o ts, X, C, k, W, x, ok, hc, hn => by
    unfold chkT at hc
    split at hc
    · rename_i o' xs pos
      simp only [Bool.and_eq_true, decide_eq_true_eq] at hc
      obtain ⟨⟨e, hne⟩, h1⟩ := hc
      subst e
      have hne' : xs ≠ [] := by
        intro z; subst z; cases hne
      refine impT (PW.pt (sTs ts (o := o) ok h1 hne' hn)) fun σ H Q q => ?_
      obtain ⟨F, τ, st, rs, sl, h⟩ := q
      unfold wpT at h
      exact ⟨F, τ, st, rs, sl, h⟩
    · cases hc
  | .ite _ _ _, X, C, k, W, x, ok, hc, hn => by
    unfold chkT at hc
    cases hc
theorem sTs : ∀ (e : Ts) {o : BoolOp} {X : Cx} {C : SC} {k : Nat} {W : WX} {x : List Expr} {pos : Pos}, CxOk X C k W → chkTs e C x = true → x ≠ [] → needTs (pfX X k) (pgX X) e → PW X (.BoolOp o x pos) (tlT X W (wpTs o e))
  | .nil, o, X, C, k, W, xs, pos, ok, hc, hne, hn => by
    cases xs with
    | nil => exact absurd rfl hne
    | cons _ _ => cases hc
  | .cons t .nil, o, X, C, k, W, xs, pos, ok, hc, hne, hn => by
    cases xs with
    | nil => cases hc
    | cons x r =>
      have h' : (chkT t C x && chkTs .nil C r) = true := hc
      simp only [Bool.and_eq_true] at h'
      cases r with
      | cons _ _ => cases h'.2
      | nil =>
        cases o with
        | And =>
          refine impW (pw_and1 (sT t ok h'.1 hn.1)) fun σ H Q q => ?_
          obtain ⟨F, τ, st, rs, sl, h⟩ := q
          unfold wpTs at h
          refine tlT_go (wpT_mono t) .refl rs sl h fun F1 H1 c st1 e1 rs1 sl1 h1 => ?_
          cases c with
          | true => exact h1 F1 H1 e1 rs1
          | false => exact h1 F1 H1 e1 rs1
        | Or =>
          refine impW (pw_or1 (sT t ok h'.1 hn.1)) fun σ H Q q => ?_
          obtain ⟨F, τ, st, rs, sl, h⟩ := q
          unfold wpTs at h
          refine tlT_go (wpT_mono t) .refl rs sl h fun F1 H1 c st1 e1 rs1 sl1 h1 => ?_
          cases c with
          | true => exact h1 F1 H1 e1 rs1
          | false => exact h1 F1 H1 e1 rs1
  | .cons t (.cons u us), o, X, C, k, W, xs, pos, ok, hc, hne, hn => by
    cases xs with
    | nil => cases hc
    | cons x r =>
      have h' : (chkT t C x && chkTs (.cons u us) C r) = true := hc
      simp only [Bool.and_eq_true] at h'
      cases r with
      | nil => cases h'.2
      | cons y r =>
        have ih := sTs (.cons u us) (o := o) (pos := pos) ok h'.2 (fun z => nomatch z) hn.2
        cases o with
        | And =>
          refine impW (pw_and (sT t ok h'.1 hn.1) ih) fun σ H Q q => ?_
          obtain ⟨F, τ, st, rs, sl, h⟩ := q
          have h : wpT t (LX X W σ F H) τ st fun k st1 => if k = true then wpTs .And (.cons u us) (LX X W σ F H) τ st1 _ else _ := h
          refine tlT_go (wpT_mono t) .refl rs sl h fun F1 H1 c st1 e1 rs1 sl1 h1 => ?_
          cases c with
          | true => exact tlT_go (wpTs_mono (.cons u us)) e1 rs1 sl1 h1 fun F2 H2 c st2 e2 rs2 sl2 h2 => h2 F2 H2 (e1.trans e2) rs2
          | false => exact h1 F1 H1 e1 rs1
        | Or =>
          refine impW (pw_or (sT t ok h'.1 hn.1) ih) fun σ H Q q => ?_
          obtain ⟨F, τ, st, rs, sl, h⟩ := q
          have h : wpT t (LX X W σ F H) τ st fun k st1 => if k = true then _ else wpTs .Or (.cons u us) (LX X W σ F H) τ st1 _ := h
          refine tlT_go (wpT_mono t) .refl rs sl h fun F1 H1 c st1 e1 rs1 sl1 h1 => ?_
          cases c with
          | false => exact tlT_go (wpTs_mono (.cons u us)) e1 rs1 sl1 h1 fun F2 H2 c st2 e2 rs2 sl2 h2 => h2 F2 H2 (e1.trans e2) rs2
          | true => exact h1 F1 H1 e1 rs1
theorem sI : ∀ (e : I) {X : Cx} {C : SC} {k : Nat} {W : WX} {g x : Expr}, CxOk X C k W → chkI e C g x = true → needI (pfX X k) (pgX X) e → PI X g x (tlI X W e.isR (wpI e))
  | .val a, X, C, k, W, g, x, ok, hc, hn => by
    refine ⟨fun pins s σ H R I q => ?_⟩
    obtain ⟨F, τ, st, rs, sl, h⟩ := q
    unfold wpI at h
    refine thn ((sE a ok hc hn).run pins s σ H (fun x H1 => ∃ b ys, x = .ref b ∧ ((SqL X.K H1 b ys ∧ (ys.length ≤ sizeLine → R (Itl X.K b) H1)) ∨ (SqT X.K H1 b ys ∧ (ys.length ≤ sizeLine → R (Itt X.K b) H1)))) I ?_) fun v s1 ⟨y, H1, I1, r1, q1⟩ => ?_
    · refine tl_go (wpE_mono a) .refl rs sl h fun F1 H1 y v st1 e1 rs1 sl1 d1 h1 => ?_
      unfold itV at h1
      split at h1
      · cases d1 with
        | tup hq ds => exact ⟨_, _, rfl, .inr ⟨hq, fun hz => h1 F1 H1 _ e1 rs1 (wp_tup hq ds) fun _ => Nat.le_trans (Nat.le_of_eq ds.length) hz⟩⟩
      · cases d1 with
        | lst f hq ds => exact ⟨_, _, rfl, .inl ⟨.of hq, fun hz => h1 F1 H1 _ e1 rs1 (wp_list f hq ds) fun _ => Nat.le_trans (Nat.le_of_eq ds.length) hz⟩⟩
      · rename_i a'
        cases e : lstOf st1 (.ref a') with
        | none => rw [e] at h1; exact h1.elim
        | some zs =>
          rw [e] at h1
          obtain ⟨b, ys, rfl, hq, ds⟩ := lstOf_ok rs1 e d1
          cases d1
          exact ⟨_, _, rfl, .inl ⟨.of hq, fun hz => h1 F1 H1 _ e1 rs1 (wp_ref zs) fun _ => Nat.le_trans (Nat.le_of_eq ds.length) hz⟩⟩
      · exact h1.elim
    · obtain ⟨b, ys, rfl, q⟩ := q1
      cases r1
      rcases q with ⟨hq, q⟩ | ⟨hq, q⟩
      · obtain ⟨_, _, _, hz⟩ := I1.list hq
        exact iter_l I1 hq (q hz)
      · obtain ⟨_, _, _, hz⟩ := I1.tuple hq
        exact iter_t I1 hq (q hz)
  | .range1 a, X, C, k, W, g, x, ok, hc, hn => by
    unfold chkI at hc
    split at hc
    · simp only [Bool.and_eq_true, decide_eq_true_eq] at hc
      obtain ⟨⟨⟨e, hg⟩, hst⟩, h1⟩ := hc
      subst e
      refine impI (pi_range1 (ok.gl hg).1 (ok.blt _ (by decide +kernel)) (pa_cons (sE a ok h1 hn) pa_nil (star_cons hst)) (star_cons hst)) fun σ H R q => ?_
      obtain ⟨F, τ, st, rs, sl, h⟩ := q
      unfold wpI at h
      refine tl_go (wpE_mono a) .refl rs sl h fun F1 H1 y v st1 e1 rs1 sl1 d1 h1 => ?_
      cases d1 with
      | int j => exact ⟨j, rfl, h1.1.1, h1.1.2, h1.2 F1 H1 _ e1 rs1 (wp_rng 0 _) (fun z => nomatch z)⟩
      | _ => exact h1.elim
    · cases hc
  | .range2 a b, X, C, k, W, g, x, ok, hc, hn => by
    unfold chkI at hc
    split at hc
    · simp only [Bool.and_eq_true, decide_eq_true_eq] at hc
      obtain ⟨⟨⟨⟨⟨e, hg⟩, hst⟩, h1⟩, hst2⟩, h2⟩ := hc
      subst e
      have hs2 : starEach [_, _] X.env = [(false, eval _ X.env), (false, eval _ X.env)] := (star_cons hst).trans (congrArg _ (star_cons hst2))
      refine impI (pi_range2 (ok.gl hg).1 (ok.blt _ (by decide +kernel)) (pa_cons (sE a ok h1 hn.1) (pa_cons (sE b ok h2 hn.2) pa_nil (star_cons hst2)) (star_cons hst)) hs2 (star_cons hst2)) fun σ H R q => ?_
      obtain ⟨F, τ, st, rs, sl, h⟩ := q
      unfold wpI at h
      refine tl_go (wpE_mono a) .refl rs sl h fun F1 H1 y v st1 e1 rs1 sl1 d1 h1 => ?_
      refine tl_go (wpE_mono b) e1 rs1 sl1 h1 fun F2 H2 z w st2 e2 rs2 sl2 d2 h2 => ?_
      cases d1 with
      | int i =>
        cases d2 with
        | int j => exact ⟨i, j, rfl, ⟨h2.1.1, h2.1.2, h2.2.1.1, h2.2.1.2⟩, h2.2.2 F2 H2 _ (e1.trans e2) rs2 (wp_rng i _) (fun z => nomatch z)⟩
        | _ => exact h2.elim
      | _ => exact h2.elim
    · cases hc
  | .enum a, X, C, k, W, g, x, ok, hc, hn => by
    unfold chkI at hc
    split at hc
    · simp only [Bool.and_eq_true, decide_eq_true_eq] at hc
      obtain ⟨⟨⟨e, hg⟩, hst⟩, h1⟩ := hc
      subst e
      refine impI (pi_enum (ok.gl hg).1 (ok.blt _ (by decide +kernel)) (pa_cons (sE a ok h1 hn) pa_nil (star_cons hst)) (star_cons hst)) fun σ H R q => ?_
      obtain ⟨F, τ, st, rs, sl, h⟩ := q
      unfold wpI at h
      refine tl_go (wpE_mono a) .refl rs sl h fun F1 H1 y v st1 e1 rs1 sl1 d1 h1 => ?_
      unfold itVL at h1
      split at h1
      · cases d1 with
        | lst f hq ds => exact ⟨_, _, rfl, .of hq, h1 F1 H1 _ e1 rs1 (wp_enumL f hq ds) (fun z => nomatch z)⟩
      · rename_i a'
        cases e : lstOf st1 (.ref a') with
        | none => rw [e] at h1; exact h1.elim
        | some zs =>
          rw [e] at h1
          obtain ⟨b, ys, rfl, hq, ds⟩ := lstOf_ok rs1 e d1
          cases d1
          exact ⟨_, _, rfl, .of hq, h1 F1 H1 _ e1 rs1 (wp_enumR zs) (fun z => nomatch z)⟩
      · exact h1.elim
    · cases hc
  | .zip a b, X, C, k, W, g, x, ok, hc, hn => by
    unfold chkI at hc
    split at hc
    · simp only [Bool.and_eq_true, decide_eq_true_eq] at hc
      obtain ⟨⟨⟨⟨⟨e, hg⟩, hst⟩, h1⟩, hst2⟩, h2⟩ := hc
      subst e
      have hs2 : starEach [_, _] X.env = [(false, eval _ X.env), (false, eval _ X.env)] := (star_cons hst).trans (congrArg _ (star_cons hst2))
      refine impI (RZ.pi_zipA (ok.gl hg).1 (ok.blt _ (by decide +kernel)) (pa_cons (sE a ok h1 hn.1) (pa_cons (sE b ok h2 hn.2) pa_nil (star_cons hst2)) (star_cons hst)) (star_cons hst) (by rw [star_cons hst2]; rfl)) fun σ H R q => ?_
      obtain ⟨F, τ, st, rs, sl, h⟩ := q
      unfold wpI at h
      refine tl_go (wpE_mono a) .refl rs sl h fun F1 H1 y v st1 e1 rs1 sl1 d1 h1 => ?_
      refine tl_go (wpE_mono b) e1 rs1 sl1 h1 fun F2 H2 z w st2 e2 rs2 sl2 d2 h2 => ?_
      unfold zipV at h2
      split at h2
      · cases d1 with
        | tup hq ds =>
          cases d2 with
          | tup hq' ds' =>
            have := sqText e2 hq
            exact ⟨_, _, _, _, rfl, .inr ⟨this, hq', h2 F2 H2 _ (e1.trans e2) rs2 (wp_zipT this (ds.ext e2) hq' ds') (fun z => nomatch z)⟩⟩
      · cases d1 with
        | lst f hq ds =>
          cases d2 with
          | lst f' hq' ds' =>
            have := e2.kp _ _ hq (.inl f)
            exact ⟨_, _, _, _, rfl, .inl ⟨.of this, .of hq', h2 F2 H2 _ (e1.trans e2) rs2 (wp_zipL (e2.le _ f) this (ds.ext e2) f' hq' ds') (fun z => nomatch z)⟩⟩
      · exact h2.elim
    · cases hc
theorem sPTs : ∀ (e : Ts) {X : Cx} {C : SC} {k : Nat} {W : WX} {x : List Expr}, CxOk X C k W → chkTs e C x = true → x.length ≤ 1 → needTs (pfX X k) (pgX X) e → PTs X x (tlT X W (wpTs .And e))
  | .nil, X, C, k, W, xs, ok, hc, hl, hn => by
    cases xs with
    | cons _ _ => cases hc
    | nil =>
      refine impTs pts_nil fun σ H Q q => ?_
      obtain ⟨F, τ, st, rs, sl, h⟩ := q
      exact h F H .refl rs
  | .cons t .nil, X, C, k, W, xs, ok, hc, hl, hn => by
    cases xs with
    | nil => cases hc
    | cons x r =>
      have h' : (chkT t C x && chkTs .nil C r) = true := hc
      simp only [Bool.and_eq_true] at h'
      cases r with
      | cons _ _ => cases h'.2
      | nil =>
        refine impTs (pts_one (sT t ok h'.1 hn.1)) fun σ H Q q => ?_
        obtain ⟨F, τ, st, rs, sl, h⟩ := q
        unfold wpTs at h
        refine tlT_go (wpT_mono t) .refl rs sl h fun F1 H1 c st1 e1 rs1 sl1 h1 => ?_
        cases c with
        | true => exact h1 F1 H1 e1 rs1
        | false => exact h1 F1 H1 e1 rs1
  | .cons t (.cons u us), X, C, k, W, xs, ok, hc, hl, hn => by
    cases xs with
    | nil => cases hc
    | cons x r =>
      have h' : (chkT t C x && chkTs (.cons u us) C r) = true := hc
      simp only [Bool.and_eq_true] at h'
      cases r with
      | nil => cases h'.2
      | cons y r => exact absurd hl (by simp)
end
end
end TK

set_option maxRecDepth 100000
set_option maxHeartbeats 8000000
namespace TK
open PySem PySem.Spec PyProof.Rows L2
/-! ### statements -/
def PD (X : Cx) (W : WX) (D : Ends) (F : FS) (H : Hp) : PEnds where
  nx := fun τ' st' => ∀ F' H' σ', Ext F H F' H' → RS X.K H' F' st' → RSl X.K H' F' τ' σ' → D.nx σ' H'
  rt := LQ X.K F H D.rt
  bk := fun τ' st' => ∀ F' H' σ', Ext F H F' H' → RS X.K H' F' st' → RSl X.K H' F' τ' σ' → D.bk σ' H'
  ct := fun τ' st' => ∀ F' H' σ', Ext F H F' H' → RS X.K H' F' st' → RSl X.K H' F' τ' σ' → D.ct σ' H'
  ex := fun e τ' st' => ∀ F' H' σ' cls d, Ext F H F' H' → RS X.K H' F' st' → RSl X.K H' F' τ' σ' → ExRep X.K X.mg H' F' e cls d → W cls d σ' H'
theorem PD.ext {X : Cx} {W : WX} {D : Ends} {F F1 : FS} {H H1 : Hp} (x : Ext F H F1 H1) : (PD X W D F H).Le (PD X W D F1 H1) :=
  ⟨fun _ _ h F' H' σ' e => h F' H' σ' (x.trans e), fun _ _ h F' H' y e => h F' H' y (x.trans e), fun _ _ h F' H' σ' e => h F' H' σ' (x.trans e), fun _ _ h F' H' σ' e => h F' H' σ' (x.trans e), fun _ _ _ h F' H' σ' c d e => h F' H' σ' c d (x.trans e)⟩
theorem PD.lx {X : Cx} {W : WX} {D : Ends} {F : FS} {H : Hp} {τ : Sl} {σ : L2.St} (sl : RSl X.K H F τ σ) : ∀ e s, (PD X W D F H).ex e τ s → LX X W σ F H e s :=
  fun e s h F' H' c d x r q => h F' H' σ c d x r (sl.ext x) q
def tls (X : Cx) (W : WX) (w : PEnds → Sl → Store → Prop) : TS := fun D σ H => ∃ F τ st, RS X.K H F st ∧ RSl X.K H F τ σ ∧ w (PD X W D F H) τ st
section
variable {X : Cx} {C : SC} {k : Nat} {W : WX}
theorem notComp_swaps {e : Expr} (h : notComp e = true) (t : Option Expr) (n : Nat) (env : Env) : swapsWith e t n env = pure false := by
  cases e <;> first | rfl | cases h
theorem noswap {g e : Expr} {env : Env} (h : (notTup g || notTup e) = true) : swappedStores [g] e env = pure none := by
  rcases Bool.or_eq_true_iff.mp h with h | h
  · cases g <;> first | rfl | cases h
  · cases e with
    | Tuple _ _ _ => cases h
    | _ =>
      unfold swappedStores
      split
      · rename_i e1
        split at e1 <;> first | (rename_i hh; cases hh; done) | cases e1
      · rfl
theorem chkG_star {tg : TG} {g : Expr} (h : chkG C tg g = true) : notStar g = true := by
  cases g with
  | Starred _ _ => cases tg <;> cases h
  | _ => rfl
theorem assign_one {g : Expr} {env : Env} (h : notStar g = true) : (assignEach [g] env).map (·.2) = [assign g env] := by
  cases g <;> first | rfl | cases h
theorem aug_ok {o : Operator} : PIp X o (rB X.K (augV o)) := by
  intro pins s σ H x y vv uu Q I rx ry ⟨F, st, v, w, rs, dv, dw, h⟩
  unfold augV at h
  split at h
  · cases dv; cases dw
    exact iop_add pins s σ H _ _ _ _ Q I rx ry ⟨_, _, rfl, rfl, h.now rs (.int _)⟩
  · cases dv; cases dw
    exact iop_sub pins s σ H _ _ _ _ Q I rx ry ⟨_, _, rfl, rfl, h.now rs (.int _)⟩
  · exact h.elim
/-- an expression, then a target -/
theorem sS_asg {tg : TG} {a : E} {D : Ends} {σ : L2.St} {H : Hp} (q : tls X W (wpS (.asg tg a)) D σ H) : tAsg (tl X W (wpE a)) (tlG X.K tg) D σ H := by
  obtain ⟨F, τ, st, rs, sl, h⟩ := q
  unfold wpS at h
  refine tl_go (wpE_mono a) .refl rs sl (wpE_mono a (PD.lx sl) (fun _ _ h => h) h) fun F1 H1 y v st1 e1 rs1 sl1 d1 h1 => ?_
  cases e : tg.asg v τ with
  | none => rw [e] at h1; exact h1.elim
  | some τ' =>
    rw [e] at h1
    exact ⟨F1, τ, τ', v, sl1, d1, e, fun σ' sl' _ => h1 F1 H1 σ' e1 rs1 sl'⟩
mutual
theorem sS : ∀ (s : S) {X : Cx} {C : SC} {k : Nat} {W : WX} {x : Stmt}, CxOk X C k W → chkS s C x = true → needS (pfX X k) (pgX X) s → PS X x (tls X W (wpS s))
  | .asg tg a, X, C, k, W, x, ok, hc, hn => by
    unfold chkS at hc
    split at hc
    · simp only [Bool.and_eq_true] at hc
      obtain ⟨⟨⟨h1, h2⟩, h3⟩, h4⟩ := hc
      exact impS (ps_asg (sE a ok h4 hn) (sG tg ok h1) (notComp_swaps h2 _ _ _) (noswap h3) (assign_one (chkG_star h1))) fun D σ H q => sS_asg q
    · cases hc
  | .asgLc i a, X, C, k, W, x, ok, hc, hn => by
    unfold chkS at hc
    split at hc
    · rename_i y py elt gs scope pos spos
      simp only [Bool.and_eq_true, decide_eq_true_eq] at hc
      obtain ⟨⟨⟨⟨⟨g1, g2⟩, g3⟩, g4⟩, g5⟩, g6⟩ := hc
      cases a with
      | comp m vs tg it ts elt' =>
        unfold chkE at g6
        split at g6
        · rename_i x0 g y ifs kz scope' pos' e6
          cases e6
          simp only [Bool.and_eq_true, decide_eq_true_eq] at g6
          obtain ⟨⟨⟨⟨⟨⟨⟨⟨⟨hk, hown⟩, hblk⟩, hsl⟩, hset⟩, h1⟩, h2⟩, h3⟩, h4⟩, h5⟩ := g6
          have ek := eq_of_beq hk
          subst ek
          have hb := fun s H a cl fp => ok.blk (vs := vs) (scope := scope) hblk s H a cl fp
          have hbk : BlkOk X.N X.env.scope scope (ownOf C.N vs) := by rw [ok.hN, ok.hsc]; exact blkOk_by hblk
          have hsw := sw_true (elt := elt) (gs := [⟨g, y, ifs, 0⟩]) (pos := pos) (py := py) (l := spos.line) (env := X.env) (by rw [ok.hsc]; have := ok.kindF; exact this) (by rw [ok.hsc]; exact g2) g3 (scope := scope) (by simpa using g4)
          have := ps_setLc (X := X) (i := i) (py := py) (elt := elt) (tg := g) (iter := y) (ifs := ifs) (scope := scope) (own := ownOf C.N vs) (pos := pos) (spos := spos) (g := tlG X.K tg) (tt := tlT X (fun _ _ _ _ => False) (wpTs .And ts)) (te := tl X (fun _ _ _ _ => False) (wpE elt'))
            ok.calm (by rw [ok.hN]; exact ok.nd) (by rw [ok.hN]; exact g1) (by rw [ok.hsc]; exact g2) hsw (sI it ok h1 hn.1) hbk
            (fun s H a cl fp => sG tg (hb s H a cl fp) h2)
            (fun s H a cl fp => sPTs ts (hb s H a cl fp) h3 h4 hn.2.1)
            (fun s H a cl fp => sE elt' (hb s H a cl fp) h5 hn.2.2) (folded hset _)
          rw [hown] at this
          refine impS this fun D σ H q => ?_
          obtain ⟨F, τ, st, rs, sl, h⟩ := q
          unfold wpS at h
          have h := wpE_mono (.comp m vs tg it ts elt') (PD.lx sl) (fun _ _ h => h) h
          unfold wpE at h
          refine tlI_go (wpI_mono it) .refl rs sl h fun F1 H1 J xs oks st1 e1 rs1 sl1 wp hz h6 => ?_
          obtain ⟨h7, h8, h9⟩ := h6
          have hlen : xs.length ≤ sizeLine := by
            cases hr : it.isR with
            | true => exact h7 hr
            | false => exact hz hr
          have hlc := lc_sound (X := X) (Q := fun x H1 => gName i x σ H1 D.nx) (tt := tlT X (fun _ _ _ _ => False) (wpTs .And ts)) (te := tl X (fun _ _ _ _ => False) (wpE elt')) hsl rs1 sl1 wp h8 hlen
            (fun {ys} h => newList_mono (fun v s h2 => (fun F2 H2 y x2 r2 d2 => h2 F2 H2 _ (e1.trans x2) r2 ((sl1.ext x2).set d2 i) : LQ X.K F1 H1 (fun x H1 => gName i x σ H1 D.nx) v s)) h) h9
            (fun σ H P q => let ⟨F, τ, st, rs, sl, h⟩ := q; ⟨F, τ, st, rs, sl, wpTs_mono ts (fun _ _ z => z.elim) (fun _ _ h => h) h⟩)
            (fun σ H P q => let ⟨F, τ, st, rs, sl, h⟩ := q; ⟨F, τ, st, rs, sl, wpE_mono elt' (fun _ _ z => z.elim) (fun _ _ h => h) h⟩) (fun hp h => wpTs_mono ts (fun _ _ z => z) hp h) (fun hp h => wpE_mono elt' (fun _ _ z => z) hp h)
          exact hlc
        · cases g6
      | _ => cases g5
    · cases hc
  | .setIx o i a, X, C, k, W, x, ok, hc, hn => by
    unfold chkS at hc
    split at hc
    · rename_i y z ps e ps'
      simp only [Bool.and_eq_true] at hc
      obtain ⟨⟨⟨h1, h2⟩, h3⟩, h4⟩ := hc
      have hz : ∀ v, assign (.Subscript y z ps) X.env v = (do
          let ov ← holding [v] (eval y X.env)
          let iv ← holding [v, ov] (eval z X.env)
          standAt ps
          holding [v, ov, iv] (setItem ov iv v)
          release [v, ov, iv] []) := by
        intro v
        cases z <;> first | rfl | cases h1
      have hs : swapsWithSole [.Subscript y z ps] e ps'.line X.env = pure false := by
        show swapsWith e (some (.Subscript y z ps)) ps'.line X.env = pure false
        cases e <;> rfl
      refine impS (ps_asg (sE a ok h4 hn.2.2) (pg_sub (sE o ok h2 hn.1) (sE i ok h3 hn.2.1) set_ok hz) hs rfl rfl) fun D σ H q => ?_
      obtain ⟨F, τ, st, rs, sl, h⟩ := q
      unfold wpS at h
      refine tl_go (wpE_mono a) .refl rs sl (wpE_mono a (PD.lx sl) (fun _ _ h => h) h) fun F1 H1 y v st1 e1 rs1 sl1 d1 h1 => ?_
      refine tl_go (wpE_mono o) e1 rs1 sl1 (wpE_mono o (PD.lx sl) (fun _ _ h => h) h1) fun F2 H2 y2 v2 st2 e2 rs2 sl2 d2 h2 => ?_
      refine tl_go (wpE_mono i) (e1.trans e2) rs2 sl2 (wpE_mono i (PD.lx sl) (fun _ _ h => h) h2) fun F3 H3 y3 v3 st3 e3 rs3 sl3 d3 h3 => ?_
      refine ⟨F3, st3, v2, v3, v, rs3, d2.ext e3, d3, d1.ext (e2.trans e3), setIxV_mono (fun s4 h4 F4 H4 e4 rs4 => ?_) h3⟩
      exact h4 F4 H4 σ (((e1.trans e2).trans e3).trans e4) rs4 (sl3.ext e4)
    · cases hc
  | .aug i o a, X, C, k, W, x, ok, hc, hn => by
    unfold chkS at hc
    split at hc
    · simp only [Bool.and_eq_true, decide_eq_true_eq] at hc
      obtain ⟨⟨⟨h1, h2⟩, h3⟩, h4⟩ := hc
      subst h3
      obtain ⟨l1, l2⟩ := ok.tg _ h2
      refine impS (ps_aug (i := i) (by rw [ok.hN]; exact ok.nd) (by rw [ok.hN]; exact h1) (by rw [ok.hsc]; exact l1) (sE a ok h4 hn) aug_ok (by rw [ok.hsc]; exact l2)) fun D σ H q => ?_
      obtain ⟨F, τ, st, rs, sl, h⟩ := q
      unfold wpS at h
      cases e : getS τ i with
      | none => rw [e] at h; exact h.elim
      | some v =>
        rw [e] at h
        obtain ⟨y, e', d⟩ := sl.2 i v e
        refine ⟨y, e', tl_go (wpE_mono a) .refl rs sl (wpE_mono a (PD.lx sl) (fun _ _ h => h) h) fun F1 H1 y1 v1 st1 e1 rs1 sl1 d1 h1 => ?_⟩
        refine ⟨F1, st1, v, v1, rs1, d.ext e1, d1, augV_mono (fun z s2 h2 F2 H2 y2 e2 rs2 d2 => ?_) h1⟩
        exact h2 F2 H2 _ (e1.trans e2) rs2 ((sl1.ext e2).set d2 i)
    · cases hc
  | .expr a, X, C, k, W, x, ok, hc, hn => by
    unfold chkS at hc
    split at hc
    · simp only [Bool.and_eq_true] at hc
      refine impS (ps_expr (sE a ok hc.2 hn) (notComp_swaps hc.1 _ _ _)) fun D σ H q => ?_
      obtain ⟨F, τ, st, rs, sl, h⟩ := q
      unfold wpS at h
      exact tl_go (wpE_mono a) .refl rs sl (wpE_mono a (PD.lx sl) (fun _ _ h => h) h) fun F1 H1 y1 v1 st1 e1 rs1 sl1 d1 h1 => h1 F1 H1 σ e1 rs1 sl1
    · cases hc
  | .ret a, X, C, k, W, x, ok, hc, hn => by
    unfold chkS at hc
    split at hc
    · refine impS (ps_ret (sE a ok hc hn)) fun D σ H q => ?_
      obtain ⟨F, τ, st, rs, sl, h⟩ := q
      unfold wpS at h
      exact ⟨F, τ, st, rs, sl, wpE_mono a (PD.lx sl) (fun _ _ h => h) h⟩
    · cases hc
  | .retN, X, C, k, W, x, ok, hc, hn => by
    unfold chkS at hc
    split at hc
    · refine impS ps_retN fun D σ H q => ?_
      obtain ⟨F, τ, st, rs, sl, h⟩ := q
      exact h F H _ .refl rs .non
    · cases hc
  | .ite t a b, X, C, k, W, x, ok, hc, hn => by
    unfold chkS at hc
    split at hc
    · simp only [Bool.and_eq_true] at hc
      obtain ⟨⟨h1, h2⟩, h3⟩ := hc
      refine impS (ps_if (sT t ok h1 hn.1) (sSs a ok h2 hn.2.1) (sSs b ok h3 hn.2.2)) fun D σ H q => ?_
      obtain ⟨F, τ, st, rs, sl, h⟩ := q
      unfold wpS at h
      refine tlT_go (wpT_mono t) .refl rs sl (wpT_mono t (PD.lx sl) (fun _ _ h => h) h) fun F1 H1 c st1 e1 rs1 sl1 h1 => ?_
      cases c with
      | true => exact ⟨F1, τ, st1, rs1, sl1, wpSs_mono a (PD.ext e1) h1⟩
      | false => exact ⟨F1, τ, st1, rs1, sl1, wpSs_mono b (PD.ext e1) h1⟩
    · cases hc
  | .loop tg it b, X, C, k, W, x, ok, hc, hn => by
    unfold chkS at hc
    split at hc
    · simp only [Bool.and_eq_true] at hc
      obtain ⟨⟨⟨h1, h2⟩, h3⟩, h4⟩ := hc
      refine impS (ps_for ok.po ok.calm (sI it ok h3 hn.1) (sG tg ok h1) (sSs b ok h4 hn.2) (folded h2 _)) fun D σ H q => ?_
      obtain ⟨F, τ, st, rs, sl, h⟩ := q
      unfold wpS at h
      refine tlI_go (wpI_mono it) .refl rs sl (wpI_mono it (PD.lx sl) (fun _ _ _ h => h) h) fun F1 H1 J xs oks st1 e1 rs1 sl1 wp hz h6 => ?_
      refine ⟨fun i m σ H2 => m = xs.length - i ∧ i ≤ xs.length ∧ ∃ F2 τ2 st2, Ext F1 H1 F2 H2 ∧ RS X.K H2 F2 st2 ∧ RSl X.K H2 F2 τ2 σ ∧ forL tg (wpSs b) oks (xs.drop i) (PD X W D F H) τ2 st2,
        ⟨xs.length, rfl, Nat.zero_le _, F1, τ, st1, .refl, rs1, sl1, h6⟩, ?_⟩
      rintro i m σ2 H2 ⟨rfl, hi, F2, τ2, st2, x2, r2, sl2, hf⟩
      by_cases hlt : i < xs.length
      · have hd : xs.drop i = xs[i] :: xs.drop (i + 1) := List.drop_eq_getElem_cons hlt
        rw [hd] at hf
        have hf' : oks st2 ∧ oP (tg.asg xs[i] τ2) fun τ1 => wpSs b { PD X W D F H with nx := forL tg (wpSs b) oks (xs.drop (i + 1)) (PD X W D F H), ct := forL tg (wpSs b) oks (xs.drop (i + 1)) (PD X W D F H), bk := (PD X W D F H).nx } τ1 st2 := hf
        refine .inr ⟨wp.go i F2 H2 _ hlt x2 r2 hf'.1, fun σ' H' => ∃ F3 τ3 st3, Ext F1 H1 F3 H' ∧ RS X.K H' F3 st3 ∧ RSl X.K H' F3 τ3 σ' ∧ forL tg (wpSs b) oks (xs.drop (i + 1)) (PD X W D F H) τ3 st3,
          fun σ' H' ⟨F3, τ3, st3, a1, a2, a3, a4⟩ => ⟨xs.length - (i + 1), by omega, rfl, hlt, F3, τ3, st3, a1, a2, a3, a4⟩, fun x H' y => ?_⟩
        obtain ⟨x3, r3, v, hv, dv⟩ := wp.yld i F2 H2 _ x H' hlt x2 r2 hf'.1 y
        rw [List.getElem?_eq_getElem hlt] at hv
        cases (Option.some.inj hv)
        have h8 := hf'.2
        cases ea : tg.asg xs[i] τ2 with
        | none => rw [ea] at h8; exact h8.elim
        | some τ3 =>
          rw [ea] at h8
          refine ⟨F2, τ2, τ3, _, sl2.ext x3, dv, ea, fun σ3 sl3 _ => ⟨F2, τ3, st2, r3, sl3, wpSs_mono b ?_ h8⟩⟩
          have x13 := x2.trans x3
          have le := PD.ext (X := X) (W := W) (D := D) (e1.trans x13)
          exact ⟨fun τ' s' h F' H'' σ' x4 r4 sl4 => ⟨F', τ', s', x13.trans x4, r4, sl4, h⟩, le.rt, le.nx, fun τ' s' h F' H'' σ' x4 r4 sl4 => ⟨F', τ', s', x13.trans x4, r4, sl4, h⟩, le.ex⟩
      · have e : i = xs.length := by omega
        subst e
        rw [List.drop_length] at hf
        exact .inl ⟨wp.stop F2 H2 _ x2 r2 hf.1, hf.2 F2 H2 σ2 (e1.trans x2) r2 sl2⟩
    · cases hc
  | .while t b, X, C, k, W, x, ok, hc, hn => by
    unfold chkS at hc
    split at hc
    · simp only [Bool.and_eq_true] at hc
      refine impS (ps_while ok.po (sT t ok hc.1 hn.1) (sSs b ok hc.2 hn.2)) fun D σ H q => ?_
      obtain ⟨F, τ, st, rs, sl, h⟩ := q
      unfold wpS at h
      obtain ⟨Wv, ⟨n0, w0⟩, h⟩ := h
      refine ⟨fun n σ2 H2 => ∃ F2 τ2 st2, Ext F H F2 H2 ∧ RS X.K H2 F2 st2 ∧ RSl X.K H2 F2 τ2 σ2 ∧ Wv n τ2 st2, ⟨n0, F, τ, st, .refl, rs, sl, w0⟩, ?_⟩
      rintro n σ2 H2 ⟨F2, τ2, st2, x2, r2, sl2, w2⟩
      have h2 := h n τ2 st2 w2
      refine ⟨F2, τ2, st2, r2, sl2, wpT_mono t (fun e s h => PD.lx sl2 e s ((PD.ext x2).ex _ _ _ h)) (fun c s hcs => ?_) h2⟩
      intro F3 H3 x3 r3
      have x13 := x2.trans x3
      have le := PD.ext (X := X) (W := W) (D := D) x13
      cases c with
      | true =>
        refine ⟨fun σ' H' => ∃ m, m < n ∧ ∃ F4 τ4 st4, Ext F H F4 H' ∧ RS X.K H' F4 st4 ∧ RSl X.K H' F4 τ4 σ' ∧ Wv m τ4 st4, fun σ' H' ⟨m, hm, q⟩ => ⟨m, hm, q⟩, F3, τ2, s, r3, sl2.ext x3, wpSs_mono b ?_ hcs⟩
        exact ⟨fun τ' s' ⟨m, hm, hw⟩ F' H'' σ' x4 r4 sl4 => ⟨m, hm, F', τ', s', x13.trans x4, r4, sl4, hw⟩, le.rt, le.nx, fun τ' s' ⟨m, hm, hw⟩ F' H'' σ' x4 r4 sl4 => ⟨m, hm, F', τ', s', x13.trans x4, r4, sl4, hw⟩, le.ex⟩
      | false => exact hcs F3 H3 σ2 x13 r3 (sl2.ext x3)
    · cases hc
  | .pass, X, C, k, W, x, ok, hc, hn => by
    unfold chkS at hc
    split at hc
    · refine impS ps_pass fun D σ H q => ?_
      obtain ⟨F, τ, st, rs, sl, h⟩ := q
      exact h F H σ .refl rs sl
    · cases hc
  | .brk, X, C, k, W, x, ok, hc, hn => by
    unfold chkS at hc
    split at hc
    · refine impS ps_break fun D σ H q => ?_
      obtain ⟨F, τ, st, rs, sl, h⟩ := q
      exact h F H σ .refl rs sl
    · cases hc
  | .cont, X, C, k, W, x, ok, hc, hn => by
    unfold chkS at hc
    split at hc
    · refine impS ps_continue fun D σ H q => ?_
      obtain ⟨F, τ, st, rs, sl, h⟩ := q
      exact h F H σ .refl rs sl
    · cases hc
  | .never, X, C, k, W, x, ok, hc, hn => by
    refine impS ps_never fun D σ H q => ?_
    obtain ⟨F, τ, st, rs, sl, h⟩ := q
    exact h
theorem sSs : ∀ (s : Ss) {X : Cx} {C : SC} {k : Nat} {W : WX} {x : List Stmt}, CxOk X C k W → chkSs s C x = true → needSs (pfX X k) (pgX X) s → PSs X x (tls X W (wpSs s))
  | .nil, X, C, k, W, xs, ok, hc, hn => by
    cases xs with
    | cons _ _ => cases hc
    | nil =>
      refine impSs pss_nil fun D σ H q => ?_
      obtain ⟨F, τ, st, rs, sl, h⟩ := q
      exact h F H σ .refl rs sl
  | .cons s ss, X, C, k, W, xs, ok, hc, hn => by
    cases xs with
    | nil => cases hc
    | cons x r =>
      have h' : (chkS s C x && chkSs ss C r) = true := hc
      simp only [Bool.and_eq_true] at h'
      refine impSs (pss_cons (sS s ok h'.1 hn.1) (sSs ss ok h'.2 hn.2)) fun D σ H q => ?_
      obtain ⟨F, τ, st, rs, sl, h⟩ := q
      unfold wpSs at h
      refine ⟨F, τ, st, rs, sl, wpS_mono s ?_ h⟩
      exact ⟨fun τ' s' h F' H' σ' e r sl => ⟨F', τ', s', r, sl, wpSs_mono ss (PD.ext e) h⟩, fun _ _ h => h, fun _ _ h => h, fun _ _ h => h, fun _ _ _ h => h⟩
end
end
end TK

set_option maxRecDepth 100000
set_option maxHeartbeats 4000000
namespace TK
open PySem PySem.Spec PyProof.Rows L2
/-! ### a def by its body -/
theorem getS_some : ∀ {τ : Sl} {i : Nat} {v : PV}, getS τ i = some v → τ[i]? = some (some v)
  | [], _, _, h => by cases h
  | _ :: _, 0, _, h => by
    have h' : _ = some _ := h
    rw [List.getElem?_cons_zero]; exact congrArg some h'
  | _ :: r, i + 1, v, h => by
    rw [List.getElem?_cons_succ]
    exact getS_some (τ := r) h
theorem start_init {K : PySem.W.Frag} {H : Hp} {F : FS} {N : List Str} {pvs : List PV} {vs : List V} (d : DVs K H F pvs vs) : RSl K H F (initS N.length pvs) (L2.start N vs) := by
  have hl := d.length
  refine ⟨by unfold initS L2.start; simp only [List.length_append, List.length_map, List.length_replicate]; omega, fun i v e => ?_⟩
  have hi : (initS N.length pvs)[i]? = some (some v) := getS_some e
  unfold initS at hi
  by_cases h : i < pvs.length
  · rw [List.getElem?_append_left (by simpa using h), List.getElem?_map] at hi
    cases e2 : pvs[i]? with
    | none => rw [e2] at hi; cases hi
    | some w =>
      rw [e2] at hi; cases hi
      obtain ⟨y, e3, dy⟩ := d.get e2
      refine ⟨y, ?_, dy⟩
      unfold L2.start
      rw [List.getElem?_append_left (by simpa [← hl] using h), List.getElem?_map, e3]; rfl
  · rw [List.getElem?_append_right (by simpa using h), List.getElem?_replicate] at hi
    split at hi <;> cases hi
theorem fnG_of {P : Program} {w : World} {K : PySem.W.Frag} {mg : Str → Option Value} {base : Heap} {k n : Nat} {f : Addr} {fd : FuncData} {x qual : Str} {st : Stmt} {N ps : List Str} {sp : PSpec} {body : Ss}
    (F : L2.Fun K x qual st f fd) (S : FnScope N ps (defScope st)) (hbl : ∀ x ∈ bltNames, mg x = none) (hpn : ps.length = n)
    (hc : chkSs body ⟨N, defScope st, defScope st⟩ (defBody st) = true) (hn : needSs (HasFn ⟨P, w, K, mg, base⟩ k) (HasGl ⟨P, w, K, mg, base⟩) body)
    (hs : ∀ vs s Q X, vs.length = n → sp vs s Q X → wpFn N.length body vs s Q X) : FnG P w K mg base (k + 1) f fd ps (liftSp K mg n sp) := by
  obtain ⟨oc, od, kV, doc, pm, an, cdv, ct, osl, rfl, lk, hcd⟩ := F.ex
  refine ⟨fun vs H Q E ⟨_, _, _, _, _, h, _⟩ => h.trans hpn.symm, fun A outer s H args us vs Q E hg hr e0 hb r hsp => ?_⟩
  obtain ⟨F0, s0, pvs, rs, dvs, hl, Q0, X0, hsp0, hQ0, hX0⟩ := hsp
  have hl' : vs.length = ps.length := hl.trans hpn.symm
  have KX : K.In s.heap := e0.mod.kin.keeps fun b o e => (e0.bs b o e).1
  have lim : s.heap.NoLimit := e0.mod.nolimit.keeps fun b o e => (e0.bs b o e).1
  have hkind : ∀ y ∈ ps.zip us, (defScope st).names.lookup y.1 = some .local ∨ ((defScope st).names.lookup y.1 = some .cell ∧ ((cellsFrom (s.heap.objs.size + 1) (defScope st).names []).lookup y.1).isSome = true) := fun ⟨n, v⟩ hy => by
    rcases S.par n (List.of_mem_zip hy).1 with q | q
    · exact .inl q
    · exact .inr ⟨q, PySem.W.cellsFrom_some _ _ _ (.inl q)⟩
  refine codeAny_call_function hr.depth (KX _ _ lk) rfl S.co S.gen rfl (PySem.W.codeRec_of KX hcd) (hb _ _ _ _ ?_)
  refine wpAny_newFunctionEnv_cells S.kind hkind fun env he s1 x => ?_
  subst he
  refine ⟨lim.keeps x.toInCall.keep, codeAny_func ?_⟩
  have hroom := hr.deeper (envOfC qual (defScope st) s.heap.objs.size f cdv)
  have ok : CxOk (cxOf (L2.CX P w) P w K mg base N qual (defScope st) f cdv A outer s H E) ⟨N, defScope st, defScope st⟩ k (fun cls d _ H => E cls d H) :=
    { hN := rfl, nd := S.nd, hsc := rfl, calm := rfl, kindF := S.kind, room := hroom, gds := hg, tk := takes_of rfl rfl rfl rfl, po := passes_of rfl, blt := hbl
      tg := fun y hy => by
        unfold locB at hy
        refine ⟨?_, .inl rfl⟩
        split at hy
        · exact .inl ‹_›
        · exact .inr ‹_›
        · cases hy }
  have ht := sSs body ok hc hn
  have hq : tls (cxOf (L2.CX P w) P w K mg base N qual (defScope st) f cdv A outer s H E) (fun cls d _ H => E cls d H) (wpSs body) { nx := fun _ H' => Q .non H', rt := Q } (L2.start N vs) H := by
    have hw := hs pvs s0 Q0 X0 (dvs.length.trans hl) hsp0
    unfold wpFn at hw
    refine ⟨F0, initS N.length pvs, s0, rs, start_init dvs, wpSs_mono body ⟨?_, ?_, ?_, ?_, ?_⟩ hw⟩
    · rintro τ' s' ⟨s2, sub, h⟩ F' H' σ' ex r' _
      exact hQ0 _ _ h F' H' _ ex (r'.less sub) .non
    · rintro v s' ⟨s2, sub, h⟩ F' H' y ex r' d'
      exact hQ0 _ _ h F' H' y ex (r'.less sub) d'
    · exact fun _ _ h => h.elim
    · exact fun _ _ h => h.elim
    · rintro e τ' s' ⟨s2, sub, h⟩ F' H' σ' cls d ex r' _ rep
      exact hX0 _ _ h F' H' cls d ex (r'.less sub) rep
  have I : Inv (cxOf (L2.CX P w) P w K mg base N qual (defScope st) f cdv A outer s H E) [] (L2.start N vs) H s1 := inv_start S hr.hd e0 hl' r x
  refine wpAny_mono (ht.run [] s1 (L2.start N vs) H _ I hq) (fun fl s' hs => ?_) fun e s' hs => hs
  have fin : ∀ {σ' : L2.St} {H' : Hp} {v : V} {u : Value}, Inv (cxOf (L2.CX P w) P w K mg base N qual (defScope st) f cdv A outer s H E) [] σ' H' s' → RelV v u → Q v H' → CE outer P w H s Q u s' :=
    fun {σ' H' v u} J rv q => ⟨v, H', J.os, J.bare, J.base, J.hok, rv, q⟩
  cases fl with
  | ret u =>
    obtain ⟨v, σ', H', J, rv, q⟩ := hs
    exact fin J rv q
  | next =>
    obtain ⟨σ', H', J, q⟩ := hs
    exact fin (v := V.non) (u := Value.none) J rfl q
  | brk =>
    obtain ⟨_, _, _, q⟩ := hs
    exact False.elim q
  | cont =>
    obtain ⟨_, _, _, q⟩ := hs
    exact False.elim q
/-- every parameter is given by position -/
theorem hasFn_of {P : Program} {w : World} {K : PySem.W.Frag} {mg : Str → Option Value} {base : Heap} {k n : Nat} {f : Addr} {fd : FuncData} {x : Str} {st : Stmt} {N ps : List Str} {sp : PSpec} {body : Ss}
    (F : L2.Fun K x x st f fd) (hm : mg x = some (.ref f)) (b : Binds K fd ps []) (S : FnScope N ps (defScope st)) (hbl : ∀ x ∈ bltNames, mg x = none) (hpn : ps.length = n)
    (hc : chkSs body ⟨N, defScope st, defScope st⟩ (defBody st) = true) (hn : needSs (HasFn ⟨P, w, K, mg, base⟩ k) (HasGl ⟨P, w, K, mg, base⟩) body)
    (hs : ∀ vs s Q X, vs.length = n → sp vs s Q X → wpFn N.length body vs s Q X) : HasFn ⟨P, w, K, mg, base⟩ (k + 1) x sp n :=
  ⟨f, fd, ps, hm, F.kp, b, hpn, fnG_of F S hbl hpn hc hn hs⟩
theorem HasGl.int {Γ : Wd} {x : Str} {n : Int} {t : Tok} (h : Γ.mg x = some (.int n t)) : HasGl Γ x (.int n) := ⟨_, .int n, h, ⟨t, rfl⟩, fun _ _ => .int n⟩
theorem HasGl.str {Γ : Wd} {x : Str} {n : Str} {t : Tok} (h : Γ.mg x = some (.str n t)) : HasGl Γ x (.str n) := ⟨_, .str n, h, ⟨t, rfl⟩, fun _ _ => .str n⟩

/-! ### the law's own head -/
/-- a law's promise: a short script, and it answers True -/
def lawSp : PSpec := fun vs st Q _ => ∃ ns : List Int, vs = [.scr ns] ∧ ns.length ≤ 63 ∧ ∀ s, Q (.bl true) s
theorem scr_of {K : PySem.W.Frag} {H : Hp} {a : Addr} {ys : List V} (hO : Only H) (h : SqL K H a ys) : ScrL K H a ys := by
  rcases h with (h | h) | h
  · rcases hO a with z | ⟨o, xs, z⟩
    · rw [z] at h; cases h
    · rw [z] at h; cases h
  · exact .inl h
  · exact .inr (.inr h)
theorem lawcall {P : Program} {w : World} {K : PySem.W.Frag} {mg mb : Str → Option Value} {k : Nat} {fa a : Addr} {fd : FuncData} {x : Str} {s₁ : Shared} {vs : List Value} {ns : List Int}
    (KX : K.In s₁.heap) (hns : s₁.heap.Ns mainGlobals mg) (hb : s₁.heap.Ns builtinsNs mb) (hbb : ∀ x : Str, x ≠ "__name__" → mb x = bootBuiltins x) (hlim : s₁.heap.NoLimit) (hg : s₁.gens = #[])
    (ha : s₁.heap.get? a = some { cls := .type "list", data := .seq vs.toArray }) (hi : IntsAre vs ns) (hl : ns.length ≤ 63) (hr : Room k callerA)
    (F : ∀ base : Heap, K.In base → base.Ns mainGlobals mg → FnG P w K mg base k fa fd [x] (liftSp K mg 1 lawSp)) (hbind : ∀ (s : Shared) (u : Value), BindsTo s fd ⟨[u], []⟩ [(x, u)]) :
    codeAny (model P w) callerA (.call (.ref fa) ⟨[.ref a], []⟩) (fun r s' => r = .ok (.ret (.bool true)) ∧ OldK s₁.heap s'.heap ∧ s'.os = s₁.os ∧ AllBare s'.gens) s₁ := by
  have rv := vals_ints hi
  have lenV := hi.length
  have hlz : ns.length ≤ sizeLine := Nat.le_trans hl (by decide)
  have core : ∀ H : Hp, Only H → SqL K H a (ns.map V.int) → HOk P w H s₁.heap → (∀ b, H b ≠ none → b = a) → (H a ≠ none → K.lookup a = none) →
      codeAny (model P w) callerA (.call (.ref fa) ⟨[.ref a], []⟩) (fun r s' => r = .ok (.ret (.bool true)) ∧ OldK s₁.heap s'.heap ∧ s'.os = s₁.os ∧ AllBare s'.gens) s₁ := by
    intro H hO hS hok hA hK
    have base_of : ∀ {b : Addr} {o : Obj}, s₁.heap.get? b = some o → H b = none → (hidT s₁.heap H).get? b = some o := fun e n => hidT_get e n
    have noA : ∀ {b : Addr} {o : Obj} {es : Array DictEntry} {ep : Nat}, s₁.heap.get? b = some o → o.data = .dict es ep → H b = none := fun {b o es ep} e d => by
      cases q : H b with
      | none => rfl
      | some u =>
        have e' : b = a := hA b (by rw [q]; simp)
        subst e'
        rw [ha] at e; cases e
        have d' : Data.seq vs.toArray _ = Data.dict es ep := d
        cases d'
    have nsK : ∀ {b : Addr} {m : Str → Option Value}, s₁.heap.Ns b m → (hidT s₁.heap H).Ns b m := fun {b m} ⟨o, es, ep, e, d, r⟩ => ⟨o, es, ep, base_of e (noA e d), d, r⟩
    have hKb : K.In (hidT s₁.heap H) := fun b o e => base_of (KX b o e) (by
      cases q : H b with
      | none => rfl
      | some u =>
        have e' : b = a := hA b (by rw [q]; simp)
        subst e'
        rw [hK (by rw [q]; simp)] at e; cases e)
    have hM : Mod K mg (hidT s₁.heap H) := ⟨hKb, nsK hns, ⟨mb, nsK hb, hbb⟩, let ⟨mc, h1, h2⟩ := hlim; ⟨mc, nsK h1, h2⟩⟩
    have e0 : Env0 P w K mg (hidT s₁.heap H) callerA [] s₁ H := ⟨rfl, hM, fun b o e => of_hidT e, Nat.le_of_eq (hidT_size _ _), trivial, fun b hb => absurd (show b ∈ ([] : List Addr) from hb) (by simp), hok, .of_eq hg⟩
    have hsp : liftSp K mg 1 lawSp [.ref a] H (fun v _ => v = .bl true) fun _ _ _ => False :=
      ⟨fun _ => False, fun _ => none, [.scr ns], ⟨fun _ _ e => (nomatch e), fun _ e => (nomatch e), fun _ f => f.elim⟩, .cons (.scr (scr_of hO hS)) .nil, rfl,
        fun v _ => v = .bl true, fun _ _ => False, ⟨ns, rfl, hl, fun _ => rfl⟩, fun v s e F' H' y _ _ d => by subst e; cases d; rfl, fun _ _ h => h.elim⟩
    refine codeAny_mono ((F _ hKb (nsK hns)).run callerA [] s₁ H ⟨[.ref a], []⟩ [.ref a] [.ref a] _ _ rfl hr e0 (hbind s₁ (.ref a)) (.cons rfl .nil) hsp) fun r s' h => ?_
    cases r with
    | error e => exact (by
        obtain ⟨_, _, _, _, _, _, _, _, _, _, _, _, h⟩ := h
        exact h.elim)
    | ok fl =>
      cases fl with
      | next => exact False.elim h
      | brk => exact False.elim h
      | cont => exact False.elim h
      | ret u =>
        obtain ⟨v, H', os, bare, un, hok', r', q⟩ := h
        have q' : v = .bl true := q
        subst q'
        obtain rfl : u = Value.bool true := r'
        refine ⟨rfl, OldK.of_keep fun b o e => ?_, os, bare⟩
        cases q : H b with
        | none => exact un.keep b o e q (by intro z; exact absurd (show b ∈ ([] : List Addr) from z) (by simp)) (by simp)
        | some u =>
          rcases hO b with z | ⟨ob, xs, z⟩
          · rw [q] at z; cases z
          · have z2 := un.frzs b ob _ z
            obtain ⟨e1, _⟩ := hok b _ z
            obtain ⟨e2, _⟩ := hok' b _ z2
            rw [e] at e1; cases e1
            exact e2
  cases hk : K.lookup a with
  | some o =>
    have e := KX a o hk
    rw [ha] at e
    cases e
    refine core (fun _ => none) (fun _ => .inl rfl) (.inr ⟨_, vs.toArray, _, hk, rfl, rfl, rfl, by rw [List.size_toArray, lenV]; exact hlz, by simpa using rv⟩) (fun b u z => by have z' : (none : Option HO) = some u := z; cases z') (fun b z => absurd rfl z) fun z => absurd rfl z
  | none =>
    refine core (fun b => if b = a then some (.frz { cls := .type "list", data := .seq vs.toArray } (.lst (ns.map V.int))) else none) (fun b => ?_) (.inl (.inr ⟨{ cls := .type "list", data := .seq vs.toArray }, if_pos rfl⟩)) (fun b u z => ?_) (fun b z => ?_) fun _ => hk
    · by_cases hb : b = a
      · exact .inr ⟨_, _, if_pos hb⟩
      · exact .inl (if_neg hb)
    · by_cases hb : b = a
      · have z' := (if_pos hb).symm.trans z
        cases z'
        subst hb
        exact ⟨ha, by rw [List.length_map]; exact hlz, vs, _, rv, ha⟩
      · have z' := (if_neg hb).symm.trans z
        cases z'
    · by_cases hb : b = a
      · exact hb
      · exact absurd (if_neg hb) z
/-- the goal that k_fill leaves, from the law's def -/
theorem walk_of {l : PySem.W.OpenLaw} {k : Nat} {q : Program} {loose : List Str} {XP : (Str → Option Value) → Heap → Prop} {YP : World → Heap → Prop} {d : DefRec} {K : Params → PySem.W.Frag} {x : Str}
    (hn : l.most = some 63) (hdf : d.params.defaults = []) (hr : Room k callerA)
    (hY : ∀ (w : World) (h : Heap), YP w h → (K w.params).In h)
    (F : ∀ (w : World) (mg : Str → Option Value) (fa : Addr) (h : Heap), (K w.params).In h → h.Ns mainGlobals mg → mg d.name = some (.ref fa) →
      ∃ fd : FuncData, (∀ (s : Shared) (u : Value), BindsTo s fd ⟨[u], []⟩ [(x, u)]) ∧
        ∀ base : Heap, (K w.params).In base → base.Ns mainGlobals mg → FnG l.prog w (K w.params) mg base k fa fd [x] (liftSp (K w.params) mg 1 lawSp)) :
    PySem.W.WalkO q loose XP YP l.row.toRowW d [] (fun f vs => PySem.call f vs) := by
  refine Att.attach_call hn hdf fun w s₀ s₁ mg mb fa o pm cd doc a vs ns G Y ho hd hcd hmg hobj hints hlen hg => ?_
  have KX := hY w _ Y
  obtain ⟨fd, hb, hF⟩ := F w mg fa _ KX G.T.g hmg
  exact lawcall KX G.T.g G.T.b G.T.builtins G.T.nolimit hg hobj hints hlen hr hF hb
end TK

set_option maxRecDepth 100000
set_option maxHeartbeats 4000000
namespace TK
open PySem PySem.Spec PyProof.Rows L2
/-! ### promises that bear weaker wishes -/
def Mono (sp : PSpec) : Prop := ∀ vs st (Q Q' : PQ) (X X' : EQ), (∀ v s, Q v s → Q' v s) → (∀ e s, X e s → X' e s) → sp vs st Q X → sp vs st Q' X'
theorem callS_eq {sp : PSpec} (m : Mono sp) {vs : List PV} {st : Store} {X : EQ} {Q : PQ} : callS sp vs st X Q = sp vs st Q X :=
  propext ⟨fun ⟨_, _, h, hq, hx⟩ => m _ _ _ _ _ _ hq hx h, fun h => ⟨Q, X, h, fun _ _ h => h, fun _ _ h => h⟩⟩
theorem callS_of {sp : PSpec} {vs : List PV} {st : Store} {X : EQ} {Q : PQ} (h : sp vs st Q X) : callS sp vs st X Q := ⟨Q, X, h, fun _ _ h => h, fun _ _ h => h⟩
/-! ### stepping -/
/-- the statements that are left -/
def Nx (ss : Ss) (D : PEnds) (τ : Sl) (st : Store) : Prop := wpSs ss D τ st
theorem ss_nil {D : PEnds} {τ : Sl} {st : Store} : wpSs .nil D τ st = D.nx τ st := rfl
def PEnds.nxt (D : PEnds) (ss : Ss) : PEnds := { D with nx := Nx ss D }
def PEnds.lp (D : PEnds) (J : Sl → Store → Prop) : PEnds := { D with nx := J, ct := J, bk := D.nx }
theorem ss_cons {s : S} {ss : Ss} {D : PEnds} {τ : Sl} {st : Store} : wpSs (.cons s ss) D τ st = wpS s (D.nxt ss) τ st := rfl
theorem nxt_nx {D : PEnds} {ss : Ss} : (D.nxt ss).nx = Nx ss D := rfl
theorem nxt_rt {D : PEnds} {ss : Ss} : (D.nxt ss).rt = D.rt := rfl
theorem nxt_bk {D : PEnds} {ss : Ss} : (D.nxt ss).bk = D.bk := rfl
theorem nxt_ct {D : PEnds} {ss : Ss} : (D.nxt ss).ct = D.ct := rfl
theorem lp_nx {D : PEnds} {J : Sl → Store → Prop} : (D.lp J).nx = J := rfl
theorem lp_rt {D : PEnds} {J : Sl → Store → Prop} : (D.lp J).rt = D.rt := rfl
theorem lp_bk {D : PEnds} {J : Sl → Store → Prop} : (D.lp J).bk = D.nx := rfl
theorem lp_ct {D : PEnds} {J : Sl → Store → Prop} : (D.lp J).ct = J := rfl
theorem Nx_eq {ss : Ss} {D : PEnds} {τ : Sl} {st : Store} : Nx ss D τ st = wpSs ss D τ st := rfl
/-- an if: its arms are looked at later -/
def Arm (ss : Ss) (D : PEnds) (τ : Sl) (st : Store) : Prop := wpSs ss D τ st
theorem Arm_eq {ss : Ss} {D : PEnds} {τ : Sl} {st : Store} : Arm ss D τ st = wpSs ss D τ st := rfl
/-- the def's ends -/
def fnEnds (Q : PQ) (X : EQ) : PEnds := ⟨fun _ s => ∃ s0, Sub s0 s ∧ Q .non s0, fun v s => ∃ s0, Sub s0 s ∧ Q v s0, fun _ _ => False, fun _ _ => False, fun e _ s => ∃ s0, Sub s0 s ∧ X e s0⟩
theorem fn_eq {n : Nat} {b : Ss} {vs : List PV} {st : Store} {Q : PQ} {X : EQ} : wpFn n b vs st Q X = wpSs b (fnEnds Q X) (initS n vs) st := rfl
theorem fnRet {Q : PQ} {X : EQ} {v : PV} {s : Store} (s0 : Store) (hs : Sub s0 s) (h : Q v s0) : (fnEnds Q X).rt v s := ⟨s0, hs, h⟩
theorem Sub.rfl {s : Store} : Sub s s := fun _ _ h => h
theorem fnRet1 {Q : PQ} {X : EQ} {v : PV} {s : Store} (h : Q v s) : (fnEnds Q X).rt v s := ⟨s, .rfl, h⟩
theorem fnNx1 {Q : PQ} {X : EQ} {τ : Sl} {s : Store} (h : Q .non s) : (fnEnds Q X).nx τ s := ⟨s, .rfl, h⟩
theorem sub_new {s : Store} {p : Addr} {c : Option Cell} (h : s p = none) : Sub s (up s p c) := fun a d e => by
  by_cases n : a = p
  · subst n; rw [h] at e; cases e
  · rw [up_ne n]; exact e
theorem up_up {s : Store} {p : Addr} {c d : Option Cell} : up (up s p c) p d = up s p d := by
  funext a
  by_cases n : a = p
  · subst n; rw [up_same, up_same]
  · rw [up_ne n, up_ne n, up_ne n]
theorem up_id {s : Store} {p : Addr} {c : Option Cell} (h : s p = c) : up s p c = s := by
  funext a
  by_cases n : a = p
  · subst n; rw [up_same, h]
  · rw [up_ne n]
/-! ### loops -/
/-- a loop over items: what holds ahead of the rest -/
theorem for_ind {tg : TG} {b : Ss} {ok : Store → Prop} {D : PEnds} (J : List PV → Sl → Store → Prop)
    (hstep : ∀ x r τ st, J (x :: r) τ st → ok st ∧ oP (tg.asg x τ) fun τ1 => wpSs b (D.lp (J r)) τ1 st)
    (hend : ∀ τ st, J [] τ st → ok st ∧ D.nx τ st) : ∀ xs τ st, J xs τ st → forL tg (wpSs b) ok xs D τ st
  | [], τ, st, h => hend τ st h
  | x :: r, τ, st, h => by
    refine ⟨(hstep x r τ st h).1, ?_⟩
    have h2 := (hstep x r τ st h).2
    have ih := for_ind J hstep hend r
    cases e : tg.asg x τ with
    | none => rw [e] at h2; exact h2.elim
    | some τ1 =>
      rw [e] at h2
      refine wpSs_mono b ?_ h2
      exact ⟨fun _ _ h => ih _ _ h, fun _ _ h => h, fun _ _ h => h, fun _ _ h => ih _ _ h, fun _ _ _ h => h⟩
/-- .. by the number of items that are done -/
theorem for_at {tg : TG} {b : Ss} {ok : Store → Prop} {D : PEnds} {xs : List PV} (J : Nat → Sl → Store → Prop)
    (hstep : ∀ i x τ st, xs[i]? = some x → J i τ st → ok st ∧ oP (tg.asg x τ) fun τ1 => wpSs b (D.lp (J (i + 1))) τ1 st)
    (hend : ∀ τ st, J xs.length τ st → ok st ∧ D.nx τ st) {τ : Sl} {st : Store} (h : J 0 τ st) : forL tg (wpSs b) ok xs D τ st := by
  refine for_ind (fun r τ st => ∃ i, r = xs.drop i ∧ i ≤ xs.length ∧ J i τ st) ?_ ?_ xs τ st ⟨0, by simp, Nat.zero_le _, h⟩
  · rintro x r τ st ⟨i, e, hi, h⟩
    have hx : xs[i]? = some x := by
      have := congrArg (·[0]?) e
      simpa using this.symm
    obtain ⟨h1, h2⟩ := hstep i x τ st hx h
    refine ⟨h1, ?_⟩
    have hl : i < xs.length := by
      rcases Nat.lt_or_ge i xs.length with h | h
      · exact h
      · rw [List.getElem?_eq_none h] at hx; cases hx
    have er : r = xs.drop (i + 1) := by
      rw [List.drop_eq_getElem_cons hl] at e
      exact (List.cons.inj e).2
    cases e2 : tg.asg x τ with
    | none => rw [e2] at h2; exact h2.elim
    | some τ1 =>
      rw [e2] at h2
      refine wpSs_mono b ?_ h2
      exact ⟨fun _ _ h => ⟨i + 1, er, hl, h⟩, fun _ _ h => h, fun _ _ h => h, fun _ _ h => ⟨i + 1, er, hl, h⟩, fun _ _ _ h => h⟩
  · rintro τ st ⟨i, e, hi, h⟩
    have : i = xs.length := by
      have := congrArg List.length e
      simp only [List.length_nil, List.length_drop] at this
      omega
    subst this
    exact hend τ st h
/-! ### calls: another look at the same heap -/
theorem HasFn.view {Γ : Wd} {k n : Nat} {f : Str} {sp sp' : PSpec} (h : HasFn Γ k f sp n)
    (c : ∀ vs st Q X H F, RS Γ.K H F st → sp' vs st Q X → ∃ st2 Q2, RS Γ.K H F st2 ∧ sp vs st2 Q2 (fun _ _ => False) ∧ ∀ v s2 H' F', Ext F H F' H' → RS Γ.K H' F' s2 → Q2 v s2 → ∃ s, RS Γ.K H' F' s ∧ Q v s) :
    HasFn Γ k f sp' n := by
  obtain ⟨fa, fd, ps, h1, h2, h3, h4, hf⟩ := h
  refine ⟨fa, fd, ps, h1, h2, h3, h4, ⟨fun vs H Q E ⟨_, _, _, _, _, h, _⟩ => h.trans h4.symm, fun A outer s H args us vs Q E hg hr e0 hb r hsp => ?_⟩⟩
  refine hf.run A outer s H args us vs Q E hg hr e0 hb r ?_
  obtain ⟨F, st, pvs, rs, d, hl, Q0, X0, h0, hq, hx⟩ := hsp
  obtain ⟨st2, Q2, rs2, hs2, hc⟩ := c pvs st Q0 X0 H F rs h0
  refine ⟨F, st2, pvs, rs2, d, hl, Q2, fun _ _ => False, hs2, fun v s2 h2 F' H' y ex r' dv => ?_, fun _ _ h => h.elim⟩
  obtain ⟨s, rs', hq'⟩ := hc v s2 H' F' ex r' h2
  exact hq v s hq' F' H' y ex rs' dv
end TK

namespace TK
open PySem PySem.Spec PyProof.Rows L2
/-! ### the same readings, what is still to come under a name -/
def KEx (D : PEnds) (τ : Sl) : EQ := fun x s => D.ex x τ s
theorem ex_nxt {D : PEnds} {ss : Ss} {τ : Sl} : KEx (D.nxt ss) τ = KEx D τ := rfl
theorem ex_lp {D : PEnds} {J : Sl → Store → Prop} {τ : Sl} : KEx (D.lp J) τ = KEx D τ := rfl
def KV (st : Store) (Q : PQ) (v : PV) : Prop := Q v st
def KF (st : Store) (Q : PQ) (v : PV) : Prop := frzV v st Q
def KBin2 (o : Operator) (m : Bool) (v : PV) (Q : PQ) (w : PV) (st : Store) : Prop := binV o m v w st Q
def KBin1 (o : Operator) (m : Bool) (b : E) (X : EQ) (τ : Sl) (Q : PQ) (v : PV) (st : Store) : Prop := wpE b X τ st (KBin2 o m v Q)
def KNeg (Q : PQ) (v : PV) (st : Store) : Prop := negV v st Q
def KNot2 (Q : PQ) (st : Store) (b : Bool) : Prop := Q (.bl (!b)) st
def KNot (Q : PQ) (v : PV) (st : Store) : Prop := onBl v (KNot2 Q st)
def KCmp2 (o : CmpOp) (v : PV) (Q : PQ) (w : PV) (st : Store) : Prop := cmpV o v w st Q
def KCmp1 (o : CmpOp) (b : E) (X : EQ) (τ : Sl) (Q : PQ) (v : PV) (st : Store) : Prop := wpE b X τ st (KCmp2 o v Q)
def KCh4 (o : CmpOp) (c : E) (X : EQ) (τ : Sl) (w : PV) (Q : PQ) (st : Store) (k : Bool) : Prop := if k = true then wpE c X τ st (KCmp2 o w Q) else Q (.bl false) st
def KCh3 (o : CmpOp) (c : E) (X : EQ) (τ : Sl) (w : PV) (Q : PQ) (z : PV) (st : Store) : Prop := onBl z (KCh4 o c X τ w Q st)
def KCh2 (o o' : CmpOp) (c : E) (X : EQ) (τ : Sl) (v : PV) (Q : PQ) (w : PV) (st : Store) : Prop := cmpV o v w st (KCh3 o' c X τ w Q)
def KCh1 (o o' : CmpOp) (b c : E) (X : EQ) (τ : Sl) (Q : PQ) (v : PV) (st : Store) : Prop := wpE b X τ st (KCh2 o o' c X τ v Q)
def KBs2 (o : BoolOp) (es : Es) (X : EQ) (τ : Sl) (Q : PQ) (st : Store) (b : Bool) : Prop := match o with | .And => if b = true then wpBs .And es X τ st Q else Q (.bl false) st | .Or => if b = true then Q (.bl true) st else wpBs .Or es X τ st Q
def KBs (o : BoolOp) (es : Es) (X : EQ) (τ : Sl) (Q : PQ) (v : PV) (st : Store) : Prop := onBl v (KBs2 o es X τ Q st)
def KIf (a b : E) (X : EQ) (τ : Sl) (Q : PQ) (k : Bool) (st : Store) : Prop := if k = true then wpE a X τ st Q else wpE b X τ st Q
def KTup (Q : PQ) (vs : List PV) (st : Store) : Prop := vs.length ≤ sizeLine ∧ Q (.tup vs) st
def KLst (m : Bool) (Q : PQ) (vs : List PV) (st : Store) : Prop := vs.length ≤ sizeLine ∧ newList m vs st Q
def KIdx2 (v : PV) (Q : PQ) (w : PV) (st : Store) : Prop := idxV v w st Q
def KIdx1 (i : E) (X : EQ) (τ : Sl) (Q : PQ) (v : PV) (st : Store) : Prop := wpE i X τ st (KIdx2 v Q)
def KSl3 (m : Bool) (v : PV) (l : Option Int) (Q : PQ) (u : Option Int) (st : Store) : Prop := sliceV m v l u st Q
def KSl2 (m : Bool) (hi : OE) (X : EQ) (τ : Sl) (v : PV) (Q : PQ) (l : Option Int) (st : Store) : Prop := wpO hi X τ st (KSl3 m v l Q)
def KSl1 (m : Bool) (lo hi : OE) (X : EQ) (τ : Sl) (Q : PQ) (v : PV) (st : Store) : Prop := wpO lo X τ st (KSl2 m hi X τ v Q)
def KCall (sp : PSpec) (X : EQ) (Q : PQ) (vs : List PV) (st : Store) : Prop := callS sp vs st X Q
def KBlt (f : BF) (m : Bool) (Q : PQ) (vs : List PV) (st : Store) : Prop := bltV f m vs st Q
def KIsi2 (Q : PQ) (st : Store) (b : Bool) : Prop := Q (.bl b) st
def KIsi (ty : Str) (Q : PQ) (v : PV) (st : Store) : Prop := oP (isiV ty v) (KIsi2 Q st)
def KMe2 (f : MF) (v : PV) (Q : PQ) (vs : List PV) (st : Store) : Prop := methV f v vs st Q
def KMe1 (f : MF) (es : Es) (X : EQ) (τ : Sl) (Q : PQ) (v : PV) (st : Store) : Prop := isLst st v ∧ wpEs es X τ st (KMe2 f v Q)
def KComp2 (m : Bool) (st : Store) (Q : PQ) (acc : List PV) : Prop := newList m acc st Q
def KComp (m : Bool) (vs : List Nat) (tg : TG) (r : Bool) (ts : Ts) (elt : E) (τ : Sl) (Q : PQ) (xs : List PV) (ok : Store → Prop) (st : Store) : Prop := (r = true → xs.length ≤ sizeLine) ∧ ok st ∧ lcL tg (wpTs .And ts fun _ _ => False) (wpE elt fun _ _ => False) (wipeS τ vs) st xs [] (KComp2 m st Q)
def KEs2 (v : PV) (Q : List PV → Store → Prop) (vs : List PV) (st : Store) : Prop := Q (v :: vs) st
def KEs1 (es : Es) (X : EQ) (τ : Sl) (Q : List PV → Store → Prop) (v : PV) (st : Store) : Prop := wpEs es X τ st (KEs2 v Q)
def KO2 (Q : Option Int → Store → Prop) (st : Store) (i : Int) : Prop := Q (some i) st
def KO (Q : Option Int → Store → Prop) (v : PV) (st : Store) : Prop := onInt v (KO2 Q st)
def KTv (Q : Bool → Store → Prop) (v : PV) (st : Store) : Prop := truV v st Q
def KT4 (Q : Bool → Store → Prop) (st : Store) (k : Bool) : Prop := Q k st
def KT3 (Q : Bool → Store → Prop) (z : PV) (st : Store) : Prop := onBl z (KT4 Q st)
def KT2 (o : CmpOp) (v : PV) (Q : Bool → Store → Prop) (w : PV) (st : Store) : Prop := cmpV o v w st (KT3 Q)
def KT1 (o : CmpOp) (b : E) (X : EQ) (τ : Sl) (Q : Bool → Store → Prop) (v : PV) (st : Store) : Prop := wpE b X τ st (KT2 o v Q)
def KTc4 (o : CmpOp) (c : E) (X : EQ) (τ : Sl) (w : PV) (Q : Bool → Store → Prop) (st : Store) (k : Bool) : Prop := if k = true then wpE c X τ st (KT2 o w Q) else Q false st
def KTc3 (o : CmpOp) (c : E) (X : EQ) (τ : Sl) (w : PV) (Q : Bool → Store → Prop) (z : PV) (st : Store) : Prop := onBl z (KTc4 o c X τ w Q st)
def KTc2 (o o' : CmpOp) (c : E) (X : EQ) (τ : Sl) (v : PV) (Q : Bool → Store → Prop) (w : PV) (st : Store) : Prop := cmpV o v w st (KTc3 o' c X τ w Q)
def KTc1 (o o' : CmpOp) (b c : E) (X : EQ) (τ : Sl) (Q : Bool → Store → Prop) (v : PV) (st : Store) : Prop := wpE b X τ st (KTc2 o o' c X τ v Q)
def KTn (Q : Bool → Store → Prop) (k : Bool) (st : Store) : Prop := Q (!k) st
def KTs (o : BoolOp) (ts : Ts) (X : EQ) (τ : Sl) (Q : Bool → Store → Prop) (k : Bool) (st : Store) : Prop := match o with | .And => if k = true then wpTs .And ts X τ st Q else Q false st | .Or => if k = true then Q true st else wpTs .Or ts X τ st Q
def KTi (a b : T) (X : EQ) (τ : Sl) (Q : Bool → Store → Prop) (k : Bool) (st : Store) : Prop := if k = true then wpT a X τ st Q else wpT b X τ st Q
def KI1 (Q : List PV → (Store → Prop) → Store → Prop) (v : PV) (st : Store) : Prop := itV id v st Q
def KR12 (Q : List PV → (Store → Prop) → Store → Prop) (st : Store) (j : Int) : Prop := R62 j ∧ Q (rngL 0 j.toNat) (fun _ => True) st
def KR1 (Q : List PV → (Store → Prop) → Store → Prop) (v : PV) (st : Store) : Prop := onInt v (KR12 Q st)
def KR2d (Q : List PV → (Store → Prop) → Store → Prop) (st : Store) (i j : Int) : Prop := R62 i ∧ R62 j ∧ Q (rngL i (j - i).toNat) (fun _ => True) st
def KR2c (Q : List PV → (Store → Prop) → Store → Prop) (st : Store) (w : PV) (i : Int) : Prop := onInt w (KR2d Q st i)
def KR2b (v : PV) (Q : List PV → (Store → Prop) → Store → Prop) (w : PV) (st : Store) : Prop := onInt v (KR2c Q st w)
def KR2a (b : E) (X : EQ) (τ : Sl) (Q : List PV → (Store → Prop) → Store → Prop) (v : PV) (st : Store) : Prop := wpE b X τ st (KR2b v Q)
def KEn (Q : List PV → (Store → Prop) → Store → Prop) (v : PV) (st : Store) : Prop := itVL (enumL 0) v st Q
def KZ2 (v : PV) (Q : List PV → (Store → Prop) → Store → Prop) (w : PV) (st : Store) : Prop := zipV v w st Q
def KZ1 (b : E) (X : EQ) (τ : Sl) (Q : List PV → (Store → Prop) → Store → Prop) (v : PV) (st : Store) : Prop := wpE b X τ st (KZ2 v Q)
def KNx (D : PEnds) (st : Store) (τ : Sl) : Prop := D.nx τ st
def KAsg (tg : TG) (τ : Sl) (D : PEnds) (v : PV) (st : Store) : Prop := oP (tg.asg v τ) (KNx D st)
def KAsgN (i : Nat) (τ : Sl) (D : PEnds) (v : PV) (st : Store) : Prop := D.nx (setS τ i (some v)) st
def KSx4 (τ : Sl) (D : PEnds) (st : Store) : Prop := D.nx τ st
def KSx3 (v ov : PV) (τ : Sl) (D : PEnds) (iv : PV) (st : Store) : Prop := setIxV ov iv v st (KSx4 τ D)
def KSx2 (v : PV) (i : E) (τ : Sl) (D : PEnds) (ov : PV) (st : Store) : Prop := wpE i (KEx D τ) τ st (KSx3 v ov τ D)
def KSx1 (o i : E) (τ : Sl) (D : PEnds) (v : PV) (st : Store) : Prop := wpE o (KEx D τ) τ st (KSx2 v i τ D)
def KAug2 (i : Nat) (o : Operator) (v : PV) (τ : Sl) (D : PEnds) (w : PV) (st : Store) : Prop := augV o v w st (KAsgN i τ D)
def KAug1 (i : Nat) (o : Operator) (e : E) (τ : Sl) (D : PEnds) (st : Store) (v : PV) : Prop := wpE e (KEx D τ) τ st (KAug2 i o v τ D)
def KExpr (τ : Sl) (D : PEnds) (v : PV) (st : Store) : Prop := D.nx τ st
def KArm (a b : Ss) (τ : Sl) (D : PEnds) (k : Bool) (st : Store) : Prop := if k = true then Arm a D τ st else Arm b D τ st
def KLoop (tg : TG) (b : Ss) (τ : Sl) (D : PEnds) (xs : List PV) (ok : Store → Prop) (st : Store) : Prop := forL tg (wpSs b) ok xs D τ st
def KWt (t : T) (D : PEnds) (τ : Sl) (st : Store) (Q : Bool → Store → Prop) : Prop := wpT t (KEx D τ) τ st Q
section
variable {X : EQ} {τ : Sl} {st : Store} {Q : PQ}
theorem e_var {i : Nat} : wpE (.var i) X τ st Q = oP (getS τ i) (KV st Q) := rfl
theorem e_fvar {i : Nat} : wpE (.fvar i) X τ st Q = oP (getS τ i) (KF st Q) := rfl
theorem e_int {n : Int} : wpE (.int n) X τ st Q = Q (.int n) st := rfl
theorem e_bl {n : Bool} : wpE (.bl n) X τ st Q = Q (.bl n) st := rfl
theorem e_non  : wpE .non X τ st Q = Q .non st := rfl
theorem e_str {n : Str} : wpE (.str n) X τ st Q = Q (.str n) st := rfl
theorem e_glob {n : Str} {v : PV} : wpE (.glob n v) X τ st Q = Q v st := rfl
theorem e_bin {o : Operator} {m : Bool} {a b : E} : wpE (.bin o m a b) X τ st Q = wpE a X τ st (KBin1 o m b X τ Q) := rfl
theorem e_neg {a : E} : wpE (.neg a) X τ st Q = wpE a X τ st (KNeg Q) := rfl
theorem e_not {a : E} : wpE (.not a) X τ st Q = wpE a X τ st (KNot Q) := rfl
theorem e_cmp {o : CmpOp} {a b : E} : wpE (.cmp o a b) X τ st Q = wpE a X τ st (KCmp1 o b X τ Q) := rfl
theorem e_chain {o o' : CmpOp} {a b c : E} : wpE (.chain o o' a b c) X τ st Q = wpE a X τ st (KCh1 o o' b c X τ Q) := rfl
theorem e_bools {o : BoolOp} {es : Es} : wpE (.bools o es) X τ st Q = wpBs o es X τ st Q := rfl
theorem e_ite {t : T} {a b : E} : wpE (.ite t a b) X τ st Q = wpT t X τ st (KIf a b X τ Q) := rfl
theorem e_tup {es : Es} : wpE (.tup es) X τ st Q = wpEs es X τ st (KTup Q) := rfl
theorem e_lst {m : Bool} {es : Es} : wpE (.lst m es) X τ st Q = wpEs es X τ st (KLst m Q) := rfl
theorem e_idx {a i : E} : wpE (.idx a i) X τ st Q = wpE a X τ st (KIdx1 i X τ Q) := rfl
theorem e_slice {m : Bool} {a : E} {lo hi : OE} : wpE (.slice m a lo hi) X τ st Q = wpE a X τ st (KSl1 m lo hi X τ Q) := rfl
theorem e_call {f : Str} {sp : PSpec} {es : Es} : wpE (.call f sp es) X τ st Q = wpEs es X τ st (KCall sp X Q) := rfl
theorem e_blt {f : BF} {m : Bool} {es : Es} : wpE (.blt f m es) X τ st Q = wpEs es X τ st (KBlt f m Q) := rfl
theorem e_isi {e : E} {ty : Str} : wpE (.isi e ty) X τ st Q = wpE e X τ st (KIsi ty Q) := rfl
theorem e_meth {f : MF} {o : E} {es : Es} : wpE (.meth f o es) X τ st Q = wpE o X τ st (KMe1 f es X τ Q) := rfl
theorem e_comp {m : Bool} {vs : List Nat} {tg : TG} {it : I} {ts : Ts} {elt : E} : wpE (.comp m vs tg it ts elt) X τ st Q = wpI it X τ st (KComp m vs tg it.isR ts elt τ Q) := rfl
theorem es_nil {R : List PV → Store → Prop} : wpEs .nil X τ st R = R [] st := rfl
theorem es_cons {e : E} {es : Es} {R : List PV → Store → Prop} : wpEs (.cons e es) X τ st R = wpE e X τ st (KEs1 es X τ R) := rfl
theorem bs_one {o : BoolOp} {e : E} : wpBs o (.cons e .nil) X τ st Q = wpE e X τ st Q := rfl
theorem bs_and {e e' : E} {es : Es} : wpBs .And (.cons e (.cons e' es)) X τ st Q = wpE e X τ st (KBs .And (.cons e' es) X τ Q) := rfl
theorem bs_or {e e' : E} {es : Es} : wpBs .Or (.cons e (.cons e' es)) X τ st Q = wpE e X τ st (KBs .Or (.cons e' es) X τ Q) := rfl
theorem o_no {R : Option Int → Store → Prop} : wpO .no X τ st R = R none st := rfl
theorem o_yes {e : E} {R : Option Int → Store → Prop} : wpO (.yes e) X τ st R = wpE e X τ st (KO R) := rfl
theorem t_val {e : E} {R : Bool → Store → Prop} : wpT (.val e) X τ st R = wpE e X τ st (KTv R) := rfl
theorem t_cmp {o : CmpOp} {a b : E} {R : Bool → Store → Prop} : wpT (.cmp o a b) X τ st R = wpE a X τ st (KT1 o b X τ R) := rfl
theorem t_chain {o o' : CmpOp} {a b c : E} {R : Bool → Store → Prop} : wpT (.chain o o' a b c) X τ st R = wpE a X τ st (KTc1 o o' b c X τ R) := rfl
theorem t_not {t : T} {R : Bool → Store → Prop} : wpT (.not t) X τ st R = wpT t X τ st (KTn R) := rfl
theorem t_bools {o : BoolOp} {ts : Ts} {R : Bool → Store → Prop} : wpT (.bools o ts) X τ st R = wpTs o ts X τ st R := rfl
theorem t_ite {t a b : T} {R : Bool → Store → Prop} : wpT (.ite t a b) X τ st R = wpT t X τ st (KTi a b X τ R) := rfl
theorem ts_nilA {R : Bool → Store → Prop} : wpTs .And .nil X τ st R = R true st := rfl
theorem ts_nilO {R : Bool → Store → Prop} : wpTs .Or .nil X τ st R = R false st := rfl
theorem ts_and {t : T} {ts : Ts} {R : Bool → Store → Prop} : wpTs .And (.cons t ts) X τ st R = wpT t X τ st (KTs .And ts X τ R) := rfl
theorem ts_or {t : T} {ts : Ts} {R : Bool → Store → Prop} : wpTs .Or (.cons t ts) X τ st R = wpT t X τ st (KTs .Or ts X τ R) := rfl
theorem i_val {e : E} {R : List PV → (Store → Prop) → Store → Prop} : wpI (.val e) X τ st R = wpE e X τ st (KI1 R) := rfl
theorem i_r1 {e : E} {R : List PV → (Store → Prop) → Store → Prop} : wpI (.range1 e) X τ st R = wpE e X τ st (KR1 R) := rfl
theorem i_r2 {a b : E} {R : List PV → (Store → Prop) → Store → Prop} : wpI (.range2 a b) X τ st R = wpE a X τ st (KR2a b X τ R) := rfl
theorem i_en {e : E} {R : List PV → (Store → Prop) → Store → Prop} : wpI (.enum e) X τ st R = wpE e X τ st (KEn R) := rfl
theorem i_zip {a b : E} {R : List PV → (Store → Prop) → Store → Prop} : wpI (.zip a b) X τ st R = wpE a X τ st (KZ1 b X τ R) := rfl
end
section
variable {D : PEnds} {τ : Sl} {st : Store}
theorem s_asgN {i : Nat} {e : E} : wpS (.asg (.name i) e) D τ st = wpE e (KEx D τ) τ st (KAsgN i τ D) := rfl
theorem s_asgT {ts : TGs} {e : E} : wpS (.asg (.tup ts) e) D τ st = wpE e (KEx D τ) τ st (KAsg (.tup ts) τ D) := rfl
theorem s_asgLc {i : Nat} {e : E} : wpS (.asgLc i e) D τ st = wpE e (KEx D τ) τ st (KAsgN i τ D) := rfl
theorem s_setIx {o i e : E} : wpS (.setIx o i e) D τ st = wpE e (KEx D τ) τ st (KSx1 o i τ D) := rfl
theorem s_aug {i : Nat} {o : Operator} {e : E} : wpS (.aug i o e) D τ st = oP (getS τ i) (KAug1 i o e τ D st) := rfl
theorem s_expr {e : E} : wpS (.expr e) D τ st = wpE e (KEx D τ) τ st (KExpr τ D) := rfl
theorem s_ret {e : E} : wpS (.ret e) D τ st = wpE e (KEx D τ) τ st D.rt := rfl
theorem s_retN  : wpS .retN D τ st = D.rt .non st := rfl
theorem s_ite {t : T} {a b : Ss} : wpS (.ite t a b) D τ st = wpT t (KEx D τ) τ st (KArm a b τ D) := rfl
theorem s_loop {tg : TG} {it : I} {b : Ss} : wpS (.loop tg it b) D τ st = wpI it (KEx D τ) τ st (KLoop tg b τ D) := rfl
theorem s_while {t : T} {b : Ss} : wpS (.while t b) D τ st = whileL (KWt t D) (wpSs b) D τ st := rfl
theorem s_pass  : wpS .pass D τ st = D.nx τ st := rfl
theorem s_brk  : wpS .brk D τ st = D.bk τ st := rfl
theorem s_cont  : wpS .cont D τ st = D.ct τ st := rfl
end
theorem rt_fn {Q : PQ} {X : EQ} {v : PV} {s : Store} : (fnEnds Q X).rt v s = ∃ s0, Sub s0 s ∧ Q v s0 := rfl
theorem nx_fn {Q : PQ} {X : EQ} {τ : Sl} {s : Store} : (fnEnds Q X).nx τ s = ∃ s0, Sub s0 s ∧ Q .non s0 := rfl
theorem oP_some {α : Type} {a : α} {k : α → Prop} : oP (some a) k = k a := rfl
theorem oP_none {α : Type} {k : α → Prop} : oP none k = False := rfl
theorem onBl_eq {b : Bool} {k : Bool → Prop} : onBl (.bl b) k = k b := rfl
theorem onInt_eq {b : Int} {k : Int → Prop} : onInt (.int b) k = k b := rfl
theorem natc0 : ((0 : Nat) : Int) = 0 := rfl
theorem natc1 : ((1 : Nat) : Int) = 1 := rfl
theorem natc2 : ((2 : Nat) : Int) = 2 := rfl
theorem natc3 : ((3 : Nat) : Int) = 3 := rfl
theorem natc4 : ((4 : Nat) : Int) = 4 := rfl
theorem natc5 : ((5 : Nat) : Int) = 5 := rfl
theorem natc6 : ((6 : Nat) : Int) = 6 := rfl
theorem natc7 : ((7 : Nat) : Int) = 7 := rfl
theorem natc8 : ((8 : Nat) : Int) = 8 := rfl
theorem isNon_non : isNon .non = true := rfl
theorem isNon_int {i : Int} : isNon (.int i) = false := rfl
theorem isNon_bl {i : Bool} : isNon (.bl i) = false := rfl
theorem isNon_str {i : Str} : isNon (.str i) = false := rfl
theorem isNon_tup {i : List PV} : isNon (.tup i) = false := rfl
theorem isNon_lst {i : List PV} : isNon (.lst i) = false := rfl
theorem isNon_ref {i : Nat} : isNon (.ref i) = false := rfl
theorem getS_0 {x : Option PV} {r : Sl} : getS (x :: r) 0 = x := rfl
theorem getS_s {x : Option PV} {r : Sl} {n : Nat} : getS (x :: r) (n + 1) = getS r n := rfl
/-- an item at a number of the text -/
theorem atI_nat {α : Type} {xs : List α} {n : Nat} : atI xs (n : Int) = xs[n]? := by
  unfold atI ixN
  rw [if_pos (by omega)]
  by_cases h : n < xs.length
  · rw [if_pos (by omega)]; simp
  · rw [if_neg (by omega)]
    simp only [Option.bind_none]
    exact (List.getElem?_eq_none (by omega)).symm
theorem atI_0 {α : Type} {x : α} {r : List α} : atI (x :: r) 0 = some x := atI_nat (n := 0)
theorem atI_1 {α : Type} {x y : α} {r : List α} : atI (x :: y :: r) 1 = some y := atI_nat (n := 1)
theorem atI_2 {α : Type} {x y z : α} {r : List α} : atI (x :: y :: z :: r) 2 = some z := atI_nat (n := 2)
theorem atI_3 {α : Type} {x y z u : α} {r : List α} : atI (x :: y :: z :: u :: r) 3 = some u := atI_nat (n := 3)
theorem atI_4 {α : Type} {x y z u v : α} {r : List α} : atI (x :: y :: z :: u :: v :: r) 4 = some v := atI_nat (n := 4)
theorem atI_of {α : Type} {xs : List α} {i : Int} (h0 : 0 ≤ i) (h : i < xs.length) : atI xs i = some (xs[i.toNat]'(by omega)) := by
  obtain ⟨n, rfl⟩ := Int.eq_ofNat_of_zero_le h0
  rw [atI_nat]
  exact List.getElem?_eq_getElem _
theorem atI_int {ns : List Int} {i : Int} (h0 : 0 ≤ i) (h : i < ns.length) : atI (ns.map PV.int) i = some (.int (ns[i.toNat]'(by omega))) := by
  rw [atI_of h0 (by simpa using h)]
  simp
theorem ixN_nat {n m : Nat} (h : m < n) : ixN n (m : Int) = some m := by
  unfold ixN
  rw [if_pos (by omega), if_pos (by omega)]; simp
theorem while_ind {t : T} {b : Ss} {D : PEnds} (W : Nat → Sl → Store → Prop)
    (h : ∀ n τ st, W n τ st → wpT t (KEx D τ) τ st fun k st1 => if k = true then wpSs b (D.lp fun τ' st' => ∃ m, m < n ∧ W m τ' st') τ st1 else D.nx τ st1)
    {τ : Sl} {st : Store} (n : Nat) (h0 : W n τ st) : whileL (KWt t D) (wpSs b) D τ st := ⟨W, ⟨n, h0⟩, h⟩

/-! ### operations on followed lists -/
def KSet2 (a : Nat) (v : PV) (st : Store) (Q : Store → Prop) (xs : List PV) (j : Nat) : Prop := Q (up st a (some (.lst (xs.set j v))))
def KSet1 (a : Nat) (k : Int) (v : PV) (st : Store) (Q : Store → Prop) (xs : List PV) : Prop := oP (ixN xs.length k) (KSet2 a v st Q xs)
def KApp (a : Nat) (v : PV) (st : Store) (Q : PQ) (xs : List PV) : Prop := xs.length < sizeLine ∧ Q .non (up st a (some (.lst (xs ++ [v]))))
def KExt (a : Nat) (w : PV) (st : Store) (Q : PQ) (xs : List PV) : Prop := oP (lstOf st w) fun ys => xs.length + ys.length ≤ sizeLine ∧ Q .non (up st a (some (.lst (xs ++ ys))))
def KPop (a : Nat) (st : Store) (Q : PQ) (xs : List PV) : Prop := oP (xs[xs.length - 1]?) fun y => Q y (up st a (some (.lst xs.dropLast)))
def KAddL (m : Bool) (w : PV) (st : Store) (Q : PQ) (xs : List PV) : Prop := oP (lstOf st w) fun ys => xs.length + ys.length ≤ sizeLine ∧ newList m (xs ++ ys) st Q
def KCut (m : Bool) (lo hi : Option Int) (st : Store) (Q : PQ) (xs : List PV) : Prop := newList m (cutP xs lo hi) st Q
def KTru (st : Store) (Q : Bool → Store → Prop) (xs : List PV) : Prop := Q (!xs.isEmpty) st
theorem lstOf_ref {st : Store} {a : Nat} {xs : List PV} : lstOf st (.ref a) = some xs ↔ st a = some (.lst xs) := by
  show (match st a with
    | some (.lst xs) => some xs
    | _ => none) = some xs ↔ _
  cases h : st a with
  | none => simp
  | some c => cases c <;> simp
theorem oP_iff {α : Type} {o : Option α} {k : α → Prop} : oP o k ↔ ∃ a, o = some a ∧ k a := by
  cases o with
  | none => simp [oP]
  | some a => simp [oP]
theorem v_set {a : Nat} {k : Int} {v : PV} {st : Store} {Q : Store → Prop} : setIxV (.ref a) (.int k) v st Q = oP (lstOf st (.ref a)) (KSet1 a k v st Q) := by
  refine propext ⟨fun ⟨xs, j, h1, h2, h3⟩ => oP_iff.mpr ⟨xs, lstOf_ref.mpr h1, oP_iff.mpr ⟨j, h2, h3⟩⟩, fun h => ?_⟩
  obtain ⟨xs, h1, h2⟩ := oP_iff.mp h
  obtain ⟨j, h2, h3⟩ := oP_iff.mp h2
  exact ⟨xs, j, lstOf_ref.mp h1, h2, h3⟩
theorem v_app {a : Nat} {v : PV} {st : Store} {Q : PQ} : methV .append (.ref a) [v] st Q = oP (lstOf st (.ref a)) (KApp a v st Q) := by
  refine propext ⟨fun ⟨xs, h1, h2⟩ => oP_iff.mpr ⟨xs, lstOf_ref.mpr h1, h2⟩, fun h => ?_⟩
  obtain ⟨xs, h1, h2⟩ := oP_iff.mp h
  exact ⟨xs, lstOf_ref.mp h1, h2⟩
theorem v_ext {a : Nat} {w : PV} {st : Store} {Q : PQ} : methV .extend (.ref a) [w] st Q = oP (lstOf st (.ref a)) (KExt a w st Q) := by
  refine propext ⟨fun ⟨xs, ys, h1, h2, h3⟩ => oP_iff.mpr ⟨xs, lstOf_ref.mpr h1, oP_iff.mpr ⟨ys, h2, h3⟩⟩, fun h => ?_⟩
  obtain ⟨xs, h1, h2⟩ := oP_iff.mp h
  obtain ⟨ys, h2, h3⟩ := oP_iff.mp h2
  exact ⟨xs, ys, lstOf_ref.mp h1, h2, h3⟩
theorem v_pop {a : Nat} {st : Store} {Q : PQ} : methV .pop (.ref a) [] st Q = oP (lstOf st (.ref a)) (KPop a st Q) := by
  refine propext ⟨fun ⟨xs, ys, h1, h2, h3⟩ => oP_iff.mpr ⟨xs, lstOf_ref.mpr h1, oP_iff.mpr ⟨ys, h2, h3⟩⟩, fun h => ?_⟩
  obtain ⟨xs, h1, h2⟩ := oP_iff.mp h
  obtain ⟨ys, h2, h3⟩ := oP_iff.mp h2
  exact ⟨xs, ys, lstOf_ref.mp h1, h2, h3⟩
theorem v_addRL {m : Bool} {a : Nat} {ys : List PV} {st : Store} {Q : PQ} : binV .Add m (.ref a) (.lst ys) st Q = oP (lstOf st (.ref a)) (KAddL m (.lst ys) st Q) := by
  refine propext ⟨fun ⟨xs, h1, h2⟩ => oP_iff.mpr ⟨xs, lstOf_ref.mpr h1, h2⟩, fun h => ?_⟩
  obtain ⟨xs, h1, h2⟩ := oP_iff.mp h
  exact ⟨xs, lstOf_ref.mp h1, h2⟩
theorem v_addLR {m : Bool} {a : Nat} {xs : List PV} {st : Store} {Q : PQ} : binV .Add m (.lst xs) (.ref a) st Q = KAddL m (.ref a) st Q xs := by
  refine propext ⟨fun ⟨ys, h1, h2⟩ => oP_iff.mpr ⟨ys, lstOf_ref.mpr h1, h2⟩, fun h => ?_⟩
  obtain ⟨ys, h1, h2⟩ := oP_iff.mp h
  exact ⟨ys, lstOf_ref.mp h1, h2⟩
theorem v_addRR {m : Bool} {a b : Nat} {st : Store} {Q : PQ} : binV .Add m (.ref a) (.ref b) st Q = oP (lstOf st (.ref a)) (KAddL m (.ref b) st Q) := by
  refine propext ⟨fun ⟨xs, ys, h1, h2, h3⟩ => oP_iff.mpr ⟨xs, lstOf_ref.mpr h1, oP_iff.mpr ⟨ys, lstOf_ref.mpr h2, h3⟩⟩, fun h => ?_⟩
  obtain ⟨xs, h1, h2⟩ := oP_iff.mp h
  obtain ⟨ys, h2, h3⟩ := oP_iff.mp h2
  exact ⟨xs, ys, lstOf_ref.mp h1, lstOf_ref.mp h2, h3⟩
theorem v_cut {m : Bool} {a : Nat} {lo hi : Option Int} {st : Store} {Q : PQ} : sliceV m (.ref a) lo hi st Q = oP (lstOf st (.ref a)) (KCut m lo hi st Q) := by
  refine propext ⟨fun ⟨xs, h1, h2⟩ => oP_iff.mpr ⟨xs, lstOf_ref.mpr h1, h2⟩, fun h => ?_⟩
  obtain ⟨xs, h1, h2⟩ := oP_iff.mp h
  exact ⟨xs, lstOf_ref.mp h1, h2⟩
theorem v_tru {a : Nat} {st : Store} {Q : Bool → Store → Prop} : truV (.ref a) st Q = oP (lstOf st (.ref a)) (KTru st Q) := by
  refine propext ⟨fun ⟨xs, h1, h2⟩ => oP_iff.mpr ⟨xs, lstOf_ref.mpr h1, h2⟩, fun h => ?_⟩
  obtain ⟨xs, h1, h2⟩ := oP_iff.mp h
  exact ⟨xs, lstOf_ref.mp h1, h2⟩
theorem ix_50 : ixN 5 0 = some 0 := rfl
theorem ix_51 : ixN 5 1 = some 1 := rfl
theorem ix_52 : ixN 5 2 = some 2 := rfl
theorem ix_53 : ixN 5 3 = some 3 := rfl
theorem ix_54 : ixN 5 4 = some 4 := rfl
/-! ### operations whose wish is looked at later -/
def KItL (i : Int) (st : Store) (Q : PQ) (xs : List PV) : Prop := oP (atI xs i) (KV st Q)
def KLen (st : Store) (Q : PQ) (xs : List PV) : Prop := Q (.int xs.length) st
def KTupB (st : Store) (Q : PQ) (xs : List PV) : Prop := Q (.tup xs) st
def KListB (m : Bool) (st : Store) (Q : PQ) (xs : List PV) : Prop := newList m xs st Q
def KAll2 (st : Store) (Q : PQ) (bs : List Bool) : Prop := Q (.bl (bs.all id)) st
def KAll (st : Store) (Q : PQ) (xs : List PV) : Prop := oP (blsOf xs) (KAll2 st Q)
def KAny2 (st : Store) (Q : PQ) (bs : List Bool) : Prop := Q (.bl (bs.any id)) st
def KAny (st : Store) (Q : PQ) (xs : List PV) : Prop := oP (blsOf xs) (KAny2 st Q)
def KSum2 (st : Store) (Q : PQ) (ns : List Int) : Prop := Q (.int ns.sum) st
def KSum (st : Store) (Q : PQ) (xs : List PV) : Prop := oP (intsOf xs) (KSum2 st Q)
def KMax2 (st : Store) (Q : PQ) (ns : List Int) : Prop := ns ≠ [] ∧ Q (.int (maxL ns)) st
def KMax (st : Store) (Q : PQ) (xs : List PV) : Prop := oP (intsOf xs) (KMax2 st Q)
def KMin2 (st : Store) (Q : PQ) (ns : List Int) : Prop := ns ≠ [] ∧ Q (.int (minL ns)) st
def KMin (st : Store) (Q : PQ) (xs : List PV) : Prop := oP (intsOf xs) (KMin2 st Q)
def KIn (v : PV) (st : Store) (Q : PQ) (xs : List PV) : Prop := isSc v = true ∧ xs.all isSc = true ∧ Q (.bl (xs.any fun y => eqv y v)) st
def KNotIn (v : PV) (st : Store) (Q : PQ) (xs : List PV) : Prop := isSc v = true ∧ xs.all isSc = true ∧ Q (.bl (!xs.any fun y => eqv y v)) st
def KItR (f : List PV → List PV) (a : Nat) (st : Store) (Q : List PV → (Store → Prop) → Store → Prop) (xs : List PV) : Prop := Q (f xs) (fun s => s a = some (.lst xs)) st
def KFrz (a : Nat) (st : Store) (Q : PQ) (xs : List PV) : Prop := Q (.lst xs) (up st a none)
section
variable {m : Bool} {st : Store} {Q : PQ} {v : PV} {a : Nat} {xs : List PV} {i : Int}
theorem v_itT  : itemV i (.tup xs) st Q = oP (atI xs i) (KV st Q) := rfl
theorem v_itL  : itemV i (.lst xs) st Q = oP (atI xs i) (KV st Q) := rfl
theorem v_itR  : itemV i (.ref a) st Q = oP (lstOf st (.ref a)) (KItL i st Q) := rfl
theorem v_lenR  : bltV .len m [.ref a] st Q = oP (lstOf st (.ref a)) (KLen st Q) := rfl
theorem v_tuple  : bltV .tuple m [v] st Q = oP (seqOf st v) (KTupB st Q) := rfl
theorem v_listR  : bltV .list m [.ref a] st Q = oP (lstOf st (.ref a)) (KListB m st Q) := rfl
theorem v_all  : bltV .all m [v] st Q = oP (lstOf st v) (KAll st Q) := rfl
theorem v_any  : bltV .any m [v] st Q = oP (lstOf st v) (KAny st Q) := rfl
theorem v_sum  : bltV .sum m [v] st Q = oP (lstOf st v) (KSum st Q) := rfl
theorem v_max  : bltV .max m [v] st Q = oP (lstOf st v) (KMax st Q) := rfl
theorem v_min  : bltV .min m [v] st Q = oP (lstOf st v) (KMin st Q) := rfl
theorem v_in {w : PV} : cmpV .In v w st Q = oP (seqOf st w) (KIn v st Q) := rfl
theorem v_notIn {w : PV} : cmpV .NotIn v w st Q = oP (seqOf st w) (KNotIn v st Q) := rfl
theorem v_it {f : List PV → List PV} {K : List PV → (Store → Prop) → Store → Prop} : itV f (.ref a) st K = oP (lstOf st (.ref a)) (KItR f a st K) := rfl
theorem v_itL2 {f : List PV → List PV} {K : List PV → (Store → Prop) → Store → Prop} : itVL f (.ref a) st K = oP (lstOf st (.ref a)) (KItR f a st K) := rfl
theorem v_frz  : frzV (.ref a) st Q = oP (lstOf st (.ref a)) (KFrz a st Q) := rfl
end
section
variable {st : Store} {Q : PQ} {i j : Int} {a b : Bool}
theorem v_eqII : cmpV .Eq (.int i) (.int j) st Q = Q (.bl (decide (i = j))) st := by
  show (eqOk st (.int i) (.int j) ∧ Q (.bl (eqv (.int i) (.int j))) st) = _
  rw [show eqv (.int i) (.int j) = decide (i = j) by unfold eqv; rfl]
  exact propext ⟨fun h => h.2, fun h => ⟨.inl rfl, h⟩⟩
theorem v_neII : cmpV .NotEq (.int i) (.int j) st Q = Q (.bl (!decide (i = j))) st := by
  show (eqOk st (.int i) (.int j) ∧ Q (.bl (!eqv (.int i) (.int j))) st) = _
  rw [show eqv (.int i) (.int j) = decide (i = j) by unfold eqv; rfl]
  exact propext ⟨fun h => h.2, fun h => ⟨.inl rfl, h⟩⟩
theorem v_eqBB : cmpV .Eq (.bl a) (.bl b) st Q = Q (.bl (a == b)) st := by
  show (eqOk st (.bl a) (.bl b) ∧ Q (.bl (eqv (.bl a) (.bl b))) st) = _
  rw [show eqv (.bl a) (.bl b) = (a == b) by unfold eqv; rfl]
  exact propext ⟨fun h => h.2, fun h => ⟨.inl rfl, h⟩⟩
theorem v_neBB : cmpV .NotEq (.bl a) (.bl b) st Q = Q (.bl (!(a == b))) st := by
  show (eqOk st (.bl a) (.bl b) ∧ Q (.bl (!eqv (.bl a) (.bl b))) st) = _
  rw [show eqv (.bl a) (.bl b) = (a == b) by unfold eqv; rfl]
  exact propext ⟨fun h => h.2, fun h => ⟨.inl rfl, h⟩⟩
end
end TK

set_option maxRecDepth 100000
set_option maxHeartbeats 4000000
namespace TK
open PySem PySem.Spec PyProof.Rows L2
/-! ### the drawing of numbers from the script -/
/-- a number one may divide by -/
def Sm (n : Int) : Prop := n.natAbs < 2 ^ 8000
theorem Sm.of {n : Int} (h : n.natAbs ≤ 10 ^ 100) : Sm n := Nat.lt_of_le_of_lt h (by decide)
theorem Sm.div {n : Int} (h : Sm n) (h0 : n ≠ 0) : DivOk n := ⟨h0, Nat.lt_of_lt_of_le ((Nat.log2_lt (by omega)).mpr h) (by decide)⟩
theorem Sm.lit {n : Nat} (h : n < 2 ^ 8000) : Sm (n : Int) := h
def poolC (ns : List Int) (x b c d : Int) : Cell := .lst [.lst (ns.map .int), .int x, .int b, .int c, .int d]
theorem unpool {K : PySem.W.Frag} {H : Hp} {F : FS} {st : Store} {p : Addr} (r : RS K H F st) (e : st p = some .pool) : ∃ ns x b c d, 0 ≤ x ∧ RS K H F (up st p (some (poolC ns x b c d))) := by
  obtain ⟨nf, q, ns, x, b, c, d, h1, h2, h3, h4⟩ := r.pool p e
  refine ⟨ns, x, b, c, d, h4, fun a xs z => ?_, fun a z => ?_, r.fz⟩
  · by_cases n : a = p
    · subst n
      rw [up_same] at z; cases z
      exact ⟨nf, _, h1, .cons (.lst h2 h3 (DVs.ints ns)) (.cons (.int _) (.cons (.int _) (.cons (.int _) (.cons (.int _) .nil))))⟩
    · rw [up_ne n] at z; exact r.lst a xs z
  · by_cases n : a = p
    · subst n; rw [up_same] at z; cases z
    · rw [up_ne n] at z; exact r.pool a z
theorem repool {K : PySem.W.Frag} {H : Hp} {F : FS} {st : Store} {p : Addr} {ns : List Int} {x b c d : Int} (r : RS K H F (up st p (some (poolC ns x b c d)))) (hx : 0 ≤ x) : RS K H F (up st p (some .pool)) := by
  refine ⟨fun a xs z => ?_, fun a z => ?_, r.fz⟩
  · by_cases n : a = p
    · subst n; rw [up_same] at z; cases z
    · rw [up_ne n] at z; exact r.lst a xs (by rw [up_ne n]; exact z)
  · by_cases n : a = p
    · subst n
      obtain ⟨nf, ys, h, d⟩ := r.lst a _ up_same
      refine ⟨nf, ?_⟩
      cases d with
      | cons d0 d =>
        cases d with
        | cons d1 d => cases d with
          | cons d2 d => cases d with
            | cons d3 d => cases d with
              | cons d4 d => cases d with
                | nil =>
                  cases d1; cases d2; cases d3; cases d4
                  cases d0 with
                  | lst f e dd => exact ⟨_, ns, _, _, _, _, h, f, e.trans (by rw [dd.of_ints]), hx⟩
    · rw [up_ne n] at z; exact r.pool a (by rw [up_ne n]; exact z)
/-- a list-level promise, told of the pool -/
def sl__law_pool : PSpec
  | [.scr ns], st, Q, _ => ∀ p, st p = none → Q (.ref p) (up st p (some (poolC ns 0 0 7 0)))
  | _, _, _, _ => False
def sp__law_pool : PSpec
  | [.scr _], st, Q, _ => ∀ p, st p = none → Q (.ref p) (up st p (some .pool))
  | _, _, _, _ => False
def sp__law_mix : PSpec
  | [.ref p], st, Q, _ => ∃ ns x b c d, st p = some (poolC ns x b c d) ∧ ∀ c' d', 0 ≤ c' → Q (.int c') (up st p (some (poolC ns x b c' d')))
  | _, _, _, _ => False
def sl__law_draw : PSpec
  | [.ref p, .int many], st, Q, _ => ∃ ns x b c d, st p = some (poolC ns x b c d) ∧ 0 ≤ x ∧ Sm many ∧ ∀ r x' b' c' d', 0 ≤ x' → 0 ≤ r → (2 ≤ many → r < many) → (many < 2 → r = 0) → Q (.int r) (up st p (some (poolC ns x' b' c' d')))
  | _, _, _, _ => False
def sp__law_draw : PSpec
  | [.ref p, .int many], st, Q, _ => st p = some .pool ∧ Sm many ∧ ∀ r, 0 ≤ r → (2 ≤ many → r < many) → (many < 2 → r = 0) → Q (.int r) st
  | _, _, _, _ => False
theorem pool_view {Γ : Wd} {k : Nat} (h : HasFn Γ k "_law_pool" sl__law_pool 1) : HasFn Γ k "_law_pool" sp__law_pool 1 := by
  refine h.view fun vs st Q X H F rs hs => ?_
  unfold sp__law_pool at hs
  split at hs
  · rename_i ns
    refine ⟨st, fun v s => ∃ p, st p = none ∧ v = .ref p ∧ s = up st p (some (poolC ns 0 0 7 0)), rs, fun p hp => ⟨p, hp, rfl, rfl⟩, ?_⟩
    rintro v s2 H' F' _ r2 ⟨p, hp, rfl, rfl⟩
    exact ⟨_, repool r2 (Int.le_refl 0), hs p hp⟩
  · exact hs.elim
theorem draw_view {Γ : Wd} {k : Nat} (h : HasFn Γ k "_law_draw" sl__law_draw 2) : HasFn Γ k "_law_draw" sp__law_draw 2 := by
  refine h.view fun vs st Q X H F rs hs => ?_
  unfold sp__law_draw at hs
  split at hs
  · rename_i p many
    obtain ⟨h1, h2, h3⟩ := hs
    obtain ⟨ns, x, b, c, d, hx, rs2⟩ := unpool rs h1
    refine ⟨_, fun v s => ∃ r x' b' c' d', v = .int r ∧ 0 ≤ x' ∧ 0 ≤ r ∧ (2 ≤ many → r < many) ∧ (many < 2 → r = 0) ∧ s = up (up st p (some (poolC ns x b c d))) p (some (poolC ns x' b' c' d')), rs2, ⟨ns, x, b, c, d, up_same, hx, h2, fun r x' b' c' d' a1 a2 a3 a4 => ⟨r, x', b', c', d', rfl, a1, a2, a3, a4, rfl⟩⟩, ?_⟩
    rintro v s2 H' F' _ r2 ⟨r, x', b', c', d', rfl, a1, a2, a3, a4, rfl⟩
    rw [up_up] at r2
    have r3 := repool r2 a1
    rw [up_id h1] at r3
    exact ⟨st, r3, h3 r a2 a3 a4⟩
  · exact hs.elim
end TK

set_option maxRecDepth 100000
set_option maxHeartbeats 4000000
namespace TK
open PySem PySem.Spec PyProof.Rows L2
/-! ### how long a value's text is, at most -/
def Pn (n : Int) : Prop := n.natAbs < 10 ^ 570
mutual
def shOk : Nat → PV → Prop
  | _, .non => True
  | _, .bl _ => True
  | _, .int i => Pn i
  | n, .tup xs => n ≠ 0 ∧ shOks (n - 1) xs
  | n, .lst xs => n ≠ 0 ∧ shOks (n - 1) xs
  | _, _ => False
def shOks : Nat → List PV → Prop
  | _, [] => True
  | n, x :: r => shOk n x ∧ shOks n r
end
mutual
def wgt : PV → Nat
  | .tup xs => wgts xs + 3
  | .lst xs => wgts xs + 3
  | _ => 571
def wgts : List PV → Nat
  | [] => 0
  | x :: r => wgt x + 2 + wgts r
end
theorem ten_pow (k : Nat) : ((10 : Int) ^ k) = ((10 ^ k : Nat) : Int) := by
  first
    | exact (Int.natCast_pow 10 k).symm
    | simp
theorem shown_int {i : Int} (h : Pn i) : (Str.ofString (toString i)).length ≤ 571 := by
  unfold Pn at h
  cases i with
  | ofNat m =>
    exact Nat.le_succ_of_le (toString_length_le (v := (m : Int)) (k := 570) (by omega) (by decide) (by rw [ten_pow]; exact Int.ofNat_lt.mpr h))
  | negSucc m =>
    have e : toString (Int.negSucc m) = "-" ++ toString (((m + 1 : Nat)) : Int) := rfl
    have h2 : (Str.ofString (toString (((m + 1 : Nat)) : Int))).length ≤ 570 := toString_length_le (v := ((m + 1 : Nat) : Int)) (k := 570) (by omega) (by decide) (by rw [ten_pow]; exact Int.ofNat_lt.mpr h)
    have l : ∀ s : String, (Str.ofString s).length = s.toList.length := fun s => by
      have := congrArg List.length (signs_ofString s)
      rw [List.length_map] at this
      exact this
    rw [e, l, String.toList_append, List.length_append, ← l, ← l]
    have : (Str.ofString "-").length = 1 := rfl
    omega
theorem piled_all : ∀ (ts : List Str), (listText ts).length ≤ piled ts + 2 ∧ (tupleText ts).length ≤ piled ts + 3
  | [] => ⟨by decide, by decide⟩
  | t :: r => by
    refine ⟨?_, ?_⟩
    · unfold listText
      rw [strLen_append]
      show (textFrom 1 (("[" : Str) ++ (if 0 > 0 then ", " else "" : String) ++ t) r).length + _ ≤ _
      rw [textFrom_length_pos _ _ _ (by decide), piled_cons, strLen_append, strLen_append]
      have e1 : (("[" : String) : Str).length = 1 := rfl
      have e2 : ((if 0 > 0 then ", " else "" : String) : Str).length = 0 := rfl
      have e3 : (("]" : String) : Str).length = 1 := rfl
      omega
    · unfold tupleText
      rw [strLen_append, strLen_append]
      have e1 : ((("(" : String) : Str)).length = 1 := rfl
      have e3 : (((if (t :: r).length == 1 then ",)" else ")" : String) : Str)).length ≤ 2 := by split <;> decide
      have := join_length_add (t :: r) (by simp)
      omega
mutual
theorem show_le : ∀ (n : Nat) (v : PV), n ≤ 60 → shOk n v → (toD v).showable = true ∧ (toD v).shown.length ≤ wgt v ∧ flat n v = true
  | _, .non, _, _ => ⟨rfl, by decide, by simp only [flat]⟩
  | _, .bl b, _, _ => ⟨rfl, by cases b <;> decide, by simp only [flat]⟩
  | _, .int i, _, h => by
    unfold shOk at h
    refine ⟨?_, ?_, by simp only [flat]⟩
    · simp only [toD, PyData.showable, decide_eq_true_eq]
      exact log2_small (Nat.lt_of_lt_of_le h (by decide))
    · simp only [toD, PyData.shown, wgt]
      exact shown_int h
  | n, .tup xs, hn, h => by
    unfold shOk at h
    obtain ⟨h1, h2⟩ := h
    obtain ⟨a, b, c⟩ := shows_le (n - 1) xs (by omega) h2
    refine ⟨?_, ?_, ?_⟩
    · simp only [toD, PyData.showable]; exact a
    · simp only [toD, PyData.shown, wgt]
      exact Nat.le_trans (piled_all _).2 (by omega)
    · simp only [flat, c, Bool.and_true]; simpa using h1
  | n, .lst xs, hn, h => by
    unfold shOk at h
    obtain ⟨h1, h2⟩ := h
    obtain ⟨a, b, c⟩ := shows_le (n - 1) xs (by omega) h2
    refine ⟨?_, ?_, ?_⟩
    · simp only [toD, PyData.showable]; exact a
    · simp only [toD, PyData.shown, wgt]
      exact Nat.le_trans (piled_all _).1 (by omega)
    · simp only [flat, c, Bool.and_true]; simpa using h1
  | _, .str _, _, h => by unfold shOk at h; exact h.elim
  | _, .ref _, _, h => by unfold shOk at h; exact h.elim
  | _, .scr _, _, h => by unfold shOk at h; exact h.elim
theorem shows_le : ∀ (n : Nat) (xs : List PV), n ≤ 60 → shOks n xs → PyData.showableAll (toDs xs) = true ∧ piled (PyData.shownAll (toDs xs)) ≤ wgts xs ∧ flats n xs = true
  | _, [], _, _ => ⟨rfl, by decide, by simp only [flats]⟩
  | n, x :: r, hn, h => by
    unfold shOks at h
    obtain ⟨a, b, c⟩ := show_le n x hn h.1
    obtain ⟨a2, b2, c2⟩ := shows_le n r hn h.2
    refine ⟨?_, ?_, ?_⟩
    · simp only [toDs, PyData.showableAll, a, a2, Bool.and_self]
    · simp only [toDs, PyData.shownAll, wgts]
      rw [piled_cons]; omega
    · simp only [flats, c, c2, Bool.and_self]
end
theorem flat_mono : True := trivial
theorem showOk_of {v : PV} (h : shOk 60 v) (hw : wgt v ≤ sizeLine) : ShowOk v :=
  let ⟨a, b, c⟩ := show_le 60 v (Nat.le_refl _) h
  ⟨a, Nat.le_trans b hw, c⟩
end TK

set_option maxRecDepth 100000
set_option maxHeartbeats 4000000
namespace TK
open PySem PySem.Spec PyProof.Rows L2
/-- a comprehension whose tests and elements are known -/
theorem lc_pure {tg : TG} {t : Sl → Store → (Bool → Store → Prop) → Prop} {e : Sl → Store → PQ → Prop} {τ : Sl} {st : Store} {K : List PV → Prop} (f : PV → Bool) (g : PV → PV) :
    ∀ (xs acc : List PV), (∀ x ∈ xs, ∃ τ1, tg.asg x τ = some τ1 ∧ ∀ st', Sub st st' → (∀ Q, Q (f x) st' → t τ1 st' Q) ∧ (f x = true → ∀ Q, Q (g x) st' → e τ1 st' Q)) → K (acc ++ (xs.filter f).map g) → lcL tg t e τ st xs acc K
  | [], acc, _, h => by
    show K acc
    simpa using h
  | x :: r, acc, hx, h => by
    obtain ⟨τ1, h1, h2⟩ := hx x List.mem_cons_self
    have hr := fun y hy => hx y (List.mem_cons_of_mem _ hy)
    unfold lcL
    rw [h1]
    intro st' sub
    obtain ⟨h3, h4⟩ := h2 st' sub
    refine h3 _ ⟨rfl, ?_⟩
    cases e : f x with
    | true =>
      rw [if_pos rfl]
      refine h4 e _ ⟨rfl, lc_pure f g r _ hr ?_⟩
      rw [List.filter_cons_of_pos e, List.map_cons] at h
      simpa using h
    | false =>
      rw [if_neg (by decide)]
      refine lc_pure f g r _ hr ?_
      rw [List.filter_cons_of_neg (by rw [e]; decide)] at h
      exact h
/-- .. without a test -/
theorem lc_map {tg : TG} {e : Sl → Store → PQ → Prop} {t : Sl → Store → (Bool → Store → Prop) → Prop} {τ : Sl} {st : Store} {K : List PV → Prop} (g : PV → PV)
    (xs : List PV) (ht : ∀ τ1 st' Q, Q true st' → t τ1 st' Q) (hx : ∀ x ∈ xs, ∃ τ1, tg.asg x τ = some τ1 ∧ ∀ st', Sub st st' → ∀ Q, Q (g x) st' → e τ1 st' Q) (h : K (xs.map g)) : lcL tg t e τ st xs [] K :=
  lc_pure (fun _ => true) g xs [] (fun x hm => let ⟨τ1, a, b⟩ := hx x hm; ⟨τ1, a, fun st' sub => ⟨fun Q q => ht _ _ _ q, fun _ Q q => b st' sub Q q⟩⟩) (by rw [List.filter_eq_self.mpr (fun _ _ => rfl)]; exact h)
/-- slices from the start, to the end -/
theorem cut_to {α : Type} {xs : List α} {k : Int} (h : 0 ≤ k) : cutP xs none (some k) = xs.take k.toNat := by
  obtain ⟨n, rfl⟩ := Int.eq_ofNat_of_zero_le h
  unfold cutP
  rw [HT.sIx_nat, HT.sIx_none, List.drop_zero, Int.toNat_natCast, Nat.sub_zero, List.take_eq_take_iff]
  omega
theorem cut_from {α : Type} {xs : List α} {k : Int} (h : 0 ≤ k) : cutP xs (some k) none = xs.drop k.toNat := by
  obtain ⟨n, rfl⟩ := Int.eq_ofNat_of_zero_le h
  unfold cutP
  rw [HT.sIx_nat, HT.sIx_none, Int.toNat_natCast]
  by_cases hn : n ≤ xs.length
  · rw [Nat.min_eq_left hn]
    exact List.take_of_length_le (by rw [List.length_drop]; omega)
  · rw [Nat.min_eq_right (by omega), Nat.sub_self, List.take_zero]
    exact (List.drop_eq_nil_of_le (by omega)).symm
end TK

open TK in
local macro_rules | `(tactic| simp_all only [$xs,*]) => `(tactic| simp only [ss_nil, ss_cons, nxt_nx, nxt_rt, nxt_bk, nxt_ct, lp_nx, lp_rt, lp_bk, lp_ct, ex_nxt, ex_lp, KV, KF, KBin2, KBin1, KNeg, KNot2, KNot, KCmp2, KCmp1, KCh4, KCh3, KCh2, KCh1, KBs2, KBs, KIf, KTup, KLst, KIdx2, KIdx1, KSl3, KSl2, KSl1, KCall, KBlt, KIsi2, KIsi, KMe2, KMe1, KComp2, KComp, KEs2, KEs1, KO2, KO, KTv, KT4, KT3, KT2, KT1, KTc4, KTc3, KTc2, KTc1, KTn, KTs, KTi, KI1, KR12, KR1, KR2d, KR2c, KR2b, KR2a, KEn, KZ2, KZ1, KNx, KAsg, KAsgN, KSx4, KSx3, KSx2, KSx1, KAug2, KAug1, KExpr, KArm, KLoop, KWt, e_var, e_fvar, e_int, e_bl, e_non, e_str, e_glob, e_bin, e_neg, e_not, e_cmp, e_chain, e_bools, e_ite, e_tup, e_lst, e_idx, e_slice, e_call, e_blt, e_isi, e_meth, e_comp, es_nil, es_cons, bs_one, bs_and, bs_or, o_no, o_yes, t_val, t_cmp, t_chain, t_not, t_bools, t_ite, ts_nilA, ts_nilO, ts_and, ts_or, i_val, i_r1, i_r2, i_en, i_zip, s_asgN, s_asgT, s_asgLc, s_setIx, s_aug, s_expr, s_ret, s_retN, s_ite, s_loop, s_while, s_pass, s_brk, s_cont, rt_fn, nx_fn, oP_some, oP_none, ↓v_itT, ↓v_itL, ↓v_itR, ↓v_lenR, ↓v_tuple, ↓v_listR, ↓v_all, ↓v_any, ↓v_sum, ↓v_max, ↓v_min, ↓v_in, ↓v_notIn, ↓v_it, ↓v_itL2, ↓v_frz, KItL, KLen, KTupB, KListB, KAll2, KAll, KAny2, KAny, KSum2, KSum, KMax2, KMax, KMin2, KMin, KIn, KNotIn, KItR, KFrz, ↓v_eqII, ↓v_neII, ↓v_eqBB, ↓v_neBB, ↓v_set, ↓v_app, ↓v_ext, ↓v_pop, ↓v_addRL, ↓v_addLR, ↓v_addRR, ↓v_cut, ↓v_tru, KSet1, KSet2, KApp, KExt, KPop, KAddL, KCut, KTru, List.set_cons_zero, List.set_cons_succ, onBl_eq, onInt_eq, getS_0, getS_s, getS, setS, wipeS, TG.asg, TGs.asg, Option.bind_some, binV, negV, cmpV, idxV, itemV, sliceV, bltV, isiV, methV, truV, setIxV, augV, newList, frzV, itV, itVL, zipV, lstOf, seqOf, isLst, natc0, natc1, natc2, natc3, natc4, natc5, natc6, natc7, natc8, isNon_non, isNon_int, isNon_bl, isNon_str, isNon_tup, isNon_lst, isNon_ref, atI_0, atI_1, atI_2, atI_3, atI_4, callS_eq, Bool.not_true, Bool.not_false, ite_true, ite_false, reduceIte, reduceCtorEq, Bool.false_eq_true, decide_eq_true_eq, decide_true, decide_false, decide_not, Bool.not_eq_true', decide_eq_false_iff_not, initS, List.map_cons, List.map_nil, List.length_cons, List.length_nil, List.cons_append, List.nil_append, Nat.reduceAdd, Nat.reduceSub, List.replicate_succ, List.replicate_zero, up_same, Option.some.injEq, Cell.lst.injEq, exists_eq_left', exists_eq_left, true_and, and_true, PV.int.injEq, Int.reduceLT, Int.reduceLE, Int.reduceAdd, Int.reduceMul, Int.reduceNeg, Int.reduceSub, Int.reduceToNat, Int.reducePow, id_eq, not_true_eq_false, not_false_eq_true, Nat.zero_add, I.isR, false_implies, true_implies, forall_const, $xs,*])

set_option maxRecDepth 100000
set_option maxHeartbeats 4000000
namespace TK
open PySem PySem.Spec PyProof.Rows L2
-- _law_pool
def b__law_pool : Ss :=
  (.cons (.ret (.lst true (.cons (.blt .list false (.cons (.var 0) .nil)) (.cons (.int 0) (.cons (.int 0) (.cons (.int 7) (.cons (.int 0) .nil))))))) .nil)
def n__law_pool : List Str := ["script"]
-- _law_mix
def b__law_mix : Ss :=
  (.cons (.setIx (.var 0) (.int 4) (.bin .Add false (.idx (.var 0) (.int 4)) (.int 1))) (.cons (.asg (.name 1) (.bin .Mod false (.blt .int false (.cons (.bin .Add false (.bin .Add false (.bin .Mult false (.idx (.var 0) (.int 3)) (.int 48271)) (.bin .Mult false (.idx (.var 0) (.int 4)) (.int 69621))) (.int 11)) .nil)) (.int 2147483647))) (.cons (.setIx (.var 0) (.int 3) (.bin .Mod false (.blt .int false (.cons (.bin .Add false (.bin .Add false (.bin .Mult false (.var 1) (.int 16807)) (.bin .Mult false (.idx (.var 0) (.int 4)) (.int 40692))) (.int 5)) .nil)) (.int 1000000007))) (.cons (.ret (.idx (.var 0) (.int 3))) .nil))))
def n__law_mix : List Str := ["pool", "first"]
-- _law_draw
def b__law_draw : Ss :=
  (.cons (.ite (.cmp .Lt (.var 1) (.int 2)) (.cons (.ret (.int 0)) .nil) .nil) (.cons (.ite (.cmp .Gt (.idx (.var 0) (.int 2)) (.int 0)) (.cons (.asg (.name 2) (.bin .Mod false (.blt .int false (.cons (.idx (.var 0) (.int 2)) .nil)) (.var 1))) (.cons (.setIx (.var 0) (.int 2) (.bin .FloorDiv false (.idx (.var 0) (.int 2)) (.var 1))) (.cons (.ret (.var 2)) .nil))) .nil) (.cons (.ite (.cmp .Lt (.idx (.var 0) (.int 1)) (.blt .len false (.cons (.idx (.var 0) (.int 0)) .nil))) (.cons (.asg (.name 3) (.idx (.idx (.var 0) (.int 0)) (.idx (.var 0) (.int 1)))) (.cons (.setIx (.var 0) (.int 1) (.bin .Add false (.idx (.var 0) (.int 1)) (.int 1))) (.cons (.ite (.cmp .GtE (.var 3) (.bin .Pow false (.int 10) (.int 18))) (.cons (.setIx (.var 0) (.int 2) (.bin .FloorDiv false (.var 3) (.var 1))) (.cons (.ret (.bin .Mod false (.blt .int false (.cons (.var 3) .nil)) (.var 1))) .nil)) .nil) (.cons (.setIx (.var 0) (.int 3) (.bin .Mod false (.blt .int false (.cons (.bin .Add false (.bin .Add false (.bin .Mult false (.idx (.var 0) (.int 3)) (.int 31)) (.bin .Mult false (.int 2) (.blt .abs false (.cons (.var 3) .nil)))) (.ite (.cmp .Lt (.var 3) (.int 0)) (.int 1) (.int 0))) .nil)) (.int 1000000007))) .nil)))) .nil) (.cons (.ret (.bin .Mod false (.blt .int false (.cons (.bin .FloorDiv false (.call "_law_mix" sp__law_mix (.cons (.var 0) .nil)) (.int 11)) .nil)) (.var 1))) .nil))))
def n__law_draw : List Str := ["pool", "many", "told", "cell"]
theorem w__law_pool : ∀ vs s Q X, vs.length = 1 → sl__law_pool vs s Q X → wpFn n__law_pool.length b__law_pool vs s Q X := by
  intro vs s Q X hl h
  unfold sl__law_pool at h
  split at h
  · rename_i ns
    rw [fn_eq]
    unfold b__law_pool n__law_pool
    simp_all only [ss_nil]
    exact ⟨by decide, fun p hp => ⟨_, .rfl, h p hp⟩⟩
  · exact h.elim
theorem w__law_mix : ∀ vs s Q X, vs.length = 1 → sp__law_mix vs s Q X → wpFn n__law_mix.length b__law_mix vs s Q X := by
  intro vs s Q X hl h
  unfold sp__law_mix at h
  split at h
  · rename_i p
    rw [fn_eq]
    unfold b__law_mix n__law_mix
    obtain ⟨ns, x, b, c, d, hp, h⟩ := h
    simp_all only [ss_nil, hp, poolC, ix_50, ix_51, ix_52, ix_53, ix_54, up_up]
    rw [Nx_eq]
    simp_all only [ss_nil, hp, poolC, ix_50, ix_51, ix_52, ix_53, ix_54, up_up]
    refine ⟨CMul.ok (by unfold CMul; omega), CMul.ok (by unfold CMul; omega), by decide, ?_⟩
    rw [Nx_eq]
    simp_all only [ss_nil, hp, poolC, ix_50, ix_51, ix_52, ix_53, ix_54, up_up]
    refine ⟨CMul.ok (by unfold CMul; omega), CMul.ok (by unfold CMul; omega), by decide, ?_⟩
    rw [Nx_eq]
    simp_all only [ss_nil, hp, poolC, ix_50, ix_51, ix_52, ix_53, ix_54, up_up]
    exact ⟨_, .rfl, h _ _ (Int.fmod_nonneg_of_pos _ (by decide))⟩
  · exact h.elim
theorem w__law_draw : ∀ vs s Q X, vs.length = 2 → sl__law_draw vs s Q X → wpFn n__law_draw.length b__law_draw vs s Q X := by
  intro vs s Q X hl h
  unfold sl__law_draw at h
  split at h
  · rename_i p many
    rw [fn_eq]
    unfold b__law_draw n__law_draw
    obtain ⟨ns, x, b, c, d, hp, hx, hm, h⟩ := h
    -- what is drawn is below many
    have low : ∀ z : Int, ¬ many < 2 → 0 ≤ z.fmod many ∧ (2 ≤ many → z.fmod many < many) ∧ (many < 2 → z.fmod many = 0) := fun z hz =>
      ⟨Int.fmod_nonneg_of_pos z (by omega), fun _ => Int.fmod_lt_of_pos z (by omega), fun h => absurd h hz⟩
    simp_all only [ss_nil, hp, poolC]
    split
    · (first | rw [Nx_eq] | rw [Arm_eq] | skip); (try simp_all only [ss_nil])
      have e := h 0 x b c d hx (Int.le_refl 0) (fun _ => by omega) (fun _ => rfl)
      rw [up_id hp] at e
      exact ⟨s, .rfl, e⟩
    · rename_i hmany
      have dv : DivOk many := hm.div (by omega)
      have m0 : many ≠ 0 := by omega
      (first | rw [Nx_eq] | rw [Arm_eq] | skip); (try simp_all only [ss_nil, Nx_eq, hp, poolC])
      split
      · (first | rw [Nx_eq] | rw [Arm_eq] | skip); (try simp_all only [ss_nil, hp, poolC, m0, ne_eq])
        (first | rw [Nx_eq] | rw [Arm_eq] | skip); (try simp_all only [ss_nil, hp, poolC, ix_52, up_up])
        refine ⟨dv, ?_⟩
        (first | rw [Nx_eq] | rw [Arm_eq] | skip); (try simp_all only [ss_nil])
        obtain ⟨l1, l2, l3⟩ := low b hmany
        exact ⟨_, .rfl, h _ _ _ _ _ hx l1 l2 l3⟩
      · (first | rw [Nx_eq] | rw [Arm_eq] | skip); (try simp_all only [ss_nil, Nx_eq, hp, poolC])
        split
        · rename_i hlt
          rw [List.length_map] at hlt
          (first | rw [Nx_eq] | rw [Arm_eq] | skip); (try simp_all only [ss_nil, hp, poolC, atI_int hx hlt])
          generalize ns[x.toNat]'(by omega) = z
          (first | rw [Nx_eq] | rw [Arm_eq] | skip); (try simp_all only [ss_nil, hp, poolC, ix_51])
          (first | rw [Nx_eq] | rw [Arm_eq] | skip); (try simp_all only [ss_nil, hp, poolC])
          refine ⟨by unfold CPow; decide, ?_⟩
          split
          · (first | rw [Nx_eq] | rw [Arm_eq] | skip); (try simp_all only [ss_nil, hp, poolC, ix_52, up_up])
            refine ⟨dv, ?_⟩
            (first | rw [Nx_eq] | rw [Arm_eq] | skip); (try simp_all only [ss_nil, m0, ne_eq])
            obtain ⟨l1, l2, l3⟩ := low z hmany
            exact ⟨_, .rfl, h _ _ _ _ _ (by omega) l1 l2 l3⟩
          · (first | rw [Nx_eq] | rw [Arm_eq] | skip); (try simp_all only [ss_nil, Nx_eq, hp, poolC, ix_53, up_up])
            refine ⟨CMul.ok (by unfold CMul; omega), CMul.ok (by unfold CMul; omega), ?_⟩
            split
            all_goals
              refine ⟨by decide, ?_⟩
              refine callS_of ⟨ns, x + 1, b, _, d, up_same, fun c' d' hc => ?_⟩
              simp_all only [ss_nil, up_up]
              refine ⟨⟨by decide, by decide⟩, ?_⟩
              simp_all only [ss_nil, m0, ne_eq]
              obtain ⟨l1, l2, l3⟩ := low (c'.fdiv 11) hmany
              exact ⟨_, .rfl, h _ _ _ _ _ (by omega) l1 l2 l3⟩
        · (first | rw [Nx_eq] | rw [Arm_eq] | skip); (try simp_all only [ss_nil, Nx_eq, hp, poolC])
          refine callS_of ⟨ns, x, b, c, d, hp, fun c' d' hc => ?_⟩
          simp_all only [ss_nil]
          refine ⟨⟨by decide, by decide⟩, ?_⟩
          simp_all only [ss_nil, m0, ne_eq]
          obtain ⟨l1, l2, l3⟩ := low (c'.fdiv 11) hmany
          exact ⟨_, .rfl, h _ _ _ _ _ hx l1 l2 l3⟩
  · exact h.elim

def pickR (xs : List PV) (st : Store) (Q : PQ) : Prop := xs ≠ [] ∧ xs.length ≤ 10 ^ 9 ∧ ∀ (i : Nat) v, xs[i]? = some v → Q v st
def sp__law_pick : PSpec
  | [.ref p, m], st, Q, _ => st p = some .pool ∧ (match m with
    | .lst xs => pickR xs st Q
    | .tup xs => pickR xs st Q
    | _ => False)
  | _, _, _, _ => False
def b__law_pick : Ss :=
  (.cons (.ret (.idx (.var 1) (.call "_law_draw" sp__law_draw (.cons (.var 0) (.cons (.blt .len false (.cons (.var 1) .nil)) .nil))))) .nil)
def n__law_pick : List Str := ["pool", "menu"]

theorem w__law_pick : ∀ vs s Q X, vs.length = 2 → sp__law_pick vs s Q X → wpFn n__law_pick.length b__law_pick vs s Q X := by
  intro vs s Q X hl h
  unfold sp__law_pick at h
  split at h
  · rename_i p m
    rw [fn_eq]
    unfold b__law_pick n__law_pick
    obtain ⟨hp, h⟩ := h
    have go : ∀ xs : List PV, pickR xs s Q → Sm xs.length ∧ ∀ r : Int, 0 ≤ r → (2 ≤ (xs.length : Int) → r < xs.length) → ((xs.length : Int) < 2 → r = 0) → ∃ v, atI xs r = some v ∧ Q v s := by
      rintro xs ⟨h0, hb, hq⟩
      have hpos : 0 < xs.length := List.length_pos_iff.mpr h0
      refine ⟨.of (by omega), fun r r0 r1 r2 => ?_⟩
      have hr : r < xs.length := by omega
      exact ⟨_, atI_of r0 hr, hq r.toNat _ (List.getElem?_eq_getElem _)⟩
    cases m with
    | lst xs =>
      obtain ⟨h1, h2⟩ := go xs h
      simp_all only [ss_nil]
      refine callS_of ⟨hp, h1, fun r r0 r1 r2 => ?_⟩
      obtain ⟨v, e, q⟩ := h2 r r0 r1 r2
      simp_all only [ss_nil, e]
      exact ⟨s, .rfl, q⟩
    | tup xs =>
      obtain ⟨h1, h2⟩ := go xs h
      simp_all only [ss_nil]
      refine callS_of ⟨hp, h1, fun r r0 r1 r2 => ?_⟩
      obtain ⟨v, e, q⟩ := h2 r r0 r1 r2
      simp_all only [ss_nil, e]
      exact ⟨s, .rfl, q⟩
    | _ => exact h.elim
  · exact h.elim
/-- is it a whole number? -/
def isI : PV → Bool
  | .int _ => true
  | _ => false
def noRef : PV → Bool
  | .ref _ => false
  | .scr _ => false
  | _ => true
def sp__law_int : PSpec
  | [v], st, Q, _ => noRef v = true ∧ Q (.bl (isI v)) st
  | _, _, _, _ => False
def b__law_int : Ss :=
  (.cons (.ret (.bools .And (.cons (.isi (.var 0) "int") (.cons (.not (.isi (.var 0) "bool")) .nil)))) .nil)
def n__law_int : List Str := ["value"]

theorem w__law_int : ∀ vs s Q X, vs.length = 1 → sp__law_int vs s Q X → wpFn n__law_int.length b__law_int vs s Q X := by
  intro vs s Q X hl h
  unfold sp__law_int at h
  split at h
  · rename_i v
    rw [fn_eq]
    unfold b__law_int n__law_int
    obtain ⟨hv, h⟩ := h
    cases v <;> first | (cases hv; done) | (simp_all only [ss_nil]; exact ⟨s, .rfl, h⟩)
  · exact h.elim
end TK

set_option maxRecDepth 100000
set_option maxHeartbeats 4000000
namespace TK
open PySem PySem.Spec PyProof.Rows L2
theorem res_of {st : Store} {v : PV} (h : noRef v = true) : res st v = v := by
  cases v <;> first | rfl | cases h
/-- equal ones are told the same -/
def sp__law_same : PSpec
  | [v, w], st, Q, _ => v = w ∧ noRef v = true ∧ ShowOk v ∧ Q (.bl true) st
  | _, _, _, _ => False
def b__law_same : Ss :=
  (.cons (.ret (.cmp .Eq (.blt .repr false (.cons (.var 0) .nil)) (.blt .repr false (.cons (.var 1) .nil)))) .nil)
def n__law_same : List Str := ["value", "due"]

theorem w__law_same : ∀ vs s Q X, vs.length = 2 → sp__law_same vs s Q X → wpFn n__law_same.length b__law_same vs s Q X := by
  intro vs s Q X hl h
  unfold sp__law_same at h
  split at h
  · rename_i v w
    rw [fn_eq]
    unfold b__law_same n__law_same
    obtain ⟨rfl, hn, hs, h⟩ := h
    simp_all only [ss_nil, res_of hn]
    refine ⟨hs, hs, .inl rfl, ?_⟩
    unfold res eqv
    exact ⟨s, .rfl, by simpa using h⟩
  · exact h.elim
def sp__law_gcd : PSpec
  | [.int a, .int b], st, Q, _ => Q (.int (Int.gcd a b)) st
  | _, _, _, _ => False
def b__law_gcd_1 : Ss :=
  (.cons (.asg (.name 2) (.bin .Mod false (.blt .int false (.cons (.var 0) .nil)) (.var 1))) (.cons (.asg (.name 0) (.var 1)) (.cons (.asg (.name 1) (.var 2)) .nil)))
def b__law_gcd : Ss :=
  (.cons (.asg (.name 0) (.blt .abs false (.cons (.var 0) .nil))) (.cons (.asg (.name 1) (.blt .abs false (.cons (.var 1) .nil))) (.cons (.while (.cmp .Gt (.var 1) (.int 0)) b__law_gcd_1) (.cons (.ret (.var 0)) .nil))))
def n__law_gcd : List Str := ["a", "b", "rest"]

theorem fmod_gcd (a b : Nat) (hb : 0 < b) : ((a : Int).fmod b) = ((a % b : Nat) : Int) := by
  rw [Int.fmod_eq_emod_of_nonneg _ (by omega)]; rfl
theorem w__law_gcd : ∀ vs s Q X, vs.length = 2 → sp__law_gcd vs s Q X → wpFn n__law_gcd.length b__law_gcd vs s Q X := by
  intro vs s Q X hl h
  unfold sp__law_gcd at h
  split at h
  · rename_i a b
    rw [fn_eq]
    unfold b__law_gcd n__law_gcd
    have ab : ∀ z : Int, (if z < 0 then -z else z) = (z.natAbs : Int) := fun z => by split <;> omega
    simp_all only [ss_nil, ab]
    (first | rw [Nx_eq] | rw [Arm_eq] | skip); (try simp_all only [ss_nil, ab])
    (first | rw [Nx_eq] | rw [Arm_eq] | skip); (try simp_all only [ss_nil])
    refine while_ind (fun n τ st => ∃ (x y : Nat) (o : Option PV), τ = [some (.int x), some (.int y), o] ∧ st = s ∧ y = n ∧ Nat.gcd x y = Int.gcd a b) ?_ b.natAbs ⟨a.natAbs, b.natAbs, none, rfl, rfl, rfl, rfl⟩
    rintro n τ st ⟨x, y, o, rfl, rfl, rfl, hg⟩
    simp_all only [ss_nil]
    split
    · rename_i hy
      have hy' : 0 < y := by omega
      unfold b__law_gcd_1
      simp_all only [ss_nil]
      refine ⟨by omega, ?_⟩
      (first | rw [Nx_eq] | rw [Arm_eq] | skip); (try simp_all only [ss_nil])
      (first | rw [Nx_eq] | rw [Arm_eq] | skip); (try simp_all only [ss_nil, Nx_eq])
      refine ⟨x % y, Nat.mod_lt _ hy', y, x % y, some (.int (x % y : Nat)), by rw [fmod_gcd x y hy'], rfl, ?_⟩
      rw [← hg, Nat.gcd_comm x y, Nat.gcd_rec y x, Nat.gcd_comm]
    · rename_i hy
      have : y = 0 := by omega
      subst this
      (first | rw [Nx_eq] | rw [Arm_eq] | skip); (try simp_all only [ss_nil])
      rw [Nat.gcd_zero_right] at hg
      subst hg
      exact ⟨st, .rfl, h⟩
  · exact h.elim
end TK

set_option maxRecDepth 100000
set_option maxHeartbeats 4000000
namespace TK
open PySem PySem.Spec PyProof.Rows L2
/-! ### ratios -/
/-- a ratio as the program holds it -/
def ratV (r : Rat) : PV := .tup [.int r.num, .int r.den]
def Sz (n : Int) : Prop := n.natAbs < 2 ^ 3900
def SzR (r : Rat) : Prop := Sz r.num ∧ Sz r.den
theorem Sz.of {n : Int} (h : n.natAbs ≤ 10 ^ 1000) : Sz n := Nat.lt_of_le_of_lt h (by decide)
theorem Sz.sm {n : Int} (h : Sz n) : Sm n := Nat.lt_of_lt_of_le h (Nat.pow_le_pow_right (by decide) (by decide))
theorem Sz.mulSm {m n : Int} (h : Sz m) (k : Sz n) : Sm (m * n) := by
  unfold Sm
  rw [Int.natAbs_mul]
  exact Nat.lt_of_lt_of_le (Nat.mul_lt_mul_of_lt_of_lt h k) (by rw [← Nat.pow_add]; exact Nat.pow_le_pow_right (by decide) (by decide))
theorem Sz.ok {m n : Int} (h : Sz m) (k : Sz n) : IntMulOk m n :=
  .of_le (intBits_le_iff.mpr h) (intBits_le_iff.mpr k) (by decide)
theorem divInt_num_le {n d : Int} (h : d ≠ 0) : (Rat.divInt n d).num.natAbs ≤ n.natAbs := by
  rw [Rat.num_divInt]
  refine Nat.le_trans (Int.natAbs_ediv_le_natAbs _ _) ?_
  rw [Int.natAbs_mul]
  rw [Int.natAbs_sign_of_ne_zero h, Nat.one_mul]
  exact Nat.le_refl _
theorem divInt_den_le {n d : Int} (h : d ≠ 0) : (Rat.divInt n d).den ≤ d.natAbs := by
  rw [Rat.den_divInt, if_neg h]
  exact Nat.div_le_self _ _
def sp__law_ratio : PSpec
  | [.int n, .int d], st, Q, _ => d ≠ 0 ∧ Sm d ∧ Q (ratV (Rat.divInt n d)) st
  | _, _, _, _ => False
def b__law_ratio : Ss :=
  (.cons (.ite (.cmp .Lt (.var 1) (.int 0)) (.cons (.asg (.name 0) (.neg (.var 0))) (.cons (.asg (.name 1) (.neg (.var 1))) .nil)) .nil) (.cons (.asg (.name 2) (.call "_law_gcd" sp__law_gcd (.cons (.var 0) (.cons (.var 1) .nil)))) (.cons (.ret (.tup (.cons (.bin .FloorDiv false (.var 0) (.var 2)) (.cons (.bin .FloorDiv false (.var 1) (.var 2)) .nil)))) .nil)))
def n__law_ratio : List Str := ["n", "d", "g"]

theorem w__law_ratio : ∀ vs s Q X, vs.length = 2 → sp__law_ratio vs s Q X → wpFn n__law_ratio.length b__law_ratio vs s Q X := by
  intro vs s Q X hl h
  unfold sp__law_ratio at h
  split at h
  · rename_i n d
    rw [fn_eq]
    unfold b__law_ratio n__law_ratio
    obtain ⟨h0, hs, h⟩ := h
    have key : ∀ n d : Int, 0 < d → Sm d → Q (ratV (Rat.divInt n d)) s → wpSs (.cons (.asg (.name 2) (.call "_law_gcd" sp__law_gcd (.cons (.var 0) (.cons (.var 1) .nil)))) (.cons (.ret (.tup (.cons (.bin .FloorDiv false (.var 0) (.var 2)) (.cons (.bin .FloorDiv false (.var 1) (.var 2)) .nil)))) .nil)) (fnEnds Q X) [some (.int n), some (.int d), none] s := by
      intro n d hd hs h
      simp_all only [ss_nil]
      refine callS_of ?_
      unfold sp__law_gcd
      simp_all only [ss_nil]
      have hg0 : 0 < Int.gcd n d := Int.gcd_pos_of_ne_zero_right _ (by omega)
      have hg1 : Int.gcd n d ≤ d.natAbs := Int.gcd_le_natAbs_right _ (by omega)
      have hdv : DivOk (Int.gcd n d) := Sm.div (Nat.lt_of_le_of_lt (by simpa using hg1) hs) (by omega)
      (first | rw [Nx_eq] | rw [Arm_eq] | skip); (try simp_all only [ss_nil])
      refine ⟨hdv, hdv, by decide, s, .rfl, ?_⟩
      have e1 : n.fdiv (Int.gcd n d) = (Rat.divInt n d).num := by
        rw [Rat.num_divInt, Int.sign_eq_one_of_pos hd, Int.one_mul, Int.gcd_comm, Int.fdiv_eq_ediv_of_nonneg _ (by omega)]
      have e2 : d.fdiv (Int.gcd n d) = ((Rat.divInt n d).den : Int) := by
        rw [Rat.den_divInt, if_neg (by omega), Int.gcd_comm, Int.fdiv_eq_ediv_of_nonneg _ (by omega)]
        rw [Int.natCast_ediv]
        congr 1
        omega
      rw [e1, e2]
      exact h
    simp_all only [ss_nil]
    split
    · rename_i hd
      (first | rw [Nx_eq] | rw [Arm_eq] | skip); (try simp_all only [ss_nil])
      (first | rw [Nx_eq] | rw [Arm_eq] | skip); (try simp_all only [ss_nil])
      (first | rw [Nx_eq] | rw [Arm_eq] | skip); (try simp_all only [ss_nil])
      rw [Nx_eq]
      refine key (-n) (-d) (by omega) (by unfold Sm at hs ⊢; omega) ?_
      rw [Rat.neg_divInt_neg]
      exact h
    · (first | rw [Nx_eq] | rw [Arm_eq] | skip); (try simp_all only [ss_nil])
      rw [Nx_eq]
      exact key n d (by omega) hs h
  · exact h.elim

/-- a ratio of small numbers -/
def Bd (k : Nat) (r : Rat) : Prop := r.num.natAbs < 2 ^ k ∧ r.den < 2 ^ k
/-- a value that tells a ratio, in lowest terms or not -/
def Fr (k : Nat) (v : PV) (r : Rat) : Prop := ∃ n d : Int, v = .tup [.int n, .int d] ∧ 0 < d ∧ n.natAbs < 2 ^ k ∧ d.natAbs < 2 ^ k ∧ r = Rat.divInt n d
theorem pow2_le {a b : Nat} (h : a ≤ b) : 2 ^ a ≤ 2 ^ b := Nat.pow_le_pow_right (by decide) h
theorem Bd.mono {a b : Nat} {r : Rat} (h : Bd a r) (k : a ≤ b) : Bd b r := ⟨Nat.lt_of_lt_of_le h.1 (pow2_le k), Nat.lt_of_lt_of_le h.2 (pow2_le k)⟩
theorem Fr.mono {a b : Nat} {v : PV} {r : Rat} (h : Fr a v r) (k : a ≤ b) : Fr b v r := by
  obtain ⟨n, d, e, h1, h2, h3, h4⟩ := h
  exact ⟨n, d, e, h1, Nat.lt_of_lt_of_le h2 (pow2_le k), Nat.lt_of_lt_of_le h3 (pow2_le k), h4⟩
theorem Fr.bd {a : Nat} {v : PV} {r : Rat} (h : Fr a v r) : Bd a r := by
  obtain ⟨n, d, _, h1, h2, h3, rfl⟩ := h
  exact ⟨Nat.lt_of_le_of_lt (divInt_num_le (by omega)) h2, Nat.lt_of_le_of_lt (divInt_den_le (by omega)) h3⟩
theorem Bd.fr {a : Nat} {r : Rat} (h : Bd a r) : Fr a (ratV r) r :=
  ⟨r.num, r.den, rfl, by have := r.den_nz; omega, h.1, h.2, (Rat.num_divInt_den r).symm⟩
theorem Bd.of_divInt {k : Nat} {n d : Int} (h0 : d ≠ 0) (h : n.natAbs < 2 ^ k) (h2 : d.natAbs < 2 ^ k) : Bd k (Rat.divInt n d) :=
  ⟨Nat.lt_of_le_of_lt (divInt_num_le h0) h, Nat.lt_of_le_of_lt (divInt_den_le h0) h2⟩
theorem mul_pow {a b x y : Nat} (h : x < 2 ^ a) (k : y < 2 ^ b) : x * y < 2 ^ (a + b) := by
  rw [Nat.pow_add]; exact Nat.mul_lt_mul_of_lt_of_lt h k
theorem sum_pow {a x y : Nat} (h : x < 2 ^ a) (k : y < 2 ^ a) : x + y < 2 ^ (a + 1) := by
  rw [Nat.pow_succ]; omega
theorem two_mul_abs {n d m e : Int} {a b : Nat} (h1 : n.natAbs < 2 ^ a) (h2 : d.natAbs < 2 ^ a) (h3 : m.natAbs < 2 ^ b) (h4 : e.natAbs < 2 ^ b) :
    (n * e + m * d).natAbs < 2 ^ (a + b + 1) ∧ (n * e - m * d).natAbs < 2 ^ (a + b + 1) ∧ (d * e).natAbs < 2 ^ (a + b + 1) := by
  have e1 : (n * e).natAbs < 2 ^ (a + b) := by rw [Int.natAbs_mul]; exact mul_pow h1 h4
  have e2 : (m * d).natAbs < 2 ^ (a + b) := by rw [Int.natAbs_mul, Nat.mul_comm]; exact mul_pow h2 h3
  have e3 : (d * e).natAbs < 2 ^ (a + b) := by rw [Int.natAbs_mul]; exact mul_pow h2 h4
  have := sum_pow e1 e2
  refine ⟨by omega, by omega, Nat.lt_of_lt_of_le e3 (pow2_le (by omega))⟩
theorem divInt_add {a b c d : Int} (hb : b ≠ 0) (hd : d ≠ 0) : Rat.divInt (a * d + c * b) (b * d) = Rat.divInt a b + Rat.divInt c d := (Rat.divInt_add_divInt a c hb hd).symm
theorem divInt_sub {a b c d : Int} (hb : b ≠ 0) (hd : d ≠ 0) : Rat.divInt (a * d - c * b) (b * d) = Rat.divInt a b - Rat.divInt c d := (Rat.divInt_sub_divInt a c hb hd).symm
theorem Fr.add {a b : Nat} {v w : PV} {x y : Rat} (h : Fr a v x) (k : Fr b w y) : Bd (a + b + 1) (x + y) ∧ Bd (a + b + 1) (x - y) := by
  obtain ⟨n, d, _, h1, h2, h3, rfl⟩ := h
  obtain ⟨m, e, _, k1, k2, k3, rfl⟩ := k
  obtain ⟨z1, z2, z3⟩ := two_mul_abs h2 h3 k2 k3
  have nz : d * e ≠ 0 := Int.mul_ne_zero (by omega) (by omega)
  rw [← divInt_add (by omega) (by omega), ← divInt_sub (by omega) (by omega)]
  exact ⟨.of_divInt nz z1 z3, .of_divInt nz z2 z3⟩
theorem Bd.add {a b : Nat} {x y : Rat} (h : Bd a x) (k : Bd b y) : Bd (a + b + 1) (x + y) := (h.fr.add k.fr).1
theorem Bd.sub {a b : Nat} {x y : Rat} (h : Bd a x) (k : Bd b y) : Bd (a + b + 1) (x - y) := (h.fr.add k.fr).2
def sp__law_plus : PSpec
  | [a, b], st, Q, _ => ∃ x y : Rat, Fr 3900 a x ∧ Fr 3900 b y ∧ Q (ratV (x + y)) st
  | _, _, _, _ => False
def b__law_plus : Ss :=
  (.cons (.ret (.call "_law_ratio" sp__law_ratio (.cons (.bin .Add false (.bin .Mult false (.idx (.var 0) (.int 0)) (.idx (.var 1) (.int 1))) (.bin .Mult false (.idx (.var 1) (.int 0)) (.idx (.var 0) (.int 1)))) (.cons (.bin .Mult false (.idx (.var 0) (.int 1)) (.idx (.var 1) (.int 1))) .nil)))) .nil)
def n__law_plus : List Str := ["a", "b"]

theorem w__law_plus : ∀ vs s Q X, vs.length = 2 → sp__law_plus vs s Q X → wpFn n__law_plus.length b__law_plus vs s Q X := by
  intro vs s Q X hl h
  unfold sp__law_plus at h
  split at h
  · rename_i a b
    rw [fn_eq]
    unfold b__law_plus n__law_plus
    obtain ⟨x, y, ⟨n, d, rfl, h1, h2, h3, rfl⟩, ⟨m, e, rfl, k1, k2, k3, rfl⟩, h⟩ := h
    simp_all only [ss_nil]
    refine ⟨Sz.ok h2 k3, Sz.ok k2 h3, Sz.ok h3 k3, callS_of ⟨Int.mul_ne_zero (by omega) (by omega), Sz.mulSm h3 k3, s, .rfl, ?_⟩⟩
    rw [divInt_add (by omega) (by omega)]
    exact h
  · exact h.elim
def sp__law_less_by : PSpec
  | [a, b], st, Q, _ => ∃ x y : Rat, Fr 3900 a x ∧ Fr 3900 b y ∧ Q (ratV (x - y)) st
  | _, _, _, _ => False
def b__law_less_by : Ss :=
  (.cons (.ret (.call "_law_ratio" sp__law_ratio (.cons (.bin .Sub false (.bin .Mult false (.idx (.var 0) (.int 0)) (.idx (.var 1) (.int 1))) (.bin .Mult false (.idx (.var 1) (.int 0)) (.idx (.var 0) (.int 1)))) (.cons (.bin .Mult false (.idx (.var 0) (.int 1)) (.idx (.var 1) (.int 1))) .nil)))) .nil)
def n__law_less_by : List Str := ["a", "b"]

theorem w__law_less_by : ∀ vs s Q X, vs.length = 2 → sp__law_less_by vs s Q X → wpFn n__law_less_by.length b__law_less_by vs s Q X := by
  intro vs s Q X hl h
  unfold sp__law_less_by at h
  split at h
  · rename_i a b
    rw [fn_eq]
    unfold b__law_less_by n__law_less_by
    obtain ⟨x, y, ⟨n, d, rfl, h1, h2, h3, rfl⟩, ⟨m, e, rfl, k1, k2, k3, rfl⟩, h⟩ := h
    simp_all only [ss_nil]
    refine ⟨Sz.ok h2 k3, Sz.ok k2 h3, Sz.ok h3 k3, callS_of ⟨Int.mul_ne_zero (by omega) (by omega), Sz.mulSm h3 k3, s, .rfl, ?_⟩⟩
    rw [divInt_sub (by omega) (by omega)]
    exact h
  · exact h.elim
/-- a wide number: below 10 ** 40 -/
def sp__law_wide : PSpec
  | [.ref p], st, Q, _ => st p = some .pool ∧ ∀ r : Int, 0 ≤ r → r < 10 ^ 40 → Q (.int r) st
  | _, _, _, _ => False
def b__law_wide_1 : Ss :=
  (.cons (.asg (.name 1) (.bin .Add false (.bin .Mult false (.var 1) (.bin .Pow false (.int 10) (.int 7))) (.call "_law_draw" sp__law_draw (.cons (.var 0) (.cons (.bin .Pow false (.int 10) (.int 7)) .nil))))) .nil)
def b__law_wide : Ss :=
  (.cons (.asg (.name 1) (.call "_law_draw" sp__law_draw (.cons (.var 0) (.cons (.bin .Pow false (.int 10) (.int 5)) .nil)))) (.cons (.loop (.name 2) (.range1 (.int 5)) b__law_wide_1) (.cons (.ret (.var 1)) .nil)))
def n__law_wide : List Str := ["pool", "told", "turn"]

theorem w__law_wide : ∀ vs s Q X, vs.length = 1 → sp__law_wide vs s Q X → wpFn n__law_wide.length b__law_wide vs s Q X := by
  intro vs s Q X hl h
  unfold sp__law_wide at h
  split at h
  · rename_i p
    rw [fn_eq]
    unfold b__law_wide n__law_wide
    obtain ⟨hp, h⟩ := h
    simp_all only [ss_nil]
    refine ⟨by unfold CPow; decide, callS_of ⟨hp, .of (by decide), fun r r0 r1 _ => ?_⟩⟩
    have r1 := r1 (by decide)
    simp_all only [ss_nil]
    (first | rw [Nx_eq] | rw [Arm_eq] | skip); (try simp_all only [ss_nil])
    refine ⟨by unfold R62; decide, ?_⟩
    refine for_at (fun i τ st => st = s ∧ ∃ (z : Int) (o : Option PV), τ = [some (.ref p), some (.int z), o] ∧ 0 ≤ z ∧ z < 10 ^ (5 + 7 * i)) ?_ ?_ ⟨rfl, r, none, rfl, r0, by simpa using r1⟩
    · rintro i x τ st hi ⟨rfl, z, o, rfl, z0, z1⟩
      have hi5 : i < 5 := by
        have := (List.getElem?_eq_some_iff.mp hi).1
        simpa [rngL] using this
      unfold b__law_wide_1
      refine ⟨trivial, ?_⟩
      simp_all only [ss_nil]
      refine ⟨by unfold CPow; decide, CMul.ok (by unfold CMul; omega), by unfold CPow; decide, callS_of ⟨hp, .of (by decide), fun u u0 u1 _ => ?_⟩⟩
      have u1 := u1 (by decide)
      simp_all only [ss_nil]
      (first | rw [Nx_eq] | rw [Arm_eq] | skip); (try simp_all only [ss_nil])
      refine ⟨_, _, rfl, by omega, ?_⟩
      have e : (10 : Int) ^ (5 + 7 * (i + 1)) = 10 ^ (5 + 7 * i) * 10000000 := by
        rw [show 5 + 7 * (i + 1) = (5 + 7 * i) + 7 by omega, Int.pow_add]; rfl
      rw [e]
      have := Int.mul_le_mul_of_nonneg_right (show z + 1 ≤ 10 ^ (5 + 7 * i) by omega) (show (0 : Int) ≤ 10000000 by decide)
      omega
    · rintro τ st ⟨rfl, z, o, rfl, z0, z1⟩
      refine ⟨trivial, ?_⟩
      simp_all only [ss_nil]
      (first | rw [Nx_eq] | rw [Arm_eq] | skip); (try simp_all only [ss_nil])
      exact ⟨st, .rfl, h z z0 (by simpa [rngL] using z1)⟩
  · exact h.elim

/-- a number of the law: at most 10 ** 40 away from 0 -/
def sp__law_number : PSpec
  | [.ref p], st, Q, _ => st p = some .pool ∧ ∀ r : Int, -(10 ^ 40) ≤ r → r ≤ 10 ^ 40 → Q (.int r) st
  | _, _, _, _ => False
def b__law_number : Ss :=
  (.cons (.asg (.name 1) (.call "_law_draw" sp__law_draw (.cons (.var 0) (.cons (.int 8) .nil)))) (.cons (.asg (.name 2) (.call "_law_draw" sp__law_draw (.cons (.var 0) (.cons (.int 13) .nil)))) (.cons (.ite (.bools .Or (.cons (.cmp .Eq (.var 1) (.int 3)) (.cons (.cmp .Eq (.var 1) (.int 4)) .nil))) (.cons (.asg (.name 2) (.call "_law_draw" sp__law_draw (.cons (.var 0) (.cons (.int 1000) .nil)))) .nil) (.cons (.ite (.cmp .Eq (.var 1) (.int 5)) (.cons (.asg (.name 2) (.bin .Add false (.bin .Pow false (.int 10) (.int 6)) (.call "_law_draw" sp__law_draw (.cons (.var 0) (.cons (.bin .Mult false (.int 9) (.bin .Pow false (.int 10) (.int 6))) .nil))))) .nil) (.cons (.ite (.cmp .Eq (.var 1) (.int 6)) (.cons (.asg (.name 2) (.call "_law_wide" sp__law_wide (.cons (.var 0) .nil))) .nil) (.cons (.ite (.cmp .Eq (.var 1) (.int 7)) (.cons (.asg (.name 2) (.bin .Sub false (.bin .Sub false (.call "_law_pick" sp__law_pick (.cons (.var 0) (.cons (.lst false (.cons (.bin .Pow false (.int 10) (.int 39)) (.cons (.bin .Pow false (.int 10) (.int 40)) .nil))) .nil))) (.int 1)) (.var 2))) .nil) .nil) .nil)) .nil)) .nil)) (.cons (.ite (.cmp .Eq (.call "_law_draw" sp__law_draw (.cons (.var 0) (.cons (.int 2) .nil))) (.int 1)) (.cons (.ret (.neg (.var 2))) .nil) .nil) (.cons (.ret (.var 2)) .nil)))))
def n__law_number : List Str := ["pool", "way", "told"]

theorem w__law_number : ∀ vs s Q X, vs.length = 1 → sp__law_number vs s Q X → wpFn n__law_number.length b__law_number vs s Q X := by
  intro vs s Q X hl h
  unfold sp__law_number at h
  split at h
  · rename_i p
    rw [fn_eq]
    unfold b__law_number n__law_number
    obtain ⟨hp, h⟩ := h
    simp_all only [ss_nil]
    refine callS_of ⟨hp, .of (by decide), fun way w0 w1 _ => ?_⟩
    simp_all only [ss_nil]
    (first | rw [Nx_eq] | rw [Arm_eq] | skip); (try simp_all only [ss_nil])
    refine callS_of ⟨hp, .of (by decide), fun t t0 t1 _ => ?_⟩
    have t1 := t1 (by decide)
    simp_all only [ss_nil]
    -- what comes last
    have fin : ∀ z : Int, 0 ≤ z → z ≤ 10 ^ 40 → Nx (.cons (.ite (.cmp .Eq (.call "_law_draw" sp__law_draw (.cons (.var 0) (.cons (.int 2) .nil))) (.int 1)) (.cons (.ret (.neg (.var 2))) .nil) .nil) (.cons (.ret (.var 2)) .nil)) (fnEnds Q X) [some (.ref p), some (.int way), some (.int z)] s := by
      intro z z0 z1
      (first | rw [Nx_eq] | rw [Arm_eq] | skip); (try simp_all only [ss_nil])
      refine callS_of ⟨hp, .of (by decide), fun u u0 u1 _ => ?_⟩
      simp_all only [ss_nil]
      split
      · (first | rw [Nx_eq] | rw [Arm_eq] | skip); (try simp_all only [ss_nil])
        exact ⟨s, .rfl, h _ (by omega) (by omega)⟩
      · (first | rw [Nx_eq] | rw [Arm_eq] | skip); (try simp_all only [ss_nil, Nx_eq])
        exact ⟨s, .rfl, h _ (by omega) (by omega)⟩
    (first | rw [Nx_eq] | rw [Arm_eq] | skip); (try simp_all only [ss_nil])
    have dr : ∀ (z : Int) (τ : Sl) (K : PQ) (X : EQ), Sm z → (∀ u, 0 ≤ u → (2 ≤ z → u < z) → K (.int u) s) → callS sp__law_draw [.ref p, .int z] s X K := fun z τ K X hz hk => callS_of ⟨hp, hz, fun u u0 u1 _ => hk u u0 u1⟩
    split
    · (first | rw [Nx_eq] | rw [Arm_eq] | skip); (try simp_all only [ss_nil])
      refine dr _ [] _ _ (.of (by decide)) fun u u0 u1 => ?_
      have u1 := u1 (by decide)
      simp_all only [ss_nil]
      (first | rw [Nx_eq] | rw [Arm_eq] | skip); (try simp_all only [ss_nil])
      exact fin _ (by omega) (by omega)
    · split
      · (first | rw [Nx_eq] | rw [Arm_eq] | skip); (try simp_all only [ss_nil])
        refine dr _ [] _ _ (.of (by decide)) fun u u0 u1 => ?_
        have u1 := u1 (by decide)
        simp_all only [ss_nil]
        (first | rw [Nx_eq] | rw [Arm_eq] | skip); (try simp_all only [ss_nil])
        exact fin _ (by omega) (by omega)
      · (first | rw [Nx_eq] | rw [Arm_eq] | skip); (try simp_all only [ss_nil])
        split
        · (first | rw [Nx_eq] | rw [Arm_eq] | skip); (try simp_all only [ss_nil])
          refine ⟨by unfold CPow; decide, by unfold CPow; decide, CMul.ok (by unfold CMul; omega), ?_⟩
          refine dr _ [] _ _ (.of (by decide)) fun u u0 u1 => ?_
          have u1 := u1 (by decide)
          simp_all only [ss_nil]
          (first | rw [Nx_eq] | rw [Arm_eq] | skip); (try simp_all only [ss_nil])
          exact fin _ (by omega) (by omega)
        · (first | rw [Nx_eq] | rw [Arm_eq] | skip); (try simp_all only [ss_nil])
          split
          · (first | rw [Nx_eq] | rw [Arm_eq] | skip); (try simp_all only [ss_nil])
            refine callS_of ⟨hp, fun u u0 u1 => ?_⟩
            simp_all only [ss_nil]
            (first | rw [Nx_eq] | rw [Arm_eq] | skip); (try simp_all only [ss_nil])
            exact fin _ (by omega) (by omega)
          · (first | rw [Nx_eq] | rw [Arm_eq] | skip); (try simp_all only [ss_nil])
            split
            · (first | rw [Nx_eq] | rw [Arm_eq] | skip); (try simp_all only [ss_nil])
              refine ⟨by unfold CPow; decide, by unfold CPow; decide, by decide, callS_of ⟨hp, ?_, by decide, fun i v hv => ?_⟩⟩
              · simp
              · have hv' : v = .int (10 ^ 39) ∨ v = .int (10 ^ 40) := by
                  match i, hv with
                  | 0, e => exact .inl (by simpa using e.symm)
                  | 1, e => exact .inr (by simpa using e.symm)
                  | i + 2, e => simp at e
                rcases hv' with rfl | rfl
                · simp_all only [ss_nil]
                  (first | rw [Nx_eq] | rw [Arm_eq] | skip); (try simp_all only [ss_nil])
                  exact fin _ (by omega) (by omega)
                · simp_all only [ss_nil]
                  (first | rw [Nx_eq] | rw [Arm_eq] | skip); (try simp_all only [ss_nil])
                  exact fin _ (by omega) (by omega)
            · (first | rw [Nx_eq] | rw [Arm_eq] | skip); (try simp_all only [ss_nil])
              exact fin _ (by omega) (by omega)
  · exact h.elim
end TK

set_option maxRecDepth 100000
set_option maxHeartbeats 4000000
namespace TK
open PySem PySem.Spec PyProof.Rows L2
/-! ### codes -/
/-- a code of a bound, or none -/
def codV : Option Int → PV
  | none => .non
  | some c => .int c
def joinC : Option Int → Option Int → Option Int
  | some a, some b => some (a + b - (if a % 2 = 1 ∨ b % 2 = 1 then 1 else 0))
  | _, _ => none
theorem bnot (x : Int) : Builtin.bitNot x = -x - 1 := by unfold Builtin.bitNot; omega
theorem nat_or1 (n : Nat) : n ||| 1 = if n % 2 = 1 then n else n + 1 := by
  have h := Nat.or_mod_two_eq_one (a := n) (b := 1)
  have h2 : (n ||| 1) / 2 = n / 2 := by
    rw [Nat.or_div_two]; simp
  split <;> omega
theorem nat_and2 (a b : Nat) : (a &&& b) % 2 = if a % 2 = 1 ∧ b % 2 = 1 then 1 else 0 := by
  have h := Nat.and_mod_two_eq_one (a := a) (b := b)
  split
  · rename_i g; exact h.mpr g
  · rename_i g
    have : ¬ (a &&& b) % 2 = 1 := fun e => g (h.mp e)
    omega
theorem nat_or2 (a b : Nat) : (a ||| b) % 2 = if a % 2 = 1 ∨ b % 2 = 1 then 1 else 0 := by
  have h := Nat.or_mod_two_eq_one (a := a) (b := b)
  split
  · rename_i g; exact h.mpr g
  · rename_i g
    have : ¬ (a ||| b) % 2 = 1 := fun e => g (h.mp e)
    omega
theorem and_par (x y : Int) : Builtin.bitAnd x y % 2 = if x % 2 = 1 ∧ y % 2 = 1 then 1 else 0 := by
  unfold Builtin.bitAnd
  by_cases hx : 0 ≤ x <;> by_cases hy : 0 ≤ y <;> simp only [hx, hy, decide_true, decide_false]
  · have := nat_and2 x.toNat y.toNat
    split at this <;> split <;> omega
  · have := nat_and2 x.toNat (Builtin.bitNot y).toNat
    rw [bnot] at this ⊢
    split at this <;> split <;> omega
  · have := nat_and2 y.toNat (Builtin.bitNot x).toNat
    rw [bnot] at this ⊢
    split at this <;> split <;> omega
  · have := nat_or2 (Builtin.bitNot x).toNat (Builtin.bitNot y).toNat
    rw [bnot, bnot] at this
    rw [bnot, bnot, bnot]
    split at this <;> split <;> omega
theorem or_par (x y : Int) : Builtin.bitOr x y % 2 = if x % 2 = 1 ∨ y % 2 = 1 then 1 else 0 := by
  unfold Builtin.bitOr
  have := and_par (Builtin.bitNot x) (Builtin.bitNot y)
  rw [bnot x, bnot y] at this
  rw [bnot, bnot, bnot]
  split at this <;> split <;> omega
theorem or_one (a b : Int) : Builtin.bitAnd (Builtin.bitOr a b) 1 = if a % 2 = 1 ∨ b % 2 = 1 then 1 else 0 := by
  rw [bitAnd_m1, or_par]
theorem or1 (a : Int) : Builtin.bitOr a 1 = if a % 2 = 1 then a else a + 1 := by
  unfold Builtin.bitOr Builtin.bitAnd
  rw [bnot 1]
  by_cases hx : 0 ≤ Builtin.bitNot a
  · simp only [hx, decide_true, show decide (0 ≤ (-1 - 1 : Int)) = false by decide]
    have e : (Builtin.bitNot (-1 - 1)).toNat = 1 := by decide
    rw [e, Nat.and_one_is_mod]
    rw [bnot] at hx ⊢
    rw [bnot]
    split <;> omega
  · simp only [hx, decide_false, show decide (0 ≤ (-1 - 1 : Int)) = false by decide]
    have e : (Builtin.bitNot (-1 - 1)).toNat = 1 := by decide
    rw [e, nat_or1]
    simp only [bnot] at hx ⊢
    split <;> split <;> omega
def sp_joined_code : PSpec
  | [a, b], st, Q, _ => ∃ x y, a = codV x ∧ b = codV y ∧ Q (codV (joinC x y)) st
  | _, _, _, _ => False
def b_joined_code : Ss :=
  (.cons (.ite (.bools .Or (.cons (.cmp .Is (.var 0) .non) (.cons (.cmp .Is (.var 1) .non) .nil))) (.cons (.ret .non) .nil) .nil) (.cons (.ret (.bin .Sub false (.bin .Add false (.var 0) (.var 1)) (.bin .BitAnd false (.bin .BitOr false (.var 0) (.var 1)) (.int 1)))) .nil))
def n_joined_code : List Str := ["a", "b"]

theorem w_joined_code : ∀ vs s Q X, vs.length = 2 → sp_joined_code vs s Q X → wpFn n_joined_code.length b_joined_code vs s Q X := by
  intro vs s Q X hl h
  unfold sp_joined_code at h
  split at h
  · rename_i a b
    rw [fn_eq]
    unfold b_joined_code n_joined_code
    obtain ⟨x, y, rfl, rfl, h⟩ := h
    cases x <;> cases y
    · simp_all only [ss_nil, codV, Arm_eq]; exact ⟨s, .rfl, h⟩
    · simp_all only [ss_nil, codV, Arm_eq]; exact ⟨s, .rfl, h⟩
    · simp_all only [ss_nil, codV, Arm_eq]; exact ⟨s, .rfl, h⟩
    · simp_all only [ss_nil, codV, Arm_eq, Nx_eq, or_one]; exact ⟨s, .rfl, h⟩
  · exact h.elim
def tightC : Option Int → Option Int → Option Int
  | none, y => y
  | x, none => x
  | some a, some b => some (if b < a then b else a)
def sp_tighter : PSpec
  | [a, b], st, Q, _ => ∃ x y, a = codV x ∧ b = codV y ∧ Q (codV (tightC x y)) st
  | _, _, _, _ => False
def b_tighter : Ss :=
  (.cons (.ite (.cmp .Is (.var 0) .non) (.cons (.ret (.var 1)) .nil) .nil) (.cons (.ite (.cmp .Is (.var 1) .non) (.cons (.ret (.var 0)) .nil) .nil) (.cons (.ret (.blt .min2 false (.cons (.var 0) (.cons (.var 1) .nil)))) .nil)))
def n_tighter : List Str := ["a", "b"]

theorem w_tighter : ∀ vs s Q X, vs.length = 2 → sp_tighter vs s Q X → wpFn n_tighter.length b_tighter vs s Q X := by
  intro vs s Q X hl h
  unfold sp_tighter at h
  split at h
  · rename_i a b
    rw [fn_eq]
    unfold b_tighter n_tighter
    obtain ⟨x, y, rfl, rfl, h⟩ := h
    cases x <;> cases y
    · simp_all only [ss_nil, codV, Arm_eq]; exact ⟨s, .rfl, h⟩
    · simp_all only [ss_nil, codV, Arm_eq]; exact ⟨s, .rfl, h⟩
    · simp_all only [ss_nil, codV, Arm_eq, Nx_eq]; exact ⟨s, .rfl, h⟩
    · simp_all only [ss_nil, codV, Arm_eq, Nx_eq]; exact ⟨s, .rfl, h⟩
  · exact h.elim
def isTightC : Option Int → Option Int → Bool
  | _, none => true
  | none, _ => false
  | some a, some b => decide (a ≤ b)
def sp_is_tight : PSpec
  | [a, b], st, Q, _ => ∃ x y, a = codV x ∧ b = codV y ∧ Q (.bl (isTightC x y)) st
  | _, _, _, _ => False
def b_is_tight : Ss :=
  (.cons (.ite (.cmp .Is (.var 1) .non) (.cons (.ret (.bl true)) .nil) .nil) (.cons (.ite (.cmp .Is (.var 0) .non) (.cons (.ret (.bl false)) .nil) .nil) (.cons (.ret (.cmp .LtE (.var 0) (.var 1))) .nil)))
def n_is_tight : List Str := ["a", "b"]

theorem w_is_tight : ∀ vs s Q X, vs.length = 2 → sp_is_tight vs s Q X → wpFn n_is_tight.length b_is_tight vs s Q X := by
  intro vs s Q X hl h
  unfold sp_is_tight at h
  split at h
  · rename_i a b
    rw [fn_eq]
    unfold b_is_tight n_is_tight
    obtain ⟨x, y, rfl, rfl, h⟩ := h
    cases x <;> cases y
    · simp_all only [ss_nil, codV, Arm_eq]; exact ⟨s, .rfl, h⟩
    · simp_all only [ss_nil, codV, Arm_eq, Nx_eq]; exact ⟨s, .rfl, h⟩
    · simp_all only [ss_nil, codV, Arm_eq, Nx_eq]; exact ⟨s, .rfl, h⟩
    · simp_all only [ss_nil, codV, Arm_eq, Nx_eq]; exact ⟨s, .rfl, h⟩
  · exact h.elim
def sp_closed_up : PSpec
  | [a], st, Q, _ => ∃ x, a = codV x ∧ Q (codV (x.map fun c => if c % 2 = 1 then c else c + 1)) st
  | _, _, _, _ => False
def b_closed_up : Ss :=
  (.cons (.ite (.cmp .Is (.var 0) .non) (.cons (.ret .non) .nil) .nil) (.cons (.ret (.bin .BitOr false (.var 0) (.int 1))) .nil))
def n_closed_up : List Str := ["code"]

theorem w_closed_up : ∀ vs s Q X, vs.length = 1 → sp_closed_up vs s Q X → wpFn n_closed_up.length b_closed_up vs s Q X := by
  intro vs s Q X hl h
  unfold sp_closed_up at h
  split at h
  · rename_i a
    rw [fn_eq]
    unfold b_closed_up n_closed_up
    obtain ⟨x, rfl, h⟩ := h
    cases x
    · simp_all only [ss_nil, codV, Arm_eq]; exact ⟨s, .rfl, h⟩
    · simp_all only [ss_nil, codV, Arm_eq, Nx_eq, or1]; exact ⟨s, .rfl, h⟩
  · exact h.elim
end TK

set_option maxRecDepth 100000
set_option maxHeartbeats 4000000
namespace TK
open PySem PySem.Spec PyProof.Rows L2
/-! ### codes against ratios -/
/-- does the code let it? -/
def letsC : Option Int → Rat → Bool
  | none, _ => true
  | some c, r => if c % 2 = 0 then decide (r < ((c / 2 : Int) : Rat)) else decide (r ≤ ((c / 2 : Int) : Rat))
theorem letsC_some {c : Int} {r : Rat} : letsC (some c) r = if c % 2 = 0 then decide (r < ((c / 2 : Int) : Rat)) else decide (r ≤ ((c / 2 : Int) : Rat)) := rfl
theorem lt_divInt {n d e : Int} (h : 0 < d) : (Rat.divInt n d < (e : Rat)) ↔ n < e * d := by
  have hd : (0 : Rat) < (d : Rat) := Rat.intCast_pos.mpr h
  rw [Rat.divInt_eq_div, Rat.div_lt_iff hd, ← Rat.intCast_mul, Rat.intCast_lt_intCast]
theorem le_divInt {n d e : Int} (h : 0 < d) : (Rat.divInt n d ≤ (e : Rat)) ↔ n ≤ e * d := by
  have hd : (0 : Rat) < (d : Rat) := Rat.intCast_pos.mpr h
  rw [← Rat.not_lt, Rat.divInt_eq_div, Rat.lt_div_iff hd, ← Rat.intCast_mul, Rat.intCast_lt_intCast, Int.not_lt]
def sp__law_lets : PSpec
  | [c, v], st, Q, _ => ∃ x r, c = codV x ∧ (∀ z, x = some z → z.natAbs < 2 ^ 3900) ∧ Fr 3900 v r ∧ Q (.bl (letsC x r)) st
  | _, _, _, _ => False
theorem two_ok : DivOk 2 := ⟨by decide, by decide⟩
theorem fdiv2 (c : Int) : c.fdiv 2 = c / 2 := Int.fdiv_eq_ediv_of_nonneg c (by decide)
def b__law_lets : Ss :=
  (.cons (.ite (.cmp .Is (.var 0) .non) (.cons (.ret (.bl true)) .nil) .nil) (.cons (.asg (.name 2) (.bin .Mult false (.bin .FloorDiv false (.var 0) (.int 2)) (.idx (.var 1) (.int 1)))) (.cons (.ite (.cmp .Eq (.bin .Mult false (.bin .FloorDiv false (.var 0) (.int 2)) (.int 2)) (.var 0)) (.cons (.ret (.cmp .Lt (.idx (.var 1) (.int 0)) (.var 2))) .nil) .nil) (.cons (.ret (.cmp .LtE (.idx (.var 1) (.int 0)) (.var 2))) .nil))))
def n__law_lets : List Str := ["code", "value", "edge"]
theorem w__law_lets : ∀ vs s Q X, vs.length = 2 → sp__law_lets vs s Q X → wpFn n__law_lets.length b__law_lets vs s Q X := by
  intro vs s Q X hl h
  unfold sp__law_lets at h
  split at h
  · rename_i c v
    rw [fn_eq]
    unfold b__law_lets n__law_lets
    obtain ⟨x, r, rfl, hb, ⟨n, d, rfl, h1, h2, h3, rfl⟩, h⟩ := h
    cases x with
    | none =>
      simp_all only [ss_nil, codV]
      (first | rw [Nx_eq] | rw [Arm_eq] | skip); (try simp_all only [ss_nil])
      exact ⟨s, .rfl, h⟩
    | some c =>
      have hc := hb c rfl
      have hc2 : (c / 2).natAbs < 2 ^ 3900 := by omega
      simp_all only [ss_nil, codV]
      (first | rw [Nx_eq] | rw [Arm_eq] | skip); (try simp_all only [ss_nil, Nx_eq, ss_nil, fdiv2])
      refine ⟨two_ok, Sz.ok hc2 h3, ?_⟩
      refine ⟨two_ok, CMul.ok (by unfold CMul; omega), ?_⟩
      have e : (c / 2 * 2 = c) ↔ c % 2 = 0 := by omega
      have h' : Q (.bl (letsC (some c) (Rat.divInt n d))) s := h
      rw [letsC_some] at h'
      by_cases hp : c % 2 = 0
      · rw [if_pos hp] at h'
        simp only [lt_divInt h1] at h'
        simp_all only [ss_nil, e, hp, Arm_eq]
        exact ⟨s, .rfl, h'⟩
      · rw [if_neg hp] at h'
        simp only [le_divInt h1] at h'
        simp_all only [ss_nil, e, hp, Arm_eq, Nx_eq]
        exact ⟨s, .rfl, h'⟩
  · exact h.elim
/-- what stands at the end of a code -/
def tipR (c part : Int) : Rat := ((c / 2 : Int) : Rat) - (if c % 2 = 0 then Rat.divInt 1 part else 0)
theorem tip_even {h part : Int} (hp : 0 < part) : Rat.divInt (h * part - 1) part = (h : Rat) - Rat.divInt 1 part := by
  have hd : (part : Rat) ≠ 0 := by
    intro e
    have := Rat.intCast_eq_zero_iff.mp e
    omega
  rw [Rat.divInt_eq_div, Rat.divInt_eq_div, Rat.intCast_sub, Rat.intCast_mul]
  grind
def sp__law_tip : PSpec
  | [.int c, .int part], st, Q, _ => 0 < part ∧ part.natAbs < 2 ^ 200 ∧ c.natAbs < 2 ^ 200 ∧ ∀ v, Fr 401 v (tipR c part) → Q v st
  | _, _, _, _ => False
def b__law_tip : Ss :=
  (.cons (.ite (.cmp .Eq (.bin .Mult false (.bin .FloorDiv false (.var 0) (.int 2)) (.int 2)) (.var 0)) (.cons (.ret (.tup (.cons (.bin .Sub false (.bin .Mult false (.bin .FloorDiv false (.var 0) (.int 2)) (.var 1)) (.int 1)) (.cons (.var 1) .nil)))) .nil) .nil) (.cons (.ret (.tup (.cons (.bin .FloorDiv false (.var 0) (.int 2)) (.cons (.int 1) .nil)))) .nil))
def n__law_tip : List Str := ["code", "part"]
theorem w__law_tip : ∀ vs s Q X, vs.length = 2 → sp__law_tip vs s Q X → wpFn n__law_tip.length b__law_tip vs s Q X := by
  intro vs s Q X hl h
  unfold sp__law_tip at h
  split at h
  · rename_i c part
    rw [fn_eq]
    unfold b__law_tip n__law_tip
    obtain ⟨h0, hp, hc, h⟩ := h
    have hc2 : (c / 2).natAbs < 2 ^ 200 := by omega
    have hm : (c / 2 * part).natAbs < 2 ^ 400 := by
      rw [Int.natAbs_mul]; exact mul_pow hc2 hp
    have one : (1 : Nat) < 2 ^ 401 := by decide
    have e : (c / 2 * 2 = c) ↔ c % 2 = 0 := by omega
    simp_all only [ss_nil, fdiv2]
    refine ⟨two_ok, CMul.ok (by unfold CMul; omega), ?_⟩
    by_cases hp2 : c % 2 = 0
    · simp_all only [ss_nil, e, hp2, Arm_eq, fdiv2]
      refine ⟨two_ok, Sz.ok (Nat.lt_of_lt_of_le hc2 (pow2_le (by decide))) (Nat.lt_of_lt_of_le hp (pow2_le (by decide))), by decide, s, .rfl, h _ ⟨_, _, rfl, h0, ?_, Nat.lt_of_lt_of_le hp (pow2_le (by decide)), ?_⟩⟩
      · rw [Nat.pow_succ]; omega
      · unfold tipR; rw [if_pos hp2, tip_even h0]
    · simp_all only [ss_nil, e, hp2, Arm_eq, Nx_eq, fdiv2]
      refine ⟨two_ok, by decide, s, .rfl, h _ ⟨_, _, rfl, by decide, Nat.lt_of_lt_of_le hc2 (pow2_le (by decide)), one, ?_⟩⟩
      unfold tipR; rw [if_neg hp2]
      rw [Rat.divInt_eq_div]
      grind
  · exact h.elim
def sp__law_lower : PSpec
  | [.ref p, .int c, .int part], st, Q, _ => st p = some .pool ∧ 0 < part ∧ part.natAbs < 2 ^ 200 ∧ c.natAbs < 2 ^ 200 ∧ ∀ r, r ≤ tipR c part → Bd 420 r → Q (ratV r) st
  | _, _, _, _ => False
def b__law_lower : Ss :=
  (.cons (.ret (.call "_law_less_by" sp__law_less_by (.cons (.call "_law_tip" sp__law_tip (.cons (.var 1) (.cons (.var 2) .nil))) (.cons (.call "_law_ratio" sp__law_ratio (.cons (.call "_law_draw" sp__law_draw (.cons (.var 0) (.cons (.int 20) .nil))) (.cons (.bin .Add false (.int 1) (.call "_law_draw" sp__law_draw (.cons (.var 0) (.cons (.int 9) .nil)))) .nil))) .nil)))) .nil)
def n__law_lower : List Str := ["pool", "code", "part"]
theorem w__law_lower : ∀ vs s Q X, vs.length = 3 → sp__law_lower vs s Q X → wpFn n__law_lower.length b__law_lower vs s Q X := by
  intro vs s Q X hl h
  unfold sp__law_lower at h
  split at h
  · rename_i p c part
    rw [fn_eq]
    unfold b__law_lower n__law_lower
    obtain ⟨hp, h0, h1, h2, h⟩ := h
    simp_all only [ss_nil]
    refine callS_of ⟨h0, h1, h2, fun v hv => ?_⟩
    simp_all only [ss_nil]
    refine callS_of ⟨hp, .of (by decide), fun a a0 a1 _ => ?_⟩
    have a1 := a1 (by decide)
    simp_all only [ss_nil]
    refine callS_of ⟨hp, .of (by decide), fun b b0 b1 _ => ?_⟩
    have b1 := b1 (by decide)
    simp_all only [ss_nil]
    refine callS_of ⟨by omega, .of (by omega), ?_⟩
    simp_all only [ss_nil]
    have hq : Bd 10 (Rat.divInt a (1 + b)) := .of_divInt (by omega) (by omega) (by omega)
    refine callS_of ⟨_, _, hv.mono (by decide), (hq.fr.mono (by decide)), s, .rfl, h _ ?_ ((hv.add hq.fr).2.mono (by decide))⟩
    have : (0 : Rat) ≤ Rat.divInt a (1 + b) := Rat.divInt_nonneg a0 (by omega)
    grind
  · exact h.elim
end TK

set_option maxRecDepth 100000
set_option maxHeartbeats 4000000
namespace TK
open PySem PySem.Spec PyProof.Rows L2
/-! ### the plain law of codes -/
theorem E_pos {part : Int} (h : 0 < part) : (0 : Rat) < Rat.divInt 1 part := by
  rw [Rat.divInt_eq_div, Rat.lt_div_iff (Rat.intCast_pos.mpr h)]
  grind
theorem E_mul {m part : Int} (hp : 0 < part) (h : m < part) : (m : Rat) * Rat.divInt 1 part < 1 := by
  have hd : (part : Rat) ≠ 0 := fun e => by
    have := Rat.intCast_eq_zero_iff.mp e
    omega
  have e : (m : Rat) * Rat.divInt 1 part = Rat.divInt m part := by
    rw [Rat.divInt_eq_div, Rat.divInt_eq_div]; grind
  rw [e]
  have := (lt_divInt (n := m) (e := 1) hp).mpr (by omega)
  simpa using this
theorem lets_mono {x : Option Int} {r r' : Rat} (h : r' ≤ r) (k : letsC x r = true) : letsC x r' = true := by
  cases x with
  | none => rfl
  | some c =>
    rw [letsC_some] at k ⊢
    split at k
    · have k := of_decide_eq_true k
      rw [if_pos ‹_›]
      exact decide_eq_true (by grind)
    · have k := of_decide_eq_true k
      rw [if_neg ‹_›]
      exact decide_eq_true (by grind)
/-- a code by its half and whether it has its end -/
theorem lets_even {h : Int} {r : Rat} : letsC (some (2 * h)) r = decide (r < (h : Rat)) := by
  rw [letsC_some, if_pos (by omega), show 2 * h / 2 = h by omega]
theorem lets_odd {h : Int} {r : Rat} : letsC (some (2 * h + 1)) r = decide (r ≤ (h : Rat)) := by
  rw [letsC_some, if_neg (by omega), show (2 * h + 1) / 2 = h by omega]
theorem tip_ev {h part : Int} : tipR (2 * h) part = (h : Rat) - Rat.divInt 1 part := by
  unfold tipR; rw [if_pos (by omega), show 2 * h / 2 = h by omega]
theorem tip_od {h part : Int} : tipR (2 * h + 1) part = (h : Rat) := by
  unfold tipR; rw [if_neg (by omega), show (2 * h + 1) / 2 = h by omega]; grind
theorem half (c : Int) : (∃ h, c = 2 * h) ∨ ∃ h, c = 2 * h + 1 := by
  rcases Int.emod_two_eq c with h | h
  · exact .inl ⟨c / 2, by omega⟩
  · exact .inr ⟨c / 2, by omega⟩
/-- a code that lets a value and none tighter does: z lets r, z - 1 does not -/
def Just (z : Int) (r : Rat) : Prop := letsC (some z) r = true ∧ letsC (some (z - 1)) r = false
theorem just_even {h : Int} {r : Rat} (h1 : r < (h : Rat)) (h2 : (h : Rat) - 1 < r) : Just (2 * h) r := by
  refine ⟨by rw [lets_even]; exact decide_eq_true h1, ?_⟩
  rw [show 2 * h - 1 = 2 * (h - 1) + 1 by omega, lets_odd]
  refine decide_eq_false ?_
  rw [Rat.intCast_sub]
  have : ((1 : Int) : Rat) = 1 := rfl
  grind
theorem just_odd {h : Int} {r : Rat} (h1 : r = (h : Rat)) : Just (2 * h + 1) r := by
  subst h1
  refine ⟨by rw [lets_odd]; exact decide_eq_true Rat.le_refl, ?_⟩
  rw [show 2 * h + 1 - 1 = 2 * h by omega, lets_even]
  exact decide_eq_false Rat.lt_irrefl
theorem join_ee {a b : Int} : joinC (some (2 * a)) (some (2 * b)) = some (2 * (a + b)) := by
  show some (2 * a + 2 * b - (if (2 * a) % 2 = 1 ∨ (2 * b) % 2 = 1 then 1 else 0)) = _
  rw [if_neg (by omega)]; congr 1; omega
theorem join_eo {a b : Int} : joinC (some (2 * a)) (some (2 * b + 1)) = some (2 * (a + b)) := by
  show some (2 * a + (2 * b + 1) - (if (2 * a) % 2 = 1 ∨ (2 * b + 1) % 2 = 1 then 1 else 0)) = _
  rw [if_pos (by omega)]; congr 1; omega
theorem join_oe {a b : Int} : joinC (some (2 * a + 1)) (some (2 * b)) = some (2 * (a + b)) := by
  show some (2 * a + 1 + 2 * b - (if (2 * a + 1) % 2 = 1 ∨ (2 * b) % 2 = 1 then 1 else 0)) = _
  rw [if_pos (by omega)]; congr 1; omega
theorem join_oo {a b : Int} : joinC (some (2 * a + 1)) (some (2 * b + 1)) = some (2 * (a + b) + 1) := by
  show some (2 * a + 1 + (2 * b + 1) - (if (2 * a + 1) % 2 = 1 ∨ (2 * b + 1) % 2 = 1 then 1 else 0)) = _
  rw [if_pos (by omega)]; congr 1; omega
theorem join_none (x : Option Int) : joinC x none = none := by cases x <;> rfl
theorem join_comm (x y : Option Int) : joinC x y = joinC y x := by
  cases x <;> cases y <;> try rfl
  rename_i a b
  show some _ = some _
  congr 1
  by_cases h1 : a % 2 = 1 <;> by_cases h2 : b % 2 = 1 <;> simp [h1, h2] <;> omega
theorem join_assoc (x y z : Option Int) : joinC (joinC x y) z = joinC x (joinC y z) := by
  cases x with
  | none => rfl
  | some a => cases y with
    | none => rfl
    | some b => cases z with
      | none => rw [join_none, join_none, join_none]
      | some c =>
        rcases half a with ⟨a, rfl⟩ | ⟨a, rfl⟩ <;> rcases half b with ⟨b, rfl⟩ | ⟨b, rfl⟩ <;> rcases half c with ⟨c, rfl⟩ | ⟨c, rfl⟩ <;>
          simp only [join_ee, join_eo, join_oe, join_oo, Int.add_assoc]
theorem join_unit (x : Option Int) : joinC x (some 1) = x := by
  cases x with
  | none => rfl
  | some a =>
    show some _ = some _
    rw [if_pos (.inr (by decide))]; congr 1; omega
/-- all codes joined -/
def foldC : List (Option Int) → Option Int
  | [] => some 1
  | x :: r => joinC x (foldC r)
theorem foldC_append : ∀ a b : List (Option Int), foldC (a ++ b) = joinC (foldC a) (foldC b)
  | [], b => by show foldC b = joinC (some 1) (foldC b); rw [join_comm, join_unit]
  | x :: a, b => by
    show joinC x (foldC (a ++ b)) = joinC (joinC x (foldC a)) (foldC b)
    rw [foldC_append a b, join_assoc]
theorem foldC_none : ∀ {l : List (Option Int)}, foldC l = none ↔ none ∈ l
  | [] => by simp [foldC]
  | none :: r => by simp [foldC, joinC]
  | some a :: r => by
    have ih := foldC_none (l := r)
    show joinC (some a) (foldC r) = none ↔ _
    cases e : foldC r with
    | none => rw [e] at ih; simp [join_none, ih.mp rfl]
    | some b => rw [e] at ih; simp [joinC] at ih ⊢; exact ih
/-- the sum of the ends -/
def tips (part : Int) : List Int → Rat
  | [] => 0
  | c :: r => tipR c part + tips part r
/-- how many have no end -/
def evens : List Int → Int
  | [] => 0
  | c :: r => (if c % 2 = 0 then 1 else 0) + evens r
theorem evens_le : ∀ l : List Int, 0 ≤ evens l ∧ evens l ≤ l.length
  | [] => ⟨by decide, by decide⟩
  | c :: r => by
    have := evens_le r
    show 0 ≤ (if c % 2 = 0 then 1 else 0) + evens r ∧ (if c % 2 = 0 then 1 else 0) + evens r ≤ ((r.length + 1 : Nat) : Int)
    split <;> omega
theorem fold_tips (part : Int) : ∀ l : List Int, ∃ h : Int, foldC (l.map some) = some (if evens l = 0 then 2 * h + 1 else 2 * h) ∧ tips part l = (h : Rat) - (evens l : Rat) * Rat.divInt 1 part
  | [] => ⟨0, rfl, by show (0 : Rat) = ((0 : Int) : Rat) - ((0 : Int) : Rat) * _; grind⟩
  | c :: r => by
    obtain ⟨h, e1, e2⟩ := fold_tips part r
    have hr := evens_le r
    show ∃ h, joinC (some c) (foldC (r.map some)) = _ ∧ tipR c part + tips part r = _
    rw [e1, e2]
    rcases half c with ⟨a, rfl⟩ | ⟨a, rfl⟩
    · have ev : evens (2 * a :: r) = 1 + evens r := by show (if 2 * a % 2 = 0 then 1 else 0) + evens r = _; rw [if_pos (by omega)]
      refine ⟨a + h, ?_, ?_⟩
      · rw [ev, if_neg (show ¬ 1 + evens r = 0 by omega)]
        split
        · exact join_eo
        · exact join_ee
      · rw [ev, tip_ev, Rat.intCast_add, Rat.intCast_add]
        have : ((1 : Int) : Rat) = 1 := rfl
        grind
    · have ev : evens ((2 * a + 1) :: r) = evens r := by show (if (2 * a + 1) % 2 = 0 then 1 else 0) + evens r = _; rw [if_neg (by omega)]; omega
      refine ⟨a + h, ?_, ?_⟩
      · rw [ev]
        split
        · exact join_oo
        · exact join_oe
      · rw [ev, tip_od, Rat.intCast_add]
        grind
theorem fold_just {part : Int} {l : List Int} {z : Int} (hp : (l.length : Int) < part) (hz : foldC (l.map some) = some z) : Just z (tips part l) := by
  obtain ⟨h, e1, e2⟩ := fold_tips part l
  have hl := evens_le l
  have hp0 : 0 < part := by omega
  rw [hz] at e1
  have e1 := Option.some.inj e1
  rw [e2]
  by_cases h0 : evens l = 0
  · rw [if_pos h0] at e1
    subst e1
    rw [h0]
    exact just_odd (by have : ((0 : Int) : Rat) = 0 := rfl; grind)
  · rw [if_neg h0] at e1
    subst e1
    have p1 := E_pos hp0
    have p2 := E_mul (m := evens l) hp0 (by omega)
    have p3 : (0 : Rat) < (evens l : Rat) := Rat.intCast_pos.mpr (by omega)
    have p4 := Rat.mul_pos p3 p1
    exact just_even (by grind) (by grind)
theorem join_just {a b part : Int} (hp : 3 ≤ part) : ∃ z, joinC (some a) (some b) = some z ∧ Just z (tipR a part + tipR b part) := by
  have e : foldC ([a, b].map some) = joinC (some a) (some b) := by
    show joinC (some a) (joinC (some b) (some 1)) = _
    rw [join_unit]
  cases e2 : joinC (some a) (some b) with
  | none => simp [joinC] at e2
  | some z =>
    refine ⟨z, rfl, ?_⟩
    have := fold_just (part := part) (l := [a, b]) (by show (2 : Int) < part; omega) (e.trans e2)
    have e3 : tips part [a, b] = tipR a part + tipR b part := by show tipR a part + (tipR b part + 0) = _; grind
    rw [e3] at this
    exact this
theorem tight_tip {x : Int} {y : Int} {part : Int} (hp : 2 ≤ part) : letsC (some y) (tipR x part) = decide (x ≤ y) := by
  have p1 := E_pos (show 0 < part by omega)
  have p2 := E_mul (m := 1) (show 0 < part by omega) (by omega)
  have o1 : ((1 : Int) : Rat) = 1 := rfl
  have cast : ∀ a b : Int, ((a : Rat) < (b : Rat)) ↔ a < b := fun _ _ => Rat.intCast_lt_intCast
  have castle : ∀ a b : Int, ((a : Rat) ≤ (b : Rat)) ↔ a ≤ b := fun _ _ => Rat.intCast_le_intCast
  have gap : ∀ a b : Int, ¬ a ≤ b → (b : Rat) + 1 ≤ (a : Rat) := fun a b h => by
    have := (castle (b + 1) a).mpr (by omega)
    rw [Rat.intCast_add] at this
    grind
  rcases half x with ⟨a, rfl⟩ | ⟨a, rfl⟩ <;> rcases half y with ⟨b, rfl⟩ | ⟨b, rfl⟩ <;> simp only [tip_ev, tip_od, lets_even, lets_odd] <;> rw [decide_eq_decide]
  · rw [show 2 * a ≤ 2 * b ↔ a ≤ b by omega]
    by_cases h : a ≤ b
    · have := (castle a b).mpr h
      exact ⟨fun _ => h, fun _ => by grind⟩
    · have := gap a b h
      exact ⟨fun q => by grind, fun q => absurd q h⟩
  · rw [show 2 * a ≤ 2 * b + 1 ↔ a ≤ b by omega]
    by_cases h : a ≤ b
    · have := (castle a b).mpr h
      exact ⟨fun _ => h, fun _ => by grind⟩
    · have := gap a b h
      exact ⟨fun q => by grind, fun q => absurd q h⟩
  · rw [cast]; omega
  · rw [castle]; omega
theorem lets_le {a b : Int} {r : Rat} (h : a ≤ b) (k : letsC (some a) r = true) : letsC (some b) r = true := by
  have castle : ∀ a b : Int, a ≤ b → ((a : Rat) ≤ (b : Rat)) := fun _ _ h => Rat.intCast_le_intCast.mpr h
  have castlt : ∀ a b : Int, a < b → ((a : Rat) < (b : Rat)) := fun _ _ h => Rat.intCast_lt_intCast.mpr h
  rcases half a with ⟨a, rfl⟩ | ⟨a, rfl⟩ <;> rcases half b with ⟨b, rfl⟩ | ⟨b, rfl⟩ <;> simp only [lets_even, lets_odd, decide_eq_true_eq] at k ⊢
  · have := castle a b (by omega); grind
  · have := castle a b (by omega); grind
  · have := castlt a b (by omega); grind
  · have := castle a b (by omega); grind
theorem tight_lets (x y : Option Int) (r : Rat) : letsC (tightC x y) r = (letsC x r && letsC y r) := by
  cases x with
  | none => cases y <;> simp [tightC, letsC]
  | some a => cases y with
    | none => simp [tightC, letsC]
    | some b =>
      show letsC (some (if b < a then b else a)) r = _
      split
      · rename_i h
        cases e : letsC (some b) r with
        | false => simp
        | true => rw [lets_le (show b ≤ a by omega) e]; rfl
      · rename_i h
        cases e : letsC (some a) r with
        | false => simp
        | true => rw [lets_le (show a ≤ b by omega) e]; rfl
theorem tight_pick (x y : Option Int) : tightC x y = if isTightC x y = true then x else y := by
  cases x <;> cases y <;> simp [tightC, isTightC]
  split <;> split <;> simp_all <;> omega
end TK

set_option maxRecDepth 100000
set_option maxHeartbeats 4000000
namespace TK
open PySem PySem.Spec PyProof.Rows L2
/-! ### codes turned, ratios let -/
def sp_at_most : PSpec
  | [.int n], st, Q, _ => Q (.int (2 * n + 1)) st
  | _, _, _, _ => False
def b_at_most : Ss :=
  (.cons (.ret (.bin .Add false (.bin .Mult false (.int 2) (.var 0)) (.int 1))) .nil)
def n_at_most : List Str := ["n"]
theorem w_at_most : ∀ vs s Q X, vs.length = 1 → sp_at_most vs s Q X → wpFn n_at_most.length b_at_most vs s Q X := by
  intro vs s Q X hl h
  unfold sp_at_most at h
  split at h
  · rw [fn_eq]
    unfold b_at_most n_at_most
    simp_all only [ss_nil]
    exact ⟨CMul.ok (by unfold CMul; omega), s, .rfl, h⟩
  · exact h.elim
def sp_below : PSpec
  | [.int n], st, Q, _ => Q (.int (2 * n)) st
  | _, _, _, _ => False
def b_below : Ss :=
  (.cons (.ret (.bin .Mult false (.int 2) (.var 0))) .nil)
def n_below : List Str := ["n"]
theorem w_below : ∀ vs s Q X, vs.length = 1 → sp_below vs s Q X → wpFn n_below.length b_below vs s Q X := by
  intro vs s Q X hl h
  unfold sp_below at h
  split at h
  · rw [fn_eq]
    unfold b_below n_below
    simp_all only [ss_nil]
    exact ⟨CMul.ok (by unfold CMul; omega), s, .rfl, h⟩
  · exact h.elim
def sp_number_of : PSpec
  | [.int n], st, Q, _ => Q (.int (n / 2)) st
  | _, _, _, _ => False
def b_number_of : Ss :=
  (.cons (.ret (.bin .FloorDiv false (.var 0) (.int 2))) .nil)
def n_number_of : List Str := ["code"]
theorem w_number_of : ∀ vs s Q X, vs.length = 1 → sp_number_of vs s Q X → wpFn n_number_of.length b_number_of vs s Q X := by
  intro vs s Q X hl h
  unfold sp_number_of at h
  split at h
  · rw [fn_eq]
    unfold b_number_of n_number_of
    simp_all only [ss_nil, fdiv2]
    exact ⟨two_ok, s, .rfl, h⟩
  · exact h.elim
def sp_has_end : PSpec
  | [.int n], st, Q, _ => Q (.bl (decide (n % 2 = 1))) st
  | _, _, _, _ => False
def b_has_end : Ss :=
  (.cons (.ret (.cmp .Eq (.bin .BitAnd false (.var 0) (.int 1)) (.int 1))) .nil)
def n_has_end : List Str := ["code"]
theorem w_has_end : ∀ vs s Q X, vs.length = 1 → sp_has_end vs s Q X → wpFn n_has_end.length b_has_end vs s Q X := by
  intro vs s Q X hl h
  unfold sp_has_end at h
  split at h
  · rw [fn_eq]
    unfold b_has_end n_has_end
    simp_all only [ss_nil, bitAnd_m1]
    exact ⟨s, .rfl, h⟩
  · exact h.elim
def sp_against : PSpec
  | [.int n], st, Q, _ => Q (.int (1 - n)) st
  | _, _, _, _ => False
def b_against : Ss :=
  (.cons (.ret (.bin .Sub false (.int 1) (.var 0))) .nil)
def n_against : List Str := ["code"]
theorem w_against : ∀ vs s Q X, vs.length = 1 → sp_against vs s Q X → wpFn n_against.length b_against vs s Q X := by
  intro vs s Q X hl h
  unfold sp_against at h
  split at h
  · rw [fn_eq]
    unfold b_against n_against
    simp_all only [ss_nil]
    exact ⟨s, .rfl, h⟩
  · exact h.elim
def sp_allows : PSpec
  | [c, v], st, Q, _ => ∃ x r, c = codV x ∧ (∀ z, x = some z → z.natAbs < 2 ^ 3900) ∧ Fr 3900 v r ∧ Q (.bl (letsC x r)) st
  | _, _, _, _ => False
def b_allows : Ss :=
  (.cons (.ite (.cmp .Is (.var 0) .non) (.cons (.ret (.bl true)) .nil) .nil) (.cons (.asg (.name 2) (.bin .FloorDiv false (.var 0) (.int 2))) (.cons (.ite (.cmp .Eq (.bin .BitAnd false (.var 0) (.int 1)) (.int 1)) (.cons (.ret (.cmp .LtE (.idx (.var 1) (.int 0)) (.bin .Mult false (.var 2) (.idx (.var 1) (.int 1))))) .nil) .nil) (.cons (.ret (.cmp .Lt (.idx (.var 1) (.int 0)) (.bin .Mult false (.var 2) (.idx (.var 1) (.int 1))))) .nil))))
def n_allows : List Str := ["code", "value", "n"]
theorem w_allows : ∀ vs s Q X, vs.length = 2 → sp_allows vs s Q X → wpFn n_allows.length b_allows vs s Q X := by
  intro vs s Q X hl h
  unfold sp_allows at h
  split at h
  · rename_i c v
    rw [fn_eq]
    unfold b_allows n_allows
    obtain ⟨x, r, rfl, hb, ⟨n, d, rfl, h1, h2, h3, rfl⟩, h⟩ := h
    cases x with
    | none =>
      simp_all only [ss_nil, codV]
      (first | rw [Nx_eq] | rw [Arm_eq] | skip); (try simp_all only [ss_nil])
      exact ⟨s, .rfl, h⟩
    | some c =>
      have hc := hb c rfl
      have hc2 : (c / 2).natAbs < 2 ^ 3900 := by omega
      simp_all only [ss_nil, codV]
      (first | rw [Nx_eq] | rw [Arm_eq] | skip); (try simp_all only [ss_nil, Nx_eq, ss_nil, fdiv2])
      refine ⟨two_ok, ?_⟩
      have h' : Q (.bl (letsC (some c) (Rat.divInt n d))) s := h
      rw [letsC_some] at h'
      by_cases hp : c % 2 = 0
      · rw [if_pos hp] at h'
        simp only [lt_divInt h1] at h'
        simp_all only [ss_nil, bitAnd_m1, hp, Arm_eq, Nx_eq]
        simp_all only [ss_nil, show ((0 : Int) = 1) = False by decide]
        exact ⟨Sz.ok hc2 h3, s, .rfl, h'⟩
      · rw [if_neg hp] at h'
        simp only [le_divInt h1] at h'
        have hp1 : c % 2 = 1 := by omega
        simp_all only [ss_nil, bitAnd_m1, hp1, Arm_eq, Nx_eq]
        exact ⟨Sz.ok hc2 h3, s, .rfl, h'⟩
  · exact h.elim
def sp__law_turned : PSpec
  | [v], st, Q, _ => ∃ k r, Fr k v r ∧ ∀ w, Fr k w (-r) → Q w st
  | _, _, _, _ => False
def b__law_turned : Ss :=
  (.cons (.ret (.tup (.cons (.neg (.idx (.var 0) (.int 0))) (.cons (.idx (.var 0) (.int 1)) .nil)))) .nil)
def n__law_turned : List Str := ["value"]
theorem Fr.neg {k : Nat} {n d : Int} (h1 : 0 < d) (h2 : n.natAbs < 2 ^ k) (h3 : d.natAbs < 2 ^ k) : Fr k (.tup [.int (-n), .int d]) (-(Rat.divInt n d)) :=
  ⟨-n, d, rfl, h1, by omega, h3, Rat.neg_divInt n d⟩
theorem w__law_turned : ∀ vs s Q X, vs.length = 1 → sp__law_turned vs s Q X → wpFn n__law_turned.length b__law_turned vs s Q X := by
  intro vs s Q X hl h
  unfold sp__law_turned at h
  split at h
  · rw [fn_eq]
    unfold b__law_turned n__law_turned
    obtain ⟨k, r, ⟨n, d, rfl, h1, h2, h3, rfl⟩, h⟩ := h
    simp_all only [ss_nil]
    exact ⟨by decide, s, .rfl, h _ (Fr.neg h1 h2 h3)⟩
  · exact h.elim
def sp__law_parted : PSpec
  | [.int c], st, Q, _ => c.natAbs < 2 ^ 200 ∧ Q (.bl true) st
  | _, _, _, _ => False
theorem bl_show (b : Bool) : ShowOk (.bl b) := showOk_of (by unfold shOk; trivial) (show (571 : Nat) ≤ sizeLine by decide)
theorem int_show {z : Int} (h : z.natAbs < 2 ^ 200) : ShowOk (.int z) := showOk_of (by unfold shOk; exact Nat.lt_of_lt_of_le h (by decide)) (show (571 : Nat) ≤ sizeLine by decide)
def b__law_parted : Ss :=
  (.cons (.asg (.name 1) (.call "number_of" sp_number_of (.cons (.var 0) .nil))) (.cons (.ite (.not (.val (.call "_law_int" sp__law_int (.cons (.var 1) .nil)))) (.cons (.ret (.bl false)) .nil) .nil) (.cons (.ite (.cmp .Eq (.bin .Mult false (.int 2) (.var 1)) (.var 0)) (.cons (.ret (.bools .And (.cons (.call "_law_same" sp__law_same (.cons (.call "has_end" sp_has_end (.cons (.var 0) .nil)) (.cons (.bl false) .nil))) (.cons (.call "_law_same" sp__law_same (.cons (.call "below" sp_below (.cons (.var 1) .nil)) (.cons (.var 0) .nil))) .nil)))) .nil) .nil) (.cons (.ret (.bools .And (.cons (.cmp .Eq (.bin .Add false (.bin .Mult false (.int 2) (.var 1)) (.int 1)) (.var 0)) (.cons (.call "_law_same" sp__law_same (.cons (.call "has_end" sp_has_end (.cons (.var 0) .nil)) (.cons (.bl true) .nil))) (.cons (.call "_law_same" sp__law_same (.cons (.call "at_most" sp_at_most (.cons (.var 1) .nil)) (.cons (.var 0) .nil))) .nil))))) .nil))))
def n__law_parted : List Str := ["code", "number"]
theorem w__law_parted : ∀ vs s Q X, vs.length = 1 → sp__law_parted vs s Q X → wpFn n__law_parted.length b__law_parted vs s Q X := by
  intro vs s Q X hl h
  unfold sp__law_parted at h
  split at h
  · rename_i c
    rw [fn_eq]
    unfold b__law_parted n__law_parted
    obtain ⟨hc, h⟩ := h
    simp_all only [ss_nil]
    refine callS_of ?_
    unfold sp_number_of
    simp_all only [ss_nil]
    (first | rw [Nx_eq] | rw [Arm_eq] | skip); (try simp_all only [ss_nil])
    refine callS_of ⟨rfl, ?_⟩
    simp_all only [ss_nil, isI]
    (first | rw [Nx_eq] | rw [Arm_eq] | skip); (try simp_all only [ss_nil])
    (first | rw [Nx_eq] | rw [Arm_eq] | skip); (try simp_all only [ss_nil])
    refine ⟨CMul.ok (by unfold CMul; omega), ?_⟩
    by_cases hp : c % 2 = 0
    · have e : 2 * (c / 2) = c := by omega
      simp_all only [ss_nil, e]
      (first | rw [Nx_eq] | rw [Arm_eq] | skip); (try simp_all only [ss_nil])
      refine callS_of ?_
      unfold sp_has_end
      simp_all only [ss_nil]
      refine callS_of ⟨by rw [decide_eq_false (by omega)], rfl, bl_show _, ?_⟩
      simp_all only [ss_nil]
      refine callS_of ?_
      unfold sp_below
      simp_all only [ss_nil]
      refine callS_of ⟨by rw [e], rfl, int_show (by omega), ?_⟩
      simp_all only [ss_nil]
      exact ⟨s, .rfl, h⟩
    · have e : (2 * (c / 2) = c) = False := by simp; omega
      have e2 : 2 * (c / 2) + 1 = c := by omega
      simp_all only [ss_nil, e]
      (first | rw [Nx_eq] | rw [Arm_eq] | skip); (try simp_all only [ss_nil])
      (first | rw [Nx_eq] | rw [Arm_eq] | skip); (try simp_all only [ss_nil])
      refine ⟨CMul.ok (by unfold CMul; omega), ?_⟩
      simp_all only [ss_nil, e2]
      refine callS_of ?_
      unfold sp_has_end
      simp_all only [ss_nil]
      refine callS_of ⟨by rw [decide_eq_true (by omega)], rfl, bl_show _, ?_⟩
      simp_all only [ss_nil]
      refine callS_of ?_
      unfold sp_at_most
      simp_all only [ss_nil]
      refine callS_of ⟨by rw [e2], rfl, int_show (by omega), ?_⟩
      simp_all only [ss_nil]
      exact ⟨s, .rfl, h⟩
  · exact h.elim
end TK

set_option maxRecDepth 100000
set_option maxHeartbeats 4000000
namespace TK
open PySem PySem.Spec PyProof.Rows L2
theorem mem_ix' {α : Type} {l : List α} {i : Nat} {v : α} (h : l[i]? = some v) : v ∈ l := List.mem_of_getElem? h
/-- values that tell ratios -/
def VS (xs : List PV) : Prop := ∀ v ∈ xs, ∃ r, Fr 1000 v r
def CB (x : Option Int) : Prop := ∀ z, x = some z → z.natAbs < 2 ^ 180
theorem CB.big {x : Option Int} (h : CB x) : ∀ z, x = some z → z.natAbs < 2 ^ 3900 := fun z e => Nat.lt_of_lt_of_le (h z e) (pow2_le (by decide))
/-! ### the plain law -/
theorem lets_neg (c : Int) (r : Rat) : letsC (some (1 - c)) (-r) = !letsC (some c) r := by
  rcases half c with ⟨h, rfl⟩ | ⟨h, rfl⟩
  · rw [show 1 - 2 * h = 2 * (-h) + 1 by omega, lets_odd, lets_even, ← decide_not, decide_eq_decide, Rat.intCast_neg, Rat.neg_le_neg_iff, Rat.not_lt]
  · rw [show 1 - (2 * h + 1) = 2 * (-h) by omega, lets_odd, lets_even, ← decide_not, decide_eq_decide, Rat.intCast_neg, Rat.neg_lt_neg_iff, Rat.not_le]
/-- a joined code that is tighter than at most 0 -/
def fallC : Option Int → Bool
  | none => false
  | some c => decide (c < 1)
def midR (a b : Int) : Rat := Rat.divInt (a / 2 - b / 2) 2
theorem mid_eq {x y : Int} : Rat.divInt (x - y) 2 = ((x : Rat) - (y : Rat)) / 2 := by
  rw [Rat.divInt_eq_div, Rat.intCast_sub]; rfl
theorem cast_lt {a b : Int} : ((a : Rat) < (b : Rat)) ↔ a < b := Rat.intCast_lt_intCast
theorem cast_le {a b : Int} : ((a : Rat) ≤ (b : Rat)) ↔ a ≤ b := Rat.intCast_le_intCast
theorem cast_z {a b : Int} (h : a + b = 0) : (a : Rat) = -(b : Rat) := by
  rw [show a = -b by omega, Rat.intCast_neg]
theorem cast_pos {a b : Int} (h : 0 < a + b) : 0 < (a : Rat) + (b : Rat) := by
  rw [← Rat.intCast_add]; exact Rat.intCast_pos.mpr h
theorem cast_nn {a b : Int} (h : 0 ≤ a + b) : 0 ≤ (a : Rat) + (b : Rat) := by
  rw [← Rat.intCast_add]; exact Rat.intCast_nonneg.mpr h
theorem cast_np {a b : Int} (h : a + b ≤ 0) : (a : Rat) + (b : Rat) ≤ 0 := by
  rw [← Rat.intCast_add]; exact Rat.intCast_nonpos.mpr h
theorem cast_neg {a b : Int} (h : a + b < 0) : (a : Rat) + (b : Rat) < 0 := by
  rw [← Rat.intCast_add]; exact Rat.intCast_neg_iff.mpr h
/-- two codes for the two directions: the middle, or nothing at all -/
theorem mid_lets (a b : Int) : (fallC (joinC (some a) (some b)) = false → letsC (some a) (midR a b) = true ∧ letsC (some b) (-(midR a b)) = true) ∧
    (fallC (joinC (some a) (some b)) = true → ∀ r, ¬ (letsC (some a) r = true ∧ letsC (some b) (-r) = true)) := by
  rcases half a with ⟨a, rfl⟩ | ⟨a, rfl⟩ <;> rcases half b with ⟨b, rfl⟩ | ⟨b, rfl⟩ <;> unfold midR <;>
    simp only [join_ee, join_eo, join_oe, join_oo, fallC, decide_eq_true_eq, decide_eq_false_iff_not, lets_even, lets_odd,
      show 2 * a / 2 = a by omega, show 2 * b / 2 = b by omega, show (2 * a + 1) / 2 = a by omega, show (2 * b + 1) / 2 = b by omega, mid_eq]
  · refine ⟨fun h => ?_, fun h r => ?_⟩
    · have := cast_pos (show 0 < a + b by omega); exact ⟨by grind, by grind⟩
    · have := cast_np (show a + b ≤ 0 by omega); grind
  · refine ⟨fun h => ?_, fun h r => ?_⟩
    · have := cast_pos (show 0 < a + b by omega); exact ⟨by grind, by grind⟩
    · have := cast_np (show a + b ≤ 0 by omega); grind
  · refine ⟨fun h => ?_, fun h r => ?_⟩
    · have := cast_pos (show 0 < a + b by omega); exact ⟨by grind, by grind⟩
    · have := cast_np (show a + b ≤ 0 by omega); grind
  · refine ⟨fun h => ?_, fun h r => ?_⟩
    · have := cast_nn (show 0 ≤ a + b by omega); exact ⟨by grind, by grind⟩
    · have := cast_neg (show a + b < 0 by omega); grind
theorem fall_tight (a b : Int) : fallC (joinC (some a) (some (1 - b))) = decide (a ≤ b) := by
  rcases half a with ⟨a, rfl⟩ | ⟨a, rfl⟩ <;> rcases half b with ⟨b, rfl⟩ | ⟨b, rfl⟩
  · rw [show 1 - 2 * b = 2 * (-b) + 1 by omega, join_eo]; show decide _ = _; rw [decide_eq_decide]; omega
  · rw [show 1 - (2 * b + 1) = 2 * (-b) by omega, join_ee]; show decide _ = _; rw [decide_eq_decide]; omega
  · rw [show 1 - 2 * b = 2 * (-b) + 1 by omega, join_oo]; show decide _ = _; rw [decide_eq_decide]; omega
  · rw [show 1 - (2 * b + 1) = 2 * (-b) by omega, join_oe]; show decide _ = _; rw [decide_eq_decide]; omega
/-! ### the law's defs -/
def sp__law_near : PSpec
  | [.int c, .int part, o], st, Q, _ => c.natAbs < 2 ^ 180 ∧ 0 < part ∧ part.natAbs < 2 ^ 200 ∧ (∃ r, Fr 1000 o r) ∧ ∀ xs, xs.length = 7 → VS xs → Q (.lst xs) st
  | _, _, _, _ => False
def b__law_near : Ss :=
  (.cons (.asg (.name 3) (.bin .FloorDiv false (.var 0) (.int 2))) (.cons (.asg (.name 4) (.lst false (.cons (.tup (.cons (.var 3) (.cons (.int 1) .nil))) (.cons (.tup (.cons (.bin .Sub false (.bin .Mult false (.var 3) (.var 1)) (.int 1)) (.cons (.var 1) .nil))) (.cons (.tup (.cons (.bin .Add false (.bin .Mult false (.var 3) (.var 1)) (.int 1)) (.cons (.var 1) .nil))) (.cons (.tup (.cons (.bin .Sub false (.var 3) (.int 1)) (.cons (.int 1) .nil))) (.cons (.tup (.cons (.bin .Add false (.var 3) (.int 1)) (.cons (.int 1) .nil))) .nil))))))) (.cons (.ret (.bin .Add false (.var 4) (.lst false (.cons (.tup (.cons (.int 0) (.cons (.int 1) .nil))) (.cons (.var 2) .nil))))) .nil)))
def n__law_near : List Str := ["code", "part", "other", "number", "told"]
theorem w__law_near : ∀ vs s Q X, vs.length = 3 → sp__law_near vs s Q X → wpFn n__law_near.length b__law_near vs s Q X := by
  intro vs s Q X hl h
  unfold sp__law_near at h
  split at h
  · rename_i c part o
    rw [fn_eq]
    unfold b__law_near n__law_near
    obtain ⟨hc, hp0, hp, ho, h⟩ := h
    have hc2 : (c / 2).natAbs < 2 ^ 200 := Nat.lt_of_lt_of_le (show (c / 2).natAbs < 2 ^ 180 by omega) (pow2_le (by decide))
    have hm : (c / 2 * part).natAbs < 2 ^ 400 := by rw [Int.natAbs_mul]; exact mul_pow hc2 hp
    have mok : IntMulOk (c / 2) part := Sz.ok (Nat.lt_of_lt_of_le hc2 (pow2_le (by decide))) (Nat.lt_of_lt_of_le hp (pow2_le (by decide)))
    have p1000 : part.natAbs < 2 ^ 1000 := Nat.lt_of_lt_of_le hp (pow2_le (by decide))
    have e401 : (2 : Nat) ^ 401 = 2 * 2 ^ 400 := by decide
    have e201 : (2 : Nat) ^ 201 = 2 * 2 ^ 200 := by decide
    have o4 : 1 ≤ 2 ^ 400 := Nat.one_le_two_pow
    have o2 : 1 ≤ 2 ^ 200 := Nat.one_le_two_pow
    have f1 : ∀ z : Int, z.natAbs < 2 ^ 401 → ∃ r, Fr 1000 (.tup [.int z, .int part]) r := fun z hz => ⟨_, _, _, rfl, hp0, Nat.lt_of_lt_of_le hz (pow2_le (by decide)), p1000, rfl⟩
    have f2 : ∀ z : Int, z.natAbs < 2 ^ 201 → ∃ r, Fr 1000 (.tup [.int z, .int 1]) r := fun z hz => ⟨_, _, _, rfl, by decide, Nat.lt_of_lt_of_le hz (pow2_le (by decide)), by decide, rfl⟩
    simp_all only [ss_nil, fdiv2]
    refine ⟨two_ok, ?_⟩
    (first | rw [Nx_eq] | rw [Arm_eq] | skip); (try simp_all only [ss_nil])
    refine ⟨by decide, mok, by decide, mok, by decide, by decide, by decide, by decide, ?_⟩
    (first | rw [Nx_eq] | rw [Arm_eq] | skip); (try simp_all only [ss_nil])
    refine ⟨by decide, by decide, by decide, s, .rfl, h _ rfl ?_⟩
    intro v hv
    simp only [List.mem_cons, List.not_mem_nil, or_false] at hv
    rcases hv with rfl | rfl | rfl | rfl | rfl | rfl | rfl
    · exact f2 _ (by omega)
    · exact f1 _ (by omega)
    · exact f1 _ (by omega)
    · exact f2 _ (by omega)
    · exact f2 _ (by omega)
    · exact f2 _ (by decide)
    · exact ho
  · exact h.elim
def sp__law_opposite : PSpec
  | [.int c, .lst xs], st, Q, _ => c.natAbs < 2 ^ 180 ∧ VS xs ∧ Q (.bl true) st
  | _, _, _, _ => False
def b__law_opposite_1 : Ss :=
  (.cons (.asg (.name 4) (.call "_law_lets" sp__law_lets (.cons (.var 0) (.cons (.var 3) .nil)))) (.cons (.ite (.bools .Or (.cons (.not (.val (.call "_law_same" sp__law_same (.cons (.call "allows" sp_allows (.cons (.var 0) (.cons (.var 3) .nil))) (.cons (.var 4) .nil))))) (.cons (.not (.val (.call "_law_same" sp__law_same (.cons (.call "allows" sp_allows (.cons .non (.cons (.var 3) .nil))) (.cons (.bl true) .nil))))) .nil))) (.cons (.ret (.bl false)) .nil) .nil) (.cons (.ite (.bools .Or (.cons (.not (.val (.call "_law_same" sp__law_same (.cons (.call "allows" sp_allows (.cons (.var 2) (.cons (.call "_law_turned" sp__law_turned (.cons (.var 3) .nil)) .nil))) (.cons (.not (.var 4)) .nil))))) (.cons (.cmp .Eq (.call "_law_lets" sp__law_lets (.cons (.var 2) (.cons (.call "_law_turned" sp__law_turned (.cons (.var 3) .nil)) .nil))) (.var 4)) .nil))) (.cons (.ret (.bl false)) .nil) .nil) .nil)))
def b__law_opposite : Ss :=
  (.cons (.asg (.name 2) (.call "against" sp_against (.cons (.var 0) .nil))) (.cons (.ite (.bools .Or (.cons (.not (.val (.call "_law_int" sp__law_int (.cons (.var 2) .nil)))) (.cons (.not (.val (.call "_law_same" sp__law_same (.cons (.call "against" sp_against (.cons (.var 2) .nil)) (.cons (.var 0) .nil))))) .nil))) (.cons (.ret (.bl false)) .nil) .nil) (.cons (.loop (.name 3) (.val (.var 1)) b__law_opposite_1) (.cons (.ret (.bl true)) .nil))))
def n__law_opposite : List Str := ["code", "values", "other", "value", "lets"]
theorem w__law_opposite : ∀ vs s Q X, vs.length = 2 → sp__law_opposite vs s Q X → wpFn n__law_opposite.length b__law_opposite vs s Q X := by
  intro vs s Q X hl h
  unfold sp__law_opposite at h
  split at h
  · rename_i c xs
    rw [fn_eq]
    unfold b__law_opposite n__law_opposite
    obtain ⟨hc, hx, h⟩ := h
    have hcb : ∀ z, some c = some z → z.natAbs < 2 ^ 3900 := fun z e => by cases e; exact Nat.lt_of_lt_of_le hc (pow2_le (by decide))
    have hcb1 : ∀ z, some (1 - c) = some z → z.natAbs < 2 ^ 3900 := fun z e => by
      cases e
      have : (2 : Nat) ^ 181 = 2 * 2 ^ 180 := by decide
      have : 1 ≤ 2 ^ 180 := Nat.one_le_two_pow
      exact Nat.lt_of_lt_of_le (show (1 - c).natAbs < 2 ^ 181 by omega) (pow2_le (by decide))
    simp_all only [ss_nil]
    refine callS_of ?_
    simp_all only [ss_nil, sp_against]
    (first | rw [Nx_eq] | rw [Arm_eq] | skip); (try simp_all only [ss_nil])
    refine callS_of ⟨rfl, ?_⟩
    simp_all only [ss_nil, isI]
    refine callS_of ?_
    simp_all only [ss_nil, sp_against]
    refine callS_of ⟨by rw [show 1 - (1 - c) = c by omega], rfl, int_show (by rw [show 1 - (1 - c) = c by omega]; exact Nat.lt_of_lt_of_le hc (pow2_le (by decide))), ?_⟩
    simp_all only [ss_nil]
    (first | rw [Nx_eq] | rw [Arm_eq] | skip); (try simp_all only [ss_nil])
    (first | rw [Nx_eq] | rw [Arm_eq] | skip); (try simp_all only [ss_nil])
    refine for_at (fun i τ st => st = s ∧ ∃ o3 o4 : Option PV, τ = [some (.int c), some (.lst xs), some (.int (1 - c)), o3, o4]) ?_ ?_ ⟨rfl, _, _, rfl⟩
    · rintro i v τ st hi ⟨rfl, o3, o4, rfl⟩
      obtain ⟨r, hr⟩ := hx v (mem_ix' hi)
      refine ⟨trivial, ?_⟩
      unfold b__law_opposite_1
      simp_all only [ss_nil]
      refine callS_of ⟨some c, r, rfl, hcb, hr.mono (by decide), ?_⟩
      simp_all only [ss_nil]
      (first | rw [Nx_eq] | rw [Arm_eq] | skip); (try simp_all only [ss_nil])
      refine callS_of ⟨some c, r, rfl, hcb, hr.mono (by decide), ?_⟩
      simp_all only [ss_nil]
      refine callS_of ⟨rfl, rfl, bl_show _, ?_⟩
      simp_all only [ss_nil]
      refine callS_of ⟨none, r, rfl, fun z e => (nomatch e), hr.mono (by decide), ?_⟩
      simp_all only [ss_nil]
      refine callS_of ⟨rfl, rfl, bl_show _, ?_⟩
      simp_all only [ss_nil]
      (first | rw [Nx_eq] | rw [Arm_eq] | skip); (try simp_all only [ss_nil])
      (first | rw [Nx_eq] | rw [Arm_eq] | skip); (try simp_all only [ss_nil])
      refine callS_of ⟨_, _, hr, fun w hw => ?_⟩
      simp_all only [ss_nil]
      refine callS_of ⟨some (1 - c), -r, rfl, hcb1, hw.mono (by decide), ?_⟩
      simp_all only [ss_nil, lets_neg]
      refine callS_of ⟨rfl, rfl, bl_show _, ?_⟩
      simp_all only [ss_nil]
      refine callS_of ⟨_, _, hr, fun w2 hw2 => ?_⟩
      simp_all only [ss_nil]
      refine callS_of ⟨some (1 - c), -r, rfl, hcb1, hw2.mono (by decide), ?_⟩
      simp_all only [ss_nil, lets_neg]
      cases letsC (some c) r <;> (simp_all only [ss_nil, show ((true == false) = false) by decide, show ((false == true) = false) by decide]; (first | rw [Nx_eq] | rw [Arm_eq] | skip); (try simp_all only [ss_nil]); (first | rw [Nx_eq] | rw [Arm_eq] | skip); (try simp_all only [ss_nil]); exact ⟨_, _, rfl⟩)
    · rintro τ st ⟨rfl, o3, o4, rfl⟩
      refine ⟨trivial, ?_⟩
      simp_all only [ss_nil]
      (first | rw [Nx_eq] | rw [Arm_eq] | skip); (try simp_all only [ss_nil])
      exact ⟨st, .rfl, h⟩
  · exact h.elim
end TK

set_option maxRecDepth 100000
set_option maxHeartbeats 4000000
namespace TK
open PySem PySem.Spec PyProof.Rows L2
/-- a value that both codes let, told for the two directions; none where they fall -/
def btwC (x y : Option Int) : Bool := fallC (joinC x y)
def sp__law_between : PSpec
  | [a, b], st, Q, _ => ∃ x y, a = codV x ∧ b = codV y ∧ CB x ∧ CB y ∧ (btwC x y = true → Q .non st) ∧ (btwC x y = false → ∀ n d r, Fr 1000 (.tup [.int n, .int d]) r → letsC x r = true → letsC y (-r) = true → Q (.tup [.int n, .int d]) st)
  | _, _, _, _ => False
def b__law_between : Ss :=
  (.cons (.ite (.bools .And (.cons (.cmp .Is (.var 0) .non) (.cons (.cmp .Is (.var 1) .non) .nil))) (.cons (.ret (.tup (.cons (.int 0) (.cons (.int 1) .nil)))) .nil) .nil) (.cons (.ite (.cmp .Is (.var 0) .non) (.cons (.ret (.tup (.cons (.bin .Sub false (.int 1) (.bin .FloorDiv false (.var 1) (.int 2))) (.cons (.int 1) .nil)))) .nil) .nil) (.cons (.ite (.cmp .Is (.var 1) .non) (.cons (.ret (.tup (.cons (.bin .Sub false (.bin .FloorDiv false (.var 0) (.int 2)) (.int 1)) (.cons (.int 1) .nil)))) .nil) .nil) (.cons (.asg (.name 2) (.call "_law_ratio" sp__law_ratio (.cons (.bin .Sub false (.bin .FloorDiv false (.var 0) (.int 2)) (.bin .FloorDiv false (.var 1) (.int 2))) (.cons (.int 2) .nil)))) (.cons (.ite (.bools .And (.cons (.val (.call "_law_lets" sp__law_lets (.cons (.var 0) (.cons (.var 2) .nil)))) (.cons (.val (.call "_law_lets" sp__law_lets (.cons (.var 1) (.cons (.call "_law_turned" sp__law_turned (.cons (.var 2) .nil)) .nil)))) .nil))) (.cons (.ret (.var 2)) .nil) .nil) (.cons (.ret .non) .nil))))))
def n__law_between : List Str := ["a", "b", "value"]
theorem fr_int {z : Int} (h : z.natAbs < 2 ^ 200) : Fr 1000 (.tup [.int z, .int 1]) (z : Rat) :=
  ⟨z, 1, rfl, by decide, Nat.lt_of_lt_of_le h (pow2_le (by decide)), by decide, by rw [Rat.divInt_eq_div]; grind⟩
theorem lets_below {c z : Int} (h : z < c / 2) : letsC (some c) (z : Rat) = true := by
  rw [letsC_some]
  have := cast_lt.mpr h
  split
  · exact decide_eq_true this
  · exact decide_eq_true (by grind)
theorem mid_bd {a b : Int} (ha : a.natAbs < 2 ^ 180) (hb : b.natAbs < 2 ^ 180) : Bd 1000 (midR a b) := by
  have e : (2 : Nat) ^ 181 = 2 * 2 ^ 180 := by decide
  exact .of_divInt (by decide) (Nat.lt_of_lt_of_le (show (a / 2 - b / 2).natAbs < 2 ^ 181 by omega) (pow2_le (by decide))) (by decide)
theorem w__law_between : ∀ vs s Q X, vs.length = 2 → sp__law_between vs s Q X → wpFn n__law_between.length b__law_between vs s Q X := by
  intro vs s Q X hl h
  unfold sp__law_between at h
  split at h
  · rename_i a b
    rw [fn_eq]
    unfold b__law_between n__law_between
    obtain ⟨x, y, rfl, rfl, hx, hy, hF, hT⟩ := h
    have e181 : (2 : Nat) ^ 181 = 2 * 2 ^ 180 := by decide
    have one : 1 ≤ 2 ^ 180 := Nat.one_le_two_pow
    have l200 : ∀ z : Int, z.natAbs < 2 ^ 181 → z.natAbs < 2 ^ 200 := fun z h => Nat.lt_of_lt_of_le h (pow2_le (by decide))
    cases x with
    | none => cases y with
      | none =>
        simp_all only [ss_nil, codV]
        (first | rw [Nx_eq] | rw [Arm_eq] | skip); (try simp_all only [ss_nil])
        refine ⟨by decide, s, .rfl, hT rfl 0 1 0 ⟨0, 1, rfl, by decide, by decide, by decide, by rw [Rat.zero_divInt]⟩ rfl rfl⟩
      | some b =>
        have hb := hy b rfl
        simp_all only [ss_nil, codV]
        (first | rw [Nx_eq] | rw [Arm_eq] | skip); (try simp_all only [ss_nil])
        (first | rw [Nx_eq] | rw [Arm_eq] | skip); (try simp_all only [ss_nil])
        (first | rw [Nx_eq] | rw [Arm_eq] | skip); (try simp_all only [ss_nil, fdiv2])
        refine ⟨two_ok, by decide, s, .rfl, hT rfl _ _ _ (fr_int (z := 1 - b / 2) (l200 _ (by omega))) rfl ?_⟩
        have : -(((1 - b / 2 : Int)) : Rat) = ((b / 2 - 1 : Int) : Rat) := by rw [← Rat.intCast_neg]; congr 1; omega
        rw [this]
        exact lets_below (by omega)
    | some a => cases y with
      | none =>
        have ha := hx a rfl
        simp_all only [ss_nil, codV]
        (first | rw [Nx_eq] | rw [Arm_eq] | skip); (try simp_all only [ss_nil])
        (first | rw [Nx_eq] | rw [Arm_eq] | skip); (try simp_all only [ss_nil])
        (first | rw [Nx_eq] | rw [Arm_eq] | skip); (try simp_all only [ss_nil])
        (first | rw [Nx_eq] | rw [Arm_eq] | skip); (try simp_all only [ss_nil])
        (first | rw [Nx_eq] | rw [Arm_eq] | skip); (try simp_all only [ss_nil, fdiv2])
        refine ⟨two_ok, by decide, s, .rfl, hT rfl _ _ _ (fr_int (z := a / 2 - 1) (l200 _ (by omega))) (lets_below (by omega)) rfl⟩
      | some b =>
        have ha := hx a rfl
        have hb := hy b rfl
        have mb := mid_bd ha hb
        obtain ⟨m1, m2⟩ := mid_lets a b
        simp_all only [ss_nil, codV]
        (first | rw [Nx_eq] | rw [Arm_eq] | skip); (try simp_all only [ss_nil])
        (first | rw [Nx_eq] | rw [Arm_eq] | skip); (try simp_all only [ss_nil])
        (first | rw [Nx_eq] | rw [Arm_eq] | skip); (try simp_all only [ss_nil])
        (first | rw [Nx_eq] | rw [Arm_eq] | skip); (try simp_all only [ss_nil])
        (first | rw [Nx_eq] | rw [Arm_eq] | skip); (try simp_all only [ss_nil])
        (first | rw [Nx_eq] | rw [Arm_eq] | skip); (try simp_all only [ss_nil, fdiv2])
        refine ⟨two_ok, two_ok, callS_of ⟨by decide, .of (by decide), ?_⟩⟩
        simp_all only [ss_nil]
        (first | rw [Nx_eq] | rw [Arm_eq] | skip); (try simp_all only [ss_nil])
        refine callS_of ⟨some a, midR a b, rfl, hx.big, mb.fr.mono (by decide), ?_⟩
        have nob : Nx (.cons (.ret .non) .nil) (fnEnds Q X) [some (.int a), some (.int b), some (ratV (midR a b))] s → True := fun _ => trivial
        cases h1 : letsC (some a) (midR a b) with
        | false =>
          have hf : btwC (some a) (some b) = true := by
            cases e : btwC (some a) (some b) with
            | true => rfl
            | false => rw [(m1 e).1] at h1; cases h1
          simp_all only [ss_nil]
          (first | rw [Nx_eq] | rw [Arm_eq] | skip); (try simp_all only [ss_nil])
          (first | rw [Nx_eq] | rw [Arm_eq] | skip); (try simp_all only [ss_nil])
          exact ⟨s, .rfl, hF hf⟩
        | true =>
          simp_all only [ss_nil]
          refine callS_of ⟨_, _, mb.fr, fun w hw => ?_⟩
          simp_all only [ss_nil]
          refine callS_of ⟨some b, _, rfl, hy.big, hw.mono (by decide), ?_⟩
          cases h2 : letsC (some b) (-(midR a b)) with
          | false =>
            have hf : btwC (some a) (some b) = true := by
              cases e : btwC (some a) (some b) with
              | true => rfl
              | false => rw [(m1 e).2] at h2; cases h2
            simp_all only [ss_nil]
            (first | rw [Nx_eq] | rw [Arm_eq] | skip); (try simp_all only [ss_nil])
            (first | rw [Nx_eq] | rw [Arm_eq] | skip); (try simp_all only [ss_nil])
            exact ⟨s, .rfl, hF hf⟩
          | true =>
            have hf : btwC (some a) (some b) = false := by
              cases e : btwC (some a) (some b) with
              | false => rfl
              | true => exact absurd ⟨h1, h2⟩ (m2 e _)
            simp_all only [ss_nil]
            (first | rw [Nx_eq] | rw [Arm_eq] | skip); (try simp_all only [ss_nil])
            exact ⟨s, .rfl, hT hf _ _ _ mb.fr h1 h2⟩
  · exact h.elim
def sp__law_falls : PSpec
  | [a], st, Q, _ => ∃ x, a = codV x ∧ Q (.int (if fallC x = true then 1 else 0)) st
  | _, _, _, _ => False
def b__law_falls : Ss :=
  (.cons (.ite (.bools .And (.cons (.cmp .IsNot (.var 0) .non) (.cons (.not (.val (.call "_law_int" sp__law_int (.cons (.var 0) .nil)))) .nil))) (.cons (.ret (.neg (.int 1))) .nil) .nil) (.cons (.asg (.name 1) (.bools .Or (.cons (.cmp .Is (.var 0) .non) (.cons (.cmp .GtE (.var 0) (.int 1)) .nil)))) (.cons (.ite (.not (.val (.call "_law_same" sp__law_same (.cons (.call "is_tight" sp_is_tight (.cons (.call "at_most" sp_at_most (.cons (.int 0) .nil)) (.cons (.var 0) .nil))) (.cons (.var 1) .nil))))) (.cons (.ret (.neg (.int 1))) .nil) .nil) (.cons (.ret (.ite (.val (.var 1)) (.int 0) (.int 1))) .nil))))
def n__law_falls : List Str := ["code", "due"]
theorem w__law_falls : ∀ vs s Q X, vs.length = 1 → sp__law_falls vs s Q X → wpFn n__law_falls.length b__law_falls vs s Q X := by
  intro vs s Q X hl h
  unfold sp__law_falls at h
  split at h
  · rename_i a
    rw [fn_eq]
    unfold b__law_falls n__law_falls
    obtain ⟨x, rfl, h⟩ := h
    cases x with
    | none =>
      simp_all only [ss_nil, codV]
      (first | rw [Nx_eq] | rw [Arm_eq] | skip); (try simp_all only [ss_nil])
      (first | rw [Nx_eq] | rw [Arm_eq] | skip); (try simp_all only [ss_nil])
      (first | rw [Nx_eq] | rw [Arm_eq] | skip); (try simp_all only [ss_nil])
      refine callS_of ?_
      simp_all only [ss_nil, sp_at_most]
      refine callS_of ⟨some 1, none, rfl, rfl, ?_⟩
      simp_all only [ss_nil]
      refine callS_of ⟨rfl, rfl, bl_show _, ?_⟩
      simp_all only [ss_nil]
      (first | rw [Nx_eq] | rw [Arm_eq] | skip); (try simp_all only [ss_nil])
      (first | rw [Nx_eq] | rw [Arm_eq] | skip); (try simp_all only [ss_nil])
      exact ⟨s, .rfl, h⟩
    | some c =>
      simp_all only [ss_nil, codV]
      refine callS_of ⟨rfl, ?_⟩
      simp_all only [ss_nil, isI]
      (first | rw [Nx_eq] | rw [Arm_eq] | skip); (try simp_all only [ss_nil])
      (first | rw [Nx_eq] | rw [Arm_eq] | skip); (try simp_all only [ss_nil])
      (first | rw [Nx_eq] | rw [Arm_eq] | skip); (try simp_all only [ss_nil])
      refine callS_of ?_
      simp_all only [ss_nil, sp_at_most]
      refine callS_of ⟨some 1, some c, rfl, rfl, ?_⟩
      simp_all only [ss_nil]
      refine callS_of ⟨rfl, rfl, bl_show _, ?_⟩
      simp_all only [ss_nil]
      (first | rw [Nx_eq] | rw [Arm_eq] | skip); (try simp_all only [ss_nil])
      (first | rw [Nx_eq] | rw [Arm_eq] | skip); (try simp_all only [ss_nil])
      have h' : Q (.int (if decide (c < 1) = true then 1 else 0)) s := h
      by_cases hc : c < 1
      · rw [if_pos (decide_eq_true hc)] at h'
        simp_all only [ss_nil, show ¬ (1 ≤ c) by omega]
        exact ⟨s, .rfl, h'⟩
      · rw [if_neg (by simpa using hc)] at h'
        simp_all only [ss_nil, show 1 ≤ c by omega]
        exact ⟨s, .rfl, h'⟩
  · exact h.elim
end TK

set_option maxRecDepth 100000
set_option maxHeartbeats 4000000
namespace TK
open PySem PySem.Spec PyProof.Rows L2
def sp__law_pair : PSpec
  | [a, b, .lst xs], st, Q, _ => ∃ x y, a = codV x ∧ b = codV y ∧ CB x ∧ CB y ∧ VS xs ∧ Q (.bl true) st
  | _, _, _, _ => False
def b__law_pair_1 : Ss :=
  (.cons (.ite (.bools .And (.cons (.cmp .Is (.var 3) .non) (.cons (.val (.call "allows" sp_allows (.cons (.var 0) (.cons (.var 4) .nil)))) (.cons (.val (.call "allows" sp_allows (.cons (.var 1) (.cons (.call "_law_turned" sp__law_turned (.cons (.var 4) .nil)) .nil)))) .nil)))) (.cons (.ret (.bl false)) .nil) .nil) .nil)
def b__law_pair : Ss :=
  (.cons (.asg (.name 3) (.call "_law_between" sp__law_between (.cons (.var 0) (.cons (.var 1) .nil)))) (.cons (.ite (.cmp .NotEq (.call "_law_falls" sp__law_falls (.cons (.call "joined_code" sp_joined_code (.cons (.var 0) (.cons (.var 1) .nil))) .nil)) (.ite (.cmp .Is (.var 3) .non) (.int 1) (.int 0))) (.cons (.ret (.bl false)) .nil) .nil) (.cons (.ite (.bools .And (.cons (.cmp .IsNot (.var 3) .non) (.cons (.not (.bools .And (.cons (.val (.call "_law_same" sp__law_same (.cons (.call "allows" sp_allows (.cons (.var 0) (.cons (.var 3) .nil))) (.cons (.bl true) .nil)))) (.cons (.val (.call "_law_same" sp__law_same (.cons (.call "allows" sp_allows (.cons (.var 1) (.cons (.call "_law_turned" sp__law_turned (.cons (.var 3) .nil)) .nil))) (.cons (.bl true) .nil)))) .nil)))) .nil))) (.cons (.ret (.bl false)) .nil) .nil) (.cons (.loop (.name 4) (.val (.var 2)) b__law_pair_1) (.cons (.ite (.bools .Or (.cons (.cmp .Is (.var 0) .non) (.cons (.cmp .Is (.var 1) .non) .nil))) (.cons (.ret (.bl true)) .nil) .nil) (.cons (.asg (.name 5) (.cmp .LtE (.var 0) (.var 1))) (.cons (.ite (.not (.val (.call "_law_same" sp__law_same (.cons (.call "is_tight" sp_is_tight (.cons (.var 0) (.cons (.var 1) .nil))) (.cons (.var 5) .nil))))) (.cons (.ret (.bl false)) .nil) .nil) (.cons (.ret (.cmp .Eq (.call "_law_falls" sp__law_falls (.cons (.call "joined_code" sp_joined_code (.cons (.var 0) (.cons (.call "against" sp_against (.cons (.var 1) .nil)) .nil))) .nil)) (.ite (.val (.var 5)) (.int 1) (.int 0)))) .nil))))))))
def n__law_pair : List Str := ["a", "b", "values", "value", "one", "tight"]
theorem w__law_pair : ∀ vs s Q X, vs.length = 3 → sp__law_pair vs s Q X → wpFn n__law_pair.length b__law_pair vs s Q X := by
  intro vs s Q X hl h
  unfold sp__law_pair at h
  split at h
  · rename_i a b xs
    rw [fn_eq]
    unfold b__law_pair n__law_pair
    obtain ⟨x, y, rfl, rfl, hx, hy, hxs, h⟩ := h
    -- the last steps
    have fin : ∀ (v : PV) (o : Option PV), Nx (.cons (.ite (.bools .Or (.cons (.cmp .Is (.var 0) .non) (.cons (.cmp .Is (.var 1) .non) .nil))) (.cons (.ret (.bl true)) .nil) .nil) (.cons (.asg (.name 5) (.cmp .LtE (.var 0) (.var 1))) (.cons (.ite (.not (.val (.call "_law_same" sp__law_same (.cons (.call "is_tight" sp_is_tight (.cons (.var 0) (.cons (.var 1) .nil))) (.cons (.var 5) .nil))))) (.cons (.ret (.bl false)) .nil) .nil) (.cons (.ret (.cmp .Eq (.call "_law_falls" sp__law_falls (.cons (.call "joined_code" sp_joined_code (.cons (.var 0) (.cons (.call "against" sp_against (.cons (.var 1) .nil)) .nil))) .nil)) (.ite (.val (.var 5)) (.int 1) (.int 0)))) .nil)))) (fnEnds Q X) [some (codV x), some (codV y), some (.lst xs), some v, o, none] s := by
      intro v o
      cases x with
      | none => (first | rw [Nx_eq] | rw [Arm_eq] | skip); (try simp_all only [ss_nil, codV]); (first | rw [Nx_eq] | rw [Arm_eq] | skip); (try simp_all only [ss_nil]); exact ⟨s, .rfl, h⟩
      | some a => cases y with
        | none => (first | rw [Nx_eq] | rw [Arm_eq] | skip); (try simp_all only [ss_nil, codV]); (first | rw [Nx_eq] | rw [Arm_eq] | skip); (try simp_all only [ss_nil]); exact ⟨s, .rfl, h⟩
        | some b =>
          (first | rw [Nx_eq] | rw [Arm_eq] | skip); (try simp_all only [ss_nil, codV])
          (first | rw [Nx_eq] | rw [Arm_eq] | skip); (try simp_all only [ss_nil])
          (first | rw [Nx_eq] | rw [Arm_eq] | skip); (try simp_all only [ss_nil])
          (first | rw [Nx_eq] | rw [Arm_eq] | skip); (try simp_all only [ss_nil])
          refine callS_of ⟨some a, some b, rfl, rfl, ?_⟩
          simp_all only [ss_nil]
          refine callS_of ⟨rfl, rfl, bl_show _, ?_⟩
          simp_all only [ss_nil]
          (first | rw [Nx_eq] | rw [Arm_eq] | skip); (try simp_all only [ss_nil])
          (first | rw [Nx_eq] | rw [Arm_eq] | skip); (try simp_all only [ss_nil])
          refine callS_of ?_
          simp_all only [ss_nil, sp_against]
          refine callS_of ⟨some a, some (1 - b), rfl, rfl, ?_⟩
          simp_all only [ss_nil]
          refine callS_of ⟨_, rfl, ?_⟩
          rw [fall_tight]
          by_cases hab : a ≤ b
          · simp_all only [ss_nil, hab]
            exact ⟨s, .rfl, h⟩
          · simp_all only [ss_nil, hab]
            exact ⟨s, .rfl, h⟩
    simp_all only [ss_nil]
    refine callS_of ⟨x, y, rfl, rfl, hx, hy, fun hf => ?_, fun hf n d r fr l1 l2 => ?_⟩
    · -- they fall: nothing is let by both
      have none_both : ∀ r, ¬ (letsC x r = true ∧ letsC y (-r) = true) := by
        cases x with
        | none => cases hf
        | some a => cases y with
          | none => cases hf
          | some b => exact (mid_lets a b).2 hf
      simp_all only [ss_nil]
      (first | rw [Nx_eq] | rw [Arm_eq] | skip); (try simp_all only [ss_nil])
      refine callS_of ⟨x, y, rfl, rfl, ?_⟩
      simp_all only [ss_nil]
      have hf' : fallC (joinC x y) = true := hf
      refine callS_of ⟨_, rfl, ?_⟩
      simp_all only [ss_nil, hf']
      (first | rw [Nx_eq] | rw [Arm_eq] | skip); (try simp_all only [ss_nil])
      (first | rw [Nx_eq] | rw [Arm_eq] | skip); (try simp_all only [ss_nil])
      (first | rw [Nx_eq] | rw [Arm_eq] | skip); (try simp_all only [ss_nil])
      (first | rw [Nx_eq] | rw [Arm_eq] | skip); (try simp_all only [ss_nil])
      (first | rw [Nx_eq] | rw [Arm_eq] | skip); (try simp_all only [ss_nil])
      refine for_at (fun i τ st => st = s ∧ ∃ o : Option PV, τ = [some (codV x), some (codV y), some (.lst xs), some .non, o, none]) ?_ ?_ ⟨rfl, _, rfl⟩
      · rintro i v τ st hi ⟨rfl, o, rfl⟩
        obtain ⟨r, hr⟩ := hxs v (mem_ix' hi)
        refine ⟨trivial, ?_⟩
        unfold b__law_pair_1
        simp_all only [ss_nil]
        refine callS_of ⟨x, r, rfl, hx.big, hr.mono (by decide), ?_⟩
        cases h1 : letsC x r with
        | false =>
          simp_all only [ss_nil]
          (first | rw [Nx_eq] | rw [Arm_eq] | skip); (try simp_all only [ss_nil])
          (first | rw [Nx_eq] | rw [Arm_eq] | skip); (try simp_all only [ss_nil])
          exact ⟨_, rfl⟩
        | true =>
          simp_all only [ss_nil]
          refine callS_of ⟨_, _, hr, fun w hw => ?_⟩
          simp_all only [ss_nil]
          refine callS_of ⟨y, -r, rfl, hy.big, hw.mono (by decide), ?_⟩
          have h2 : letsC y (-r) = false := by
            cases e : letsC y (-r) with
            | false => rfl
            | true => exact absurd ⟨h1, e⟩ (none_both r)
          simp_all only [ss_nil, h2]
          (first | rw [Nx_eq] | rw [Arm_eq] | skip); (try simp_all only [ss_nil])
          (first | rw [Nx_eq] | rw [Arm_eq] | skip); (try simp_all only [ss_nil])
          exact ⟨_, rfl⟩
      · rintro τ st ⟨rfl, o, rfl⟩
        refine ⟨trivial, ?_⟩
        exact fin _ o
    · simp_all only [ss_nil]
      (first | rw [Nx_eq] | rw [Arm_eq] | skip); (try simp_all only [ss_nil])
      refine callS_of ⟨x, y, rfl, rfl, ?_⟩
      simp_all only [ss_nil]
      have hf' : fallC (joinC x y) = false := hf
      refine callS_of ⟨_, rfl, ?_⟩
      simp_all only [ss_nil, hf']
      (first | rw [Nx_eq] | rw [Arm_eq] | skip); (try simp_all only [ss_nil])
      (first | rw [Nx_eq] | rw [Arm_eq] | skip); (try simp_all only [ss_nil])
      (first | rw [Nx_eq] | rw [Arm_eq] | skip); (try simp_all only [ss_nil])
      refine callS_of ⟨x, r, rfl, hx.big, fr.mono (by decide), ?_⟩
      simp_all only [ss_nil, l1]
      refine callS_of ⟨rfl, rfl, bl_show _, ?_⟩
      simp_all only [ss_nil]
      refine callS_of ⟨_, _, fr, fun w hw => ?_⟩
      simp_all only [ss_nil]
      refine callS_of ⟨y, -r, rfl, hy.big, hw.mono (by decide), ?_⟩
      simp_all only [ss_nil, l2]
      refine callS_of ⟨rfl, rfl, bl_show _, ?_⟩
      simp_all only [ss_nil]
      (first | rw [Nx_eq] | rw [Arm_eq] | skip); (try simp_all only [ss_nil])
      (first | rw [Nx_eq] | rw [Arm_eq] | skip); (try simp_all only [ss_nil])
      (first | rw [Nx_eq] | rw [Arm_eq] | skip); (try simp_all only [ss_nil])
      refine for_at (fun i τ st => st = s ∧ ∃ o : Option PV, τ = [some (codV x), some (codV y), some (.lst xs), some (.tup [.int n, .int d]), o, none]) ?_ ?_ ⟨rfl, _, rfl⟩
      · rintro i v τ st hi ⟨rfl, o, rfl⟩
        refine ⟨trivial, ?_⟩
        unfold b__law_pair_1
        simp_all only [ss_nil]
        (first | rw [Nx_eq] | rw [Arm_eq] | skip); (try simp_all only [ss_nil])
        (first | rw [Nx_eq] | rw [Arm_eq] | skip); (try simp_all only [ss_nil])
        exact ⟨_, rfl⟩
      · rintro τ st ⟨rfl, o, rfl⟩
        refine ⟨trivial, ?_⟩
        exact fin _ o
  · exact h.elim
end TK

set_option maxRecDepth 100000
set_option maxHeartbeats 4000000
namespace TK
open PySem PySem.Spec PyProof.Rows L2
/-- the tightest of codes -/
def mnC : List Int → Option Int
  | [] => none
  | x :: r => some (minL (x :: r))
theorem fold_up : ∀ (r : List Int) (x : Int), r.foldl (fun acc c => tightC acc (some c)) (some x) = some (r.foldl (fun m y => if y < m then y else m) x)
  | [], _ => rfl
  | c :: r, x => fold_up r _
theorem mn_up (us : List Int) : us.foldl (fun acc c => tightC acc (some c)) none = mnC us := by
  cases us with
  | nil => rfl
  | cons x r => exact fold_up r x
theorem fold_low : ∀ (r : List Int) (x : Int), r.foldl (fun acc c => tightC (some c) acc) (some x) = some (r.foldl (fun m y => if y < m then y else m) x)
  | [], _ => rfl
  | c :: r, x => by
    show r.foldl _ (some (if x < c then x else c)) = some (r.foldl _ (if c < x then c else x))
    rw [fold_low r]
    congr 2
    split <;> split <;> omega
theorem mn_low (us : List Int) : us.foldl (fun acc c => tightC (some c) acc) none = mnC us := by
  cases us with
  | nil => rfl
  | cons x r => exact fold_low r x
theorem minF_le : ∀ (r : List Int) (x : Int), r.foldl (fun m y => if y < m then y else m) x ≤ x ∧ (∀ c ∈ r, r.foldl (fun m y => if y < m then y else m) x ≤ c) ∧ (r.foldl (fun m y => if y < m then y else m) x = x ∨ r.foldl (fun m y => if y < m then y else m) x ∈ r)
  | [], x => ⟨Int.le_refl _, fun _ h => (nomatch h), .inl rfl⟩
  | c :: r, x => by
    obtain ⟨h1, h2, h3⟩ := minF_le r (if c < x then c else x)
    have e : (c :: r).foldl (fun m y => if y < m then y else m) x = r.foldl (fun m y => if y < m then y else m) (if c < x then c else x) := rfl
    rw [e]
    have hle : (if c < x then c else x) ≤ x ∧ (if c < x then c else x) ≤ c := by split <;> omega
    refine ⟨by omega, fun d hd => ?_, ?_⟩
    · rcases List.mem_cons.mp hd with rfl | hd
      · omega
      · exact h2 d hd
    · rcases h3 with h3 | h3
      · rw [h3]
        by_cases hcx : c < x
        · rw [if_pos hcx]; exact .inr List.mem_cons_self
        · rw [if_neg hcx]; exact .inl rfl
      · exact .inr (List.mem_cons_of_mem _ h3)
theorem mn_some {us : List Int} {m : Int} (h : mnC us = some m) : m ∈ us ∧ ∀ c ∈ us, m ≤ c := by
  cases us with
  | nil => cases h
  | cons x r =>
    have e : minL (x :: r) = m := Option.some.inj h
    obtain ⟨h1, h2, h3⟩ := minF_le r x
    have e' : r.foldl (fun m y => if y < m then y else m) x = m := e
    rw [e'] at h1 h2 h3
    refine ⟨?_, fun c hc => ?_⟩
    · rcases h3 with h3 | h3
      · rw [h3]; exact List.mem_cons_self
      · exact List.mem_cons_of_mem _ h3
    · rcases List.mem_cons.mp hc with rfl | hc
      · exact h1
      · exact h2 c hc
theorem mn_none {us : List Int} (h : mnC us = none) : us = [] := by
  cases us with
  | nil => rfl
  | cons x r => cases h
theorem fall_mono {a b a' b' : Int} (ha : a' ≤ a) (hb : b' ≤ b) (h : btwC (some a) (some b) = true) : btwC (some a') (some b') = true := by
  unfold btwC at h ⊢
  rcases half a with ⟨a, rfl⟩ | ⟨a, rfl⟩ <;> rcases half b with ⟨b, rfl⟩ | ⟨b, rfl⟩ <;> rcases half a' with ⟨a', rfl⟩ | ⟨a', rfl⟩ <;> rcases half b' with ⟨b', rfl⟩ | ⟨b', rfl⟩ <;>
    simp only [join_ee, join_eo, join_oe, join_oo, fallC, decide_eq_true_eq] at h ⊢ <;> omega
/-- any two of them fall -/
def clash (us ls : List Int) : Bool := us.any fun a => ls.any fun b => btwC (some a) (some b)
theorem clash_mn (us ls : List Int) : clash us ls = btwC (mnC us) (mnC ls) := by
  cases eu : mnC us with
  | none => rw [mn_none eu]; rfl
  | some a => cases el : mnC ls with
    | none =>
      rw [mn_none el]
      show (us.any fun _ => false) = _
      rw [List.any_eq_false.mpr (fun _ _ h => by cases h)]; rfl
    | some b =>
      obtain ⟨a1, a2⟩ := mn_some eu
      obtain ⟨b1, b2⟩ := mn_some el
      cases e : btwC (some a) (some b) with
      | true => exact List.any_eq_true.mpr ⟨a, a1, List.any_eq_true.mpr ⟨b, b1, e⟩⟩
      | false =>
        cases e2 : clash us ls with
        | false => rfl
        | true =>
          obtain ⟨a', ha, h⟩ := List.any_eq_true.mp e2
          obtain ⟨b', hb, h⟩ := List.any_eq_true.mp h
          rw [fall_mono (a2 a' ha) (b2 b' hb) h] at e
          cases e
theorem ints_of : ∀ us : List Int, intsOf (us.map PV.int) = some us
  | [] => rfl
  | x :: r => by
    show (intsOf (r.map PV.int)).map (x :: ·) = _
    rw [ints_of r]; rfl
theorem trues_show : ∀ (n : Nat), shOks 59 (List.replicate n (.bl true)) ∧ wgts (List.replicate n (.bl true)) = 573 * n
  | 0 => ⟨by unfold shOks; trivial, rfl⟩
  | n + 1 => by
    obtain ⟨a, b⟩ := trues_show n
    rw [List.replicate_succ]
    refine ⟨?_, ?_⟩
    · unfold shOks; exact ⟨by unfold shOk; trivial, a⟩
    · unfold wgts; rw [b]; show 571 + 2 + 573 * n = _; omega
theorem trues_ok {n : Nat} (h : n ≤ 1000) : ShowOk (.lst (List.replicate n (.bl true))) := by
  obtain ⟨a, b⟩ := trues_show n
  refine showOk_of ?_ ?_
  · unfold shOk; exact ⟨by decide, a⟩
  · unfold wgt; rw [b]
    have : 573 * 1000 + 3 ≤ sizeLine := by decide
    omega
theorem map_true {α : Type} (us : List α) : (us.map fun _ => PV.bl true) = List.replicate us.length (.bl true) := List.map_const' ..
theorem two_mn {us ls : List Int} {C : List PV → Prop} (hk : C [codV (mnC us), codV (mnC ls)]) : if (0 : Int) < (us.length : Int) then us ≠ [] ∧ if (0 : Int) < (ls.length : Int) then ls ≠ [] ∧ C [.int (minL us), .int (minL ls)] else C [.int (minL us), .non]
    else if (0 : Int) < (ls.length : Int) then ls ≠ [] ∧ C [.non, .int (minL ls)] else C [.non, .non] := by
  cases us with
  | nil =>
    rw [if_neg (by simp)]
    cases ls with
    | nil => rw [if_neg (by simp)]; exact hk
    | cons y t => rw [if_pos (by simp)]; exact ⟨by simp, hk⟩
  | cons x r =>
    rw [if_pos (by simp)]
    refine ⟨by simp, ?_⟩
    cases ls with
    | nil => rw [if_neg (by simp)]; exact hk
    | cons y t => rw [if_pos (by simp)]; exact ⟨by simp, hk⟩
def sp__law_many : PSpec
  | [.lst xs, .lst ys], st, Q, _ => ∃ us ls : List Int, xs = us.map .int ∧ ys = ls.map .int ∧ us.length + ls.length ≤ 1000 ∧ (∀ c ∈ us, c.natAbs < 2 ^ 180) ∧ (∀ c ∈ ls, c.natAbs < 2 ^ 180) ∧ Q (.bl true) st
  | _, _, _, _ => False
def b__law_many_4 : Ss :=
  (.cons (.asg (.name 5) (.bools .Or (.cons (.var 5) (.cons (.cmp .Is (.call "_law_between" sp__law_between (.cons (.var 3) (.cons (.var 8) .nil))) .non) .nil)))) .nil)
def b__law_many_3 : Ss :=
  (.cons (.loop (.name 8) (.val (.var 1)) b__law_many_4) .nil)
def b__law_many_2 : Ss :=
  (.cons (.asg (.name 4) (.call "tighter" sp_tighter (.cons (.var 3) (.cons (.var 4) .nil)))) .nil)
def b__law_many_1 : Ss :=
  (.cons (.asg (.name 2) (.call "tighter" sp_tighter (.cons (.var 2) (.cons (.var 3) .nil)))) .nil)
def b__law_many : Ss :=
  (.cons (.asg (.name 2) .non) (.cons (.loop (.name 3) (.val (.var 0)) b__law_many_1) (.cons (.asg (.name 4) .non) (.cons (.loop (.name 3) (.val (.var 1)) b__law_many_2) (.cons (.asg (.name 5) (.bl false)) (.cons (.loop (.name 3) (.val (.var 0)) b__law_many_3) (.cons (.ite (.cmp .NotEq (.call "_law_falls" sp__law_falls (.cons (.call "joined_code" sp_joined_code (.cons (.var 2) (.cons (.var 4) .nil))) .nil)) (.ite (.val (.var 5)) (.int 1) (.int 0))) (.cons (.ret (.bl false)) .nil) .nil) (.cons (.ite (.val (.var 5)) (.cons (.ret (.bl true)) .nil) .nil) (.cons (.asg (.name 6) (.call "_law_between" sp__law_between (.cons (.ite (.cmp .Gt (.blt .len false (.cons (.var 0) .nil)) (.int 0)) (.blt .min false (.cons (.var 0) .nil)) .non) (.cons (.ite (.cmp .Gt (.blt .len false (.cons (.var 1) .nil)) (.int 0)) (.blt .min false (.cons (.var 1) .nil)) .non) .nil)))) (.cons (.ite (.cmp .Is (.var 6) .non) (.cons (.ret (.bl false)) .nil) .nil) (.cons (.asg (.name 7) (.bin .Add false (.comp false [3] (.name 3) (.val (.var 0)) .nil (.call "allows" sp_allows (.cons (.var 3) (.cons (.var 6) .nil)))) (.comp false [3] (.name 3) (.val (.var 1)) .nil (.call "allows" sp_allows (.cons (.var 3) (.cons (.call "_law_turned" sp__law_turned (.cons (.var 6) .nil)) .nil)))))) (.cons (.ret (.call "_law_same" sp__law_same (.cons (.var 7) (.cons (.comp false [3] (.name 3) (.val (.bin .Add false (.var 0) (.var 1))) .nil (.bl true)) .nil)))) .nil))))))))))))
def n__law_many : List Str := ["uppers", "lowers", "first", "code", "second", "clash", "value", "told", "other"]
theorem get_int {us : List Int} {i : Nat} {v : PV} (h : (us.map PV.int)[i]? = some v) : ∃ c, v = .int c ∧ us[i]? = some c := by
  rw [List.getElem?_map] at h
  cases e : us[i]? with
  | none => rw [e] at h; cases h
  | some c => rw [e] at h; cases h; exact ⟨c, rfl, rfl⟩
theorem foldl_take {α β : Type} (f : β → α → β) (z : β) {l : List α} {i : Nat} {x : α} (h : l[i]? = some x) : (l.take (i + 1)).foldl f z = f ((l.take i).foldl f z) x := by
  rw [List.take_add_one, h, List.foldl_append]; rfl
theorem any_take {α : Type} (f : α → Bool) {l : List α} {i : Nat} {x : α} (h : l[i]? = some x) : (l.take (i + 1)).any f = ((l.take i).any f || f x) := by
  rw [List.take_add_one, h, List.any_append]; simp
theorem w__law_many : ∀ vs s Q X, vs.length = 2 → sp__law_many vs s Q X → wpFn n__law_many.length b__law_many vs s Q X := by
  intro vs s Q X hl h
  unfold sp__law_many at h
  split at h
  · rename_i xs ys
    rw [fn_eq]
    unfold b__law_many n__law_many
    obtain ⟨us, ls, rfl, rfl, hlen, hu, hlo, h⟩ := h
    have cbu : ∀ c ∈ us, CB (some c) := fun c hc z e => by cases e; exact hu c hc
    have cbl : ∀ c ∈ ls, CB (some c) := fun c hc z e => by cases e; exact hlo c hc
    simp_all only [ss_nil]
    (first | rw [Nx_eq] | rw [Arm_eq] | skip); (try simp_all only [ss_nil])
    refine for_at (fun i τ st => st = s ∧ ∃ o3 : Option PV, τ = [some (.lst (us.map .int)), some (.lst (ls.map .int)), some (codV ((us.take i).foldl (fun acc c => tightC acc (some c)) none)), o3, none, none, none, none, none]) ?_ ?_ ⟨rfl, _, rfl⟩
    · rintro i v τ st hi ⟨rfl, o3, rfl⟩
      obtain ⟨c, rfl, hc⟩ := get_int hi
      refine ⟨trivial, ?_⟩
      unfold b__law_many_1
      simp_all only [ss_nil]
      refine callS_of ⟨_, some c, rfl, rfl, ?_⟩
      simp_all only [ss_nil]
      (first | rw [Nx_eq] | rw [Arm_eq] | skip); (try simp_all only [ss_nil])
      rw [foldl_take _ _ hc]
      exact ⟨_, rfl⟩
    rintro τ st ⟨rfl, o3, rfl⟩
    refine ⟨trivial, ?_⟩
    have e1 : us.take (us.map PV.int).length = us := List.take_of_length_le (by simp)
    rw [e1, mn_up]
    simp_all only [ss_nil]
    (first | rw [Nx_eq] | rw [Arm_eq] | skip); (try simp_all only [ss_nil])
    (first | rw [Nx_eq] | rw [Arm_eq] | skip); (try simp_all only [ss_nil])
    refine for_at (fun i τ st' => st' = st ∧ ∃ o3 : Option PV, τ = [some (.lst (us.map .int)), some (.lst (ls.map .int)), some (codV (mnC us)), o3, some (codV ((ls.take i).foldl (fun acc c => tightC (some c) acc) none)), none, none, none, none]) ?_ ?_ ⟨rfl, _, rfl⟩
    · rintro i v τ st' hi ⟨rfl, o3, rfl⟩
      obtain ⟨c, rfl, hc⟩ := get_int hi
      refine ⟨trivial, ?_⟩
      unfold b__law_many_2
      simp_all only [ss_nil]
      refine callS_of ⟨some c, _, rfl, rfl, ?_⟩
      simp_all only [ss_nil]
      (first | rw [Nx_eq] | rw [Arm_eq] | skip); (try simp_all only [ss_nil])
      rw [foldl_take (fun acc c => tightC (some c) acc) _ hc]
      exact ⟨_, rfl⟩
    rintro τ st' ⟨rfl, o3, rfl⟩
    refine ⟨trivial, ?_⟩
    have e2 : ls.take (ls.map PV.int).length = ls := List.take_of_length_le (by simp)
    rw [e2, mn_low]
    simp_all only [ss_nil]
    (first | rw [Nx_eq] | rw [Arm_eq] | skip); (try simp_all only [ss_nil])
    (first | rw [Nx_eq] | rw [Arm_eq] | skip); (try simp_all only [ss_nil])
    -- which two fall
    refine for_at (fun i τ st => st = st' ∧ ∃ o3 o8 : Option PV, τ = [some (.lst (us.map .int)), some (.lst (ls.map .int)), some (codV (mnC us)), o3, some (codV (mnC ls)), some (.bl (clash (us.take i) ls)), none, none, o8]) ?_ ?_ ⟨rfl, _, _, rfl⟩
    · rintro i v τ st hi ⟨rfl, o3, o8, rfl⟩
      obtain ⟨c, rfl, hc⟩ := get_int hi
      refine ⟨trivial, ?_⟩
      unfold b__law_many_3
      simp_all only [ss_nil]
      have bound : clash (us.take (i + 1)) ls = (clash (us.take i) ls || ls.any fun b => btwC (some c) (some b)) := any_take (fun a => ls.any fun b => btwC (some a) (some b)) hc
      refine for_at (fun j τ st' => st' = st ∧ ∃ o8 : Option PV, τ = [some (.lst (us.map .int)), some (.lst (ls.map .int)), some (codV (mnC us)), some (.int c), some (codV (mnC ls)), some (.bl (clash (us.take i) ls || (ls.take j).any fun b => btwC (some c) (some b))), none, none, o8]) ?_ ?_ ⟨rfl, o8, by simp⟩
      · rintro j v τ st' hj ⟨rfl, o8, rfl⟩
        obtain ⟨d, rfl, hd⟩ := get_int hj
        refine ⟨trivial, ?_⟩
        unfold b__law_many_4
        rw [any_take (fun b => btwC (some c) (some b)) hd, ← Bool.or_assoc]
        cases hcl : (clash (us.take i) ls || (ls.take j).any fun b => btwC (some c) (some b)) with
        | true =>
          simp_all only [ss_nil]
          (first | rw [Nx_eq] | rw [Arm_eq] | skip); (try simp_all only [ss_nil])
          exact ⟨_, by rw [Bool.true_or]⟩
        | false =>
          simp_all only [ss_nil]
          refine callS_of ⟨some c, some d, rfl, rfl, cbu c (mem_ix' hc), cbl d (mem_ix' hd), fun hf => ?_, fun hf n m r _ _ _ => ?_⟩
          · simp_all only [ss_nil]
            (first | rw [Nx_eq] | rw [Arm_eq] | skip); (try simp_all only [ss_nil])
            exact ⟨_, by rw [hf]; rfl⟩
          · simp_all only [ss_nil]
            (first | rw [Nx_eq] | rw [Arm_eq] | skip); (try simp_all only [ss_nil])
            exact ⟨_, by rw [hf]; rfl⟩
      · rintro τ st' ⟨rfl, o8, rfl⟩
        refine ⟨trivial, ?_⟩
        have e3 : ls.take (ls.map PV.int).length = ls := e2
        rw [e3, ← bound]
        simp_all only [ss_nil]
        exact ⟨rfl, _, _, rfl⟩
    rintro τ st ⟨rfl, o3, o8, rfl⟩
    refine ⟨trivial, ?_⟩
    rw [e1, clash_mn]
    simp_all only [ss_nil]
    (first | rw [Nx_eq] | rw [Arm_eq] | skip); (try simp_all only [ss_nil])
    refine callS_of ⟨mnC us, mnC ls, rfl, rfl, ?_⟩
    simp_all only [ss_nil]
    refine callS_of ⟨_, rfl, ?_⟩
    have eb : fallC (joinC (mnC us) (mnC ls)) = btwC (mnC us) (mnC ls) := rfl
    rw [eb]
    cases hb : btwC (mnC us) (mnC ls) with
    | true =>
      simp_all only [ss_nil]
      (first | rw [Nx_eq] | rw [Arm_eq] | skip); (try simp_all only [ss_nil])
      (first | rw [Nx_eq] | rw [Arm_eq] | skip); (try simp_all only [ss_nil])
      (first | rw [Nx_eq] | rw [Arm_eq] | skip); (try simp_all only [ss_nil])
      exact ⟨st, .rfl, h⟩
    | false =>
      have cb : ∀ {us : List Int}, (∀ c ∈ us, CB (some c)) → CB (mnC us) := fun {us} hh => by
        cases e : mnC us with
        | none => exact fun z e => (nomatch e)
        | some m => exact hh m (mn_some e).1
      simp_all only [ss_nil]
      (first | rw [Nx_eq] | rw [Arm_eq] | skip); (try simp_all only [ss_nil])
      (first | rw [Nx_eq] | rw [Arm_eq] | skip); (try simp_all only [ss_nil])
      (first | rw [Nx_eq] | rw [Arm_eq] | skip); (try simp_all only [ss_nil])
      (first | rw [Nx_eq] | rw [Arm_eq] | skip); (try simp_all only [ss_nil, ints_of, List.length_map])
      refine two_mn (C := fun vs => callS sp__law_between vs st _ _) ?_
      refine callS_of ⟨mnC us, mnC ls, rfl, rfl, cb cbu, cb cbl, fun hf => (by rw [hb] at hf; cases hf), fun _ n d r fr l1 l2 => ?_⟩
      simp_all only [ss_nil]
      (first | rw [Nx_eq] | rw [Arm_eq] | skip); (try simp_all only [ss_nil])
      (first | rw [Nx_eq] | rw [Arm_eq] | skip); (try simp_all only [ss_nil])
      (first | rw [Nx_eq] | rw [Arm_eq] | skip); (try simp_all only [ss_nil])
      have up : ∀ c ∈ us, letsC (some c) r = true := fun c hc => by
        cases e : mnC us with
        | none => rw [mn_none e] at hc; cases hc
        | some m => rw [e] at l1; exact lets_le ((mn_some e).2 c hc) l1
      have lo : ∀ c ∈ ls, letsC (some c) (-r) = true := fun c hc => by
        cases e : mnC ls with
        | none => rw [mn_none e] at hc; cases hc
        | some m => rw [e] at l2; exact lets_le ((mn_some e).2 c hc) l2
      refine lc_map (fun _ => .bl true) _ (fun τ1 st' Q q => by simp_all only [ss_nil]; exact q) (fun v hv => ⟨_, rfl, fun st' sub K hk => ?_⟩) ?_
      · obtain ⟨c, hc, rfl⟩ := List.mem_map.mp hv
        simp_all only [ss_nil]
        refine callS_of ⟨some c, r, rfl, (cbu c hc).big, fr.mono (by decide), ?_⟩
        rw [up c hc]
        exact hk
      simp_all only [ss_nil]
      refine lc_map (fun _ => .bl true) _ (fun τ1 st' Q q => by simp_all only [ss_nil]; exact q) (fun v hv => ⟨_, rfl, fun st' sub K hk => ?_⟩) ?_
      · obtain ⟨c, hc, rfl⟩ := List.mem_map.mp hv
        simp_all only [ss_nil]
        refine callS_of ⟨_, _, fr, fun w hw => ?_⟩
        simp_all only [ss_nil]
        refine callS_of ⟨some c, -r, rfl, (cbl c hc).big, hw.mono (by decide), ?_⟩
        rw [lo c hc]
        exact hk
      simp_all only [ss_nil]
      have sz : 1000 ≤ sizeLine := by decide
      refine ⟨by simp only [List.length_map]; omega, ?_⟩
      (first | rw [Nx_eq] | rw [Arm_eq] | skip); (try simp_all only [ss_nil])
      refine ⟨by simp only [List.length_map]; omega, ?_⟩
      refine lc_map (fun _ => .bl true) _ (fun τ1 st' Q q => by simp_all only [ss_nil]; exact q) (fun v hv => ⟨_, rfl, fun st' sub K hk => ?_⟩) ?_
      · simp_all only [ss_nil]
        exact hk
      simp_all only [ss_nil]
      have ee : List.map (fun x => PV.bl true) (List.map PV.int us) ++ List.map (fun x => PV.bl true) (List.map PV.int ls) = List.replicate (us.length + ls.length) (.bl true) := by
        rw [map_true, map_true, List.length_map, List.length_map, List.replicate_append_replicate]
      refine callS_of ⟨by rw [← List.map_append], rfl, ?_, st, .rfl, h⟩
      rw [ee]
      exact trues_ok hlen
  · exact h.elim
end TK

set_option maxRecDepth 100000
set_option maxHeartbeats 4000000
namespace TK
open PySem PySem.Spec PyProof.Rows L2
def sp__law_codes : PSpec
  | [.ref p], st, Q, _ => st p = some .pool ∧ ∀ cs : List Int, 2 ≤ cs.length → cs.length ≤ 8 → (∀ c ∈ cs, c.natAbs < 2 ^ 180) → Q (.lst (cs.map .int)) st
  | _, _, _, _ => False
def b__law_codes_1 : Ss :=
  (.cons (.asg (.name 3) (.call "_law_draw" sp__law_draw (.cons (.var 0) (.cons (.int 4) .nil)))) (.cons (.ite (.bools .And (.cons (.cmp .Gt (.var 2) (.int 0)) (.cons (.cmp .Eq (.var 3) (.int 0)) .nil))) (.cons (.expr (.meth .append (.var 1) (.cons (.bin .Sub false (.bin .Add false (.idx (.var 1) (.bin .Sub false (.var 2) (.int 1))) (.call "_law_draw" sp__law_draw (.cons (.var 0) (.cons (.int 7) .nil)))) (.int 3)) .nil))) .nil) (.cons (.ite (.bools .And (.cons (.cmp .Gt (.var 2) (.int 0)) (.cons (.cmp .Eq (.var 3) (.int 1)) .nil))) (.cons (.expr (.meth .append (.var 1) (.cons (.bin .Sub false (.bin .Sub false (.call "_law_draw" sp__law_draw (.cons (.var 0) (.cons (.int 7) .nil))) (.int 2)) (.idx (.var 1) (.bin .Sub false (.var 2) (.int 1)))) .nil))) .nil) (.cons (.expr (.meth .append (.var 1) (.cons (.bin .Add false (.bin .Mult false (.int 2) (.call "_law_number" sp__law_number (.cons (.var 0) .nil))) (.call "_law_draw" sp__law_draw (.cons (.var 0) (.cons (.int 2) .nil)))) .nil))) .nil)) .nil)) .nil))
def b__law_codes : Ss :=
  (.cons (.asg (.name 1) (.lst true .nil)) (.cons (.loop (.name 2) (.range1 (.bin .Add false (.int 2) (.call "_law_draw" sp__law_draw (.cons (.var 0) (.cons (.int 7) .nil))))) b__law_codes_1) (.cons (.ret (.fvar 1)) .nil)))
def n__law_codes : List Str := ["pool", "told", "k", "way"]
theorem w__law_codes : ∀ vs s Q X, vs.length = 1 → sp__law_codes vs s Q X → wpFn n__law_codes.length b__law_codes vs s Q X := by
  intro vs s Q X hl h
  unfold sp__law_codes at h
  split at h
  · rename_i p
    rw [fn_eq]
    unfold b__law_codes n__law_codes
    obtain ⟨hp, h⟩ := h
    simp_all only [ss_nil]
    refine ⟨by decide, fun q hq => ?_⟩
    have pq : p ≠ q := fun e => by rw [← e, hp] at hq; cases hq
    have hpu : ∀ c, up s q c p = some .pool := fun c => by rw [up_ne pq]; exact hp
    (first | rw [Nx_eq] | rw [Arm_eq] | skip); (try simp_all only [ss_nil])
    refine callS_of ⟨hpu _, .of (by decide), fun m m0 m1 _ => ?_⟩
    have m1 := m1 (by decide)
    simp_all only [ss_nil]
    refine ⟨by unfold R62; omega, ?_⟩
    refine for_at (fun i τ st => ∃ (cs : List Int) (o o2 : Option PV), st = up s q (some (.lst (cs.map .int))) ∧ τ = [some (.ref p), some (.ref q), o, o2] ∧ cs.length = i ∧ ∀ c ∈ cs, c.natAbs ≤ 2 * 10 ^ 40 + 1 + 4 * i) ?_ ?_ ⟨[], none, none, rfl, rfl, rfl, fun _ h => (nomatch h)⟩
    · rintro i v τ st hi ⟨cs, o, o2, rfl, rfl, hlen, hb⟩
      have hi' : i < (2 + m).toNat ∧ v = .int (0 + (i : Int)) := by
        have hx := List.getElem?_eq_some_iff.mp hi
        obtain ⟨h1, h2⟩ := hx
        simp only [rngL, List.length_map, List.length_range] at h1
        simp only [rngL, List.getElem_map, List.getElem_range] at h2
        exact ⟨h1, h2.symm⟩
      obtain ⟨i1, rfl⟩ := hi'
      rw [Int.zero_add]
      refine ⟨trivial, ?_⟩
      have sz : 1000 ≤ sizeLine := by decide
      have len8 : cs.length < sizeLine := by omega
      unfold b__law_codes_1
      simp_all only [ss_nil]
      refine callS_of ⟨hpu _, .of (by decide), fun way way0 way1 _ => ?_⟩
      simp_all only [ss_nil]
      -- one more code
      have app : ∀ (z : Int) (D : PEnds) (τ : Sl), z.natAbs ≤ 2 * 10 ^ 40 + 1 + 4 * (i + 1) → τ = [some (.ref p), some (.ref q), some (.int i), some (.int way)] → (∀ τ' st', (∃ (cs : List Int) (o o2 : Option PV), st' = up s q (some (.lst (cs.map .int))) ∧ τ' = [some (.ref p), some (.ref q), o, o2] ∧ cs.length = i + 1 ∧ ∀ c ∈ cs, c.natAbs ≤ 2 * 10 ^ 40 + 1 + 4 * (i + 1)) → D.nx τ' st') →
          methV .append (.ref q) [.int z] (up s q (some (.lst (cs.map .int)))) (KExpr τ D) := by
        rintro z D τ hz rfl hD
        simp_all only [ss_nil, List.length_map]
        refine ⟨by omega, ?_⟩
        refine hD _ _ ⟨cs ++ [z], _, _, ?_, rfl, by rw [List.length_append, hlen]; rfl, fun c hc => ?_⟩
        · rw [up_up, List.map_append]; rfl
        · rcases List.mem_append.mp hc with hc | hc
          · have := hb c hc; omega
          · rw [List.mem_singleton.mp hc]; exact hz
      have prev : 0 < (i : Int) → ∃ c : Int, atI (cs.map PV.int) ((i : Int) - 1) = some (.int c) ∧ c.natAbs ≤ 2 * 10 ^ 40 + 1 + 4 * i := fun h0 =>
        ⟨_, atI_int (by omega) (by omega), hb _ (List.getElem_mem _)⟩
      have fresh : ∀ (D : PEnds), (∀ τ' st', (∃ (cs : List Int) (o o2 : Option PV), st' = up s q (some (.lst (cs.map .int))) ∧ τ' = [some (.ref p), some (.ref q), o, o2] ∧ cs.length = i + 1 ∧ ∀ c ∈ cs, c.natAbs ≤ 2 * 10 ^ 40 + 1 + 4 * (i + 1)) → D.nx τ' st') →
          Arm (.cons (.expr (.meth .append (.var 1) (.cons (.bin .Add false (.bin .Mult false (.int 2) (.call "_law_number" sp__law_number (.cons (.var 0) .nil))) (.call "_law_draw" sp__law_draw (.cons (.var 0) (.cons (.int 2) .nil)))) .nil))) .nil)
            D [some (.ref p), some (.ref q), some (.int i), some (.int way)] (up s q (some (.lst (cs.map .int)))) := by
        intro D hD
        (first | rw [Nx_eq] | rw [Arm_eq] | skip); (try simp_all only [ss_nil])
        refine callS_of ⟨hpu _, fun r r0 r1 => ?_⟩
        simp_all only [ss_nil]
        refine ⟨CMul.ok (by unfold CMul; omega), callS_of ⟨hpu _, .of (by decide), fun u u0 u1 _ => ?_⟩⟩
        have u1 := u1 (by decide)
        simp only [KBin2, KEs1, KEs2, KMe2, es_nil, binV]
        exact app _ _ _ (by omega) rfl fun τ' st' h => hD _ _ h
      (first | rw [Nx_eq] | rw [Arm_eq] | skip); (try simp_all only [ss_nil])
      split
      · rename_i h0
        obtain ⟨c, ei, hc⟩ := prev h0
        split
        · (first | rw [Nx_eq] | rw [Arm_eq] | skip); (try simp_all only [ss_nil, ei])
          refine callS_of ⟨hpu _, .of (by decide), fun w w0 w1 _ => ?_⟩
          have w1 := w1 (by decide)
          simp only [KBin2, KBin1, e_int, KEs1, KEs2, KMe2, es_nil, binV]
          exact app _ _ _ (by omega) rfl fun τ' st' h => h
        · (first | rw [Nx_eq] | rw [Arm_eq] | skip); (try simp_all only [ss_nil, h0])
          split
          · (first | rw [Nx_eq] | rw [Arm_eq] | skip); (try simp_all only [ss_nil, ei])
            refine callS_of ⟨hpu _, .of (by decide), fun w w0 w1 _ => ?_⟩
            have w1 := w1 (by decide)
            simp_all only [ss_nil, List.length_map, ei]
            refine ⟨len8, cs ++ [w - 2 - c], _, _, ?_, rfl, by rw [List.length_append, hlen]; rfl, fun d hd => ?_⟩
            · rw [up_up, List.map_append]; rfl
            · rcases List.mem_append.mp hd with hd | hd
              · have := hb d hd; omega
              · rw [List.mem_singleton.mp hd]; omega
          · exact fresh _ fun τ' st' h => h
      · rename_i h0
        (first | rw [Nx_eq] | rw [Arm_eq] | skip); (try simp_all only [ss_nil, h0])
        exact fresh _ fun τ' st' h => h
    · rintro τ st ⟨cs, o, o2, rfl, rfl, hlen, hb⟩
      refine ⟨trivial, ?_⟩
      have hr : (rngL 0 (2 + m).toNat).length = (2 + m).toNat := by
        simp only [rngL, List.length_map, List.length_range]
      rw [hr] at hlen hb
      simp_all only [ss_nil]
      (first | rw [Nx_eq] | rw [Arm_eq] | skip); (try simp_all only [ss_nil, up_up])
      rw [up_id hq]
      exact ⟨s, .rfl, h cs (by omega) (by omega) fun c hc => by
        have := hb c hc
        have e2 : 2 * 10 ^ 40 + 1 + 4 * 40 < 2 ^ 180 := by decide
        omega⟩
  · exact h.elim
end TK

set_option maxRecDepth 100000
set_option maxHeartbeats 4000000
namespace TK
open PySem PySem.Spec PyProof.Rows L2
theorem VS.app {xs ys : List PV} (h : VS xs) (k : VS ys) : VS (xs ++ ys) := fun v hv => (List.mem_append.mp hv).elim (h v) (k v)
theorem VS.take {xs : List PV} (n : Nat) (h : VS xs) : VS (xs.take n) := fun v hv => h v (List.mem_of_mem_take hv)
theorem atI_head {xs : List PV} (h : xs ≠ []) : ∃ v, atI xs 0 = some v ∧ v ∈ xs := by
  cases xs with
  | nil => exact absurd rfl h
  | cons x r => exact ⟨x, atI_0, List.mem_cons_self⟩
def b_law_4 : Ss :=
  (.cons (.ite (.not (.val (.call "_law_pair" sp__law_pair (.cons (.var 7) (.cons (.var 9) (.cons (.var 5) .nil)))))) (.cons (.ret (.bl false)) .nil) .nil) .nil)
def b_law_3 : Ss :=
  (.cons (.loop (.name 9) (.val (.bin .Add false (.slice false (.var 3) .no (.yes (.int 5))) (.lst false (.cons .non .nil)))) b_law_4) .nil)
def b_law_2 : Ss :=
  (.cons (.ite (.bools .Or (.cons (.not (.val (.call "_law_parted" sp__law_parted (.cons (.var 6) .nil)))) (.cons (.not (.val (.call "_law_opposite" sp__law_opposite (.cons (.var 6) (.cons (.bin .Add false (.var 5) (.call "_law_near" sp__law_near (.cons (.var 6) (.cons (.var 4) (.cons (.tup (.cons (.neg (.var 2)) (.cons (.int 1) .nil))) .nil))))) .nil))))) .nil))) (.cons (.ret (.bl false)) .nil) .nil) .nil)
def b_law_1 : Ss :=
  (.cons (.asg (.name 5) (.bin .Add false (.var 5) (.slice false (.call "_law_near" sp__law_near (.cons (.var 6) (.cons (.var 4) (.cons (.idx (.var 5) (.int 0)) .nil)))) .no (.yes (.int 3))))) .nil)
def b_law : Ss :=
  (.cons (.asg (.name 1) (.call "_law_pool" sp__law_pool (.cons (.var 0) .nil))) (.cons (.asg (.name 2) (.call "_law_number" sp__law_number (.cons (.var 1) .nil))) (.cons (.ite (.bools .Or (.cons (.not (.val (.call "_law_same" sp__law_same (.cons (.call "at_most" sp_at_most (.cons (.var 2) .nil)) (.cons (.bin .Add false (.bin .Mult false (.int 2) (.var 2)) (.int 1)) .nil))))) (.cons (.not (.val (.call "_law_same" sp__law_same (.cons (.call "below" sp_below (.cons (.var 2) .nil)) (.cons (.bin .Mult false (.int 2) (.var 2)) .nil))))) .nil))) (.cons (.ret (.bl false)) .nil) .nil) (.cons (.asg (.name 3) (.call "_law_codes" sp__law_codes (.cons (.var 1) .nil))) (.cons (.asg (.name 4) (.bin .Add false (.int 2) (.call "_law_pick" sp__law_pick (.cons (.var 1) (.cons (.lst false (.cons (.int 0) (.cons (.int 1) (.cons (.call "_law_draw" sp__law_draw (.cons (.var 1) (.cons (.int 100) .nil))) (.cons (.call "_law_wide" sp__law_wide (.cons (.var 1) .nil)) .nil))))) .nil))))) (.cons (.asg (.name 5) (.lst false (.cons (.call "_law_ratio" sp__law_ratio (.cons (.call "_law_number" sp__law_number (.cons (.var 1) .nil)) (.cons (.bin .Add false (.int 1) (.call "_law_draw" sp__law_draw (.cons (.var 1) (.cons (.int 12) .nil)))) .nil))) .nil))) (.cons (.loop (.name 6) (.val (.var 3)) b_law_1) (.cons (.loop (.name 6) (.val (.var 3)) b_law_2) (.cons (.loop (.name 7) (.val (.bin .Add false (.slice false (.var 3) .no (.yes (.int 5))) (.lst false (.cons .non .nil)))) b_law_3) (.cons (.asg (.name 8) (.call "_law_draw" sp__law_draw (.cons (.var 1) (.cons (.bin .Add false (.blt .len false (.cons (.var 3) .nil)) (.int 1)) .nil)))) (.cons (.ret (.bools .And (.cons (.call "_law_many" sp__law_many (.cons (.slice false (.var 3) .no (.yes (.var 8))) (.cons (.slice false (.var 3) (.yes (.var 8)) .no) .nil))) (.cons (.call "_law_many" sp__law_many (.cons (.slice false (.var 3) (.yes (.var 8)) .no) (.cons (.slice false (.var 3) .no (.yes (.var 8))) .nil))) (.cons (.call "_law_parted" sp__law_parted (.cons (.idx (.var 3) (.int 0)) .nil)) .nil))))) .nil)))))))))))
def n_law : List Str := ["script", "pool", "number", "codes", "part", "values", "code", "a", "at", "b"]
theorem w_law : ∀ vs s Q X, vs.length = 1 → lawSp vs s Q X → wpFn n_law.length b_law vs s Q X := by
  rintro vs s Q X hl ⟨ns, rfl, hns, h⟩
  rw [fn_eq]
  unfold b_law n_law
  simp_all only [ss_nil]
  refine callS_of fun p hp0 => ?_
  have hp : up s p (some .pool) p = some .pool := up_same
  revert hp
  generalize up s p (some .pool) = s1
  intro hp
  simp_all only [ss_nil]
  (first | rw [Nx_eq] | rw [Arm_eq] | skip); (try simp_all only [ss_nil])
  refine callS_of ⟨hp, fun number nu0 nu1 => ?_⟩
  have small : ∀ z : Int, z.natAbs ≤ 10 ^ 50 → z.natAbs < 2 ^ 180 := fun z hz => Nat.lt_of_le_of_lt hz (by decide)
  simp_all only [ss_nil]
  (first | rw [Nx_eq] | rw [Arm_eq] | skip); (try simp_all only [ss_nil])
  refine callS_of ?_
  simp_all only [ss_nil, sp_at_most]
  refine ⟨CMul.ok (by unfold CMul; omega), callS_of ⟨rfl, rfl, int_show (Nat.lt_of_lt_of_le (small _ (by omega)) (pow2_le (by decide))), ?_⟩⟩
  simp_all only [ss_nil]
  refine callS_of ?_
  simp_all only [ss_nil, sp_below]
  refine ⟨CMul.ok (by unfold CMul; omega), callS_of ⟨rfl, rfl, int_show (Nat.lt_of_lt_of_le (small _ (by omega)) (pow2_le (by decide))), ?_⟩⟩
  simp_all only [ss_nil]
  (first | rw [Nx_eq] | rw [Arm_eq] | skip); (try simp_all only [ss_nil])
  (first | rw [Nx_eq] | rw [Arm_eq] | skip); (try simp_all only [ss_nil])
  refine callS_of ⟨hp, fun cs h2 h8 hcs => ?_⟩
  simp_all only [ss_nil]
  (first | rw [Nx_eq] | rw [Arm_eq] | skip); (try simp_all only [ss_nil])
  refine callS_of ⟨hp, .of (by decide), fun a a0 a1 _ => ?_⟩
  have a1 := a1 (by decide)
  simp_all only [ss_nil]
  refine callS_of ⟨hp, fun w w0 w1 => ?_⟩
  simp_all only [ss_nil]
  refine ⟨by decide, callS_of ⟨hp, by simp, (show (4 : Nat) ≤ 10 ^ 9 by decide), fun i v hv => ?_⟩⟩
  have hv' : ∃ n : Int, v = .int n ∧ 0 ≤ n ∧ n ≤ 10 ^ 40 := by
    have := mem_ix' hv
    simp only [List.mem_cons, List.not_mem_nil, or_false] at this
    rcases this with e | e | e | e
    · exact ⟨_, e, by decide, by decide⟩
    · exact ⟨_, e, by decide, by decide⟩
    · exact ⟨_, e, a0, by omega⟩
    · exact ⟨_, e, w0, by omega⟩
  obtain ⟨n, rfl, n0, n1⟩ := hv'
  simp_all only [ss_nil]
  have hp0 : 0 < 2 + n := by omega
  have hpb : (2 + n).natAbs < 2 ^ 200 := Nat.lt_of_lt_of_le (small _ (by omega)) (pow2_le (by decide))
  revert hp0 hpb
  generalize 2 + n = part
  intro hp0 hpb
  (first | rw [Nx_eq] | rw [Arm_eq] | skip); (try simp_all only [ss_nil])
  refine callS_of ⟨hp, fun num1 m0 m1 => ?_⟩
  simp_all only [ss_nil]
  refine callS_of ⟨hp, .of (by decide), fun d1 d0 d1' _ => ?_⟩
  have d1' := d1' (by decide)
  simp_all only [ss_nil]
  refine callS_of ⟨by omega, .of (by omega), ?_⟩
  have b1 : Bd 1000 (Rat.divInt num1 (1 + d1)) := .of_divInt (by omega) (Nat.lt_of_lt_of_le (small _ (by omega)) (pow2_le (by decide))) (Nat.lt_of_lt_of_le (small _ (by omega)) (pow2_le (by decide)))
  simp_all only [ss_nil]
  refine ⟨by decide, ?_⟩
  (first | rw [Nx_eq] | rw [Arm_eq] | skip); (try simp_all only [ss_nil])
  (first | rw [Nx_eq] | rw [Arm_eq] | skip); (try simp_all only [ss_nil])
  refine for_at (fun i τ st => st = s1 ∧ ∃ (xs : List PV) (o6 : Option PV), τ = [some (.scr ns), some (.ref p), some (.int number), some (.lst (cs.map .int)), some (.int part), some (.lst xs), o6, none, none, none] ∧ VS xs ∧ xs ≠ [] ∧ xs.length = 1 + 3 * i) ?_ ?_ ⟨rfl, _, _, rfl, ?_, by simp, rfl⟩
  · rintro i v τ st hi ⟨rfl, xs, o6, rfl, hxs, hne, hlen⟩
    obtain ⟨c, rfl, hc⟩ := get_int hi
    have hi8 : i < 8 := by
      have := (List.getElem?_eq_some_iff.mp hc).1; omega
    obtain ⟨v0, e0, hv0⟩ := atI_head hne
    refine ⟨trivial, ?_⟩
    unfold b_law_1
    simp_all only [ss_nil, e0]
    refine callS_of ⟨hcs c (mem_ix' hc), hp0, hpb, hxs v0 hv0, fun ys hy7 hys => ?_⟩
    simp_all only [ss_nil, cut_to (show (0 : Int) ≤ 3 by decide)]
    have sz : 1000 ≤ sizeLine := by decide
    refine ⟨by rw [List.length_take]; omega, ?_⟩
    (first | rw [Nx_eq] | rw [Arm_eq] | skip); (try simp_all only [ss_nil])
    exact ⟨_, _, rfl, hxs.app (hys.take _), by simp [hne], by rw [List.length_append, List.length_take, hy7, hlen]; simp; omega⟩
  · rintro τ st ⟨rfl, xs, o6, rfl, hxs, hne, hlen⟩
    refine ⟨trivial, ?_⟩
    rw [List.length_map] at hlen
    simp_all only [ss_nil]
    (first | rw [Nx_eq] | rw [Arm_eq] | skip); (try simp_all only [ss_nil])
    have sz : 1000 ≤ sizeLine := by decide
    refine for_at (fun i τ st' => st' = st ∧ ∃ (o6 : Option PV), τ = [some (.scr ns), some (.ref p), some (.int number), some (.lst (cs.map .int)), some (.int part), some (.lst xs), o6, none, none, none]) ?_ ?_ ⟨rfl, _, rfl⟩
    · rintro i v τ st' hi ⟨rfl, o6, rfl⟩
      obtain ⟨c, rfl, hc⟩ := get_int hi
      have hcc := hcs c (mem_ix' hc)
      refine ⟨trivial, ?_⟩
      unfold b_law_2
      simp_all only [ss_nil]
      refine callS_of ⟨Nat.lt_of_lt_of_le hcc (pow2_le (by decide)), ?_⟩
      simp_all only [ss_nil]
      have hnum : Fr 1000 (.tup [.int (-number), .int 1]) ((-number : Int) : Rat) := fr_int (Nat.lt_of_lt_of_le (small _ (by omega)) (pow2_le (by decide)))
      refine ⟨by decide, callS_of ⟨hcc, hp0, hpb, ⟨_, hnum⟩, fun ys hy7 hys => ?_⟩⟩
      simp_all only [ss_nil]
      refine ⟨by omega, callS_of ⟨hcc, hxs.app hys, ?_⟩⟩
      simp_all only [ss_nil]
      (first | rw [Nx_eq] | rw [Arm_eq] | skip); (try simp_all only [ss_nil])
      (first | rw [Nx_eq] | rw [Arm_eq] | skip); (try simp_all only [ss_nil])
      exact ⟨_, rfl⟩
    · rintro τ st' ⟨rfl, o6, rfl⟩
      refine ⟨trivial, ?_⟩
      have hnl : ∃ zs : List (Option Int), List.take 5 (cs.map PV.int) ++ [PV.non] = zs.map codV ∧ zs.length ≤ 9 ∧ ∀ x ∈ zs, CB x := by
        refine ⟨(cs.take 5).map some ++ [none], ?_, ?_, fun x hx => ?_⟩
        · rw [List.map_append, List.map_map, ← List.map_take]; rfl
        · rw [List.length_append, List.length_map, List.length_take]; simp; omega
        · rcases List.mem_append.mp hx with hx | hx
          · obtain ⟨c, hc, rfl⟩ := List.mem_map.mp hx
            exact fun z e => by cases e; exact hcs _ (List.mem_of_mem_take hc)
          · rw [List.mem_singleton.mp hx]; exact fun z e => (nomatch e)
      obtain ⟨zs, ez, hz9, hzs⟩ := hnl
      simp_all only [ss_nil]
      (first | rw [Nx_eq] | rw [Arm_eq] | skip); (try simp_all only [ss_nil, cut_to (show (0 : Int) ≤ 5 by decide)])
      refine ⟨by decide, by rw [List.length_take, List.length_map]; omega, ?_⟩
      rw [ez]
      refine for_at (fun i τ st => st = st' ∧ ∃ (o6 o7 o9 : Option PV), τ = [some (.scr ns), some (.ref p), some (.int number), some (.lst (cs.map .int)), some (.int part), some (.lst xs), o6, o7, none, o9]) ?_ ?_ ⟨rfl, _, _, _, rfl⟩
      · rintro i v τ st hi ⟨rfl, o6, o7, o9, rfl⟩
        obtain ⟨x, hx, rfl⟩ := List.mem_map.mp (mem_ix' hi)
        refine ⟨trivial, ?_⟩
        unfold b_law_3
        simp_all only [ss_nil, cut_to (show (0 : Int) ≤ 5 by decide)]
        refine ⟨by decide, by rw [List.length_take, List.length_map]; omega, ?_⟩
        rw [ez]
        refine for_at (fun i τ st' => st' = st ∧ ∃ (o9 : Option PV), τ = [some (.scr ns), some (.ref p), some (.int number), some (.lst (cs.map .int)), some (.int part), some (.lst xs), o6, some (codV x), none, o9]) ?_ ?_ ⟨rfl, _, rfl⟩
        · rintro i v τ st' hi ⟨rfl, o9, rfl⟩
          obtain ⟨y, hy, rfl⟩ := List.mem_map.mp (mem_ix' hi)
          refine ⟨trivial, ?_⟩
          unfold b_law_4
          simp_all only [ss_nil]
          refine callS_of ⟨x, y, rfl, rfl, hzs x hx, hzs y hy, hxs, ?_⟩
          simp_all only [ss_nil]
          (first | rw [Nx_eq] | rw [Arm_eq] | skip); (try simp_all only [ss_nil])
          (first | rw [Nx_eq] | rw [Arm_eq] | skip); (try simp_all only [ss_nil])
          exact ⟨_, rfl⟩
        · rintro τ st' ⟨rfl, o9, rfl⟩
          refine ⟨trivial, ?_⟩
          simp_all only [ss_nil]
          (first | rw [Nx_eq] | rw [Arm_eq] | skip); (try simp_all only [ss_nil])
          exact ⟨_, _, _, rfl⟩
      · rintro τ st ⟨rfl, o6, o7, o9, rfl⟩
        refine ⟨trivial, ?_⟩
        simp_all only [ss_nil]
        (first | rw [Nx_eq] | rw [Arm_eq] | skip); (try simp_all only [ss_nil, List.length_map])
        refine callS_of ⟨hp, .of (by omega), fun u u0 u1 _ => ?_⟩
        simp_all only [ss_nil]
        (first | rw [Nx_eq] | rw [Arm_eq] | skip); (try simp_all only [ss_nil, cut_to u0, cut_from u0])
        have tk : ∀ c ∈ cs.take u.toNat, c.natAbs < 2 ^ 180 := fun c hc => hcs c (List.mem_of_mem_take hc)
        have dr : ∀ c ∈ cs.drop u.toNat, c.natAbs < 2 ^ 180 := fun c hc => hcs c (List.mem_of_mem_drop hc)
        refine callS_of ⟨cs.take u.toNat, cs.drop u.toNat, List.map_take.symm, List.map_drop.symm, by rw [List.length_take, List.length_drop]; omega, tk, dr, ?_⟩
        simp_all only [ss_nil, cut_to u0, cut_from u0]
        refine callS_of ⟨cs.drop u.toNat, cs.take u.toNat, List.map_drop.symm, List.map_take.symm, by rw [List.length_take, List.length_drop]; omega, dr, tk, ?_⟩
        match cs, h2, hcs with
        | c :: r, _, hcs =>
          simp_all only [ss_nil]
          refine callS_of ⟨Nat.lt_of_lt_of_le (hcs c List.mem_cons_self) (pow2_le (by decide)), ?_⟩
          exact ⟨st, .rfl, h st⟩
  · intro v hv
    rw [List.mem_singleton.mp hv]
    exact ⟨_, b1.fr⟩
end TK

namespace TK
open PySem PySem.Spec PyProof.Rows L2
/-! ### the linked text: its defs -/
def topS (i : Nat) : Stmt := PySem.Challenge.pw_tickless_k04_codes_turn_and_allow.main.body.getD i (.Pass ⟨0, 0, 0, 0⟩)
abbrev s_at_most : Stmt := topS 1
theorem sc_at_most : FnScope n_at_most ["n"] (defScope s_at_most) := ⟨rfl, rfl, rfl, by decide +kernel, rfl, by decide +kernel, by decide +kernel⟩
theorem ck_at_most : chkSs b_at_most ⟨n_at_most, defScope s_at_most, defScope s_at_most⟩ (defBody s_at_most) = true := by decide +kernel
abbrev s_below : Stmt := topS 2
theorem sc_below : FnScope n_below ["n"] (defScope s_below) := ⟨rfl, rfl, rfl, by decide +kernel, rfl, by decide +kernel, by decide +kernel⟩
theorem ck_below : chkSs b_below ⟨n_below, defScope s_below, defScope s_below⟩ (defBody s_below) = true := by decide +kernel
abbrev s_number_of : Stmt := topS 3
theorem sc_number_of : FnScope n_number_of ["code"] (defScope s_number_of) := ⟨rfl, rfl, rfl, by decide +kernel, rfl, by decide +kernel, by decide +kernel⟩
theorem ck_number_of : chkSs b_number_of ⟨n_number_of, defScope s_number_of, defScope s_number_of⟩ (defBody s_number_of) = true := by decide +kernel
abbrev s_has_end : Stmt := topS 4
theorem sc_has_end : FnScope n_has_end ["code"] (defScope s_has_end) := ⟨rfl, rfl, rfl, by decide +kernel, rfl, by decide +kernel, by decide +kernel⟩
theorem ck_has_end : chkSs b_has_end ⟨n_has_end, defScope s_has_end, defScope s_has_end⟩ (defBody s_has_end) = true := by decide +kernel
abbrev s_joined_code : Stmt := topS 5
theorem sc_joined_code : FnScope n_joined_code ["a", "b"] (defScope s_joined_code) := ⟨rfl, rfl, rfl, by decide +kernel, rfl, by decide +kernel, by decide +kernel⟩
theorem ck_joined_code : chkSs b_joined_code ⟨n_joined_code, defScope s_joined_code, defScope s_joined_code⟩ (defBody s_joined_code) = true := by decide +kernel
abbrev s_tighter : Stmt := topS 6
theorem sc_tighter : FnScope n_tighter ["a", "b"] (defScope s_tighter) := ⟨rfl, rfl, rfl, by decide +kernel, rfl, by decide +kernel, by decide +kernel⟩
theorem ck_tighter : chkSs b_tighter ⟨n_tighter, defScope s_tighter, defScope s_tighter⟩ (defBody s_tighter) = true := by decide +kernel
abbrev s_is_tight : Stmt := topS 7
theorem sc_is_tight : FnScope n_is_tight ["a", "b"] (defScope s_is_tight) := ⟨rfl, rfl, rfl, by decide +kernel, rfl, by decide +kernel, by decide +kernel⟩
theorem ck_is_tight : chkSs b_is_tight ⟨n_is_tight, defScope s_is_tight, defScope s_is_tight⟩ (defBody s_is_tight) = true := by decide +kernel
abbrev s_against : Stmt := topS 8
theorem sc_against : FnScope n_against ["code"] (defScope s_against) := ⟨rfl, rfl, rfl, by decide +kernel, rfl, by decide +kernel, by decide +kernel⟩
theorem ck_against : chkSs b_against ⟨n_against, defScope s_against, defScope s_against⟩ (defBody s_against) = true := by decide +kernel
abbrev s_allows : Stmt := topS 9
theorem sc_allows : FnScope n_allows ["code", "value"] (defScope s_allows) := ⟨rfl, rfl, rfl, by decide +kernel, rfl, by decide +kernel, by decide +kernel⟩
theorem ck_allows : chkSs b_allows ⟨n_allows, defScope s_allows, defScope s_allows⟩ (defBody s_allows) = true := by decide +kernel
abbrev s__law_pool : Stmt := topS 11
theorem sc__law_pool : FnScope n__law_pool ["script"] (defScope s__law_pool) := ⟨rfl, rfl, rfl, by decide +kernel, rfl, by decide +kernel, by decide +kernel⟩
theorem ck__law_pool : chkSs b__law_pool ⟨n__law_pool, defScope s__law_pool, defScope s__law_pool⟩ (defBody s__law_pool) = true := by decide +kernel
abbrev s__law_mix : Stmt := topS 12
theorem sc__law_mix : FnScope n__law_mix ["pool"] (defScope s__law_mix) := ⟨rfl, rfl, rfl, by decide +kernel, rfl, by decide +kernel, by decide +kernel⟩
theorem ck__law_mix : chkSs b__law_mix ⟨n__law_mix, defScope s__law_mix, defScope s__law_mix⟩ (defBody s__law_mix) = true := by decide +kernel
abbrev s__law_draw : Stmt := topS 13
theorem sc__law_draw : FnScope n__law_draw ["pool", "many"] (defScope s__law_draw) := ⟨rfl, rfl, rfl, by decide +kernel, rfl, by decide +kernel, by decide +kernel⟩
theorem ck__law_draw : chkSs b__law_draw ⟨n__law_draw, defScope s__law_draw, defScope s__law_draw⟩ (defBody s__law_draw) = true := by decide +kernel
abbrev s__law_pick : Stmt := topS 14
theorem sc__law_pick : FnScope n__law_pick ["pool", "menu"] (defScope s__law_pick) := ⟨rfl, rfl, rfl, by decide +kernel, rfl, by decide +kernel, by decide +kernel⟩
theorem ck__law_pick : chkSs b__law_pick ⟨n__law_pick, defScope s__law_pick, defScope s__law_pick⟩ (defBody s__law_pick) = true := by decide +kernel
abbrev s__law_int : Stmt := topS 15
theorem sc__law_int : FnScope n__law_int ["value"] (defScope s__law_int) := ⟨rfl, rfl, rfl, by decide +kernel, rfl, by decide +kernel, by decide +kernel⟩
theorem ck__law_int : chkSs b__law_int ⟨n__law_int, defScope s__law_int, defScope s__law_int⟩ (defBody s__law_int) = true := by decide +kernel
abbrev s__law_same : Stmt := topS 16
theorem sc__law_same : FnScope n__law_same ["value", "due"] (defScope s__law_same) := ⟨rfl, rfl, rfl, by decide +kernel, rfl, by decide +kernel, by decide +kernel⟩
theorem ck__law_same : chkSs b__law_same ⟨n__law_same, defScope s__law_same, defScope s__law_same⟩ (defBody s__law_same) = true := by decide +kernel
abbrev s__law_gcd : Stmt := topS 17
theorem sc__law_gcd : FnScope n__law_gcd ["a", "b"] (defScope s__law_gcd) := ⟨rfl, rfl, rfl, by decide +kernel, rfl, by decide +kernel, by decide +kernel⟩
theorem ck__law_gcd : chkSs b__law_gcd ⟨n__law_gcd, defScope s__law_gcd, defScope s__law_gcd⟩ (defBody s__law_gcd) = true := by decide +kernel
abbrev s__law_ratio : Stmt := topS 18
theorem sc__law_ratio : FnScope n__law_ratio ["n", "d"] (defScope s__law_ratio) := ⟨rfl, rfl, rfl, by decide +kernel, rfl, by decide +kernel, by decide +kernel⟩
theorem ck__law_ratio : chkSs b__law_ratio ⟨n__law_ratio, defScope s__law_ratio, defScope s__law_ratio⟩ (defBody s__law_ratio) = true := by decide +kernel
abbrev s__law_wide : Stmt := topS 19
theorem sc__law_wide : FnScope n__law_wide ["pool"] (defScope s__law_wide) := ⟨rfl, rfl, rfl, by decide +kernel, rfl, by decide +kernel, by decide +kernel⟩
theorem ck__law_wide : chkSs b__law_wide ⟨n__law_wide, defScope s__law_wide, defScope s__law_wide⟩ (defBody s__law_wide) = true := by decide +kernel
abbrev s__law_number : Stmt := topS 20
theorem sc__law_number : FnScope n__law_number ["pool"] (defScope s__law_number) := ⟨rfl, rfl, rfl, by decide +kernel, rfl, by decide +kernel, by decide +kernel⟩
theorem ck__law_number : chkSs b__law_number ⟨n__law_number, defScope s__law_number, defScope s__law_number⟩ (defBody s__law_number) = true := by decide +kernel
abbrev s__law_codes : Stmt := topS 21
theorem sc__law_codes : FnScope n__law_codes ["pool"] (defScope s__law_codes) := ⟨rfl, rfl, rfl, by decide +kernel, rfl, by decide +kernel, by decide +kernel⟩
theorem ck__law_codes : chkSs b__law_codes ⟨n__law_codes, defScope s__law_codes, defScope s__law_codes⟩ (defBody s__law_codes) = true := by decide +kernel
abbrev s__law_lets : Stmt := topS 22
theorem sc__law_lets : FnScope n__law_lets ["code", "value"] (defScope s__law_lets) := ⟨rfl, rfl, rfl, by decide +kernel, rfl, by decide +kernel, by decide +kernel⟩
theorem ck__law_lets : chkSs b__law_lets ⟨n__law_lets, defScope s__law_lets, defScope s__law_lets⟩ (defBody s__law_lets) = true := by decide +kernel
abbrev s__law_turned : Stmt := topS 23
theorem sc__law_turned : FnScope n__law_turned ["value"] (defScope s__law_turned) := ⟨rfl, rfl, rfl, by decide +kernel, rfl, by decide +kernel, by decide +kernel⟩
theorem ck__law_turned : chkSs b__law_turned ⟨n__law_turned, defScope s__law_turned, defScope s__law_turned⟩ (defBody s__law_turned) = true := by decide +kernel
abbrev s__law_parted : Stmt := topS 24
theorem sc__law_parted : FnScope n__law_parted ["code"] (defScope s__law_parted) := ⟨rfl, rfl, rfl, by decide +kernel, rfl, by decide +kernel, by decide +kernel⟩
theorem ck__law_parted : chkSs b__law_parted ⟨n__law_parted, defScope s__law_parted, defScope s__law_parted⟩ (defBody s__law_parted) = true := by decide +kernel
abbrev s__law_near : Stmt := topS 25
theorem sc__law_near : FnScope n__law_near ["code", "part", "other"] (defScope s__law_near) := ⟨rfl, rfl, rfl, by decide +kernel, rfl, by decide +kernel, by decide +kernel⟩
theorem ck__law_near : chkSs b__law_near ⟨n__law_near, defScope s__law_near, defScope s__law_near⟩ (defBody s__law_near) = true := by decide +kernel
abbrev s__law_opposite : Stmt := topS 26
theorem sc__law_opposite : FnScope n__law_opposite ["code", "values"] (defScope s__law_opposite) := ⟨rfl, rfl, rfl, by decide +kernel, rfl, by decide +kernel, by decide +kernel⟩
theorem ck__law_opposite : chkSs b__law_opposite ⟨n__law_opposite, defScope s__law_opposite, defScope s__law_opposite⟩ (defBody s__law_opposite) = true := by decide +kernel
abbrev s__law_between : Stmt := topS 27
theorem sc__law_between : FnScope n__law_between ["a", "b"] (defScope s__law_between) := ⟨rfl, rfl, rfl, by decide +kernel, rfl, by decide +kernel, by decide +kernel⟩
theorem ck__law_between : chkSs b__law_between ⟨n__law_between, defScope s__law_between, defScope s__law_between⟩ (defBody s__law_between) = true := by decide +kernel
abbrev s__law_falls : Stmt := topS 28
theorem sc__law_falls : FnScope n__law_falls ["code"] (defScope s__law_falls) := ⟨rfl, rfl, rfl, by decide +kernel, rfl, by decide +kernel, by decide +kernel⟩
theorem ck__law_falls : chkSs b__law_falls ⟨n__law_falls, defScope s__law_falls, defScope s__law_falls⟩ (defBody s__law_falls) = true := by decide +kernel
abbrev s__law_pair : Stmt := topS 29
theorem sc__law_pair : FnScope n__law_pair ["a", "b", "values"] (defScope s__law_pair) := ⟨rfl, rfl, rfl, by decide +kernel, rfl, by decide +kernel, by decide +kernel⟩
theorem ck__law_pair : chkSs b__law_pair ⟨n__law_pair, defScope s__law_pair, defScope s__law_pair⟩ (defBody s__law_pair) = true := by decide +kernel
abbrev s__law_many : Stmt := topS 30
theorem sc__law_many : FnScope n__law_many ["uppers", "lowers"] (defScope s__law_many) := ⟨rfl, rfl, rfl, by decide +kernel, rfl, by decide +kernel, by decide +kernel⟩
theorem ck__law_many : chkSs b__law_many ⟨n__law_many, defScope s__law_many, defScope s__law_many⟩ (defBody s__law_many) = true := by decide +kernel
abbrev s_law : Stmt := topS 31
theorem sc_law : FnScope n_law ["script"] (defScope s_law) := ⟨rfl, rfl, rfl, by decide +kernel, rfl, by decide +kernel, by decide +kernel⟩
theorem ck_law : chkSs b_law ⟨n_law, defScope s_law, defScope s_law⟩ (defBody s_law) = true := by decide +kernel
/-- a def behind the top -/
def Known (K : PySem.W.Frag) (mg : Str → Option Value) (x : Str) (st : Stmt) (ps : List Str) : Prop := ∃ f fd, L2.Fun K x x st f fd ∧ mg x = some (.ref f) ∧ Binds K fd ps []
structure Facts (K : PySem.W.Frag) (mg : Str → Option Value) : Prop where
  blt : ∀ x ∈ bltNames, mg x = none
  f_at_most : Known K mg "at_most" s_at_most ["n"]
  f_below : Known K mg "below" s_below ["n"]
  f_number_of : Known K mg "number_of" s_number_of ["code"]
  f_has_end : Known K mg "has_end" s_has_end ["code"]
  f_joined_code : Known K mg "joined_code" s_joined_code ["a", "b"]
  f_tighter : Known K mg "tighter" s_tighter ["a", "b"]
  f_is_tight : Known K mg "is_tight" s_is_tight ["a", "b"]
  f_against : Known K mg "against" s_against ["code"]
  f_allows : Known K mg "allows" s_allows ["code", "value"]
  f__law_pool : Known K mg "_law_pool" s__law_pool ["script"]
  f__law_mix : Known K mg "_law_mix" s__law_mix ["pool"]
  f__law_draw : Known K mg "_law_draw" s__law_draw ["pool", "many"]
  f__law_pick : Known K mg "_law_pick" s__law_pick ["pool", "menu"]
  f__law_int : Known K mg "_law_int" s__law_int ["value"]
  f__law_same : Known K mg "_law_same" s__law_same ["value", "due"]
  f__law_gcd : Known K mg "_law_gcd" s__law_gcd ["a", "b"]
  f__law_ratio : Known K mg "_law_ratio" s__law_ratio ["n", "d"]
  f__law_wide : Known K mg "_law_wide" s__law_wide ["pool"]
  f__law_number : Known K mg "_law_number" s__law_number ["pool"]
  f__law_codes : Known K mg "_law_codes" s__law_codes ["pool"]
  f__law_lets : Known K mg "_law_lets" s__law_lets ["code", "value"]
  f__law_turned : Known K mg "_law_turned" s__law_turned ["value"]
  f__law_parted : Known K mg "_law_parted" s__law_parted ["code"]
  f__law_near : Known K mg "_law_near" s__law_near ["code", "part", "other"]
  f__law_opposite : Known K mg "_law_opposite" s__law_opposite ["code", "values"]
  f__law_between : Known K mg "_law_between" s__law_between ["a", "b"]
  f__law_falls : Known K mg "_law_falls" s__law_falls ["code"]
  f__law_pair : Known K mg "_law_pair" s__law_pair ["a", "b", "values"]
  f__law_many : Known K mg "_law_many" s__law_many ["uppers", "lowers"]
section
variable {P : Program} {w : World} {K : PySem.W.Frag} {mg : Str → Option Value} {base : Heap}
theorem ok_at_most (L : Facts K mg) : HasFn (⟨P, w, K, mg, base⟩ : Wd) 1 "at_most" sp_at_most 1 := by
  obtain ⟨f, fd, F, hm, b⟩ := L.f_at_most
  exact hasFn_of (sp := sp_at_most) F hm b sc_at_most L.blt rfl ck_at_most (by simp only [b_at_most, needSs, needS, needE, needEs, needO, needT, needTs, needI, Es.len, Nat.zero_add, Nat.reduceAdd, and_true, true_and, and_self]) w_at_most
theorem ok_below (L : Facts K mg) : HasFn (⟨P, w, K, mg, base⟩ : Wd) 1 "below" sp_below 1 := by
  obtain ⟨f, fd, F, hm, b⟩ := L.f_below
  exact hasFn_of (sp := sp_below) F hm b sc_below L.blt rfl ck_below (by simp only [b_below, needSs, needS, needE, needEs, needO, needT, needTs, needI, Es.len, Nat.zero_add, Nat.reduceAdd, and_true, true_and, and_self]) w_below
theorem ok_number_of (L : Facts K mg) : HasFn (⟨P, w, K, mg, base⟩ : Wd) 1 "number_of" sp_number_of 1 := by
  obtain ⟨f, fd, F, hm, b⟩ := L.f_number_of
  exact hasFn_of (sp := sp_number_of) F hm b sc_number_of L.blt rfl ck_number_of (by simp only [b_number_of, needSs, needS, needE, needEs, needO, needT, needTs, needI, Es.len, Nat.zero_add, Nat.reduceAdd, and_true, true_and, and_self]) w_number_of
theorem ok_has_end (L : Facts K mg) : HasFn (⟨P, w, K, mg, base⟩ : Wd) 1 "has_end" sp_has_end 1 := by
  obtain ⟨f, fd, F, hm, b⟩ := L.f_has_end
  exact hasFn_of (sp := sp_has_end) F hm b sc_has_end L.blt rfl ck_has_end (by simp only [b_has_end, needSs, needS, needE, needEs, needO, needT, needTs, needI, Es.len, Nat.zero_add, Nat.reduceAdd, and_true, true_and, and_self]) w_has_end
theorem ok_joined_code (L : Facts K mg) : HasFn (⟨P, w, K, mg, base⟩ : Wd) 1 "joined_code" sp_joined_code 2 := by
  obtain ⟨f, fd, F, hm, b⟩ := L.f_joined_code
  exact hasFn_of (sp := sp_joined_code) F hm b sc_joined_code L.blt rfl ck_joined_code (by simp only [b_joined_code, needSs, needS, needE, needEs, needO, needT, needTs, needI, Es.len, Nat.zero_add, Nat.reduceAdd, and_true, true_and, and_self]) w_joined_code
theorem ok_tighter (L : Facts K mg) : HasFn (⟨P, w, K, mg, base⟩ : Wd) 1 "tighter" sp_tighter 2 := by
  obtain ⟨f, fd, F, hm, b⟩ := L.f_tighter
  exact hasFn_of (sp := sp_tighter) F hm b sc_tighter L.blt rfl ck_tighter (by simp only [b_tighter, needSs, needS, needE, needEs, needO, needT, needTs, needI, Es.len, Nat.zero_add, Nat.reduceAdd, and_true, true_and, and_self]) w_tighter
theorem ok_is_tight (L : Facts K mg) : HasFn (⟨P, w, K, mg, base⟩ : Wd) 1 "is_tight" sp_is_tight 2 := by
  obtain ⟨f, fd, F, hm, b⟩ := L.f_is_tight
  exact hasFn_of (sp := sp_is_tight) F hm b sc_is_tight L.blt rfl ck_is_tight (by simp only [b_is_tight, needSs, needS, needE, needEs, needO, needT, needTs, needI, Es.len, Nat.zero_add, Nat.reduceAdd, and_true, true_and, and_self]) w_is_tight
theorem ok_against (L : Facts K mg) : HasFn (⟨P, w, K, mg, base⟩ : Wd) 1 "against" sp_against 1 := by
  obtain ⟨f, fd, F, hm, b⟩ := L.f_against
  exact hasFn_of (sp := sp_against) F hm b sc_against L.blt rfl ck_against (by simp only [b_against, needSs, needS, needE, needEs, needO, needT, needTs, needI, Es.len, Nat.zero_add, Nat.reduceAdd, and_true, true_and, and_self]) w_against
theorem ok_allows (L : Facts K mg) : HasFn (⟨P, w, K, mg, base⟩ : Wd) 1 "allows" sp_allows 2 := by
  obtain ⟨f, fd, F, hm, b⟩ := L.f_allows
  exact hasFn_of (sp := sp_allows) F hm b sc_allows L.blt rfl ck_allows (by simp only [b_allows, needSs, needS, needE, needEs, needO, needT, needTs, needI, Es.len, Nat.zero_add, Nat.reduceAdd, and_true, true_and, and_self]) w_allows
theorem ok__law_pool (L : Facts K mg) : HasFn (⟨P, w, K, mg, base⟩ : Wd) 1 "_law_pool" sp__law_pool 1 := by
  obtain ⟨f, fd, F, hm, b⟩ := L.f__law_pool
  exact pool_view (hasFn_of (sp := sl__law_pool) F hm b sc__law_pool L.blt rfl ck__law_pool (by simp only [b__law_pool, needSs, needS, needE, needEs, needO, needT, needTs, needI, Es.len, Nat.zero_add, Nat.reduceAdd, and_true, true_and, and_self]) w__law_pool)
theorem ok__law_mix (L : Facts K mg) : HasFn (⟨P, w, K, mg, base⟩ : Wd) 1 "_law_mix" sp__law_mix 1 := by
  obtain ⟨f, fd, F, hm, b⟩ := L.f__law_mix
  exact hasFn_of (sp := sp__law_mix) F hm b sc__law_mix L.blt rfl ck__law_mix (by simp only [b__law_mix, needSs, needS, needE, needEs, needO, needT, needTs, needI, Es.len, Nat.zero_add, Nat.reduceAdd, and_true, true_and, and_self]) w__law_mix
theorem ok__law_int (L : Facts K mg) : HasFn (⟨P, w, K, mg, base⟩ : Wd) 1 "_law_int" sp__law_int 1 := by
  obtain ⟨f, fd, F, hm, b⟩ := L.f__law_int
  exact hasFn_of (sp := sp__law_int) F hm b sc__law_int L.blt rfl ck__law_int (by simp only [b__law_int, needSs, needS, needE, needEs, needO, needT, needTs, needI, Es.len, Nat.zero_add, Nat.reduceAdd, and_true, true_and, and_self]) w__law_int
theorem ok__law_same (L : Facts K mg) : HasFn (⟨P, w, K, mg, base⟩ : Wd) 1 "_law_same" sp__law_same 2 := by
  obtain ⟨f, fd, F, hm, b⟩ := L.f__law_same
  exact hasFn_of (sp := sp__law_same) F hm b sc__law_same L.blt rfl ck__law_same (by simp only [b__law_same, needSs, needS, needE, needEs, needO, needT, needTs, needI, Es.len, Nat.zero_add, Nat.reduceAdd, and_true, true_and, and_self]) w__law_same
theorem ok__law_gcd (L : Facts K mg) : HasFn (⟨P, w, K, mg, base⟩ : Wd) 1 "_law_gcd" sp__law_gcd 2 := by
  obtain ⟨f, fd, F, hm, b⟩ := L.f__law_gcd
  exact hasFn_of (sp := sp__law_gcd) F hm b sc__law_gcd L.blt rfl ck__law_gcd (by simp only [b__law_gcd, b__law_gcd_1, needSs, needS, needE, needEs, needO, needT, needTs, needI, Es.len, Nat.zero_add, Nat.reduceAdd, and_true, true_and, and_self]) w__law_gcd
theorem ok__law_lets (L : Facts K mg) : HasFn (⟨P, w, K, mg, base⟩ : Wd) 1 "_law_lets" sp__law_lets 2 := by
  obtain ⟨f, fd, F, hm, b⟩ := L.f__law_lets
  exact hasFn_of (sp := sp__law_lets) F hm b sc__law_lets L.blt rfl ck__law_lets (by simp only [b__law_lets, needSs, needS, needE, needEs, needO, needT, needTs, needI, Es.len, Nat.zero_add, Nat.reduceAdd, and_true, true_and, and_self]) w__law_lets
theorem ok__law_turned (L : Facts K mg) : HasFn (⟨P, w, K, mg, base⟩ : Wd) 1 "_law_turned" sp__law_turned 1 := by
  obtain ⟨f, fd, F, hm, b⟩ := L.f__law_turned
  exact hasFn_of (sp := sp__law_turned) F hm b sc__law_turned L.blt rfl ck__law_turned (by simp only [b__law_turned, needSs, needS, needE, needEs, needO, needT, needTs, needI, Es.len, Nat.zero_add, Nat.reduceAdd, and_true, true_and, and_self]) w__law_turned
theorem ok__law_near (L : Facts K mg) : HasFn (⟨P, w, K, mg, base⟩ : Wd) 1 "_law_near" sp__law_near 3 := by
  obtain ⟨f, fd, F, hm, b⟩ := L.f__law_near
  exact hasFn_of (sp := sp__law_near) F hm b sc__law_near L.blt rfl ck__law_near (by simp only [b__law_near, needSs, needS, needE, needEs, needO, needT, needTs, needI, Es.len, Nat.zero_add, Nat.reduceAdd, and_true, true_and, and_self]) w__law_near
theorem ok__law_draw (L : Facts K mg) : HasFn (⟨P, w, K, mg, base⟩ : Wd) 2 "_law_draw" sp__law_draw 2 := by
  obtain ⟨f, fd, F, hm, b⟩ := L.f__law_draw
  have h__law_mix := (ok__law_mix (P := P) (w := w) (base := base) L).mono (show 1 ≤ 1 by decide)
  exact draw_view (hasFn_of (sp := sl__law_draw) F hm b sc__law_draw L.blt rfl ck__law_draw (by simp only [b__law_draw, needSs, needS, needE, needEs, needO, needT, needTs, needI, Es.len, Nat.zero_add, Nat.reduceAdd, and_true, true_and, and_self, h__law_mix]) w__law_draw)
theorem ok__law_ratio (L : Facts K mg) : HasFn (⟨P, w, K, mg, base⟩ : Wd) 2 "_law_ratio" sp__law_ratio 2 := by
  obtain ⟨f, fd, F, hm, b⟩ := L.f__law_ratio
  have h__law_gcd := (ok__law_gcd (P := P) (w := w) (base := base) L).mono (show 1 ≤ 1 by decide)
  exact hasFn_of (sp := sp__law_ratio) F hm b sc__law_ratio L.blt rfl ck__law_ratio (by simp only [b__law_ratio, needSs, needS, needE, needEs, needO, needT, needTs, needI, Es.len, Nat.zero_add, Nat.reduceAdd, and_true, true_and, and_self, h__law_gcd]) w__law_ratio
theorem ok__law_parted (L : Facts K mg) : HasFn (⟨P, w, K, mg, base⟩ : Wd) 2 "_law_parted" sp__law_parted 1 := by
  obtain ⟨f, fd, F, hm, b⟩ := L.f__law_parted
  have h_number_of := (ok_number_of (P := P) (w := w) (base := base) L).mono (show 1 ≤ 1 by decide)
  have h__law_int := (ok__law_int (P := P) (w := w) (base := base) L).mono (show 1 ≤ 1 by decide)
  have h__law_same := (ok__law_same (P := P) (w := w) (base := base) L).mono (show 1 ≤ 1 by decide)
  have h_below := (ok_below (P := P) (w := w) (base := base) L).mono (show 1 ≤ 1 by decide)
  have h_has_end := (ok_has_end (P := P) (w := w) (base := base) L).mono (show 1 ≤ 1 by decide)
  have h_at_most := (ok_at_most (P := P) (w := w) (base := base) L).mono (show 1 ≤ 1 by decide)
  exact hasFn_of (sp := sp__law_parted) F hm b sc__law_parted L.blt rfl ck__law_parted (by simp only [b__law_parted, needSs, needS, needE, needEs, needO, needT, needTs, needI, Es.len, Nat.zero_add, Nat.reduceAdd, and_true, true_and, and_self, h_number_of, h__law_int, h__law_same, h_below, h_has_end, h_at_most]) w__law_parted
theorem ok__law_opposite (L : Facts K mg) : HasFn (⟨P, w, K, mg, base⟩ : Wd) 2 "_law_opposite" sp__law_opposite 2 := by
  obtain ⟨f, fd, F, hm, b⟩ := L.f__law_opposite
  have h_against := (ok_against (P := P) (w := w) (base := base) L).mono (show 1 ≤ 1 by decide)
  have h__law_same := (ok__law_same (P := P) (w := w) (base := base) L).mono (show 1 ≤ 1 by decide)
  have h__law_int := (ok__law_int (P := P) (w := w) (base := base) L).mono (show 1 ≤ 1 by decide)
  have h__law_lets := (ok__law_lets (P := P) (w := w) (base := base) L).mono (show 1 ≤ 1 by decide)
  have h_allows := (ok_allows (P := P) (w := w) (base := base) L).mono (show 1 ≤ 1 by decide)
  have h__law_turned := (ok__law_turned (P := P) (w := w) (base := base) L).mono (show 1 ≤ 1 by decide)
  exact hasFn_of (sp := sp__law_opposite) F hm b sc__law_opposite L.blt rfl ck__law_opposite (by simp only [b__law_opposite, b__law_opposite_1, needSs, needS, needE, needEs, needO, needT, needTs, needI, Es.len, Nat.zero_add, Nat.reduceAdd, and_true, true_and, and_self, h_against, h__law_same, h__law_int, h__law_lets, h_allows, h__law_turned]) w__law_opposite
theorem ok__law_falls (L : Facts K mg) : HasFn (⟨P, w, K, mg, base⟩ : Wd) 2 "_law_falls" sp__law_falls 1 := by
  obtain ⟨f, fd, F, hm, b⟩ := L.f__law_falls
  have h__law_int := (ok__law_int (P := P) (w := w) (base := base) L).mono (show 1 ≤ 1 by decide)
  have h__law_same := (ok__law_same (P := P) (w := w) (base := base) L).mono (show 1 ≤ 1 by decide)
  have h_is_tight := (ok_is_tight (P := P) (w := w) (base := base) L).mono (show 1 ≤ 1 by decide)
  have h_at_most := (ok_at_most (P := P) (w := w) (base := base) L).mono (show 1 ≤ 1 by decide)
  exact hasFn_of (sp := sp__law_falls) F hm b sc__law_falls L.blt rfl ck__law_falls (by simp only [b__law_falls, needSs, needS, needE, needEs, needO, needT, needTs, needI, Es.len, Nat.zero_add, Nat.reduceAdd, and_true, true_and, and_self, h__law_int, h__law_same, h_is_tight, h_at_most]) w__law_falls
theorem ok__law_pick (L : Facts K mg) : HasFn (⟨P, w, K, mg, base⟩ : Wd) 3 "_law_pick" sp__law_pick 2 := by
  obtain ⟨f, fd, F, hm, b⟩ := L.f__law_pick
  have h__law_draw := (ok__law_draw (P := P) (w := w) (base := base) L).mono (show 2 ≤ 2 by decide)
  exact hasFn_of (sp := sp__law_pick) F hm b sc__law_pick L.blt rfl ck__law_pick (by simp only [b__law_pick, needSs, needS, needE, needEs, needO, needT, needTs, needI, Es.len, Nat.zero_add, Nat.reduceAdd, and_true, true_and, and_self, h__law_draw]) w__law_pick
theorem ok__law_wide (L : Facts K mg) : HasFn (⟨P, w, K, mg, base⟩ : Wd) 3 "_law_wide" sp__law_wide 1 := by
  obtain ⟨f, fd, F, hm, b⟩ := L.f__law_wide
  have h__law_draw := (ok__law_draw (P := P) (w := w) (base := base) L).mono (show 2 ≤ 2 by decide)
  exact hasFn_of (sp := sp__law_wide) F hm b sc__law_wide L.blt rfl ck__law_wide (by simp only [b__law_wide, b__law_wide_1, needSs, needS, needE, needEs, needO, needT, needTs, needI, Es.len, Nat.zero_add, Nat.reduceAdd, and_true, true_and, and_self, h__law_draw]) w__law_wide
theorem ok__law_between (L : Facts K mg) : HasFn (⟨P, w, K, mg, base⟩ : Wd) 3 "_law_between" sp__law_between 2 := by
  obtain ⟨f, fd, F, hm, b⟩ := L.f__law_between
  have h__law_ratio := (ok__law_ratio (P := P) (w := w) (base := base) L).mono (show 2 ≤ 2 by decide)
  have h__law_lets := (ok__law_lets (P := P) (w := w) (base := base) L).mono (show 1 ≤ 2 by decide)
  have h__law_turned := (ok__law_turned (P := P) (w := w) (base := base) L).mono (show 1 ≤ 2 by decide)
  exact hasFn_of (sp := sp__law_between) F hm b sc__law_between L.blt rfl ck__law_between (by simp only [b__law_between, needSs, needS, needE, needEs, needO, needT, needTs, needI, Es.len, Nat.zero_add, Nat.reduceAdd, and_true, true_and, and_self, h__law_ratio, h__law_lets, h__law_turned]) w__law_between
theorem ok__law_number (L : Facts K mg) : HasFn (⟨P, w, K, mg, base⟩ : Wd) 4 "_law_number" sp__law_number 1 := by
  obtain ⟨f, fd, F, hm, b⟩ := L.f__law_number
  have h__law_draw := (ok__law_draw (P := P) (w := w) (base := base) L).mono (show 2 ≤ 3 by decide)
  have h__law_wide := (ok__law_wide (P := P) (w := w) (base := base) L).mono (show 3 ≤ 3 by decide)
  have h__law_pick := (ok__law_pick (P := P) (w := w) (base := base) L).mono (show 3 ≤ 3 by decide)
  exact hasFn_of (sp := sp__law_number) F hm b sc__law_number L.blt rfl ck__law_number (by simp only [b__law_number, needSs, needS, needE, needEs, needO, needT, needTs, needI, Es.len, Nat.zero_add, Nat.reduceAdd, and_true, true_and, and_self, h__law_draw, h__law_wide, h__law_pick]) w__law_number
theorem ok__law_pair (L : Facts K mg) : HasFn (⟨P, w, K, mg, base⟩ : Wd) 4 "_law_pair" sp__law_pair 3 := by
  obtain ⟨f, fd, F, hm, b⟩ := L.f__law_pair
  have h__law_between := (ok__law_between (P := P) (w := w) (base := base) L).mono (show 3 ≤ 3 by decide)
  have h__law_falls := (ok__law_falls (P := P) (w := w) (base := base) L).mono (show 2 ≤ 3 by decide)
  have h_joined_code := (ok_joined_code (P := P) (w := w) (base := base) L).mono (show 1 ≤ 3 by decide)
  have h__law_same := (ok__law_same (P := P) (w := w) (base := base) L).mono (show 1 ≤ 3 by decide)
  have h_allows := (ok_allows (P := P) (w := w) (base := base) L).mono (show 1 ≤ 3 by decide)
  have h__law_turned := (ok__law_turned (P := P) (w := w) (base := base) L).mono (show 1 ≤ 3 by decide)
  have h_is_tight := (ok_is_tight (P := P) (w := w) (base := base) L).mono (show 1 ≤ 3 by decide)
  have h_against := (ok_against (P := P) (w := w) (base := base) L).mono (show 1 ≤ 3 by decide)
  exact hasFn_of (sp := sp__law_pair) F hm b sc__law_pair L.blt rfl ck__law_pair (by simp only [b__law_pair, b__law_pair_1, needSs, needS, needE, needEs, needO, needT, needTs, needI, Es.len, Nat.zero_add, Nat.reduceAdd, and_true, true_and, and_self, h__law_between, h__law_falls, h_joined_code, h__law_same, h_allows, h__law_turned, h_is_tight, h_against]) w__law_pair
theorem ok__law_many (L : Facts K mg) : HasFn (⟨P, w, K, mg, base⟩ : Wd) 4 "_law_many" sp__law_many 2 := by
  obtain ⟨f, fd, F, hm, b⟩ := L.f__law_many
  have h_tighter := (ok_tighter (P := P) (w := w) (base := base) L).mono (show 1 ≤ 3 by decide)
  have h__law_between := (ok__law_between (P := P) (w := w) (base := base) L).mono (show 3 ≤ 3 by decide)
  have h__law_falls := (ok__law_falls (P := P) (w := w) (base := base) L).mono (show 2 ≤ 3 by decide)
  have h_joined_code := (ok_joined_code (P := P) (w := w) (base := base) L).mono (show 1 ≤ 3 by decide)
  have h_allows := (ok_allows (P := P) (w := w) (base := base) L).mono (show 1 ≤ 3 by decide)
  have h__law_turned := (ok__law_turned (P := P) (w := w) (base := base) L).mono (show 1 ≤ 3 by decide)
  have h__law_same := (ok__law_same (P := P) (w := w) (base := base) L).mono (show 1 ≤ 3 by decide)
  exact hasFn_of (sp := sp__law_many) F hm b sc__law_many L.blt rfl ck__law_many (by simp only [b__law_many, b__law_many_1, b__law_many_2, b__law_many_3, b__law_many_4, needSs, needS, needE, needEs, needO, needT, needTs, needI, Es.len, Nat.zero_add, Nat.reduceAdd, and_true, true_and, and_self, h_tighter, h__law_between, h__law_falls, h_joined_code, h_allows, h__law_turned, h__law_same]) w__law_many
theorem ok__law_codes (L : Facts K mg) : HasFn (⟨P, w, K, mg, base⟩ : Wd) 5 "_law_codes" sp__law_codes 1 := by
  obtain ⟨f, fd, F, hm, b⟩ := L.f__law_codes
  have h__law_draw := (ok__law_draw (P := P) (w := w) (base := base) L).mono (show 2 ≤ 4 by decide)
  have h__law_number := (ok__law_number (P := P) (w := w) (base := base) L).mono (show 4 ≤ 4 by decide)
  exact hasFn_of (sp := sp__law_codes) F hm b sc__law_codes L.blt rfl ck__law_codes (by simp only [b__law_codes, b__law_codes_1, needSs, needS, needE, needEs, needO, needT, needTs, needI, Es.len, Nat.zero_add, Nat.reduceAdd, and_true, true_and, and_self, h__law_draw, h__law_number]) w__law_codes
theorem ok_law (L : Facts K mg) {f : Addr} {fd : FuncData} (F : L2.Fun K "law" "law" s_law f fd) : FnG P w K mg base 6 f fd ["script"] (liftSp K mg 1 lawSp) := by
  have h__law_pool := (ok__law_pool (P := P) (w := w) (base := base) L).mono (show 1 ≤ 5 by decide)
  have h__law_number := (ok__law_number (P := P) (w := w) (base := base) L).mono (show 4 ≤ 5 by decide)
  have h__law_same := (ok__law_same (P := P) (w := w) (base := base) L).mono (show 1 ≤ 5 by decide)
  have h_below := (ok_below (P := P) (w := w) (base := base) L).mono (show 1 ≤ 5 by decide)
  have h_at_most := (ok_at_most (P := P) (w := w) (base := base) L).mono (show 1 ≤ 5 by decide)
  have h__law_codes := (ok__law_codes (P := P) (w := w) (base := base) L).mono (show 5 ≤ 5 by decide)
  have h__law_pick := (ok__law_pick (P := P) (w := w) (base := base) L).mono (show 3 ≤ 5 by decide)
  have h__law_wide := (ok__law_wide (P := P) (w := w) (base := base) L).mono (show 3 ≤ 5 by decide)
  have h__law_draw := (ok__law_draw (P := P) (w := w) (base := base) L).mono (show 2 ≤ 5 by decide)
  have h__law_ratio := (ok__law_ratio (P := P) (w := w) (base := base) L).mono (show 2 ≤ 5 by decide)
  have h__law_near := (ok__law_near (P := P) (w := w) (base := base) L).mono (show 1 ≤ 5 by decide)
  have h__law_opposite := (ok__law_opposite (P := P) (w := w) (base := base) L).mono (show 2 ≤ 5 by decide)
  have h__law_parted := (ok__law_parted (P := P) (w := w) (base := base) L).mono (show 2 ≤ 5 by decide)
  have h__law_pair := (ok__law_pair (P := P) (w := w) (base := base) L).mono (show 4 ≤ 5 by decide)
  have h__law_many := (ok__law_many (P := P) (w := w) (base := base) L).mono (show 4 ≤ 5 by decide)
  exact fnG_of F sc_law L.blt rfl ck_law (by simp only [b_law, b_law_1, b_law_2, b_law_3, b_law_4, needSs, needS, needE, needEs, needO, needT, needTs, needI, Es.len, Nat.zero_add, Nat.reduceAdd, and_true, true_and, and_self, h__law_pool, h__law_number, h__law_same, h_below, h_at_most, h__law_codes, h__law_pick, h__law_wide, h__law_draw, h__law_ratio, h__law_near, h__law_opposite, h__law_parted, h__law_pair, h__law_many]) w_law
end
theorem all_mk {l : PySem.W.OpenLaw} {w : World} {K : PySem.W.Frag} {h : Heap} {mg : Str → Option Value} {fa : Addr} (X : K.In h) (G : h.Ns mainGlobals mg) (hfa : mg "law" = some (.ref fa))
    {f0 : Addr} {od0 an0 : Option Addr} {sl0 : Array (Option Value)} {oc0 kV0 dc0 pm0 cd0 ct0 : Value}
    {f1 : Addr} {od1 an1 : Option Addr} {sl1 : Array (Option Value)} {oc1 kV1 dc1 pm1 cd1 ct1 : Value}
    {f2 : Addr} {od2 an2 : Option Addr} {sl2 : Array (Option Value)} {oc2 kV2 dc2 pm2 cd2 ct2 : Value}
    {f3 : Addr} {od3 an3 : Option Addr} {sl3 : Array (Option Value)} {oc3 kV3 dc3 pm3 cd3 ct3 : Value}
    {f4 : Addr} {od4 an4 : Option Addr} {sl4 : Array (Option Value)} {oc4 kV4 dc4 pm4 cd4 ct4 : Value}
    {f5 : Addr} {od5 an5 : Option Addr} {sl5 : Array (Option Value)} {oc5 kV5 dc5 pm5 cd5 ct5 : Value}
    {f6 : Addr} {od6 an6 : Option Addr} {sl6 : Array (Option Value)} {oc6 kV6 dc6 pm6 cd6 ct6 : Value}
    {f7 : Addr} {od7 an7 : Option Addr} {sl7 : Array (Option Value)} {oc7 kV7 dc7 pm7 cd7 ct7 : Value}
    {f8 : Addr} {od8 an8 : Option Addr} {sl8 : Array (Option Value)} {oc8 kV8 dc8 pm8 cd8 ct8 : Value}
    {f9 : Addr} {od9 an9 : Option Addr} {sl9 : Array (Option Value)} {oc9 kV9 dc9 pm9 cd9 ct9 : Value}
    {f10 : Addr} {od10 an10 : Option Addr} {sl10 : Array (Option Value)} {oc10 kV10 dc10 pm10 cd10 ct10 : Value}
    {f11 : Addr} {od11 an11 : Option Addr} {sl11 : Array (Option Value)} {oc11 kV11 dc11 pm11 cd11 ct11 : Value}
    {f12 : Addr} {od12 an12 : Option Addr} {sl12 : Array (Option Value)} {oc12 kV12 dc12 pm12 cd12 ct12 : Value}
    {f13 : Addr} {od13 an13 : Option Addr} {sl13 : Array (Option Value)} {oc13 kV13 dc13 pm13 cd13 ct13 : Value}
    {f14 : Addr} {od14 an14 : Option Addr} {sl14 : Array (Option Value)} {oc14 kV14 dc14 pm14 cd14 ct14 : Value}
    {f15 : Addr} {od15 an15 : Option Addr} {sl15 : Array (Option Value)} {oc15 kV15 dc15 pm15 cd15 ct15 : Value}
    {f16 : Addr} {od16 an16 : Option Addr} {sl16 : Array (Option Value)} {oc16 kV16 dc16 pm16 cd16 ct16 : Value}
    {f17 : Addr} {od17 an17 : Option Addr} {sl17 : Array (Option Value)} {oc17 kV17 dc17 pm17 cd17 ct17 : Value}
    {f18 : Addr} {od18 an18 : Option Addr} {sl18 : Array (Option Value)} {oc18 kV18 dc18 pm18 cd18 ct18 : Value}
    {f19 : Addr} {od19 an19 : Option Addr} {sl19 : Array (Option Value)} {oc19 kV19 dc19 pm19 cd19 ct19 : Value}
    {f20 : Addr} {od20 an20 : Option Addr} {sl20 : Array (Option Value)} {oc20 kV20 dc20 pm20 cd20 ct20 : Value}
    {f21 : Addr} {od21 an21 : Option Addr} {sl21 : Array (Option Value)} {oc21 kV21 dc21 pm21 cd21 ct21 : Value}
    {f22 : Addr} {od22 an22 : Option Addr} {sl22 : Array (Option Value)} {oc22 kV22 dc22 pm22 cd22 ct22 : Value}
    {f23 : Addr} {od23 an23 : Option Addr} {sl23 : Array (Option Value)} {oc23 kV23 dc23 pm23 cd23 ct23 : Value}
    {f24 : Addr} {od24 an24 : Option Addr} {sl24 : Array (Option Value)} {oc24 kV24 dc24 pm24 cd24 ct24 : Value}
    {f25 : Addr} {od25 an25 : Option Addr} {sl25 : Array (Option Value)} {oc25 kV25 dc25 pm25 cd25 ct25 : Value}
    {f26 : Addr} {od26 an26 : Option Addr} {sl26 : Array (Option Value)} {oc26 kV26 dc26 pm26 cd26 ct26 : Value}
    {f27 : Addr} {od27 an27 : Option Addr} {sl27 : Array (Option Value)} {oc27 kV27 dc27 pm27 cd27 ct27 : Value}
    {f28 : Addr} {od28 an28 : Option Addr} {sl28 : Array (Option Value)} {oc28 kV28 dc28 pm28 cd28 ct28 : Value}
    {f29 : Addr} {od29 an29 : Option Addr} {sl29 : Array (Option Value)} {oc29 kV29 dc29 pm29 cd29 ct29 : Value}
    (a0 : PySem.W.nsIn K mainGlobals "at_most" = some (some (.ref f0)))
    (l0 : K.lookup f0 = some ⟨oc0, od0, .func (PySem.W.fnOf "at_most" "at_most" (defArgs s_at_most) (defBody s_at_most) (defScope s_at_most) .none kV0 dc0 pm0 an0 cd0 ct0), sl0⟩)
    (c0 : PySem.W.codeIn K cd0 "at_most" = true)
    (k0 : PySem.W.keepIn K (.ref f0) = true)
    (a1 : PySem.W.nsIn K mainGlobals "below" = some (some (.ref f1)))
    (l1 : K.lookup f1 = some ⟨oc1, od1, .func (PySem.W.fnOf "below" "below" (defArgs s_below) (defBody s_below) (defScope s_below) .none kV1 dc1 pm1 an1 cd1 ct1), sl1⟩)
    (c1 : PySem.W.codeIn K cd1 "below" = true)
    (k1 : PySem.W.keepIn K (.ref f1) = true)
    (a2 : PySem.W.nsIn K mainGlobals "number_of" = some (some (.ref f2)))
    (l2 : K.lookup f2 = some ⟨oc2, od2, .func (PySem.W.fnOf "number_of" "number_of" (defArgs s_number_of) (defBody s_number_of) (defScope s_number_of) .none kV2 dc2 pm2 an2 cd2 ct2), sl2⟩)
    (c2 : PySem.W.codeIn K cd2 "number_of" = true)
    (k2 : PySem.W.keepIn K (.ref f2) = true)
    (a3 : PySem.W.nsIn K mainGlobals "has_end" = some (some (.ref f3)))
    (l3 : K.lookup f3 = some ⟨oc3, od3, .func (PySem.W.fnOf "has_end" "has_end" (defArgs s_has_end) (defBody s_has_end) (defScope s_has_end) .none kV3 dc3 pm3 an3 cd3 ct3), sl3⟩)
    (c3 : PySem.W.codeIn K cd3 "has_end" = true)
    (k3 : PySem.W.keepIn K (.ref f3) = true)
    (a4 : PySem.W.nsIn K mainGlobals "joined_code" = some (some (.ref f4)))
    (l4 : K.lookup f4 = some ⟨oc4, od4, .func (PySem.W.fnOf "joined_code" "joined_code" (defArgs s_joined_code) (defBody s_joined_code) (defScope s_joined_code) .none kV4 dc4 pm4 an4 cd4 ct4), sl4⟩)
    (c4 : PySem.W.codeIn K cd4 "joined_code" = true)
    (k4 : PySem.W.keepIn K (.ref f4) = true)
    (a5 : PySem.W.nsIn K mainGlobals "tighter" = some (some (.ref f5)))
    (l5 : K.lookup f5 = some ⟨oc5, od5, .func (PySem.W.fnOf "tighter" "tighter" (defArgs s_tighter) (defBody s_tighter) (defScope s_tighter) .none kV5 dc5 pm5 an5 cd5 ct5), sl5⟩)
    (c5 : PySem.W.codeIn K cd5 "tighter" = true)
    (k5 : PySem.W.keepIn K (.ref f5) = true)
    (a6 : PySem.W.nsIn K mainGlobals "is_tight" = some (some (.ref f6)))
    (l6 : K.lookup f6 = some ⟨oc6, od6, .func (PySem.W.fnOf "is_tight" "is_tight" (defArgs s_is_tight) (defBody s_is_tight) (defScope s_is_tight) .none kV6 dc6 pm6 an6 cd6 ct6), sl6⟩)
    (c6 : PySem.W.codeIn K cd6 "is_tight" = true)
    (k6 : PySem.W.keepIn K (.ref f6) = true)
    (a7 : PySem.W.nsIn K mainGlobals "against" = some (some (.ref f7)))
    (l7 : K.lookup f7 = some ⟨oc7, od7, .func (PySem.W.fnOf "against" "against" (defArgs s_against) (defBody s_against) (defScope s_against) .none kV7 dc7 pm7 an7 cd7 ct7), sl7⟩)
    (c7 : PySem.W.codeIn K cd7 "against" = true)
    (k7 : PySem.W.keepIn K (.ref f7) = true)
    (a8 : PySem.W.nsIn K mainGlobals "allows" = some (some (.ref f8)))
    (l8 : K.lookup f8 = some ⟨oc8, od8, .func (PySem.W.fnOf "allows" "allows" (defArgs s_allows) (defBody s_allows) (defScope s_allows) .none kV8 dc8 pm8 an8 cd8 ct8), sl8⟩)
    (c8 : PySem.W.codeIn K cd8 "allows" = true)
    (k8 : PySem.W.keepIn K (.ref f8) = true)
    (a9 : PySem.W.nsIn K mainGlobals "_law_pool" = some (some (.ref f9)))
    (l9 : K.lookup f9 = some ⟨oc9, od9, .func (PySem.W.fnOf "_law_pool" "_law_pool" (defArgs s__law_pool) (defBody s__law_pool) (defScope s__law_pool) .none kV9 dc9 pm9 an9 cd9 ct9), sl9⟩)
    (c9 : PySem.W.codeIn K cd9 "_law_pool" = true)
    (k9 : PySem.W.keepIn K (.ref f9) = true)
    (a10 : PySem.W.nsIn K mainGlobals "_law_mix" = some (some (.ref f10)))
    (l10 : K.lookup f10 = some ⟨oc10, od10, .func (PySem.W.fnOf "_law_mix" "_law_mix" (defArgs s__law_mix) (defBody s__law_mix) (defScope s__law_mix) .none kV10 dc10 pm10 an10 cd10 ct10), sl10⟩)
    (c10 : PySem.W.codeIn K cd10 "_law_mix" = true)
    (k10 : PySem.W.keepIn K (.ref f10) = true)
    (a11 : PySem.W.nsIn K mainGlobals "_law_draw" = some (some (.ref f11)))
    (l11 : K.lookup f11 = some ⟨oc11, od11, .func (PySem.W.fnOf "_law_draw" "_law_draw" (defArgs s__law_draw) (defBody s__law_draw) (defScope s__law_draw) .none kV11 dc11 pm11 an11 cd11 ct11), sl11⟩)
    (c11 : PySem.W.codeIn K cd11 "_law_draw" = true)
    (k11 : PySem.W.keepIn K (.ref f11) = true)
    (a12 : PySem.W.nsIn K mainGlobals "_law_pick" = some (some (.ref f12)))
    (l12 : K.lookup f12 = some ⟨oc12, od12, .func (PySem.W.fnOf "_law_pick" "_law_pick" (defArgs s__law_pick) (defBody s__law_pick) (defScope s__law_pick) .none kV12 dc12 pm12 an12 cd12 ct12), sl12⟩)
    (c12 : PySem.W.codeIn K cd12 "_law_pick" = true)
    (k12 : PySem.W.keepIn K (.ref f12) = true)
    (a13 : PySem.W.nsIn K mainGlobals "_law_int" = some (some (.ref f13)))
    (l13 : K.lookup f13 = some ⟨oc13, od13, .func (PySem.W.fnOf "_law_int" "_law_int" (defArgs s__law_int) (defBody s__law_int) (defScope s__law_int) .none kV13 dc13 pm13 an13 cd13 ct13), sl13⟩)
    (c13 : PySem.W.codeIn K cd13 "_law_int" = true)
    (k13 : PySem.W.keepIn K (.ref f13) = true)
    (a14 : PySem.W.nsIn K mainGlobals "_law_same" = some (some (.ref f14)))
    (l14 : K.lookup f14 = some ⟨oc14, od14, .func (PySem.W.fnOf "_law_same" "_law_same" (defArgs s__law_same) (defBody s__law_same) (defScope s__law_same) .none kV14 dc14 pm14 an14 cd14 ct14), sl14⟩)
    (c14 : PySem.W.codeIn K cd14 "_law_same" = true)
    (k14 : PySem.W.keepIn K (.ref f14) = true)
    (a15 : PySem.W.nsIn K mainGlobals "_law_gcd" = some (some (.ref f15)))
    (l15 : K.lookup f15 = some ⟨oc15, od15, .func (PySem.W.fnOf "_law_gcd" "_law_gcd" (defArgs s__law_gcd) (defBody s__law_gcd) (defScope s__law_gcd) .none kV15 dc15 pm15 an15 cd15 ct15), sl15⟩)
    (c15 : PySem.W.codeIn K cd15 "_law_gcd" = true)
    (k15 : PySem.W.keepIn K (.ref f15) = true)
    (a16 : PySem.W.nsIn K mainGlobals "_law_ratio" = some (some (.ref f16)))
    (l16 : K.lookup f16 = some ⟨oc16, od16, .func (PySem.W.fnOf "_law_ratio" "_law_ratio" (defArgs s__law_ratio) (defBody s__law_ratio) (defScope s__law_ratio) .none kV16 dc16 pm16 an16 cd16 ct16), sl16⟩)
    (c16 : PySem.W.codeIn K cd16 "_law_ratio" = true)
    (k16 : PySem.W.keepIn K (.ref f16) = true)
    (a17 : PySem.W.nsIn K mainGlobals "_law_wide" = some (some (.ref f17)))
    (l17 : K.lookup f17 = some ⟨oc17, od17, .func (PySem.W.fnOf "_law_wide" "_law_wide" (defArgs s__law_wide) (defBody s__law_wide) (defScope s__law_wide) .none kV17 dc17 pm17 an17 cd17 ct17), sl17⟩)
    (c17 : PySem.W.codeIn K cd17 "_law_wide" = true)
    (k17 : PySem.W.keepIn K (.ref f17) = true)
    (a18 : PySem.W.nsIn K mainGlobals "_law_number" = some (some (.ref f18)))
    (l18 : K.lookup f18 = some ⟨oc18, od18, .func (PySem.W.fnOf "_law_number" "_law_number" (defArgs s__law_number) (defBody s__law_number) (defScope s__law_number) .none kV18 dc18 pm18 an18 cd18 ct18), sl18⟩)
    (c18 : PySem.W.codeIn K cd18 "_law_number" = true)
    (k18 : PySem.W.keepIn K (.ref f18) = true)
    (a19 : PySem.W.nsIn K mainGlobals "_law_codes" = some (some (.ref f19)))
    (l19 : K.lookup f19 = some ⟨oc19, od19, .func (PySem.W.fnOf "_law_codes" "_law_codes" (defArgs s__law_codes) (defBody s__law_codes) (defScope s__law_codes) .none kV19 dc19 pm19 an19 cd19 ct19), sl19⟩)
    (c19 : PySem.W.codeIn K cd19 "_law_codes" = true)
    (k19 : PySem.W.keepIn K (.ref f19) = true)
    (a20 : PySem.W.nsIn K mainGlobals "_law_lets" = some (some (.ref f20)))
    (l20 : K.lookup f20 = some ⟨oc20, od20, .func (PySem.W.fnOf "_law_lets" "_law_lets" (defArgs s__law_lets) (defBody s__law_lets) (defScope s__law_lets) .none kV20 dc20 pm20 an20 cd20 ct20), sl20⟩)
    (c20 : PySem.W.codeIn K cd20 "_law_lets" = true)
    (k20 : PySem.W.keepIn K (.ref f20) = true)
    (a21 : PySem.W.nsIn K mainGlobals "_law_turned" = some (some (.ref f21)))
    (l21 : K.lookup f21 = some ⟨oc21, od21, .func (PySem.W.fnOf "_law_turned" "_law_turned" (defArgs s__law_turned) (defBody s__law_turned) (defScope s__law_turned) .none kV21 dc21 pm21 an21 cd21 ct21), sl21⟩)
    (c21 : PySem.W.codeIn K cd21 "_law_turned" = true)
    (k21 : PySem.W.keepIn K (.ref f21) = true)
    (a22 : PySem.W.nsIn K mainGlobals "_law_parted" = some (some (.ref f22)))
    (l22 : K.lookup f22 = some ⟨oc22, od22, .func (PySem.W.fnOf "_law_parted" "_law_parted" (defArgs s__law_parted) (defBody s__law_parted) (defScope s__law_parted) .none kV22 dc22 pm22 an22 cd22 ct22), sl22⟩)
    (c22 : PySem.W.codeIn K cd22 "_law_parted" = true)
    (k22 : PySem.W.keepIn K (.ref f22) = true)
    (a23 : PySem.W.nsIn K mainGlobals "_law_near" = some (some (.ref f23)))
    (l23 : K.lookup f23 = some ⟨oc23, od23, .func (PySem.W.fnOf "_law_near" "_law_near" (defArgs s__law_near) (defBody s__law_near) (defScope s__law_near) .none kV23 dc23 pm23 an23 cd23 ct23), sl23⟩)
    (c23 : PySem.W.codeIn K cd23 "_law_near" = true)
    (k23 : PySem.W.keepIn K (.ref f23) = true)
    (a24 : PySem.W.nsIn K mainGlobals "_law_opposite" = some (some (.ref f24)))
    (l24 : K.lookup f24 = some ⟨oc24, od24, .func (PySem.W.fnOf "_law_opposite" "_law_opposite" (defArgs s__law_opposite) (defBody s__law_opposite) (defScope s__law_opposite) .none kV24 dc24 pm24 an24 cd24 ct24), sl24⟩)
    (c24 : PySem.W.codeIn K cd24 "_law_opposite" = true)
    (k24 : PySem.W.keepIn K (.ref f24) = true)
    (a25 : PySem.W.nsIn K mainGlobals "_law_between" = some (some (.ref f25)))
    (l25 : K.lookup f25 = some ⟨oc25, od25, .func (PySem.W.fnOf "_law_between" "_law_between" (defArgs s__law_between) (defBody s__law_between) (defScope s__law_between) .none kV25 dc25 pm25 an25 cd25 ct25), sl25⟩)
    (c25 : PySem.W.codeIn K cd25 "_law_between" = true)
    (k25 : PySem.W.keepIn K (.ref f25) = true)
    (a26 : PySem.W.nsIn K mainGlobals "_law_falls" = some (some (.ref f26)))
    (l26 : K.lookup f26 = some ⟨oc26, od26, .func (PySem.W.fnOf "_law_falls" "_law_falls" (defArgs s__law_falls) (defBody s__law_falls) (defScope s__law_falls) .none kV26 dc26 pm26 an26 cd26 ct26), sl26⟩)
    (c26 : PySem.W.codeIn K cd26 "_law_falls" = true)
    (k26 : PySem.W.keepIn K (.ref f26) = true)
    (a27 : PySem.W.nsIn K mainGlobals "_law_pair" = some (some (.ref f27)))
    (l27 : K.lookup f27 = some ⟨oc27, od27, .func (PySem.W.fnOf "_law_pair" "_law_pair" (defArgs s__law_pair) (defBody s__law_pair) (defScope s__law_pair) .none kV27 dc27 pm27 an27 cd27 ct27), sl27⟩)
    (c27 : PySem.W.codeIn K cd27 "_law_pair" = true)
    (k27 : PySem.W.keepIn K (.ref f27) = true)
    (a28 : PySem.W.nsIn K mainGlobals "_law_many" = some (some (.ref f28)))
    (l28 : K.lookup f28 = some ⟨oc28, od28, .func (PySem.W.fnOf "_law_many" "_law_many" (defArgs s__law_many) (defBody s__law_many) (defScope s__law_many) .none kV28 dc28 pm28 an28 cd28 ct28), sl28⟩)
    (c28 : PySem.W.codeIn K cd28 "_law_many" = true)
    (k28 : PySem.W.keepIn K (.ref f28) = true)
    (a29 : PySem.W.nsIn K mainGlobals "law" = some (some (.ref f29)))
    (l29 : K.lookup f29 = some ⟨oc29, od29, .func (PySem.W.fnOf "law" "law" (defArgs s_law) (defBody s_law) (defScope s_law) .none kV29 dc29 pm29 an29 cd29 ct29), sl29⟩)
    (c29 : PySem.W.codeIn K cd29 "law" = true)
    (k29 : PySem.W.keepIn K (.ref f29) = true)
    (z0 : PySem.W.nsIn K mainGlobals "len" = some none)
    (z1 : PySem.W.nsIn K mainGlobals "int" = some none)
    (z2 : PySem.W.nsIn K mainGlobals "abs" = some none)
    (z3 : PySem.W.nsIn K mainGlobals "tuple" = some none)
    (z4 : PySem.W.nsIn K mainGlobals "list" = some none)
    (z5 : PySem.W.nsIn K mainGlobals "all" = some none)
    (z6 : PySem.W.nsIn K mainGlobals "any" = some none)
    (z7 : PySem.W.nsIn K mainGlobals "sum" = some none)
    (z8 : PySem.W.nsIn K mainGlobals "min" = some none)
    (z9 : PySem.W.nsIn K mainGlobals "max" = some none)
    (z10 : PySem.W.nsIn K mainGlobals "repr" = some none)
    (z11 : PySem.W.nsIn K mainGlobals "isinstance" = some none)
    (z12 : PySem.W.nsIn K mainGlobals "range" = some none)
    (z13 : PySem.W.nsIn K mainGlobals "enumerate" = some none)
    (z14 : PySem.W.nsIn K mainGlobals "zip" = some none)
    (z15 : PySem.W.nsIn K mainGlobals "bool" = some none)
    (z16 : PySem.W.nsIn K mainGlobals "str" = some none) :
    ∃ fd : FuncData, (∀ (s : Shared) (v : Value), BindsTo s fd ⟨[v], []⟩ [("script", v)]) ∧ ∀ base : Heap, K.In base → base.Ns mainGlobals mg → FnG l.prog w K mg base 6 fa fd ["script"] (liftSp K mg 1 lawSp) := by
  have e := hfa.symm.trans (PySem.W.mg_of X G a29)
  cases e
  have hb : ∀ x ∈ bltNames, mg x = none := by
    intro x hx
    simp only [bltNames, List.mem_cons, List.not_mem_nil, or_false] at hx
    rcases hx with rfl | rfl | rfl | rfl | rfl | rfl | rfl | rfl | rfl | rfl | rfl | rfl | rfl | rfl | rfl | rfl | rfl
    · exact PySem.W.mg_none_of X G z0
    · exact PySem.W.mg_none_of X G z1
    · exact PySem.W.mg_none_of X G z2
    · exact PySem.W.mg_none_of X G z3
    · exact PySem.W.mg_none_of X G z4
    · exact PySem.W.mg_none_of X G z5
    · exact PySem.W.mg_none_of X G z6
    · exact PySem.W.mg_none_of X G z7
    · exact PySem.W.mg_none_of X G z8
    · exact PySem.W.mg_none_of X G z9
    · exact PySem.W.mg_none_of X G z10
    · exact PySem.W.mg_none_of X G z11
    · exact PySem.W.mg_none_of X G z12
    · exact PySem.W.mg_none_of X G z13
    · exact PySem.W.mg_none_of X G z14
    · exact PySem.W.mg_none_of X G z15
    · exact PySem.W.mg_none_of X G z16
  have L : Facts K mg :=
    { blt := hb
      f_at_most := ⟨f0, _, fun_mk (st := s_at_most) l0 c0 k0, PySem.W.mg_of X G a0, (fun_mk (st := s_at_most) l0 c0 k0).binds fun _ _ _ _ _ _ us hl => match us, hl with | [_], _ => rfl⟩
      f_below := ⟨f1, _, fun_mk (st := s_below) l1 c1 k1, PySem.W.mg_of X G a1, (fun_mk (st := s_below) l1 c1 k1).binds fun _ _ _ _ _ _ us hl => match us, hl with | [_], _ => rfl⟩
      f_number_of := ⟨f2, _, fun_mk (st := s_number_of) l2 c2 k2, PySem.W.mg_of X G a2, (fun_mk (st := s_number_of) l2 c2 k2).binds fun _ _ _ _ _ _ us hl => match us, hl with | [_], _ => rfl⟩
      f_has_end := ⟨f3, _, fun_mk (st := s_has_end) l3 c3 k3, PySem.W.mg_of X G a3, (fun_mk (st := s_has_end) l3 c3 k3).binds fun _ _ _ _ _ _ us hl => match us, hl with | [_], _ => rfl⟩
      f_joined_code := ⟨f4, _, fun_mk (st := s_joined_code) l4 c4 k4, PySem.W.mg_of X G a4, (fun_mk (st := s_joined_code) l4 c4 k4).binds fun _ _ _ _ _ _ us hl => match us, hl with | [_, _], _ => rfl⟩
      f_tighter := ⟨f5, _, fun_mk (st := s_tighter) l5 c5 k5, PySem.W.mg_of X G a5, (fun_mk (st := s_tighter) l5 c5 k5).binds fun _ _ _ _ _ _ us hl => match us, hl with | [_, _], _ => rfl⟩
      f_is_tight := ⟨f6, _, fun_mk (st := s_is_tight) l6 c6 k6, PySem.W.mg_of X G a6, (fun_mk (st := s_is_tight) l6 c6 k6).binds fun _ _ _ _ _ _ us hl => match us, hl with | [_, _], _ => rfl⟩
      f_against := ⟨f7, _, fun_mk (st := s_against) l7 c7 k7, PySem.W.mg_of X G a7, (fun_mk (st := s_against) l7 c7 k7).binds fun _ _ _ _ _ _ us hl => match us, hl with | [_], _ => rfl⟩
      f_allows := ⟨f8, _, fun_mk (st := s_allows) l8 c8 k8, PySem.W.mg_of X G a8, (fun_mk (st := s_allows) l8 c8 k8).binds fun _ _ _ _ _ _ us hl => match us, hl with | [_, _], _ => rfl⟩
      f__law_pool := ⟨f9, _, fun_mk (st := s__law_pool) l9 c9 k9, PySem.W.mg_of X G a9, (fun_mk (st := s__law_pool) l9 c9 k9).binds fun _ _ _ _ _ _ us hl => match us, hl with | [_], _ => rfl⟩
      f__law_mix := ⟨f10, _, fun_mk (st := s__law_mix) l10 c10 k10, PySem.W.mg_of X G a10, (fun_mk (st := s__law_mix) l10 c10 k10).binds fun _ _ _ _ _ _ us hl => match us, hl with | [_], _ => rfl⟩
      f__law_draw := ⟨f11, _, fun_mk (st := s__law_draw) l11 c11 k11, PySem.W.mg_of X G a11, (fun_mk (st := s__law_draw) l11 c11 k11).binds fun _ _ _ _ _ _ us hl => match us, hl with | [_, _], _ => rfl⟩
      f__law_pick := ⟨f12, _, fun_mk (st := s__law_pick) l12 c12 k12, PySem.W.mg_of X G a12, (fun_mk (st := s__law_pick) l12 c12 k12).binds fun _ _ _ _ _ _ us hl => match us, hl with | [_, _], _ => rfl⟩
      f__law_int := ⟨f13, _, fun_mk (st := s__law_int) l13 c13 k13, PySem.W.mg_of X G a13, (fun_mk (st := s__law_int) l13 c13 k13).binds fun _ _ _ _ _ _ us hl => match us, hl with | [_], _ => rfl⟩
      f__law_same := ⟨f14, _, fun_mk (st := s__law_same) l14 c14 k14, PySem.W.mg_of X G a14, (fun_mk (st := s__law_same) l14 c14 k14).binds fun _ _ _ _ _ _ us hl => match us, hl with | [_, _], _ => rfl⟩
      f__law_gcd := ⟨f15, _, fun_mk (st := s__law_gcd) l15 c15 k15, PySem.W.mg_of X G a15, (fun_mk (st := s__law_gcd) l15 c15 k15).binds fun _ _ _ _ _ _ us hl => match us, hl with | [_, _], _ => rfl⟩
      f__law_ratio := ⟨f16, _, fun_mk (st := s__law_ratio) l16 c16 k16, PySem.W.mg_of X G a16, (fun_mk (st := s__law_ratio) l16 c16 k16).binds fun _ _ _ _ _ _ us hl => match us, hl with | [_, _], _ => rfl⟩
      f__law_wide := ⟨f17, _, fun_mk (st := s__law_wide) l17 c17 k17, PySem.W.mg_of X G a17, (fun_mk (st := s__law_wide) l17 c17 k17).binds fun _ _ _ _ _ _ us hl => match us, hl with | [_], _ => rfl⟩
      f__law_number := ⟨f18, _, fun_mk (st := s__law_number) l18 c18 k18, PySem.W.mg_of X G a18, (fun_mk (st := s__law_number) l18 c18 k18).binds fun _ _ _ _ _ _ us hl => match us, hl with | [_], _ => rfl⟩
      f__law_codes := ⟨f19, _, fun_mk (st := s__law_codes) l19 c19 k19, PySem.W.mg_of X G a19, (fun_mk (st := s__law_codes) l19 c19 k19).binds fun _ _ _ _ _ _ us hl => match us, hl with | [_], _ => rfl⟩
      f__law_lets := ⟨f20, _, fun_mk (st := s__law_lets) l20 c20 k20, PySem.W.mg_of X G a20, (fun_mk (st := s__law_lets) l20 c20 k20).binds fun _ _ _ _ _ _ us hl => match us, hl with | [_, _], _ => rfl⟩
      f__law_turned := ⟨f21, _, fun_mk (st := s__law_turned) l21 c21 k21, PySem.W.mg_of X G a21, (fun_mk (st := s__law_turned) l21 c21 k21).binds fun _ _ _ _ _ _ us hl => match us, hl with | [_], _ => rfl⟩
      f__law_parted := ⟨f22, _, fun_mk (st := s__law_parted) l22 c22 k22, PySem.W.mg_of X G a22, (fun_mk (st := s__law_parted) l22 c22 k22).binds fun _ _ _ _ _ _ us hl => match us, hl with | [_], _ => rfl⟩
      f__law_near := ⟨f23, _, fun_mk (st := s__law_near) l23 c23 k23, PySem.W.mg_of X G a23, (fun_mk (st := s__law_near) l23 c23 k23).binds fun _ _ _ _ _ _ us hl => match us, hl with | [_, _, _], _ => rfl⟩
      f__law_opposite := ⟨f24, _, fun_mk (st := s__law_opposite) l24 c24 k24, PySem.W.mg_of X G a24, (fun_mk (st := s__law_opposite) l24 c24 k24).binds fun _ _ _ _ _ _ us hl => match us, hl with | [_, _], _ => rfl⟩
      f__law_between := ⟨f25, _, fun_mk (st := s__law_between) l25 c25 k25, PySem.W.mg_of X G a25, (fun_mk (st := s__law_between) l25 c25 k25).binds fun _ _ _ _ _ _ us hl => match us, hl with | [_, _], _ => rfl⟩
      f__law_falls := ⟨f26, _, fun_mk (st := s__law_falls) l26 c26 k26, PySem.W.mg_of X G a26, (fun_mk (st := s__law_falls) l26 c26 k26).binds fun _ _ _ _ _ _ us hl => match us, hl with | [_], _ => rfl⟩
      f__law_pair := ⟨f27, _, fun_mk (st := s__law_pair) l27 c27 k27, PySem.W.mg_of X G a27, (fun_mk (st := s__law_pair) l27 c27 k27).binds fun _ _ _ _ _ _ us hl => match us, hl with | [_, _, _], _ => rfl⟩
      f__law_many := ⟨f28, _, fun_mk (st := s__law_many) l28 c28 k28, PySem.W.mg_of X G a28, (fun_mk (st := s__law_many) l28 c28 k28).binds fun _ _ _ _ _ _ us hl => match us, hl with | [_, _], _ => rfl⟩ }
  exact ⟨_, fun s v => .of_eq rfl, fun base _ _ => ok_law L (fun_mk (st := s_law) l29 c29 k29)⟩
end TK
open PySem PySem.W PyProof.Rows
set_option maxHeartbeats 0 in
theorem PySem.Challenge.cw_tickless_k04_codes_turn_and_allow_holds : PySem.Challenge.rw_tickless_k04_codes_turn_and_allow.Holds := by
  w_on; o_law; k_head; (case hw => w_witness2)
  k_fill
  refine TK.walk_of (l := PySem.Challenge.rw_tickless_k04_codes_turn_and_allow) (k := 6) (x := "script") rfl rfl ⟨rfl, by decide, by decide⟩ (fun w h Y => PySem.W.kIn_of Y) ?F
  case F =>
    intro w mg fa h KX G hmg
    refine' TK.all_mk KX G hmg ?a0 ?l0 ?c0 ?k0 ?a1 ?l1 ?c1 ?k1 ?a2 ?l2 ?c2 ?k2 ?a3 ?l3 ?c3 ?k3 ?a4 ?l4 ?c4 ?k4 ?a5 ?l5 ?c5 ?k5 ?a6 ?l6 ?c6 ?k6 ?a7 ?l7 ?c7 ?k7 ?a8 ?l8 ?c8 ?k8 ?a9 ?l9 ?c9 ?k9 ?a10 ?l10 ?c10 ?k10 ?a11 ?l11 ?c11 ?k11 ?a12 ?l12 ?c12 ?k12 ?a13 ?l13 ?c13 ?k13 ?a14 ?l14 ?c14 ?k14 ?a15 ?l15 ?c15 ?k15 ?a16 ?l16 ?c16 ?k16 ?a17 ?l17 ?c17 ?k17 ?a18 ?l18 ?c18 ?k18 ?a19 ?l19 ?c19 ?k19 ?a20 ?l20 ?c20 ?k20 ?a21 ?l21 ?c21 ?k21 ?a22 ?l22 ?c22 ?k22 ?a23 ?l23 ?c23 ?k23 ?a24 ?l24 ?c24 ?k24 ?a25 ?l25 ?c25 ?k25 ?a26 ?l26 ?c26 ?k26 ?a27 ?l27 ?c27 ?k27 ?a28 ?l28 ?c28 ?k28 ?a29 ?l29 ?c29 ?k29 ?z0 ?z1 ?z2 ?z3 ?z4 ?z5 ?z6 ?z7 ?z8 ?z9 ?z10 ?z11 ?z12 ?z13 ?z14 ?z15 ?z16
    (case a0 => k_is); (case l0 => k_is); (case c0 => k_is); (case k0 => k_is); (case a1 => k_is); (case l1 => k_is); (case c1 => k_is); (case k1 => k_is); (case a2 => k_is); (case l2 => k_is); (case c2 => k_is); (case k2 => k_is); (case a3 => k_is); (case l3 => k_is); (case c3 => k_is); (case k3 => k_is); (case a4 => k_is); (case l4 => k_is); (case c4 => k_is); (case k4 => k_is); (case a5 => k_is); (case l5 => k_is); (case c5 => k_is); (case k5 => k_is); (case a6 => k_is); (case l6 => k_is); (case c6 => k_is); (case k6 => k_is); (case a7 => k_is); (case l7 => k_is); (case c7 => k_is); (case k7 => k_is); (case a8 => k_is); (case l8 => k_is); (case c8 => k_is); (case k8 => k_is); (case a9 => k_is); (case l9 => k_is); (case c9 => k_is); (case k9 => k_is); (case a10 => k_is); (case l10 => k_is); (case c10 => k_is); (case k10 => k_is); (case a11 => k_is); (case l11 => k_is); (case c11 => k_is); (case k11 => k_is); (case a12 => k_is); (case l12 => k_is); (case c12 => k_is); (case k12 => k_is); (case a13 => k_is); (case l13 => k_is); (case c13 => k_is); (case k13 => k_is); (case a14 => k_is); (case l14 => k_is); (case c14 => k_is); (case k14 => k_is); (case a15 => k_is); (case l15 => k_is); (case c15 => k_is); (case k15 => k_is); (case a16 => k_is); (case l16 => k_is); (case c16 => k_is); (case k16 => k_is); (case a17 => k_is); (case l17 => k_is); (case c17 => k_is); (case k17 => k_is); (case a18 => k_is); (case l18 => k_is); (case c18 => k_is); (case k18 => k_is); (case a19 => k_is); (case l19 => k_is); (case c19 => k_is); (case k19 => k_is); (case a20 => k_is); (case l20 => k_is); (case c20 => k_is); (case k20 => k_is); (case a21 => k_is); (case l21 => k_is); (case c21 => k_is); (case k21 => k_is); (case a22 => k_is); (case l22 => k_is); (case c22 => k_is); (case k22 => k_is); (case a23 => k_is); (case l23 => k_is); (case c23 => k_is); (case k23 => k_is); (case a24 => k_is); (case l24 => k_is); (case c24 => k_is); (case k24 => k_is); (case a25 => k_is); (case l25 => k_is); (case c25 => k_is); (case k25 => k_is); (case a26 => k_is); (case l26 => k_is); (case c26 => k_is); (case k26 => k_is); (case a27 => k_is); (case l27 => k_is); (case c27 => k_is); (case k27 => k_is); (case a28 => k_is); (case l28 => k_is); (case c28 => k_is); (case k28 => k_is); (case a29 => k_is); (case l29 => k_is); (case c29 => k_is); (case k29 => k_is); (case z0 => k_is); (case z1 => k_is); (case z2 => k_is); (case z3 => k_is); (case z4 => k_is); (case z5 => k_is); (case z6 => k_is); (case z7 => k_is); (case z8 => k_is); (case z9 => k_is); (case z10 => k_is); (case z11 => k_is); (case z12 => k_is); (case z13 => k_is); (case z14 => k_is); (case z15 => k_is); (case z16 => k_is)
