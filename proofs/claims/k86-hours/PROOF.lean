import PyProof.Rows.All
import Wide.All
import OpenK.AllK
import Wide.FinOn
import HandS.ForExc
import HandS.ForMost
import HandS.Wide
import HandS.Walk
import HandS.IsInst
import HandS.Zip
import HandS.TupAny
import HandS.Style
import HandS.Iter
import PyProof.Draws
import PyProof.EnumMake
import KE.GoesMore
import HandS.Deep
import PyProof.AutoSeq1
import KE.DataMinMax
import HandS.SortKw
import HandS.Words
import HandS.Ends
import HandS.ExcInit
import HandS.ExcCtx
import HandS.ExcIs
import HandS.ExcField
import HandS.HotCalls
import HandS.Defaults
import KE.KExcLine
import KE.RegKSuper
import HandS.TupMul
import HandS.TupLe
import PyProof.StrOps2
import PySem.Challenge.RW_tickless_k86_hours_of_jobs
set_option Elab.async false
set_option linter.all false
set_option maxRecDepth 100000
set_option maxHeartbeats 8000000
set_option maxRecDepth 100000
namespace TK
open PySem PySem.Spec PyProof.Rows L2

/-! ### values without a heap -/
/-- a value: tuples and frozen lists are their items; a list that is still written is its address -/
inductive PV where
  | non | bl (b : Bool) | int (i : Int) | str (x : Str) | tup (xs : List PV) | lst (xs : List PV) | ref (a : Nat) | scr (ns : List Int)
instance : Inhabited PV := ⟨.non⟩

abbrev Sl := List (Option PV)
def getS : Sl → Nat → Option PV
  | [], _ => none
  | x :: _, 0 => x
  | _ :: r, n + 1 => getS r n
def setS : Sl → Nat → Option PV → Sl
  | [], _, _ => []
  | _ :: r, 0, y => y :: r
  | x :: r, n + 1, y => x :: setS r n y
theorem setS_length : ∀ (τ : Sl) (i : Nat) (y : Option PV), (setS τ i y).length = τ.length
  | [], _, _ => rfl
  | _ :: _, 0, _ => rfl
  | _ :: r, n + 1, y => congrArg (· + 1) (setS_length r n y)
theorem getS_setS_same : ∀ {τ : Sl} {i : Nat} {y : Option PV}, i < τ.length → getS (setS τ i y) i = y
  | [], _, _, h => absurd h (Nat.not_lt_zero _)
  | _ :: _, 0, _, _ => rfl
  | _ :: r, n + 1, _, h => getS_setS_same (τ := r) (Nat.lt_of_succ_lt_succ h)
theorem getS_setS_ne : ∀ {τ : Sl} {i j : Nat} {y : Option PV}, j ≠ i → getS (setS τ i y) j = getS τ j
  | [], _, _, _, _ => rfl
  | _ :: _, 0, 0, _, h => absurd rfl h
  | _ :: _, 0, _ + 1, _, _ => rfl
  | _ :: _, _ + 1, 0, _, _ => rfl
  | _ :: r, i + 1, j + 1, _, h => getS_setS_ne (τ := r) (fun e => h (congrArg (· + 1) e))
theorem getS_lt : ∀ {τ : Sl} {i : Nat} {v : PV}, getS τ i = some v → i < τ.length
  | [], _, _, h => nomatch h
  | _ :: _, 0, _, _ => Nat.succ_pos _
  | _ :: r, n + 1, _, h => Nat.succ_lt_succ (getS_lt (τ := r) h)
def wipeS (τ : Sl) : List Nat → Sl
  | [] => τ
  | v :: vs => setS (wipeS τ vs) v none
theorem wipeS_length (τ : Sl) : ∀ vs, (wipeS τ vs).length = τ.length
  | [] => rfl
  | v :: vs => by show (setS (wipeS τ vs) v none).length = _; rw [setS_length, wipeS_length τ vs]
theorem wipeS_some {τ : Sl} {i : Nat} {x : PV} : ∀ {vs : List Nat}, getS (wipeS τ vs) i = some x → getS τ i = some x ∧ i ∉ vs
  | [], h => ⟨h, List.not_mem_nil⟩
  | v :: vs, h => by
    have h' : getS (setS (wipeS τ vs) v none) i = some x := h
    by_cases e : i = v
    · subst e
      have := getS_lt h'
      rw [setS_length] at this
      rw [getS_setS_same this] at h'; cases h'
    · rw [getS_setS_ne e] at h'
      obtain ⟨a, b⟩ := wipeS_some h'
      exact ⟨a, fun hm => (List.mem_cons.mp hm).elim e b⟩

/-- what the proofs follow of the heap: lists that are still written; the law's own pool of draws -/
inductive Cell where
  | lst (xs : List PV)
  | pool
abbrev Store := Nat → Option Cell
def up (st : Store) (a : Nat) (c : Option Cell) : Store := fun b => if b = a then c else st b
theorem up_same {st : Store} {a : Nat} {c : Option Cell} : up st a c a = c := if_pos rfl
theorem up_ne {st : Store} {a b : Nat} {c : Option Cell} (h : b ≠ a) : up st a c b = st b := if_neg h

/-- an exception: its class's name, its attributes -/
abbrev Exn := Str × List (Str × PV)

/-! ### how they lie in the layer's heap -/
abbrev FS := Addr → Prop
def Imm : HO → Prop
  | .tup _ => True
  | .xd _ => True
  | .frz _ _ => True
  | _ => False
def Kp (H : Hp) (F : FS) (H' : Hp) : Prop := ∀ a u, H a = some u → F a ∨ Imm u → H' a = some u
structure Ext (F : FS) (H : Hp) (F' : FS) (H' : Hp) : Prop where
  le : ∀ a, F a → F' a
  kp : Kp H F H'
theorem Ext.refl {F : FS} {H : Hp} : Ext F H F H := ⟨fun _ h => h, fun _ _ h _ => h⟩
theorem Ext.trans {F F1 F2 : FS} {H H1 H2 : Hp} (a : Ext F H F1 H1) (b : Ext F1 H1 F2 H2) : Ext F H F2 H2 :=
  ⟨fun x h => b.le x (a.le x h), fun x u h i => b.kp x u (a.kp x u h i) (i.imp (a.le x) id)⟩

/-- the law's script, known for good -/
def ScrL (K : PySem.W.Frag) (H : Hp) (a : Addr) (ys : List V) : Prop :=
  (∃ o, H a = some (.frz o (.lst ys))) ∨ SqL K (fun _ => none) a ys
theorem sqk {K : PySem.W.Frag} {H : Hp} {a : Addr} {ys : List V} (h : SqL K (fun _ => none) a ys) : SqL K H a ys := by
  rcases h with (h | ⟨_, h⟩) | h
  · cases h
  · cases h
  · exact .inr h
theorem ScrL.sq {K : PySem.W.Frag} {H : Hp} {a : Addr} {ys : List V} (h : ScrL K H a ys) : SqL K H a ys := by
  rcases h with ⟨o, h⟩ | h
  · exact .inl (.inr ⟨o, h⟩)
  · exact sqk h
theorem ScrL.ext {K : PySem.W.Frag} {H H' : Hp} {F F' : FS} {a : Addr} {ys : List V} (x : Ext F H F' H') (h : ScrL K H a ys) : ScrL K H' a ys := by
  rcases h with ⟨o, h⟩ | h
  · exact .inl ⟨o, x.kp _ _ h (.inr trivial)⟩
  · exact .inr h
theorem sqText {K : PySem.W.Frag} {H H' : Hp} {F F' : FS} {a : Addr} {ys : List V} (x : Ext F H F' H') (h : SqT K H a ys) : SqT K H' a ys := by
  rcases h with (h | ⟨o, h⟩) | h
  · exact .inl (.inl (x.kp _ _ h (.inr trivial)))
  · exact .inl (.inr ⟨o, x.kp _ _ h (.inr trivial)⟩)
  · exact .inr h

mutual
inductive DV (K : PySem.W.Frag) (H : Hp) (F : FS) : PV → V → Prop
  | non : DV K H F .non .non
  | bl (b : Bool) : DV K H F (.bl b) (.bl b)
  | int (i : Int) : DV K H F (.int i) (.int i)
  | str (x : Str) : DV K H F (.str x) (.str x)
  | tup {a : Addr} {xs : List PV} {ys : List V} : SqT K H a ys → DVs K H F xs ys → DV K H F (.tup xs) (.ref a)
  | lst {a : Addr} {xs : List PV} {ys : List V} : F a → H a = some (.lst ys) → DVs K H F xs ys → DV K H F (.lst xs) (.ref a)
  | ref (a : Addr) : DV K H F (.ref a) (.ref a)
  | scr {a : Addr} {ns : List Int} : ScrL K H a (ns.map V.int) → DV K H F (.scr ns) (.ref a)
inductive DVs (K : PySem.W.Frag) (H : Hp) (F : FS) : List PV → List V → Prop
  | nil : DVs K H F [] []
  | cons {v : PV} {x : V} {vs : List PV} {xs : List V} : DV K H F v x → DVs K H F vs xs → DVs K H F (v :: vs) (x :: xs)
end
section
variable {K : PySem.W.Frag} {H H' : Hp} {F F' : FS}
mutual
theorem DV.ext (x : Ext F H F' H') : ∀ {v : PV} {y : V}, DV K H F v y → DV K H' F' v y
  | _, _, .non => .non
  | _, _, .bl b => .bl b
  | _, _, .int i => .int i
  | _, _, .str z => .str z
  | _, _, .tup h hs => .tup (sqText x h) (DVs.ext x hs)
  | _, _, .lst f h hs => .lst (x.le _ f) (x.kp _ _ h (.inl f)) (DVs.ext x hs)
  | _, _, .ref a => .ref a
  | _, _, .scr h => .scr (h.ext x)
theorem DVs.ext (x : Ext F H F' H') : ∀ {vs : List PV} {ys : List V}, DVs K H F vs ys → DVs K H' F' vs ys
  | _, _, .nil => .nil
  | _, _, .cons h hs => .cons (DV.ext x h) (DVs.ext x hs)
end
theorem DVs.app1 : ∀ {vs ws : List PV} {ys zs : List V}, DVs K H F vs ys → DVs K H F ws zs → DVs K H F (vs ++ ws) (ys ++ zs)
  | _, _, _, _, .nil, h => h
  | _, _, _, _, .cons a b, h => .cons a (b.app1 h)
theorem DVs.reverse : ∀ {vs : List PV} {ys : List V}, DVs K H F vs ys → DVs K H F vs.reverse ys.reverse
  | _, _, .nil => .nil
  | _, _, .cons a b => by
    rw [List.reverse_cons, List.reverse_cons]
    exact DVs.app1 b.reverse (.cons a .nil)
theorem DVs.length : ∀ {vs : List PV} {ys : List V}, DVs K H F vs ys → vs.length = ys.length
  | _, _, .nil => rfl
  | _, _, .cons _ hs => congrArg (· + 1) hs.length
theorem DVs.get : ∀ {vs : List PV} {ys : List V} {i : Nat} {v : PV}, DVs K H F vs ys → vs[i]? = some v → ∃ y, ys[i]? = some y ∧ DV K H F v y
  | _, _, _, _, .nil, e => by simp at e
  | _, _, 0, _, .cons h _, e => by simp at e; subst e; exact ⟨_, rfl, h⟩
  | _, _, i + 1, _, .cons _ hs, e => by simpa using hs.get (i := i) (by simpa using e)
theorem DVs.get' : ∀ {vs : List PV} {ys : List V} {i : Nat} {y : V}, DVs K H F vs ys → ys[i]? = some y → ∃ v, vs[i]? = some v ∧ DV K H F v y
  | _, _, _, _, .nil, e => by simp at e
  | _, _, 0, _, .cons h _, e => by simp at e; subst e; exact ⟨_, rfl, h⟩
  | _, _, i + 1, _, .cons _ hs, e => by simpa using hs.get' (i := i) (by simpa using e)
theorem DVs.append : ∀ {vs ws : List PV} {ys zs : List V}, DVs K H F vs ys → DVs K H F ws zs → DVs K H F (vs ++ ws) (ys ++ zs)
  | _, _, _, _, .nil, h => h
  | _, _, _, _, .cons a b, h => .cons a (b.append h)
theorem DVs.take : ∀ {vs : List PV} {ys : List V} (n : Nat), DVs K H F vs ys → DVs K H F (vs.take n) (ys.take n)
  | _, _, 0, _ => .nil
  | _, _, _ + 1, .nil => .nil
  | _, _, n + 1, .cons a b => .cons a (b.take n)
theorem DVs.drop : ∀ {vs : List PV} {ys : List V} (n : Nat), DVs K H F vs ys → DVs K H F (vs.drop n) (ys.drop n)
  | _, _, 0, h => h
  | _, _, _ + 1, .nil => .nil
  | _, _, n + 1, .cons _ b => b.drop n
theorem DVs.set {v : PV} {y : V} (h : DV K H F v y) : ∀ {vs : List PV} {ys : List V} (i : Nat), DVs K H F vs ys → DVs K H F (vs.set i v) (ys.set i y)
  | _, _, _, .nil => .nil
  | _, _, 0, .cons _ b => .cons h b
  | _, _, i + 1, .cons a b => .cons a (b.set h i)
theorem DVs.dropLast : ∀ {vs : List PV} {ys : List V}, DVs K H F vs ys → DVs K H F vs.dropLast ys.dropLast
  | _, _, .nil => .nil
  | _, _, .cons a .nil => .nil
  | _, _, .cons a (.cons b c) => .cons a (DVs.dropLast (.cons b c))
theorem DVs.flat {vs : List PV} {ys : List V} (h : DVs K H F vs ys) : ∀ k : Nat, DVs K H F (List.replicate k vs).flatten (List.replicate k ys).flatten
  | 0 => .nil
  | k + 1 => h.append (h.flat k)
theorem DVs.ints : ∀ (ns : List Int), DVs K H F (ns.map PV.int) (ns.map V.int)
  | [] => .nil
  | n :: r => .cons (.int n) (DVs.ints r)
theorem DVs.of_ints : ∀ {ns : List Int} {ys : List V}, DVs K H F (ns.map PV.int) ys → ys = ns.map V.int
  | [], _, .nil => rfl
  | n :: r, _, .cons h hs => by cases h; rw [hs.of_ints]; rfl
end

/-- the pool at a: the script's copy, and four numbers -/
def PoolH (H : Hp) (F : FS) (a : Addr) : Prop :=
  ∃ (q : Addr) (ns : List Int) (x b c d : Int), H a = some (.lst [.ref q, .int x, .int b, .int c, .int d]) ∧ F q ∧ H q = some (.lst (ns.map V.int)) ∧ 0 ≤ x
structure RS (K : PySem.W.Frag) (H : Hp) (F : FS) (st : Store) : Prop where
  lst : ∀ a xs, st a = some (.lst xs) → ¬ F a ∧ ∃ ys, H a = some (.lst ys) ∧ DVs K H F xs ys
  pool : ∀ a, st a = some .pool → ¬ F a ∧ PoolH H F a
  fz : ∀ a, F a → ∃ ys, H a = some (.lst ys)
def RSl (K : PySem.W.Frag) (H : Hp) (F : FS) (τ : Sl) (σ : L2.St) : Prop :=
  τ.length = σ.length ∧ ∀ i v, getS τ i = some v → ∃ x, σ[i]? = some (some x) ∧ DV K H F v x
section
variable {K : PySem.W.Frag} {H H' : Hp} {F F' : FS} {τ : Sl} {σ : L2.St} {st : Store}
theorem RSl.ext (x : Ext F H F' H') (h : RSl K H F τ σ) : RSl K H' F' τ σ :=
  ⟨h.1, fun i v e => let ⟨y, e', d⟩ := h.2 i v e; ⟨y, e', d.ext x⟩⟩
theorem RSl.set {v : PV} {y : V} (h : RSl K H F τ σ) (d : DV K H F v y) (i : Nat) : RSl K H F (setS τ i (some v)) (σ.set i (some y)) := by
  refine ⟨by rw [setS_length, List.length_set]; exact h.1, fun j w e => ?_⟩
  by_cases hj : j = i
  · subst hj
    have hl := getS_lt e
    rw [setS_length] at hl
    rw [getS_setS_same hl] at e
    cases e
    exact ⟨y, by rw [List.getElem?_set_self (by rw [← h.1]; exact hl)], d⟩
  · rw [getS_setS_ne hj] at e
    obtain ⟨z, e', d'⟩ := h.2 j w e
    exact ⟨z, by rw [List.getElem?_set_ne (Ne.symm hj)]; exact e', d'⟩
theorem RSl.wipe (h : RSl K H F τ σ) (vs : List Nat) : RSl K H F (wipeS τ vs) (L2.wipe σ vs) := by
  refine ⟨by rw [wipeS_length, L2.wipe_length]; exact h.1, fun j w e => ?_⟩
  obtain ⟨e1, hn⟩ := wipeS_some e
  obtain ⟨z, e', d'⟩ := h.2 j w e1
  refine ⟨z, ?_, d'⟩
  induction vs with
  | nil => exact e'
  | cons v vs ih =>
    show ((L2.wipe σ vs).set v none)[j]? = _
    have hv : v ≠ j := fun e => hn (e ▸ List.mem_cons_self)
    rw [List.getElem?_set_ne hv]
    exact ih (by
      have e2 : getS (setS (wipeS τ vs) v none) j = some w := e
      rwa [getS_setS_ne (Ne.symm hv)] at e2) (fun hm => hn (List.mem_cons_of_mem _ hm))
theorem RSl.none (h : RSl K H F τ σ) (i : Nat) (y : Option V) (hn : True) : RSl K H F (setS τ i Option.none) (σ.set i y) := by
  refine ⟨by rw [setS_length, List.length_set]; exact h.1, fun j w e => ?_⟩
  by_cases hj : j = i
  · subst hj
    have hl := getS_lt e
    rw [setS_length] at hl
    rw [getS_setS_same hl] at e
    cases e
  · rw [getS_setS_ne hj] at e
    obtain ⟨z, e', d'⟩ := h.2 j w e
    exact ⟨z, by rw [List.getElem?_set_ne (Ne.symm hj)]; exact e', d'⟩

/-- a new object that nothing follows -/
theorem Ext.new {p : Addr} {o : HO} (hp : H p = none) : Ext F H F (upd H p o) := by
  refine ⟨fun _ h => h, fun a u e _ => ?_⟩
  rw [upd_ne (fun z => by rw [z, hp] at e; cases e)]; exact e
theorem RS.nof (r : RS K H F st) {p : Addr} (hp : H p = none) : ¬ F p := fun f => by
  obtain ⟨ys, e⟩ := r.fz p f
  rw [hp] at e; cases e
theorem RS.no {p : Addr} (r : RS K H F st) (hp : H p = none) : st p = Option.none := by
  cases e : st p with
  | none => rfl
  | some c =>
    cases c with
    | lst xs => obtain ⟨_, ys, h, _⟩ := r.lst p xs e; rw [hp] at h; cases h
    | pool => obtain ⟨_, q, ns, x, b, c, d, h, _⟩ := r.pool p e; rw [hp] at h; cases h
theorem PoolH.ext (x : Ext F H F' H') {a : Addr} (h : PoolH H F a) (e : H' a = H a) : PoolH H' F' a := by
  obtain ⟨q, ns, y, b, c, d, h1, h2, h3, h4⟩ := h
  exact ⟨q, ns, y, b, c, d, e.trans h1, x.le _ h2, x.kp _ _ h3 (.inl h2), h4⟩
/-- the followed objects stand; what is frozen stands -/
theorem RS.keep (r : RS K H F st) (x : Ext F H F H') (hs : ∀ a, st a ≠ Option.none → H' a = H a) : RS K H' F st := by
  refine ⟨fun a xs e => ?_, fun a e => ?_, fun a f => ?_⟩
  · obtain ⟨nf, ys, h, d⟩ := r.lst a xs e
    exact ⟨nf, ys, (hs a (by rw [e]; exact fun z => nomatch z)).trans h, d.ext x⟩
  · obtain ⟨nf, h⟩ := r.pool a e
    exact ⟨nf, h.ext x (hs a (by rw [e]; exact fun z => nomatch z))⟩
  · obtain ⟨ys, h⟩ := r.fz a f
    exact ⟨ys, x.kp _ _ h (.inl f)⟩
theorem RS.there (r : RS K H F st) {a : Addr} (h : st a ≠ Option.none) : H a ≠ Option.none := fun e => h (r.no e)
theorem RS.new {p : Addr} {o : HO} (r : RS K H F st) (hp : H p = none) : RS K (upd H p o) F st :=
  r.keep (.new hp) fun a h => upd_ne (fun z => r.there h (z ▸ hp))
/-- a new list, frozen at once -/
theorem Ext.newF {p : Addr} {o : HO} (hp : H p = none) : Ext F H (fun a => F a ∨ a = p) (upd H p o) :=
  ⟨fun _ h => .inl h, (Ext.new (F := F) hp).kp⟩
theorem RS.newF {p : Addr} {ys : List V} (r : RS K H F st) (hp : H p = none) : RS K (upd H p (.lst ys)) (fun a => F a ∨ a = p) st := by
  have x : Ext F H (fun a => F a ∨ a = p) (upd H p (.lst ys)) := .newF hp
  have ne : ∀ a, st a ≠ Option.none → a ≠ p := fun a h z => r.there h (z ▸ hp)
  refine ⟨fun a xs e => ?_, fun a e => ?_, fun a f => ?_⟩
  · obtain ⟨nf, ys, h, d⟩ := r.lst a xs e
    have n := ne a (by rw [e]; exact fun z => nomatch z)
    exact ⟨fun f => f.elim nf n, ys, (upd_ne n).trans h, d.ext x⟩
  · obtain ⟨nf, h⟩ := r.pool a e
    have n := ne a (by rw [e]; exact fun z => nomatch z)
    exact ⟨fun f => f.elim nf n, h.ext x (upd_ne n)⟩
  · rcases f with f | rfl
    · obtain ⟨ys, h⟩ := r.fz a f
      exact ⟨ys, x.kp _ _ h (.inl f)⟩
    · exact ⟨_, upd_same⟩
/-- a followed list takes other items, or a new one is followed -/
theorem Ext.put {p : Addr} {ys : List V} (hF : ¬ F p) (hp : ∀ u, H p = some u → ¬ Imm u) : Ext F H F (upd H p (.lst ys)) := by
  refine ⟨fun _ h => h, fun a u e i => ?_⟩
  have n : a ≠ p := fun z => by
    subst z
    exact i.elim hF (hp u e)
  rw [upd_ne n]; exact e
theorem RS.put {p : Addr} {xs : List PV} {ys : List V} (r : RS K H F st) (hF : ¬ F p) (hp : ∀ u, H p = some u → ¬ Imm u) (d : DVs K H F xs ys) : RS K (upd H p (.lst ys)) F (up st p (some (.lst xs))) := by
  have x : Ext F H F (upd H p (.lst ys)) := .put hF hp
  refine ⟨fun a zs e => ?_, fun a e => ?_, fun a f => ?_⟩
  · by_cases n : a = p
    · subst n
      rw [up_same] at e; cases e
      exact ⟨hF, ys, upd_same, d.ext x⟩
    · rw [up_ne n] at e
      obtain ⟨nf, ys, h, d⟩ := r.lst a zs e
      exact ⟨nf, ys, (upd_ne n).trans h, d.ext x⟩
  · by_cases n : a = p
    · subst n
      rw [up_same] at e; cases e
    · rw [up_ne n] at e
      obtain ⟨nf, h⟩ := r.pool a e
      exact ⟨nf, h.ext x (upd_ne n)⟩
  · obtain ⟨ys, h⟩ := r.fz a f
    exact ⟨ys, x.kp _ _ h (.inl f)⟩
theorem RS.putNew {p : Addr} {xs : List PV} {ys : List V} (r : RS K H F st) (hp : H p = none) (d : DVs K H F xs ys) : RS K (upd H p (.lst ys)) F (up st p (some (.lst xs))) :=
  r.put (r.nof hp) (fun u e => by rw [hp] at e; cases e) d
/-- a followed list is frozen -/
theorem RS.freeze {p : Addr} {xs : List PV} (r : RS K H F st) (e : st p = some (.lst xs)) :
    Ext F H (fun a => F a ∨ a = p) H ∧ RS K H (fun a => F a ∨ a = p) (up st p Option.none) ∧ DV K H (fun a => F a ∨ a = p) (.lst xs) (.ref p) := by
  have x : Ext F H (fun a => F a ∨ a = p) H := ⟨fun _ h => .inl h, fun _ _ h _ => h⟩
  obtain ⟨nf, ys, h, d⟩ := r.lst p xs e
  refine ⟨x, ⟨fun a zs q => ?_, fun a q => ?_, fun a f => ?_⟩, .lst (.inr rfl) h (d.ext x)⟩
  · by_cases n : a = p
    · subst n; rw [up_same] at q; cases q
    · rw [up_ne n] at q
      obtain ⟨nf, ys, h, d⟩ := r.lst a zs q
      exact ⟨fun f => f.elim nf n, ys, h, d.ext x⟩
  · by_cases n : a = p
    · subst n; rw [up_same] at q; cases q
    · rw [up_ne n] at q
      obtain ⟨nf, h⟩ := r.pool a q
      exact ⟨fun f => f.elim nf n, h.ext x rfl⟩
  · rcases f with f | rfl
    · exact r.fz a f
    · exact ⟨ys, h⟩
/-- less may be followed -/
theorem RS.less {st' : Store} (r : RS K H F st) (h : ∀ a c, st' a = some c → st a = some c) : RS K H F st' :=
  ⟨fun a xs e => r.lst a xs (h a _ e), fun a e => r.pool a (h a _ e), r.fz⟩
end

/-- an exception of a class of the program -/
def ExRep (K : PySem.W.Frag) (mg : Str → Option Value) (H : Hp) (F : FS) (e : Exn) (cls : Value) (d : Option Addr) : Prop :=
  ∃ C, cls = .ref C ∧ mg e.1 = some (.ref C) ∧ ∃ (dx : Addr) (fs : List (Str × V)), d = some dx ∧ H dx = some (.xd fs) ∧ ∀ n v, e.2.lookup n = some v → ∃ x, fs.lookup n = some x ∧ DV K H F v x
end TK

set_option maxRecDepth 100000
namespace TK
open PySem PySem.Spec PyProof.Rows L2

/-! ### the small language: a def's body as a term -/
/-- a def's promise: arguments, store, the wanted end, the wanted exception -/
abbrev PSpec := List PV → Store → (PV → Store → Prop) → (Exn → Store → Prop) → Prop

mutual
inductive TG where
  | name (i : Nat)
  | tup (ts : TGs)
inductive TGs where
  | nil
  | cons (t : TG) (ts : TGs)
end
mutual
def TG.slots : TG → List Nat
  | .name i => [i]
  | .tup ts => ts.slots
def TGs.slots : TGs → List Nat
  | .nil => []
  | .cons t ts => t.slots ++ ts.slots
end
mutual
def TG.asg : TG → PV → Sl → Option Sl
  | .name i, v, τ => some (setS τ i (some v))
  | .tup ts, v, τ => match v with
    | .tup xs => ts.asg xs τ
    | _ => none
def TGs.asg : TGs → List PV → Sl → Option Sl
  | .nil, xs, τ => match xs with
    | [] => some τ
    | _ :: _ => none
  | .cons t ts, xs, τ => match xs with
    | [] => none
    | x :: r => (t.asg x τ).bind (ts.asg r)
end

/-- built-in functions -/
inductive BF where
  | len | int | abs | tuple | list | all | any | sum | min2 | max2 | min | max | repr | str
/-- forms of one part: t[::-1] of a tuple; max(.., default=0) -/
inductive UF where
  | revT | maxD | revL
def maxD0 : List Int → Int
  | [] => 0
  | x :: r => r.foldl max x
/-- methods -/
inductive MF where
  | append | extend | pop | index

mutual
inductive E where
  | var (i : Nat)
  | fvar (i : Nat)
  | int (n : Int)
  | bl (b : Bool)
  | non
  | str (x : Str)
  | glob (x : Str) (v : PV)
  | bin (o : Operator) (m : Bool) (a b : E)
  | neg (a : E)
  | not (a : E)
  | un (f : UF) (a : E)
  | cmp (o : CmpOp) (a b : E)
  | chain (o o' : CmpOp) (a b c : E)
  | bools (o : BoolOp) (es : Es)
  | ite (t : T) (a b : E)
  | tup (es : Es)
  | lst (m : Bool) (es : Es)
  | idx (a i : E)
  | slice (m : Bool) (a : E) (lo hi : OE)
  | call (f : Str) (sp : PSpec) (es : Es)
  | callK (f ks : Str) (sp : PSpec) (es : Es) (ek : E)
  | blt (f : BF) (m : Bool) (es : Es)
  | isi (e : E) (ty : Str)
  | meth (f : MF) (o : E) (es : Es)
  | comp (m : Bool) (vs : List Nat) (tg : TG) (it : I) (ts : Ts) (elt : E)
inductive Es where
  | nil
  | cons (e : E) (es : Es)
inductive OE where
  | no
  | yes (e : E)
inductive T where
  | val (e : E)
  | cmp (o : CmpOp) (a b : E)
  | chain (o o' : CmpOp) (a b c : E)
  | not (t : T)
  | bools (o : BoolOp) (ts : Ts)
  | ite (t a b : T)
inductive Ts where
  | nil
  | cons (t : T) (ts : Ts)
inductive I where
  | val (e : E)
  | range1 (a : E)
  | range2 (a b : E)
  | enum (e : E)
  | zip (a b : E)
end

def Es.len : Es → Nat
  | .nil => 0
  | .cons _ es => es.len + 1
/-! ### what operations do -/
abbrev PQ := PV → Store → Prop
abbrev EQ := Exn → Store → Prop
def oP {α : Type} (o : Option α) (k : α → Prop) : Prop :=
  match o with
  | some a => k a
  | none => False
def onBl (v : PV) (k : Bool → Prop) : Prop :=
  match v with
  | .bl b => k b
  | _ => False
def onInt (v : PV) (k : Int → Prop) : Prop :=
  match v with
  | .int b => k b
  | _ => False
def seqOf (st : Store) : PV → Option (List PV)
  | .tup xs => some xs
  | .lst xs => some xs
  | .ref a => match st a with
    | some (.lst xs) => some xs
    | _ => none
  | _ => none
/-- a list's items; the script's too -/
def lstOf (st : Store) : PV → Option (List PV)
  | .lst xs => some xs
  | .ref a => match st a with
    | some (.lst xs) => some xs
    | _ => none
  | _ => none
/-- what a list may be extended by: a list, a tuple -/
def extOf (st : Store) : PV → Option (List PV)
  | .tup xs => some xs
  | v => lstOf st v
/-- a text some times over; one text within another; a text's signs -/
def repS (n : Nat) (x : Str) : Str := ⟨(List.replicate n x.cps).foldl (· ++ ·) #[]⟩
def strIn (x y : Str) : Bool := !(Builtin.Str.occurrences y x 0 y.length 1).isEmpty
def chrs (z : Str) : List PV := z.cps.toList.map fun c => .str ⟨#[c]⟩
def onStr (v : PV) (k : Str → Prop) : Prop :=
  match v with
  | .str b => k b
  | _ => False
def newList (m : Bool) (xs : List PV) (st : Store) (Q : PQ) : Prop :=
  match m with
  | true => ∀ p, st p = none → Q (.ref p) (up st p (some (.lst xs)))
  | false => Q (.lst xs) st
def DivOk (j : Int) : Prop := j ≠ 0 ∧ j.natAbs.log2 < 9000
def binV (o : Operator) (m : Bool) (v w : PV) (st : Store) (Q : PQ) : Prop :=
  match o, v, w with
  | .Add, .int i, .int j => Q (.int (i + j)) st
  | .Add, .str x, .str y => x.length + y.length ≤ sizeLine ∧ Q (.str (x ++ y)) st
  | .Add, .tup xs, .tup ys => xs.length + ys.length ≤ sizeLine ∧ Q (.tup (xs ++ ys)) st
  | .Add, .lst xs, .lst ys => xs.length + ys.length ≤ sizeLine ∧ newList m (xs ++ ys) st Q
  | .Add, .ref a, .lst ys => ∃ xs, st a = some (.lst xs) ∧ xs.length + ys.length ≤ sizeLine ∧ newList m (xs ++ ys) st Q
  | .Add, .lst xs, .ref b => ∃ ys, st b = some (.lst ys) ∧ xs.length + ys.length ≤ sizeLine ∧ newList m (xs ++ ys) st Q
  | .Add, .ref a, .ref b => ∃ xs ys, st a = some (.lst xs) ∧ st b = some (.lst ys) ∧ xs.length + ys.length ≤ sizeLine ∧ newList m (xs ++ ys) st Q
  | .Sub, .int i, .int j => Q (.int (i - j)) st
  | .Mult, .int i, .int j => IntMulOk i j ∧ Q (.int (i * j)) st
  | .Mult, .lst xs, .int k => -(2 ^ 63) ≤ k ∧ k < 2 ^ 63 ∧ xs.length * k.toNat ≤ sizeLine ∧ newList m (List.replicate k.toNat xs).flatten st Q
  | .Mult, .tup xs, .int k => (xs ≠ [] ∧ 2 ≤ k ∧ k ≤ 1000 ∧ xs.length ≤ 1000) ∧ Q (.tup (List.replicate k.toNat xs).flatten) st
  | .Mult, .str x, .int k => (0 < x.length ∧ x.length ≤ 1000 ∧ 2 ≤ k ∧ k ≤ 1000) ∧ Q (.str (repS k.toNat x)) st
  | .FloorDiv, .int i, .int j => DivOk j ∧ Q (.int (i.fdiv j)) st
  | .Mod, .int i, .int j => j ≠ 0 ∧ Q (.int (i.fmod j)) st
  | .Pow, .int i, .int j => CPow i j ∧ Q (.int (i ^ j.toNat)) st
  | .BitAnd, .int i, .int j => Q (.int (Builtin.bitAnd i j)) st
  | .BitOr, .int i, .int j => Q (.int (Builtin.bitOr i j)) st
  | _, _, _ => False
def negV (v : PV) (st : Store) (Q : PQ) : Prop :=
  match v with
  | .int i => Q (.int (-i)) st
  | _ => False

/-- data as Python compares and prints it -/
def res (st : Store) : PV → PV
  | .ref a => match st a with
    | some (.lst xs) => .lst xs
    | _ => .ref a
  | v => v
mutual
def toD : PV → PyData
  | .non => .none
  | .bl b => .bool b
  | .int i => .int i
  | .str x => .str x
  | .tup xs => .tuple (toDs xs)
  | .lst xs => .list (toDs xs)
  | .ref _ => .none
  | .scr _ => .none
def toDs : List PV → List PyData
  | [] => []
  | x :: r => toD x :: toDs r
end
mutual
/-- no address within, n levels at most -/
def flat : Nat → PV → Bool
  | n, .tup xs => n != 0 && flats (n - 1) xs
  | n, .lst xs => n != 0 && flats (n - 1) xs
  | _, .ref _ => false
  | _, .scr _ => false
  | _, .str x => PyData.strOk x
  | _, .non => true
  | _, .bl _ => true
  | _, .int _ => true
def flats : Nat → List PV → Bool
  | _, [] => true
  | n, x :: r => flat n x && flats n r
end
mutual
def eqv : PV → PV → Bool
  | .non, w => match w with
    | .non => true
    | _ => false
  | .bl a, w => match w with
    | .bl b => a == b
    | .int j => (if a then 1 else 0) == j
    | _ => false
  | .int i, w => match w with
    | .int j => decide (i = j)
    | .bl b => i == (if b then 1 else 0)
    | _ => false
  | .str x, w => match w with
    | .str y => decide (x = y)
    | _ => false
  | .tup xs, w => match w with
    | .tup ys => eqvs xs ys
    | _ => false
  | .lst xs, w => match w with
    | .lst ys => eqvs xs ys
    | _ => false
  | .ref _, _ => false
  | .scr _, _ => false
def eqvs : List PV → List PV → Bool
  | [], ys => match ys with
    | [] => true
    | _ => false
  | x :: xs, ys => match ys with
    | [] => false
    | y :: ys => eqv x y && eqvs xs ys
end
def isNon : PV → Bool
  | .non => true
  | _ => false
def isSc : PV → Bool
  | .non => true
  | .bl _ => true
  | .int _ => true
  | .str _ => true
  | _ => false
def scP : PV → PV → Bool
  | .non, .non => true | .non, .int _ => true | .int _, .non => true | .non, .bl _ => true | .bl _, .non => true | .non, .str _ => true | .str _, .non => true
  | .int _, .int _ => true | .bl _, .bl _ => true | .str _, .str _ => true
  | .int _, .str _ => true | .str _, .int _ => true | .bl _, .str _ => true | .str _, .bl _ => true
  | _, _ => false
def eqOk (st : Store) (v w : PV) : Prop := scP v w = true ∨ (flat 60 (res st v) = true ∧ flat 60 (res st w) = true)
def inOk (st : Store) (v w : PV) (xs : List PV) : Prop := (isSc v = true ∧ xs.all isSc = true) ∨ (flat 30 v = true ∧ flat 60 (res st w) = true)
def cmpV (o : CmpOp) (v w : PV) (st : Store) (Q : PQ) : Prop :=
  match o with
  | .Eq => eqOk st v w ∧ Q (.bl (eqv (res st v) (res st w))) st
  | .NotEq => eqOk st v w ∧ Q (.bl (!eqv (res st v) (res st w))) st
  | .Lt => match v, w with
    | .int i, .int j => Q (.bl (decide (i < j))) st
    | _, _ => False
  | .LtE => match v, w with
    | .int i, .int j => Q (.bl (decide (i ≤ j))) st
    | _, _ => False
  | .Gt => match v, w with
    | .int i, .int j => Q (.bl (decide (j < i))) st
    | _, _ => False
  | .GtE => match v, w with
    | .int i, .int j => Q (.bl (decide (j ≤ i))) st
    | _, _ => False
  | .Is => match w with
    | .non => Q (.bl (isNon v)) st
    | .bl b => onBl v fun a => Q (.bl (decide (a = b))) st
    | _ => False
  | .IsNot => match w with
    | .non => Q (.bl (!isNon v)) st
    | .bl b => onBl v fun a => Q (.bl (!decide (a = b))) st
    | _ => False
  | .In => match w with
    | .str y => onStr v fun x => Q (.bl (strIn x y)) st
    | w => oP (seqOf st w) fun xs => inOk st v w xs ∧ Q (.bl (xs.any fun y => eqv y v)) st
  | .NotIn => match w with
    | .str y => onStr v fun x => Q (.bl (!strIn x y)) st
    | w => oP (seqOf st w) fun xs => inOk st v w xs ∧ Q (.bl (!xs.any fun y => eqv y v)) st
def itemV (i : Int) (v : PV) (st : Store) (Q : PQ) : Prop :=
  match v with
  | .str z => z.length ≤ sizeLine ∧ oP (atI z.cps.toList i) fun c => Q (.str ⟨#[c]⟩) st
  | .tup xs => oP (atI xs i) fun y => Q y st
  | .lst xs => oP (atI xs i) fun y => Q y st
  | .ref a => oP (lstOf st (.ref a)) fun xs => oP (atI xs i) fun y => Q y st
  | _ => False
def idxV (v w : PV) (st : Store) (Q : PQ) : Prop := onInt w fun i => itemV i v st Q
def cutP {α : Type} (xs : List α) (lo hi : Option Int) : List α := (xs.drop (HT.sIx xs.length 0 lo)).take (HT.sIx xs.length xs.length hi - HT.sIx xs.length 0 lo)
def sliceV (m : Bool) (v : PV) (lo hi : Option Int) (st : Store) (Q : PQ) : Prop :=
  match v with
  | .tup xs => Q (.tup (cutP xs lo hi)) st
  | .lst xs => newList m (cutP xs lo hi) st Q
  | .ref a => ∃ xs, st a = some (.lst xs) ∧ newList m (cutP xs lo hi) st Q
  | _ => False
def blsOf : List PV → Option (List Bool)
  | [] => some []
  | .bl b :: r => (blsOf r).map (b :: ·)
  | _ => none
def intsOf : List PV → Option (List Int)
  | [] => some []
  | .int b :: r => (intsOf r).map (b :: ·)
  | _ => none
def maxL : List Int → Int
  | [] => 0
  | x :: r => r.foldl (fun m y => if y > m then y else m) x
def minL : List Int → Int
  | [] => 0
  | x :: r => r.foldl (fun m y => if y < m then y else m) x
def unV (f : UF) (v : PV) (st : Store) (Q : PQ) : Prop :=
  match f, v with
  | .revT, .tup xs => Q (.tup xs.reverse) st
  | .maxD, v => oP (lstOf st v) fun xs => oP (intsOf xs) fun ns => Q (.int (maxD0 ns)) st
  | .revL, v => oP (lstOf st v) fun xs => Q (.lst xs.reverse) st
  | _, _ => False
/-- what may be printed: numbers below 2 ^ 1900, not too much of it -/
def ShowOk (v : PV) : Prop := (toD v).showable = true ∧ (toD v).shown.length ≤ sizeLine ∧ flat 60 v = true
def bltV (f : BF) (m : Bool) (vs : List PV) (st : Store) (Q : PQ) : Prop :=
  match f, vs with
  | .len, [.str z] => z.length ≤ sizeLine ∧ Q (.int z.length) st
  | .len, [.tup xs] => Q (.int xs.length) st
  | .len, [.lst xs] => Q (.int xs.length) st
  | .len, [.ref a] => oP (lstOf st (.ref a)) fun xs => Q (.int xs.length) st
  | .int, [.int i] => Q (.int i) st
  | .int, [.bl b] => Q (.int (if b then 1 else 0)) st
  | .abs, [.int i] => Q (.int (if i < 0 then -i else i)) st
  | .tuple, [v] => oP (seqOf st v) fun xs => Q (.tup xs) st
  | .list, [.scr ns] => newList m (ns.map PV.int) st Q
  | .list, [.tup xs] => newList m xs st Q
  | .list, [.lst xs] => newList m xs st Q
  | .list, [.ref a] => oP (lstOf st (.ref a)) fun xs => newList m xs st Q
  | .all, [v] => oP (lstOf st v) fun xs => oP (blsOf xs) fun bs => Q (.bl (bs.all id)) st
  | .any, [v] => oP (lstOf st v) fun xs => oP (blsOf xs) fun bs => Q (.bl (bs.any id)) st
  | .sum, [v] => oP (lstOf st v) fun xs => oP (intsOf xs) fun ns => Q (.int ns.sum) st
  | .max, [v] => oP (extOf st v) fun xs => oP (intsOf xs) fun ns => ns ≠ [] ∧ Q (.int (maxL ns)) st
  | .min, [v] => oP (lstOf st v) fun xs => oP (intsOf xs) fun ns => ns ≠ [] ∧ Q (.int (minL ns)) st
  | .max2, [.int i, .int j] => Q (.int (if j > i then j else i)) st
  | .min2, [.int i, .int j] => Q (.int (if j < i then j else i)) st
  | .str, [.int i] => i.natAbs.log2 < 1920 ∧ Q (.str (toString i)) st
  | .repr, [v] => ShowOk (res st v) ∧ Q (.str (toD (res st v)).shown) st
  | _, _ => False
def isiV (ty : Str) : PV → Option Bool
  | .non => some false
  | .bl _ => some (ty == ("int" : Str) || ty == ("bool" : Str))
  | .int _ => some (ty == ("int" : Str))
  | .str _ => some (ty == ("str" : Str))
  | .tup _ => some (ty == ("tuple" : Str))
  | .lst _ => some (ty == ("list" : Str))
  | _ => none
def tyOk (ty : Str) : Bool := ty == ("int" : Str) || ty == ("bool" : Str) || ty == ("str" : Str) || ty == ("tuple" : Str) || ty == ("list" : Str)
def methV (f : MF) (o : PV) (vs : List PV) (st : Store) (Q : PQ) : Prop :=
  match f, o, vs with
  | .append, .ref a, [v] => ∃ xs, st a = some (.lst xs) ∧ xs.length < sizeLine ∧ Q .non (up st a (some (.lst (xs ++ [v]))))
  | .extend, .ref a, [v] => ∃ xs ys, st a = some (.lst xs) ∧ extOf st v = some ys ∧ xs.length + ys.length ≤ sizeLine ∧ Q .non (up st a (some (.lst (xs ++ ys))))
  | .pop, .ref a, [] => ∃ xs y, st a = some (.lst xs) ∧ xs[xs.length - 1]? = some y ∧ Q y (up st a (some (.lst xs.dropLast)))
  | .index, v, [w] => ∃ xs j z, lstOf st v = some xs ∧ isSc w = true ∧ xs.all isSc = true ∧ xs[j]? = some z ∧ eqv z w = true ∧ (∀ (k : Nat) z', k < j → xs[k]? = some z' → eqv z' w = false) ∧ Q (.int j) st
  | _, _, _ => False
/-- a def's call; the wish may be stronger than needed -/
def callS (sp : PSpec) (vs : List PV) (st : Store) (X : EQ) (Q : PQ) : Prop :=
  ∃ (Q0 : PQ) (X0 : EQ), sp vs st Q0 X0 ∧ (∀ v s, Q0 v s → Q v s) ∧ ∀ e s, X0 e s → X e s
def truV (v : PV) (st : Store) (Q : Bool → Store → Prop) : Prop :=
  match v with
  | .bl b => Q b st
  | .non => Q false st
  | .int i => Q (i != 0) st
  | .tup xs => Q (!xs.isEmpty) st
  | .lst xs => Q (!xs.isEmpty) st
  | .ref a => ∃ xs, st a = some (.lst xs) ∧ Q (!xs.isEmpty) st
  | _ => False
def rngL (lo : Int) (n : Nat) : List PV := (List.range n).map fun (k : Nat) => .int (lo + (k : Int))
def enumL : Nat → List PV → List PV
  | _, [] => []
  | k, x :: r => .tup [.int (k : Int), x] :: enumL (k + 1) r
def zipL : List PV → List PV → List PV
  | x :: r, y :: s => .tup [x, y] :: zipL r s
  | _, _ => []
def R62 (j : Int) : Prop := -(2 ^ 62) ≤ j ∧ j < 2 ^ 62
def itV (f : List PV → List PV) (v : PV) (st : Store) (K : List PV → (Store → Prop) → Store → Prop) : Prop :=
  match v with
  | .tup xs => K (f xs) (fun _ => True) st
  | .lst xs => K (f xs) (fun _ => True) st
  | .ref a => oP (lstOf st (.ref a)) fun xs => K (f xs) (fun s => s a = some (.lst xs)) st
  | _ => False
/-- .. a text too -/
def itV0 (v : PV) (st : Store) (K : List PV → (Store → Prop) → Store → Prop) : Prop :=
  match v with
  | .str z => z.length ≤ sizeLine ∧ K (chrs z) (fun _ => True) st
  | v => itV id v st K
def itVL (f : List PV → List PV) (v : PV) (st : Store) (K : List PV → (Store → Prop) → Store → Prop) : Prop :=
  match v with
  | .lst xs => K (f xs) (fun _ => True) st
  | .ref a => oP (lstOf st (.ref a)) fun xs => K (f xs) (fun s => s a = some (.lst xs)) st
  | _ => False
def zipV (v w : PV) (st : Store) (K : List PV → (Store → Prop) → Store → Prop) : Prop :=
  match v, w with
  | .tup xs, .tup ys => K (zipL xs ys) (fun _ => True) st
  | .lst xs, .lst ys => K (zipL xs ys) (fun _ => True) st
  | _, _ => False
def frzV (v : PV) (st : Store) (Q : PQ) : Prop :=
  match v with
  | .ref a => oP (lstOf st (.ref a)) fun xs => Q (.lst xs) (up st a none)
  | v => Q v st
/-- more is followed -/
def Sub (s t : Store) : Prop := ∀ a c, s a = some c → t a = some c
/-- an element of a comprehension: the store stands, or the element is a new list -/
def lcS (st st' : Store) (y : PV) (st2 : Store) (C : Store → Prop) : Prop :=
  (st2 = st' ∧ C st) ∨ ∃ p xs, st' p = none ∧ y = .ref p ∧ st2 = up st' p (some (.lst xs)) ∧ C (up st p (some (.lst xs)))
/-- a comprehension over items: its tests leave the store as it is, whatever else is followed -/
def lcL (tg : TG) (t : Sl → Store → (Bool → Store → Prop) → Prop) (e : Sl → Store → PQ → Prop) (τ : Sl) (K : List PV → Store → Prop) : List PV → Store → List PV → Prop
  | [], st, acc => K acc st
  | x :: r, st, acc => oP (tg.asg x τ) fun τ1 => ∀ st', Sub st st' → t τ1 st' fun b st1 => st1 = st' ∧ if b = true then e τ1 st' fun y st2 => lcS st st' y st2 fun stn => lcL tg t e τ K r stn (acc ++ [y]) else lcL tg t e τ K r st acc
def I.isR : I → Bool
  | .val _ => false
  | _ => true
def isLst (st : Store) (v : PV) : Prop := oP (lstOf st v) fun _ => True

mutual
def wpE : E → EQ → Sl → Store → PQ → Prop
  | .var i, _, τ, st, Q => oP (getS τ i) fun v => Q v st
  | .fvar i, _, τ, st, Q => oP (getS τ i) fun v => frzV v st Q
  | .int n, _, _, st, Q => Q (.int n) st
  | .bl b, _, _, st, Q => Q (.bl b) st
  | .non, _, _, st, Q => Q .non st
  | .str x, _, _, st, Q => Q (.str x) st
  | .glob _ v, _, _, st, Q => Q v st
  | .bin o m a b, X, τ, st, Q => wpE a X τ st fun v st1 => wpE b X τ st1 fun w st2 => binV o m v w st2 Q
  | .neg a, X, τ, st, Q => wpE a X τ st fun v st1 => negV v st1 Q
  | .not a, X, τ, st, Q => wpE a X τ st fun v st1 => onBl v fun b => Q (.bl (!b)) st1
  | .un f a, X, τ, st, Q => wpE a X τ st fun v st1 => unV f v st1 Q
  | .cmp o a b, X, τ, st, Q => wpE a X τ st fun v st1 => wpE b X τ st1 fun w st2 => cmpV o v w st2 Q
  | .chain o o' a b c, X, τ, st, Q => wpE a X τ st fun v st1 => wpE b X τ st1 fun w st2 => cmpV o v w st2 fun z st3 => onBl z fun k =>
      if k = true then wpE c X τ st3 fun u st4 => cmpV o' w u st4 Q else Q (.bl false) st3
  | .bools o es, X, τ, st, Q => wpBs o es X τ st Q
  | .ite t a b, X, τ, st, Q => wpT t X τ st fun k st1 => if k = true then wpE a X τ st1 Q else wpE b X τ st1 Q
  | .tup es, X, τ, st, Q => wpEs es X τ st fun vs st1 => vs.length ≤ sizeLine ∧ Q (.tup vs) st1
  | .lst m es, X, τ, st, Q => wpEs es X τ st fun vs st1 => vs.length ≤ sizeLine ∧ newList m vs st1 Q
  | .idx a i, X, τ, st, Q => wpE a X τ st fun v st1 => wpE i X τ st1 fun w st2 => idxV v w st2 Q
  | .slice m a lo hi, X, τ, st, Q => wpE a X τ st fun v st1 => wpO lo X τ st1 fun l st2 => wpO hi X τ st2 fun u st3 => sliceV m v l u st3 Q
  | .call _ sp es, X, τ, st, Q => wpEs es X τ st fun vs st1 => callS sp vs st1 X Q
  | .callK _ _ sp es ek, X, τ, st, Q => wpEs es X τ st fun vs st1 => wpE ek X τ st1 fun v st2 => callS sp (vs ++ [v]) st2 X Q
  | .blt f m es, X, τ, st, Q => wpEs es X τ st fun vs st1 => bltV f m vs st1 Q
  | .isi e ty, X, τ, st, Q => wpE e X τ st fun v st1 => oP (isiV ty v) fun b => Q (.bl b) st1
  | .meth f o es, X, τ, st, Q => wpE o X τ st fun v st1 => isLst st1 v ∧ wpEs es X τ st1 fun vs st2 => methV f v vs st2 Q
  | .comp m vs tg it ts elt, X, τ, st, Q => wpI it X τ st fun xs ok st1 => (it.isR = true → xs.length ≤ sizeLine) ∧ ok st1 ∧
      lcL tg (wpTs .And ts fun _ _ => False) (wpE elt fun _ _ => False) (wipeS τ vs) (fun acc st2 => newList m acc st2 Q) xs st1 []
def wpEs : Es → EQ → Sl → Store → (List PV → Store → Prop) → Prop
  | .nil, _, _, st, Q => Q [] st
  | .cons e es, X, τ, st, Q => wpE e X τ st fun v st1 => wpEs es X τ st1 fun vs st2 => Q (v :: vs) st2
def wpBs : BoolOp → Es → EQ → Sl → Store → PQ → Prop
  | _, .nil, _, _, _, _ => False
  | o, .cons e es, X, τ, st, Q => match es with
    | .nil => wpE e X τ st Q
    | .cons _ _ => wpE e X τ st fun v st1 => onBl v fun b => match o with
      | .And => if b = true then wpBs o es X τ st1 Q else Q (.bl false) st1
      | .Or => if b = true then Q (.bl true) st1 else wpBs o es X τ st1 Q
def wpO : OE → EQ → Sl → Store → (Option Int → Store → Prop) → Prop
  | .no, _, _, st, Q => Q none st
  | .yes e, X, τ, st, Q => wpE e X τ st fun v st1 => onInt v fun i => Q (some i) st1
def wpT : T → EQ → Sl → Store → (Bool → Store → Prop) → Prop
  | .val e, X, τ, st, Q => wpE e X τ st fun v st1 => truV v st1 Q
  | .cmp o a b, X, τ, st, Q => wpE a X τ st fun v st1 => wpE b X τ st1 fun w st2 => cmpV o v w st2 fun z st3 => onBl z fun k => Q k st3
  | .chain o o' a b c, X, τ, st, Q => wpE a X τ st fun v st1 => wpE b X τ st1 fun w st2 => cmpV o v w st2 fun z st3 => onBl z fun k =>
      if k = true then wpE c X τ st3 fun u st4 => cmpV o' w u st4 fun y st5 => onBl y fun k' => Q k' st5 else Q false st3
  | .not t, X, τ, st, Q => wpT t X τ st fun k st1 => Q (!k) st1
  | .bools o ts, X, τ, st, Q => wpTs o ts X τ st Q
  | .ite t a b, X, τ, st, Q => wpT t X τ st fun k st1 => if k = true then wpT a X τ st1 Q else wpT b X τ st1 Q
def wpTs : BoolOp → Ts → EQ → Sl → Store → (Bool → Store → Prop) → Prop
  | o, .nil, _, _, st, Q => match o with
    | .And => Q true st
    | .Or => Q false st
  | o, .cons t ts, X, τ, st, Q => wpT t X τ st fun k st1 => match o with
    | .And => if k = true then wpTs o ts X τ st1 Q else Q false st1
    | .Or => if k = true then Q true st1 else wpTs o ts X τ st1 Q
def wpI : I → EQ → Sl → Store → (List PV → (Store → Prop) → Store → Prop) → Prop
  | .val e, X, τ, st, K => wpE e X τ st fun v st1 => itV0 v st1 K
  | .range1 a, X, τ, st, K => wpE a X τ st fun v st1 => onInt v fun j => R62 j ∧ K (rngL 0 j.toNat) (fun _ => True) st1
  | .range2 a b, X, τ, st, K => wpE a X τ st fun v st1 => wpE b X τ st1 fun w st2 => onInt v fun i => onInt w fun j => R62 i ∧ R62 j ∧ K (rngL i (j - i).toNat) (fun _ => True) st2
  | .enum e, X, τ, st, K => wpE e X τ st fun v st1 => itV (enumL 0) v st1 K
  | .zip a b, X, τ, st, K => wpE a X τ st fun v st1 => wpE b X τ st1 fun w st2 => zipV v w st2 K
end

/-! ### exceptions -/
def excNames : List Str := ["BadText", "BadMachine", "BadValue", "TooMany", "OpenEnd", "NotClear", "NothingToUndo"]
/-- whether an error of the class c is one of the class d -/
def subC (c d : Str) : Bool := decide (c = d) || decide (d = ("TicklessError" : Str)) || decide (d = ("ValueError" : Str))
/-- an error's one attribute, and what it may be -/
def fldOf (c : Str) : Str := if c = ("BadValue" : Str) then "what" else if c = ("TooMany" : Str) then "limit" else "line"
def fldNames : List Str := ["what", "limit", "line", "reason", "at", "kind", "first", "second"]
def raiseOk (c : Str) (v : PV) : Prop := match v with
  | .str x => c = ("BadValue" : Str) ∧ x.length ≤ 1000
  | _ => False
mutual
inductive XE where
  | fld (f : Str) | is (d : Str) | str (x : Str) | int (n : Int) | bl (b : Bool) | non | var (i : Nat) | neg (a : XE) | not (a : XE) | ands (xs : XEs) | ite (ts : XEs) (a b : XE) | tup (xs : XEs) | same (g : Str) (a b : XE)
inductive XEs where
  | nil | cons (x : XE) (xs : XEs)
end
def sameOk (v w : PV) : Prop := match v, w with
  | .str x, .str y => x = y ∧ (reprText x).length ≤ sizeLine
  | .int i, .int j => i = j ∧ i.natAbs.log2 < 1920
  | _, _ => False
def onNeg (v : PV) (Q : PV → Prop) : Prop := match v with
  | .int i => Q (.int (-i))
  | _ => False
mutual
def wpX : XE → Exn → Sl → (PV → Prop) → Prop
  | .fld f, e, _, Q => oP (e.2.lookup f) Q
  | .is d, e, _, Q => Q (.bl (subC e.1 d))
  | .str x, _, _, Q => Q (.str x)
  | .int n, _, _, Q => Q (.int n)
  | .bl b, _, _, Q => Q (.bl b)
  | .non, _, _, Q => Q .non
  | .var i, _, τ, Q => oP (getS τ i) Q
  | .neg a, e, τ, Q => wpX a e τ fun v => onNeg v Q
  | .not a, e, τ, Q => wpX a e τ fun v => onBl v fun b => Q (.bl (!b))
  | .ands xs, e, τ, Q => wpXa xs e τ Q
  | .ite ts a b, e, τ, Q => wpXt ts e τ fun k => if k = true then wpX a e τ Q else wpX b e τ Q
  | .tup xs, e, τ, Q => wpXs xs e τ fun vs => vs.length ≤ sizeLine ∧ Q (.tup vs)
  | .same _ a b, e, τ, Q => wpX a e τ fun v => wpX b e τ fun w => sameOk v w ∧ Q (.bl true)
def wpXs : XEs → Exn → Sl → (List PV → Prop) → Prop
  | .nil, _, _, Q => Q []
  | .cons x xs, e, τ, Q => wpX x e τ fun v => wpXs xs e τ fun vs => Q (v :: vs)
def wpXt : XEs → Exn → Sl → (Bool → Prop) → Prop
  | .nil, _, _, Q => Q true
  | .cons x xs, e, τ, Q => wpX x e τ fun v => onBl v fun b => if b = true then wpXt xs e τ Q else Q false
def wpXa : XEs → Exn → Sl → (PV → Prop) → Prop
  | .nil, _, _, _ => False
  | .cons x xs, e, τ, Q => match xs with
    | .nil => wpX x e τ Q
    | .cons _ _ => wpX x e τ fun v => onBl v fun b => if b = true then wpXa xs e τ Q else Q (.bl false)
end
/-! ### a suite's own statements -/
mutual
inductive XS where
  | ret (h : XE)
  | app (j : Nat) (h : XE)
  | ite (ts : XEs) (a b : XSs)
inductive XSs where
  | nil
  | cons (s : XS) (ss : XSs)
end
mutual
def wpXS : XS → Exn → Sl → Store → (Store → Prop) → PQ → Prop
  | .ret h, e, τ, st, _, R => wpX h e τ fun v => R v st
  | .app j h, e, τ, st, N, _ => ∃ a xs, getS τ j = some (.ref a) ∧ st a = some (.lst xs) ∧ xs.length < sizeLine ∧ wpX h e τ fun v => N (up st a (some (.lst (xs ++ [v]))))
  | .ite ts a b, e, τ, st, N, R => wpXt ts e τ fun k => if k = true then wpXSs a e τ st N R else wpXSs b e τ st N R
def wpXSs : XSs → Exn → Sl → Store → (Store → Prop) → PQ → Prop
  | .nil, _, _, st, N, _ => N st
  | .cons s ss, e, τ, st, N, R => wpXS s e τ st (fun st1 => wpXSs ss e τ st1 N R) R
end
/-! ### statements -/
structure PEnds where
  nx : Sl → Store → Prop
  rt : PQ
  bk : Sl → Store → Prop
  ct : Sl → Store → Prop
  ex : Exn → Sl → Store → Prop
mutual
inductive S where
  | asg (tg : TG) (e : E)
  | asgLc (i : Nat) (e : E)
  | setIx (o i e : E)
  | aug (i : Nat) (o : Operator) (e : E)
  | expr (e : E)
  | ret (e : E)
  | retN
  | ite (t : T) (a b : Ss)
  | loop (tg : TG) (it : I) (b : Ss)
  | while (t : T) (b : Ss)
  | pass
  | brk
  | cont
  | never
  | raise (c : Str) (es : Es)
  | tryX (b : Ss) (c : Str) (i : Nat) (h : XE)
  | tryH (b : Ss) (c : Str) (i : Nat) (h : XSs)
inductive Ss where
  | nil
  | cons (s : S) (ss : Ss)
end
def setIxV (o i v : PV) (st : Store) (Q : Store → Prop) : Prop :=
  match o, i with
  | .ref a, .int k => ∃ xs j, st a = some (.lst xs) ∧ ixN xs.length k = some j ∧ Q (up st a (some (.lst (xs.set j v))))
  | _, _ => False
def augV (o : Operator) (v w : PV) (st : Store) (Q : PQ) : Prop :=
  match o, v, w with
  | .Add, .int i, .int j => Q (.int (i + j)) st
  | .Sub, .int i, .int j => Q (.int (i - j)) st
  | _, _, _ => False
def forL (tg : TG) (b : PEnds → Sl → Store → Prop) (ok : Store → Prop) : List PV → PEnds → Sl → Store → Prop
  | [], D, τ, st => ok st ∧ D.nx τ st
  | x :: r, D, τ, st => ok st ∧ oP (tg.asg x τ) fun τ1 => b { D with nx := forL tg b ok r D, ct := forL tg b ok r D, bk := D.nx } τ1 st
def whileL (t : Sl → Store → (Bool → Store → Prop) → Prop) (b : PEnds → Sl → Store → Prop) (D : PEnds) (τ : Sl) (st : Store) : Prop :=
  ∃ W : Nat → Sl → Store → Prop, (∃ n, W n τ st) ∧ ∀ n τ st, W n τ st → t τ st fun k st1 => if k = true then
    b { D with nx := fun τ' st' => ∃ m, m < n ∧ W m τ' st', ct := fun τ' st' => ∃ m, m < n ∧ W m τ' st', bk := D.nx } τ st1 else D.nx τ st1
mutual
def wpS : S → PEnds → Sl → Store → Prop
  | .asg tg e, D, τ, st => wpE e (fun x s => D.ex x τ s) τ st fun v st1 => oP (tg.asg v τ) fun τ' => D.nx τ' st1
  | .asgLc i e, D, τ, st => wpE e (fun x s => D.ex x τ s) τ st fun v st1 => D.nx (setS τ i (some v)) st1
  | .setIx o i e, D, τ, st => wpE e (fun x s => D.ex x τ s) τ st fun v st1 => wpE o (fun x s => D.ex x τ s) τ st1 fun ov st2 => wpE i (fun x s => D.ex x τ s) τ st2 fun iv st3 => setIxV ov iv v st3 fun st4 => D.nx τ st4
  | .aug i o e, D, τ, st => oP (getS τ i) fun v => wpE e (fun x s => D.ex x τ s) τ st fun w st1 => augV o v w st1 fun z st2 => D.nx (setS τ i (some z)) st2
  | .expr e, D, τ, st => wpE e (fun x s => D.ex x τ s) τ st fun _ st1 => D.nx τ st1
  | .ret e, D, τ, st => wpE e (fun x s => D.ex x τ s) τ st D.rt
  | .retN, D, _, st => D.rt .non st
  | .ite t a b, D, τ, st => wpT t (fun x s => D.ex x τ s) τ st fun k st1 => if k = true then wpSs a D τ st1 else wpSs b D τ st1
  | .loop tg it b, D, τ, st => wpI it (fun x s => D.ex x τ s) τ st fun xs ok st1 => forL tg (wpSs b) ok xs D τ st1
  | .while t b, D, τ, st => whileL (fun τ st Q => wpT t (fun x s => D.ex x τ s) τ st Q) (wpSs b) D τ st
  | .pass, D, τ, st => D.nx τ st
  | .brk, D, τ, st => D.bk τ st
  | .cont, D, τ, st => D.ct τ st
  | .never, _, _, _ => False
  | .raise c es, D, τ, st => wpEs es (fun x s => D.ex x τ s) τ st fun vs st1 => ∃ v, vs = [v] ∧ raiseOk c v ∧ D.ex (c, [(fldOf c, v)]) τ st1
  | .tryX b c i h, D, τ, st => wpSs b { D with ex := fun e τ' st' => e.1 ∈ excNames ∧ if subC e.1 c = true then getS τ' i = none ∧ i < τ'.length ∧ wpX h e τ' (fun v => D.rt v st') else D.ex e τ' st' } τ st
  | .tryH b c i h, D, τ, st => wpSs b { D with ex := fun e τ' st' => e.1 ∈ excNames ∧ if subC e.1 c = true then getS τ' i = none ∧ i < τ'.length ∧ wpXSs h e τ' st' (D.nx τ') D.rt else D.ex e τ' st' } τ st
def wpSs : Ss → PEnds → Sl → Store → Prop
  | .nil, D, τ, st => D.nx τ st
  | .cons s ss, D, τ, st => wpS s { D with nx := wpSs ss D } τ st
end
def initS (n : Nat) (vs : List PV) : Sl := vs.map some ++ List.replicate (n - vs.length) none
/-- a def's body: what it leaves behind may be forgotten -/
def wpFn (n : Nat) (b : Ss) (vs : List PV) (st : Store) (Q : PQ) (X : EQ) : Prop :=
  wpSs b ⟨fun _ s => ∃ s0, Sub s0 s ∧ Q .non s0, fun v s => ∃ s0, Sub s0 s ∧ Q v s0, fun _ _ => False, fun _ _ => False, fun e _ s => ∃ s0, Sub s0 s ∧ X e s0⟩ (initS n vs) st
end TK

set_option maxRecDepth 100000
set_option maxHeartbeats 1000000
namespace TK
open PySem PySem.Spec PyProof.Rows L2
/-! ### a weaker wish -/
theorem oP_mono {α : Type} {o : Option α} {k k' : α → Prop} (hk : ∀ a, k a → k' a) (h : oP o k) : oP o k' := by
  cases o with
  | none => exact h
  | some a => exact hk a h
theorem onBl_mono {v : PV} {k k' : Bool → Prop} (hk : ∀ a, k a → k' a) (h : onBl v k) : onBl v k' := by
  cases v with
  | bl b => exact hk b h
  | _ => exact h
theorem onInt_mono {v : PV} {k k' : Int → Prop} (hk : ∀ a, k a → k' a) (h : onInt v k) : onInt v k' := by
  cases v with
  | int b => exact hk b h
  | _ => exact h
section
variable {Q Q' : PQ} {st : Store}
theorem newList_mono {m : Bool} {xs : List PV} (hq : ∀ v s, Q v s → Q' v s) (h : newList m xs st Q) : newList m xs st Q' := by
  cases m with
  | true => exact fun p hp => hq _ _ (h p hp)
  | false => exact hq _ _ h
theorem onStr_mono {v : PV} {k k' : Str → Prop} (hq : ∀ b, k b → k' b) (h : onStr v k) : onStr v k' := by
  unfold onStr at h ⊢
  split at h
  · exact hq _ h
  · exact h.elim
theorem binV_mono {o : Operator} {m : Bool} {v w : PV} (hq : ∀ v s, Q v s → Q' v s) (h : binV o m v w st Q) : binV o m v w st Q' := by
  unfold binV at h
  split at h <;> first
    | exact h.elim
    | exact hq _ _ h
    | exact ⟨h.1, hq _ _ h.2⟩
    | exact ⟨h.1, newList_mono hq h.2⟩
    | (obtain ⟨a, b, c, d⟩ := h; exact ⟨a, b, c, newList_mono hq d⟩)
    | (obtain ⟨a, b, c⟩ := h; exact ⟨a, b, newList_mono hq c⟩)
    | (obtain ⟨a, b, c, d, e, f⟩ := h; exact ⟨a, b, c, d, e, newList_mono hq f⟩)
    | (obtain ⟨a, b, c, d, e⟩ := h; exact ⟨a, b, c, d, newList_mono hq e⟩)
theorem unV_mono {f : UF} {v : PV} (hq : ∀ v s, Q v s → Q' v s) (h : unV f v st Q) : unV f v st Q' := by
  unfold unV at h
  split at h
  · exact hq _ _ h
  · unfold unV
    exact oP_mono (fun _ h => oP_mono (fun _ h => hq _ _ h) h) h
  · unfold unV
    exact oP_mono (fun _ h => hq _ _ h) h
  · exact h.elim
theorem negV_mono {v : PV} (hq : ∀ v s, Q v s → Q' v s) (h : negV v st Q) : negV v st Q' := by
  unfold negV at h
  split at h
  · exact hq _ _ h
  · exact h.elim
theorem cmpV_mono {o : CmpOp} {v w : PV} (hq : ∀ v s, Q v s → Q' v s) (h : cmpV o v w st Q) : cmpV o v w st Q' := by
  unfold cmpV at h ⊢
  cases o <;> dsimp only at h ⊢
  all_goals first
    | exact ⟨h.1, hq _ _ h.2⟩
    | exact oP_mono (fun xs h => ⟨h.1, hq _ _ h.2⟩) h
    | (split at h <;> first | exact h.elim | exact hq _ _ h | exact onBl_mono (fun _ h => hq _ _ h) h | exact onStr_mono (fun _ h => hq _ _ h) h | exact oP_mono (fun xs h => ⟨h.1, hq _ _ h.2⟩) h)
theorem idxV_mono {v w : PV} (hq : ∀ v s, Q v s → Q' v s) (h : idxV v w st Q) : idxV v w st Q' := by
  unfold idxV at h ⊢
  refine onInt_mono (fun i h => ?_) h
  unfold itemV at h ⊢
  split at h
  · exact ⟨h.1, oP_mono (fun _ h => hq _ _ h) h.2⟩
  · exact oP_mono (fun _ h => hq _ _ h) h
  · exact oP_mono (fun _ h => hq _ _ h) h
  · exact oP_mono (fun _ h => oP_mono (fun _ h => hq _ _ h) h) h
  · exact h.elim
theorem sliceV_mono {m : Bool} {v : PV} {lo hi : Option Int} (hq : ∀ v s, Q v s → Q' v s) (h : sliceV m v lo hi st Q) : sliceV m v lo hi st Q' := by
  unfold sliceV at h
  split at h
  · exact hq _ _ h
  · exact newList_mono hq h
  · obtain ⟨xs, e, h⟩ := h
    exact ⟨xs, e, newList_mono hq h⟩
  · exact h.elim
theorem bltV_mono {f : BF} {m : Bool} {vs : List PV} (hq : ∀ v s, Q v s → Q' v s) (h : bltV f m vs st Q) : bltV f m vs st Q' := by
  unfold bltV at h
  split at h <;> first
    | exact h.elim
    | exact hq _ _ h
    | exact newList_mono hq h
    | exact ⟨h.1, hq _ _ h.2⟩
    | exact oP_mono (fun _ h => hq _ _ h) h
    | exact oP_mono (fun _ h => newList_mono hq h) h
    | exact oP_mono (fun _ h => oP_mono (fun _ h => hq _ _ h) h) h
    | exact oP_mono (fun _ h => oP_mono (fun _ h => ⟨h.1, hq _ _ h.2⟩) h) h
theorem methV_mono {f : MF} {o : PV} {vs : List PV} (hq : ∀ v s, Q v s → Q' v s) (h : methV f o vs st Q) : methV f o vs st Q' := by
  unfold methV at h
  split at h
  · obtain ⟨a, b, c, d⟩ := h; exact ⟨a, b, c, hq _ _ d⟩
  · obtain ⟨a, b, c, d, e, f⟩ := h; exact ⟨a, b, c, d, e, hq _ _ f⟩
  · obtain ⟨a, b, c, d, e⟩ := h; exact ⟨a, b, c, d, hq _ _ e⟩
  · obtain ⟨a, b, z, c, d, e, f, g, i, j⟩ := h; exact ⟨a, b, z, c, d, e, f, g, i, hq _ _ j⟩
  · exact h.elim
theorem augV_mono {o : Operator} {v w : PV} (hq : ∀ v s, Q v s → Q' v s) (h : augV o v w st Q) : augV o v w st Q' := by
  unfold augV at h
  split at h <;> first | exact h.elim | exact hq _ _ h
theorem truV_mono {v : PV} {P P' : Bool → Store → Prop} (hq : ∀ v s, P v s → P' v s) (h : truV v st P) : truV v st P' := by
  unfold truV at h
  split at h <;> first
    | exact hq _ _ h
    | (obtain ⟨xs, e, h⟩ := h; exact ⟨xs, e, hq _ _ h⟩)
    | exact h.elim
theorem callS_mono {sp : PSpec} {vs : List PV} {X X' : EQ} (hx : ∀ e s, X e s → X' e s) (hq : ∀ v s, Q v s → Q' v s) (h : callS sp vs st X Q) : callS sp vs st X' Q' := by
  obtain ⟨Q0, X0, h, a, b⟩ := h
  exact ⟨Q0, X0, h, fun v s q => hq _ _ (a v s q), fun e s q => hx _ _ (b e s q)⟩
theorem setIxV_mono {o i v : PV} {P P' : Store → Prop} (hq : ∀ s, P s → P' s) (h : setIxV o i v st P) : setIxV o i v st P' := by
  unfold setIxV at h
  split at h
  · obtain ⟨xs, j, a, b, c⟩ := h
    exact ⟨xs, j, a, b, hq _ c⟩
  · exact h.elim
theorem frzV_mono {v : PV} (hq : ∀ v s, Q v s → Q' v s) (h : frzV v st Q) : frzV v st Q' := by
  unfold frzV at h ⊢
  split at h
  · exact oP_mono (fun _ h => hq _ _ h) h
  · exact hq _ _ h
theorem itV_mono {f : List PV → List PV} {v : PV} {K K' : List PV → (Store → Prop) → Store → Prop} (hq : ∀ v o s, K v o s → K' v o s) (h : itV f v st K) : itV f v st K' := by
  unfold itV at h ⊢
  split at h <;> first
    | exact hq _ _ _ h
    | exact oP_mono (fun _ h => hq _ _ _ h) h
    | exact h.elim
theorem itV0_mono {v : PV} {K K' : List PV → (Store → Prop) → Store → Prop} (hq : ∀ v o s, K v o s → K' v o s) (h : itV0 v st K) : itV0 v st K' := by
  unfold itV0 at h ⊢
  split at h
  · exact ⟨h.1, hq _ _ _ h.2⟩
  · exact itV_mono hq h
theorem itVL_mono {f : List PV → List PV} {v : PV} {K K' : List PV → (Store → Prop) → Store → Prop} (hq : ∀ v o s, K v o s → K' v o s) (h : itVL f v st K) : itVL f v st K' := by
  unfold itVL at h ⊢
  split at h <;> first
    | exact hq _ _ _ h
    | exact oP_mono (fun _ h => hq _ _ _ h) h
    | exact h.elim
theorem zipV_mono {v w : PV} {K K' : List PV → (Store → Prop) → Store → Prop} (hq : ∀ v o s, K v o s → K' v o s) (h : zipV v w st K) : zipV v w st K' := by
  unfold zipV at h ⊢
  split at h <;> first
    | exact hq _ _ _ h
    | exact h.elim
end
theorem ite_mono {c : Bool} {P P' R R' : Prop} (h1 : P → P') (h2 : R → R') (h : if c = true then P else R) : if c = true then P' else R' := by
  cases c with
  | true => exact h1 h
  | false => exact h2 h
theorem lcS_mono {st st' : Store} {y : PV} {st2 : Store} {C C' : Store → Prop} (h : ∀ s, C s → C' s) (k : lcS st st' y st2 C) : lcS st st' y st2 C' := by
  rcases k with ⟨a, b⟩ | ⟨p, xs, a, b, c, d⟩
  · exact .inl ⟨a, h _ b⟩
  · exact .inr ⟨p, xs, a, b, c, h _ d⟩
theorem lcL_mono {tg : TG} {t : Sl → Store → (Bool → Store → Prop) → Prop} {e : Sl → Store → PQ → Prop} {τ : Sl}
    (ht : ∀ τ st (P P' : Bool → Store → Prop), (∀ v s, P v s → P' v s) → t τ st P → t τ st P') (he : ∀ τ st (P P' : PQ), (∀ v s, P v s → P' v s) → e τ st P → e τ st P')
    {K K' : List PV → Store → Prop} (hk : ∀ v s, K v s → K' v s) : ∀ {xs : List PV} {st : Store} {acc : List PV}, lcL tg t e τ K xs st acc → lcL tg t e τ K' xs st acc
  | [], _, _, h => hk _ _ h
  | x :: r, st, acc, h => by
    refine oP_mono (fun τ1 h => ?_) h
    intro st' hs
    refine ht _ _ _ _ (fun b s hb => ⟨hb.1, ?_⟩) (h st' hs)
    exact ite_mono (fun hb => he _ _ _ _ (fun y s2 hy => lcS_mono (fun _ h => lcL_mono ht he hk h) hy) hb) (fun hb => lcL_mono ht he hk hb) hb.2
mutual
theorem wpE_mono : ∀ (e : E) {X X' : EQ} {τ : Sl} {st : Store} {Q Q' : PQ}, (∀ e s, X e s → X' e s) → (∀ v s, Q v s → Q' v s) → wpE e X τ st Q → wpE e X' τ st Q'
  | .var i, X, X', τ, st, Q, Q', hx, hq, h => oP_mono (fun _ h => hq _ _ h) h
  | .fvar i, X, X', τ, st, Q, Q', hx, hq, h => oP_mono (fun _ h => frzV_mono hq h) h
  | .int n, X, X', τ, st, Q, Q', hx, hq, h => hq _ _ h
  | .bl n, X, X', τ, st, Q, Q', hx, hq, h => hq _ _ h
  | .non, X, X', τ, st, Q, Q', hx, hq, h => hq _ _ h
  | .str n, X, X', τ, st, Q, Q', hx, hq, h => hq _ _ h
  | .glob x v, X, X', τ, st, Q, Q', hx, hq, h => hq _ _ h
  | .bin o m a b, X, X', τ, st, Q, Q', hx, hq, h => by
    unfold wpE at h ⊢
    exact wpE_mono a hx (fun v s h => wpE_mono b hx (fun w s h => binV_mono hq h) h) h
  | .neg a, X, X', τ, st, Q, Q', hx, hq, h => by
    unfold wpE at h ⊢
    exact wpE_mono a hx (fun v s h => negV_mono hq h) h
  | .un f a, X, X', τ, st, Q, Q', hx, hq, h => by
    unfold wpE at h ⊢
    exact wpE_mono a hx (fun v s h => unV_mono hq h) h
  | .not a, X, X', τ, st, Q, Q', hx, hq, h => by
    unfold wpE at h ⊢
    exact wpE_mono a hx (fun v s h => onBl_mono (fun _ h => hq _ _ h) h) h
  | .cmp o a b, X, X', τ, st, Q, Q', hx, hq, h => by
    unfold wpE at h ⊢
    exact wpE_mono a hx (fun v s h => wpE_mono b hx (fun w s h => cmpV_mono hq h) h) h
  | .chain o o' a b c, X, X', τ, st, Q, Q', hx, hq, h => by
    unfold wpE at h ⊢
    refine wpE_mono a hx (fun v s h => wpE_mono b hx (fun w s h => cmpV_mono (fun z s h => onBl_mono (fun k h => ?_) h) h) h) h
    exact ite_mono (fun h => wpE_mono c hx (fun u s h => cmpV_mono hq h) h) (fun h => hq _ _ h) h
  | .bools o es, X, X', τ, st, Q, Q', hx, hq, h => by
    unfold wpE at h ⊢
    exact wpBs_mono es hx hq h
  | .ite t a b, X, X', τ, st, Q, Q', hx, hq, h => by
    unfold wpE at h ⊢
    exact wpT_mono t hx (fun k s h => ite_mono (fun h => wpE_mono a hx hq h) (fun h => wpE_mono b hx hq h) h) h
  | .tup es, X, X', τ, st, Q, Q', hx, hq, h => by
    unfold wpE at h ⊢
    exact wpEs_mono es hx (fun vs s h => ⟨h.1, hq _ _ h.2⟩) h
  | .lst m es, X, X', τ, st, Q, Q', hx, hq, h => by
    unfold wpE at h ⊢
    exact wpEs_mono es hx (fun vs s h => ⟨h.1, newList_mono hq h.2⟩) h
  | .idx a i, X, X', τ, st, Q, Q', hx, hq, h => by
    unfold wpE at h ⊢
    exact wpE_mono a hx (fun v s h => wpE_mono i hx (fun w s h => idxV_mono hq h) h) h
  | .slice m a lo hi, X, X', τ, st, Q, Q', hx, hq, h => by
    unfold wpE at h ⊢
    exact wpE_mono a hx (fun v s h => wpO_mono lo hx (fun l s h => wpO_mono hi hx (fun u s h => sliceV_mono hq h) h) h) h
  | .call f sp es, X, X', τ, st, Q, Q', hx, hq, h => by
    unfold wpE at h ⊢
    exact wpEs_mono es hx (fun vs s h => callS_mono hx hq h) h
  | .callK f ks sp es ek, X, X', τ, st, Q, Q', hx, hq, h => by
    unfold wpE at h ⊢
    exact wpEs_mono es hx (fun vs s h => wpE_mono ek hx (fun v s h => callS_mono hx hq h) h) h
  | .blt f m es, X, X', τ, st, Q, Q', hx, hq, h => by
    unfold wpE at h ⊢
    exact wpEs_mono es hx (fun vs s h => bltV_mono hq h) h
  | .isi e ty, X, X', τ, st, Q, Q', hx, hq, h => by
    unfold wpE at h ⊢
    exact wpE_mono e hx (fun v s h => oP_mono (fun _ h => hq _ _ h) h) h
  | .meth f o es, X, X', τ, st, Q, Q', hx, hq, h => by
    unfold wpE at h ⊢
    exact wpE_mono o hx (fun v s h => ⟨h.1, wpEs_mono es hx (fun vs s h => methV_mono hq h) h.2⟩) h
  | .comp m vs tg it ts elt, X, X', τ, st, Q, Q', hx, hq, h => by
    unfold wpE at h ⊢
    refine wpI_mono it hx (fun xs ok s h => ⟨h.1, h.2.1, ?_⟩) h
    refine lcL_mono ?_ ?_ (fun acc s h => newList_mono hq h) h.2.2
    · exact fun τ st P P' hp h => wpTs_mono ts (fun _ _ z => z) hp h
    · exact fun τ st P P' hp h => wpE_mono elt (fun _ _ z => z) hp h
theorem wpEs_mono : ∀ (e : Es) {X X' : EQ} {τ : Sl} {st : Store} {Q Q' : List PV → Store → Prop}, (∀ e s, X e s → X' e s) → (∀ v s, Q v s → Q' v s) → wpEs e X τ st Q → wpEs e X' τ st Q'
  | .nil, X, X', τ, st, Q, Q', hx, hq, h => hq _ _ h
  | .cons e es, X, X', τ, st, Q, Q', hx, hq, h => by
    unfold wpEs at h ⊢
    exact wpE_mono e hx (fun v s h => wpEs_mono es hx (fun vs s h => hq _ _ h) h) h
theorem wpBs_mono : ∀ (e : Es) {o : BoolOp} {X X' : EQ} {τ : Sl} {st : Store} {Q Q' : PQ}, (∀ e s, X e s → X' e s) → (∀ v s, Q v s → Q' v s) → wpBs o e X τ st Q → wpBs o e X' τ st Q'
  | .nil, o, X, X', τ, st, Q, Q', hx, hq, h => h
  | .cons e .nil, o, X, X', τ, st, Q, Q', hx, hq, h => by
    unfold wpBs at h ⊢
    exact wpE_mono e hx hq h
  | .cons e (.cons e' es), o, X, X', τ, st, Q, Q', hx, hq, h => by
    unfold wpBs at h ⊢
    dsimp only at h ⊢
    refine wpE_mono e hx (fun v s h => onBl_mono (fun b h => ?_) h) h
    cases o with
    | And => exact ite_mono (fun h => wpBs_mono (.cons e' es) hx hq h) (fun h => hq _ _ h) h
    | Or => exact ite_mono (fun h => hq _ _ h) (fun h => wpBs_mono (.cons e' es) hx hq h) h
theorem wpO_mono : ∀ (e : OE) {X X' : EQ} {τ : Sl} {st : Store} {Q Q' : Option Int → Store → Prop}, (∀ e s, X e s → X' e s) → (∀ v s, Q v s → Q' v s) → wpO e X τ st Q → wpO e X' τ st Q'
  | .no, X, X', τ, st, Q, Q', hx, hq, h => hq _ _ h
  | .yes e, X, X', τ, st, Q, Q', hx, hq, h => by
    unfold wpO at h ⊢
    exact wpE_mono e hx (fun v s h => onInt_mono (fun _ h => hq _ _ h) h) h
theorem wpT_mono : ∀ (e : T) {X X' : EQ} {τ : Sl} {st : Store} {Q Q' : Bool → Store → Prop}, (∀ e s, X e s → X' e s) → (∀ v s, Q v s → Q' v s) → wpT e X τ st Q → wpT e X' τ st Q'
  | .val e, X, X', τ, st, Q, Q', hx, hq, h => by
    unfold wpT at h ⊢
    exact wpE_mono e hx (fun v s h => truV_mono hq h) h
  | .cmp o a b, X, X', τ, st, Q, Q', hx, hq, h => by
    unfold wpT at h ⊢
    exact wpE_mono a hx (fun v s h => wpE_mono b hx (fun w s h => cmpV_mono (fun z s h => onBl_mono (fun _ h => hq _ _ h) h) h) h) h
  | .chain o o' a b c, X, X', τ, st, Q, Q', hx, hq, h => by
    unfold wpT at h ⊢
    refine wpE_mono a hx (fun v s h => wpE_mono b hx (fun w s h => cmpV_mono (fun z s h => onBl_mono (fun k h => ?_) h) h) h) h
    exact ite_mono (fun h => wpE_mono c hx (fun u s h => cmpV_mono (fun z s h => onBl_mono (fun _ h => hq _ _ h) h) h) h) (fun h => hq _ _ h) h
  | .not t, X, X', τ, st, Q, Q', hx, hq, h => by
    unfold wpT at h ⊢
    exact wpT_mono t hx (fun k s h => hq _ _ h) h
  | .bools o ts, X, X', τ, st, Q, Q', hx, hq, h => by
    unfold wpT at h ⊢
    exact wpTs_mono ts hx hq h
  | .ite t a b, X, X', τ, st, Q, Q', hx, hq, h => by
    unfold wpT at h ⊢
    exact wpT_mono t hx (fun k s h => ite_mono (fun h => wpT_mono a hx hq h) (fun h => wpT_mono b hx hq h) h) h
theorem wpTs_mono : ∀ (e : Ts) {o : BoolOp} {X X' : EQ} {τ : Sl} {st : Store} {Q Q' : Bool → Store → Prop}, (∀ e s, X e s → X' e s) → (∀ v s, Q v s → Q' v s) → wpTs o e X τ st Q → wpTs o e X' τ st Q'
  | .nil, o, X, X', τ, st, Q, Q', hx, hq, h => by
    unfold wpTs at h ⊢
    cases o <;> exact hq _ _ h
  | .cons t ts, o, X, X', τ, st, Q, Q', hx, hq, h => by
    unfold wpTs at h ⊢
    refine wpT_mono t hx (fun k s h => ?_) h
    cases o with
    | And => exact ite_mono (fun h => wpTs_mono ts hx hq h) (fun h => hq _ _ h) h
    | Or => exact ite_mono (fun h => hq _ _ h) (fun h => wpTs_mono ts hx hq h) h
theorem wpI_mono : ∀ (e : I) {X X' : EQ} {τ : Sl} {st : Store} {Q Q' : List PV → (Store → Prop) → Store → Prop}, (∀ e s, X e s → X' e s) → (∀ v o s, Q v o s → Q' v o s) → wpI e X τ st Q → wpI e X' τ st Q'
  | .val e, X, X', τ, st, Q, Q', hx, hq, h => by
    unfold wpI at h ⊢
    exact wpE_mono e hx (fun v s h => itV0_mono hq h) h
  | .range1 a, X, X', τ, st, Q, Q', hx, hq, h => by
    unfold wpI at h ⊢
    exact wpE_mono a hx (fun v s h => onInt_mono (fun j h => ⟨h.1, hq _ _ _ h.2⟩) h) h
  | .range2 a b, X, X', τ, st, Q, Q', hx, hq, h => by
    unfold wpI at h ⊢
    exact wpE_mono a hx (fun v s h => wpE_mono b hx (fun w s h => onInt_mono (fun i h => onInt_mono (fun j h => ⟨h.1, h.2.1, hq _ _ _ h.2.2⟩) h) h) h) h
  | .enum e, X, X', τ, st, Q, Q', hx, hq, h => by
    unfold wpI at h ⊢
    exact wpE_mono e hx (fun v s h => itV_mono hq h) h
  | .zip a b, X, X', τ, st, Q, Q', hx, hq, h => by
    unfold wpI at h ⊢
    exact wpE_mono a hx (fun v s h => wpE_mono b hx (fun w s h => zipV_mono hq h) h) h
end
structure PEnds.Le (D D' : PEnds) : Prop where
  nx : ∀ τ s, D.nx τ s → D'.nx τ s
  rt : ∀ v s, D.rt v s → D'.rt v s
  bk : ∀ τ s, D.bk τ s → D'.bk τ s
  ct : ∀ τ s, D.ct τ s → D'.ct τ s
  ex : ∀ e τ s, D.ex e τ s → D'.ex e τ s
theorem forL_mono {tg : TG} {b : PEnds → Sl → Store → Prop} {ok : Store → Prop} (hb : ∀ (D D' : PEnds) τ st, D.Le D' → b D τ st → b D' τ st) :
    ∀ {xs : List PV} {D D' : PEnds} {τ : Sl} {st : Store}, D.Le D' → forL tg b ok xs D τ st → forL tg b ok xs D' τ st
  | [], _, _, _, _, hd, h => ⟨h.1, hd.nx _ _ h.2⟩
  | x :: r, D, D', τ, st, hd, h => by
    refine ⟨h.1, oP_mono (fun τ1 h => ?_) h.2⟩
    refine hb _ _ _ _ ?_ h
    exact ⟨fun _ _ h => forL_mono hb hd h, hd.rt, fun _ _ h => hd.nx _ _ h, fun _ _ h => forL_mono hb hd h, hd.ex⟩
theorem onNeg_mono {v : PV} {Q Q' : PV → Prop} (hq : ∀ v, Q v → Q' v) (h : onNeg v Q) : onNeg v Q' := by
  cases v <;> first | exact hq _ h | exact h
mutual
theorem wpX_mono : ∀ (x : XE) {e : Exn} {τ : Sl} {Q Q' : PV → Prop}, (∀ v, Q v → Q' v) → wpX x e τ Q → wpX x e τ Q'
  | .fld f, e, τ, Q, Q', hq, h => oP_mono hq h
  | .is d, e, τ, Q, Q', hq, h => hq _ h
  | .str x, e, τ, Q, Q', hq, h => hq _ h
  | .int n, e, τ, Q, Q', hq, h => hq _ h
  | .bl b, e, τ, Q, Q', hq, h => hq _ h
  | .non, e, τ, Q, Q', hq, h => hq _ h
  | .var i, e, τ, Q, Q', hq, h => oP_mono hq h
  | .neg a, e, τ, Q, Q', hq, h => by
    unfold wpX at h ⊢
    exact wpX_mono a (fun v h => onNeg_mono hq h) h
  | .not a, e, τ, Q, Q', hq, h => by
    unfold wpX at h ⊢
    exact wpX_mono a (fun v h => onBl_mono (fun b h => hq _ h) h) h
  | .ands xs, e, τ, Q, Q', hq, h => by
    unfold wpX at h ⊢
    exact wpXa_mono xs hq h
  | .ite t a b, e, τ, Q, Q', hq, h => by
    unfold wpX at h ⊢
    exact wpXt_mono t (fun k h => ite_mono (fun h => wpX_mono a hq h) (fun h => wpX_mono b hq h) h) h
  | .tup xs, e, τ, Q, Q', hq, h => by
    unfold wpX at h ⊢
    exact wpXs_mono xs (fun vs h => ⟨h.1, hq _ h.2⟩) h
  | .same g a b, e, τ, Q, Q', hq, h => by
    unfold wpX at h ⊢
    exact wpX_mono a (fun v h => wpX_mono b (fun w h => ⟨h.1, hq _ h.2⟩) h) h
theorem wpXs_mono : ∀ (xs : XEs) {e : Exn} {τ : Sl} {Q Q' : List PV → Prop}, (∀ v, Q v → Q' v) → wpXs xs e τ Q → wpXs xs e τ Q'
  | .nil, e, τ, Q, Q', hq, h => hq _ h
  | .cons x xs, e, τ, Q, Q', hq, h => by
    unfold wpXs at h ⊢
    exact wpX_mono x (fun v h => wpXs_mono xs (fun vs h => hq _ h) h) h
theorem wpXt_mono : ∀ (xs : XEs) {e : Exn} {τ : Sl} {Q Q' : Bool → Prop}, (∀ v, Q v → Q' v) → wpXt xs e τ Q → wpXt xs e τ Q'
  | .nil, e, τ, Q, Q', hq, h => hq _ h
  | .cons x xs, e, τ, Q, Q', hq, h => by
    unfold wpXt at h ⊢
    exact wpX_mono x (fun v h => onBl_mono (fun b h => ite_mono (fun h => wpXt_mono xs hq h) (fun h => hq _ h) h) h) h
theorem wpXa_mono : ∀ (xs : XEs) {e : Exn} {τ : Sl} {Q Q' : PV → Prop}, (∀ v, Q v → Q' v) → wpXa xs e τ Q → wpXa xs e τ Q'
  | .nil, e, τ, Q, Q', hq, h => by
    unfold wpXa at h
    exact h.elim
  | .cons x .nil, e, τ, Q, Q', hq, h => by
    unfold wpXa at h ⊢
    exact wpX_mono x hq h
  | .cons x (.cons y ys), e, τ, Q, Q', hq, h => by
    unfold wpXa at h ⊢
    exact wpX_mono x (fun v h => onBl_mono (fun b h => ite_mono (fun h => wpXa_mono (.cons y ys) hq h) (fun h => hq _ h) h) h) h
end
mutual
theorem wpXS_mono : ∀ (x : XS) {e : Exn} {τ : Sl} {st : Store} {N N' : Store → Prop} {R R' : PQ}, (∀ s, N s → N' s) → (∀ v s, R v s → R' v s) → wpXS x e τ st N R → wpXS x e τ st N' R'
  | .ret x, e, τ, st, N, N', R, R', hn, hr, h => by
    unfold wpXS at h ⊢
    exact wpX_mono x (fun v h => hr _ _ h) h
  | .app j x, e, τ, st, N, N', R, R', hn, hr, h => by
    unfold wpXS at h ⊢
    obtain ⟨a, xs, h1, h2, h3, h⟩ := h
    exact ⟨a, xs, h1, h2, h3, wpX_mono x (fun v h => hn _ h) h⟩
  | .ite ts a b, e, τ, st, N, N', R, R', hn, hr, h => by
    unfold wpXS at h ⊢
    exact wpXt_mono ts (fun k h => ite_mono (fun h => wpXSs_mono a hn hr h) (fun h => wpXSs_mono b hn hr h) h) h
theorem wpXSs_mono : ∀ (x : XSs) {e : Exn} {τ : Sl} {st : Store} {N N' : Store → Prop} {R R' : PQ}, (∀ s, N s → N' s) → (∀ v s, R v s → R' v s) → wpXSs x e τ st N R → wpXSs x e τ st N' R'
  | .nil, e, τ, st, N, N', R, R', hn, hr, h => by
    unfold wpXSs at h ⊢
    exact hn _ h
  | .cons s ss, e, τ, st, N, N', R, R', hn, hr, h => by
    unfold wpXSs at h ⊢
    exact wpXS_mono s (fun s h => wpXSs_mono ss hn hr h) hr h
end
mutual
theorem wpS_mono : ∀ (s : S) {D D' : PEnds} {τ : Sl} {st : Store}, D.Le D' → wpS s D τ st → wpS s D' τ st
  | .asg tg e, D, D', τ, st, hd, h => by
    unfold wpS at h ⊢
    exact wpE_mono e (fun x s h => hd.ex _ _ _ h) (fun v s h => oP_mono (fun _ h => hd.nx _ _ h) h) h
  | .asgLc i e, D, D', τ, st, hd, h => by
    unfold wpS at h ⊢
    exact wpE_mono e (fun x s h => hd.ex _ _ _ h) (fun v s h => hd.nx _ _ h) h
  | .setIx o i e, D, D', τ, st, hd, h => by
    unfold wpS at h ⊢
    exact wpE_mono e (fun x s h => hd.ex _ _ _ h) (fun v s h => wpE_mono o (fun x s h => hd.ex _ _ _ h) (fun v s h => wpE_mono i (fun x s h => hd.ex _ _ _ h) (fun v s h => setIxV_mono (fun s h => hd.nx _ _ h) h) h) h) h
  | .aug i o e, D, D', τ, st, hd, h => by
    unfold wpS at h ⊢
    exact oP_mono (fun v h => wpE_mono e (fun x s h => hd.ex _ _ _ h) (fun v s h => augV_mono (fun v s h => hd.nx _ _ h) h) h) h
  | .expr e, D, D', τ, st, hd, h => by
    unfold wpS at h ⊢
    exact wpE_mono e (fun x s h => hd.ex _ _ _ h) (fun v s h => hd.nx _ _ h) h
  | .ret e, D, D', τ, st, hd, h => by
    unfold wpS at h ⊢
    exact wpE_mono e (fun x s h => hd.ex _ _ _ h) (fun v s h => hd.rt _ _ h) h
  | .retN, D, D', τ, st, hd, h => hd.rt _ _ h
  | .ite t a b, D, D', τ, st, hd, h => by
    unfold wpS at h ⊢
    exact wpT_mono t (fun x s h => hd.ex _ _ _ h) (fun k s h => ite_mono (fun h => wpSs_mono a hd h) (fun h => wpSs_mono b hd h) h) h
  | .loop tg it b, D, D', τ, st, hd, h => by
    unfold wpS at h ⊢
    refine wpI_mono it (fun x s h => hd.ex _ _ _ h) (fun xs ok s h => ?_) h
    refine forL_mono ?_ hd h
    exact fun D D' τ st hd h => wpSs_mono b hd h
  | .while t b, D, D', τ, st, hd, h => by
    unfold wpS at h ⊢
    obtain ⟨W, w0, h⟩ := h
    refine ⟨W, w0, fun n τ st w => wpT_mono t (fun x s h => hd.ex _ _ _ h) (fun k s h => ?_) (h n τ st w)⟩
    refine ite_mono (fun h => ?_) (fun h => hd.nx _ _ h) h
    refine wpSs_mono b ?_ h
    exact ⟨fun _ _ h => h, hd.rt, fun _ _ h => hd.nx _ _ h, fun _ _ h => h, hd.ex⟩
  | .pass, D, D', τ, st, hd, h => hd.nx _ _ h
  | .brk, D, D', τ, st, hd, h => hd.bk _ _ h
  | .cont, D, D', τ, st, hd, h => hd.ct _ _ h
  | .never, D, D', τ, st, hd, h => h
  | .raise c es, D, D', τ, st, hd, h => by
    unfold wpS at h ⊢
    exact wpEs_mono es (fun x s h => hd.ex _ _ _ h) (fun vs s ⟨v, a, b, h⟩ => ⟨v, a, b, hd.ex _ _ _ h⟩) h
  | .tryX b c i x, D, D', τ, st, hd, h => by
    unfold wpS at h ⊢
    refine wpSs_mono b ?_ h
    refine ⟨hd.nx, hd.rt, hd.bk, hd.ct, fun e τ' s h => ⟨h.1, ?_⟩⟩
    exact ite_mono (fun h => ⟨h.1, h.2.1, wpX_mono x (fun v h => hd.rt _ _ h) h.2.2⟩) (fun h => hd.ex _ _ _ h) h.2
  | .tryH b c i x, D, D', τ, st, hd, h => by
    unfold wpS at h ⊢
    refine wpSs_mono b ?_ h
    refine ⟨hd.nx, hd.rt, hd.bk, hd.ct, fun e τ' s h => ⟨h.1, ?_⟩⟩
    exact ite_mono (fun h => ⟨h.1, h.2.1, wpXSs_mono x (fun s h => hd.nx _ _ h) (fun v s h => hd.rt _ _ h) h.2.2⟩) (fun h => hd.ex _ _ _ h) h.2
theorem wpSs_mono : ∀ (s : Ss) {D D' : PEnds} {τ : Sl} {st : Store}, D.Le D' → wpSs s D τ st → wpSs s D' τ st
  | .nil, D, D', τ, st, hd, h => hd.nx _ _ h
  | .cons s ss, D, D', τ, st, hd, h => by
    unfold wpSs at h ⊢
    refine wpS_mono s ?_ h
    exact ⟨fun _ _ h => wpSs_mono ss hd h, hd.rt, hd.bk, hd.ct, hd.ex⟩
end
end TK

set_option maxRecDepth 100000
set_option maxHeartbeats 1000000
namespace TK
open PySem PySem.Spec PyProof.Rows L2

/-! ### is a term the term of this syntax? -/
/-- where one stands: the def's names by slot, the scope, the scope whose names may be stored -/
structure SC where
  N : List Str
  sc : Scope
  tsc : Scope
def visB (sc : Scope) (x : Str) : Bool := match sc.names.lookup x with
  | some .local => true
  | some .cell => true
  | some .free => true
  | _ => false
def locB (sc : Scope) (x : Str) : Bool := match sc.names.lookup x with
  | some .local => true
  | some .cell => true
  | _ => false
def glB (sc : Scope) (x : Str) : Bool := match sc.names.lookup x with
  | some .globalImplicit => !(x == ("__debug__" : Str))
  | _ => false
def notStar : Expr → Bool
  | .Starred _ _ => false
  | _ => true
def notComp : Expr → Bool
  | .ListComp _ _ _ _ => false
  | .SetComp _ _ _ _ => false
  | .DictComp _ _ _ _ _ => false
  | _ => true
def notSet : Expr → Bool
  | .Set _ _ _ => false
  | _ => true
def notTup : Expr → Bool
  | .Tuple _ _ _ => false
  | .List _ _ => false
  | _ => true
def plainT : Expr → Bool
  | .UnaryOp .Not _ _ => false
  | .BoolOp _ _ _ => false
  | .IfExp _ _ _ _ => false
  | .Compare _ _ _ _ => false
  | _ => true
/-- a test as it may stand in a handler: also a turned one -/
def notT : Expr → Bool
  | .UnaryOp .Not x _ => plainT x
  | x => plainT x
def notCall : Expr → Bool
  | .Call _ _ _ _ => false
  | _ => true
def notSlice : Expr → Bool
  | .Slice _ _ _ _ => false
  | _ => true
def BF.name : BF → Str
  | .len => "len" | .int => "int" | .abs => "abs" | .tuple => "tuple" | .list => "list" | .all => "all" | .any => "any" | .sum => "sum"
  | .min2 => "min" | .max2 => "max" | .min => "min" | .max => "max" | .repr => "repr" | .str => "str"
def MF.name : MF → Str
  | .append => "append" | .extend => "extend" | .pop => "pop" | .index => "index"
/-- the part of such a form -/
def unSh (C : SC) : UF → Expr → Option Expr
  | .revT, .Subscript x (.Slice none none (some (.UnaryOp .USub (.Constant (.int 1) _ _) _)) _) _ => some x
  | .revL, .Subscript x (.Slice none none (some (.UnaryOp .USub (.Constant (.int 1) _ _) _)) _) _ => some x
  | .maxD, .Call (.Name x _) [y] [⟨some k, .Constant (.int 0) _ _, _⟩] _ => if x = ("max" : Str) ∧ k = ("default" : Str) ∧ glB C.sc x = true ∧ notStar y = true then some y else none
  | _, _ => none
def nmB (C : SC) (i : Nat) (x : Str) : Bool := decide (C.N[i]? = some x) && visB C.sc x && !(x == ("__debug__" : Str)) && !(x == ("__classdict__" : Str))
mutual
def chkG (C : SC) : TG → Expr → Bool
  | .name i, e => match e with
    | .Name x _ => decide (C.N[i]? = some x) && locB C.tsc x
    | _ => false
  | .tup ts, e => match e with
    | .Tuple es _ _ => chkGs C ts es
    | _ => false
def chkGs (C : SC) : TGs → List Expr → Bool
  | .nil, es => match es with
    | [] => true
    | _ :: _ => false
  | .cons t ts, es => match es with
    | [] => false
    | e :: r => notStar e && chkG C t e && chkGs C ts r
end
def ownOf (N : List Str) (vs : List Nat) : List (Str × Nat) := vs.filterMap fun v => N[v]?.map fun x => (x, v)
mutual
def chkE : E → SC → Expr → Bool
  | .var i, C, e => match e with
    | .Name x _ => nmB C i x
    | _ => false
  | .fvar i, C, e => match e with
    | .Name x _ => nmB C i x
    | _ => false
  | .int n, _, e => match e with
    | .Constant (.int m) _ _ => decide (n = m)
    | _ => false
  | .bl n, _, e => match e with
    | .Constant (.bool m) _ _ => n == m
    | _ => false
  | .non, _, e => match e with
    | .Constant .none _ _ => true
    | _ => false
  | .str n, _, e => match e with
    | .Constant (.str m) _ _ => decide (n = m)
    | _ => false
  | .glob n _, C, e => match e with
    | .Name x _ => decide (n = x) && glB C.sc x
    | _ => false
  | .bin o _ a b, C, e => match e with
    | .BinOp x o' y _ => decide (o = o') && chkE a C x && chkE b C y
    | _ => false
  | .neg a, C, e => match e with
    | .UnaryOp .USub x _ => chkE a C x
    | _ => false
  | .not a, C, e => match e with
    | .UnaryOp .Not x _ => chkE a C x
    | _ => false
  | .un f a, C, e => match unSh C f e with
    | some x => chkE a C x
    | none => false
  | .cmp o a b, C, e => match e with
    | .Compare x [o'] [y] _ => decide (o = o') && chkE a C x && notSet y && chkE b C y
    | _ => false
  | .chain o p a b c, C, e => match e with
    | .Compare x [o', p'] [y, z] _ => decide (o = o') && decide (p = p') && chkE a C x && chkE b C y && notSet z && chkE c C z
    | _ => false
  | .bools o es, C, e => match e with
    | .BoolOp o' xs _ => decide (o = o') && chkEs es C xs
    | _ => false
  | .ite t a b, C, e => match e with
    | .IfExp x y z _ => chkT t C x && chkE a C y && chkE b C z
    | _ => false
  | .tup es, C, e => match e with
    | .Tuple xs _ _ => chkEs es C xs
    | _ => false
  | .lst _ es, C, e => match e with
    | .List xs _ => chkEs es C xs
    | _ => false
  | .idx a i, C, e => match e with
    | .Subscript x y _ => chkE a C x && notSlice y && chkE i C y
    | _ => false
  | .slice _ a lo hi, C, e => match e with
    | .Subscript x (.Slice l u none _) _ => chkE a C x && chkO lo C l && chkO hi C u
    | _ => false
  | .call f _ es, C, e => match e with
    | .Call (.Name x _) xs [] _ => decide (f = x) && glB C.sc x && chkEs es C xs
    | _ => false
  | .callK f ks _ es ek, C, e => match e with
    | .Call (.Name y _) (x :: xs) [⟨some z, w, _⟩] _ => decide (f = y) && glB C.sc y && chkEs es C (x :: xs) && decide (ks = z) && chkE ek C w
    | _ => false
  | .blt f _ es, C, e => match e with
    | .Call (.Name x _) xs [] _ => decide (f.name = x) && glB C.sc x && !xs.isEmpty && chkEs es C xs
    | _ => false
  | .isi a ty, C, e => match e with
    | .Call (.Name x _) [y, .Name z _] [] _ => decide (x = ("isinstance" : Str)) && glB C.sc x && notStar y && chkE a C y && decide (z = ty) && tyOk ty && glB C.sc z
    | _ => false
  | .meth f o es, C, e => match e with
    | .Call (.Attribute x y ap) xs [] cp => decide (y = f.name) && (ap.endLine == cp.line) && notCall x && decide (xs.length < 30) && chkE o C x && chkEs es C xs
    | _ => false
  | .comp _ vs tg it ts elt, C, e => match e with
    | .ListComp x [⟨g, y, ifs, k⟩] scope _ => k == 0 && decide ((ownOf C.N vs).map (·.2) = vs) && blkC C.N C.sc scope (ownOf C.N vs) && tg.slots.all (fun i => decide (i ∈ vs)) && notSet y && chkI it C g y &&
        chkG ⟨C.N, relS scope C.sc, scope⟩ tg g && chkTs ts ⟨C.N, relS scope C.sc, scope⟩ ifs && decide (ifs.length ≤ 1) && chkE elt ⟨C.N, relS scope C.sc, scope⟩ x
    | _ => false
def chkEs : Es → SC → List Expr → Bool
  | .nil, _, es => match es with
    | [] => true
    | _ :: _ => false
  | .cons a as, C, es => match es with
    | [] => false
    | e :: r => notStar e && chkE a C e && chkEs as C r
def chkO : OE → SC → Option Expr → Bool
  | .no, _, e => match e with
    | none => true
    | some _ => false
  | .yes a, C, e => match e with
    | none => false
    | some x => chkE a C x
def chkT : T → SC → Expr → Bool
  | .val a, C, e => plainT e && chkE a C e
  | .cmp o a b, C, e => match e with
    | .Compare x [o'] [y] _ => decide (o = o') && chkE a C x && notSet y && chkE b C y
    | _ => false
  | .chain o p a b c, C, e => match e with
    | .Compare x [o', p'] [y, z] _ => decide (o = o') && decide (p = p') && chkE a C x && chkE b C y && notSet z && chkE c C z
    | _ => false
  | .not t, C, e => match e with
    | .UnaryOp .Not x _ => chkT t C x
    | _ => false
  | .bools o ts, C, e => match e with
    | .BoolOp o' xs _ => decide (o = o') && !xs.isEmpty && chkTs ts C xs
    | _ => false
  | .ite _ _ _, _, _ => false
def chkTs : Ts → SC → List Expr → Bool
  | .nil, _, es => match es with
    | [] => true
    | _ :: _ => false
  | .cons a as, C, es => match es with
    | [] => false
    | e :: r => chkT a C e && chkTs as C r
def chkI : I → SC → Expr → Expr → Bool
  | .val a, C, _, e => chkE a C e
  | .range1 a, C, _, e => match e with
    | .Call (.Name x _) [y] [] _ => decide (x = ("range" : Str)) && glB C.sc x && notStar y && chkE a C y
    | _ => false
  | .range2 a b, C, _, e => match e with
    | .Call (.Name x _) [y, z] [] _ => decide (x = ("range" : Str)) && glB C.sc x && notStar y && chkE a C y && notStar z && chkE b C z
    | _ => false
  | .enum a, C, g, e => match g, e with
    | .Tuple _ _ _, .Call (.Name x _) [y] [] _ => decide (x = ("enumerate" : Str)) && glB C.sc x && notStar y && chkE a C y
    | _, _ => false
  | .zip a b, C, g, e => match g, e with
    | .Tuple _ _ _, .Call (.Name x _) [y, z] [] _ => decide (x = ("zip" : Str)) && glB C.sc x && notStar y && chkE a C y && notStar z && chkE b C z
    | _, _ => false
end
/-! ### a suite's answer -/
mutual
def chkX : XE → SC → Str → Expr → Bool
  | .fld f, _, n, e => match e with
    | .Attribute (.Name x _) g _ => decide (x = n) && decide (g = f) && decide (f ∈ fldNames) && !(n == ("__debug__" : Str)) && !(n == ("__classdict__" : Str))
    | _ => false
  | .is d, C, n, e => match e with
    | .Call (.Name x _) [.Name y _, .Name z _] [] _ => decide (x = ("isinstance" : Str)) && glB C.sc x && decide (y = n) && !(n == ("__debug__" : Str)) && !(n == ("__classdict__" : Str)) && decide (z = d) && glB C.sc z
    | _ => false
  | .str x, _, _, e => match e with
    | .Constant (.str m) _ _ => decide (x = m)
    | _ => false
  | .int x, _, _, e => match e with
    | .Constant (.int m) _ _ => decide (x = m)
    | _ => false
  | .bl x, C, _, e => chkE (.bl x) C e
  | .non, C, _, e => chkE .non C e
  | .var i, C, _, e => chkE (.var i) C e
  | .neg a, C, n, e => match e with
    | .UnaryOp .USub x _ => chkX a C n x
    | _ => false
  | .not a, C, n, e => match e with
    | .UnaryOp .Not x _ => chkX a C n x
    | _ => false
  | .ands xs, C, n, e => match e with
    | .BoolOp .And ys _ => chkXs xs C n ys
    | _ => false
  | .ite t a b, C, n, e => match e with
    | .IfExp x y z _ => (match t with
        | .nil => false
        | .cons u .nil => notT x && chkX u C n x
        | .cons _ (.cons _ _) => match x with
          | .BoolOp .And ws _ => chkXt t C n ws
          | _ => false) && chkX a C n y && chkX b C n z
    | _ => false
  | .tup xs, C, n, e => match e with
    | .Tuple ys _ _ => chkXs xs C n ys
    | _ => false
  | .same g a b, C, n, e => match e with
    | .Call (.Name x _) [y, z] [] _ => decide (g = x) && glB C.sc x && notStar y && notStar z && chkX a C n y && chkX b C n z
    | _ => false
def chkXt : XEs → SC → Str → List Expr → Bool
  | .nil, _, _, es => match es with
    | [] => true
    | _ :: _ => false
  | .cons x xs, C, n, es => match es with
    | [] => false
    | y :: ys => notT y && chkX x C n y && chkXt xs C n ys
def chkXs : XEs → SC → Str → List Expr → Bool
  | .nil, _, _, es => match es with
    | [] => true
    | _ :: _ => false
  | .cons x xs, C, n, es => match es with
    | [] => false
    | y :: ys => notStar y && chkX x C n y && chkXs xs C n ys
end
mutual
def chkXS : XS → SC → Str → Stmt → Bool
  | .ret h, C, n, s => match s with
    | .Return (some z) _ => chkX h C n z
    | _ => false
  | .app j h, C, n, s => match s with
    | .Expr (.Call (.Attribute (.Name x p) y ap) [z] [] cp) _ => decide (y = ("append" : Str)) && (ap.endLine == cp.line) && notStar z && chkE (.var j) C (.Name x p) && chkX h C n z
    | _ => false
  | .ite ts a b, C, n, s => match s with
    | .If x y z _ => (match ts with
        | .nil => false
        | .cons u .nil => notT x && chkX u C n x
        | .cons _ (.cons _ _) => match x with
          | .BoolOp .And ws _ => chkXt ts C n ws
          | _ => false) && chkXSs a C n y && chkXSs b C n z
    | _ => false
def chkXSs : XSs → SC → Str → List Stmt → Bool
  | .nil, _, _, ss => match ss with
    | [] => true
    | _ :: _ => false
  | .cons a as, C, n, ss => match ss with
    | [] => false
    | s :: r => chkXS a C n s && chkXSs as C n r
end
mutual
def chkS : S → SC → Stmt → Bool
  | .asg tg a, C, s => match s with
    | .Assign [g] e _ => chkG C tg g && notComp e && (notTup g || notTup e) && chkE a C e
    | _ => false
  | .asgLc i a, C, s => match s with
    | .Assign [.Name x p] (.ListComp elt gs scope pos) _ => decide (C.N[i]? = some x) && decide (C.sc.names.lookup x = some .local) && (p.line == pos.line) &&
        !(scope.names.any fun (n, k) => n == x && (k == .local || k == .cell)) && (match a with | .comp _ _ _ _ _ _ => true | _ => false) && chkE a C (.ListComp elt gs scope pos)
    | _ => false
  | .setIx o i a, C, s => match s with
    | .Assign [.Subscript x y _] e _ => notSlice y && chkE o C x && chkE i C y && chkE a C e
    | _ => false
  | .aug i o a, C, s => match s with
    | .AugAssign (.Name x _) o' e _ => decide (C.N[i]? = some x) && locB C.tsc x && decide (o = o') && chkE a C e
    | _ => false
  | .expr a, C, s => match s with
    | .Expr e _ => notComp e && chkE a C e
    | _ => false
  | .ret a, C, s => match s with
    | .Return (some e) _ => chkE a C e
    | _ => false
  | .retN, _, s => match s with
    | .Return none _ => true
    | _ => false
  | .ite t a b, C, s => match s with
    | .If c x y _ => chkT t C c && chkSs a C x && chkSs b C y
    | _ => false
  | .loop tg it b, C, s => match s with
    | .For g e x [] _ => chkG C tg g && notSet e && chkI it C g e && chkSs b C x
    | _ => false
  | .while t b, C, s => match s with
    | .While c x [] _ => chkT t C c && chkSs b C x
    | _ => false
  | .pass, _, s => match s with
    | .Pass _ => true
    | _ => false
  | .brk, _, s => match s with
    | .Break _ => true
    | _ => false
  | .cont, _, s => match s with
    | .Continue _ => true
    | _ => false
  | .never, _, _ => true
  | .raise c es, C, s => match s with
    | .Raise (some (.Call (.Name y _) (x :: xs) [] _)) none _ => decide (c = y) && glB C.sc y && chkEs es C (x :: xs)
    | _ => false
  | .tryX b c i h, C, s => match s with
    | .Try x [.ExceptHandler (some (.Name y _)) (some n) [.Return (some z) _] _] [] [] _ => chkSs b C x && decide (c = y) && glB C.sc y && decide (C.N[i]? = some n) && decide (C.sc.names.lookup n = some .local) && chkX h C n z
    | _ => false
  | .tryH b c i h, C, s => match s with
    | .Try x [.ExceptHandler (some (.Name y _)) (some n) (z :: zs) _] [] [] _ => chkSs b C x && decide (c = y) && glB C.sc y && decide (C.N[i]? = some n) && decide (C.sc.names.lookup n = some .local) && chkXSs h C n (z :: zs)
    | _ => false
def chkSs : Ss → SC → List Stmt → Bool
  | .nil, _, ss => match ss with
    | [] => true
    | _ :: _ => false
  | .cons a as, C, ss => match ss with
    | [] => false
    | s :: r => chkS a C s && chkSs as C r
end

/-! ### what a term asks of the program around it -/
mutual
def needE (pf : Str → PSpec → Nat → Prop) (pk : Str → Str → PSpec → Nat → Prop) (pg : Str → PV → Prop) : E → Prop
  | .var _ => True
  | .fvar _ => True
  | .int _ => True
  | .bl _ => True
  | .non => True
  | .str _ => True
  | .glob x v => pg x v
  | .bin _ _ a b => needE pf pk pg a ∧ needE pf pk pg b
  | .neg a => needE pf pk pg a
  | .not a => needE pf pk pg a
  | .un _ a => needE pf pk pg a
  | .cmp _ a b => needE pf pk pg a ∧ needE pf pk pg b
  | .chain _ _ a b c => needE pf pk pg a ∧ needE pf pk pg b ∧ needE pf pk pg c
  | .bools _ es => needEs pf pk pg es
  | .ite t a b => needT pf pk pg t ∧ needE pf pk pg a ∧ needE pf pk pg b
  | .tup es => needEs pf pk pg es
  | .lst _ es => needEs pf pk pg es
  | .idx a i => needE pf pk pg a ∧ needE pf pk pg i
  | .slice _ a lo hi => needE pf pk pg a ∧ needO pf pk pg lo ∧ needO pf pk pg hi
  | .call f sp es => pf f sp es.len ∧ needEs pf pk pg es
  | .callK f ks sp es ek => pk f ks sp es.len ∧ needEs pf pk pg es ∧ needE pf pk pg ek
  | .blt _ _ es => needEs pf pk pg es
  | .isi e _ => needE pf pk pg e
  | .meth _ o es => needE pf pk pg o ∧ needEs pf pk pg es
  | .comp _ _ _ it ts elt => needI pf pk pg it ∧ needTs pf pk pg ts ∧ needE pf pk pg elt
def needEs (pf : Str → PSpec → Nat → Prop) (pk : Str → Str → PSpec → Nat → Prop) (pg : Str → PV → Prop) : Es → Prop
  | .nil => True
  | .cons e es => needE pf pk pg e ∧ needEs pf pk pg es
def needO (pf : Str → PSpec → Nat → Prop) (pk : Str → Str → PSpec → Nat → Prop) (pg : Str → PV → Prop) : OE → Prop
  | .no => True
  | .yes e => needE pf pk pg e
def needT (pf : Str → PSpec → Nat → Prop) (pk : Str → Str → PSpec → Nat → Prop) (pg : Str → PV → Prop) : T → Prop
  | .val e => needE pf pk pg e
  | .cmp _ a b => needE pf pk pg a ∧ needE pf pk pg b
  | .chain _ _ a b c => needE pf pk pg a ∧ needE pf pk pg b ∧ needE pf pk pg c
  | .not t => needT pf pk pg t
  | .bools _ ts => needTs pf pk pg ts
  | .ite t a b => needT pf pk pg t ∧ needT pf pk pg a ∧ needT pf pk pg b
def needTs (pf : Str → PSpec → Nat → Prop) (pk : Str → Str → PSpec → Nat → Prop) (pg : Str → PV → Prop) : Ts → Prop
  | .nil => True
  | .cons t ts => needT pf pk pg t ∧ needTs pf pk pg ts
def needI (pf : Str → PSpec → Nat → Prop) (pk : Str → Str → PSpec → Nat → Prop) (pg : Str → PV → Prop) : I → Prop
  | .val e => needE pf pk pg e
  | .range1 a => needE pf pk pg a
  | .range2 a b => needE pf pk pg a ∧ needE pf pk pg b
  | .enum e => needE pf pk pg e
  | .zip a b => needE pf pk pg a ∧ needE pf pk pg b
end
mutual
def needX (px : Nat → Str → Prop) : XE → Prop
  | .is d => px 2 d
  | .neg a => needX px a
  | .not a => needX px a
  | .ands xs => needXs px xs
  | .ite t a b => needXs px t ∧ needX px a ∧ needX px b
  | .tup xs => needXs px xs
  | .same g a b => px 3 g ∧ needX px a ∧ needX px b
  | .fld _ => True
  | .str _ => True
  | .int _ => True
  | .bl _ => True
  | .non => True
  | .var _ => True
def needXs (px : Nat → Str → Prop) : XEs → Prop
  | .nil => True
  | .cons x xs => needX px x ∧ needXs px xs
end
mutual
def needXS (px : Nat → Str → Prop) : XS → Prop
  | .ret h => needX px h
  | .app _ h => needX px h
  | .ite ts a b => needXs px ts ∧ needXSs px a ∧ needXSs px b
def needXSs (px : Nat → Str → Prop) : XSs → Prop
  | .nil => True
  | .cons s ss => needXS px s ∧ needXSs px ss
end
mutual
def needS (pf : Str → PSpec → Nat → Prop) (pk : Str → Str → PSpec → Nat → Prop) (pg : Str → PV → Prop) (px : Nat → Str → Prop) : S → Prop
  | .asg _ e => needE pf pk pg e
  | .asgLc _ e => needE pf pk pg e
  | .setIx o i e => needE pf pk pg o ∧ needE pf pk pg i ∧ needE pf pk pg e
  | .aug _ _ e => needE pf pk pg e
  | .expr e => needE pf pk pg e
  | .ret e => needE pf pk pg e
  | .retN => True
  | .ite t a b => needT pf pk pg t ∧ needSs pf pk pg px a ∧ needSs pf pk pg px b
  | .loop _ it b => needI pf pk pg it ∧ needSs pf pk pg px b
  | .while t b => needT pf pk pg t ∧ needSs pf pk pg px b
  | .pass => True
  | .brk => True
  | .cont => True
  | .never => True
  | .raise c es => px 0 c ∧ needEs pf pk pg es
  | .tryX b c _ h => px 1 c ∧ needX px h ∧ needSs pf pk pg px b
  | .tryH b c _ h => px 1 c ∧ needXSs px h ∧ needSs pf pk pg px b
def needSs (pf : Str → PSpec → Nat → Prop) (pk : Str → Str → PSpec → Nat → Prop) (pg : Str → PV → Prop) (px : Nat → Str → Prop) : Ss → Prop
  | .nil => True
  | .cons s ss => needS pf pk pg px s ∧ needSs pf pk pg px ss
end
end TK

set_option maxRecDepth 100000
set_option maxHeartbeats 2000000
namespace TK
open PySem PySem.Spec PyProof.Rows L2

/-! ### wishes over the layer's heap -/
def LQ (K : PySem.W.Frag) (F : FS) (H : Hp) (Q : VK) : PQ := fun z st' => ∀ F' H' y, Ext F H F' H' → RS K H' F' st' → DV K H' F' z y → Q y H'
section
variable {K : PySem.W.Frag} {F F' : FS} {H H' : Hp} {Q : VK} {st : Store}
theorem LQ.ext (x : Ext F H F' H') : ∀ v s, LQ K F H Q v s → LQ K F' H' Q v s := fun v s h F2 H2 y x2 r d => h F2 H2 y (x.trans x2) r d
theorem LQ.now {z : PV} {y : V} (h : LQ K F H Q z st) (r : RS K H F st) (d : DV K H F z y) : Q y H := h F H y .refl r d
theorem newList_ok {m : Bool} {xs : List PV} {ys : List V} (h : newList m xs st (LQ K F H Q)) (r : RS K H F st) (d : DVs K H F xs ys) : ∀ p, H p = none → Q (.ref p) (upd H p (.lst ys)) := by
  intro p hp
  cases m with
  | true => exact h p (r.no hp) F _ _ (.new hp) (r.putNew hp d) (.ref p)
  | false => exact h (fun a => F a ∨ a = p) _ _ (.newF hp) (r.newF hp) (.lst (.inr rfl) upd_same (d.ext (.newF hp)))
theorem newTup_ok {xs : List PV} {ys : List V} (h : LQ K F H Q (.tup xs) st) (r : RS K H F st) (d : DVs K H F xs ys) : ∀ p, H p = none → Q (.ref p) (upd H p (.tup ys)) := by
  intro p hp
  exact h F _ _ (.new hp) (r.new hp) (.tup (.of upd_same) (d.ext (.new hp)))
theorem lstOf_ok {v : PV} {xs : List PV} {x : V} (r : RS K H F st) (e : lstOf st v = some xs) (d : DV K H F v x) : ∃ a ys, x = .ref a ∧ H a = some (.lst ys) ∧ DVs K H F xs ys := by
  cases d with
  | lst f h hs =>
    have e' : xs = _ := (Option.some.inj e).symm
    subst e'
    exact ⟨_, _, rfl, h, hs⟩
  | ref a =>
    have e' : (match st a with | some (.lst xs) => some xs | _ => none) = some xs := e
    cases q : st a with
    | none => rw [q] at e'; cases e'
    | some c =>
      cases c with
      | lst zs =>
        rw [q] at e'; cases e'
        obtain ⟨_, ys, h, hs⟩ := r.lst a _ q
        exact ⟨a, ys, rfl, h, hs⟩
      | pool => rw [q] at e'; cases e'
  | non => cases e
  | bl _ => cases e
  | int _ => cases e
  | str _ => cases e
  | tup _ _ => cases e
  | scr _ => cases e
theorem seqOf_ok {v : PV} {xs : List PV} {x : V} (r : RS K H F st) (e : seqOf st v = some xs) (d : DV K H F v x) : ∃ a ys, x = .ref a ∧ (SqL K H a ys ∨ SqT K H a ys) ∧ DVs K H F xs ys := by
  cases d with
  | tup h hs =>
    have e' : xs = _ := (Option.some.inj e).symm
    subst e'
    exact ⟨_, _, rfl, .inr h, hs⟩
  | lst f h hs =>
    obtain ⟨a, ys, e1, e2, e3⟩ := lstOf_ok r (show lstOf st (.lst _) = some xs from e) (.lst f h hs)
    exact ⟨a, ys, e1, .inl (.of e2), e3⟩
  | ref a =>
    obtain ⟨a, ys, e1, e2, e3⟩ := lstOf_ok r (show lstOf st (.ref a) = some xs from e) (.ref a)
    exact ⟨a, ys, e1, .inl (.of e2), e3⟩
  | non => cases e
  | bl _ => cases e
  | int _ => cases e
  | str _ => cases e
  | scr _ => cases e
end

/-! ### operators -/
section
variable {X : Cx}
theorem op_mulT : OpR X (binaryOp .Mult) (rI IntMulOk fun i j => .int (i * j)) := opI fun _ _ _ _ _ _ _ hc q => mul_int q hc
theorem op_fdivT : OpR X (binaryOp .FloorDiv) (rI (fun _ j => DivOk j) fun i j => .int (i.fdiv j)) := opI fun _ _ _ _ _ _ _ hc q => floordiv_int hc.1 q (.inl (PyProof.noPylong_of_log2 hc.2))
/-- t + u of tuples, any -/
theorem op_catTT : OpR X (binaryOp .Add) (fun x y H Q => ∃ a b xs ys, x = .ref a ∧ y = .ref b ∧ SqT X.K H a xs ∧ SqT X.K H b ys ∧ xs.length + ys.length ≤ sizeLine ∧
    (xs = [] → Q (.ref b) H) ∧ (xs ≠ [] → ys = [] → Q (.ref a) H) ∧ (xs ≠ [] → ys ≠ [] → ∀ p, H p = none → Q (.ref p) (upd H p (.tup (xs ++ ys))))) := by
  intro pins s σ H x y v u Q I rx ry h
  obtain ⟨a, b, xs, ys, rfl, rfl, ha, hb, hz, q0, q1, q2⟩ := h
  by_cases hx : xs = []
  · subst hx
    cases rx
    cases ry
    obtain ⟨its, r1, ⟨⟨c1, d1, t1, s1⟩, o1, k1, n1, e1⟩, _⟩ := I.tuple ha
    obtain ⟨its2, r2, ⟨⟨c2, d2, t2, s2⟩, o2, k2, n2, e2⟩, _⟩ := I.tuple hb
    simp only at k1 e1 k2 e2
    subst k1 e1 k2 e2
    have hn : its.toArray.isEmpty = true := by cases r1; rfl
    exact concat_meets ⟨_, o1, rfl⟩ ⟨_, o2, rfl⟩ noFill_tuple_add seq_tuple_add PySem.F.slot_tuple_add PySem.F.entry_tuple_add (PySem.F.args_tuple_add_2 _ _)
      (tuple_addW0 a b its.toArray its2.toArray n1 n2 d1 d2 s1 s2 hn) ⟨o1, o2, ⟨.ref b, H, I, rfl, q0 rfl⟩⟩
  · exact op_catT pins s σ H _ _ v u Q I rx ry ⟨a, b, xs, ys, rfl, rfl, ha, hb, hx, hz, q1 hx, fun hy => q2 hx hy⟩
theorem rep_size (a : Array Nat) : ∀ (n : Nat) (acc : Array Nat), ((List.replicate n a).foldl (· ++ ·) acc).size = acc.size + n * a.size
  | 0, acc => by simp
  | n + 1, acc => by
    rw [List.replicate_succ, List.foldl_cons, rep_size a n, Array.size_append, Nat.add_mul]
    omega
theorem repS_len (n : Nat) (x : Str) : (repS n x).length = n * x.length := by
  show ((List.replicate n x.cps).foldl (· ++ ·) #[]).size = _
  rw [rep_size]
  show 0 + n * x.cps.size = n * x.cps.size
  omega
theorem op_mulS : OpR X (binaryOp .Mult) (fun x y H Q => ∃ z k, x = .str z ∧ y = .int k ∧ (0 < z.length ∧ z.length ≤ 1000 ∧ 2 ≤ k ∧ k ≤ 1000) ∧ Q (.str (repS k.toNat z)) H) := by
  intro pins s σ H x y v u Q I rx ry h
  obtain ⟨z, k, rfl, rfl, ⟨z0, z1, k0, k1⟩, q⟩ := h
  obtain ⟨t, rfl⟩ := rx
  obtain ⟨t', rfl⟩ := ry
  have sz : 1000000 ≤ sizeLine := by decide
  have hm : z.length * k.toNat ≤ 1000000 := Nat.mul_le_mul z1 (show k.toNat ≤ 1000 by omega)
  refine PySem.P.mul_str (by rw [decide_eq_false (by omega), decide_eq_false (by omega)]; rfl) (fun _ _ => ?_) (fun _ _ => ?_) ?_
  · have : (1000 : Int) ≤ (2 ^ 63 - 1) / k := Int.le_ediv_of_mul_le (by omega) (by omega)
    omega
  · unfold Builtin.Str.tooLong
    exact decide_eq_false (by omega)
  · rw [if_neg (by omega), if_neg (by
      rw [Bool.or_eq_true, beq_iff_eq, beq_iff_eq]
      omega)]
    refine ⟨?_, .str _, H, I.tok _, ⟨_, rfl⟩, q⟩
    show (repS k.toNat z).length ≤ sizeLine
    rw [repS_len, Nat.mul_comm]
    omega
abbrev rB (K : PySem.W.Frag) (f : PV → PV → Store → PQ → Prop) : R2 := fun x y H Q => ∃ F st v w, RS K H F st ∧ DV K H F v x ∧ DV K H F w y ∧ f v w st (LQ K F H Q)
theorem bin_ok {o : Operator} {m : Bool} : OpR X (binaryOp o) (rB X.K (binV o m)) := by
  intro pins s σ H x y vv uu Q I rx ry ⟨F, st, v, w, rs, dv, dw, h⟩
  unfold binV at h
  split at h
  · cases dv; cases dw
    exact op_add pins s σ H _ _ _ _ Q I rx ry ⟨_, _, rfl, rfl, h.now rs (.int _)⟩
  · cases dv; cases dw
    exact op_add_str pins s σ H _ _ _ _ Q I rx ry ⟨_, _, rfl, rfl, h.1, h.2.now rs (.str _)⟩
  · cases dv with
    | tup h1 hs1 =>
      cases dw with
      | tup h2 hs2 =>
        refine op_catTT pins s σ H _ _ _ _ Q I rx ry ⟨_, _, _, _, rfl, rfl, h1, h2, by rw [← hs1.length, ← hs2.length]; exact h.1, fun e => ?_, fun _ e => ?_, fun _ _ => newTup_ok h.2 rs (hs1.append hs2)⟩
        · subst e
          cases hs1
          exact h.2.now rs (.tup h2 hs2)
        · subst e
          cases hs2
          exact h.2.now rs (by rw [List.append_nil]; exact .tup h1 hs1)
  · cases dv with
    | lst f1 h1 hs1 =>
      cases dw with
      | lst f2 h2 hs2 => exact op_cat pins s σ H _ _ _ _ Q I rx ry ⟨_, _, _, _, rfl, rfl, h1, h2, by rw [← hs1.length, ← hs2.length]; exact h.1, newList_ok h.2 rs (hs1.append hs2)⟩
  · obtain ⟨xs, e, hz, h⟩ := h
    cases dv
    obtain ⟨_, zs, h1, hs1⟩ := rs.lst _ _ e
    cases dw with
    | lst f2 h2 hs2 => exact op_cat pins s σ H _ _ _ _ Q I rx ry ⟨_, _, _, _, rfl, rfl, h1, h2, by rw [← hs1.length, ← hs2.length]; exact hz, newList_ok h rs (hs1.append hs2)⟩
  · obtain ⟨ys, e, hz, h⟩ := h
    cases dw
    obtain ⟨_, zs, h2, hs2⟩ := rs.lst _ _ e
    cases dv with
    | lst f1 h1 hs1 => exact op_cat pins s σ H _ _ _ _ Q I rx ry ⟨_, _, _, _, rfl, rfl, h1, h2, by rw [← hs1.length, ← hs2.length]; exact hz, newList_ok h rs (hs1.append hs2)⟩
  · obtain ⟨xs, ys, e, e', hz, h⟩ := h
    cases dv
    cases dw
    obtain ⟨_, zs, h1, hs1⟩ := rs.lst _ _ e
    obtain ⟨_, zs', h2, hs2⟩ := rs.lst _ _ e'
    exact op_cat pins s σ H _ _ _ _ Q I rx ry ⟨_, _, _, _, rfl, rfl, h1, h2, by rw [← hs1.length, ← hs2.length]; exact hz, newList_ok h rs (hs1.append hs2)⟩
  · cases dv; cases dw
    exact op_sub pins s σ H _ _ _ _ Q I rx ry ⟨_, _, rfl, rfl, h.now rs (.int _)⟩
  · cases dv; cases dw
    exact op_mulT pins s σ H _ _ _ _ Q I rx ry ⟨_, _, rfl, rfl, h.1, h.2.now rs (.int _)⟩
  · obtain ⟨h1, h2, h3, h4⟩ := h
    cases dw
    cases dv with
    | lst f1 g1 hs1 => exact op_rep pins s σ H _ _ _ _ Q I rx ry ⟨_, _, _, rfl, rfl, g1, h1, h2, by rw [← hs1.length]; exact h3, newList_ok h4 rs (hs1.flat _)⟩
  · obtain ⟨⟨h1, h2, h3, h4⟩, h⟩ := h
    cases dw
    cases dv with
    | tup g1 hs1 =>
      exact op_repT pins s σ H _ _ _ _ Q I rx ry ⟨_, _, _, rfl, rfl, g1, fun z => h1 (by subst z; cases hs1; rfl), h2, h3, by rw [← hs1.length]; exact h4, newTup_ok h rs (hs1.flat _)⟩
  · obtain ⟨hc, h⟩ := h
    cases dv; cases dw
    exact op_mulS pins s σ H _ _ _ _ Q I rx ry ⟨_, _, rfl, rfl, hc, h.now rs (.str _)⟩
  · cases dv; cases dw
    exact op_fdivT pins s σ H _ _ _ _ Q I rx ry ⟨_, _, rfl, rfl, h.1, h.2.now rs (.int _)⟩
  · cases dv; cases dw
    exact op_modN pins s σ H _ _ _ _ Q I rx ry ⟨_, _, rfl, rfl, h.1, h.2.now rs (.int _)⟩
  · cases dv; cases dw
    exact op_pow pins s σ H _ _ _ _ Q I rx ry ⟨_, _, rfl, rfl, h.1, h.2.now rs (.int _)⟩
  · cases dv; cases dw
    exact op_and pins s σ H _ _ _ _ Q I rx ry ⟨_, _, rfl, rfl, h.now rs (.int _)⟩
  · cases dv; cases dw
    exact op_or pins s σ H _ _ _ _ Q I rx ry ⟨_, _, rfl, rfl, h.now rs (.int _)⟩
  · exact h.elim

/-! ### comparisons -/
mutual
theorem toD_dp {K : PySem.W.Frag} {H : Hp} {F : FS} : ∀ {n : Nat} {v : PV} {x : V}, flat n v = true → DV K H F v x → Dp K H x (toD v)
  | _, .non, _, _, .non => .non
  | _, .bl _, _, _, .bl b => .bl b
  | _, .int _, _, _, .int b => .int b
  | _, .str _, _, _, .str b => .str b
  | n, .tup xs, _, h, .tup h1 hs => .tup h1 (toD_dps (by have h' : (n != 0 && flats (n - 1) xs) = true := h; exact (Bool.and_eq_true_iff.mp h').2) hs)
  | n, .lst xs, _, h, .lst f h1 hs => .lst (.of h1) (toD_dps (by have h' : (n != 0 && flats (n - 1) xs) = true := h; exact (Bool.and_eq_true_iff.mp h').2) hs)
theorem toD_dps {K : PySem.W.Frag} {H : Hp} {F : FS} : ∀ {n : Nat} {v : List PV} {x : List V}, flats n v = true → DVs K H F v x → DpAll K H x (toDs v)
  | _, [], _, _, .nil => .nil
  | n, x :: r, _, h, .cons d ds => by
    have h' : (flat n x && flats n r) = true := h
    exact .cons (toD_dp (Bool.and_eq_true_iff.mp h').1 d) (toD_dps (Bool.and_eq_true_iff.mp h').2 ds)
end
mutual
theorem toD_lay : ∀ {n : Nat} {v : PV}, flat n v = true → (toD v).canLay0 = true ∧ (toD v).depth ≤ n
  | _, .non, _ => ⟨by simp [toD, PyData.canLay0], by simp [toD, PyData.depth]⟩
  | _, .bl _, _ => ⟨by simp [toD, PyData.canLay0], by simp [toD, PyData.depth]⟩
  | _, .int _, _ => ⟨by simp [toD, PyData.canLay0], by simp [toD, PyData.depth]⟩
  | _, .str x, h => ⟨by have h' : PyData.strOk x = true := h; simpa [toD, PyData.canLay0] using h', by simp [toD, PyData.depth]⟩
  | n, .tup xs, h => by
    have h' : (n != 0 && flats (n - 1) xs) = true := h
    obtain ⟨h1, h2⟩ := Bool.and_eq_true_iff.mp h'
    obtain ⟨a, b⟩ := toD_lays h2
    have h3 : n ≠ 0 := by simpa using h1
    exact ⟨by simpa [toD, PyData.canLay0] using a, by simp only [toD, PyData.depth]; omega⟩
  | n, .lst xs, h => by
    have h' : (n != 0 && flats (n - 1) xs) = true := h
    obtain ⟨h1, h2⟩ := Bool.and_eq_true_iff.mp h'
    obtain ⟨a, b⟩ := toD_lays h2
    have h3 : n ≠ 0 := by simpa using h1
    exact ⟨by simpa [toD, PyData.canLay0] using a, by simp only [toD, PyData.depth]; omega⟩
  | _, .ref _, h => nomatch h
  | _, .scr _, h => nomatch h
theorem toD_lays : ∀ {n : Nat} {v : List PV}, flats n v = true → PyData.canLayAll0 (toDs v) = true ∧ PyData.depthAll (toDs v) ≤ n
  | _, [], _ => ⟨by simp [toDs, PyData.canLayAll0], by simp [toDs, PyData.depthAll]⟩
  | n, x :: r, h => by
    have h' : (flat n x && flats n r) = true := h
    obtain ⟨h1, h2⟩ := Bool.and_eq_true_iff.mp h'
    obtain ⟨a, b⟩ := toD_lay h1
    obtain ⟨c, d⟩ := toD_lays h2
    exact ⟨by simp [toDs, PyData.canLayAll0, a, c], by simp only [toDs, PyData.depthAll]; omega⟩
end
theorem toD_shaped {v : PV} (h : flat 60 v = true) : SeqAt.shaped (toD v) = true := by
  obtain ⟨a, b⟩ := toD_lay h
  unfold SeqAt.shaped
  rw [a, Bool.true_and]
  exact decide_eq_true (by omega)
theorem beq_dec {i j : Int} : (i == j) = decide (i = j) := by
  by_cases e : i = j <;> simp [e]
mutual
theorem toD_eqv : ∀ {n m : Nat} {v w : PV}, flat n v = true → flat m w = true → PyData.eqv (toD v) (toD w) = eqv v w
  | _, _, .non, w, _, hw => by cases w <;> first | (simp [toD, PyData.eqv, eqv]; done) | cases hw
  | _, _, .bl _, w, _, hw => by cases w <;> first | (simp [toD, PyData.eqv, eqv]; done) | cases hw
  | _, _, .int _, w, _, hw => by cases w <;> first | (simp [toD, PyData.eqv, eqv, beq_dec]; done) | cases hw
  | _, _, .str a, w, _, hw => by
    cases w with
    | str b => simp only [toD, PyData.eqv, eqv]; by_cases e : a = b <;> simp [e]
    | ref _ => cases hw
    | scr _ => cases hw
    | _ => simp [toD, PyData.eqv, eqv]
  | n, m, .tup xs, w, h, hw => by
    have h' : (n != 0 && flats (n - 1) xs) = true := h
    cases w with
    | tup ys =>
      have hw' : (m != 0 && flats (m - 1) ys) = true := hw
      simp only [toD, PyData.eqv, eqv]
      exact toD_eqvs (Bool.and_eq_true_iff.mp h').2 (Bool.and_eq_true_iff.mp hw').2
    | ref _ => cases hw
    | scr _ => cases hw
    | _ => simp [toD, PyData.eqv, eqv]
  | n, m, .lst xs, w, h, hw => by
    have h' : (n != 0 && flats (n - 1) xs) = true := h
    cases w with
    | lst ys =>
      have hw' : (m != 0 && flats (m - 1) ys) = true := hw
      simp only [toD, PyData.eqv, eqv]
      exact toD_eqvs (Bool.and_eq_true_iff.mp h').2 (Bool.and_eq_true_iff.mp hw').2
    | ref _ => cases hw
    | scr _ => cases hw
    | _ => simp [toD, PyData.eqv, eqv]
  | _, _, .ref _, _, h, _ => nomatch h
  | _, _, .scr _, _, h, _ => nomatch h
theorem toD_eqvs : ∀ {n m : Nat} {v w : List PV}, flats n v = true → flats m w = true → PyData.eqvAll (toDs v) (toDs w) = eqvs v w
  | _, _, [], w, _, _ => by cases w <;> simp [toDs, PyData.eqvAll, eqvs]
  | n, m, x :: r, w, h, hw => by
    have h' : (flat n x && flats n r) = true := h
    cases w with
    | nil => simp [toDs, PyData.eqvAll, eqvs]
    | cons y s =>
      have hw' : (flat m y && flats m s) = true := hw
      simp only [toDs, PyData.eqvAll, eqvs]
      rw [toD_eqv (Bool.and_eq_true_iff.mp h').1 (Bool.and_eq_true_iff.mp hw').1, toD_eqvs (Bool.and_eq_true_iff.mp h').2 (Bool.and_eq_true_iff.mp hw').2]
end
theorem res_ok {K : PySem.W.Frag} {H : Hp} {F : FS} {st : Store} {v : PV} {x : V} {n : Nat} (r : RS K H F st) (d : DV K H F v x) (h : flat n (res st v) = true) : Dp K H x (toD (res st v)) := by
  cases v with
  | ref a =>
    cases q : st a with
    | none =>
      have e : res st (.ref a) = .ref a := by simp only [res, q]
      rw [e] at h; cases h
    | some c =>
      cases c with
      | pool =>
        have e : res st (.ref a) = .ref a := by simp only [res, q]
        rw [e] at h; cases h
      | lst xs =>
        have e : res st (.ref a) = .lst xs := by simp only [res, q]
        rw [e] at h ⊢
        obtain ⟨_, ys, h1, hs⟩ := r.lst a xs q
        cases d
        have h' : (n != 0 && flats (n - 1) xs) = true := h
        exact .lst (.of h1) (toD_dps (Bool.and_eq_true_iff.mp h').2 hs)
  | non => exact toD_dp h d
  | bl _ => exact toD_dp h d
  | int _ => exact toD_dp h d
  | str _ => exact toD_dp h d
  | tup _ => exact toD_dp h d
  | lst _ => exact toD_dp h d
  | scr _ => cases h
theorem scP_ok {K : PySem.W.Frag} {H : Hp} {F : FS} {st : Store} {v w : PV} {x y : V} (h : scP v w = true) (dv : DV K H F v x) (dw : DV K H F w y) : scal x y = true ∧ decide (x = y) = eqv (res st v) (res st w) := by
  cases dv <;> cases dw <;> first
    | (refine ⟨rfl, ?_⟩; simp [res, eqv]; done)
    | (refine ⟨rfl, ?_⟩; simp only [res, eqv]; rename_i a b; cases a <;> cases b <;> rfl)
    | cases h
theorem sc_flat {v : PV} (h : isSc v = true) {K : PySem.W.Frag} {H : Hp} {F : FS} {x : V} (d : DV K H F v x) : flatV x = true := by
  cases d <;> first | rfl | cases h
theorem sc_flats : ∀ {vs : List PV} {xs : List V}, vs.all isSc = true → ∀ {K : PySem.W.Frag} {H : Hp} {F : FS}, DVs K H F vs xs → xs.all flatV = true
  | [], _, _, _, _, _, .nil => rfl
  | v :: r, _, h, _, _, _, .cons d ds => by
    rw [List.all_cons, Bool.and_eq_true] at h ⊢
    exact ⟨sc_flat h.1 d, sc_flats h.2 ds⟩
theorem sc_eqV {v w : PV} (hv : isSc v = true) (hw : isSc w = true) {K : PySem.W.Frag} {H : Hp} {F : FS} {x y : V} (d : DV K H F v x) (d' : DV K H F w y) : eqV x y = eqv v w := by
  cases d <;> cases d' <;> first
    | exact absurd hv Bool.false_ne_true
    | exact absurd hw Bool.false_ne_true
    | (simp [eqV, eqv, beq_dec]; done)
    | (simp only [eqV, eqv]; rename_i a b; cases a <;> rfl)
    | (simp only [eqV, eqv]; rename_i a b; cases b <;> rfl)
    | (simp only [eqV, eqv]; rename_i a b; by_cases e : a = b <;> simp [e])
theorem sc_any {w : PV} (hw : isSc w = true) {K : PySem.W.Frag} {H : Hp} {F : FS} {y : V} (d' : DV K H F w y) : ∀ {vs : List PV} {xs : List V}, vs.all isSc = true → DVs K H F vs xs → inV y xs = vs.any fun z => eqv z w
  | [], _, _, .nil => rfl
  | v :: r, _, h, .cons d ds => by
    rw [List.all_cons, Bool.and_eq_true] at h
    have ih := sc_any hw d' h.2 ds
    unfold inV at ih ⊢
    rw [List.any_cons, List.any_cons, ih, sc_eqV h.1 hw d d']
theorem isNon_ok {K : PySem.W.Frag} {H : Hp} {F : FS} {v : PV} {x : V} (d : DV K H F v x) : decide (x = .non) = isNon v := by
  cases d <;> simp [isNon]
theorem toD_any {n m : Nat} {v : PV} (hv : flat n v = true) : ∀ {xs : List PV}, flats m xs = true → ((toDs xs).any fun z => PyData.eqv z (toD v)) = xs.any fun y => eqv y v
  | [], _ => by simp [toDs]
  | x :: r, h => by
    have h' : (flat m x && flats m r) = true := h
    obtain ⟨h1, h2⟩ := Bool.and_eq_true_iff.mp h'
    have ih := toD_any hv h2
    simp only [toDs, List.any_cons]
    rw [ih, toD_eqv h1 hv]
def rInT (K : PySem.W.Frag) (neg : Bool) : R2 := fun x y H Q => ∃ d ds, Dp K H x d ∧ (Dp K H y (.list ds) ∨ Dp K H y (.tuple ds)) ∧ d.canLay0 = true ∧ PyData.canLayAll0 ds = true ∧ d.depth ≤ 30 ∧ Q (.bl (if neg = true then !(ds.any fun z => PyData.eqv z d) else ds.any fun z => PyData.eqv z d)) H
theorem op_inT (hu : X.A.units + 64 < cLine) : OpR X (compareOp .In) (rInT X.K false) := by
  intro pins s σ H x y v u Q I rx ry h
  obtain ⟨d, ds, hd, he, sd, se, hdep, q⟩ := h
  obtain ⟨as, r1⟩ := Dp.reads I d x v hd rx
  rcases he with he | he
  · obtain ⟨bs, r2⟩ := Dp.reads I _ y u he ry
    exact SeqAt.in_list_reads r2 r1 se sd (by omega) ⟨.bl _, H, I, rfl, q⟩
  · obtain ⟨bs, r2⟩ := Dp.reads I _ y u he ry
    exact SeqAt.in_tuple_reads r2 r1 se sd (by omega) ⟨.bl _, H, I, rfl, q⟩
theorem op_notInT (hu : X.A.units + 64 < cLine) : OpR X (compareOp .NotIn) (rInT X.K true) := by
  intro pins s σ H x y v u Q I rx ry h
  obtain ⟨d, ds, hd, he, sd, se, hdep, q⟩ := h
  obtain ⟨as, r1⟩ := Dp.reads I d x v hd rx
  rcases he with he | he
  · obtain ⟨bs, r2⟩ := Dp.reads I _ y u he ry
    exact SeqAt.notIn_list_reads r2 r1 se sd (by omega) ⟨.bl _, H, I, rfl, q⟩
  · obtain ⟨bs, r2⟩ := Dp.reads I _ y u he ry
    exact SeqAt.notIn_tuple_reads r2 r1 se sd (by omega) ⟨.bl _, H, I, rfl, q⟩
theorem inT_of {K : PySem.W.Frag} {H : Hp} {F : FS} {st : Store} {v w : PV} {x y : V} {xs : List PV} (rs : RS K H F st) (dv : DV K H F v x) (dw : DV K H F w y) (q : seqOf st w = some xs) (f1 : flat 30 v = true) (f2 : flat 60 (res st w) = true) :
    Dp K H x (toD v) ∧ (Dp K H y (.list (toDs xs)) ∨ Dp K H y (.tuple (toDs xs))) ∧ (toD v).canLay0 = true ∧ PyData.canLayAll0 (toDs xs) = true ∧ (toD v).depth ≤ 30 ∧ ((toDs xs).any fun z => PyData.eqv z (toD v)) = xs.any fun y => eqv y v := by
  obtain ⟨l1, l2⟩ := toD_lay f1
  have key : ∀ zs : List PV, (res st w = .tup zs ∨ res st w = .lst zs) → zs = xs → (Dp K H y (.list (toDs xs)) ∨ Dp K H y (.tuple (toDs xs))) ∧ PyData.canLayAll0 (toDs xs) = true ∧ ((toDs xs).any fun z => PyData.eqv z (toD v)) = xs.any fun y => eqv y v := by
    intro zs hz e
    subst e
    have dr := res_ok rs dw f2
    rcases hz with hz | hz
    · rw [hz] at dr f2
      have h' : (60 != 0 && flats (60 - 1) zs) = true := f2
      have h2 := (Bool.and_eq_true_iff.mp h').2
      exact ⟨.inr dr, (toD_lays h2).1, toD_any f1 h2⟩
    · rw [hz] at dr f2
      have h' : (60 != 0 && flats (60 - 1) zs) = true := f2
      have h2 := (Bool.and_eq_true_iff.mp h').2
      exact ⟨.inl dr, (toD_lays h2).1, toD_any f1 h2⟩
  have hk : ∃ zs : List PV, (res st w = .tup zs ∨ res st w = .lst zs) ∧ zs = xs := by
    cases w with
    | tup zs => exact ⟨zs, .inl rfl, Option.some.inj q⟩
    | lst zs => exact ⟨zs, .inr rfl, Option.some.inj q⟩
    | ref a =>
      cases e : st a with
      | none =>
        have q' : (match st a with | some (.lst xs) => some xs | _ => none) = some xs := q
        rw [e] at q'; cases q'
      | some c =>
        have q' : (match st a with | some (.lst xs) => some xs | _ => none) = some xs := q
        rw [e] at q'
        cases c with
        | pool => cases q'
        | lst zs => exact ⟨zs, .inr (by simp only [res, e]), Option.some.inj q'⟩
    | _ => cases q
  obtain ⟨zs, hz, e⟩ := hk
  obtain ⟨a, b, c⟩ := key zs hz e
  exact ⟨toD_dp f1 dv, a, l1, b, l2, c⟩
theorem cmp_ok {o : CmpOp} (hu : X.A.units + 64 < cLine) : OpR X (compareOp o) (rB X.K (cmpV o)) := by
  intro pins s σ H x y vv uu Q I rx ry ⟨F, st, v, w, rs, dv, dw, h⟩
  unfold cmpV at h
  cases o with
  | Eq =>
    obtain ⟨ok, h⟩ := h
    rcases ok with ok | ⟨f1, f2⟩
    · obtain ⟨e1, e2⟩ := scP_ok (st := st) ok dv dw
      exact op_eq pins s σ H _ _ _ _ Q I rx ry ⟨e1, by rw [e2]; exact h.now rs (.bl _)⟩
    · exact op_eqD hu pins s σ H _ _ _ _ Q I rx ry ⟨_, _, res_ok rs dv f1, res_ok rs dw f2, toD_shaped f1, toD_shaped f2, by rw [toD_eqv f1 f2]; exact h.now rs (.bl _)⟩
  | NotEq =>
    obtain ⟨ok, h⟩ := h
    rcases ok with ok | ⟨f1, f2⟩
    · obtain ⟨e1, e2⟩ := scP_ok (st := st) ok dv dw
      exact op_ne pins s σ H _ _ _ _ Q I rx ry ⟨e1, by rw [e2]; exact h.now rs (.bl _)⟩
    · exact op_neD hu pins s σ H _ _ _ _ Q I rx ry ⟨_, _, res_ok rs dv f1, res_ok rs dw f2, toD_shaped f1, toD_shaped f2, by rw [toD_eqv f1 f2]; exact h.now rs (.bl _)⟩
  | Lt =>
    dsimp only at h
    split at h
    · cases dv; cases dw; exact op_lt pins s σ H _ _ _ _ Q I rx ry ⟨_, _, rfl, rfl, h.now rs (.bl _)⟩
    · exact h.elim
  | LtE =>
    dsimp only at h
    split at h
    · cases dv; cases dw; exact op_le pins s σ H _ _ _ _ Q I rx ry ⟨_, _, rfl, rfl, h.now rs (.bl _)⟩
    · exact h.elim
  | Gt =>
    dsimp only at h
    split at h
    · cases dv; cases dw; exact op_gt pins s σ H _ _ _ _ Q I rx ry ⟨_, _, rfl, rfl, h.now rs (.bl _)⟩
    · exact h.elim
  | GtE =>
    dsimp only at h
    split at h
    · cases dv; cases dw; exact op_ge pins s σ H _ _ _ _ Q I rx ry ⟨_, _, rfl, rfl, h.now rs (.bl _)⟩
    · exact h.elim
  | Is =>
    dsimp only at h
    split at h
    · cases dw; exact op_isN pins s σ H _ _ _ _ Q I rx ry ⟨rfl, by rw [isNon_ok dv]; exact h.now rs (.bl _)⟩
    · unfold onBl at h
      split at h
      · cases dv; cases dw
        exact op_is_bl pins s σ H _ _ _ _ Q I rx ry ⟨_, _, rfl, rfl, h.now rs (.bl _)⟩
      · exact h.elim
    · exact h.elim
  | IsNot =>
    dsimp only at h
    split at h
    · cases dw; exact op_notN pins s σ H _ _ _ _ Q I rx ry ⟨rfl, by rw [isNon_ok dv]; exact h.now rs (.bl _)⟩
    · unfold onBl at h
      split at h
      · cases dv; cases dw
        exact op_isnot_bl pins s σ H _ _ _ _ Q I rx ry ⟨_, _, rfl, rfl, h.now rs (.bl _)⟩
      · exact h.elim
    · exact h.elim
  | In =>
    dsimp only at h
    split at h
    · unfold onStr at h
      split at h
      · cases dv; cases dw
        exact op_in_str pins s σ H _ _ _ _ Q I rx ry ⟨_, _, rfl, rfl, h.now rs (.bl _)⟩
      · exact h.elim
    cases q : seqOf st w with
    | none => rw [q] at h; exact h.elim
    | some xs =>
      rw [q] at h
      obtain ⟨hok, h⟩ := h
      rcases hok with ⟨h1, h2⟩ | ⟨f1, f2⟩
      · obtain ⟨a, ys, rfl, hs, ds⟩ := seqOf_ok rs q dw
        exact op_in_seq pins s σ H _ _ _ _ Q I rx ry ⟨a, ys, rfl, hs, sc_flat h1 dv, sc_flats h2 ds, by rw [if_neg Bool.false_ne_true, sc_any h1 dv h2 ds]; exact h.now rs (.bl _)⟩
      · obtain ⟨k1, k2, k3, k4, k5, k6⟩ := inT_of rs dv dw q f1 f2
        exact op_inT hu pins s σ H _ _ _ _ Q I rx ry ⟨_, _, k1, k2, k3, k4, k5, by rw [if_neg Bool.false_ne_true, k6]; exact h.now rs (.bl _)⟩
  | NotIn =>
    dsimp only at h
    split at h
    · unfold onStr at h
      split at h
      · cases dv; cases dw
        exact op_notIn_str pins s σ H _ _ _ _ Q I rx ry ⟨_, _, rfl, rfl, h.now rs (.bl _)⟩
      · exact h.elim
    cases q : seqOf st w with
    | none => rw [q] at h; exact h.elim
    | some xs =>
      rw [q] at h
      obtain ⟨hok, h⟩ := h
      rcases hok with ⟨h1, h2⟩ | ⟨f1, f2⟩
      · obtain ⟨a, ys, rfl, hs, ds⟩ := seqOf_ok rs q dw
        exact op_notIn_seq pins s σ H _ _ _ _ Q I rx ry ⟨a, ys, rfl, hs, sc_flat h1 dv, sc_flats h2 ds, by rw [if_pos rfl, sc_any h1 dv h2 ds]; exact h.now rs (.bl _)⟩
      · obtain ⟨k1, k2, k3, k4, k5, k6⟩ := inT_of rs dv dw q f1 f2
        exact op_notInT hu pins s σ H _ _ _ _ Q I rx ry ⟨_, _, k1, k2, k3, k4, k5, by rw [if_pos rfl, k6]; exact h.now rs (.bl _)⟩
end
end TK
namespace PySem.AutoSeq1
theorem tk_ext_tup (l : Addr) (items : Array Value) (n : Nat) (b : Addr) (items2 : Array Value) (n2 : Nat) (dd : Option Addr) (sl : Array (Option Value)) (hs0 : ¬(!items.isEmpty && Builtin.List.listTooLong (items.size + items2.size)) = true) (hs1 : items.size ≤ sizeLine) (hs2 : items.size + items2.size ≤ sizeLine + 1) :
    Meets (Builtin.«list.extend» ⟨[.ref l, .ref b], []⟩) (fun _ R s => s.heap.get? l = some { cls := .type "list", dict := none, data := .seq items n, slots := #[] } ∧ s.heap.get? b = some { cls := .type "tuple", dict := dd, data := .seq items2 n2, slots := sl } ∧ R (.ok (.ret Value.none)) { s with heap := s.heap.update l (Obj.mapSeq fun x => x ++ items2), toks := s.toks }) :=
  .of_wp fun prog w A R s h => by
    obtain ⟨hp, g, d, tk, os⟩ := s; obtain ⟨hl, hb, h⟩ := h; have f1 := idx_int; have f2 := sub_tuple_tuple; have f3 := sub_list_list; have f4 := sub_tuple_list; have f5 := sub_list_tuple;
    have hz' : (items ++ items2).size ≤ sizeLine + 1 := by rw [Array.size_append]; exact hs2
    wp_walk using (wpAny_updateSeq hl rfl (hz := hs1) (_hz' := hz')), wpAny_loadPart' hl, wpAny_loadPart' hb; exact ⟨_, rfl, h⟩
end PySem.AutoSeq1
namespace TK
open PySem PySem.Spec PyProof.Rows L2
section
variable {X : Cx}
def rExtT (K : PySem.W.Frag) : V → List V → Hp → VK → Prop := fun x vs H Q => ∃ l b xs zs, x = .ref l ∧ vs = [.ref b] ∧ H l = some (.lst xs) ∧ SqT K H b zs ∧ xs.length + zs.length ≤ sizeLine ∧ Q .non (upd H l (.lst (xs ++ zs)))
theorem mt_extT : MtM X "list.extend" (rExtT X.K) := by
  intro pins s σ H x vs v us Q I rx rv h
  obtain ⟨l, b, xs, zs, rfl, rfl, hH, hB, hz, q⟩ := h
  cases rx
  obtain ⟨u, rfl, ru⟩ := rv.one
  cases ru
  obtain ⟨z, its, n, r, hl, e⟩ := I.lstM hH
  obtain ⟨its2, r2, ⟨⟨cls, dd, data, sl⟩, e2, hc, n2, hd⟩, hl2⟩ := I.tuple hB
  simp only at hc hd
  subst hc hd
  have hr1 := r.length
  have hr2 := r2.length
  have hsz : its.toArray.size + its2.toArray.size ≤ sizeLine := by rw [List.size_toArray, List.size_toArray]; omega
  have hlong : ¬ (!its.toArray.isEmpty && Builtin.List.listTooLong (its.toArray.size + its2.toArray.size)) = true := by
    rw [notLongL hsz, Bool.and_false]
    exact Bool.false_ne_true
  refine call_meets F.slot_list_extend ⟨_, e, rfl⟩ F.entry_list_extend (F.args_list_extend_2 _ _)
    (AutoSeq1.tk_ext_tup l its.toArray n b its2.toArray n2 dd sl hlong (by rw [List.size_toArray]; omega) (by omega)) ⟨e, e2, ?_⟩
  refine ⟨.non, _, I.lset (its' := its ++ its2) hH e (by simp) (r.append r2) ?_, rfl, q⟩
  rw [List.length_append]
  omega
end
end TK

set_option maxRecDepth 100000
set_option maxHeartbeats 2000000
namespace TK
open PySem PySem.Spec PyProof.Rows L2
/-! ### built-in functions -/
theorem bls_ok {K : PySem.W.Frag} {H : Hp} {F : FS} : ∀ {xs : List PV} {bs : List Bool} {ys : List V}, blsOf xs = some bs → DVs K H F xs ys → ys = bs.map V.bl
  | [], bs, _, e, .nil => by cases (Option.some.inj e); rfl
  | .bl b :: r, bs, _, e, .cons d ds => by
    have e' : (blsOf r).map (b :: ·) = some bs := e
    cases q : blsOf r with
    | none => rw [q] at e'; cases e'
    | some cs =>
      rw [q] at e'; cases e'
      cases d
      rw [bls_ok q ds]
      rfl
  | .non :: _, _, _, e, _ => nomatch e
  | .int _ :: _, _, _, e, _ => nomatch e
  | .str _ :: _, _, _, e, _ => nomatch e
  | .tup _ :: _, _, _, e, _ => nomatch e
  | .lst _ :: _, _, _, e, _ => nomatch e
  | .ref _ :: _, _, _, e, _ => nomatch e
  | .scr _ :: _, _, _, e, _ => nomatch e
theorem ints_ok {K : PySem.W.Frag} {H : Hp} {F : FS} : ∀ {xs : List PV} {bs : List Int} {ys : List V}, intsOf xs = some bs → DVs K H F xs ys → ys = bs.map V.int
  | [], bs, _, e, .nil => by cases (Option.some.inj e); rfl
  | .int b :: r, bs, _, e, .cons d ds => by
    have e' : (intsOf r).map (b :: ·) = some bs := e
    cases q : intsOf r with
    | none => rw [q] at e'; cases e'
    | some cs =>
      rw [q] at e'; cases e'
      cases d
      rw [ints_ok q ds]
      rfl
  | .non :: _, _, _, e, _ => nomatch e
  | .bl _ :: _, _, _, e, _ => nomatch e
  | .str _ :: _, _, _, e, _ => nomatch e
  | .tup _ :: _, _, _, e, _ => nomatch e
  | .lst _ :: _, _, _, e, _ => nomatch e
  | .ref _ :: _, _, _, e, _ => nomatch e
  | .scr _ :: _, _, _, e, _ => nomatch e
theorem max_fold : ∀ (r : List Int) (x : Int), (r.foldl (fun m y => if y > m then y else m) x ∈ x :: r) ∧ ∀ y ∈ x :: r, y ≤ r.foldl (fun m y => if y > m then y else m) x
  | [], x => ⟨List.mem_singleton.mpr rfl, fun y hy => by rw [List.mem_singleton.mp hy]; exact Int.le_refl _⟩
  | z :: r, x => by
    obtain ⟨a, b⟩ := max_fold r (if z > x then z else x)
    rw [List.foldl_cons]
    have hm : (if z > x then z else x) = z ∨ (if z > x then z else x) = x := by split <;> simp
    have h1 : z ≤ (if z > x then z else x) := by split <;> omega
    have h2 : x ≤ (if z > x then z else x) := by split <;> omega
    have h0 := b _ List.mem_cons_self
    refine ⟨?_, fun y hy => ?_⟩
    · rcases List.mem_cons.mp a with e | e
      · rcases hm with h | h <;> rw [e, h] <;> simp
      · exact List.mem_cons_of_mem _ (List.mem_cons_of_mem _ e)
    · rcases List.mem_cons.mp hy with rfl | hy
      · exact Int.le_trans h2 h0
      · rcases List.mem_cons.mp hy with rfl | hy
        · exact Int.le_trans h1 h0
        · exact b y (List.mem_cons_of_mem _ hy)
theorem min_fold : ∀ (r : List Int) (x : Int), (r.foldl (fun m y => if y < m then y else m) x ∈ x :: r) ∧ ∀ y ∈ x :: r, r.foldl (fun m y => if y < m then y else m) x ≤ y
  | [], x => ⟨List.mem_singleton.mpr rfl, fun y hy => by rw [List.mem_singleton.mp hy]; exact Int.le_refl _⟩
  | z :: r, x => by
    obtain ⟨a, b⟩ := min_fold r (if z < x then z else x)
    rw [List.foldl_cons]
    have hm : (if z < x then z else x) = z ∨ (if z < x then z else x) = x := by split <;> simp
    have h1 : (if z < x then z else x) ≤ z := by split <;> omega
    have h2 : (if z < x then z else x) ≤ x := by split <;> omega
    have h0 := b _ List.mem_cons_self
    refine ⟨?_, fun y hy => ?_⟩
    · rcases List.mem_cons.mp a with e | e
      · rcases hm with h | h <;> rw [e, h] <;> simp
      · exact List.mem_cons_of_mem _ (List.mem_cons_of_mem _ e)
    · rcases List.mem_cons.mp hy with rfl | hy
      · exact Int.le_trans h0 h2
      · rcases List.mem_cons.mp hy with rfl | hy
        · exact Int.le_trans h0 h1
        · exact b y (List.mem_cons_of_mem _ hy)
theorem maxL_mem {ns : List Int} (h : ns ≠ []) : maxL ns ∈ ns := by
  cases ns with
  | nil => exact absurd rfl h
  | cons x r => exact (max_fold r x).1
theorem maxL_ge {ns : List Int} : ∀ y ∈ ns, y ≤ maxL ns := by
  cases ns with
  | nil => exact fun _ h => nomatch h
  | cons x r => exact (max_fold r x).2
theorem minL_mem {ns : List Int} (h : ns ≠ []) : minL ns ∈ ns := by
  cases ns with
  | nil => exact absurd rfl h
  | cons x r => exact (min_fold r x).1
theorem minL_le {ns : List Int} : ∀ y ∈ ns, minL ns ≤ y := by
  cases ns with
  | nil => exact fun _ h => nomatch h
  | cons x r => exact (min_fold r x).2
theorem len_pos {ns : List Int} (h : ns ≠ []) : 0 < ns.length := by
  cases ns with
  | nil => exact absurd rfl h
  | cons x r => exact Nat.succ_pos _
mutual
theorem toD_nodict : ∀ v : PV, (toD v).hasDict = false
  | .non => by simp [toD, PyData.hasDict]
  | .bl _ => by simp [toD, PyData.hasDict]
  | .int _ => by simp [toD, PyData.hasDict]
  | .str _ => by simp [toD, PyData.hasDict]
  | .tup xs => by simp only [toD, PyData.hasDict]; exact toD_nodicts xs
  | .lst xs => by simp only [toD, PyData.hasDict]; exact toD_nodicts xs
  | .ref _ => by simp [toD, PyData.hasDict]
  | .scr _ => by simp [toD, PyData.hasDict]
theorem toD_nodicts : ∀ v : List PV, PyData.hasDictAll (toDs v) = false
  | [] => by simp [toDs, PyData.hasDictAll]
  | x :: r => by simp only [toDs, PyData.hasDictAll]; rw [toD_nodict x, toD_nodicts r]; rfl
end
theorem ints_all (h : Heap) : ∀ {vs : List Value} {xs : List Int}, IntsAre vs xs → ReadsAll h vs (xs.map PyData.int) []
  | _, _, .nil => .nil
  | _, _, .cons n t r => .cons (.int n t) (ints_all h r)
theorem depth_ints : ∀ ns : List Int, PyData.depthAll (ns.map PyData.int) ≤ 1
  | [] => by decide
  | n :: r => by
    have := depth_ints r
    show max (PyData.depth (.int n)) (PyData.depthAll (r.map PyData.int)) ≤ 1
    have e : PyData.depth (.int n) ≤ 1 := by simp [PyData.depth]
    omega
theorem alike_ints (ns : List Int) : PySem.W.AlikeAll (ns.map PyData.int) := by
  refine ⟨fun x hx y hy => ?_, fun x hx => ?_⟩
  · obtain ⟨a, _, rfl⟩ := List.mem_map.mp hx
    obtain ⟨b, _, rfl⟩ := List.mem_map.mp hy
    rfl
  · obtain ⟨a, _, rfl⟩ := List.mem_map.mp hx
    exact fun e => nomatch e
theorem max_ints (n : Int) (r : List Int) : r.foldl max n = maxL (n :: r) := by
  show _ = r.foldl (fun m y => if y > m then y else m) n
  induction r generalizing n with
  | nil => rfl
  | cons k r ih =>
    rw [List.foldl_cons, List.foldl_cons, ih]
    congr 1
    show max n k = _
    by_cases h : k > n
    · rw [if_pos h]; omega
    · rw [if_neg h]; omega
theorem call_maxT {X : Cx} (hc : X.calm = true) (hu : X.A.units + 64 < cLine) : CallR X (.builtin "max") (fun xs H Q => ∃ (a : Addr) (ns : List Int), xs = [V.ref a] ∧ ns ≠ [] ∧ SqT X.K H a (ns.map V.int) ∧ Q (.int (maxL ns)) H) := by
  intro pins s σ H xs us Q I r h
  obtain ⟨a, ns, rfl, hne, hs, q⟩ := h
  obtain ⟨its, rv, hl, _⟩ := I.tuple hs
  rw [Vals.ref1 r]
  have hd := depth_ints ns
  cases ns with
  | nil => exact absurd rfl hne
  | cons n r =>
    refine PySem.W.max_tuple_data (x := .int n) (xs := r.map PyData.int) (I.ok.hd hc) hl (ints_all _ rv.ints) (alike_ints (n :: r)) (by rw [List.map_cons] at hd; omega) fun i v h' tk bs hv hr k => ?_
    rw [PySem.W.maxD_ints, max_ints] at hr
    cases hr with
    | int i t => exact ⟨.int _, H, I.kept k, ⟨_, rfl⟩, q⟩
section
variable {X : Cx}
abbrev rC (K : PySem.W.Frag) (f : List PV → Store → PQ → Prop) : List V → Hp → VK → Prop := fun xs H Q => ∃ F st vs, RS K H F st ∧ DVs K H F vs xs ∧ f vs st (LQ K F H Q)
theorem call_repr (hg : X.A.guards = some []) (hu : X.A.units + 64 < cLine) : CallR X (.builtin "repr") (fun xs H Q => ∃ v d, xs = [v] ∧ Dp X.K H v d ∧ d.hasDict = false ∧ d.showable = true ∧ d.shown.length ≤ sizeLine ∧ d.depth ≤ 60 ∧ Q (.str d.shown) H) := by
  intro pins s σ H xs us Q I r h
  obtain ⟨v, d, rfl, dp, nd, sh, sz, dd, q⟩ := h
  obtain ⟨u, rfl, ru⟩ := vals1 r
  obtain ⟨as, rd⟩ := Dp.reads I d v u dp ru
  cases dp with
  | non =>
    cases ru
    refine PySem.P.repr_of_none ⟨.str "None", H, I.tok _, ⟨_, rfl⟩, ?_⟩
    simpa [PyData.shown] using q
  | bl b =>
    cases ru
    refine PySem.P.repr_of_bool ⟨.str (if b then "True" else "False"), H, I.tok _, ⟨_, rfl⟩, ?_⟩
    simpa [PyData.shown] using q
  | int i =>
    obtain ⟨t, rfl⟩ := ru
    refine PySem.P.repr_of_int (by simpa [PyData.showable] using sh) ⟨.str (toString i), H, I.tok _, ⟨_, rfl⟩, ?_⟩
    simpa [PyData.shown] using q
  | str x =>
    obtain ⟨t, rfl⟩ := ru
    refine PySem.P.repr_of_str (hsz := by simpa [PyData.shown] using sz) ⟨.str (reprText x), H, I.tok _, ⟨_, rfl⟩, ?_⟩
    simpa [PyData.shown] using q
  | lst h1 h2 =>
    cases ru
    exact repr_of_reads' rd sh (fun z => by rw [nd] at z; cases z) hg (by omega) (fun _ _ e => e) (fun h' u tk hk => ⟨.str _, H, I.kept (t' := tk) hk, ⟨u, rfl⟩, q⟩) sz
  | tup h1 h2 =>
    cases ru
    exact repr_of_reads' rd sh (fun z => by rw [nd] at z; cases z) hg (by omega) (fun _ _ e => e) (fun h' u tk hk => ⟨.str _, H, I.kept (t' := tk) hk, ⟨u, rfl⟩, q⟩) sz
/-- which built-in it is -/
def BF.isTy : BF → Bool
  | .int => true
  | .str => true
  | .tuple => true
  | .list => true
  | _ => false
def BF.id : BF → String
  | .len => "len" | .int => "int" | .abs => "abs" | .tuple => "tuple" | .list => "list" | .all => "all" | .any => "any" | .sum => "sum"
  | .min2 => "min" | .max2 => "max" | .min => "min" | .max => "max" | .repr => "repr" | .str => "str"
def BF.val (f : BF) : Value := if f.isTy then .type f.id else .builtin f.id
theorem blt_ok {f : BF} {m : Bool} (hc : X.calm = true) (hg : X.A.guards = some []) (hu : X.A.units + 64 < cLine) : CallR X f.val (rC X.K (bltV f m)) := by
  intro pins s σ H xs us Q I r ⟨F, st, vs, rs, ds, h⟩
  have one : ∀ {v : PV} {xs : List V}, DVs X.K H F [v] xs → ∃ x, xs = [x] ∧ DV X.K H F v x := fun ds => by
    cases ds with
    | cons d ds => cases ds; exact ⟨_, rfl, d⟩
  have two : ∀ {v w : PV} {xs : List V}, DVs X.K H F [v, w] xs → ∃ x y, xs = [x, y] ∧ DV X.K H F v x ∧ DV X.K H F w y := fun ds => by
    cases ds with
    | cons d ds => cases ds with
      | cons d' ds => cases ds; exact ⟨_, _, rfl, d, d'⟩
  unfold bltV at h
  split at h
  · obtain ⟨x, rfl, d⟩ := one ds
    cases d
    exact call_len_str pins s σ H _ us Q I r ⟨_, rfl, h.1, h.2.now rs (.int _)⟩
  · obtain ⟨x, rfl, d⟩ := one ds
    cases d with
    | tup h1 hs => exact call_len_seq pins s σ H _ us Q I r ⟨_, _, rfl, .inr h1, by rw [← hs.length]; exact h.now rs (.int _)⟩
  · obtain ⟨x, rfl, d⟩ := one ds
    cases d with
    | lst f1 h1 hs => exact call_len_seq pins s σ H _ us Q I r ⟨_, _, rfl, .inl (.of h1), by rw [← hs.length]; exact h.now rs (.int _)⟩
  · obtain ⟨x, rfl, d⟩ := one ds
    rename_i a
    cases q : lstOf st (.ref a) with
    | none => rw [q] at h; exact h.elim
    | some zs =>
      rw [q] at h
      obtain ⟨b, ys, rfl, h1, hs⟩ := lstOf_ok rs q d
      exact call_len_seq pins s σ H _ us Q I r ⟨_, _, rfl, .inl (.of h1), by rw [← hs.length]; exact LQ.now h rs (.int _)⟩
  · obtain ⟨x, rfl, d⟩ := one ds
    cases d
    exact call_int1 pins s σ H _ us Q I r (.inl ⟨_, rfl, h.now rs (.int _)⟩)
  · obtain ⟨x, rfl, d⟩ := one ds
    cases d
    exact call_int1 pins s σ H _ us Q I r (.inr ⟨_, rfl, h.now rs (.int _)⟩)
  · obtain ⟨x, rfl, d⟩ := one ds
    cases d
    exact call_abs pins s σ H _ us Q I r ⟨_, rfl, h.now rs (.int _)⟩
  · obtain ⟨x, rfl, d⟩ := one ds
    rename_i v
    cases q : seqOf st v with
    | none => rw [q] at h; exact h.elim
    | some zs =>
      rw [q] at h
      cases d with
      | tup h1 hs =>
        cases (Option.some.inj q)
        exact call_tuple_of pins s σ H _ us Q I r ⟨_, _, rfl, .inr ⟨h1, LQ.now h rs (.tup h1 hs)⟩⟩
      | lst f1 h1 hs =>
        cases (Option.some.inj q)
        exact call_tuple_of pins s σ H _ us Q I r ⟨_, _, rfl, .inl ⟨.of h1, newTup_ok h rs hs⟩⟩
      | ref a =>
        obtain ⟨b, ys, e, h1, hs⟩ := lstOf_ok rs (show lstOf st (.ref a) = some zs from q) (.ref a)
        cases e
        exact call_tuple_of pins s σ H _ us Q I r ⟨_, _, rfl, .inl ⟨.of h1, newTup_ok h rs hs⟩⟩
      | non => cases q
      | bl _ => cases q
      | int _ => cases q
      | str _ => cases q
      | scr _ => cases q
  · obtain ⟨x, rfl, d⟩ := one ds
    cases d with
    | scr h1 => exact call_list_of pins s σ H _ us Q I r ⟨_, _, rfl, .inl h1.sq, newList_ok h rs (DVs.ints _)⟩
  · obtain ⟨x, rfl, d⟩ := one ds
    cases d with
    | tup h1 hs => exact call_list_of pins s σ H _ us Q I r ⟨_, _, rfl, .inr h1, newList_ok h rs hs⟩
  · obtain ⟨x, rfl, d⟩ := one ds
    cases d with
    | lst f1 h1 hs => exact call_list_of pins s σ H _ us Q I r ⟨_, _, rfl, .inl (.of h1), newList_ok h rs hs⟩
  · obtain ⟨x, rfl, d⟩ := one ds
    rename_i a
    cases q : lstOf st (.ref a) with
    | none => rw [q] at h; exact h.elim
    | some zs =>
      rw [q] at h
      obtain ⟨b, ys, rfl, h1, hs⟩ := lstOf_ok rs q d
      exact call_list_of pins s σ H _ us Q I r ⟨_, _, rfl, .inl (.of h1), newList_ok h rs hs⟩
  · obtain ⟨x, rfl, d⟩ := one ds
    rename_i v
    cases q : lstOf st v with
    | none => rw [q] at h; exact h.elim
    | some zs =>
      rw [q] at h
      have h : oP (blsOf zs) _ := h
      cases q2 : blsOf zs with
      | none => rw [q2] at h; exact h.elim
      | some bs =>
        rw [q2] at h
        obtain ⟨b, ys, rfl, h1, hs⟩ := lstOf_ok rs q d
        rw [bls_ok q2 hs] at h1
        exact cr_all hc pins s σ H _ us Q I r ⟨_, bs, rfl, .of h1, LQ.now h rs (.bl _)⟩
  · obtain ⟨x, rfl, d⟩ := one ds
    rename_i v
    cases q : lstOf st v with
    | none => rw [q] at h; exact h.elim
    | some zs =>
      rw [q] at h
      have h : oP (blsOf zs) _ := h
      cases q2 : blsOf zs with
      | none => rw [q2] at h; exact h.elim
      | some bs =>
        rw [q2] at h
        obtain ⟨b, ys, rfl, h1, hs⟩ := lstOf_ok rs q d
        rw [bls_ok q2 hs] at h1
        exact cr_any hc pins s σ H _ us Q I r ⟨_, bs, rfl, .of h1, LQ.now h rs (.bl _)⟩
  · obtain ⟨x, rfl, d⟩ := one ds
    rename_i v
    cases q : lstOf st v with
    | none => rw [q] at h; exact h.elim
    | some zs =>
      rw [q] at h
      have h : oP (intsOf zs) _ := h
      cases q2 : intsOf zs with
      | none => rw [q2] at h; exact h.elim
      | some bs =>
        rw [q2] at h
        obtain ⟨b, ys, rfl, h1, hs⟩ := lstOf_ok rs q d
        rw [ints_ok q2 hs] at h1
        exact cr_sum hc pins s σ H _ us Q I r ⟨_, bs, rfl, .of h1, LQ.now h rs (.int _)⟩
  · obtain ⟨x, rfl, d⟩ := one ds
    rename_i v
    cases q : extOf st v with
    | none => rw [q] at h; exact h.elim
    | some zs =>
      rw [q] at h
      have h : oP (intsOf zs) _ := h
      cases q2 : intsOf zs with
      | none => rw [q2] at h; exact h.elim
      | some bs =>
        rw [q2] at h
        obtain ⟨ne, h⟩ := h
        by_cases ht : ∃ ts, v = .tup ts
        · obtain ⟨ts, rfl⟩ := ht
          cases (Option.some.inj q)
          cases d with
          | tup h1 hs =>
            rw [ints_ok q2 hs] at h1
            exact call_maxT hc hu pins s σ H _ us Q I r ⟨_, bs, rfl, ne, h1, LQ.now h rs (.int _)⟩
        have q : lstOf st v = some zs := by
          cases v <;> first | exact q | exact absurd ⟨_, rfl⟩ ht
        obtain ⟨b, ys, rfl, h1, hs⟩ := lstOf_ok rs q d
        rw [ints_ok q2 hs] at h1
        refine cr_max hc pins s σ H _ us Q I r ⟨_, bs, rfl, .of h1, len_pos ne, fun k hk hge => ?_⟩
        have e : k = maxL bs := Int.le_antisymm (maxL_ge k hk) (hge _ (maxL_mem ne))
        rw [e]
        exact LQ.now h rs (.int _)
  · obtain ⟨x, rfl, d⟩ := one ds
    rename_i v
    cases q : lstOf st v with
    | none => rw [q] at h; exact h.elim
    | some zs =>
      rw [q] at h
      have h : oP (intsOf zs) _ := h
      cases q2 : intsOf zs with
      | none => rw [q2] at h; exact h.elim
      | some bs =>
        rw [q2] at h
        obtain ⟨ne, h⟩ := h
        obtain ⟨b, ys, rfl, h1, hs⟩ := lstOf_ok rs q d
        rw [ints_ok q2 hs] at h1
        refine cr_min hc pins s σ H _ us Q I r ⟨_, bs, rfl, .of h1, len_pos ne, fun k hk hge => ?_⟩
        have e : k = minL bs := Int.le_antisymm (hge _ (minL_mem ne)) (minL_le k hk)
        rw [e]
        exact LQ.now h rs (.int _)
  · obtain ⟨x, y, rfl, d, d'⟩ := two ds
    cases d; cases d'
    exact call_max2 hc pins s σ H _ us Q I r ⟨_, _, rfl, h.now rs (.int _)⟩
  · obtain ⟨x, y, rfl, d, d'⟩ := two ds
    cases d; cases d'
    exact call_min2 hc pins s σ H _ us Q I r ⟨_, _, rfl, h.now rs (.int _)⟩
  · obtain ⟨x, rfl, d⟩ := one ds
    cases d
    exact call_str_int pins s σ H _ us Q I r ⟨_, rfl, h.1, h.2.now rs (.str _)⟩
  · obtain ⟨x, rfl, d⟩ := one ds
    obtain ⟨⟨h1, h2, h3⟩, h⟩ := h
    exact call_repr hg hu pins s σ H _ us Q I r ⟨_, _, rfl, res_ok rs d h3, toD_nodict _, h1, h2, (toD_lay h3).2, h.now rs (.str _)⟩
  · exact h.elim

/-! ### isinstance -/
def tyName : PV → String
  | .non => "NoneType" | .bl _ => "bool" | .int _ => "int" | .str _ => "str" | .tup _ => "tuple" | _ => "list"
theorem kit_table : (["NoneType", "bool", "int", "str", "tuple", "list"].all fun t => ["int", "bool", "str", "tuple", "list"].all fun c =>
    decide (kitB t c = some (t == c || (t == "bool" && c == "int")))) = true := by decide +kernel
theorem kit_ok {t c : String} (ht : t ∈ ["NoneType", "bool", "int", "str", "tuple", "list"]) (hc : c ∈ ["int", "bool", "str", "tuple", "list"]) : kitB t c = some (t == c || (t == "bool" && c == "int")) := by
  have h := List.all_eq_true.mp (List.all_eq_true.mp kit_table t ht) c hc
  exact of_decide_eq_true h
def tyStr (ty : Str) : Option String := if ty = ("int" : Str) then some "int" else if ty = ("bool" : Str) then some "bool" else if ty = ("str" : Str) then some "str" else if ty = ("tuple" : Str) then some "tuple" else if ty = ("list" : Str) then some "list" else none
theorem tyStr_ok {ty : Str} (h : tyOk ty = true) : ∃ c : String, c ∈ ["int", "bool", "str", "tuple", "list"] ∧ ty = Str.ofString c ∧ bootBuiltins ty = some (.type c) := by
  unfold tyOk at h
  simp only [Bool.or_eq_true, beq_iff_eq] at h
  rcases h with (((h | h) | h) | h) | h <;> subst h
  · exact ⟨"int", by decide, rfl, by decide +kernel⟩
  · exact ⟨"bool", by decide, rfl, by decide +kernel⟩
  · exact ⟨"str", by decide, rfl, by decide +kernel⟩
  · exact ⟨"tuple", by decide, rfl, by decide +kernel⟩
  · exact ⟨"list", by decide, rfl, by decide +kernel⟩
theorem TyX_ok {K : PySem.W.Frag} {H : Hp} {F : FS} {v : PV} {x : V} (d : DV K H F v x) (hv : ∀ a, v ≠ .ref a) (hs : ∀ a, v ≠ .scr a) : TyX K H x (.type (tyName v)) ∧ tyName v ∈ ["NoneType", "bool", "int", "str", "tuple", "list"] := by
  cases d with
  | non => exact ⟨.base .non, by decide⟩
  | bl b => exact ⟨.base (.bl b), by simp [tyName]⟩
  | int b => exact ⟨.base (.int b), by simp [tyName]⟩
  | str b => exact ⟨.base (.str b), by simp [tyName]⟩
  | tup h hs =>
    refine ⟨?_, by simp [tyName]⟩
    rcases h with (h | ⟨o, h⟩) | ⟨o, its, n, h, hc, _⟩
    · exact .base (.tup h)
    · exact .fTuple h
    · exact .kTuple h hc
  | lst f h hs => exact ⟨.base (.lst h), by simp [tyName]⟩
  | ref a => exact absurd rfl (hv a)
  | scr h => exact absurd rfl (hs _)
theorem isi_val {ty : Str} {c : String} (hc : c ∈ ["int", "bool", "str", "tuple", "list"]) (e : ty = Str.ofString c) {v : PV} {b : Bool} (h : isiV ty v = some b) :
    (∀ a, v ≠ .ref a) ∧ (∀ a, v ≠ .scr a) ∧ (tyName v == c || (tyName v == "bool" && c == "int")) = b := by
  subst e
  simp only [List.mem_cons, List.not_mem_nil, or_false] at hc
  cases v with
  | ref a => cases h
  | scr a => cases h
  | non =>
    have h' : some false = some b := h
    cases h'
    refine ⟨(fun a z => by cases z), (fun a z => by cases z), ?_⟩
    rcases hc with rfl | rfl | rfl | rfl | rfl <;> decide
  | bl _ =>
    have h' : some _ = some b := h
    cases h'
    refine ⟨(fun a z => by cases z), (fun a z => by cases z), ?_⟩
    rcases hc with rfl | rfl | rfl | rfl | rfl <;> (simp only [tyName]; decide +kernel)
  | int _ =>
    have h' : some _ = some b := h
    cases h'
    refine ⟨(fun a z => by cases z), (fun a z => by cases z), ?_⟩
    rcases hc with rfl | rfl | rfl | rfl | rfl <;> (simp only [tyName]; decide +kernel)
  | str _ =>
    have h' : some _ = some b := h
    cases h'
    refine ⟨(fun a z => by cases z), (fun a z => by cases z), ?_⟩
    rcases hc with rfl | rfl | rfl | rfl | rfl <;> (simp only [tyName]; decide +kernel)
  | tup _ =>
    have h' : some _ = some b := h
    cases h'
    refine ⟨(fun a z => by cases z), (fun a z => by cases z), ?_⟩
    rcases hc with rfl | rfl | rfl | rfl | rfl <;> (simp only [tyName]; decide +kernel)
  | lst _ =>
    have h' : some _ = some b := h
    cases h'
    refine ⟨(fun a z => by cases z), (fun a z => by cases z), ?_⟩
    rcases hc with rfl | rfl | rfl | rfl | rfl <;> (simp only [tyName]; decide +kernel)

/-! ### items, slices -/
theorem atI_map {K : PySem.W.Frag} {H : Hp} {F : FS} {xs : List PV} {ys : List V} {i : Int} {v : PV} (ds : DVs K H F xs ys) (e : atI xs i = some v) : ∃ y, atI ys i = some y ∧ DV K H F v y := by
  unfold atI at e ⊢
  rw [← ds.length]
  cases q : ixN xs.length i with
  | none => rw [q] at e; cases e
  | some j =>
    rw [q] at e
    exact ds.get e
theorem ix_ok : IxR X (rB X.K idxV) := by
  intro value slice pins s σ H x y vv uu Q I rx ry ⟨F, st, v, w, rs, dv, dw, h⟩ hs
  unfold idxV at h
  cases dw with
  | int i =>
    replace h : itemV i v st (LQ X.K F H Q) := h
    unfold itemV at h
    split at h
    · cases dv
      rename_i z
      cases q : atI z.cps.toList i with
      | none => rw [q] at h; exact h.2.elim
      | some c =>
        rw [q] at h
        exact ix_str value slice pins s σ H _ _ _ _ Q I rx ry ⟨z, i, c, rfl, rfl, h.1, q, LQ.now h.2 rs (.str _)⟩ hs
    · rename_i xs
      cases q : atI xs i with
      | none => rw [q] at h; exact h.elim
      | some c =>
        rw [q] at h
        cases dv with
        | tup h1 ds =>
          obtain ⟨y, e, d⟩ := atI_map ds q
          exact ix_tup value slice pins s σ H _ _ _ _ Q I rx ry ⟨_, _, i, y, rfl, rfl, h1, e, LQ.now h rs d⟩ hs
    · rename_i xs
      cases q : atI xs i with
      | none => rw [q] at h; exact h.elim
      | some c =>
        rw [q] at h
        cases dv with
        | lst f1 h1 ds =>
          obtain ⟨y, e, d⟩ := atI_map ds q
          exact ix_list value slice pins s σ H _ _ _ _ Q I rx ry ⟨_, _, i, y, rfl, rfl, .of h1, e, LQ.now h rs d⟩ hs
    · rename_i a
      cases q : lstOf st (.ref a) with
      | none => rw [q] at h; exact h.elim
      | some zs =>
        rw [q] at h
        have h : oP (atI zs i) _ := h
        cases q2 : atI zs i with
        | none => rw [q2] at h; exact h.elim
        | some c =>
          rw [q2] at h
          obtain ⟨b, ys, rfl, h1, ds⟩ := lstOf_ok rs q dv
          obtain ⟨y, e, d⟩ := atI_map ds q2
          exact ix_list value slice pins s σ H _ _ _ _ Q I rx ry ⟨_, _, i, y, rfl, rfl, .of h1, e, LQ.now h rs d⟩ hs
    · exact h.elim
  | _ => exact h.elim
theorem cut_ok {K : PySem.W.Frag} {H : Hp} {F : FS} {xs : List PV} {ys : List V} (ds : DVs K H F xs ys) (lo hi : Option Int) : DVs K H F (cutP xs lo hi) (cutV ys lo hi) := by
  unfold cutP cutV
  rw [ds.length]
  exact (ds.drop _).take _
theorem sl_ok {m : Bool} : SlR X (fun x lo hi H Q => ∃ F st v, RS X.K H F st ∧ DV X.K H F v x ∧ sliceV m v lo hi st (LQ X.K F H Q)) := by
  intro pins s σ H x v' vl vu lo hi sl Q I rx hs pl pu ⟨F, st, v, rs, dv, h⟩
  unfold sliceV at h
  split at h
  · cases dv with
    | tup h1 ds =>
      refine sl_tupA pins s σ H _ v' vl vu lo hi sl Q I rx hs pl pu ⟨_, _, rfl, h1, fun hw => ?_, fun _ => newTup_ok h rs (cut_ok ds lo hi)⟩
      refine LQ.now h rs ?_
      rw [← ds.length] at hw
      unfold cutP
      rw [hw.1, hw.2, List.drop_zero, Nat.sub_zero, List.take_length]
      exact .tup h1 ds
  · cases dv with
    | lst f1 h1 ds => exact sl_list pins s σ H _ v' vl vu lo hi sl Q I rx hs pl pu ⟨_, _, rfl, .of h1, newList_ok h rs (cut_ok ds lo hi)⟩
  · obtain ⟨xs, e, h⟩ := h
    cases dv
    obtain ⟨_, ys, h1, ds⟩ := rs.lst _ _ e
    exact sl_list pins s σ H _ v' vl vu lo hi sl Q I rx hs pl pu ⟨_, _, rfl, .of h1, newList_ok h rs (cut_ok ds lo hi)⟩
  · exact h.elim

/-! ### methods of lists -/
def MF.id : MF → String
  | .append => "list.append" | .extend => "list.extend" | .pop => "list.pop" | .index => "list.index"
theorem put_ok {K : PySem.W.Frag} {F : FS} {H : Hp} {Q : VK} {st : Store} {a : Addr} {xs : List PV} {ys ws : List V} {z : PV} {y : V} (h : LQ K F H Q z (up st a (some (.lst xs)))) (r : RS K H F st) (nf : ¬ F a) (ha : H a = some (.lst ws)) (ds : DVs K H F xs ys) (d : DV K H F z y) :
    Q y (upd H a (.lst ys)) := by
  have ni : ∀ u, H a = some u → ¬ Imm u := fun u e => by
    rw [ha] at e; cases e; exact fun z => z
  exact h F _ _ (.put nf ni) (r.put nf ni ds) (d.ext (.put nf ni))
theorem meth_ok {f : MF} : MtR X f.id (fun x xs H Q => ∃ F st v vs, RS X.K H F st ∧ DV X.K H F v x ∧ DVs X.K H F vs xs ∧ methV f v vs st (LQ X.K F H Q)) := by
  intro pins s σ H x xs v' us Q I rx r ⟨F, st, v, vs, rs, dv, ds, h⟩
  unfold methV at h
  split at h
  · obtain ⟨zs, e, hz, h⟩ := h
    cases dv
    cases ds with
    | cons d ds =>
      cases ds
      obtain ⟨nf, ys, h1, dz⟩ := rs.lst _ _ e
      exact mt_append pins s σ H _ _ v' us Q I rx r ⟨_, ys, _, rfl, rfl, h1, by rw [← dz.length]; exact hz, put_ok h rs nf h1 (dz.append (.cons d .nil)) .non⟩
  · obtain ⟨zs, ws, e, e', hz, h⟩ := h
    cases dv
    cases ds with
    | cons d ds =>
      cases ds
      obtain ⟨nf, ys, h1, dz⟩ := rs.lst _ _ e
      cases d with
      | tup hs dw =>
        cases (Option.some.inj e')
        exact mt_extT pins s σ H _ _ v' us Q I rx r ⟨_, _, ys, _, rfl, rfl, h1, hs, by rw [← dz.length, ← dw.length]; exact hz, put_ok h rs nf h1 (dz.append dw) .non⟩
      | lst f hf dw =>
        obtain ⟨b, us', eb, h2, dw⟩ := lstOf_ok rs (show lstOf _ (.lst _) = some ws from e') (.lst f hf dw)
        cases eb
        exact mt_extend pins s σ H _ _ v' us Q I rx r ⟨_, _, ys, us', rfl, rfl, h1, h2, by rw [← dz.length, ← dw.length]; exact hz, put_ok h rs nf h1 (dz.append dw) .non⟩
      | ref a' =>
        obtain ⟨b, us', eb, h2, dw⟩ := lstOf_ok rs (show lstOf _ (.ref a') = some ws from e') (.ref a')
        cases eb
        exact mt_extend pins s σ H _ _ v' us Q I rx r ⟨_, _, ys, us', rfl, rfl, h1, h2, by rw [← dz.length, ← dw.length]; exact hz, put_ok h rs nf h1 (dz.append dw) .non⟩
      | _ => cases e'
  · obtain ⟨zs, y, e, e', h⟩ := h
    cases dv
    cases ds
    obtain ⟨nf, ys, h1, dz⟩ := rs.lst _ _ e
    rw [dz.length] at e'
    obtain ⟨y', e2, dy⟩ := dz.get e'
    exact mt_pop pins s σ H _ _ v' us Q I rx r ⟨_, ys, y', rfl, rfl, h1, e2, put_ok h rs nf h1 dz.dropLast dy⟩
  · rename_i w
    obtain ⟨zs, j, z, e, hw, hall, hz, he, hno, h⟩ := h
    cases ds with
    | cons d ds =>
      cases ds
      obtain ⟨b, ys, rfl, h1, dz⟩ := lstOf_ok rs e dv
      obtain ⟨z', e2, dzz⟩ := dz.get hz
      have sc : ∀ {k : Nat} {q : PV}, zs[k]? = some q → isSc q = true := fun hq => List.all_eq_true.mp hall _ (List.mem_of_getElem? hq)
      refine mt_index pins s σ H _ _ v' us Q I rx r ⟨b, ys, _, j, z', rfl, rfl, .of h1, sc_flat hw d, sc_flats hall dz, e2, by rw [sc_eqV (sc hz) hw dzz d]; exact he, fun k q hk hq => ?_, h.now rs (.int _)⟩
      obtain ⟨q', e3, dq⟩ := dz.get' hq
      rw [sc_eqV (sc e3) hw dq d]
      exact hno k q' hk e3
  · exact h.elim
theorem set_ok : PSet X (fun o i v H Q => ∃ F st ov iv vv, RS X.K H F st ∧ DV X.K H F ov o ∧ DV X.K H F iv i ∧ DV X.K H F vv v ∧ setIxV ov iv vv st (fun st' => ∀ F' H', Ext F H F' H' → RS X.K H' F' st' → Q H')) := by
  intro pins s σ H o i v ov iv u Q I ro ri rv ⟨F, st, o', i', v', rs, d1, d2, d3, h⟩
  unfold setIxV at h
  split at h
  · obtain ⟨xs, j, e, e2, h⟩ := h
    cases d1; cases d2
    obtain ⟨nf, ys, h1, dz⟩ := rs.lst _ _ e
    have ni : ∀ u, H _ = some u → ¬ Imm u := fun u e => by
      rw [h1] at e; cases e; exact fun z => z
    exact set_list pins s σ H _ _ _ ov iv u Q I ro ri rv ⟨_, ys, _, j, rfl, rfl, h1, by rw [← dz.length]; exact e2, h F _ (.put nf ni) (rs.put nf ni (dz.set d3 j))⟩
  · exact h.elim
end
end TK

set_option maxRecDepth 100000
set_option maxHeartbeats 2000000
namespace TK
open PySem PySem.Spec PyProof.Rows L2

/-! ### readings by the small language -/
def LE (K : PySem.W.Frag) (mg : Str → Option Value) (F : FS) (H : Hp) (E : XK) : EQ := fun e st' => ∀ F' H' cls d, Ext F H F' H' → RS K H' F' st' → ExRep K mg H' F' e cls d → E cls d H'
abbrev LX (X : Cx) (W : WX) (σ : L2.St) (F : FS) (H : Hp) : EQ := LE X.K X.mg F H (fun cls d H' => W cls d σ H')
theorem LE.ext {K : PySem.W.Frag} {mg : Str → Option Value} {F F' : FS} {H H' : Hp} {E : XK} (x : Ext F H F' H') : ∀ e s, LE K mg F H E e s → LE K mg F' H' E e s := fun e s h F2 H2 cls d x2 r q => h F2 H2 cls d (x.trans x2) r q
def tl (X : Cx) (W : WX) (w : EQ → Sl → Store → PQ → Prop) : TE := fun σ H Q => ∃ F τ st, RS X.K H F st ∧ RSl X.K H F τ σ ∧ w (LX X W σ F H) τ st (LQ X.K F H Q)
def tlA (X : Cx) (W : WX) (w : EQ → Sl → Store → (List PV → Store → Prop) → Prop) : TA := fun σ H Q => ∃ F τ st, RS X.K H F st ∧ RSl X.K H F τ σ ∧
  w (LX X W σ F H) τ st fun vs st' => ∀ F' H' ys, Ext F H F' H' → RS X.K H' F' st' → DVs X.K H' F' vs ys → Q ys H'
def tlT (X : Cx) (W : WX) (w : EQ → Sl → Store → (Bool → Store → Prop) → Prop) : TT := fun σ H Q => ∃ F τ st, RS X.K H F st ∧ RSl X.K H F τ σ ∧
  w (LX X W σ F H) τ st fun b st' => ∀ F' H', Ext F H F' H' → RS X.K H' F' st' → Q b H'
def tlO (X : Cx) (W : WX) (w : EQ → Sl → Store → (Option Int → Store → Prop) → Prop) : TO := fun σ H Q => ∃ F τ st, RS X.K H F st ∧ RSl X.K H F τ σ ∧
  w (LX X W σ F H) τ st fun b st' => ∀ F' H', Ext F H F' H' → RS X.K H' F' st' → Q b H'
/-- a walk over items -/
structure WP (K : PySem.W.Frag) (J : It) (F0 : FS) (H0 : Hp) (xs : List PV) (ok : Store → Prop) : Prop where
  mono : ∀ s t, Sub s t → ok s → ok t
  go : ∀ i F H st, i < xs.length → Ext F0 H0 F H → RS K H F st → ok st → J.go i H
  stop : ∀ F H st, Ext F0 H0 F H → RS K H F st → ok st → J.stop xs.length H
  yld : ∀ i F H st x H', i < xs.length → Ext F0 H0 F H → RS K H F st → ok st → J.yld i H x H' → Ext F H F H' ∧ RS K H' F st ∧ ∃ v, xs[i]? = some v ∧ DV K H' F v x
def tlI (X : Cx) (W : WX) (r : Bool) (w : EQ → Sl → Store → (List PV → (Store → Prop) → Store → Prop) → Prop) : TI := fun σ H R => ∃ F τ st, RS X.K H F st ∧ RSl X.K H F τ σ ∧
  w (LX X W σ F H) τ st fun xs ok st' => ∀ F' H' J, Ext F H F' H' → RS X.K H' F' st' → WP X.K J F' H' xs ok → (r = false → xs.length ≤ sizeLine) → R J H'

theorem impE {X : Cx} {e : Expr} {t t' : TE} (h : PE X e t) (i : ∀ σ H Q, t' σ H Q → t σ H Q) : PE X e t' := ⟨fun pins s σ H Q I q => h.run pins s σ H Q I (i σ H Q q)⟩
theorem impT {X : Cx} {e : Expr} {t t' : TT} (h : PT X e t) (i : ∀ σ H Q, t' σ H Q → t σ H Q) : PT X e t' := ⟨fun pins s σ H Q I q => h.run pins s σ H Q I (i σ H Q q)⟩
theorem impW {X : Cx} {e : Expr} {t t' : TT} (h : PW X e t) (i : ∀ σ H Q, t' σ H Q → t σ H Q) : PW X e t' := ⟨fun wh pins s σ H Q I q => h.run wh pins s σ H Q I (i σ H Q q)⟩
theorem impA {X : Cx} {e : List Expr} {t t' : TA} (h : PA X e t) (i : ∀ σ H Q, t' σ H Q → t σ H Q) : PA X e t' := ⟨fun pos pins s σ H Q I q => h.run pos pins s σ H Q I (i σ H Q q)⟩
theorem impO {X : Cx} {e : Option Expr} {t t' : TO} (h : PO X e t) (i : ∀ σ H Q, t' σ H Q → t σ H Q) : PO X e t' := ⟨fun pins s σ H Q I q => h.run pins s σ H Q I (i σ H Q q)⟩
theorem impI {X : Cx} {g e : Expr} {t t' : TI} (h : PI X g e t) (i : ∀ σ H Q, t' σ H Q → t σ H Q) : PI X g e t' := ⟨fun pins s σ H Q I q => h.run pins s σ H Q I (i σ H Q q)⟩
theorem impTs {X : Cx} {e : List Expr} {t t' : TT} (h : PTs X e t) (i : ∀ σ H Q, t' σ H Q → t σ H Q) : PTs X e t' := ⟨fun pins s σ H Q I q => h.run pins s σ H Q I (i σ H Q q)⟩
theorem impS {X : Cx} {e : Stmt} {t t' : TS} (h : PS X e t) (i : ∀ D σ H, t' D σ H → t D σ H) : PS X e t' := ⟨fun pins s σ H D I q => h.run pins s σ H D I (i D σ H q)⟩
theorem impSs {X : Cx} {e : List Stmt} {t t' : TS} (h : PSs X e t) (i : ∀ D σ H, t' D σ H → t D σ H) : PSs X e t' := ⟨fun pins s σ H D I q => h.run pins s σ H D I (i D σ H q)⟩
theorem impG {X : Cx} {e : Expr} {t t' : L2.TG} (h : PG X e t) (i : ∀ v σ H Q, t' v σ H Q → t v σ H Q) : PG X e t' := ⟨fun pins s σ H v u Q I r q => h.run pins s σ H v u Q I r (i v σ H Q q)⟩

section
variable {X : Cx} {W : WX} {σ : L2.St} {F0 F : FS} {H0 H : Hp} {τ : Sl} {st : Store}
theorem tl_go {wa : EQ → Sl → Store → PQ → Prop} {K0 : PQ} {Q1 : VK} (m : ∀ {X X' : EQ} {τ st} {Q Q' : PQ}, (∀ e s, X e s → X' e s) → (∀ v s, Q v s → Q' v s) → wa X τ st Q → wa X' τ st Q')
    (e0 : Ext F0 H0 F H) (rs : RS X.K H F st) (sl : RSl X.K H F τ σ) (h : wa (LX X W σ F0 H0) τ st K0)
    (n : ∀ F1 H1 x v st1, Ext F H F1 H1 → RS X.K H1 F1 st1 → RSl X.K H1 F1 τ σ → DV X.K H1 F1 v x → K0 v st1 → Q1 x H1) : tl X W wa σ H Q1 :=
  ⟨F, τ, st, rs, sl, m (LE.ext e0) (fun v st1 hk F1 H1 x e1 rs1 d => n F1 H1 x v st1 e1 rs1 (sl.ext e1) d hk) h⟩
theorem tlA_go {wa : EQ → Sl → Store → (List PV → Store → Prop) → Prop} {K0 : List PV → Store → Prop} {Q1 : List V → Hp → Prop} (m : ∀ {X X' : EQ} {τ st} {Q Q' : List PV → Store → Prop}, (∀ e s, X e s → X' e s) → (∀ v s, Q v s → Q' v s) → wa X τ st Q → wa X' τ st Q')
    (e0 : Ext F0 H0 F H) (rs : RS X.K H F st) (sl : RSl X.K H F τ σ) (h : wa (LX X W σ F0 H0) τ st K0)
    (n : ∀ F1 H1 x v st1, Ext F H F1 H1 → RS X.K H1 F1 st1 → RSl X.K H1 F1 τ σ → DVs X.K H1 F1 v x → K0 v st1 → Q1 x H1) : tlA X W wa σ H Q1 :=
  ⟨F, τ, st, rs, sl, m (LE.ext e0) (fun v st1 hk F1 H1 x e1 rs1 d => n F1 H1 x v st1 e1 rs1 (sl.ext e1) d hk) h⟩
theorem tlT_go {wa : EQ → Sl → Store → (Bool → Store → Prop) → Prop} {K0 : Bool → Store → Prop} {Q1 : Bool → Hp → Prop} (m : ∀ {X X' : EQ} {τ st} {Q Q' : Bool → Store → Prop}, (∀ e s, X e s → X' e s) → (∀ v s, Q v s → Q' v s) → wa X τ st Q → wa X' τ st Q')
    (e0 : Ext F0 H0 F H) (rs : RS X.K H F st) (sl : RSl X.K H F τ σ) (h : wa (LX X W σ F0 H0) τ st K0)
    (n : ∀ F1 H1 v st1, Ext F H F1 H1 → RS X.K H1 F1 st1 → RSl X.K H1 F1 τ σ → K0 v st1 → Q1 v H1) : tlT X W wa σ H Q1 :=
  ⟨F, τ, st, rs, sl, m (LE.ext e0) (fun v st1 hk F1 H1 e1 rs1 => n F1 H1 v st1 e1 rs1 (sl.ext e1) hk) h⟩
theorem tlO_go {wa : EQ → Sl → Store → (Option Int → Store → Prop) → Prop} {K0 : Option Int → Store → Prop} {Q1 : Option Int → Hp → Prop} (m : ∀ {X X' : EQ} {τ st} {Q Q' : Option Int → Store → Prop}, (∀ e s, X e s → X' e s) → (∀ v s, Q v s → Q' v s) → wa X τ st Q → wa X' τ st Q')
    (e0 : Ext F0 H0 F H) (rs : RS X.K H F st) (sl : RSl X.K H F τ σ) (h : wa (LX X W σ F0 H0) τ st K0)
    (n : ∀ F1 H1 v st1, Ext F H F1 H1 → RS X.K H1 F1 st1 → RSl X.K H1 F1 τ σ → K0 v st1 → Q1 v H1) : tlO X W wa σ H Q1 :=
  ⟨F, τ, st, rs, sl, m (LE.ext e0) (fun v st1 hk F1 H1 e1 rs1 => n F1 H1 v st1 e1 rs1 (sl.ext e1) hk) h⟩
theorem tlI_go {r : Bool} {wa : EQ → Sl → Store → (List PV → (Store → Prop) → Store → Prop) → Prop} {K0 : List PV → (Store → Prop) → Store → Prop} {Q1 : It → Hp → Prop} (m : ∀ {X X' : EQ} {τ st} {Q Q' : List PV → (Store → Prop) → Store → Prop}, (∀ e s, X e s → X' e s) → (∀ v o s, Q v o s → Q' v o s) → wa X τ st Q → wa X' τ st Q')
    (e0 : Ext F0 H0 F H) (rs : RS X.K H F st) (sl : RSl X.K H F τ σ) (h : wa (LX X W σ F0 H0) τ st K0)
    (n : ∀ F1 H1 J xs ok st1, Ext F H F1 H1 → RS X.K H1 F1 st1 → RSl X.K H1 F1 τ σ → WP X.K J F1 H1 xs ok → (r = false → xs.length ≤ sizeLine) → K0 xs ok st1 → Q1 J H1) : tlI X W r wa σ H Q1 :=
  ⟨F, τ, st, rs, sl, m (LE.ext e0) (fun xs ok st1 hk F1 H1 J e1 rs1 wp hz => n F1 H1 J xs ok st1 e1 rs1 (sl.ext e1) wp hz hk) h⟩
end

/-! ### a def, called -/
/-- a def's promise, laid into the layer's heap -/
def liftSp (K : PySem.W.Frag) (mg : Str → Option Value) (n : Nat) (sp : PSpec) : Sp := fun vs H Q E => ∃ F st pvs, RS K H F st ∧ DVs K H F pvs vs ∧ vs.length = n ∧ callS sp pvs st (LE K mg F H E) (LQ K F H Q)
structure FnG (P : Program) (w : World) (K : PySem.W.Frag) (mg : Str → Option Value) (base : Heap) (k : Nat) (f : Addr) (fd : FuncData) (ps : List Str) (sp : Sp) : Prop where
  len : ∀ vs H Q E, sp vs H Q E → vs.length = ps.length
  run : ∀ (A : Around) (outer : List Env) (s : Shared) (H : Hp) (args : Args) (us : List Value) (vs : List V) (Q : VK) (E : XK), A.guards = some [] → Room k A →
    Env0 P w K mg base A outer s H → BindsTo s fd args (ps.zip us) → Vals vs us → sp vs H Q E →
    codeAny (model P w) A (.call (.ref f) args) (CR (L2.CX P w) outer P w H s Q E) s
theorem FnG.mono {P : Program} {w : World} {K : PySem.W.Frag} {mg : Str → Option Value} {base : Heap} {j k : Nat} {f : Addr} {fd : FuncData} {ps : List Str} {sp : Sp} (F : FnG P w K mg base j f fd ps sp) (h : j ≤ k) : FnG P w K mg base k f fd ps sp :=
  ⟨F.len, fun A outer s H args us vs Q E hg hr => F.run A outer s H args us vs Q E hg (hr.mono h)⟩
/-- the program around a body: what runs, what the module's names hold -/
structure Wd where
  P : Program
  w : World
  K : PySem.W.Frag
  mg : Str → Option Value
  base : Heap
def HasFn (Γ : Wd) (k : Nat) (f : Str) (sp : PSpec) (n : Nat) : Prop := ∃ (fa : Addr) (fd : FuncData) (ps : List Str) (ds : List Value) (dv : List V) (pv : List PV) (sp' : PSpec), Γ.mg f = some (.ref fa) ∧ PySem.W.keepIn Γ.K (.ref fa) = true ∧ Binds Γ.K fd ps ds ∧
  Vals dv ds ∧ (∀ H F, DVs Γ.K H F pv dv) ∧ ps.length = n + pv.length ∧ (∀ vs st Q X, sp vs st Q X → sp' (vs ++ pv) st Q X) ∧ FnG Γ.P Γ.w Γ.K Γ.mg Γ.base k fa fd ps (liftSp Γ.K Γ.mg (n + pv.length) sp')
theorem HasFn.mono {Γ : Wd} {j k : Nat} {f : Str} {sp : PSpec} {n : Nat} (h : HasFn Γ j f sp n) (hk : j ≤ k) : HasFn Γ k f sp n := by
  obtain ⟨fa, fd, ps, ds, dv, pv, sp', a, b, c, d, e, g, i, h⟩ := h
  exact ⟨fa, fd, ps, ds, dv, pv, sp', a, b, c, d, e, g, i, h.mono hk⟩
/-- a def whose last parameter is given by its name -/
def HasFnK (Γ : Wd) (k : Nat) (f ks : Str) (sp : PSpec) (n : Nat) : Prop := ∃ (fa : Addr) (fd : FuncData) (ps : List Str), Γ.mg f = some (.ref fa) ∧ PySem.W.keepIn Γ.K (.ref fa) = true ∧
  (∀ (s : Shared) (us : List Value) (w : Value), Γ.K.In s.heap → us.length = n → BindsTo s fd ⟨us, [(ks, w)]⟩ (ps.zip (us ++ [w]))) ∧ ps.length = n + 1 ∧ FnG Γ.P Γ.w Γ.K Γ.mg Γ.base k fa fd ps (liftSp Γ.K Γ.mg (n + 1) sp)
theorem HasFnK.mono {Γ : Wd} {j k : Nat} {f ks : Str} {sp : PSpec} {n : Nat} (h : HasFnK Γ j f ks sp n) (hk : j ≤ k) : HasFnK Γ k f ks sp n := by
  obtain ⟨fa, fd, ps, a, b, c, d, e⟩ := h
  exact ⟨fa, fd, ps, a, b, c, d, e.mono hk⟩
def HasGl (Γ : Wd) (x : Str) (v : PV) : Prop := ∃ (u : Value) (y : V), Γ.mg x = some u ∧ L2.RelV y u ∧ ∀ H F, DV Γ.K H F v y
abbrev wdX (X : Cx) : Wd := ⟨X.prog, X.w, X.K, X.mg, X.base⟩
section
variable {X : Cx} {pins : List (Addr × Obj)} {σ : L2.St} {H : Hp} {s : Shared} {W : WX}
theorem run_gd {k : Nat} {f : Addr} {fd : FuncData} {ps : List Str} {sp : Sp} {Q : VK} {E : XK} {us ws : List Value} {kw : List (Str × Value)} {vs : List V} (F : FnG X.prog X.w X.K X.mg X.base k f fd ps sp) (hg : X.A.guards = some []) (hr : Room k X.A)
    (hb : BindsTo s fd ⟨us, kw⟩ (ps.zip ws)) (hx : PassesAt (L2.CX X.prog X.w) X σ E) (I : L2.Inv X pins σ H s) (r : Vals vs ws) (h : sp vs H Q E) : wpAny (model X.prog X.w) X.A (call (.ref f) us kw) (EP X pins σ Q) X.xe s := by
  refine wpAny_call (codeAny_mono (F.run X.A X.stack s H ⟨us, kw⟩ ws vs Q E hg hr I.env0 hb r h) fun q s' hq => ?_)
  cases q with
  | error e => exact hx pins H s e s' I hq
  | ok fl =>
    cases fl with
    | ret u => exact I.after hq
    | _ => exact hq.elim
end

/-! ### where a term is read -/
def bltNames : List Str := ["len", "int", "abs", "tuple", "list", "all", "any", "sum", "min", "max", "repr", "isinstance", "range", "enumerate", "zip", "bool", "str", "super"]
structure CxOk (X : Cx) (C : SC) (k : Nat) (W : WX) : Prop where
  hN : X.N = C.N
  nd : C.N.Nodup
  hsc : X.env.scope = C.sc
  calm : X.calm = true
  kindF : C.sc.kind = .function
  room : Room k X.A
  gds : X.A.guards = some []
  tk : L2.Takes X W
  po : PassesOwn (model X.prog X.w) X.A X.env X.xe
  tg : ∀ x, locB C.tsc x = true → Loc C.sc x ∧ (X.fn x = true ∨ C.sc.names.lookup x = some .local)
  blt : ∀ x ∈ bltNames, X.mg x = none
section
variable {X : Cx} {C : SC} {k : Nat} {W : WX}
theorem CxOk.vis (ok : CxOk X C k W) {x : Str} (h : visB C.sc x = true) : Vis X.env.scope x := by
  rw [ok.hsc]
  unfold visB at h
  split at h <;> first | exact .inl ‹_› | exact .inr (.inl ‹_›) | exact .inr (.inr ‹_›) | cases h
theorem CxOk.gl (ok : CxOk X C k W) {x : Str} (h : glB C.sc x = true) : Gl X x ∧ (x == ("__debug__" : Str)) = false := by
  unfold glB at h
  split at h
  · rename_i e
    refine ⟨?_, by simpa using h⟩
    show X.env.scope.names.lookup x = _
    rw [ok.hsc]; exact e
  · cases h
theorem CxOk.bn (ok : CxOk X C k W) (f : BF) : X.mg f.name = none := by
  refine ok.blt _ ?_
  cases f <;> decide +kernel
theorem boot_bf (f : BF) : bootBuiltins f.name = some f.val ∧ f.name ≠ "__name__" := by
  cases f <;> exact ⟨by decide +kernel, by decide +kernel⟩
theorem nm_ok (ok : CxOk X C k W) {i : Nat} {x : Str} {pos : Pos} (h : nmB C i x = true) : PE X (.Name x pos) (tVar i) := by
  unfold nmB at h
  simp only [Bool.and_eq_true, decide_eq_true_eq, Bool.not_eq_true'] at h
  obtain ⟨⟨⟨h1, h2⟩, h3⟩, h4⟩ := h
  exact pe_var (by rw [ok.hN]; exact h1) (ok.vis h2) h3 h4
theorem star_cons {e : Expr} {es : List Expr} {env : Env} (h : notStar e = true) : starEach (e :: es) env = (false, eval e env) :: starEach es env := by
  cases e <;> first | rfl | cases h
theorem chkEs_star : ∀ {as : Es} {C : SC} {es : List Expr}, chkEs as C es = true → ∀ env : Env, (starEach es env).all (fun x => !x.1) = true
  | .nil, C, es, h, env => by
    cases es with
    | nil => rfl
    | cons e r => cases h
  | .cons a as, C, es, h, env => by
    cases es with
    | nil => cases h
    | cons e r =>
      have h' : (notStar e && chkE a C e && chkEs as C r) = true := h
      simp only [Bool.and_eq_true] at h'
      rw [star_cons h'.1.1, List.all_cons, chkEs_star h'.2 env]
      rfl
theorem backTo_any {l : List (Bool × Sem Value)} {pos : Pos} (h : l.all (fun x => !x.1) = true) : (backTo pos l).any (·.1) = false := by
  unfold backTo
  rw [List.any_map, List.any_eq_false]
  intro x hx
  have := List.all_eq_true.mp h x hx
  simpa using this
theorem backTo_all {l : List (Bool × Sem Value)} {pos : Pos} (h : l.all (fun x => !x.1) = true) : (backTo pos l).all (fun x => !x.1) = true := by
  unfold backTo
  rw [List.all_map, List.all_eq_true]
  intro x hx
  exact List.all_eq_true.mp h x hx
end
theorem chkEs_len : ∀ {as : Es} {C : SC} {es : List Expr}, chkEs as C es = true → es.length = as.len
  | .nil, C, es, h => by
    cases es with
    | nil => rfl
    | cons e r => cases h
  | .cons a as, C, es, h => by
    cases es with
    | nil => cases h
    | cons e r =>
      have h' : (notStar e && chkE a C e && chkEs as C r) = true := h
      simp only [Bool.and_eq_true] at h'
      exact congrArg (· + 1) (chkEs_len h'.2)
theorem wpEs_len : ∀ (es : Es) {X : EQ} {τ : Sl} {st : Store} {Q : List PV → Store → Prop}, wpEs es X τ st Q → wpEs es X τ st fun vs s => vs.length = es.len ∧ Q vs s
  | .nil, _, _, _, _, h => ⟨rfl, h⟩
  | .cons e es, X, τ, st, Q, h => by
    unfold wpEs at h ⊢
    exact wpE_mono e (fun _ _ h => h) (fun v s h => wpEs_mono es (fun _ _ h => h) (fun vs s h => ⟨congrArg (· + 1) h.1, h.2⟩) (wpEs_len es h)) h
end TK

set_option maxRecDepth 100000
set_option maxHeartbeats 4000000
namespace TK
open PySem PySem.Spec PyProof.Rows L2
open PySem.AutoSeq1 (wpAny_loadPart')
/-! ### enumerate over a tuple -/
theorem meets_enumT (l : Addr) (items : Array Value) (n : Nat) (dct : Option Addr) (sl : Array (Option Value)) :
    Meets (Builtin.«enumerate.__new__» ⟨[.type "enumerate", .ref l], []⟩) (fun _ R s => s.heap.get? l = some { cls := .type "tuple", dict := dct, data := .seq items n, slots := sl } ∧
      R (.ok (.ret (.ref (s.heap.push { cls := .type "tuple_iterator", data := .fields #[.ref l, .int 0 0] }).objs.size)))
        { s with heap := (s.heap.push { cls := .type "tuple_iterator", data := .fields #[.ref l, .int 0 0] }).push { cls := .type "enumerate", data := .fields #[.none, .bool false, .ref s.heap.objs.size, rawInt 0, .none, .none] } }) :=
  .of_wp fun prog w A R s h => by
    obtain ⟨hp, g, d, tk, os⟩ := s; obtain ⟨hl, h⟩ := h
    have hsub := sub_enumerate
    have hL : Heap.IsTuple (Shared.heap ⟨hp, g, d, tk, os⟩) l items := ⟨_, hl, rfl, n, rfl⟩
    wp_walk using wpAny_loadPart' hl
    refine wpAny_stack_any fun st => wpAny_pure ?_
    split
    · rename_i c _ _ _ _ _
      cases (c == Value.type "enumerate")
      · wp_walk using wpAny_loadPart' hl, wpAny_pyIter_tuple hL
        exact ⟨_, rfl, h⟩
      · wp_walk using wpAny_loadPart' hl, wpAny_pyIter_tuple hL
        exact ⟨_, rfl, h⟩
    · wp_walk using wpAny_loadPart' hl, wpAny_pyIter_tuple hL
      exact ⟨_, rfl, h⟩
theorem call_enumT {prog : Program} {w : World} {A : Around} {E : Value → Shared → Prop} {s : Shared} {l : Addr} {items : Array Value} {Q : Value → Shared → Prop} (hL : s.heap.IsTuple l items)
    (h : ∀ h', IsEnum h' (s.heap.objs.size + 1) s.heap.objs.size 0 .none → h'.IsTupleIter s.heap.objs.size l 0 → h'.objs.size = s.heap.objs.size + 2 →
      (∀ b o, s.heap.get? b = some o → h'.get? b = some o) → Q (.ref (s.heap.objs.size + 1)) { s with heap := h' }) :
    wpAny (model prog w) A (call (.type "enumerate") [.ref l]) Q E s := by
  obtain ⟨⟨c, dct, dt, sl⟩, hl, hc, n, hd⟩ := hL
  replace hc : c = .type "tuple" := hc
  replace hd : dt = .seq items n := hd
  subst hc hd
  refine callType_new F.called_enumerate (by decide) (F.typeCall_enumerate_1 _) (F.newCall_enumerate_1 _) (fun obj => F.args_object_init_2 obj _) F.entry_enumerate_new
    (meets_enumT l items n dct sl) ⟨hl, ?_⟩
  have hz : (s.heap.push { cls := .type "tuple_iterator", data := .fields #[.ref l, .int 0 0] }).objs.size = s.heap.objs.size + 1 := Heap.size_push ..
  show _ ∧ _
  rw [hz]
  have he : IsEnum ((s.heap.push { cls := .type "tuple_iterator", data := .fields #[.ref l, .int 0 0] }).push
      { cls := .type "enumerate", data := .fields #[.none, .bool false, .ref s.heap.objs.size, rawInt 0, .none, .none] }) (s.heap.objs.size + 1) s.heap.objs.size 0 .none := by
    have := Heap.get?_push_size (s.heap.push { cls := .type "tuple_iterator", data := .fields #[.ref l, .int 0 0] })
      (o := { cls := .type "enumerate", data := .fields #[.none, .bool false, .ref s.heap.objs.size, rawInt 0, .none, .none] }) rfl
    rw [hz] at this; exact this
  refine ⟨⟨_, he, rfl⟩, h _ he ⟨_, Heap.get?_push_of_some _ (Heap.get?_push_size _ rfl), rfl, rfl⟩ (by rw [Heap.size_push, hz]) fun b o x => Heap.get?_push_of_some _ (Heap.get?_push_of_some _ x)⟩

def IteT (K : PySem.W.Frag) (a : Addr) : It :=
  ⟨fun i H => ∃ (xs : List V) (x : V), SqT K H a xs ∧ xs[i]? = some x, fun i H v H' => ∃ T x, v = .ref T ∧ H T = none ∧ H' = upd H T (.tup [.int (i : Nat), x]) ∧ ∀ xs, SqT K H a xs → xs[i]? = some x, fun i H => ∃ xs : List V, SqT K H a xs ∧ xs.length ≤ i⟩
theorem turn_enumT {P : Program} {w : World} {K : PySem.W.Frag} {elts : List Expr} {kk : Nat} {tpos : Pos} (a e it : Addr) :
    Turn P w K (.Tuple elts kk tpos) (IteT K a) [e, it] e (fun i h => (∃ old, IsEnum h e it ((i : Nat) : Int) old) ∧ h.IsTupleIter it a i ∧ e ≠ it) where
  mem := by simp
  obj := fun i h st b hb => by
    obtain ⟨⟨old, he⟩, ⟨o, ho, hc, hd⟩, _⟩ := st
    have e' : b = e ∨ b = it := by simpa using hb
    rcases e' with z | z
    · rw [z]; exact ⟨_, he, fun v q => nomatch q⟩
    · rw [z]; exact ⟨o, ho, fun v q => by rw [hd] at q; cases q⟩
  keep := fun i h h' st k => let ⟨⟨old, he⟩, hi, hne⟩ := st; ⟨⟨old, k e (by simp) _ he⟩, hi.at fun o q => k it (by simp) o q, hne⟩
  item := by
    intro X hP hw hK hc i pins s σ H E I hf st hg
    subst hP hw hK
    obtain ⟨⟨old, he⟩, hit, hne⟩ := st
    obtain ⟨xs, x, hq, hx⟩ := hg
    obtain ⟨its, rv, p, hz⟩ := I.tuple hq
    obtain ⟨u, hu, ru⟩ := rv.get hx
    have hel : e < s.heap.objs.size := Heap.lt_size he
    have hil : it < s.heap.objs.size := by obtain ⟨_, q, _⟩ := hit; exact Heap.lt_size q
    have pT : s.heap.IsTuple a its.toArray := p
    have hai : a ≠ it := fun z => by
      obtain ⟨o, h1, h2, _⟩ := hit
      obtain ⟨o2, h3, h4, _⟩ := pT
      rw [z, h1] at h3
      cases h3
      rw [h2] at h4
      exact absurd h4 (by decide)
    have hae : a ≠ e := fun z => by
      obtain ⟨o2, h3, h4, _⟩ := pT
      rw [z, he] at h3
      cases h3
      have h5 : Value.type "enumerate" = Value.type "tuple" := h4
      exact absurd h5 (by decide)
    have hh : X.A.in1.handled = none := I.ok.hd hc
    have hltI : i < its.toArray.size := by
      have := (List.getElem?_eq_some_iff.mp hu).1
      simpa using this
    refine wpAny_pyNext_enum_itemD (Draws.tuple hh it a hai its.toArray) he ⟨hit, pT⟩ hltI hne (by simp [hne, Ne.symm hae]) fun y h' tk hy ho hst hT hsz hk => ?_
    have ey : y = u := by
      have hy' : its.toArray[i]? = some y := hy
      rw [List.getElem?_toArray, hu] at hy'
      exact (Option.some.inj hy').symm
    subst ey
    refine ⟨_, rfl, wpAny_letOwnedTupleGo_enum (s := { s with heap := h', toks := tk + 1 }) ho fun h'' he' sb => ?_⟩
    have hT2 : h''.get? s.heap.objs.size = some { cls := .type "tuple", data := .seq #[.int i tk, y] } := (sb.2 _ (Nat.ne_of_gt hel)).trans hT
    have new : ObjOk X.prog X.w (upd H s.heap.objs.size (.tup [.int (i : Nat), x])) h'' s.heap.objs.size (.tup [.int (i : Nat), x]) :=
      ⟨by show 2 ≤ sizeLine; decide, [.int i tk, y], .cons ⟨_, rfl⟩ (.cons ru .nil), ⟨_, hT2, rfl, _, rfl⟩⟩
    have I1 : Inv X pins σ (upd H s.heap.objs.size (.tup [.int (i : Nat), x])) { s with heap := h'', toks := tk + 1 } :=
      I.turnedNew (ch := [e, it]) (fun b ob hb q => (sb.2 b (fun z => hb (by simp [z]))).trans (hk b ob (fun z => hb (by simp [z])) (fun z => hb (by simp [z])) q)) hf (Nat.le_refl _) new
    refine ⟨.ref s.heap.objs.size, _, I1, rfl, ⟨_, x, rfl, I.hok.fresh (Nat.le_refl _), rfl, fun ys hy => by rw [I.tuple_inj hy hq]; exact hx⟩, ⟨⟨y, ?_⟩, hst.1.at fun o q => (sb.2 it (Ne.symm hne)).trans q, hne⟩, fun b hb => ?_⟩
    · have e1 : ((i + 1 : Nat) : Int) = (i : Int) + 1 := by omega
      rw [e1]; exact he'
    · have hb' : b < s.heap.objs.size := by
        have e' : b = e ∨ b = it := by simpa using hb
        rcases e' with z | z
        · rw [z]; exact hel
        · rw [z]; exact hil
      rw [upd_ne (Nat.ne_of_lt hb')]
      exact (hf b hb).1
  done := by
    intro X hP hw hK hc i pins s σ H E I hf st hg
    subst hP hw hK
    obtain ⟨⟨old, he⟩, hit, hne⟩ := st
    obtain ⟨xs, hq, hx⟩ := hg
    obtain ⟨its, rv, p, hz⟩ := I.tuple hq
    obtain ⟨f0, f1, f2, f3, f4, f5⟩ := hf it (by simp)
    have hl := rv.length
    have pT : s.heap.IsTuple a its.toArray := p
    have hh : X.A.in1.handled = none := I.ok.hd hc
    have hno : its.toArray[i]? = none := by
      rw [List.getElem?_toArray]
      exact List.getElem?_eq_none (by omega)
    have hai : a ≠ it := fun z => by
      obtain ⟨o, h1, h2, _⟩ := hit
      obtain ⟨o2, h3, h4, _⟩ := pT
      rw [z, h1] at h3
      cases h3
      rw [h2] at h4
      exact absurd h4 (by decide)
    have D : Draws X.prog X.w X.A.in1 it [it, a] i (fun _ _ => False) (fun j h => j = i ∧ h.IsTupleIter it a i ∧ h.IsTuple a its.toArray) :=
      { live := fun _ _ st => let ⟨o, ho, _⟩ := st.2.1; ⟨o, ho⟩
        frame := fun _ _ _ st hk => ⟨st.1, st.2.1.at fun o e => hk it (by simp) o e, st.2.2.at fun o e => hk a (by simp) o e⟩
        item := fun j s Q E hj st hQ => absurd st.1 (Nat.ne_of_lt hj)
        done := fun s Q E st hE => wpAny_nextOf_tuple_end hh st.2.1 st.2.2 hno hE }
    exact wpAny_pyNext_enum_endD D he ⟨rfl, hit, pT⟩ fun h' eb => ⟨rfl, I.turned (t' := s.toks) (fun b o hb q => eb b o hb q) f0 f1 f3 f4 f5⟩
  self := fun A i s Q E st h => let ⟨⟨_, he⟩, _⟩ := st; wpAny_pyIter_enum he h

/-- enumerate over a list or a tuple -/
def iEnumA (K : PySem.W.Frag) (ta : TA) : TI := fun σ H R => ta σ H fun vs H1 => ∃ a xs, vs = [.ref a] ∧ ((SqL K H1 a xs ∧ R (Ite K a) H1) ∨ (SqT K H1 a xs ∧ R (IteT K a) H1))
theorem pi_enumA {X : Cx} {e : Expr} {ta : TA} {p pos tpos : Pos} {elts : List Expr} {kk : Nat} (hg : Gl X "enumerate") (hm : X.mg "enumerate" = none) (ha : PA X [e] ta) (hs : starEach [e] X.env = [(false, eval e X.env)] := by rfl) :
    PI X (.Tuple elts kk tpos) (.Call (.Name "enumerate" p) [e] [] pos) (iEnumA X.K ta) := by
  refine ⟨fun pins s σ H R I h => ?_⟩
  refine Call_ (ld_blt I hg hm boot_enumerate (PyProof.Rows.callWith_type1 (thn (ha.run pos pins s σ H _ I h) fun us s1 ⟨vs, H1, I1, r1, q1⟩ => ?_) hs rfl))
  obtain ⟨a, xs, ex, q⟩ := q1
  subst ex
  cases r1 with
  | cons r rr =>
    cases rr
    cases r
    have fpk : ∀ b, b ∈ [s1.heap.objs.size + 1, s1.heap.objs.size] → s1.heap.objs.size ≤ b := fun b hb => by
      have e' : b = s1.heap.objs.size + 1 ∨ b = s1.heap.objs.size := by simpa using hb
      rcases e' with z | z
      · rw [z]; exact Nat.le_add_right _ _
      · rw [z]; exact Nat.le_refl _
    rcases q with ⟨hq, q⟩ | ⟨hq, q⟩
    · obtain ⟨its, rv, p', hz⟩ := I1.list hq
      refine call_enumerate_list p'.isList fun h' he hit hsz hk => wpAny_pyIter_enum he ?_
      have I2 : Inv X pins σ H1 { s1 with heap := h' } := I1.kept (t' := s1.toks) hk
      refine ⟨s1.heap.objs.size + 1, [s1.heap.objs.size + 1, s1.heap.objs.size], _, _, H1, rfl, I2, turn_enum a (s1.heap.objs.size + 1) s1.heap.objs.size, ⟨⟨.none, he⟩, hit, Nat.succ_ne_self _⟩, fun b hb => ?_, q⟩
      exact I1.fpOk (fpk b hb) (I1.hok.fresh (fpk b hb))
    · obtain ⟨its, rv, p', hz⟩ := I1.tuple hq
      refine call_enumT (show s1.heap.IsTuple a its.toArray from p') fun h' he hit hsz hk => wpAny_pyIter_enum he ?_
      have I2 : Inv X pins σ H1 { s1 with heap := h' } := I1.kept (t' := s1.toks) hk
      refine ⟨s1.heap.objs.size + 1, [s1.heap.objs.size + 1, s1.heap.objs.size], _, _, H1, rfl, I2, turn_enumT a (s1.heap.objs.size + 1) s1.heap.objs.size, ⟨⟨.none, he⟩, hit, Nat.succ_ne_self _⟩, fun b hb => ?_, q⟩
      exact I1.fpOk (fpk b hb) (I1.hok.fresh (fpk b hb))
end TK
namespace TK
open PySem PySem.Spec PyProof.Rows L2 HT
section
variable {prog : Program} {w : World} {A : Around} {E : Value → Shared → Prop} {s : Shared}
theorem sliceApplied_rev {sl : Addr} {vs : Value} {n : Nat} {Q : Int × Int × Nat → Shared → Prop} (hs : s.heap.IsSliceOf sl .none .none vs) (ps : IsPart vs (some (-1)))
    (h : Q ((n : Int) - 1, -1, n) s) : wpAny (model prog w) A (Builtin.Slice.sliceApplied (.ref sl) (pure (n : Int))) Q E s := by
  obtain ⟨os, hos, hcs, hds⟩ := id hs
  unfold Builtin.Slice.sliceApplied Builtin.Slice.sliceFields
  refine wpAny_bind (wpAny_bind (wpAny_field hos hds (x := .none) rfl (wpAny_bind (wpAny_field hos hds (x := .none) rfl (wpAny_bind (wpAny_field hos hds (x := vs) rfl (wpAny_pure ?_)))))))
  refine wpAny_bind (slicePart_ ps ?_)
  show wpAny _ _ (if ((-1 : Int) == 0) = true then _ else _) _ _ s
  rw [if_neg (by decide)]
  refine wpAny_bind (slicePart_none (wpAny_bind (slicePart_none (wpAny_bind (wpAny_pure ?_)))))
  show wpAny _ _ (match Builtin.Slice.sliceAdjust none none (-1) (n : Int) with | (lo, hi) => pure (lo, (-1 : Int), Builtin.Slice.slicePlaces lo hi (-1))) _ _ s
  have e1 : Builtin.Slice.sliceAdjust none none (-1) (n : Int) = ((n : Int) - 1, -1) := rfl
  rw [e1]
  show wpAny _ _ (pure ((n : Int) - 1, (-1 : Int), Builtin.Slice.slicePlaces ((n : Int) - 1) (-1) (-1))) _ _ s
  have e2 : Builtin.Slice.slicePlaces ((n : Int) - 1) (-1) (-1) = n := by
    unfold Builtin.Slice.slicePlaces
    have h1 : ¬ ((-1 : Int) > 0) := by decide
    simp only [h1, if_false]
    have h3 : (-(-1 : Int)) = 1 := by decide
    rw [h3, Int.ediv_one]
    split <;> omega
  rw [e2]
  exact wpAny_pure h
theorem pick_rev (xs : Array Value) : ((List.range xs.size).filterMap fun (m : Nat) => xs[(((xs.size : Int) - 1) + (m : Int) * (-1)).toNat]?).toArray = xs.toList.reverse.toArray := by
  have e : (List.range xs.size).filterMap (fun (m : Nat) => xs[(((xs.size : Int) - 1) + (m : Int) * (-1)).toNat]?) = ((List.range xs.size).map fun k => xs.size - 1 - k).filterMap (xs[·]?) := by
    rw [List.filterMap_map]
    have gen : ∀ l : List Nat, (∀ m ∈ l, m < xs.size) → l.filterMap (fun (m : Nat) => xs[(((xs.size : Int) - 1) + (m : Int) * (-1)).toNat]?) = l.filterMap ((fun x => xs[x]?) ∘ fun k => xs.size - 1 - k) := by
      intro l
      induction l with
      | nil => intro _; rfl
      | cons m r ih =>
        intro h
        have := h m List.mem_cons_self
        have e : (((xs.size : Int) - 1) + (m : Int) * (-1)).toNat = xs.size - 1 - m := by omega
        rw [List.filterMap_cons, List.filterMap_cons, ih fun y hy => h y (List.mem_cons_of_mem _ hy), e]
        rfl
    exact gen _ fun m hm => List.mem_range.mp hm
  rw [e, PySem.W.krv_range, List.filterMap_reverse, PySem.W.krv_all]
theorem getItem_tuple_rev {t sl : Addr} {items : Array Value} {vs : Value} {Q : Value → Shared → Prop} (ht : IsTup s.heap t items) (hs : s.heap.IsSliceOf sl .none .none vs) (ps : IsPart vs (some (-1)))
    (h : Q (.ref s.heap.objs.size) { s with heap := s.heap.push { cls := .type "tuple", data := .seq items.toList.reverse.toArray } })
    (hsz : items.size ≤ sizeLine) : wpAny (model prog w) A (getItem (.ref t) (.ref sl)) Q E s := by
  have htake : sizeOk (.seq items.toList.reverse.toArray) := by
    show items.toList.reverse.toArray.size ≤ sizeLine
    rw [List.size_toArray, List.length_reverse, Array.length_toList]
    exact hsz
  obtain ⟨os, hos, hcs, hds⟩ := id hs
  have hTs : s.TypeIs (.ref sl) "slice" := ⟨os, hos, hcs⟩
  unfold getItem
  try with_reducible refine wpAny_holding ?_
  first | refine wpAny_bind (wpAny_pure ?_) | skip
  refine wpAny_bind (wpAny_sequenceKey ht.typeIs (by decide) ?_)
  refine wpAny_bind (wpAny_callSpecial?_slot (name := Str.ofString "__getitem__") ht.typeIs PyProof.Rows.slot_tuple_getitem
    (wpAny_call_entry PyProof.Rows.slot_tuple_getitem ht.typeIs entry_tuple_getitem ?_ (args_tuple_getitem _ _)))
  show wpAny _ _ (Builtin.Tuple.tupleItemsOf (.ref t) >>= _) _ _ s
  refine wpAny_bind (tupleItemsOf_ ht ?_)
  refine wpAny_bind (wpAny_typeOf hTs ?_)
  rw [if_pos (by decide)]
  refine wpAny_bind (sliceApplied_rev hs ps ?_)
  have hno : ¬ ((((items.size : Int) - 1) == 0 && (-1 : Int) == 1 && items.size == items.size) = true) := by
    intro q
    rw [Bool.and_eq_true, Bool.and_eq_true] at q
    have q1 : (-1 : Int) = 1 := eq_of_beq q.1.2
    omega
  show wpAny _ _ (if (((items.size : Int) - 1) == 0 && (-1 : Int) == 1 && items.size == items.size) = true then _ else _) _ _ s
  rw [if_neg hno, pick_rev]
  first
    | exact wpAny_bind (m := Builtin.Tuple.tupleExact _) (wpAny_newObj_type (wpAny_pure ⟨_, rfl, wpAny_pure h⟩) htake)
    | exact wpAny_bind (m := Builtin.Tuple.tupleExact _) (wpAny_newObj_type (wpAny_bind (wpAny_pure (wpAny_pure ⟨_, rfl, wpAny_pure h⟩))) htake)
    | exact wpAny_bind (wpAny_bind (m := Builtin.Tuple.tupleExact _) (wpAny_newObj_type (wpAny_pure (wpAny_pure ⟨_, rfl, wpAny_pure h⟩)) htake))
    | exact wpAny_bind (wpAny_bind (m := Builtin.Tuple.tupleExact _) (wpAny_newObj_type (wpAny_pure ⟨_, rfl, wpAny_pure h⟩) htake))
end
section
variable {X : Cx}
/-- t[::-1] of a tuple -/
def tRevT (K : PySem.W.Frag) (te : TE) : TE := fun σ H Q => te σ H fun x H1 => ∃ a xs, x = .ref a ∧ SqT K H1 a xs ∧ ∀ p, H1 p = none → Q (.ref p) (upd H1 p (.tup xs.reverse))
theorem pe_revT {e : Expr} {te : TE} {k : Nat} {p1 p2 p3 pos : Pos} (he : PE X e te) : PE X (.Subscript e (.Slice none none (some (.UnaryOp .USub (.Constant (.int 1) k p1) p2)) p3) pos) (tRevT X.K te) := by
  refine ⟨fun pins s σ H Q I h => ?_⟩
  refine Subscript_ (thn (he.run pins s σ H _ I h) fun v s1 ⟨x, H1, I1, r1, q1⟩ => ?_)
  obtain ⟨a, xs, ex, hx, q⟩ := q1
  subst ex
  cases r1
  have hst : PO X (some (.UnaryOp .USub (.Constant (.int 1) k p1) p2)) (tPart (tUn (rU fun i => .int (-i)) (tC (.int 1)))) := po_some (pe_un un_neg pe_int)
  refine wpAny_Slice (thn (po_none.run pins s1 σ H1 (fun o H2 => o = none ∧ H2 = H1) I1 ⟨rfl, rfl⟩) fun vl s2 ⟨l, H2, I2, pl, el, e2⟩ => ?_)
  subst el e2
  refine thn (po_none.run pins s2 σ H2 (fun o H3 => o = none ∧ H3 = H2) I2 ⟨rfl, rfl⟩) fun vu s3 ⟨u, H3, I3, pu, eu, e3⟩ => ?_
  subst eu e3
  refine thn (hst.run pins s3 σ H3 (fun o H4 => o = some (-1) ∧ H4 = H3) I3 ⟨1, rfl, -1, rfl, rfl, rfl⟩) fun vs s4 ⟨o, H4, I4, ps, eo, e4⟩ => ?_
  subst eo e4
  cases pl
  cases pu
  have I5 : Inv X pins σ H4 { s4 with heap := s4.heap.push { cls := .type "slice", data := .fields #[.none, .none, vs] } } := I4.kept (t' := s4.toks) fun b ob q => Heap.get?_push_of_some _ q
  obtain ⟨its, r, ht, hz⟩ := I5.tuple hx
  have hlen := r.length
  show wpAny (model X.prog X.w) X.A (subscriptTail e (.Slice none none (some (.UnaryOp .USub (.Constant (.int 1) k p1) p2)) p3) (.ref a) (.ref s4.heap.objs.size)) (EP X pins σ Q) X.xe { s4 with heap := s4.heap.push { cls := .type "slice", data := .fields #[.none, .none, vs] } }
  refine tail_any (ops := [.ref a, .ref s4.heap.objs.size]) ht.typeIs (PyProof.Rows.slot_tuple_getitem.lookup) ?_ (by with_unfolding_all rfl)
  refine getItem_tuple_rev ht (Heap.IsSliceOf.new _ .none .none vs) ps ?_ (by rw [List.size_toArray]; omega)
  refine ⟨.ref _, _, I5.laid (t' := s4.toks) (o := .tup xs.reverse) (fun b ob q => Heap.get?_push_of_some _ q) (Nat.le_refl _) ?_, rfl, q _ (I5.hok.fresh (Nat.le_refl _))⟩
  exact ⟨by rw [List.length_reverse]; exact hz, _, r.reverse, IsTup.new _ _⟩
end
end TK
namespace TK
open PySem PySem.Spec PyProof.Rows L2 HT
section
variable {X : Cx}
def rMaxD0 (K : PySem.W.Frag) : List V → List V → Hp → VK → Prop := fun vs zs H Q => ∃ (a : Addr) (ns : List Int), vs = [V.ref a] ∧ zs = [.int 0] ∧ SqL K H a (ns.map V.int) ∧ Q (.int (maxD0 ns)) H
theorem call_maxD (hc : X.calm = true) (hu : X.A.units + 64 < cLine) : CallRK X (.builtin "max") ["default"] (rMaxD0 X.K) := by
  intro pins s σ H xs zs us ws Q I rx rz h
  obtain ⟨a, ns, rfl, rfl, hs, q⟩ := h
  obtain ⟨its, rv, hl, _⟩ := I.list hs
  rw [Vals.ref1 rx]
  cases rz with
  | cons r0 rz =>
    cases rz
    obtain ⟨t0, rfl⟩ := r0
    have hd := depth_ints ns
    refine PySem.W.max_list_default (I.ok.hd hc) hl.isList (ints_all _ rv.ints) (alike_ints ns) (by omega) (fun e h' tk k => ?_) fun y ys i v h' tk bs e hv hr k => ?_
    · cases ns with
      | nil => exact ⟨.int 0, H, I.kept k, ⟨_, rfl⟩, q⟩
      | cons n r => cases e
    · cases ns with
      | nil => cases e
      | cons n r =>
        rw [List.map_cons] at e
        cases e
        rw [PySem.W.maxD_ints] at hr
        cases hr with
        | int i t => exact ⟨.int _, H, I.kept k, ⟨_, rfl⟩, q⟩
theorem pe_maxD {y : Expr} {te : TE} {p q pos kpos : Pos} {k : Nat} (hc : X.calm = true) (hu : X.A.units + 64 < cLine) (hg : Gl X "max") (hm : X.mg "max" = none) (ha : PE X y te) (hst : ∀ env, starEach [y] env = (false, eval y env) :: starEach [] env) :
    PE X (.Call (.Name "max" p) [y] [⟨some "default", .Constant (.int 0) k q, kpos⟩] pos) (tCKw (rMaxD0 X.K) (tCons te tNil) (tCons (tC (.int 0)) tNil)) := by
  have e0 := hst X.env
  refine pe_callBK (call_maxD hc hu) hg hm PyProof.Rows.Boot.«max» (pa_cons ha pa_nil e0) (pk_cons pe_int pk_nil) (by decide) (by decide) (by rw [e0]; rfl) (by rw [e0]; rfl)
end
end TK

set_option maxRecDepth 100000
set_option maxHeartbeats 4000000
namespace TK
open PySem PySem.Spec PyProof.Rows L2

/-! ### what is walked -/
section
variable {X : Cx} {pins : List (Addr × Obj)} {σ : L2.St} {H1 : Hp} {s1 : Shared} {a : Addr} {ys : List V} {tg : Expr} {R : It → Hp → Prop}
theorem iter_l (J : L2.Inv X pins σ H1 s1) (hq : SqL X.K H1 a ys) (q : R (Itl X.K a) H1) : wpAny (model X.prog X.w) X.A (pyIter (.ref a)) (PIE X pins σ tg R) X.xe s1 := by
  obtain ⟨its, rv, p, hz⟩ := J.list hq
  refine wpAny_pyIter_list p.isList ?_
  refine ⟨s1.heap.objs.size, [s1.heap.objs.size], _, _, H1, rfl, ?_, turn_list a _, ⟨_, Heap.get?_push_size _ rfl, rfl, rfl⟩, fun b hb => ?_, q⟩
  · exact J.kept (t' := s1.toks) fun c o e => Heap.get?_push_of_some _ e
  · rw [List.mem_singleton.mp hb]
    exact J.fpOk (Nat.le_refl _) (J.hok.fresh (Nat.le_refl _))
theorem iter_t (J : L2.Inv X pins σ H1 s1) (hq : SqT X.K H1 a ys) (q : R (Itt X.K a) H1) : wpAny (model X.prog X.w) X.A (pyIter (.ref a)) (PIE X pins σ tg R) X.xe s1 := by
  obtain ⟨its, rv, p, hz⟩ := J.tuple hq
  refine wpAny_pyIter_tuple (show s1.heap.IsTuple a its.toArray from p) ?_
  refine ⟨s1.heap.objs.size, [s1.heap.objs.size], _, _, H1, rfl, ?_, turn_tuple a _, ⟨_, Heap.get?_push_size _ rfl, rfl, rfl⟩, fun b hb => ?_, q⟩
  · exact J.kept (t' := s1.toks) fun c o e => Heap.get?_push_of_some _ e
  · rw [List.mem_singleton.mp hb]
    exact J.fpOk (Nat.le_refl _) (J.hok.fresh (Nat.le_refl _))
end
section
variable {K : PySem.W.Frag} {F0 : FS} {H0 : Hp} {a b : Addr} {xs zs : List PV} {ys ws : List V}
theorem wp_list (f : F0 a) (h : H0 a = some (.lst ys)) (ds : DVs K H0 F0 xs ys) : WP K (Itl K a) F0 H0 xs (fun _ => True) := by
  have at_ : ∀ {F H}, Ext F0 H0 F H → SqL K H a ys := fun e => .of (e.kp _ _ h (.inl f))
  refine ⟨fun _ _ _ h => h, fun i F H st hi e r _ => ?_, fun F H st e r _ => ⟨ys, at_ e, by rw [ds.length]; exact Nat.le_refl _⟩, fun i F H st x H' hi e r _ y => ?_⟩
  · rw [ds.length] at hi
    exact ⟨ys, ys[i], at_ e, by simp [hi]⟩
  · obtain ⟨rfl, y⟩ := y
    obtain ⟨v, hv, dv⟩ := ds.get' (y ys (at_ e))
    exact ⟨.refl, r, v, hv, dv.ext e⟩
theorem wp_ref (xs : List PV) : WP K (Itl K a) F0 H0 xs (fun s => s a = some (.lst xs)) := by
  refine ⟨fun _ _ hs h => hs _ _ h, fun i F H st hi e r o => ?_, fun F H st e r o => ?_, fun i F H st x H' hi e r o y => ?_⟩
  · obtain ⟨_, ys, h, ds⟩ := r.lst a xs o
    rw [ds.length] at hi
    exact ⟨ys, ys[i], .of h, by simp [hi]⟩
  · obtain ⟨_, ys, h, ds⟩ := r.lst a xs o
    exact ⟨ys, .of h, by rw [ds.length]; exact Nat.le_refl _⟩
  · obtain ⟨rfl, y⟩ := y
    obtain ⟨_, ys, h, ds⟩ := r.lst a xs o
    obtain ⟨v, hv, dv⟩ := ds.get' (y ys (.of h))
    exact ⟨.refl, r, v, hv, dv⟩
theorem wp_tup (h : SqT K H0 a ys) (ds : DVs K H0 F0 xs ys) : WP K (Itt K a) F0 H0 xs (fun _ => True) := by
  refine ⟨fun _ _ _ h => h, fun i F H st hi e r _ => ?_, fun F H st e r _ => ⟨ys, sqText e h, by rw [ds.length]; exact Nat.le_refl _⟩, fun i F H st x H' hi e r _ y => ?_⟩
  · rw [ds.length] at hi
    exact ⟨ys, ys[i], sqText e h, by simp [hi]⟩
  · obtain ⟨rfl, y⟩ := y
    obtain ⟨v, hv, dv⟩ := ds.get' (y ys (sqText e h))
    exact ⟨.refl, r, v, hv, dv.ext e⟩
theorem chrs_len (z : Str) : (chrs z).length = z.cps.size := by unfold chrs; rw [List.length_map, Array.length_toList]
theorem wp_str (z : Str) : WP K (Its z) F0 H0 (chrs z) (fun _ => True) := by
  refine ⟨fun _ _ _ h => h, fun i F H st hi e r _ => by rw [chrs_len] at hi; exact hi, fun F H st e r _ => by rw [chrs_len]; exact Nat.le_refl z.cps.size, fun i F H st x H' hi e r _ y => ?_⟩
  obtain ⟨rfl, c, hc, rfl⟩ := y
  refine ⟨.refl, r, .str ⟨#[c]⟩, ?_, .str _⟩
  unfold chrs
  rw [List.getElem?_map, Array.getElem?_toList, hc]; rfl
theorem rngL_len (lo : Int) (n : Nat) : (rngL lo n).length = n := by unfold rngL; rw [List.length_map, List.length_range]
theorem rngL_get {lo : Int} {n i : Nat} (h : i < n) : (rngL lo n)[i]? = some (.int (lo + i)) := by
  unfold rngL
  rw [List.getElem?_map, List.getElem?_range h]; rfl
theorem wp_rng (lo : Int) (n : Nat) : WP K (Itr lo n) F0 H0 (rngL lo n) (fun _ => True) := by
  refine ⟨fun _ _ _ h => h, fun i F H st hi e r _ => ?_, fun F H st e r _ => ?_, fun i F H st x H' hi e r _ y => ?_⟩
  · rw [rngL_len] at hi; exact hi
  · rw [rngL_len]; exact Nat.le_refl n
  · obtain ⟨rfl, rfl⟩ := y
    rw [rngL_len] at hi
    exact ⟨.refl, r, _, rngL_get hi, .int _⟩
theorem enumL_len : ∀ (k : Nat) (xs : List PV), (enumL k xs).length = xs.length
  | _, [] => rfl
  | k, _ :: r => congrArg (· + 1) (enumL_len (k + 1) r)
theorem enumL_get : ∀ {k i : Nat} {xs : List PV} {v : PV}, xs[i]? = some v → (enumL k xs)[i]? = some (.tup [.int ((k + i : Nat) : Int), v])
  | _, _, [], _, h => by simp at h
  | k, 0, x :: r, v, h => by simp at h; subst h; rfl
  | k, i + 1, x :: r, v, h => by
    have := enumL_get (k := k + 1) (i := i) (xs := r) (v := v) (by simpa using h)
    show (enumL (k + 1) r)[i]? = _
    rw [this]
    have e : k + 1 + i = k + (i + 1) := by omega
    rw [e]
theorem pair_ok {F : FS} {H : Hp} {st : Store} {T : Addr} {v w : PV} {x y : V} (r : RS K H F st) (hT : H T = none) (d : DV K H F v x) (d' : DV K H F w y) :
    Ext F H F (upd H T (.tup [x, y])) ∧ RS K (upd H T (.tup [x, y])) F st ∧ DV K (upd H T (.tup [x, y])) F (.tup [v, w]) (.ref T) :=
  ⟨.new hT, r.new hT, .tup (.of upd_same) (.cons (d.ext (.new hT)) (.cons (d'.ext (.new hT)) .nil))⟩
theorem wp_enumL (f : F0 a) (h : H0 a = some (.lst ys)) (ds : DVs K H0 F0 xs ys) : WP K (Ite K a) F0 H0 (enumL 0 xs) (fun _ => True) := by
  have at_ : ∀ {F H}, Ext F0 H0 F H → SqL K H a ys := fun e => .of (e.kp _ _ h (.inl f))
  refine ⟨fun _ _ _ h => h, fun i F H st hi e r _ => ?_, fun F H st e r _ => ⟨ys, at_ e, by rw [enumL_len, ds.length]; exact Nat.le_refl _⟩, fun i F H st x H' hi e r _ y => ?_⟩
  · rw [enumL_len, ds.length] at hi
    exact ⟨ys, ys[i], at_ e, by simp [hi]⟩
  · obtain ⟨T, z, rfl, hT, rfl, y⟩ := y
    obtain ⟨v, hv, dv⟩ := ds.get' (y ys (at_ e))
    obtain ⟨p1, p2, p3⟩ := pair_ok r hT (.int (i : Nat)) (dv.ext e)
    refine ⟨p1, p2, _, enumL_get hv, ?_⟩
    rw [Nat.zero_add]; exact p3
theorem wp_enumR (xs : List PV) : WP K (Ite K a) F0 H0 (enumL 0 xs) (fun s => s a = some (.lst xs)) := by
  refine ⟨fun _ _ hs h => hs _ _ h, fun i F H st hi e r o => ?_, fun F H st e r o => ?_, fun i F H st x H' hi e r o y => ?_⟩
  · obtain ⟨_, ys, h, ds⟩ := r.lst a xs o
    rw [enumL_len, ds.length] at hi
    exact ⟨ys, ys[i], .of h, by simp [hi]⟩
  · obtain ⟨_, ys, h, ds⟩ := r.lst a xs o
    exact ⟨ys, .of h, by rw [enumL_len, ds.length]; exact Nat.le_refl _⟩
  · obtain ⟨T, z, rfl, hT, rfl, y⟩ := y
    obtain ⟨_, ys, h, ds⟩ := r.lst a xs o
    obtain ⟨v, hv, dv⟩ := ds.get' (y ys (.of h))
    obtain ⟨p1, p2, p3⟩ := pair_ok r hT (.int (i : Nat)) dv
    refine ⟨p1, p2, _, enumL_get hv, ?_⟩
    rw [Nat.zero_add]; exact p3
theorem wp_enumT (h : SqT K H0 a ys) (ds : DVs K H0 F0 xs ys) : WP K (IteT K a) F0 H0 (enumL 0 xs) (fun _ => True) := by
  refine ⟨fun _ _ _ h => h, fun i F H st hi e r _ => ?_, fun F H st e r _ => ⟨ys, sqText e h, by rw [enumL_len, ds.length]; exact Nat.le_refl _⟩, fun i F H st x H' hi e r _ y => ?_⟩
  · rw [enumL_len, ds.length] at hi
    exact ⟨ys, ys[i], sqText e h, by simp [hi]⟩
  · obtain ⟨T, z, rfl, hT, rfl, y⟩ := y
    obtain ⟨v, hv, dv⟩ := ds.get' (y ys (sqText e h))
    obtain ⟨p1, p2, p3⟩ := pair_ok r hT (.int (i : Nat)) (dv.ext e)
    refine ⟨p1, p2, _, enumL_get hv, ?_⟩
    rw [Nat.zero_add]; exact p3
theorem zipL_len : ∀ (xs zs : List PV), (zipL xs zs).length = min xs.length zs.length
  | [], _ => by simp [zipL]
  | _ :: _, [] => by simp [zipL]
  | x :: r, y :: s => by show (zipL r s).length + 1 = _; rw [zipL_len r s, List.length_cons, List.length_cons]; omega
theorem zipL_get : ∀ {i : Nat} {xs zs : List PV} {v w : PV}, xs[i]? = some v → zs[i]? = some w → (zipL xs zs)[i]? = some (.tup [v, w])
  | _, [], _, _, _, h, _ => by simp at h
  | _, _ :: _, [], _, _, _, h => by simp at h
  | 0, x :: r, y :: s, v, w, h, h' => by simp at h h'; subst h h'; rfl
  | i + 1, x :: r, y :: s, v, w, h, h' => zipL_get (i := i) (xs := r) (zs := s) (by simpa using h) (by simpa using h')
theorem wp_zipL (f : F0 a) (h : H0 a = some (.lst ys)) (ds : DVs K H0 F0 xs ys) (f' : F0 b) (h' : H0 b = some (.lst ws)) (ds' : DVs K H0 F0 zs ws) : WP K (Itz K a b) F0 H0 (zipL xs zs) (fun _ => True) := by
  have at_ : ∀ {F H}, Ext F0 H0 F H → SqL K H a ys ∧ SqL K H b ws := fun e => ⟨.of (e.kp _ _ h (.inl f)), .of (e.kp _ _ h' (.inl f'))⟩
  refine ⟨fun _ _ _ h => h, fun i F H st hi e r _ => ?_, fun F H st e r _ => ⟨ys, ws, (at_ e).1, (at_ e).2, by rw [zipL_len, ds.length, ds'.length]; omega⟩, fun i F H st x H' hi e r _ y => ?_⟩
  · rw [zipL_len, ds.length, ds'.length] at hi
    have h1 : i < ys.length := by omega
    have h2 : i < ws.length := by omega
    exact ⟨ys, ws, ys[i], ws[i], (at_ e).1, (at_ e).2, by simp [h1], by simp [h2]⟩
  · obtain ⟨T, z, z', rfl, hT, rfl, y, y'⟩ := y
    obtain ⟨v, hv, dv⟩ := ds.get' (y ys (at_ e).1)
    obtain ⟨v', hv', dv'⟩ := ds'.get' (y' ws (at_ e).2)
    obtain ⟨p1, p2, p3⟩ := pair_ok r hT (dv.ext e) (dv'.ext e)
    exact ⟨p1, p2, _, zipL_get hv hv', p3⟩
theorem wp_zipT (h : SqT K H0 a ys) (ds : DVs K H0 F0 xs ys) (h' : SqT K H0 b ws) (ds' : DVs K H0 F0 zs ws) : WP K (RZ.ItzT K a b) F0 H0 (zipL xs zs) (fun _ => True) := by
  have at_ : ∀ {F H}, Ext F0 H0 F H → SqT K H a ys ∧ SqT K H b ws := fun e => ⟨sqText e h, sqText e h'⟩
  refine ⟨fun _ _ _ h => h, fun i F H st hi e r _ => ?_, fun F H st e r _ => ⟨ys, ws, (at_ e).1, (at_ e).2, by rw [zipL_len, ds.length, ds'.length]; omega⟩, fun i F H st x H' hi e r _ y => ?_⟩
  · rw [zipL_len, ds.length, ds'.length] at hi
    have h1 : i < ys.length := by omega
    have h2 : i < ws.length := by omega
    exact ⟨ys, ws, ys[i], ws[i], (at_ e).1, (at_ e).2, by simp [h1], by simp [h2]⟩
  · obtain ⟨T, z, z', rfl, hT, rfl, y, y'⟩ := y
    obtain ⟨v, hv, dv⟩ := ds.get' (y ys (at_ e).1)
    obtain ⟨v', hv', dv'⟩ := ds'.get' (y' ws (at_ e).2)
    obtain ⟨p1, p2, p3⟩ := pair_ok r hT (dv.ext e) (dv'.ext e)
    exact ⟨p1, p2, _, zipL_get hv hv', p3⟩
end

/-! ### targets -/
section
variable {X : Cx} {C : SC} {k : Nat} {W : WX}
/-- a target's reading -/
def tlG (K : PySem.W.Frag) (tg : TG) : L2.TG := fun v σ H Q => ∃ F τ τ' pv, RSl K H F τ σ ∧ DV K H F pv v ∧ tg.asg pv τ = some τ' ∧
  ∀ σ' : L2.St, RSl K H F τ' σ' → (∀ j, j ∉ tg.slots → σ'[j]? = σ[j]?) → Q σ' H
def tlGs (K : PySem.W.Frag) (tg : TGs) : L2.TGs := fun vs σ H Q => ∃ F τ τ' pvs, RSl K H F τ σ ∧ DVs K H F pvs vs ∧ tg.asg pvs τ = some τ' ∧
  ∀ σ' : L2.St, RSl K H F τ' σ' → (∀ j, j ∉ tg.slots → σ'[j]? = σ[j]?) → Q σ' H
theorem chkGs_star : ∀ {ts : TGs} {es : List Expr}, chkGs C ts es = true → ∀ env : Env, (assignEach es env).findIdx? (·.1) = none
  | .nil, es, h, env => by
    cases es with
    | nil => rfl
    | cons e r => cases h
  | .cons t ts, es, h, env => by
    cases es with
    | nil => cases h
    | cons e r =>
      have h' : (notStar e && chkG C t e && chkGs C ts r) = true := h
      simp only [Bool.and_eq_true] at h'
      have e1 : assignEach (e :: r) env = (false, assign e env) :: assignEach r env := by
        have := h'.1.1
        cases e <;> first | rfl | cases this
      rw [e1, List.findIdx?_cons, chkGs_star h'.2 env]
      rfl
theorem chkGs_len : ∀ {ts : TGs} {es : List Expr}, chkGs C ts es = true → ∀ (env : Env) {pvs : List PV} {τ τ' : Sl}, ts.asg pvs τ = some τ' → pvs.length = (assignEach es env).length
  | .nil, es, h, env, pvs, τ, τ', q => by
    cases es with
    | nil =>
      cases pvs with
      | nil => rfl
      | cons _ _ => cases q
    | cons e r => cases h
  | .cons t ts, es, h, env, pvs, τ, τ', q => by
    cases es with
    | nil => cases h
    | cons e r =>
      have h' : (notStar e && chkG C t e && chkGs C ts r) = true := h
      simp only [Bool.and_eq_true] at h'
      have e1 : assignEach (e :: r) env = (false, assign e env) :: assignEach r env := by
        have := h'.1.1
        cases e <;> first | rfl | cases this
      rw [e1]
      cases pvs with
      | nil => cases q
      | cons v vs =>
        have q' : (t.asg v τ).bind (ts.asg vs) = some τ' := q
        cases q1 : t.asg v τ with
        | none => rw [q1] at q'; cases q'
        | some τ1 =>
          rw [q1] at q'
          exact congrArg (· + 1) (chkGs_len h'.2 env (show ts.asg vs τ1 = some τ' from q'))
mutual
theorem sG : ∀ (tg : TG) {g : Expr}, CxOk X C k W → chkG C tg g = true → PG X g (tlG X.K tg)
  | .name i, g, ok, h => by
    unfold chkG at h
    split at h
    · simp only [Bool.and_eq_true, decide_eq_true_eq] at h
      obtain ⟨l1, l2⟩ := ok.tg _ h.2
      refine impG (pg_name (i := i) (by rw [ok.hN]; exact ok.nd) (by rw [ok.hN]; exact h.1) (by rw [ok.hsc]; exact l1) (by rw [ok.hsc]; exact l2)) fun v σ H Q q => ?_
      obtain ⟨F, τ, τ', pv, sl, d, e, q⟩ := q
      cases (Option.some.inj e)
      exact q _ (sl.set d i) fun j hj => List.getElem?_set_ne (fun z => hj (List.mem_singleton.mpr z.symm))
    · cases h
  | .tup ts, g, ok, h => by
    unfold chkG at h
    split at h
    · refine impG (pg_tup ok.calm (sGs ts ok h) rfl (chkGs_star h _)) fun v σ H Q q => ?_
      obtain ⟨F, τ, τ', pv, sl, d, e, q⟩ := q
      cases d with
      | tup h1 ds =>
        have e' : ts.asg _ τ = some τ' := e
        exact ⟨_, _, rfl, h1, by rw [← ds.length]; exact chkGs_len h _ e', F, τ, τ', _, sl, ds, e', q⟩
      | _ => cases e
    · cases h
theorem sGs : ∀ (tg : TGs) {gs : List Expr}, CxOk X C k W → chkGs C tg gs = true → PGs X gs (tlGs X.K tg)
  | .nil, gs, ok, h => by
    cases gs with
    | nil =>
      refine ⟨fun pins s σ H vs us Q I r q => ?_⟩
      obtain ⟨F, τ, τ', pvs, sl, ds, e, q⟩ := q
      cases ds with
      | nil =>
        cases (Option.some.inj e)
        exact pgs_nil.run pins s σ H _ us Q I r ⟨rfl, q _ sl fun _ _ => rfl⟩
      | cons _ _ => cases e
    | cons e r => cases h
  | .cons t ts, gs, ok, h => by
    cases gs with
    | nil => cases h
    | cons g r =>
      have h' : (notStar g && chkG C t g && chkGs C ts r) = true := h
      simp only [Bool.and_eq_true] at h'
      have e1 : (assignEach (g :: r) X.env).map (·.2) = assign g X.env :: (assignEach r X.env).map (·.2) := by
        have := h'.1.1
        cases g <;> first | rfl | cases this
      refine ⟨fun pins s σ H vs us Q I rr q => ?_⟩
      obtain ⟨F, τ, τ', pvs, sl, ds, e, q⟩ := q
      cases ds with
      | nil => cases e
      | @cons pv v pvs vs d ds =>
        have e' : (t.asg pv τ).bind (ts.asg pvs) = some τ' := e
        cases q1 : t.asg pv τ with
        | none => rw [q1] at e'; cases e'
        | some τ1 =>
          rw [q1] at e'
          refine (pgs_cons (sG t ok h'.1.2) (sGs ts ok h'.2) e1).run pins s σ H _ us Q I rr ⟨v, vs, rfl, F, τ, τ1, pv, sl, d, q1, fun σ1 sl1 k1 => ?_⟩
          refine ⟨F, τ1, τ', pvs, sl1, ds, e', fun σ2 sl2 k2 => q σ2 sl2 fun j hj => ?_⟩
          have hj' : j ∉ t.slots ++ ts.slots := hj
          rw [List.mem_append, not_or] at hj'
          exact (k2 j hj'.2).trans (k1 j hj'.1)
end
end
end TK

set_option maxRecDepth 100000
set_option maxHeartbeats 8000000
namespace TK
open PySem PySem.Spec PyProof.Rows L2
section
variable {X : Cx} {C : SC} {k : Nat} {W : WX}
theorem nobeh {o : CmpOp} {e : Expr} (h : notSet e = true) : behindInMarks o e = false := by
  cases e <;> first | rfl | cases h
theorem lastm {o p : CmpOp} {a b : Expr} (h : notSet b = true) : lastMarks [o, p] [a, b] = false := by
  show behindInMarks p b = false
  exact nobeh h
theorem plainIx {e : Expr} (h : notSlice e = true) : PlainIx e := by
  intro o i
  cases e <;> first | rfl | cases h
theorem attr_whole {e : Expr} (h : notCall e = true) (a : Str) (env : Env) (t : Sem Value) : attributeBase e a env t = t := by
  cases e <;> first | rfl | cases h
theorem plain_isTrue {e : Expr} (h : plainT e = true) (env : Env) : ∀ whole, isTrue e env whole = (do let v ← whole; standAt e.pos; holding [v] (truthy v)) := by
  intro whole
  cases e with
  | UnaryOp o x p => cases o <;> first | (with_unfolding_all rfl) | cases h
  | BoolOp _ _ _ => cases h
  | IfExp _ _ _ _ => cases h
  | Compare _ _ _ _ => cases h
  | _ => with_unfolding_all rfl
theorem folded {e : Expr} (h : notSet e = true) (env : Env) : ∀ x, foldedSetIterable e env x = pure x := by
  intro x
  cases e <;> first | rfl | cases h
theorem tru_lift {F : FS} {H : Hp} {st : Store} {v : PV} {x : V} {P : Bool → Store → Prop} (rs : RS X.K H F st) (d : DV X.K H F v x) (h : truV v st P) : ∃ b, TruV X.K x H b ∧ P b st := by
  unfold truV at h
  split at h
  · cases d; exact ⟨_, rfl, h⟩
  · cases d; exact ⟨_, rfl, h⟩
  · cases d; exact ⟨_, rfl, h⟩
  · cases d with
    | tup h1 ds => exact ⟨_, .inr (.inl ⟨_, h1, rfl⟩), by cases ds <;> exact h⟩
  · cases d with
    | lst f h1 ds => exact ⟨_, .inl ⟨_, .of h1, rfl⟩, by cases ds <;> exact h⟩
  · obtain ⟨xs, e, h⟩ := h
    cases d
    obtain ⟨_, ys, h1, ds⟩ := rs.lst _ _ e
    exact ⟨_, .inl ⟨_, .of h1, rfl⟩, by cases ds <;> exact h⟩
  · exact h.elim
abbrev pfX (X : Cx) (k : Nat) : Str → PSpec → Nat → Prop := HasFn (wdX X) k
abbrev pkX (X : Cx) (k : Nat) : Str → Str → PSpec → Nat → Prop := HasFnK (wdX X) k
abbrev pgX (X : Cx) : Str → PV → Prop := HasGl (wdX X)
/-- the context of a comprehension's block -/
theorem CxOk.blk {vs : List Nat} {scope : Scope} (ok : CxOk X C k W) (hblk0 : blkC C.N C.sc scope (ownOf C.N vs) = true) (s : Shared) (H : Hp) (a : Addr) (cl : List (Str × Addr)) (fp : List Addr) :
    CxOk (X.blk s H scope (compEnvC scope cl a X.env) fp) ⟨C.N, relS scope C.sc, scope⟩ k (fun _ _ _ _ => False) where
  hN := ok.hN
  nd := ok.nd
  hsc := by
    show relS scope X.env.scope = _
    rw [ok.hsc]
  calm := ok.calm
  kindF := by
    have := (blkOk_by hblk0).kind
    exact this
  room := ok.room
  gds := ok.gds
  tk := fun u s' ⟨_, _, _, _, _, _, _, _, _, _, _, _, _, _, _, _, w⟩ => w
  po := PassesOwn.never
  tg := fun x hx => by
    have hx' : locB scope x = true := hx
    unfold locB at hx'
    have key : ∀ kd, kd ≠ NameKind.free → scope.names.lookup x = some kd → (relS scope C.sc).names.lookup x = some kd := fun kd h1 h2 => lookup_relS_keep h1 h2
    split at hx'
    · rename_i e
      have := key _ (by decide) e
      exact ⟨.inl this, .inr this⟩
    · rename_i e
      refine ⟨.inr (key _ (by decide) e), .inl ?_⟩
      show (scope.names.lookup x == some NameKind.cell) = true
      rw [e]; rfl
    · cases hx'
  blt := ok.blt
theorem tyStr_more (ok : CxOk X C k W) {ty : Str} {c : String} (hc : c ∈ ["int", "bool", "str", "tuple", "list"]) (e : ty = Str.ofString c) : X.mg ty = none ∧ ty ≠ ("__name__" : Str) := by
  simp only [List.mem_cons, List.not_mem_nil, or_false] at hc
  subst e
  rcases hc with rfl | rfl | rfl | rfl | rfl <;> exact ⟨ok.blt _ (by decide +kernel), by decide +kernel⟩
theorem needTs_one {pf : Str → PSpec → Nat → Prop} {pk : Str → Str → PSpec → Nat → Prop} {pg : Str → PV → Prop} {t : T} (h : needTs pf pk pg (.cons t .nil)) : needT pf pk pg t := h.1

mutual
theorem asg_length : ∀ {tg : TG} {v : PV} {τ τ1 : Sl}, tg.asg v τ = some τ1 → τ1.length = τ.length
  | .name i, v, τ, τ1, h => by
    cases (Option.some.inj h)
    exact setS_length _ _ _
  | .tup ts, v, τ, τ1, h => by
    cases v with
    | tup xs => exact asgs_length (show ts.asg xs τ = some τ1 from h)
    | _ => cases h
theorem asgs_length : ∀ {tg : TGs} {v : List PV} {τ τ1 : Sl}, tg.asg v τ = some τ1 → τ1.length = τ.length
  | .nil, v, τ, τ1, h => by
    cases v with
    | nil => cases (Option.some.inj h); rfl
    | cons _ _ => cases h
  | .cons t ts, v, τ, τ1, h => by
    cases v with
    | nil => cases h
    | cons x r =>
      have h' : (t.asg x τ).bind (ts.asg r) = some τ1 := h
      cases q : t.asg x τ with
      | none => rw [q] at h'; cases h'
      | some τ2 =>
        rw [q] at h'
        exact (asgs_length (show ts.asg r τ2 = some τ1 from h')).trans (asg_length q)
end
theorem wipe_get (σ : L2.St) (j : Nat) : ∀ vs : List Nat, (L2.wipe σ vs)[j]? = if j ∈ vs then σ[j]?.map (fun _ => none) else σ[j]?
  | [] => by simp [L2.wipe]
  | v :: vs => by
    show ((L2.wipe σ vs).set v none)[j]? = _
    by_cases e : v = j
    · subst e
      by_cases hv : v < (L2.wipe σ vs).length
      · rw [List.getElem?_set_self hv, if_pos List.mem_cons_self]
        rw [L2.wipe_length] at hv
        rw [List.getElem?_eq_getElem hv]; rfl
      · rw [List.getElem?_eq_none (by rw [List.length_set]; omega), if_pos List.mem_cons_self]
        rw [L2.wipe_length] at hv
        rw [List.getElem?_eq_none (by omega)]; rfl
    · rw [List.getElem?_set_ne e, wipe_get σ j vs]
      by_cases hm : j ∈ vs
      · rw [if_pos hm, if_pos (List.mem_cons_of_mem _ hm)]
      · rw [if_neg hm, if_neg (fun z => (List.mem_cons.mp z).elim (fun z => e z.symm) hm)]
theorem wipe_same {σ σ2 : L2.St} {vs : List Nat} (hl : σ2.length = σ.length) (h : ∀ j, j ∉ vs → σ2[j]? = (L2.wipe σ vs)[j]?) : L2.wipe σ2 vs = L2.wipe σ vs := by
  apply List.ext_getElem?
  intro j
  rw [wipe_get, wipe_get]
  by_cases hm : j ∈ vs
  · rw [if_pos hm, if_pos hm]
    by_cases hj : j < σ.length
    · rw [List.getElem?_eq_getElem hj, List.getElem?_eq_getElem (by omega)]; rfl
    · rw [List.getElem?_eq_none (by omega), List.getElem?_eq_none (by omega)]
  · rw [if_neg hm, if_neg hm, h j hm, wipe_get, if_neg hm]
theorem lc_sound {F1 : FS} {H1 : Hp} {st1 : Store} {τ : Sl} {σ : L2.St} {vs : List Nat} {tg : TG} {t : EQ → Sl → Store → (Bool → Store → Prop) → Prop} {e : EQ → Sl → Store → PQ → Prop} {J : It} {xs : List PV} {oks : Store → Prop} {m : Bool} {Q : VK} {Q0 : PQ}
    {tt : TT} {te : TE} (hsl : tg.slots.all (fun i => decide (i ∈ vs)) = true) (rs1 : RS X.K H1 F1 st1) (sl1 : RSl X.K H1 F1 τ σ) (wp : WP X.K J F1 H1 xs oks) (hok : oks st1) (hlen : xs.length ≤ sizeLine)
    (hq : ∀ {ys : List PV} {s : Store}, newList m ys s Q0 → newList m ys s (LQ X.K F1 H1 Q))
    (h : lcL tg (t fun _ _ => False) (e fun _ _ => False) (wipeS τ vs) (fun acc s => newList m acc s Q0) xs st1 [])
    (ht : ∀ σ H P, (∃ F τ st, RS X.K H F st ∧ RSl X.K H F τ σ ∧ t (fun _ _ => False) τ st fun b st' => ∀ F' H', Ext F H F' H' → RS X.K H' F' st' → P b H') → tt σ H P)
    (he : ∀ σ H P, (∃ F τ st, RS X.K H F st ∧ RSl X.K H F τ σ ∧ e (fun _ _ => False) τ st (LQ X.K F H P)) → te σ H P)
    (mt : ∀ {τ st} {P P' : Bool → Store → Prop}, (∀ v s, P v s → P' v s) → t (fun _ _ => False) τ st P → t (fun _ _ => False) τ st P')
    (me : ∀ {τ st} {P P' : PQ}, (∀ v s, P v s → P' v s) → e (fun _ _ => False) τ st P → e (fun _ _ => False) τ st P') :
    ∀ D, H1 D = none → ∃ Wv : Nat → Nat → Hp → Prop, (∃ m, Wv 0 m (upd H1 D (.lst []))) ∧ ∀ i m H, Wv i m H →
      (J.stop i H ∧ Q (.ref D) H) ∨ (J.go i H ∧ ∃ Nx : Hp → Prop, (∀ H', Nx H' → ∃ m', m' < m ∧ Wv (i + 1) m' H') ∧ ∀ x H', J.yld i H x H' → tlG X.K tg x (L2.wipe σ vs) H' fun σ2 H2 => L2.wipe σ2 vs = L2.wipe σ vs ∧ tt σ2 H2 fun b H3 =>
        if b = true then te σ2 H3 fun y H4 => ∃ acc, H4 D = some (.lst acc) ∧ acc.length < sizeLine ∧ Nx (upd H4 D (.lst (acc ++ [y]))) else Nx H3) := by
  intro D hD
  have stD := rs1.no hD
  refine ⟨fun i n H => n = xs.length - i ∧ i ≤ xs.length ∧ ∃ F2 stb acc, Sub st1 stb ∧ stb D = none ∧ Ext F1 H1 F2 H ∧ RS X.K H F2 (up stb D (some (.lst acc))) ∧ acc.length ≤ i ∧ lcL tg (t fun _ _ => False) (e fun _ _ => False) (wipeS τ vs) (fun acc s => newList m acc s Q0) (xs.drop i) stb acc,
    ⟨xs.length, rfl, Nat.zero_le _, F1, st1, [], fun _ _ h => h, stD, .new hD, rs1.putNew hD .nil, Nat.zero_le _, h⟩, ?_⟩
  rintro i n H ⟨rfl, hi, F2, stb, acc, sb, sbD, x2, r2, hl, h2⟩
  have subb : Sub stb (up stb D (some (.lst acc))) := fun a c ha => by
    have n : a ≠ D := fun z => by rw [z, sbD] at ha; cases ha
    rw [up_ne n]; exact ha
  have sub : Sub st1 (up stb D (some (.lst acc))) := fun a c ha => subb a c (sb a c ha)
  by_cases hlt : i < xs.length
  · refine .inr ⟨wp.go i F2 H _ hlt x2 r2 (wp.mono _ _ sub hok), fun H' => ∃ F3 stn acc', Sub st1 stn ∧ stn D = none ∧ Ext F1 H1 F3 H' ∧ RS X.K H' F3 (up stn D (some (.lst acc'))) ∧ acc'.length ≤ i + 1 ∧ lcL tg (t fun _ _ => False) (e fun _ _ => False) (wipeS τ vs) (fun acc s => newList m acc s Q0) (xs.drop (i + 1)) stn acc',
      fun H' ⟨F3, stn, acc', a1, a2, a3, a4, a5, a6⟩ => ⟨xs.length - (i + 1), by omega, rfl, hlt, F3, stn, acc', a1, a2, a3, a4, a5, a6⟩, fun x H' y => ?_⟩
    obtain ⟨x3, r3, v, hv, dv⟩ := wp.yld i F2 H _ x H' hlt x2 r2 (wp.mono _ _ sub hok) y
    have hd : xs.drop i = v :: xs.drop (i + 1) := by
      rw [List.drop_eq_getElem_cons hlt]
      rw [List.getElem?_eq_getElem hlt] at hv
      rw [Option.some.inj hv]
    rw [hd] at h2
    have x13 := x2.trans x3
    cases ea : tg.asg v (wipeS τ vs) with
    | none =>
      have h3 : oP (tg.asg v (wipeS τ vs)) _ := h2
      rw [ea] at h3; exact h3.elim
    | some τ1 =>
      have h3 : oP (tg.asg v (wipeS τ vs)) _ := h2
      rw [ea] at h3
      refine ⟨F2, wipeS τ vs, τ1, v, (sl1.ext x13).wipe vs, dv, ea, fun σ2 sl2 k2 => ⟨?_, ?_⟩⟩
      · refine wipe_same ?_ fun j hj => k2 j fun z => hj (of_decide_eq_true (List.all_eq_true.mp hsl j z))
        have l1 := sl2.1
        have l2 := (sl1.wipe vs).1
        have l3 := L2.wipe_length σ vs
        have l4 : τ1.length = (wipeS τ vs).length := asg_length ea
        omega
      · refine ht _ _ _ ⟨F2, τ1, _, r3, sl2, mt (fun b s hb => ?_) (h3 _ subb)⟩
        obtain ⟨es, hb⟩ := hb
        subst es
        intro F4 H4 x4 r4
        cases b with
        | true =>
          refine he _ _ _ ⟨F4, τ1, _, r4, sl2.ext x4, me (fun y s hy => ?_) hb⟩
          intro F5 H5 y' x5 r5 d5
          have hy' : ∃ stn, Sub st1 stn ∧ stn D = none ∧ s = up stn D (some (.lst acc)) ∧ lcL tg (t fun _ _ => False) (e fun _ _ => False) (wipeS τ vs) (fun acc s => newList m acc s Q0) (xs.drop (i + 1)) stn (acc ++ [y]) := by
            rcases hy with ⟨es, hy⟩ | ⟨p, zs, hp, ey, es, hy⟩
            · exact ⟨stb, sb, sbD, es, hy⟩
            · have pD : p ≠ D := fun z => by rw [z, up_same] at hp; cases hp
              rw [up_ne pD] at hp
              refine ⟨up stb p (some (.lst zs)), fun a c ha => ?_, by rw [up_ne (Ne.symm pD)]; exact sbD, ?_, hy⟩
              · have hb := sb a c ha
                have n : a ≠ p := fun z => by rw [z, hp] at hb; cases hb
                rw [up_ne n]; exact hb
              · rw [es]
                funext b
                by_cases n : b = D
                · subst n; rw [up_ne (Ne.symm pD), up_same, up_same]
                · by_cases n2 : b = p
                  · subst n2; rw [up_same, up_ne n, up_same]
                  · rw [up_ne n2, up_ne n, up_ne n, up_ne n2]
          obtain ⟨stn, sn, snD, es, hzz⟩ := hy'
          subst es
          obtain ⟨nf, ys, hH, ds⟩ := r5.lst D acc up_same
          have ni : ∀ u, H5 D = some u → ¬ Imm u := fun u e => by
            rw [hH] at e; cases e; exact fun z => z
          refine ⟨ys, hH, by rw [← ds.length]; omega, F5, stn, acc ++ [y], sn, snD, ?_, ?_, by rw [List.length_append]; exact Nat.succ_le_succ hl, hzz⟩
          · exact ((x13.trans x4).trans x5).trans (.put nf ni)
          · have := r5.put nf ni (ds.append (.cons d5 .nil))
            have eup : up (up stn D (some (.lst acc))) D (some (.lst (acc ++ [y]))) = up stn D (some (.lst (acc ++ [y]))) := by
              funext b; unfold up; split <;> rfl
            rw [eup] at this
            exact this
        | false => exact ⟨F4, stb, acc, sb, sbD, x13.trans x4, r4, Nat.le_succ_of_le hl, hb⟩
  · have e : i = xs.length := by omega
    subst e
    refine .inl ⟨wp.stop F2 H _ x2 r2 (wp.mono _ _ sub hok), ?_⟩
    rw [List.drop_length] at h2
    have h3 := hq h2
    have stl : up stb D (some (.lst acc)) D = some (.lst acc) := up_same
    have edn : up (up stb D (some (.lst acc))) D Option.none = stb := by
      funext b
      by_cases n : b = D
      · subst n; rw [up_same, sbD]
      · rw [up_ne n, up_ne n]
    cases m with
    | true => exact h3 D sbD F2 H _ x2 r2 (.ref D)
    | false =>
      obtain ⟨x4, r4, d4⟩ := r2.freeze stl
      rw [edn] at r4
      exact h3 _ H _ (x2.trans x4) r4 d4

mutual
theorem sE : ∀ (e : E) {X : Cx} {C : SC} {k : Nat} {W : WX} {x : Expr}, CxOk X C k W → chkE e C x = true → needE (pfX X k) (pkX X k) (pgX X) e → PE X x (tl X W (wpE e))
  | .var i, X, C, k, W, x, ok, hc, hn => by
    unfold chkE at hc
    split at hc
    · refine impE (nm_ok ok hc) fun σ H Q q => ?_
      obtain ⟨F, τ, st, rs, sl, h⟩ := q
      unfold wpE at h
      cases e : getS τ i with
      | none => rw [e] at h; exact h.elim
      | some v =>
        rw [e] at h
        obtain ⟨y, e', d⟩ := sl.2 i v e
        exact ⟨y, e', LQ.now h rs d⟩
    · cases hc
  | .fvar i, X, C, k, W, x, ok, hc, hn => by
    unfold chkE at hc
    split at hc
    · refine impE (nm_ok ok hc) fun σ H Q q => ?_
      obtain ⟨F, τ, st, rs, sl, h⟩ := q
      unfold wpE at h
      cases e : getS τ i with
      | none => rw [e] at h; exact h.elim
      | some v =>
        rw [e] at h
        replace h : frzV v st (LQ X.K F H Q) := h
        obtain ⟨y, e', d⟩ := sl.2 i v e
        refine ⟨y, e', ?_⟩
        unfold frzV at h
        split at h
        · rename_i a
          cases q : st a with
          | none =>
            have e2 : lstOf st (.ref a) = none := by simp only [lstOf, q]
            rw [e2] at h; exact h.elim
          | some c =>
            cases c with
            | pool =>
              have e2 : lstOf st (.ref a) = none := by simp only [lstOf, q]
              rw [e2] at h; exact h.elim
            | lst xs =>
              have e2 : lstOf st (.ref a) = some xs := by simp only [lstOf, q]
              rw [e2] at h
              obtain ⟨x1, r1, d1⟩ := rs.freeze q
              cases d
              exact h _ _ _ x1 r1 d1
        · exact LQ.now h rs d
    · cases hc
  | .int n, X, C, k, W, x, ok, hc, hn => by
    unfold chkE at hc
    split at hc
    · have e := of_decide_eq_true hc
      subst e
      refine impE pe_int fun σ H Q q => ?_
      obtain ⟨F, τ, st, rs, sl, h⟩ := q
      exact LQ.now h rs (.int n)
    · cases hc
  | .bl n, X, C, k, W, x, ok, hc, hn => by
    unfold chkE at hc
    split at hc
    · have e := eq_of_beq hc
      subst e
      refine impE pe_bl fun σ H Q q => ?_
      obtain ⟨F, τ, st, rs, sl, h⟩ := q
      exact LQ.now h rs (.bl n)
    · cases hc
  | .non, X, C, k, W, x, ok, hc, hn => by
    unfold chkE at hc
    split at hc
    · refine impE pe_non fun σ H Q q => ?_
      obtain ⟨F, τ, st, rs, sl, h⟩ := q
      exact LQ.now h rs .non
    · cases hc
  | .str n, X, C, k, W, x, ok, hc, hn => by
    unfold chkE at hc
    split at hc
    · have e := of_decide_eq_true hc
      subst e
      refine impE pe_str fun σ H Q q => ?_
      obtain ⟨F, τ, st, rs, sl, h⟩ := q
      exact LQ.now h rs (.str n)
    · cases hc
  | .glob n v, X, C, k, W, x, ok, hc, hn => by
    unfold chkE at hc
    split at hc
    · simp only [Bool.and_eq_true, decide_eq_true_eq] at hc
      obtain ⟨e, hg⟩ := hc
      subst e
      obtain ⟨g1, g2⟩ := ok.gl hg
      obtain ⟨u, y, h1, h2, h3⟩ := hn
      refine impE (pe_glob g1 h1 h2 g2) fun σ H Q q => ?_
      obtain ⟨F, τ, st, rs, sl, h⟩ := q
      exact LQ.now h rs (h3 H F)
    · cases hc
  | .bin o m a b, X, C, k, W, x, ok, hc, hn => by
    unfold chkE at hc
    split at hc
    · simp only [Bool.and_eq_true, decide_eq_true_eq] at hc
      obtain ⟨⟨e, h1⟩, h2⟩ := hc
      subst e
      refine impE (pe_op (bin_ok (m := m)) (sE a ok h1 hn.1) (sE b ok h2 hn.2)) fun σ H Q q => ?_
      obtain ⟨F, τ, st, rs, sl, h⟩ := q
      unfold wpE at h
      refine tl_go (wpE_mono a) .refl rs sl h fun F1 H1 y v st1 e1 rs1 sl1 d1 h1 => ?_
      refine tl_go (wpE_mono b) e1 rs1 sl1 h1 fun F2 H2 z w st2 e2 rs2 sl2 d2 h2 => ?_
      exact ⟨F2, st2, v, w, rs2, d1.ext e2, d2, binV_mono (LQ.ext (e1.trans e2)) h2⟩
    · cases hc
  | .neg a, X, C, k, W, x, ok, hc, hn => by
    unfold chkE at hc
    split at hc
    · refine impE (pe_un un_neg (sE a ok hc hn)) fun σ H Q q => ?_
      obtain ⟨F, τ, st, rs, sl, h⟩ := q
      unfold wpE at h
      refine tl_go (wpE_mono a) .refl rs sl h fun F1 H1 y v st1 e1 rs1 sl1 d1 h1 => ?_
      unfold negV at h1
      split at h1
      · cases d1; exact ⟨_, rfl, h1 F1 H1 _ e1 rs1 (.int _)⟩
      · exact h1.elim
    · cases hc
  | .un f a, X, C, k, W, x, ok, hc, hn => by
    unfold chkE at hc
    split at hc
    · rename_i y hy
      unfold unSh at hy
      split at hy
      · cases hy
        refine impE (pe_revT (sE a ok hc hn)) fun σ H Q q => ?_
        obtain ⟨F, τ, st, rs, sl, h⟩ := q
        unfold wpE at h
        refine tl_go (wpE_mono a) .refl rs sl h fun F1 H1 y v st1 e1 rs1 sl1 d1 h1 => ?_
        cases d1 with
        | tup hs ds => exact ⟨_, _, rfl, hs, fun p hp => h1 F1 _ _ (e1.trans (.new hp)) (rs1.new hp) (.tup (.inl (.inl upd_same)) ((ds.ext (.new hp)).reverse))⟩
        | _ => exact False.elim h1
      · cases hy
        refine impE (pe_revL (sE a ok hc hn)) fun σ H Q q => ?_
        obtain ⟨F, τ, st, rs, sl, h⟩ := q
        unfold wpE at h
        refine tl_go (wpE_mono a) .refl rs sl h fun F1 H1 y v st1 e1 rs1 sl1 d1 h1 => ?_
        have h1 : oP (lstOf st1 v) fun xs => LQ X.K F H Q (.lst xs.reverse) st1 := h1
        cases q : lstOf st1 v with
        | none => rw [q] at h1; exact h1.elim
        | some zs =>
          rw [q] at h1
          obtain ⟨b, ys, rfl, h2, hs⟩ := lstOf_ok rs1 q d1
          exact ⟨b, ys, rfl, .of h2, newList_ok (m := false) (xs := zs.reverse) (LQ.ext e1 _ _ h1) rs1 hs.reverse⟩
      · split at hy
        · rename_i hcond
          cases hy
          obtain ⟨rfl, rfl, hg, hst⟩ := hcond
          refine impE (pe_maxD ok.calm ok.room.units (ok.gl hg).1 (ok.blt _ (by decide +kernel)) (sE a ok hc hn) (fun env => star_cons hst)) fun σ H Q q => ?_
          obtain ⟨F, τ, st, rs, sl, h⟩ := q
          unfold wpE at h
          refine tl_go (wpE_mono a) .refl rs sl h fun F1 H1 y v st1 e1 rs1 sl1 d1 h1 => ?_
          have h1 : oP (lstOf st1 v) fun xs => oP (intsOf xs) fun ns => LQ X.K F H Q (.int (maxD0 ns)) st1 := h1
          cases q : lstOf st1 v with
          | none => rw [q] at h1; exact h1.elim
          | some zs =>
            rw [q] at h1
            have h1 : oP (intsOf zs) _ := h1
            cases q2 : intsOf zs with
            | none => rw [q2] at h1; exact h1.elim
            | some bs =>
              rw [q2] at h1
              obtain ⟨b, ys, rfl, h2, hs⟩ := lstOf_ok rs1 q d1
              rw [ints_ok q2 hs] at h2
              exact ⟨_, bs, rfl, rfl, .of h2, h1 F1 H1 _ e1 rs1 (.int _)⟩
        · cases hy
      · cases hy
    · cases hc
  | .not a, X, C, k, W, x, ok, hc, hn => by
    unfold chkE at hc
    split at hc
    · refine impE (pe_not (sE a ok hc hn)) fun σ H Q q => ?_
      obtain ⟨F, τ, st, rs, sl, h⟩ := q
      unfold wpE at h
      refine tl_go (wpE_mono a) .refl rs sl h fun F1 H1 y v st1 e1 rs1 sl1 d1 h1 => ?_
      cases d1 with
      | bl b => exact ⟨_, rfl, h1 F1 H1 _ e1 rs1 (.bl _)⟩
      | _ => exact h1.elim
    · cases hc
  | .cmp o a b, X, C, k, W, x, ok, hc, hn => by
    unfold chkE at hc
    split at hc
    · simp only [Bool.and_eq_true, decide_eq_true_eq] at hc
      obtain ⟨⟨⟨e, h1⟩, h3⟩, h2⟩ := hc
      subst e
      refine impE (pe_cmpR (cmp_ok ok.room.units) (sE a ok h1 hn.1) (sE b ok h2 hn.2) (nobeh h3)) fun σ H Q q => ?_
      obtain ⟨F, τ, st, rs, sl, h⟩ := q
      unfold wpE at h
      refine tl_go (wpE_mono a) .refl rs sl h fun F1 H1 y v st1 e1 rs1 sl1 d1 h1 => ?_
      refine tl_go (wpE_mono b) e1 rs1 sl1 h1 fun F2 H2 z w st2 e2 rs2 sl2 d2 h2 => ?_
      exact ⟨F2, st2, v, w, rs2, d1.ext e2, d2, cmpV_mono (LQ.ext (e1.trans e2)) h2⟩
    · cases hc
  | .chain o o' a b c, X, C, k, W, x, ok, hc, hn => by
    unfold chkE at hc
    split at hc
    · simp only [Bool.and_eq_true, decide_eq_true_eq] at hc
      obtain ⟨⟨⟨⟨⟨e, e'⟩, h1⟩, h2⟩, h4⟩, h3⟩ := hc
      subst e e'
      refine impE (pe_chain (cmp_ok ok.room.units) (cmp_ok ok.room.units) (sE a ok h1 hn.1) (sE b ok h2 hn.2.1) (sE c ok h3 hn.2.2) (lastm h4)) fun σ H Q q => ?_
      obtain ⟨F, τ, st, rs, sl, h⟩ := q
      unfold wpE at h
      refine tl_go (wpE_mono a) .refl rs sl h fun F1 H1 y v st1 e1 rs1 sl1 d1 h1 => ?_
      refine tl_go (wpE_mono b) e1 rs1 sl1 h1 fun F2 H2 z w st2 e2 rs2 sl2 d2 h2 => ?_
      refine ⟨F2, st2, v, w, rs2, d1.ext e2, d2, cmpV_mono (fun r st3 h3 => ?_) h2⟩
      intro F3 H3 u e3 rs3 d3
      have e13 := (e1.trans e2).trans e3
      cases d3 with
      | bl b =>
        refine ⟨b, rfl, ?_⟩
        have h3 : (if b = true then wpE c (LX X W σ F H) τ st3 fun u st4 => cmpV o' w u st4 (LQ X.K F H Q) else LQ X.K F H Q (.bl false) st3) := h3
        cases b with
        | false => exact h3 F3 H3 _ e13 rs3 (.bl _)
        | true =>
          refine tl_go (wpE_mono c) e13 rs3 (sl2.ext e3) h3 fun F4 H4 z4 w4 st4 e4 rs4 sl4 d4 h4 => ?_
          exact ⟨F4, st4, w, w4, rs4, d2.ext (e3.trans e4), d4, cmpV_mono (LQ.ext (e13.trans e4)) h4⟩
      | _ => exact h3.elim
    · cases hc
  | .bools o es, X, C, k, W, x, ok, hc, hn => by
    unfold chkE at hc
    split at hc
    · simp only [Bool.and_eq_true, decide_eq_true_eq] at hc
      obtain ⟨e, h1⟩ := hc
      subst e
      refine impE (sBs es ok h1 hn) fun σ H Q q => ?_
      obtain ⟨F, τ, st, rs, sl, h⟩ := q
      unfold wpE at h
      exact ⟨F, τ, st, rs, sl, h⟩
    · cases hc
  | .ite t a b, X, C, k, W, x, ok, hc, hn => by
    unfold chkE at hc
    split at hc
    · simp only [Bool.and_eq_true] at hc
      obtain ⟨⟨h1, h2⟩, h3⟩ := hc
      refine impE (pe_ifExp (sT t ok h1 hn.1) (sE a ok h2 hn.2.1) (sE b ok h3 hn.2.2)) fun σ H Q q => ?_
      obtain ⟨F, τ, st, rs, sl, h⟩ := q
      unfold wpE at h
      refine tlT_go (wpT_mono t) .refl rs sl h fun F1 H1 c st1 e1 rs1 sl1 h1 => ?_
      cases c with
      | true => exact tl_go (wpE_mono a) e1 rs1 sl1 h1 fun F2 H2 z w st2 e2 rs2 sl2 d2 h2 => h2 F2 H2 z (e1.trans e2) rs2 d2
      | false => exact tl_go (wpE_mono b) e1 rs1 sl1 h1 fun F2 H2 z w st2 e2 rs2 sl2 d2 h2 => h2 F2 H2 z (e1.trans e2) rs2 d2
    · cases hc
  | .tup es, X, C, k, W, x, ok, hc, hn => by
    unfold chkE at hc
    split at hc
    · refine impE (pe_tup (sA es ok hc hn)) fun σ H Q q => ?_
      obtain ⟨F, τ, st, rs, sl, h⟩ := q
      unfold wpE at h
      refine tlA_go (wpEs_mono es) .refl rs sl h fun F1 H1 y v st1 e1 rs1 sl1 d1 h1 => ?_
      exact ⟨by rw [← d1.length]; exact h1.1, newTup_ok (LQ.ext e1 _ _ h1.2) rs1 d1⟩
    · cases hc
  | .lst m es, X, C, k, W, x, ok, hc, hn => by
    unfold chkE at hc
    split at hc
    · refine impE (pe_lst (sA es ok hc hn)) fun σ H Q q => ?_
      obtain ⟨F, τ, st, rs, sl, h⟩ := q
      unfold wpE at h
      refine tlA_go (wpEs_mono es) .refl rs sl h fun F1 H1 y v st1 e1 rs1 sl1 d1 h1 => ?_
      exact ⟨by rw [← d1.length]; exact h1.1, newList_ok (newList_mono (LQ.ext e1) h1.2) rs1 d1⟩
    · cases hc
  | .idx a i, X, C, k, W, x, ok, hc, hn => by
    unfold chkE at hc
    split at hc
    · simp only [Bool.and_eq_true] at hc
      obtain ⟨⟨h1, h2⟩, h3⟩ := hc
      refine impE (pe_ix ix_ok (sE a ok h1 hn.1) (sE i ok h3 hn.2) (plainIx h2)) fun σ H Q q => ?_
      obtain ⟨F, τ, st, rs, sl, h⟩ := q
      unfold wpE at h
      refine tl_go (wpE_mono a) .refl rs sl h fun F1 H1 y v st1 e1 rs1 sl1 d1 h1 => ?_
      refine tl_go (wpE_mono i) e1 rs1 sl1 h1 fun F2 H2 z w st2 e2 rs2 sl2 d2 h2 => ?_
      exact ⟨F2, st2, v, w, rs2, d1.ext e2, d2, idxV_mono (LQ.ext (e1.trans e2)) h2⟩
    · cases hc
  | .slice m a lo hi, X, C, k, W, x, ok, hc, hn => by
    unfold chkE at hc
    split at hc
    · simp only [Bool.and_eq_true] at hc
      obtain ⟨⟨h1, h2⟩, h3⟩ := hc
      refine impE (pe_slice (sl_ok (m := m)) (sE a ok h1 hn.1) (sO lo ok h2 hn.2.1) (sO hi ok h3 hn.2.2)) fun σ H Q q => ?_
      obtain ⟨F, τ, st, rs, sl, h⟩ := q
      unfold wpE at h
      refine tl_go (wpE_mono a) .refl rs sl h fun F1 H1 y v st1 e1 rs1 sl1 d1 h1 => ?_
      refine tlO_go (wpO_mono lo) e1 rs1 sl1 h1 fun F2 H2 l st2 e2 rs2 sl2 h2 => ?_
      refine tlO_go (wpO_mono hi) (e1.trans e2) rs2 sl2 h2 fun F3 H3 u st3 e3 rs3 sl3 h3 => ?_
      exact ⟨F3, st3, v, rs3, d1.ext (e2.trans e3), sliceV_mono (LQ.ext ((e1.trans e2).trans e3)) h3⟩
    · cases hc
  | .call f sp es, X, C, k, W, x, ok, hc, hn => by
    unfold chkE at hc
    split at hc
    · rename_i p xs pos
      simp only [Bool.and_eq_true, decide_eq_true_eq] at hc
      obtain ⟨⟨e, hg⟩, h1⟩ := hc
      subst e
      obtain ⟨g1, g2⟩ := ok.gl hg
      obtain ⟨⟨fa, fd, ps, ds, dv, pv, sp', m1, m2, m3, m4, m5, m6, m7, m8⟩, hn2⟩ := hn
      have ha := sA es ok h1 hn2
      refine ⟨fun pins s σ H Q I q => ?_⟩
      obtain ⟨F, τ, st, rs, sl, h⟩ := q
      unfold wpE at h
      have hA : tlA X W (wpEs es) σ H (fun ys H1 => liftSp X.K X.mg (es.len + pv.length) sp' (ys ++ dv) H1 Q (WE W σ)) := by
        refine tlA_go (wpEs_mono es) .refl rs sl (wpEs_len es h) fun F1 H1 y v st1 e1 rs1 sl1 d1 h1 => ?_
        obtain ⟨hl, Q0, X0, c1, c2, c3⟩ := h1
        exact ⟨F1, st1, v ++ pv, rs1, d1.append (m5 H1 F1), by rw [List.length_append, ← d1.length, hl, (m5 H1 F1).length], Q0, X0, m7 _ _ _ _ c1, fun v s h => LQ.ext e1 _ _ (c2 v s h), fun e s h => LE.ext e1 _ _ (c3 e s h)⟩
      have fin : ∀ (us : List Value) (vs : List V) (s1 : Shared) (H1 : Hp), Inv X pins σ H1 s1 → Vals vs us → liftSp X.K X.mg (es.len + pv.length) sp' (vs ++ dv) H1 Q (WE W σ) → wpAny (model X.prog X.w) X.A (call (.ref fa) us) (EP X pins σ Q) X.xe s1 := by
        intro us vs s1 H1 I1 r q
        have hl := m8.len _ _ _ _ q
        refine run_gd (ws := us ++ ds) m8 ok.gds ok.room (m3 s1 us I1.kIn ?_) (passAt ok.tk σ) I1 (r.append m4) q
        rw [← hl, List.length_append, List.length_append, r.length, m4.length]
      refine wpAny_Call_Name_kw (ld_glob I g1 m1 ?_ g2)
      cases xs with
      | nil =>
        have hnil : es = .nil := by
          cases es with
          | nil => rfl
          | cons _ _ => cases h1
        subst hnil
        refine PySem.W.callWith_K0 I.kIn m2 (fin [] [] s H I .nil ?_)
        obtain ⟨F1, τ1, st1, rs1, sl1, h1⟩ := hA
        exact h1 F1 H [] .refl rs1 .nil
      | cons x0 xr =>
        have hst : notStar x0 = true := by
          cases es with
          | nil => cases h1
          | cons a as =>
            have h' : (notStar x0 && chkE a C x0 && chkEs as C xr) = true := h1
            simp only [Bool.and_eq_true] at h'
            exact h'.1.1
        have hall := chkEs_star h1 X.env
        rw [star_cons hst, List.all_cons, Bool.and_eq_true] at hall
        exact PySem.W.callWith_K (h₀ := X.base) I.ok.mod.kin m2 (thn (ha.run pos pins s σ H _ I hA) fun us s1 ⟨vs, H1, I1, r, q⟩ => ⟨I1.kIn, fin us vs s1 H1 I1 r q⟩) (star_cons hst) (backTo_any hall.2)
    · cases hc
  | .callK f ks sp es ek, X, C, k, W, x, ok, hc, hn => by
    unfold chkE at hc
    split at hc
    · rename_i y p x0 xr z w kp pos
      simp only [Bool.and_eq_true, decide_eq_true_eq] at hc
      obtain ⟨⟨⟨⟨e, hg⟩, h1⟩, e2⟩, h2⟩ := hc
      subst e e2
      obtain ⟨g1, g2⟩ := ok.gl hg
      obtain ⟨⟨fa, fd, ps, m1, m2, m3, m4, m5⟩, hn2, hn3⟩ := hn
      have ha := sA es ok h1 hn2
      have hk := pk_cons (nm := some ks) (kpos := kp) (sE ek ok h2 hn3) pk_nil
      refine ⟨fun pins s σ H Q I q => ?_⟩
      obtain ⟨F, τ, st, rs, sl, h⟩ := q
      unfold wpE at h
      have hA : tlA X W (wpEs es) σ H (fun ys H1 => tCons (tl X W (wpE ek)) tNil σ H1 fun zs H2 => ∃ z, zs = [z] ∧ ys.length = es.len ∧ liftSp X.K X.mg (es.len + 1) sp (ys ++ [z]) H2 Q (WE W σ)) := by
        refine tlA_go (wpEs_mono es) .refl rs sl (wpEs_len es h) fun F1 H1 y v st1 e1 rs1 sl1 d1 h1 => ?_
        refine tl_go (wpE_mono ek) e1 rs1 sl1 h1.2 fun F2 H2 z w st2 e2 rs2 sl2 d2 h2 => ?_
        have ly : y.length = es.len := by rw [← d1.length]; exact h1.1
        obtain ⟨Q0, X0, c1, c2, c3⟩ := h2
        exact ⟨z, rfl, ly, F2, st2, v ++ [w], rs2, (d1.ext e2).append (.cons d2 .nil), by rw [List.length_append, ly]; rfl, Q0, X0, c1, fun v s h => LQ.ext (e1.trans e2) _ _ (c2 v s h), fun e s h => LE.ext (e1.trans e2) _ _ (c3 e s h)⟩
      have hst : notStar x0 = true := by
        cases es with
        | nil => cases h1
        | cons a as =>
          have h' : (notStar x0 && chkE a C x0 && chkEs as C xr) = true := h1
          simp only [Bool.and_eq_true] at h'
          exact h'.1.1
      have hall := chkEs_star h1 X.env
      rw [star_cons hst, List.all_cons, Bool.and_eq_true] at hall
      refine wpAny_Call_Name_kw (ld_glob I g1 m1 ?_ g2)
      refine PySem.W.callWith_KW (h₀ := X.base) I.ok.mod.kin m2 (by rfl) (thn (ha.run pos pins s σ H _ I hA) fun us s1 ⟨vs, H1, I1, r, q⟩ => ?_) ?_ (star_cons hst)
      · refine thn (hk.run pos pins s1 σ H1 _ I1 q) fun ws s2 ⟨zs, H2, I2, rz, z, ez, ly, q2⟩ => ⟨I2.kIn, ?_⟩
        subst ez
        obtain ⟨u, rfl, ru⟩ := vals1 rz
        show wpAny _ _ (call (.ref fa) us [(ks, u)]) _ _ _
        exact run_gd (ws := us ++ [u]) m5 ok.gds ok.room (m3 s2 us u I2.kIn (by rw [← r.length]; exact ly)) (passAt ok.tk σ) I2 (r.append (.cons ru .nil)) q2
      · have := backTo_any (pos := pos) hall.2
        show ((backTo pos (starEach (x0 :: xr) X.env)).any (·.1) || false) = false
        rw [star_cons hst, Bool.or_false]
        exact this
    · cases hc
  | .blt f m es, X, C, k, W, x, ok, hc, hn => by
    unfold chkE at hc
    split at hc
    · rename_i p xs pos
      simp only [Bool.and_eq_true, decide_eq_true_eq] at hc
      obtain ⟨⟨⟨e, hg⟩, hne⟩, h1⟩ := hc
      subst e
      obtain ⟨g1, g2⟩ := ok.gl hg
      obtain ⟨b1, b2⟩ := boot_bf f
      have ha := sA es ok h1 hn
      cases xs with
      | nil => cases hne
      | cons x0 xr =>
        have hst : notStar x0 = true := by
          cases es with
          | nil => cases h1
          | cons a as =>
            have h' : (notStar x0 && chkE a C x0 && chkEs as C xr) = true := h1
            simp only [Bool.and_eq_true] at h'
            exact h'.1.1
        have hall := chkEs_star h1 X.env
        rw [star_cons hst, List.all_cons, Bool.and_eq_true] at hall
        have fin : ∀ σ H Q, tl X W (wpE (.blt f m es)) σ H Q → tCB (rC X.K (bltV f m)) (tlA X W (wpEs es)) σ H Q := fun σ H Q q => by
          obtain ⟨F, τ, st, rs, sl, h⟩ := q
          unfold wpE at h
          refine tlA_go (wpEs_mono es) .refl rs sl h fun F1 H1 y v st1 e1 rs1 sl1 d1 h1 => ?_
          exact ⟨F1, st1, v, rs1, d1, bltV_mono (LQ.ext e1) h1⟩
        have hb := blt_ok (X := X) (f := f) (m := m) ok.calm ok.gds ok.room.units
        cases ht : f.isTy with
        | true =>
          have ev : f.val = .type f.id := by unfold BF.val; rw [ht]; rfl
          rw [ev] at hb b1
          exact impE (pe_callTy hb g1 (ok.bn f) b1 ha b2 g2 (star_cons hst) (backTo_any hall.2)) fin
        | false =>
          have ev : f.val = .builtin f.id := by unfold BF.val; rw [ht]; rfl
          rw [ev] at hb b1
          exact impE (pe_callB hb g1 (ok.bn f) b1 ha b2 g2 (star_cons hst) (backTo_any hall.2)) fin
    · cases hc
  | .isi a ty, X, C, k, W, x, ok, hc, hn => by
    unfold chkE at hc
    split at hc
    · simp only [Bool.and_eq_true, decide_eq_true_eq] at hc
      obtain ⟨⟨⟨⟨⟨⟨e, hg⟩, hst⟩, h1⟩, e2⟩, ht⟩, hg2⟩ := hc
      subst e e2
      obtain ⟨g1, g2⟩ := ok.gl hg
      obtain ⟨g3, g4⟩ := ok.gl hg2
      obtain ⟨c, hcm, ec, bc⟩ := tyStr_ok ht
      have m1 : X.mg ("isinstance" : Str) = none := ok.blt _ (by decide +kernel)
      obtain ⟨m2, ne⟩ := tyStr_more ok hcm ec
      refine impE (pe_callB call_isi g1 m1 (by decide +kernel) (pa_cons (sE a ok h1 hn) (pa_cons (pe_bltn g3 m2 bc (v := .ty c) rfl ne g4) pa_nil rfl) (star_cons hst)) (by decide) g2 (star_cons hst) rfl) fun σ H Q q => ?_
      obtain ⟨F, τ, st, rs, sl, h⟩ := q
      unfold wpE at h
      refine tl_go (wpE_mono a) .refl rs sl h fun F1 H1 y v st1 e1 rs1 sl1 d1 h1 => ?_
      cases e : isiV _ v with
      | none => rw [e] at h1; exact h1.elim
      | some b =>
        rw [e] at h1
        obtain ⟨n1, n2, n3⟩ := isi_val hcm ec e
        obtain ⟨t1, t2⟩ := TyX_ok d1 n1 n2
        exact ⟨y, .ty c, _, _, b, rfl, .ty c, t1, by rw [kit_ty (kit_ok t2 hcm), n3], h1 F1 H1 _ e1 rs1 (.bl b)⟩
    · cases hc
  | .meth f o es, X, C, k, W, x, ok, hc, hn => by
    unfold chkE at hc
    split at hc
    · rename_i xs cp
      simp only [Bool.and_eq_true, decide_eq_true_eq] at hc
      obtain ⟨⟨⟨⟨⟨e, hl⟩, hno⟩, h30⟩, h1⟩, h2⟩ := hc
      subst e
      have ho := sE o ok h1 hn.1
      have ha := sA es ok h2 hn.2
      have slot : Slot "list" f.name f.id := by
        cases f
        · exact PySem.F.slot_list_append
        · exact PySem.F.slot_list_extend
        · exact PySem.F.slot_list_pop
        · exact PySem.F.slot_list_index
      have hty : typeOf (.builtin f.id) = pure (.type "method_descriptor") := by
        cases f
        · exact PySem.F.type_list_append
        · exact PySem.F.type_list_extend
        · exact PySem.F.type_list_pop
        · exact PySem.F.type_list_index
      have ty : ∀ {F H st v x}, RS X.K H F st → DV X.K H F v x → isLst st v → tyV X.K "list" x H := fun {F H st v x} rs d h => by
        unfold isLst at h
        cases e : lstOf st v with
        | none => rw [e] at h; exact h.elim
        | some xs =>
          obtain ⟨a, ys, rfl, h1, _⟩ := lstOf_ok rs e d
          exact .inl ⟨rfl, ys, .of h1⟩
      cases xs with
      | nil =>
        have hnil : es = .nil := by
          cases es with
          | nil => rfl
          | cons _ _ => cases h2
        subst hnil
        refine impE (pe_bm0 PySem.F.plainAttrs_list slot hty meth_ok ho (attr_whole hno _ _ _) hl) fun σ H Q q => ?_
        obtain ⟨F, τ, st, rs, sl, h⟩ := q
        unfold wpE at h
        refine tl_go (wpE_mono o) .refl rs sl h fun F1 H1 y v st1 e1 rs1 sl1 d1 h1 => ?_
        have h2 : methV f v [] st1 (LQ X.K F H Q) := h1.2
        exact ⟨ty rs1 d1 h1.1, F1, st1, v, [], rs1, d1, .nil, methV_mono (LQ.ext e1) h2⟩
      | cons x0 xr =>
        have hst : notStar x0 = true := by
          cases es with
          | nil => cases h2
          | cons a as =>
            have h' : (notStar x0 && chkE a C x0 && chkEs as C xr) = true := h2
            simp only [Bool.and_eq_true] at h'
            exact h'.1.1
        have hall := chkEs_star h2 X.env
        have hall' := hall
        rw [star_cons hst, List.all_cons, Bool.and_eq_true] at hall'
        have hfew : ((backTo cp (starEach (x0 :: xr) X.env)).all (fun x => !x.1) && (backToKw cp (keywordEach [] X.env)).all (fun x => x.1.isSome)
            && decide ((x0 :: xr).length + ([] : List Keyword).length + (if ([] : List Keyword).isEmpty then 0 else 1) < 30)) = true := by
          rw [backTo_all hall]
          show (true && true && decide ((x0 :: xr).length + 0 + 0 < 30)) = true
          rw [Bool.true_and, Bool.true_and]
          exact decide_eq_true h30
        refine impE (pe_bm PySem.F.plainAttrs_list slot hty meth_ok ho ha (attr_whole hno _ _ _) hfew hl (star_cons hst) (backTo_any hall'.2)) fun σ H Q q => ?_
        obtain ⟨F, τ, st, rs, sl, h⟩ := q
        unfold wpE at h
        refine tl_go (wpE_mono o) .refl rs sl h fun F1 H1 y v st1 e1 rs1 sl1 d1 h1 => ?_
        refine ⟨ty rs1 d1 h1.1, tlA_go (wpEs_mono es) e1 rs1 sl1 h1.2 fun F2 H2 z w st2 e2 rs2 sl2 d2 h2 => ?_⟩
        exact ⟨F2, st2, v, w, rs2, d1.ext e2, d2, methV_mono (LQ.ext (e1.trans e2)) h2⟩
    · cases hc
  | .comp m vs tg it ts elt, X, C, k, W, x, ok, hc, hn => by
    unfold chkE at hc
    split at hc
    · rename_i x0 g y ifs kz scope pos
      simp only [Bool.and_eq_true, decide_eq_true_eq] at hc
      obtain ⟨⟨⟨⟨⟨⟨⟨⟨⟨hk, hown⟩, hblk⟩, hsl⟩, hset⟩, h1⟩, h2⟩, h3⟩, h4⟩, h5⟩ := hc
      have ek := eq_of_beq hk
      subst ek
      have hb := fun s H a cl fp => ok.blk (vs := vs) (scope := scope) hblk s H a cl fp
      have hbk : BlkOk X.N X.env.scope scope (ownOf C.N vs) := by rw [ok.hN, ok.hsc]; exact blkOk_by hblk
      have := pe_lc (X := X) (elt := x0) (tg := g) (iter := y) (ifs := ifs) (scope := scope) (own := ownOf C.N vs) (pos := pos) (g := tlG X.K tg) (tt := tlT X (fun _ _ _ _ => False) (wpTs .And ts)) (te := tl X (fun _ _ _ _ => False) (wpE elt)) ok.calm (by rw [ok.hN]; exact ok.nd) (sI it ok h1 hn.1) hbk
        (fun s H a cl fp => sG tg (hb s H a cl fp) h2)
        (fun s H a cl fp => sPTs ts (hb s H a cl fp) h3 h4 hn.2.1)
        (fun s H a cl fp => sE elt (hb s H a cl fp) h5 hn.2.2) (folded hset _)
      rw [hown] at this
      refine impE this fun σ H Q q => ?_
      obtain ⟨F, τ, st, rs, sl, h⟩ := q
      unfold wpE at h
      refine tlI_go (wpI_mono it) .refl rs sl h fun F1 H1 J xs oks st1 e1 rs1 sl1 wp hz h6 => ?_
      obtain ⟨h7, h8, h9⟩ := h6
      have hlen : xs.length ≤ sizeLine := by
        cases hr : it.isR with
        | true => exact h7 hr
        | false => exact hz hr
      have hlc := lc_sound (X := X) (tt := tlT X (fun _ _ _ _ => False) (wpTs .And ts)) (te := tl X (fun _ _ _ _ => False) (wpE elt)) hsl rs1 sl1 wp h8 hlen (newList_mono (LQ.ext e1)) h9
        (fun σ H P q => let ⟨F, τ, st, rs, sl, h⟩ := q; ⟨F, τ, st, rs, sl, wpTs_mono ts (fun _ _ z => z.elim) (fun _ _ h => h) h⟩)
        (fun σ H P q => let ⟨F, τ, st, rs, sl, h⟩ := q; ⟨F, τ, st, rs, sl, wpE_mono elt (fun _ _ z => z.elim) (fun _ _ h => h) h⟩) (fun hp h => wpTs_mono ts (fun _ _ z => z) hp h) (fun hp h => wpE_mono elt (fun _ _ z => z) hp h)
      exact hlc
    · cases hc
theorem sA : ∀ (e : Es) {X : Cx} {C : SC} {k : Nat} {W : WX} {x : List Expr}, CxOk X C k W → chkEs e C x = true → needEs (pfX X k) (pkX X k) (pgX X) e → PA X x (tlA X W (wpEs e))
  | .nil, X, C, k, W, xs, ok, hc, hn => by
    cases xs with
    | nil =>
      refine impA pa_nil fun σ H Q q => ?_
      obtain ⟨F, τ, st, rs, sl, h⟩ := q
      exact h F H [] .refl rs .nil
    | cons _ _ => cases hc
  | .cons a as, X, C, k, W, xs, ok, hc, hn => by
    cases xs with
    | nil => cases hc
    | cons x r =>
      have h' : (notStar x && chkE a C x && chkEs as C r) = true := hc
      simp only [Bool.and_eq_true] at h'
      refine impA (pa_cons (sE a ok h'.1.2 hn.1) (sA as ok h'.2 hn.2) (star_cons h'.1.1)) fun σ H Q q => ?_
      obtain ⟨F, τ, st, rs, sl, h⟩ := q
      unfold wpEs at h
      refine tl_go (wpE_mono a) .refl rs sl h fun F1 H1 y v st1 e1 rs1 sl1 d1 h1 => ?_
      refine tlA_go (wpEs_mono as) e1 rs1 sl1 h1 fun F2 H2 z w st2 e2 rs2 sl2 d2 h2 => ?_
      exact h2 F2 H2 _ (e1.trans e2) rs2 (.cons (d1.ext e2) d2)
theorem sBs : ∀ (e : Es) {o : BoolOp} {X : Cx} {C : SC} {k : Nat} {W : WX} {x : List Expr} {pos : Pos}, CxOk X C k W → chkEs e C x = true → needEs (pfX X k) (pkX X k) (pgX X) e → PE X (.BoolOp o x pos) (tl X W (wpBs o e))
  | .nil, o, X, C, k, W, xs, pos, ok, hc, hn => ⟨fun pins s σ H Q I ⟨F, τ, st, rs, sl, h⟩ => h.elim⟩
  | .cons a .nil, o, X, C, k, W, xs, pos, ok, hc, hn => by
    cases xs with
    | nil => cases hc
    | cons x r =>
      have h' : (notStar x && chkE a C x && chkEs .nil C r) = true := hc
      simp only [Bool.and_eq_true] at h'
      cases r with
      | cons _ _ => cases h'.2
      | nil =>
        refine impE (pe_one (sE a ok h'.1.2 hn.1)) fun σ H Q q => ?_
        obtain ⟨F, τ, st, rs, sl, h⟩ := q
        unfold wpBs at h
        exact ⟨F, τ, st, rs, sl, h⟩
  | .cons a (.cons b bs), o, X, C, k, W, xs, pos, ok, hc, hn => by
    cases xs with
    | nil => cases hc
    | cons x r =>
      have h' : (notStar x && chkE a C x && chkEs (.cons b bs) C r) = true := hc
      simp only [Bool.and_eq_true] at h'
      cases r with
      | nil => cases h'.2
      | cons y r =>
        have ih := sBs (.cons b bs) (o := o) (pos := pos) ok h'.2 hn.2
        cases o with
        | And =>
          refine impE (pe_and (sE a ok h'.1.2 hn.1) ih) fun σ H Q q => ?_
          obtain ⟨F, τ, st, rs, sl, h⟩ := q
          unfold wpBs at h
          dsimp only at h
          refine tl_go (wpE_mono a) .refl rs sl h fun F1 H1 y v st1 e1 rs1 sl1 d1 h1 => ?_
          cases d1 with
          | bl c =>
            refine ⟨c, rfl, ?_⟩
            cases c with
            | true => exact tl_go (wpBs_mono (.cons b bs)) e1 rs1 sl1 h1 fun F2 H2 z w st2 e2 rs2 sl2 d2 h2 => h2 F2 H2 z (e1.trans e2) rs2 d2
            | false => exact h1 F1 H1 _ e1 rs1 (.bl _)
          | _ => exact h1.elim
        | Or =>
          refine impE (pe_or (sE a ok h'.1.2 hn.1) ih) fun σ H Q q => ?_
          obtain ⟨F, τ, st, rs, sl, h⟩ := q
          unfold wpBs at h
          dsimp only at h
          refine tl_go (wpE_mono a) .refl rs sl h fun F1 H1 y v st1 e1 rs1 sl1 d1 h1 => ?_
          cases d1 with
          | bl c =>
            refine ⟨c, rfl, ?_⟩
            cases c with
            | false => exact tl_go (wpBs_mono (.cons b bs)) e1 rs1 sl1 h1 fun F2 H2 z w st2 e2 rs2 sl2 d2 h2 => h2 F2 H2 z (e1.trans e2) rs2 d2
            | true => exact h1 F1 H1 _ e1 rs1 (.bl _)
          | _ => exact h1.elim
theorem sO : ∀ (e : OE) {X : Cx} {C : SC} {k : Nat} {W : WX} {x : Option Expr}, CxOk X C k W → chkO e C x = true → needO (pfX X k) (pkX X k) (pgX X) e → PO X x (tlO X W (wpO e))
  | .no, X, C, k, W, x, ok, hc, hn => by
    cases x with
    | some _ => cases hc
    | none =>
      refine impO po_none fun σ H Q q => ?_
      obtain ⟨F, τ, st, rs, sl, h⟩ := q
      exact h F H .refl rs
  | .yes a, X, C, k, W, x, ok, hc, hn => by
    cases x with
    | none => cases hc
    | some x =>
      refine impO (po_some (sE a ok hc hn)) fun σ H Q q => ?_
      obtain ⟨F, τ, st, rs, sl, h⟩ := q
      unfold wpO at h
      refine tl_go (wpE_mono a) .refl rs sl h fun F1 H1 y v st1 e1 rs1 sl1 d1 h1 => ?_
      cases d1 with
      | int i => exact ⟨i, rfl, h1 F1 H1 e1 rs1⟩
      | _ => exact h1.elim
theorem sT : ∀ (e : T) {X : Cx} {C : SC} {k : Nat} {W : WX} {x : Expr}, CxOk X C k W → chkT e C x = true → needT (pfX X k) (pkX X k) (pgX X) e → PT X x (tlT X W (wpT e))
  | .val a, X, C, k, W, x, ok, hc, hn => by
    have hc' : (plainT x && chkE a C x) = true := hc
    simp only [Bool.and_eq_true] at hc'
    refine impT (pt_truth (sE a ok hc'.2 hn) (plain_isTrue hc'.1 _)) fun σ H Q q => ?_
    obtain ⟨F, τ, st, rs, sl, h⟩ := q
    unfold wpT at h
    refine tl_go (wpE_mono a) .refl rs sl h fun F1 H1 y v st1 e1 rs1 sl1 d1 h1 => ?_
    obtain ⟨b, h2, h3⟩ := tru_lift rs1 d1 h1
    exact ⟨b, h2, h3 F1 H1 e1 rs1⟩
  | .cmp o a b, X, C, k, W, x, ok, hc, hn => by
    unfold chkT at hc
    split at hc
    · simp only [Bool.and_eq_true, decide_eq_true_eq] at hc
      obtain ⟨⟨⟨e, h1⟩, h3⟩, h2⟩ := hc
      subst e
      refine impT (pt_cmpR (cmp_ok ok.room.units) (sE a ok h1 hn.1) (sE b ok h2 hn.2) (nobeh h3)) fun σ H Q q => ?_
      obtain ⟨F, τ, st, rs, sl, h⟩ := q
      unfold wpT at h
      refine tl_go (wpE_mono a) .refl rs sl h fun F1 H1 y v st1 e1 rs1 sl1 d1 h1 => ?_
      refine tl_go (wpE_mono b) e1 rs1 sl1 h1 fun F2 H2 z w st2 e2 rs2 sl2 d2 h2 => ?_
      refine ⟨F2, st2, v, w, rs2, d1.ext e2, d2, cmpV_mono (fun r st3 h3 => ?_) h2⟩
      intro F3 H3 u e3 rs3 d3
      cases d3 with
      | bl c => exact ⟨c, rfl, h3 F3 H3 ((e1.trans e2).trans e3) rs3⟩
      | _ => exact h3.elim
    · cases hc
  | .chain o o' a b c, X, C, k, W, x, ok, hc, hn => by
    unfold chkT at hc
    split at hc
    · simp only [Bool.and_eq_true, decide_eq_true_eq] at hc
      obtain ⟨⟨⟨⟨⟨e, e'⟩, h1⟩, h2⟩, h4⟩, h3⟩ := hc
      subst e e'
      refine impT (pt_chain (cmp_ok ok.room.units) (cmp_ok ok.room.units) (sE a ok h1 hn.1) (sE b ok h2 hn.2.1) (sE c ok h3 hn.2.2) (lastm h4)) fun σ H Q q => ?_
      obtain ⟨F, τ, st, rs, sl, h⟩ := q
      unfold wpT at h
      refine tl_go (wpE_mono a) .refl rs sl h fun F1 H1 y v st1 e1 rs1 sl1 d1 h1 => ?_
      refine tl_go (wpE_mono b) e1 rs1 sl1 h1 fun F2 H2 z w st2 e2 rs2 sl2 d2 h2 => ?_
      refine ⟨F2, st2, v, w, rs2, d1.ext e2, d2, cmpV_mono (fun r st3 h3 => ?_) h2⟩
      intro F3 H3 u e3 rs3 d3
      have e13 := (e1.trans e2).trans e3
      cases d3 with
      | bl b =>
        refine ⟨b, rfl, ?_⟩
        cases b with
        | false => exact ⟨false, rfl, h3 F3 H3 e13 rs3⟩
        | true =>
          refine tl_go (wpE_mono c) e13 rs3 (sl2.ext e3) h3 fun F4 H4 z4 w4 st4 e4 rs4 sl4 d4 h4 => ?_
          refine ⟨F4, st4, w, w4, rs4, d2.ext (e3.trans e4), d4, cmpV_mono (fun r st5 h5 => ?_) h4⟩
          intro F5 H5 u5 e5 rs5 d5
          cases d5 with
          | bl c => exact ⟨c, rfl, h5 F5 H5 ((e13.trans e4).trans e5) rs5⟩
          | _ => exact h5.elim
      | _ => exact h3.elim
    · cases hc
  | .not t, X, C, k, W, x, ok, hc, hn => by
    unfold chkT at hc
    split at hc
    · refine impT (pt_not (sT t ok hc hn)) fun σ H Q q => ?_
      obtain ⟨F, τ, st, rs, sl, h⟩ := q
      unfold wpT at h
      exact tlT_go (wpT_mono t) .refl rs sl h fun F1 H1 c st1 e1 rs1 sl1 h1 => h1 F1 H1 e1 rs1
    · cases hc
  | .bools o ts, X, C, k, W, x, ok, hc, hn => by
    unfold chkT at hc
    split at hc
    · rename_i o' xs pos
      simp only [Bool.and_eq_true, decide_eq_true_eq] at hc
      obtain ⟨⟨e, hne⟩, h1⟩ := hc
      subst e
      have hne' : xs ≠ [] := by
        intro z; subst z; cases hne
      refine impT (PW.pt (sTs ts (o := o) ok h1 hne' hn)) fun σ H Q q => ?_
      obtain ⟨F, τ, st, rs, sl, h⟩ := q
      unfold wpT at h
      exact ⟨F, τ, st, rs, sl, h⟩
    · cases hc
  | .ite _ _ _, X, C, k, W, x, ok, hc, hn => by
    unfold chkT at hc
    cases hc
theorem sTs : ∀ (e : Ts) {o : BoolOp} {X : Cx} {C : SC} {k : Nat} {W : WX} {x : List Expr} {pos : Pos}, CxOk X C k W → chkTs e C x = true → x ≠ [] → needTs (pfX X k) (pkX X k) (pgX X) e → PW X (.BoolOp o x pos) (tlT X W (wpTs o e))
  | .nil, o, X, C, k, W, xs, pos, ok, hc, hne, hn => by
    cases xs with
    | nil => exact absurd rfl hne
    | cons _ _ => cases hc
  | .cons t .nil, o, X, C, k, W, xs, pos, ok, hc, hne, hn => by
    cases xs with
    | nil => cases hc
    | cons x r =>
      have h' : (chkT t C x && chkTs .nil C r) = true := hc
      simp only [Bool.and_eq_true] at h'
      cases r with
      | cons _ _ => cases h'.2
      | nil =>
        cases o with
        | And =>
          refine impW (pw_and1 (sT t ok h'.1 hn.1)) fun σ H Q q => ?_
          obtain ⟨F, τ, st, rs, sl, h⟩ := q
          unfold wpTs at h
          refine tlT_go (wpT_mono t) .refl rs sl h fun F1 H1 c st1 e1 rs1 sl1 h1 => ?_
          cases c with
          | true => exact h1 F1 H1 e1 rs1
          | false => exact h1 F1 H1 e1 rs1
        | Or =>
          refine impW (pw_or1 (sT t ok h'.1 hn.1)) fun σ H Q q => ?_
          obtain ⟨F, τ, st, rs, sl, h⟩ := q
          unfold wpTs at h
          refine tlT_go (wpT_mono t) .refl rs sl h fun F1 H1 c st1 e1 rs1 sl1 h1 => ?_
          cases c with
          | true => exact h1 F1 H1 e1 rs1
          | false => exact h1 F1 H1 e1 rs1
  | .cons t (.cons u us), o, X, C, k, W, xs, pos, ok, hc, hne, hn => by
    cases xs with
    | nil => cases hc
    | cons x r =>
      have h' : (chkT t C x && chkTs (.cons u us) C r) = true := hc
      simp only [Bool.and_eq_true] at h'
      cases r with
      | nil => cases h'.2
      | cons y r =>
        have ih := sTs (.cons u us) (o := o) (pos := pos) ok h'.2 (fun z => nomatch z) hn.2
        cases o with
        | And =>
          refine impW (pw_and (sT t ok h'.1 hn.1) ih) fun σ H Q q => ?_
          obtain ⟨F, τ, st, rs, sl, h⟩ := q
          have h : wpT t (LX X W σ F H) τ st fun k st1 => if k = true then wpTs .And (.cons u us) (LX X W σ F H) τ st1 _ else _ := h
          refine tlT_go (wpT_mono t) .refl rs sl h fun F1 H1 c st1 e1 rs1 sl1 h1 => ?_
          cases c with
          | true => exact tlT_go (wpTs_mono (.cons u us)) e1 rs1 sl1 h1 fun F2 H2 c st2 e2 rs2 sl2 h2 => h2 F2 H2 (e1.trans e2) rs2
          | false => exact h1 F1 H1 e1 rs1
        | Or =>
          refine impW (pw_or (sT t ok h'.1 hn.1) ih) fun σ H Q q => ?_
          obtain ⟨F, τ, st, rs, sl, h⟩ := q
          have h : wpT t (LX X W σ F H) τ st fun k st1 => if k = true then _ else wpTs .Or (.cons u us) (LX X W σ F H) τ st1 _ := h
          refine tlT_go (wpT_mono t) .refl rs sl h fun F1 H1 c st1 e1 rs1 sl1 h1 => ?_
          cases c with
          | false => exact tlT_go (wpTs_mono (.cons u us)) e1 rs1 sl1 h1 fun F2 H2 c st2 e2 rs2 sl2 h2 => h2 F2 H2 (e1.trans e2) rs2
          | true => exact h1 F1 H1 e1 rs1
theorem sI : ∀ (e : I) {X : Cx} {C : SC} {k : Nat} {W : WX} {g x : Expr}, CxOk X C k W → chkI e C g x = true → needI (pfX X k) (pkX X k) (pgX X) e → PI X g x (tlI X W e.isR (wpI e))
  | .val a, X, C, k, W, g, x, ok, hc, hn => by
    refine ⟨fun pins s σ H R I q => ?_⟩
    obtain ⟨F, τ, st, rs, sl, h⟩ := q
    unfold wpI at h
    refine thn ((sE a ok hc hn).run pins s σ H (fun x H1 => (∃ z, x = .str z ∧ R (Its z) H1) ∨ ∃ b ys, x = .ref b ∧ ((SqL X.K H1 b ys ∧ (ys.length ≤ sizeLine → R (Itl X.K b) H1)) ∨ (SqT X.K H1 b ys ∧ (ys.length ≤ sizeLine → R (Itt X.K b) H1)))) I ?_) fun v s1 ⟨y, H1, I1, r1, q1⟩ => ?_
    · refine tl_go (wpE_mono a) .refl rs sl h fun F1 H1 y v st1 e1 rs1 sl1 d1 h1 => ?_
      unfold itV0 at h1
      split at h1
      · cases d1
        exact .inl ⟨_, rfl, h1.2 F1 H1 _ e1 rs1 (wp_str _) fun _ => by rw [chrs_len]; exact h1.1⟩
      refine .inr ?_
      unfold itV at h1
      split at h1
      · cases d1 with
        | tup hq ds => exact ⟨_, _, rfl, .inr ⟨hq, fun hz => h1 F1 H1 _ e1 rs1 (wp_tup hq ds) fun _ => Nat.le_trans (Nat.le_of_eq ds.length) hz⟩⟩
      · cases d1 with
        | lst f hq ds => exact ⟨_, _, rfl, .inl ⟨.of hq, fun hz => h1 F1 H1 _ e1 rs1 (wp_list f hq ds) fun _ => Nat.le_trans (Nat.le_of_eq ds.length) hz⟩⟩
      · rename_i a' hns
        cases e : lstOf st1 (.ref a') with
        | none => rw [e] at h1; exact h1.elim
        | some zs =>
          rw [e] at h1
          obtain ⟨b, ys, rfl, hq, ds⟩ := lstOf_ok rs1 e d1
          cases d1
          exact ⟨_, _, rfl, .inl ⟨.of hq, fun hz => h1 F1 H1 _ e1 rs1 (wp_ref zs) fun _ => Nat.le_trans (Nat.le_of_eq ds.length) hz⟩⟩
      · exact h1.elim
    · rcases q1 with ⟨z, rfl, q⟩ | ⟨b, ys, rfl, q⟩
      · obtain ⟨t, rfl⟩ := r1
        cases ha : z.cps.all (· < 128)
        · exact wpAny_pyIter_wide ha (pi_one (tk := s1.toks) I1 _ (turn_str _ z t "str_iterator" (.inr rfl)) ⟨_, Heap.get?_push_size _ rfl, rfl, rfl⟩ q)
        · exact wpAny_pyIter_ascii ha (pi_one (tk := s1.toks) I1 _ (turn_str _ z t "str_ascii_iterator" (.inl rfl)) ⟨_, Heap.get?_push_size _ rfl, rfl, rfl⟩ q)
      cases r1
      rcases q with ⟨hq, q⟩ | ⟨hq, q⟩
      · obtain ⟨_, _, _, hz⟩ := I1.list hq
        exact iter_l I1 hq (q hz)
      · obtain ⟨_, _, _, hz⟩ := I1.tuple hq
        exact iter_t I1 hq (q hz)
  | .range1 a, X, C, k, W, g, x, ok, hc, hn => by
    unfold chkI at hc
    split at hc
    · simp only [Bool.and_eq_true, decide_eq_true_eq] at hc
      obtain ⟨⟨⟨e, hg⟩, hst⟩, h1⟩ := hc
      subst e
      refine impI (pi_range1 (ok.gl hg).1 (ok.blt _ (by decide +kernel)) (pa_cons (sE a ok h1 hn) pa_nil (star_cons hst)) (star_cons hst)) fun σ H R q => ?_
      obtain ⟨F, τ, st, rs, sl, h⟩ := q
      unfold wpI at h
      refine tl_go (wpE_mono a) .refl rs sl h fun F1 H1 y v st1 e1 rs1 sl1 d1 h1 => ?_
      cases d1 with
      | int j => exact ⟨j, rfl, h1.1.1, h1.1.2, h1.2 F1 H1 _ e1 rs1 (wp_rng 0 _) (fun z => nomatch z)⟩
      | _ => exact h1.elim
    · cases hc
  | .range2 a b, X, C, k, W, g, x, ok, hc, hn => by
    unfold chkI at hc
    split at hc
    · simp only [Bool.and_eq_true, decide_eq_true_eq] at hc
      obtain ⟨⟨⟨⟨⟨e, hg⟩, hst⟩, h1⟩, hst2⟩, h2⟩ := hc
      subst e
      have hs2 : starEach [_, _] X.env = [(false, eval _ X.env), (false, eval _ X.env)] := (star_cons hst).trans (congrArg _ (star_cons hst2))
      refine impI (pi_range2 (ok.gl hg).1 (ok.blt _ (by decide +kernel)) (pa_cons (sE a ok h1 hn.1) (pa_cons (sE b ok h2 hn.2) pa_nil (star_cons hst2)) (star_cons hst)) hs2 (star_cons hst2)) fun σ H R q => ?_
      obtain ⟨F, τ, st, rs, sl, h⟩ := q
      unfold wpI at h
      refine tl_go (wpE_mono a) .refl rs sl h fun F1 H1 y v st1 e1 rs1 sl1 d1 h1 => ?_
      refine tl_go (wpE_mono b) e1 rs1 sl1 h1 fun F2 H2 z w st2 e2 rs2 sl2 d2 h2 => ?_
      cases d1 with
      | int i =>
        cases d2 with
        | int j => exact ⟨i, j, rfl, ⟨h2.1.1, h2.1.2, h2.2.1.1, h2.2.1.2⟩, h2.2.2 F2 H2 _ (e1.trans e2) rs2 (wp_rng i _) (fun z => nomatch z)⟩
        | _ => exact h2.elim
      | _ => exact h2.elim
    · cases hc
  | .enum a, X, C, k, W, g, x, ok, hc, hn => by
    unfold chkI at hc
    split at hc
    · simp only [Bool.and_eq_true, decide_eq_true_eq] at hc
      obtain ⟨⟨⟨e, hg⟩, hst⟩, h1⟩ := hc
      subst e
      refine impI (pi_enumA (ok.gl hg).1 (ok.blt _ (by decide +kernel)) (pa_cons (sE a ok h1 hn) pa_nil (star_cons hst)) (star_cons hst)) fun σ H R q => ?_
      obtain ⟨F, τ, st, rs, sl, h⟩ := q
      unfold wpI at h
      refine tl_go (wpE_mono a) .refl rs sl h fun F1 H1 y v st1 e1 rs1 sl1 d1 h1 => ?_
      unfold itV at h1
      split at h1
      · cases d1 with
        | tup hq ds => exact ⟨_, _, rfl, .inr ⟨hq, h1 F1 H1 _ e1 rs1 (wp_enumT hq ds) (fun z => nomatch z)⟩⟩
      · cases d1 with
        | lst f hq ds => exact ⟨_, _, rfl, .inl ⟨.of hq, h1 F1 H1 _ e1 rs1 (wp_enumL f hq ds) (fun z => nomatch z)⟩⟩
      · rename_i a'
        cases e : lstOf st1 (.ref a') with
        | none => rw [e] at h1; exact h1.elim
        | some zs =>
          rw [e] at h1
          obtain ⟨b, ys, rfl, hq, ds⟩ := lstOf_ok rs1 e d1
          cases d1
          exact ⟨_, _, rfl, .inl ⟨.of hq, h1 F1 H1 _ e1 rs1 (wp_enumR zs) (fun z => nomatch z)⟩⟩
      · exact h1.elim
    · cases hc
  | .zip a b, X, C, k, W, g, x, ok, hc, hn => by
    unfold chkI at hc
    split at hc
    · simp only [Bool.and_eq_true, decide_eq_true_eq] at hc
      obtain ⟨⟨⟨⟨⟨e, hg⟩, hst⟩, h1⟩, hst2⟩, h2⟩ := hc
      subst e
      have hs2 : starEach [_, _] X.env = [(false, eval _ X.env), (false, eval _ X.env)] := (star_cons hst).trans (congrArg _ (star_cons hst2))
      refine impI (RZ.pi_zipA (ok.gl hg).1 (ok.blt _ (by decide +kernel)) (pa_cons (sE a ok h1 hn.1) (pa_cons (sE b ok h2 hn.2) pa_nil (star_cons hst2)) (star_cons hst)) (star_cons hst) (by rw [star_cons hst2]; rfl)) fun σ H R q => ?_
      obtain ⟨F, τ, st, rs, sl, h⟩ := q
      unfold wpI at h
      refine tl_go (wpE_mono a) .refl rs sl h fun F1 H1 y v st1 e1 rs1 sl1 d1 h1 => ?_
      refine tl_go (wpE_mono b) e1 rs1 sl1 h1 fun F2 H2 z w st2 e2 rs2 sl2 d2 h2 => ?_
      unfold zipV at h2
      split at h2
      · cases d1 with
        | tup hq ds =>
          cases d2 with
          | tup hq' ds' =>
            have := sqText e2 hq
            exact ⟨_, _, _, _, rfl, .inr ⟨this, hq', h2 F2 H2 _ (e1.trans e2) rs2 (wp_zipT this (ds.ext e2) hq' ds') (fun z => nomatch z)⟩⟩
      · cases d1 with
        | lst f hq ds =>
          cases d2 with
          | lst f' hq' ds' =>
            have := e2.kp _ _ hq (.inl f)
            exact ⟨_, _, _, _, rfl, .inl ⟨.of this, .of hq', h2 F2 H2 _ (e1.trans e2) rs2 (wp_zipL (e2.le _ f) this (ds.ext e2) f' hq' ds') (fun z => nomatch z)⟩⟩
      · exact h2.elim
    · cases hc
theorem sPTs : ∀ (e : Ts) {X : Cx} {C : SC} {k : Nat} {W : WX} {x : List Expr}, CxOk X C k W → chkTs e C x = true → x.length ≤ 1 → needTs (pfX X k) (pkX X k) (pgX X) e → PTs X x (tlT X W (wpTs .And e))
  | .nil, X, C, k, W, xs, ok, hc, hl, hn => by
    cases xs with
    | cons _ _ => cases hc
    | nil =>
      refine impTs pts_nil fun σ H Q q => ?_
      obtain ⟨F, τ, st, rs, sl, h⟩ := q
      exact h F H .refl rs
  | .cons t .nil, X, C, k, W, xs, ok, hc, hl, hn => by
    cases xs with
    | nil => cases hc
    | cons x r =>
      have h' : (chkT t C x && chkTs .nil C r) = true := hc
      simp only [Bool.and_eq_true] at h'
      cases r with
      | cons _ _ => cases h'.2
      | nil =>
        refine impTs (pts_one (sT t ok h'.1 hn.1)) fun σ H Q q => ?_
        obtain ⟨F, τ, st, rs, sl, h⟩ := q
        unfold wpTs at h
        refine tlT_go (wpT_mono t) .refl rs sl h fun F1 H1 c st1 e1 rs1 sl1 h1 => ?_
        cases c with
        | true => exact h1 F1 H1 e1 rs1
        | false => exact h1 F1 H1 e1 rs1
  | .cons t (.cons u us), X, C, k, W, xs, ok, hc, hl, hn => by
    cases xs with
    | nil => cases hc
    | cons x r =>
      have h' : (chkT t C x && chkTs (.cons u us) C r) = true := hc
      simp only [Bool.and_eq_true] at h'
      cases r with
      | nil => cases h'.2
      | cons y r => exact absurd hl (by simp)
end
end
end TK

set_option maxRecDepth 100000
set_option maxHeartbeats 8000000
namespace TK
open PySem PySem.Spec PySem.W PyProof.Rows L2
/-! ### an own exception's __init__ that says super().__init__(..) -/
theorem call_sup {P : Program} {w : World} {A : Around} {E : Value → Shared → Prop} {K : PySem.W.Frag} {s : Shared} {D a u t0 : Addr} {us : List Value} {Q : Value → Shared → Prop} (T : OexC K D) (X : K.In s.heap)
    (he : s.heap.get? a = some ({ cls := .ref D, dict := none, data := .fields #[.ref t0, .none, .none, .none, .bool false, .none] } : Obj)) (hu : s.heap.get? u = some (kxs_mw "ValueError.__init__" a)) (hz : us.length ≤ sizeLine)
    (h : ∀ h' t1, (∀ b o, b ≠ a → s.heap.get? b = some o → h'.get? b = some o) → h'.get? a = some ({ cls := .ref D, dict := none, data := .fields #[.ref t1, .none, .none, .none, .bool false, .none] } : Obj) → Q .none { s with heap := h' }) :
    wpAny (model P w) A (call (.ref u) us) Q E s := by
  obtain ⟨nm, q, N, bs, bm, sn, sub, ab, col, dd, k0, k1, k2, k3, k5, hC, hbm⟩ := T.cls
  have hC := X _ _ hC
  have FB := F.excBase_ValueError
  obtain ⟨hh, g, d, tk, os⟩ := s
  refine wpAny_call (codeAny_of_tree ?_)
  show wpAny _ A.in1 (callAny (.ref u) ⟨us, []⟩) _ _ _
  simp only [callAny]
  refine wpAny_bind (wpAny_load hu ?_)
  simp only [kxs_mw, show (Value.type "method-wrapper" == Value.type "method" || Value.type "method-wrapper" == Value.type "builtin_function_or_method" || Value.type "method-wrapper" == Value.type "method-wrapper") = true by decide, if_true]
  refine KFB.if_so (by decide) ?_
  refine wpAny_bind (check_bound_init FB.toExcCallFacts hC he rfl ?_)
  refine wpAny_bind (wpAny_pure (wpAny_pure ?_))
  refine ⟨plainId_quiet FB.init.plain _, codeAny_builtin FB.initEntry ?_⟩
  exact exc_init_tree (cls := .ref D) (t0 := t0) (dv := none) (c2 := .none) (c3 := .none) (b4 := .bool false) he hz fun h' k e' _ => h h' _ k e'
/-- what the written part says of such an __init__ of the class D -/
structure IniF (P : Program) (K : PySem.W.Frag) (x qual : Str) (st : Stmt) (D fI : Addr) (fd : FuncData) : Prop where
  ex : ∃ (oc : Value) (od : Option Addr) (kV doc pm : Value) (an : Option Addr) (cda : Addr) (ct : Value) (osl : Array (Option Value)) (cc : Addr),
    fd = ksFn x qual (defArgs st) (defBody st) (defScope st) .none kV doc pm an (.ref cda) ct cc ∧ K.lookup fI = some ⟨oc, od, .func fd, osl⟩ ∧ PySem.W.codeIn K (.ref cda) qual = true ∧
    (∃ cl cld csl, K.lookup cc = some ⟨cl, cld, .cell (some (.ref D)), csl⟩) ∧
    ∃ (ccl : Value) (cdd : Option Addr) (vs : Array Value) (ccs : Array (Option Value)) (file : Str) (tf : Tok), K.lookup cda = some ⟨ccl, cdd, .fields vs, ccs⟩ ∧ vs[2]? = some (.str file tf) ∧ ((P.main.file : Str) == file) = true
  sup : PySem.W.ks_superIn K D D "__init__" = some (some (.builtin "ValueError.__init__"))
  sub : PySem.W.subIn K (.ref D) (.type "ValueError") = some true
  mro : PySem.W.mroIn K D (.ref D) = some true
  opq : PySem.W.nsIn K cStatics "thirdparty.any" = some none
  top : (P.main.scope.names.lookup ("super" : Str)).isSome = false
/-- its scope: the parameters, and the class -/
structure IniSc (N ps : List Str) (sc : Scope) : Prop where
  kind : sc.kind = .function
  co : sc.isCoroutine = false
  gen : sc.isGenerator = false
  nd : N.Nodup
  eqN : N = ps
  par : ∀ x ∈ ps, sc.names.lookup x = some .local
  free : ∀ y ∈ sc.names, y.2 = .free → y.1 = "__class__"
  nocell : ∀ y ∈ sc.names, y.2 ≠ .cell
  cls : sc.names.lookup ("__class__" : Str) = some .free
  sup : sc.names.lookup ("super" : Str) = some .globalImplicit
/-- the context of its body -/
def cxX (CX : CXT) (P : Program) (w : World) (K : PySem.W.Frag) (mg : Str → Option Value) (base : Heap) (N : List Str) (env : Env) (A : Around) (outer : List Env) (s : Shared) (H : Hp) (E : XK) : Cx where
  prog := P
  w := w
  K := K
  mg := mg
  base := base
  A := A.deeper env
  N := N
  s_0 := s
  H_0 := H
  env := env
  outer := outer
  stack := env :: outer
  ex := []
  calm := true
  fn := fun _ => false
  pn := []
  xe := fun e s' => wpAny (model P w) (A.deeper env) (leaving env e) (fun _ s'' => CX outer H s E e s'') (fun e' s'' => CX outer H s E e' s'') s'
theorem look_zip {y : Str} {u : Value} : ∀ {ps : List Str} {us : List Value} {i : Nat}, ps.Nodup → ps[i]? = some y → us[i]? = some u → (ps.zip us).reverse.lookup y = some u := by
  intro ps us i nd h1 h2
  have hm : (y, u) ∈ (ps.zip us).reverse := by
    rw [List.mem_reverse]
    exact List.mem_of_getElem? (i := i) (by rw [List.getElem?_zip_eq_some]; exact ⟨h1, h2⟩)
  have key : ∀ (l : List (Str × Value)), (∀ v, (y, v) ∈ l → v = u) → (y, u) ∈ l → l.lookup y = some u := by
    intro l
    induction l with
    | nil => intro _ h; cases h
    | cons p l ih =>
      obtain ⟨k, v⟩ := p
      intro hu h
      rw [List.lookup_cons]
      by_cases e : y = k
      · subst e
        rw [hu v List.mem_cons_self]; simp
      · have : (y == k) = false := by simpa using e
        rw [this]
        refine ih (fun v hv => hu v (List.mem_cons_of_mem _ hv)) ?_
        rcases List.mem_cons.mp h with h | h
        · cases h; exact absurd rfl e
        · exact h
  refine key _ (fun v hv => ?_) hm
  rw [List.mem_reverse] at hv
  obtain ⟨j, hj⟩ := List.mem_iff_getElem?.mp hv
  rw [List.getElem?_zip_eq_some] at hj
  have : j = i := by
    have a1 := (List.getElem?_eq_some_iff.mp hj.1).1
    have e : ps[j]? = ps[i]? := hj.1.trans h1.symm
    first
      | exact (List.getElem?_inj a1 nd).mp e
      | exact List.getElem?_inj a1 nd e
  subst this
  rw [h2] at hj
  exact (Option.some.inj hj.2).symm
theorem inv_startX {CX : CXT} {P : Program} {w : World} {K : PySem.W.Frag} {mg : Str → Option Value} {base : Heap} {N ps : List Str} {qual : Str} {scope : Scope} {f D cda cc : Addr} {A : Around} {outer : List Env} {s : Shared} {h1 : Heap} {tk : Nat} {H : Hp} {E : XK} {us : List Value} {vs : List V}
    (S : IniSc N ps scope) (hd : A.handled = none) (e0 : Env0 P w K mg base A outer s H) (hl : vs.length = ps.length) (r : Vals vs us) (hcc : ∃ cl cld csl, K.lookup cc = some ⟨cl, cld, .cell (some (.ref D)), csl⟩)
    (hns : h1.Ns s.heap.objs.size (fun x => (ps.zip us).reverse.lookup x)) (hk : ∀ b o, s.heap.get? b = some o → h1.get? b = some o) :
    Inv (cxX CX P w K mg base N (ksEnv qual scope s.heap.objs.size f (.ref cda) cc) A outer s H E) [] (L2.start N vs) H { s with heap := h1, toks := tk } := by
  obtain ⟨cl, cld, csl, hcc⟩ := hcc
  have noA : ∀ b : Addr, b ∉ (cxX CX P w K mg base N (ksEnv qual scope s.heap.objs.size f (.ref cda) cc) A outer s H E).ex := fun b z => absurd (show b ∈ ([] : List Addr) from z) (by simp)
  have cells : ∀ {y : Str} {c : Addr}, ([(("__class__" : Str), cc)] : List (Str × Addr)).lookup y = some c → y = "__class__" ∧ c = cc := fun {y c} h => by
    have := PySem.mem_of_lookup h
    rw [List.mem_singleton] at this
    cases this
    exact ⟨rfl, rfl⟩
  have ccb := e0.mod.kin _ _ hcc
  refine ⟨⟨e0.mod, S.kind, rfl, rfl, Nat.le_refl _, fun y z c h1 h2 => (cells h1).1.trans (cells h2).1.symm, fun y hy => ?_, fun y c h _ => (nomatch h), fun _ => hd, Around.frames_deeper e0.frames, .inr ⟨rfl, rfl⟩, fun b z => absurd z (noA b), e0.bs, e0.bsz, fun b _ _ => noA b, fun b z => absurd z (noA b), e0.funs, e0.frf⟩,
    rfl, e0.bare, Un.kept hk, ⟨_, hns, fun i y v h1 h2 h3 => ?_⟩, fun y c h => ?_, e0.hok.fresh (Nat.le_refl _), fun y c h => ?_, fun p hp => absurd (show p ∈ ([] : List (Addr × Obj)) from hp) (by simp), e0.hok.kept hk, ?_⟩
  · have hy : scope.names.lookup y = some .cell ∨ scope.names.lookup y = some .free := hy
    rcases hy with hy | hy
    · exact absurd rfl (S.nocell _ (PySem.mem_of_lookup hy))
    · have := S.free _ (PySem.mem_of_lookup hy) rfl
      have e : y = "__class__" := this
      subst e
      exact ⟨cc, by show ([(("__class__" : Str), cc)] : List (Str × Addr)).lookup ("__class__" : Str) = some cc; rw [List.lookup_cons]; simp⟩
  · have hi : i < vs.length := by
      unfold L2.start at h2
      by_cases hi : i < vs.length
      · exact hi
      · rw [List.getElem?_append_right (by simpa using hi)] at h2
        rw [List.getElem?_replicate] at h2
        split at h2 <;> cases h2
    have ha : vs[i]? = some v := by
      unfold L2.start at h2
      rw [List.getElem?_append_left (by simpa using hi), List.getElem?_map] at h2
      cases e : vs[i]? with
      | none => rw [e] at h2; cases h2
      | some a => rw [e] at h2; cases h2; rfl
    obtain ⟨u, hu, rv⟩ := r.get ha
    have hp : ps[i]? = some y := by rw [← S.eqN]; exact h1
    have ndP : ps.Nodup := by rw [← S.eqN]; exact S.nd
    exact ⟨u, rv, .inl ⟨S.par y (List.mem_of_getElem? hp), look_zip ndP hp hu⟩⟩
  · obtain ⟨_, rfl⟩ := cells h
    exact ⟨_, _, hk _ _ (e0.bs _ _ ccb).1, rfl⟩
  · obtain ⟨_, rfl⟩ := cells h
    exact (e0.bs _ _ ccb).2
  · unfold L2.start
    show _ = N.length
    rw [List.length_append, List.length_map, List.length_replicate, hl, S.eqN]
    omega
/-- the promise of such an __init__ with one field -/
def iniSp1 (K : PySem.W.Frag) (D : Addr) (f : Str) (okV : V → Prop) : Sp := fun vs H Q _ => ∃ (a : Addr) (y : V), vs = [.ref a, y] ∧ okV y ∧ OexC K D ∧ PySem.W.findIn K (.ref D) f = some none ∧ H a = some (exo a D none) ∧
  ∀ dx, H dx = none → dx ≠ a → Q .non (upd (upd H dx (exd dx [(f, y)])) a (exo a D (some dx)))
abbrev sf (f : Str) : List Str := [("self" : Str), f]
theorem init_fn1 {P : Program} {w : World} {K : PySem.W.Frag} {mg : Str → Option Value} {base : Heap} {k : Nat} {x qual f : Str} {st : Stmt} {D fI : Addr} {fd : FuncData} {msg : Expr} {p0 p1 p2 p3 p4 q1 q2 q3 q4 : Pos} {okV : V → Prop} {ar : Arg}
    (I : IniF P K x qual st D fI fd) (S : IniSc (sf f) (sf f) (defScope st)) (hmg : mg "super" = none)
    (hb : defBody st = [.Expr (.Call (.Attribute (.Call (.Name "super" p0) [] [] p1) "__init__" p2) [msg] [] p3) p4, .Assign [.Attribute (.Name "self" q1) f q2] (.Name f q3) q4])
    (hp : ((defArgs st).posonlyargs ++ (defArgs st).args).head? = some ar) (har : ar.arg = "self")
    {pl : Env → Sem Bool}
    (hcall : ∀ env : Env, eval (.Call (.Attribute (.Call (.Name "super" p0) [] [] p1) "__init__" p2) [msg] [] p3) env = (do
      let ov ← attributeBase (.Call (.Name "super" p0) [] [] p1) "__init__" env (eval (.Call (.Name "super" p0) [] [] p1) env)
      standAt p2.atName
      let (f, first) ← holding [ov] (getMethod ov "__init__" (pl env))
      callWith p3 f first (backTo p3 (starEach [msg] env)) []))
    (hstar : ∀ env : Env, starEach [msg] env = (false, eval msg env) :: starEach [] env)
    (hd1 : (f == ("__debug__" : Str)) = false) (hd2 : (f == ("__classdict__" : Str)) = false)
    (hmsg : ∀ (X : Cx), X.N = (sf f) → X.env.scope = defScope st → X.mg = mg → X.calm = true → (X.A.units + 64 < cLine) → ∃ ta, PA X [msg] ta ∧
      (backTo p3 (starEach [msg] X.env)).any (·.1) = false ∧
      ∀ (a : Addr) (y : V) (H : Hp) (Q : List V → Hp → Prop), okV y → (∀ us, us.length ≤ 1000 → Q us H) → ta (L2.start (sf f) [.ref a, y]) H Q) :
    FnOk P w K mg base (L2.CX P w) (k + 1) fI fd (sf f) (iniSp1 K D f okV) := by
  obtain ⟨oc, od, kV, doc, pm, an, cda, ct, osl, cc, rfl, lk, hcd, hcc, ccl, cdd, cvs, ccs, file, tf, lc, hvs, hfile⟩ := I.ex
  refine ⟨fun vs H Q E ⟨a, y, e, _⟩ => by rw [e]; rfl, fun A outer s H args us vs Q E hr e0 hbd r hsp => ?_⟩
  obtain ⟨a, y, rfl, oky, T, hno, ha, hq⟩ := hsp
  have KX : K.In s.heap := e0.mod.kin.keeps fun b o e => (e0.bs b o e).1
  have lim : s.heap.NoLimit := e0.mod.nolimit.keeps fun b o e => (e0.bs b o e).1
  refine ks_codeAny_call_defAt (body := defBody st) hr.depth (KX _ _ lk) rfl lim (PySem.W.codeRec_of KX hcd) rfl hbd S.nocell (fun z hz => S.par z.1 (List.of_mem_zip hz).1) (fun h₀ hns hk => ?_) S.co S.gen S.kind
  have J := inv_startX (CX := L2.CX P w) (qual := qual) (f := fI) (cda := cda) (tk := s.toks + ((sf f).zip us).length) (E := E) S hr.hd e0 (show ([V.ref a, y] : List V).length = (sf f).length from rfl) r hcc hns hk
  have KB : ∀ b o, K.lookup b = some o → s.heap.get? b = some o ∧ H b = none := fun b o e => e0.bs b o (e0.mod.kin b o e)
  have X0 : K.In h₀ := J.kIn
  obtain ⟨mb, hmb1, hmb2⟩ := e0.mod.blt
  have bk : ∀ b o, base.get? b = some o → h₀.get? b = some o := J.bk
  obtain ⟨cl, cld, csl, hcc⟩ := hcc
  have hr' : ∃ u1, us = [.ref a, u1] ∧ RelV y u1 := by
    cases r with
    | cons r1 r2 =>
      cases r2 with
      | cons r3 r4 =>
        cases r4
        cases r1
        exact ⟨_, rfl, r3⟩
  obtain ⟨u1, rfl, ry⟩ := hr'
  have hcls : ∃ oD cdD, K.lookup D = some oD ∧ oD.data = .cls cdD ∧ PySem.W.clsIn K D = some cdD := by
    obtain ⟨nm, q, N, bs, bm, sn, sub, ab, col, dd, k0, k1, k2, k3, k5, hC, hbm⟩ := T.cls
    exact ⟨_, _, hC, rfl, by unfold PySem.W.clsIn; rw [hC] <;> rfl⟩
  obtain ⟨oD, cdD, hD1, hD2, hD3⟩ := hcls
  obtain ⟨t1, hex⟩ := exo_at J.hok ha
  have naD : a ≠ D := fun z => by
    have := (KB _ _ hD1).2
    rw [← z, ha] at this
    cases this
  let env : Env := ksEnv qual (defScope st) s.heap.objs.size fI (.ref cda) cc
  show PySem.wpAt (model P w) (A.deeper env) (.func (defBody st) env) (execs (defBody st) env) _ _ _
  rw [hb]
  refine ks_wpAt_execs_cons (ks_wpAt_Expr_any (ks_wpAt_MethodCall (ks_wpAt_super_base (env := env) (ar := ar) S.sup S.cls (by decide) rfl (X0 _ _ lk) rfl hp rfl (X0 _ _ lc) rfl hvs hfile I.top ?_) (hcall env)) (hi := by unfold interactive; rw [show env.scope.kind = .function from S.kind]; rfl))
  refine ks_loadName_global S.kind S.sup (PySem.Calls.loadGlobal_builtin (env := env) (e0.mod.glob.keeps bk) hmg (hmb1.keeps bk) ((hmb2 _ (by decide +kernel)).trans (show bootBuiltins "super" = some (.type "super") by first | rfl | decide +kernel)) ⟨rfl, ?_⟩)
  refine wpAny_loadName_free S.kind S.cls (show env.cells.lookup ("__class__" : Str) = some cc by show ([(("__class__" : Str), cc)] : List (Str × Addr)).lookup ("__class__" : Str) = some cc; rw [List.lookup_cons]; simp) ⟨_, X0 _ _ hcc, rfl⟩ ?_
  refine wpAny_loadName_local S.kind (show env.kindOf ar.arg = some .local by rw [har]; exact S.par _ List.mem_cons_self) hns (show ((sf f).zip [Value.ref a, u1]).reverse.lookup ar.arg = some (.ref a) by rw [har]; exact look_zip (i := 0) S.nd rfl rfl) ?_
  refine ks_wpAny_isType_cls (X0 _ _ hD1) hD2 ⟨rfl, ?_⟩
  refine ks_wpAny_call_super (X0 _ _ hD1) hD2 hex rfl (fun c e => by cases e) (PySem.W.looks_mroIn X0 I.mro) (fun h' e k1 => ?_)
  have hsz : h'.get? h₀.objs.size = some (ks_superObj D a D) := e
  have X1 : K.In h' := X0.keeps k1
  refine wpAny_mono (Q := fun fx s' => fx = (.ref h'.objs.size, []) ∧ s' = ⟨h'.push (kxs_mw "ValueError.__init__" a), s.gens, s.drawn, s.toks + ((sf f).zip [Value.ref a, u1]).length + 1, s.os⟩) (E := fun _ _ => False)
    (kxs_getMethod kxs_ValueError hsz (looks_opaque X1 I.opq) (l₀ := cdD.mro) (fun A Q E s k q => wpAny_bind ((looks_clsIn X1 hD3) A _ E s k (wpAny_pure q))) rfl X1
      (show alongIn K "__init__" ((cdD.mro.dropWhile (· != .ref D)).drop 1) = some (some (.builtin "ValueError.__init__")) by
        have := I.sup
        unfold PySem.W.ks_superIn at this
        rw [hD3] at this
        exact this)
      (Looks.andThen (fun A Q E s k q => wpAny_typeOf_ref (k _ _ (k1 _ _ hex)) q) (looks_subIn X1 I.sub)) naD (by decide) ⟨rfl, rfl⟩) (fun fx s' hfx => ?_) fun _ _ z => z.elim
  obtain ⟨rfl, rfl⟩ := hfx
  have kk : ∀ b o, h₀.get? b = some o → (h'.push (kxs_mw "ValueError.__init__" a)).get? b = some o := fun b o q => Heap.get?_push_of_some _ (k1 b o q)
  have hu : (h'.push (kxs_mw "ValueError.__init__" a)).get? h'.objs.size = some (kxs_mw "ValueError.__init__" a) := Heap.get?_push_at rfl rfl
  have szu : h₀.objs.size ≤ h'.objs.size := Nat.le_of_lt (Nat.lt_of_le_of_lt (Nat.le_refl _) (Heap.lt_size hsz))
  have nu : H h'.objs.size = none := J.hok.fresh szu
  have J1 := J.un (h' := h'.push (kxs_mw "ValueError.__init__" a)) (t' := s.toks + ((sf f).zip [Value.ref a, u1]).length + 1) (Un.kept kk) (J.hok.kept kk)
  have J2 : Inv (cxX (L2.CX P w) P w K mg base (sf f) env A outer s H E) [(h'.objs.size, kxs_mw "ValueError.__init__" a)] (L2.start (sf f) [.ref a, y]) H ⟨h'.push (kxs_mw "ValueError.__init__" a), s.gens, s.drawn, s.toks + ((sf f).zip [Value.ref a, u1]).length + 1, s.os⟩ := by
    refine { J1 with pin := fun p hp => ?_ }
    have hp : p ∈ [(h'.objs.size, kxs_mw "ValueError.__init__" a)] := hp
    rw [List.mem_singleton] at hp
    subst hp
    exact ⟨hu, nu, Nat.ne_of_gt (Nat.lt_of_lt_of_le J.lt szu), J.nofs szu, fun v z => by cases z⟩
  obtain ⟨ta, hta, hpl, htr⟩ := hmsg (cxX (L2.CX P w) P w K mg base (sf f) env A outer s H E) rfl rfl rfl rfl (show (A.deeper env).units + 64 < cLine by have := hr.un; show A.units + 3 + 64 < cLine; omega)
  have hs := hstar env
  have hpl : (backTo p3 (starEach [msg] env)).any (·.1) = false := hpl
  show wpAny (model P w) (A.deeper env) (callWith p3 (.ref h'.objs.size) [] (backTo p3 (starEach [msg] env)) []) _ _ _
  have run := hta.run p3 [(h'.objs.size, kxs_mw "ValueError.__init__" a)] _ _ H (fun us H1 => us.length ≤ 1000 ∧ H1 = H) J2 (htr a y H _ oky fun us hz => ⟨hz, rfl⟩)
  have run : wpAny (model P w) (A.deeper env) (spliced (backTo p3 (starEach [msg] env))) _ _ _ := run
  rw [hs] at run hpl ⊢
  refine kxs_callWith (i := "ValueError.__init__") (x := a) hpl (PySem.Calls.evalArgs_plain (wpAny_mono run (fun us' s1 hx => ?_) fun _ _ z => z))
  obtain ⟨vs', H1, I1, r1, hz, rfl⟩ := hx
  have hu1 := (I1.pin (h'.objs.size, kxs_mw "ValueError.__init__" a) (List.mem_append.mpr (.inr List.mem_cons_self))).1
  refine ⟨hu1, ?_⟩
  obtain ⟨t2, he1⟩ := exo_at I1.hok ha
  have hz' : us'.length ≤ sizeLine := by rw [← Paired.length r1, sizeLine_eq]; omega
  show wpAny (model P w) (A.deeper env) (call (.ref h'.objs.size) us') _ _ _
  refine call_sup T I1.kIn he1 hu1 hz' fun h2 t3 k2 hx2 => ?_
  have J3 := I1.write (t' := s1.toks) (x := a) (e := a) (o := exo a D none) (by rw [ha]; exact True.intro) (.inl rfl) k2 ⟨_, hx2⟩ (exo_ok hx2)
  have eu : upd H1 a (exo a D none) = H1 := by
    funext b
    by_cases hb : b = a
    · rw [hb, upd_same, ha]
    · rw [upd_ne hb]
  rw [eu] at J3
  have J4 : Inv (cxX (L2.CX P w) P w K mg base (sf f) env A outer s H1 E) [] (L2.start (sf f) [.ref a, y]) H1 { s1 with heap := h2 } := { J3 with pin := fun p hp => absurd (show p ∈ ([] : List (Addr × Obj)) from hp) (by simp) }
  have vis0 : Vis (defScope st) ("self" : Str) := .inl (S.par _ List.mem_cons_self)
  have vis1 : Vis (defScope st) f := .inl (S.par _ (List.mem_cons_of_mem _ List.mem_cons_self))
  have ho : PE (cxX (L2.CX P w) P w K mg base (sf f) env A outer s H1 E) (.Name "self" q1) (tVar 0) := pe_var (X := cxX (L2.CX P w) P w K mg base (sf f) env A outer s H1 E) rfl vis0 (by decide) (by decide)
  have hv : PE (cxX (L2.CX P w) P w K mg base (sf f) env A outer s H1 E) (.Name f q3) (tVar 1) := pe_var (X := cxX (L2.CX P w) P w K mg base (sf f) env A outer s H1 E) rfl vis1 hd1 hd2
  have PS1 := pss_cons (ps_ost (f := f) (p' := q2) (pos := q4) ho hv) pss_nil
  refine wpAt_of_wpAny (wpAny_mono (PS1.run [] _ _ _ { nx := fun _ H' => Q .non H', rt := Q } J4 ?_) (fun fl s' hs => ?_) fun _ _ z => z)
  · refine ⟨y, rfl, .ref a, rfl, a, D, rfl, T, hno, .inl ⟨ha, fun dx n ne => hq dx n ne⟩⟩
  · have fin : ∀ {σ' : L2.St} {H' : Hp} {v : V} {u : Value}, Inv (cxX (L2.CX P w) P w K mg base (sf f) env A outer s H1 E) [] σ' H' s' → RelV v u → Q v H' → CE outer P w H1 s Q u s' :=
      fun {σ' H' v u} J rv q => ⟨v, H', J.os, J.bare, J.base, J.hok, rv, q⟩
    cases fl with
    | ret u =>
      obtain ⟨v, σ', H', J, rv, q⟩ := hs
      exact fin J rv q
    | next =>
      obtain ⟨σ', H', J, q⟩ := hs
      exact fin (v := V.non) (u := Value.none) J rfl q
    | brk =>
      obtain ⟨_, _, _, q⟩ := hs
      exact False.elim q
    | cont =>
      obtain ⟨_, _, _, q⟩ := hs
      exact False.elim q
end TK

set_option maxRecDepth 100000
set_option maxHeartbeats 8000000
namespace TK
open PySem PySem.Spec PySem.W PySem.Calls PyProof.Rows L2
/-! ### isinstance of a caught error that has fields -/
section
variable {prog : Program} {w : World} {A : Around} {E : Value → Shared → Prop} {s : Shared} {K : PySem.W.Frag} {x D : Addr} {ox : Obj} {od : Option Obj}
theorem exClass (T : ExcC K D) (X : K.In s.heap) (I : InstAt s.heap x ox D od) {Q : Option Value → Shared → Prop} (h : Q (some (.ref D)) { s with toks := s.toks + 1 }) : wpAny (model prog w) A (getAttr? (.ref x) "__class__") Q E s := by
  have hf : findObj K D od "__class__" = some (.bind (.builtin "getset_descriptor.__get__") (.builtin "object.__class__")) := by
    obtain ⟨cd, hc, _⟩ := any_some T.hd
    unfold findObj
    rw [hc, Option.bind_some, T.ha, Option.bind_some]
    simp [T.hn, T.ht]
  obtain ⟨hp, g, d, t, os⟩ := s
  have L0 := I.type (M := model prog w)
  have L1 := looks_findIn (M := model prog w) X T.hg
  have L2 := looks_findIn (M := model prog w) X T.hk
  have L3 := looks_find (M := model prog w) X I hf
  have sub : Looks (model prog w) hp (isInstance (.ref x) (.type "BaseException")) true := L0.andThen (looks_subIn X T.hs)
  have hx0 : (false && onTheHeap (Value.builtin "BaseException.__getattribute__")) = false := rfl
  have hx2 : (Value.builtin "BaseException.__getattribute__" == Value.builtin "object.__getattribute__") = false := by decide +kernel
  have hx1 : (onTheHeap (Value.ref D) && Value.builtin "BaseException.__getattribute__" == Value.builtin "object.__getattribute__") = false := by rw [hx2]; rfl
  unfold getAttr? getAttrBy? getAttrBy
  refine wpAny_bind (wpAny_mkText (wpAny_bind (wpAny_attempt (wpAny_holding (wpAny_bind (L0.at (wpAny_bind (L1.at ?_))))))))
  show wpAny _ _ (if (onTheHeap (Value.ref D) && Value.builtin "BaseException.__getattribute__" == Value.builtin "object.__getattribute__") = true then _ else _) _ _ _
  rw [hx1, if_neg Bool.false_ne_true]
  unfold getAttrByItsOwn hookBefore
  refine wpAny_bind ?_
  rw [if_pos (show onTheHeap (Value.ref D) = true from rfl)]
  refine L2.at ?_
  refine wpAny_bind (wpAny_attempt (wpAny_holding ?_))
  unfold callGetattribute
  rw [hx0, if_neg Bool.false_ne_true]
  unfold boundAndCalled
  rw [PySem.F.excAttr_ValueError.ga.bind (.ref x)]
  refine wpAny_bind (wpAny_pure ?_)
  show wpAny _ _ (call (.builtin "BaseException.__getattribute__") [.ref x, .str "__class__" t]) _ _ _
  refine wpAny_call (codeAny_call_builtin PySem.F.excAttr_ValueError.ga.plain PySem.F.entry_bexc_ga ?_)
  refine @check_slot (model prog w) _ _ ⟨hp, g, d, t + 1, os⟩ "BaseException.__getattribute__" "BaseException" "__getattribute__" (.ref x) [.str "__class__" t] [] _ (by decide +kernel) (by decide +kernel) sub (PySem.F.args_bexc_ga (.ref x) (.str "__class__" t)) ?_
  unfold Builtin.«object.__getattribute__»
  refine wpAny_bind (wpAny_of_eq (a := ((Value.ref x : Value), [Value.str "__class__" t])) (by first | rfl | (simp only [slotArgs]; rfl)) ?_)
  refine wpAny_bind (wpAny_pure (wpAny_bind (L0.at (wpAny_bind (L3.at ?_)))))
  show wpAny _ _ (holding [Value.builtin "object.__class__"] (call (.builtin "getset_descriptor.__get__") [.builtin "object.__class__", .ref x, .ref D]) >>= ret) _ _ _
  refine wpAny_bind (wpAny_holding (wpAny_call (class_get (s := ⟨hp, g, d, t + 1, os⟩) (ox := ox) (od := od) X I T.hm ?_)))
  refine wpAny_pure ?_
  show wpAny _ _ (handedOut (.ref D)) _ _ _
  rw [handedOut_of (v := .ref D) rfl]
  first
    | exact wpAny_pure (wpAny_pure h)
    | exact wpAny_pure h
    | exact wpAny_pure (wpAny_bind (wpAny_pure (wpAny_pure h)))
theorem exKit (T : ExcC K D) : KitX K (.ref x) (.ref D) (fun h => ∃ ox od, InstAt h x ox D od) where
  ty := fun _ _ _ ⟨_, _, I⟩ => I.type
  it := fun _ _ X _ => by
    obtain ⟨cdD, hcD, _⟩ := any_some T.hd
    unfold clsIn at hcD
    split at hcD
    · rename_i c' d' cd' sl' ho
      intro A' Q' E' s' k q
      unfold isType loadHead
      exact wpAny_bind (wpAny_loadPart (k _ _ (X _ _ ho)) (wpAny_pure q))
    · cases hcD
  ne := fun h tp dd its n sl X htp => by
    obtain ⟨cdD, hcD, _⟩ := any_some T.hd
    refine Bool.eq_false_iff.mpr fun q => ?_
    have e : D = tp := Value.ref.inj (beq_iff_eq.mp q)
    subst e
    unfold clsIn at hcD
    split at hcD
    · rename_i c' d' cd' sl' ho
      have z := (X _ _ ho).symm.trans htp
      cases z
    · cases hcD
  ca := fun X I k => by
    obtain ⟨_, _, I⟩ := I
    exact exClass T X I k
end
theorem call_isD {X : Cx} {a D dx : Addr} {oe : Obj} {pn : List (Addr × Obj)} (C : ExcC X.K D) (hz : Zc (.ref D) (some dx) oe) (hf : ∃ vs, oe.data = .fields vs) :
    CallR (X.suite a ((a, oe) :: pn)) (.builtin "isinstance") (fun xs H Q => (∃ fs, H dx = some (.xd fs)) ∧ rIsE X.K D a xs H Q) := by
  intro pins s σ H xs us Q I r ⟨⟨fs, hd⟩, h⟩
  obtain ⟨c, cv, b, rfl, hcv, e, q⟩ := h
  cases r with
  | cons rx rr =>
    cases rr with
    | cons rt rr =>
      cases rr
      cases rx
      have ec := hcv _ rt
      subst ec
      obtain ⟨hget, _⟩ := I.pin (a, oe) (List.mem_append.mpr (.inl List.mem_cons_self))
      obtain ⟨vs, hv⟩ := hf
      obtain ⟨u, hu⟩ := objOk_get (I.hok dx _ hd)
      have J : PySem.W.InstAt s.heap a oe D (some u) := by
        obtain ⟨oc, odd, oda, osl⟩ := oe
        obtain ⟨h1, h2⟩ := hz
        dsimp only at h1 h2 hv
        subst h1 h2 hv
        exact ⟨hget, rfl, rfl, hu⟩
      exact PySem.W.kia_one (exKit C) I.kIn ⟨_, _, J⟩ e (fun z => nomatch z) fun tk => ⟨.bl b, H, I.kept (t' := tk) fun _ _ z => z, rfl, q⟩
/-! ### _law_same asked of two alike ones within a suite -/
def sameSp : Sp := fun vs H Q _ => ∃ v, vs = [v, v] ∧ ((∃ x : Str, v = .str x ∧ (reprText x).length ≤ sizeLine) ∨ ∃ i : Int, v = .int i ∧ i.natAbs.log2 < 1920) ∧ Q (.bl true) H
theorem call_reprX {X : Cx} : CallR X (.builtin "repr") (fun xs H Q => ∃ v, xs = [v] ∧ ((∃ x : Str, v = .str x ∧ (reprText x).length ≤ sizeLine ∧ Q (.str (reprText x)) H) ∨ ∃ i : Int, v = .int i ∧ i.natAbs.log2 < 1920 ∧ Q (.str (toString i)) H)) := by
  intro pins s σ H xs us Q I r h
  obtain ⟨v, rfl, h⟩ := h
  obtain ⟨u, rfl, ru⟩ := vals1 r
  rcases h with ⟨x, rfl, hz, q⟩ | ⟨i, rfl, hz, q⟩
  · obtain ⟨t, rfl⟩ := ru
    exact PySem.P.repr_of_str (hsz := hz) ⟨.str _, H, I.tok _, ⟨_, rfl⟩, q⟩
  · obtain ⟨t, rfl⟩ := ru
    exact PySem.P.repr_of_int hz ⟨.str _, H, I.tok _, ⟨_, rfl⟩, q⟩
abbrev vd : List Str := ["value", "due"]
/-- a def that lets nothing out, run wherever an error may be handled -/
def FnA (P : Program) (w : World) (K : PySem.W.Frag) (mg : Str → Option Value) (base : Heap) (k : Nat) (f : Addr) (fd : FuncData) (ps : List Str) (sp : Sp) : Prop :=
  ∀ (A : Around) (outer : List Env) (s : Shared) (H : Hp) (args : Args) (us : List Value) (vs : List V) (Q : VK) (p : Addr × Obj), L2H.RoomH k A → L2H.PinOk outer H s p → Env0 P w K mg base A outer s H → BindsTo s fd args (ps.zip us) → Vals vs us → sp vs H Q E0 →
    codeAny (model P w) A (.call (.ref f) args) (CR CX0 outer P w H s Q E0) s
theorem same_A {P : Program} {w : World} {K : PySem.W.Frag} {mg : Str → Option Value} {base : Heap} {f : Addr} {fd : FuncData} {st : Stmt} (F : L2.Fun K "_law_same" "_law_same" st f fd) (S : FnScope vd vd (defScope st)) (hm : mg "repr" = none)
    (hb : ∃ p1 p2 p3 p4 p5 p6 p7 p8, defBody st = [.Return (some (.Compare (.Call (.Name "repr" p1) [.Name "value" p2] [] p3) [.Eq] [.Call (.Name "repr" p4) [.Name "due" p5] [] p6] p7)) p8])
    (hg : (defScope st).names.lookup ("repr" : Str) = some .globalImplicit) (l1 : (defScope st).names.lookup ("value" : Str) = some .local) (l2 : (defScope st).names.lookup ("due" : Str) = some .local) : FnA P w K mg base 1 f fd vd sameSp := by
  obtain ⟨oc, od, kV, doc, pm, an, cdv, ct, osl, rfl, lk, hcd⟩ := F.ex
  obtain ⟨p1, p2, p3, p4, p5, p6, p7, p8, hb⟩ := hb
  intro A outer s H args us vs Q p hr hpin e0 hbd r hsp
  obtain ⟨v, rfl, hv, q⟩ := hsp
  have KX : K.In s.heap := e0.mod.kin.keeps fun b o e => (e0.bs b o e).1
  have lim : s.heap.NoLimit := e0.mod.nolimit.keeps fun b o e => (e0.bs b o e).1
  have hkind : ∀ y ∈ vd.zip us, (defScope st).names.lookup y.1 = some .local ∨ ((defScope st).names.lookup y.1 = some .cell ∧ ((cellsFrom (s.heap.objs.size + 1) (defScope st).names []).lookup y.1).isSome = true) := fun ⟨n, v⟩ hy => by
    rcases S.par n (List.of_mem_zip hy).1 with q | q
    · exact .inl q
    · exact .inr ⟨q, PySem.W.cellsFrom_some _ _ _ (.inl q)⟩
  refine codeAny_call_function hr.depth (KX _ _ lk) rfl S.co S.gen rfl (PySem.W.codeRec_of KX hcd) (hbd _ _ _ _ ?_)
  refine wpAny_newFunctionEnv_cells S.kind hkind fun env he s1 x => ?_
  subst he
  refine ⟨lim.keeps x.toInCall.keep, codeAny_func ?_⟩
  rw [hb]
  let X := L2H.cxH CX0 P w K mg base vd "_law_same" (defScope st) f cdv A outer s H E0 p
  have Gr : Gl X "repr" := by
    first
      | exact hg
      | exact .inl hg
      | exact .inr hg
  have e1 : PE X (.Name "value" p2) (tVar 0) := pe_var (X := X) rfl (.inl l1) (by decide) (by decide)
  have e2 : PE X (.Name "due" p5) (tVar 1) := pe_var (X := X) rfl (.inl l2) (by decide) (by decide)
  have c1 := pe_callB (X := X) (p := p1) (pos := p3) call_reprX Gr hm (show bootBuiltins "repr" = some (.builtin "repr") by first | rfl | decide +kernel) (pa_cons e1 pa_nil)
  have c2 := pe_callB (X := X) (p := p4) (pos := p6) call_reprX Gr hm (show bootBuiltins "repr" = some (.builtin "repr") by first | rfl | decide +kernel) (pa_cons e2 pa_nil)
  have ht := pss_cons (ps_ret (pos := p8) (pe_cmpR (pos := p7) op_eq c1 c2 rfl)) pss_nil
  have I : Inv X [] (L2.start vd [v, v]) H s1 := L2H.inv_startH S hpin e0 rfl r x
  have fin1 : ∀ x : Str, rEq (.str x) (.str x) H Q := fun x => ⟨rfl, by simpa using q⟩
  refine wpAny_mono (ht.run [] s1 _ H { nx := fun _ H' => Q .non H', rt := Q } I ?_) (fun fl s' hs => ?_) fun e s' hs => hs
  · rcases hv with ⟨x, rfl, hz⟩ | ⟨i, rfl, hz⟩
    · exact ⟨_, rfl, .str x, rfl, .inl ⟨x, rfl, hz, _, rfl, .str x, rfl, .inl ⟨x, rfl, hz, fin1 _⟩⟩⟩
    · exact ⟨_, rfl, .int i, rfl, .inr ⟨i, rfl, hz, _, rfl, .int i, rfl, .inr ⟨i, rfl, hz, fin1 _⟩⟩⟩
  have fin : ∀ {σ' : L2.St} {H' : Hp} {v : V} {u : Value}, Inv X [] σ' H' s' → RelV v u → Q v H' → CE outer P w H s Q u s' :=
    fun {σ' H' v u} J rv q => ⟨v, H', J.os, J.bare, J.base, J.hok, rv, q⟩
  cases fl with
  | ret u =>
    obtain ⟨v, σ', H', J, rv, q⟩ := hs
    exact fin J rv q
  | next =>
    obtain ⟨σ', H', J, q⟩ := hs
    exact fin (v := V.non) (u := Value.none) J rfl q
  | brk =>
    obtain ⟨_, _, _, q⟩ := hs
    exact False.elim q
  | cont =>
    obtain ⟨_, _, _, q⟩ := hs
    exact False.elim q
/-- such a def called within a suite -/
theorem pe_callA {X : Cx} {k : Nat} {f a : Addr} {oe : Obj} {pn : List (Addr × Obj)} {fd : FuncData} {ps : List Str} {sp : Sp} {x : Str} {q pos : Pos} {e : Expr} {es : List Expr} {t : TA} (F : FnA X.prog X.w X.K X.mg X.base k f fd ps sp) (hr : L2H.RoomH k X.A)
    (hlen : ∀ vs H Q E, sp vs H Q E → vs.length = ps.length) (hg : Gl X x) (hm : X.mg x = some (.ref f)) (hk : PySem.W.keepIn X.K (.ref f) = true) (hb : Binds X.K fd ps [])
    (ha : PA (X.suite a ((a, oe) :: pn)) (e :: es) t) (hdb : (x == ("__debug__" : Str)) = false) (he : starEach (e :: es) X.env = (false, eval e X.env) :: starEach es X.env) (hpl : (backTo pos (starEach es X.env)).any (·.1) = false) :
    PE (X.suite a ((a, oe) :: pn)) (.Call (.Name x q) (e :: es) [] pos) (fun σ H Q => t σ H fun vs H1 => sp vs H1 Q E0) := by
  refine ⟨fun pins s σ H Q I h => ?_⟩
  refine wpAny_Call_Name_kw (ld_glob (X := X.suite a ((a, oe) :: pn)) I hg hm ?_ hdb)
  refine PySem.W.callWith_K (h₀ := X.base) I.ok.mod.kin hk (thn (ha.run pos pins s σ H _ I h) fun us s1 ⟨vs, H1, I1, r, q⟩ => ⟨I1.kIn, ?_⟩) he hpl
  have hl : us.length = ps.length := by rw [← r.length]; exact hlen _ _ _ _ q
  have b := hb s1 us I1.kIn (by rw [List.append_nil]; exact hl)
  rw [List.append_nil] at b
  have P1 := I1.pin (a, oe) (List.mem_append_left _ List.mem_cons_self)
  have hpin : L2H.PinOk X.stack H1 s1 (a, oe) := ⟨P1.1, P1.2.1, fun hm => (List.mem_cons.mp (I1.stkSub a hm)).elim P1.2.2.1 P1.2.2.2.1, P1.2.2.2.2⟩
  refine wpAny_call (codeAny_mono (F _ X.stack s1 H1 ⟨us, []⟩ us vs Q (a, oe) ⟨hr.dp, hr.un⟩ hpin I1.env0 b r q) fun r s' hq => ?_)
  cases r with
  | error e => exact (show False from hq).elim
  | ok fl =>
    cases fl with
    | ret u => exact I1.after hq
    | next => exact False.elim hq
    | brk => exact False.elim hq
    | cont => exact False.elim hq
end TK

set_option maxRecDepth 100000
set_option maxHeartbeats 8000000
namespace TK
open PySem PySem.Spec PyProof.Rows L2
/-! ### what a term asks of the errors' classes -/
structure ClsRd (K : PySem.W.Frag) (C : Addr) : Prop where
  xf : XfC K C
  ec : ExcC K C
  no : ∀ f ∈ fldNames, PySem.W.findIn K (.ref C) f = some none
def okV (c : Str) (y : V) : Prop := match y with
  | .str x => c = ("BadValue" : Str) ∧ x.length ≤ 1000
  | _ => False
def HasX (Γ : Wd) (k : Nat) : Nat → Str → Prop
  | 0, c => 2 ≤ k ∧ ∃ (C fI : Addr) (fd : FuncData), Γ.mg c = some (.ref C) ∧ OexC Γ.K C ∧ PySem.W.findIn Γ.K (.ref C) "__init__" = some (some (.ref fI)) ∧ PySem.W.typeIn Γ.K (.ref fI) = some (.type "function") ∧ Binds Γ.K fd (sf (fldOf c)) [] ∧
      PySem.W.findIn Γ.K (.ref C) (fldOf c) = some none ∧ FnOk Γ.P Γ.w Γ.K Γ.mg Γ.base (L2.CX Γ.P Γ.w) 1 fI fd (sf (fldOf c)) (iniSp1 Γ.K C (fldOf c) (okV c))
  | 1, d => ∃ D : Addr, Γ.mg d = some (.ref D) ∧ ∀ c ∈ excNames, ∀ C : Addr, Γ.mg c = some (.ref C) → PySem.W.exmOne Γ.K (.ref C) (.ref D) = some (subC c d) ∧ ClsRd Γ.K C
  | 2, d => ∃ (u : Value) (y : V), (Γ.mg d = some u ∨ (Γ.mg d = none ∧ bootBuiltins d = some u ∧ d ≠ "__name__")) ∧ RelV y u ∧ (∀ u', RelV y u' → u' = u) ∧
      ∀ c ∈ excNames, ∀ C : Addr, Γ.mg c = some (.ref C) → PySem.W.kitOne Γ.K (.ref C) u = some (subC c d)
  | 3, g => 1 ≤ k ∧ ∃ (fa : Addr) (fd : FuncData), Γ.mg g = some (.ref fa) ∧ PySem.W.keepIn Γ.K (.ref fa) = true ∧ Binds Γ.K fd vd [] ∧ FnA Γ.P Γ.w Γ.K Γ.mg Γ.base 1 fa fd vd sameSp
  | _, _ => False
theorem HasX.mono {Γ : Wd} {j k i : Nat} {c : Str} (h : HasX Γ j i c) (hk : j ≤ k) : HasX Γ k i c := by
  unfold HasX at h ⊢
  split at h
  · exact ⟨Nat.le_trans h.1 hk, h.2⟩
  · exact h
  · exact h
  · exact ⟨Nat.le_trans h.1 hk, h.2⟩
  · exact h
abbrev pxX (X : Cx) (k : Nat) : Nat → Str → Prop := HasX (wdX X) k
theorem ExRep.ext {K : PySem.W.Frag} {mg : Str → Option Value} {H H' : Hp} {F F' : FS} {e : Exn} {cls : Value} {d : Option Addr} (h : ExRep K mg H F e cls d) (x : Ext F H F' H') : ExRep K mg H' F' e cls d := by
  obtain ⟨C, h1, h2, dx, fs, h3, h4, h5⟩ := h
  exact ⟨C, h1, h2, dx, fs, h3, x.kp _ _ h4 (.inr trivial), fun n v e => let ⟨y, a, b⟩ := h5 n v e; ⟨y, a, b.ext x⟩⟩
/-- a suite's term, read: the error is that of slot i -/
structure SuR (K : PySem.W.Frag) (mg : Str → Option Value) (cls : Value) (d : Option Addr) (i : Nat) (a : Addr) (σ : L2.St) (H : Hp) (F : FS) (τ : Sl) (st : Store) (e : Exn) : Prop where
  rs : RS K H F st
  sl : RSl K H F τ σ
  at_ : σ[i]? = some (some (.ref a))
  mem : e.1 ∈ excNames
  rep : ExRep K mg H F e cls d
theorem SuR.ext {K : PySem.W.Frag} {mg : Str → Option Value} {cls : Value} {d : Option Addr} {i : Nat} {a : Addr} {σ : L2.St} {H H' : Hp} {F F' : FS} {τ : Sl} {st : Store} {e : Exn} (h : SuR K mg cls d i a σ H F τ st e) (x : Ext F H F' H') (rs : RS K H' F' st) : SuR K mg cls d i a σ H' F' τ st e :=
  ⟨rs, h.sl.ext x, h.at_, h.mem, h.rep.ext x⟩
def tlX (X : Cx) (cls : Value) (d : Option Addr) (i : Nat) (a : Addr) (w : Exn → Sl → (PV → Prop) → Prop) : TE := fun σ H Q => ∃ F τ st e, SuR X.K X.mg cls d i a σ H F τ st e ∧ w e τ fun v => LQ X.K F H Q v st
def tlXs (X : Cx) (cls : Value) (d : Option Addr) (i : Nat) (a : Addr) (w : Exn → Sl → (List PV → Prop) → Prop) : TA := fun σ H Q => ∃ F τ st e, SuR X.K X.mg cls d i a σ H F τ st e ∧ w e τ fun vs => ∀ F' H' ys, Ext F H F' H' → RS X.K H' F' st → DVs X.K H' F' vs ys → Q ys H'
def tlXt (X : Cx) (cls : Value) (d : Option Addr) (i : Nat) (a : Addr) (w : Exn → Sl → (Bool → Prop) → Prop) : TT := fun σ H Q => ∃ F τ st e, SuR X.K X.mg cls d i a σ H F τ st e ∧ w e τ fun b => ∀ F' H', Ext F H F' H' → RS X.K H' F' st → Q b H'
section
variable {X : Cx} {C : SC} {k i : Nat} {W : WX} {n : Str} {a Cc dx : Addr} {oe : Obj} {pn : List (Addr × Obj)}
theorem tlX_go {σ : L2.St} {H0 H : Hp} {F0 F : FS} {τ : Sl} {st : Store} {e : Exn} {Q1 : VK} {K0 : PV → Prop} (x : XE) (e0 : Ext F0 H0 F H) (su : SuR X.K X.mg (.ref Cc) (some dx) i a σ H F τ st e) (h : wpX x e τ K0)
    (nn : ∀ F1 H1 y v, Ext F H F1 H1 → SuR X.K X.mg (.ref Cc) (some dx) i a σ H1 F1 τ st e → DV X.K H1 F1 v y → K0 v → Q1 y H1) : tlX X (.ref Cc) (some dx) i a (wpX x) σ H Q1 :=
  ⟨F, τ, st, e, su, wpX_mono x (fun v hk F1 H1 y x1 rs1 d1 => nn F1 H1 y v x1 (su.ext x1 rs1) d1 hk) h⟩
/-- what the suite stands in -/
structure SuOk (X : Cx) (C : SC) (k : Nat) (W : WX) (n : Str) (i : Nat) (a Cc dx : Addr) (oe : Obj) (pn : List (Addr × Obj)) : Prop where
  ok : CxOk X C k W
  hi : C.N[i]? = some n
  hl : C.sc.names.lookup n = some .local
  zn : Zc (.ref Cc) (some dx) oe
  hf : ∃ vs, oe.data = .fields vs
  cls : ClsRd X.K Cc
theorem su_var (s : SuOk X C k W n i a Cc dx oe pn) {p : Pos} (h1 : (n == ("__debug__" : Str)) = false) (h2 : (n == ("__classdict__" : Str)) = false) : PE (X.suite a ((a, oe) :: pn)) (.Name n p) (tVar i) :=
  pe_var (X := X.suite a ((a, oe) :: pn)) (by show X.N[i]? = some n; rw [s.ok.hN]; exact s.hi) (by show Vis X.env.scope n; rw [s.ok.hsc]; exact .inl s.hl) h1 h2
theorem pe_nmX {X' : Cx} {d : Str} {u : Value} {y : V} {p : Pos} (hg : Gl X' d) (hd : (d == ("__debug__" : Str)) = false) (h : X'.mg d = some u ∨ (X'.mg d = none ∧ bootBuiltins d = some u ∧ d ≠ "__name__")) (r : RelV y u) : PE X' (.Name d p) (tC y) := by
  rcases h with h | ⟨h1, h2, h3⟩
  · exact pe_glob hg h r hd
  · exact pe_bltn hg h1 h2 r h3 hd
theorem SuOk.gl (s : SuOk X C k W n i a Cc dx oe pn) {x : Str} (h : glB C.sc x = true) : Gl (X.suite a ((a, oe) :: pn)) x ∧ (x == ("__debug__" : Str)) = false := s.ok.gl h
/-- a test that is no turned one is a plain one -/
theorem notT_plain {x : XE} {C : SC} {n : Str} {y : Expr} (hx : ∀ u, x ≠ .not u) (hp : notT y = true) (hc : chkX x C n y = true) : plainT y = true := by
  cases y with
  | UnaryOp o z p =>
    cases o with
    | Not =>
      cases x <;> first | exact absurd rfl (hx _) | cases hc
    | _ => rfl
  | _ => exact hp
theorem sXo_of {X : Cx} {i : Nat} {a Cc dx : Addr} {oe : Obj} {pn : List (Addr × Obj)} {x : XE} {y : Expr} (h : PE (X.suite a ((a, oe) :: pn)) y (tlX X (.ref Cc) (some dx) i a (wpX x))) (hp : plainT y = true) :
    PT (X.suite a ((a, oe) :: pn)) y (tlXt X (.ref Cc) (some dx) i a fun e τ Q => wpX x e τ fun v => onBl v Q) := by
  refine impT (pt_truth h (plain_isTrue hp _)) fun σ H Q q => ?_
  obtain ⟨F, τ, st, e, su, h⟩ := q
  refine tlX_go x .refl su h fun F1 H1 y v x1 su1 d1 h1 => ?_
  cases d1 with
  | bl m => exact ⟨m, rfl, h1 F1 H1 x1 su1.rs⟩
  | _ => exact False.elim h1
mutual
theorem sX : ∀ (x : XE) {X : Cx} {C : SC} {k i : Nat} {W : WX} {n : Str} {a Cc dx : Addr} {oe : Obj} {pn : List (Addr × Obj)} {y : Expr}, SuOk X C k W n i a Cc dx oe pn → chkX x C n y = true → needX (pxX X k) x → PE (X.suite a ((a, oe) :: pn)) y (tlX X (.ref Cc) (some dx) i a (wpX x))
  | .fld f, X, C, k, i, W, n, a, Cc, dx, oe, pn, y, s, hc, hn => by
    unfold chkX at hc
    split at hc
    · rename_i z p g pos
      simp only [Bool.and_eq_true, decide_eq_true_eq, Bool.not_eq_true'] at hc
      obtain ⟨⟨⟨⟨e1, e2⟩, hm⟩, h1⟩, h2⟩ := hc
      subst e1 e2
      refine impE (pe_xf s.cls.xf (s.cls.no _ hm) s.zn s.hf (su_var s h1 h2) (by rfl)) fun σ H Q q => ?_
      obtain ⟨F, τ, st, e, su, h⟩ := q
      unfold wpX at h
      obtain ⟨C', r1, r2, dx', fs, r3, r4, r5⟩ := su.rep
      cases el : e.2.lookup g with
      | none => rw [el] at h; exact h.elim
      | some v =>
        rw [el] at h
        obtain ⟨w, hw, dw⟩ := r5 _ _ el
        cases r3
        exact ⟨_, su.at_, rfl, rfl, _, fs, w, rfl, r4, hw, LQ.now h su.rs dw⟩
    · cases hc
  | .is d, X, C, k, i, W, n, a, Cc, dx, oe, pn, y, s, hc, hn => by
    unfold chkX at hc
    split at hc
    · rename_i x1 p1 y1 p2 z1 p3 pos
      simp only [Bool.and_eq_true, decide_eq_true_eq, Bool.not_eq_true'] at hc
      obtain ⟨⟨⟨⟨⟨⟨e1, g1⟩, e2⟩, h1⟩, h2⟩, e3⟩, g3⟩ := hc
      subst e1 e2 e3
      obtain ⟨u, yv, hu, ru, hun, hk⟩ := hn
      obtain ⟨g1, g1'⟩ := s.gl g1
      obtain ⟨g3, g3'⟩ := s.gl g3
      refine impE (pe_callB (call_isD s.cls.ec s.zn s.hf) g1 (s.ok.blt _ (by decide +kernel)) (show bootBuiltins "isinstance" = some (.builtin "isinstance") by first | rfl | decide +kernel) (pa_cons (su_var s h1 h2) (pa_cons (pe_nmX g3 g3' hu ru) pa_nil rfl) rfl) (by decide) g1' rfl rfl) fun σ H Q q => ?_
      obtain ⟨F, τ, st, e, su, h⟩ := q
      unfold wpX at h
      obtain ⟨C', r1, r2, dx', fs, r3, r4, r5⟩ := su.rep
      cases r1
      cases r3
      exact ⟨_, su.at_, ⟨fs, r4⟩, yv, u, _, rfl, hun, hk _ su.mem _ r2, LQ.now h su.rs (.bl _)⟩
    · cases hc
  | .str x, X, C, k, i, W, n, a, Cc, dx, oe, pn, y, s, hc, hn => by
    unfold chkX at hc
    split at hc
    · have e := of_decide_eq_true hc
      subst e
      refine impE pe_str fun σ H Q q => ?_
      obtain ⟨F, τ, st, e, su, h⟩ := q
      exact LQ.now h su.rs (.str _)
    · cases hc
  | .int x, X, C, k, i, W, n, a, Cc, dx, oe, pn, y, s, hc, hn => by
    unfold chkX at hc
    split at hc
    · have e := of_decide_eq_true hc
      subst e
      refine impE pe_int fun σ H Q q => ?_
      obtain ⟨F, τ, st, e, su, h⟩ := q
      exact LQ.now h su.rs (.int _)
    · cases hc
  | .bl x, X, C, k, i, W, n, a, Cc, dx, oe, pn, y, s, hc, hn => by
    have hc : chkE (.bl x) C y = true := by unfold chkX at hc; exact hc
    unfold chkE at hc
    split at hc
    · have e := eq_of_beq hc
      subst e
      refine impE pe_bl fun σ H Q q => ?_
      obtain ⟨F, τ, st, e, su, h⟩ := q
      exact LQ.now h su.rs (.bl _)
    · cases hc
  | .non, X, C, k, i, W, n, a, Cc, dx, oe, pn, y, s, hc, hn => by
    have hc : chkE .non C y = true := by unfold chkX at hc; exact hc
    unfold chkE at hc
    split at hc
    · refine impE pe_non fun σ H Q q => ?_
      obtain ⟨F, τ, st, e, su, h⟩ := q
      exact LQ.now h su.rs .non
    · cases hc
  | .var j, X, C, k, i, W, n, a, Cc, dx, oe, pn, y, s, hc, hn => by
    have hc : chkE (.var j) C y = true := by unfold chkX at hc; exact hc
    unfold chkE at hc
    split at hc
    · unfold nmB at hc
      simp only [Bool.and_eq_true, decide_eq_true_eq, Bool.not_eq_true'] at hc
      obtain ⟨⟨⟨h1, h2⟩, h3⟩, h4⟩ := hc
      refine impE (pe_var (X := X.suite a ((a, oe) :: pn)) (i := j) (by show X.N[j]? = _; rw [s.ok.hN]; exact h1) (s.ok.vis h2) h3 h4) fun σ H Q q => ?_
      obtain ⟨F, τ, st, e, su, h⟩ := q
      unfold wpX at h
      cases el : getS τ j with
      | none => rw [el] at h; exact h.elim
      | some v =>
        rw [el] at h
        obtain ⟨w, hw, dw⟩ := su.sl.2 j v el
        exact ⟨w, hw, LQ.now h su.rs dw⟩
    · cases hc
  | .neg x, X, C, k, i, W, n, a, Cc, dx, oe, pn, y, s, hc, hn => by
    unfold chkX at hc
    split at hc
    · refine impE (pe_un un_neg (sX x s hc hn)) fun σ H Q q => ?_
      obtain ⟨F, τ, st, e, su, h⟩ := q
      unfold wpX at h
      refine tlX_go x .refl su h fun F1 H1 y v x1 su1 d1 h1 => ?_
      cases d1 with
      | int m => exact ⟨_, rfl, LQ.ext x1 _ _ h1 |>.now su1.rs (.int _)⟩
      | _ => exact False.elim h1
    · cases hc
  | .not x, X, C, k, i, W, n, a, Cc, dx, oe, pn, y, s, hc, hn => by
    unfold chkX at hc
    split at hc
    · refine impE (pe_not (sX x s hc hn)) fun σ H Q q => ?_
      obtain ⟨F, τ, st, e, su, h⟩ := q
      unfold wpX at h
      refine tlX_go x .refl su h fun F1 H1 y v x1 su1 d1 h1 => ?_
      cases d1 with
      | bl m => exact ⟨_, rfl, LQ.ext x1 _ _ h1 |>.now su1.rs (.bl _)⟩
      | _ => exact False.elim h1
    · cases hc
  | .ands xs, X, C, k, i, W, n, a, Cc, dx, oe, pn, y, s, hc, hn => by
    unfold chkX at hc
    split at hc
    · refine impE (sXa xs s hc hn) fun σ H Q q => ?_
      obtain ⟨F, τ, st, e, su, h⟩ := q
      unfold wpX at h
      exact ⟨F, τ, st, e, su, h⟩
    · cases hc
  | .ite ts p q, X, C, k, i, W, n, a, Cc, dx, oe, pn, y, s, hc, hn => by
    unfold chkX at hc
    split at hc
    · rename_i y1 y2 y3 ypos
      simp only [Bool.and_eq_true] at hc
      obtain ⟨⟨h1, h2⟩, h3⟩ := hc
      have ht : PT (X.suite a ((a, oe) :: pn)) y1 (tlXt X (.ref Cc) (some dx) i a (wpXt ts)) := by
        cases ts with
        | nil => cases h1
        | cons u us =>
          cases us with
          | nil =>
            have h1 := Bool.and_eq_true_iff.mp h1
            refine impT (sXo u s h1.1 h1.2 hn.1.1) fun σ H Q q => ?_
            obtain ⟨F, τ, st, e, su, h⟩ := q
            unfold wpXt at h
            refine ⟨F, τ, st, e, su, wpX_mono u (fun v h => onBl_mono (fun b h => ?_) h) h⟩
            cases b with
            | true => exact h
            | false => exact h
          | cons v vs =>
            split at h1
            · cases h1
            · rename_i eq; cases eq
            · rename_i eq
              split at h1
              · exact (sXt (.cons u (.cons v vs)) s h1 (fun z => by cases z) hn.1).pt
              · cases h1
      refine impE (pe_ifExp ht (sX p s h2 hn.2.1) (sX q s h3 hn.2.2)) fun σ H Q qq => ?_
      obtain ⟨F, τ, st, e, su, h⟩ := qq
      unfold wpX at h
      refine ⟨F, τ, st, e, su, wpXt_mono ts (fun b hb F1 H1 x1 rs1 => ?_) h⟩
      have su1 := su.ext x1 rs1
      cases b with
      | true => exact tlX_go p x1 su1 hb fun F2 H2 z v x2 su2 d2 h2 => h2 F2 H2 z (x1.trans x2) su2.rs d2
      | false => exact tlX_go q x1 su1 hb fun F2 H2 z v x2 su2 d2 h2 => h2 F2 H2 z (x1.trans x2) su2.rs d2
    · cases hc
  | .tup xs, X, C, k, i, W, n, a, Cc, dx, oe, pn, y, s, hc, hn => by
    unfold chkX at hc
    split at hc
    · refine impE (pe_tup (sXs xs s hc hn)) fun σ H Q q => ?_
      obtain ⟨F, τ, st, e, su, h⟩ := q
      unfold wpX at h
      refine ⟨F, τ, st, e, su, wpXs_mono xs (fun vs h F1 H1 ys x1 rs1 d1 => ?_) h⟩
      exact ⟨by rw [← d1.length]; exact h.1, newTup_ok (LQ.ext x1 _ _ h.2) rs1 d1⟩
    · cases hc
  | .same g x z, X, C, k, i, W, n, a, Cc, dx, oe, pn, y, s, hc, hn => by
    unfold chkX at hc
    split at hc
    · rename_i w p y1 y2 pos
      simp only [Bool.and_eq_true, decide_eq_true_eq] at hc
      obtain ⟨⟨⟨⟨⟨e1, g1⟩, s1⟩, s2⟩, h1⟩, h2⟩ := hc
      subst e1
      obtain ⟨⟨hk, fa, fd, m1, m2, m3, m4⟩, hn1, hn2⟩ := hn
      obtain ⟨g1, g1'⟩ := s.gl g1
      refine impE (pe_callA m4 (L2H.roomH_of (s.ok.room.mono hk)) (fun vs H Q E ⟨v, e, _⟩ => by rw [e]; rfl) g1 m1 m2 m3 (pa_cons (sX x s h1 hn1) (pa_cons (sX z s h2 hn2) pa_nil (star_cons s2)) (star_cons s1)) g1' (star_cons s1) (by rw [star_cons s2]; rfl)) fun σ H Q q => ?_
      obtain ⟨F, τ, st, e, su, h⟩ := q
      unfold wpX at h
      refine tlX_go x .refl su h fun F1 H1 y v x1 su1 d1 h1 => ?_
      refine tlX_go z x1 su1 h1 fun F2 H2 y2 v2 x2 su2 d2 h2 => ?_
      obtain ⟨h2, h3⟩ := h2
      have fin := LQ.ext (x1.trans x2) _ _ h3 |>.now su2.rs (.bl _)
      have d1 := d1.ext x2
      cases d1 with
      | str t =>
        cases d2 with
        | str t2 =>
          obtain ⟨e, h2⟩ := h2
          subst e
          exact ⟨_, rfl, .inl ⟨_, rfl, h2⟩, fin⟩
        | _ => exact False.elim h2
      | int t =>
        cases d2 with
        | int t2 =>
          obtain ⟨e, h2⟩ := h2
          subst e
          exact ⟨_, rfl, .inr ⟨_, rfl, h2⟩, fin⟩
        | _ => exact False.elim h2
      | _ => exact False.elim h2
    · cases hc
theorem sXo : ∀ (x : XE) {X : Cx} {C : SC} {k i : Nat} {W : WX} {n : Str} {a Cc dx : Addr} {oe : Obj} {pn : List (Addr × Obj)} {y : Expr}, SuOk X C k W n i a Cc dx oe pn → notT y = true → chkX x C n y = true → needX (pxX X k) x → PT (X.suite a ((a, oe) :: pn)) y (tlXt X (.ref Cc) (some dx) i a fun e τ Q => wpX x e τ fun v => onBl v Q)
  | .not u, X, C, k, i, W, n, a, Cc, dx, oe, pn, y, s, hp, hc, hn => by
    by_cases hpl : plainT y = true
    · exact sXo_of (sX (.not u) s hc hn) hpl
    · cases y with
      | UnaryOp o z p =>
        cases o with
        | Not =>
          have hc' : chkX u C n z = true := hc
          have hp' : plainT z = true := hp
          refine impT (pt_not (sXo_of (sX u s hc' hn) hp')) fun σ H Q q => ?_
          obtain ⟨F, τ, st, e, su, h⟩ := q
          unfold wpX at h
          refine ⟨F, τ, st, e, su, wpX_mono u (fun v h => ?_) h⟩
          cases v <;> first | exact h | exact False.elim h
        | _ => exact absurd rfl hpl
      | _ => exact absurd hp hpl
  | .fld f, X, C, k, i, W, n, a, Cc, dx, oe, pn, y, s, hp, hc, hn => sXo_of (sX (.fld f) s hc hn) (notT_plain (fun _ z => by cases z) hp hc)
  | .is d, X, C, k, i, W, n, a, Cc, dx, oe, pn, y, s, hp, hc, hn => sXo_of (sX (.is d) s hc hn) (notT_plain (fun _ z => by cases z) hp hc)
  | .str w, X, C, k, i, W, n, a, Cc, dx, oe, pn, y, s, hp, hc, hn => sXo_of (sX (.str w) s hc hn) (notT_plain (fun _ z => by cases z) hp hc)
  | .int w, X, C, k, i, W, n, a, Cc, dx, oe, pn, y, s, hp, hc, hn => sXo_of (sX (.int w) s hc hn) (notT_plain (fun _ z => by cases z) hp hc)
  | .bl w, X, C, k, i, W, n, a, Cc, dx, oe, pn, y, s, hp, hc, hn => sXo_of (sX (.bl w) s hc hn) (notT_plain (fun _ z => by cases z) hp hc)
  | .non, X, C, k, i, W, n, a, Cc, dx, oe, pn, y, s, hp, hc, hn => sXo_of (sX (.non) s hc hn) (notT_plain (fun _ z => by cases z) hp hc)
  | .var w, X, C, k, i, W, n, a, Cc, dx, oe, pn, y, s, hp, hc, hn => sXo_of (sX (.var w) s hc hn) (notT_plain (fun _ z => by cases z) hp hc)
  | .neg u, X, C, k, i, W, n, a, Cc, dx, oe, pn, y, s, hp, hc, hn => sXo_of (sX (.neg u) s hc hn) (notT_plain (fun _ z => by cases z) hp hc)
  | .ands us, X, C, k, i, W, n, a, Cc, dx, oe, pn, y, s, hp, hc, hn => sXo_of (sX (.ands us) s hc hn) (notT_plain (fun _ z => by cases z) hp hc)
  | .ite t u v, X, C, k, i, W, n, a, Cc, dx, oe, pn, y, s, hp, hc, hn => sXo_of (sX (.ite t u v) s hc hn) (notT_plain (fun _ z => by cases z) hp hc)
  | .tup us, X, C, k, i, W, n, a, Cc, dx, oe, pn, y, s, hp, hc, hn => sXo_of (sX (.tup us) s hc hn) (notT_plain (fun _ z => by cases z) hp hc)
  | .same g u v, X, C, k, i, W, n, a, Cc, dx, oe, pn, y, s, hp, hc, hn => sXo_of (sX (.same g u v) s hc hn) (notT_plain (fun _ z => by cases z) hp hc)
theorem sXt : ∀ (xs : XEs) {X : Cx} {C : SC} {k i : Nat} {W : WX} {n : Str} {a Cc dx : Addr} {oe : Obj} {pn : List (Addr × Obj)} {ys : List Expr} {pos : Pos}, SuOk X C k W n i a Cc dx oe pn → chkXt xs C n ys = true → xs ≠ .nil → needXs (pxX X k) xs → PW (X.suite a ((a, oe) :: pn)) (.BoolOp .And ys pos) (tlXt X (.ref Cc) (some dx) i a (wpXt xs))
  | .nil, X, C, k, i, W, n, a, Cc, dx, oe, pn, ys, pos, s, hc, hne, hn => absurd rfl hne
  | .cons x .nil, X, C, k, i, W, n, a, Cc, dx, oe, pn, ys, pos, s, hc, hne, hn => by
    cases ys with
    | nil => cases hc
    | cons y r =>
      have h' : (notT y && chkX x C n y && chkXt .nil C n r) = true := hc
      simp only [Bool.and_eq_true] at h'
      cases r with
      | cons _ _ => cases h'.2
      | nil =>
        refine impW (pw_and1 (sXo x s h'.1.1 h'.1.2 hn.1)) fun σ H Q q => ?_
        obtain ⟨F, τ, st, e, su, h⟩ := q
        unfold wpXt at h
        refine ⟨F, τ, st, e, su, wpX_mono x (fun v h => onBl_mono (fun b h => ?_) h) h⟩
        cases b with
        | true => exact h
        | false => exact h
  | .cons x (.cons z zs), X, C, k, i, W, n, a, Cc, dx, oe, pn, ys, pos, s, hc, hne, hn => by
    cases ys with
    | nil => cases hc
    | cons y r =>
      have h' : (notT y && chkX x C n y && chkXt (.cons z zs) C n r) = true := hc
      simp only [Bool.and_eq_true] at h'
      cases r with
      | nil => cases h'.2
      | cons y2 r =>
        have ih := sXt (.cons z zs) (pos := pos) s h'.2 (fun q => by cases q) hn.2
        refine impW (pw_and (sXo x s h'.1.1 h'.1.2 hn.1) ih) fun σ H Q q => ?_
        obtain ⟨F, τ, st, e, su, h⟩ := q
        have h : wpX x e τ fun v => onBl v fun b => if b = true then wpXt (.cons z zs) e τ _ else _ := h
        refine ⟨F, τ, st, e, su, wpX_mono x (fun v h => onBl_mono (fun b h F1 H1 x1 rs1 => ?_) h) h⟩
        cases b with
        | true => exact ⟨F1, τ, st, e, su.ext x1 rs1, wpXt_mono (.cons z zs) (fun b h F2 H2 x2 rs2 => h F2 H2 (x1.trans x2) rs2) h⟩
        | false => exact h F1 H1 x1 rs1
theorem sXs : ∀ (xs : XEs) {X : Cx} {C : SC} {k i : Nat} {W : WX} {n : Str} {a Cc dx : Addr} {oe : Obj} {pn : List (Addr × Obj)} {ys : List Expr}, SuOk X C k W n i a Cc dx oe pn → chkXs xs C n ys = true → needXs (pxX X k) xs → PA (X.suite a ((a, oe) :: pn)) ys (tlXs X (.ref Cc) (some dx) i a (wpXs xs))
  | .nil, X, C, k, i, W, n, a, Cc, dx, oe, pn, ys, s, hc, hn => by
    cases ys with
    | cons _ _ => cases hc
    | nil =>
      refine impA pa_nil fun σ H Q q => ?_
      obtain ⟨F, τ, st, e, su, h⟩ := q
      exact h F H [] .refl su.rs .nil
  | .cons x xs, X, C, k, i, W, n, a, Cc, dx, oe, pn, ys, s, hc, hn => by
    cases ys with
    | nil => cases hc
    | cons y r =>
      have h' : (notStar y && chkX x C n y && chkXs xs C n r) = true := hc
      simp only [Bool.and_eq_true] at h'
      refine impA (pa_cons (sX x s h'.1.2 hn.1) (sXs xs s h'.2 hn.2) (star_cons h'.1.1)) fun σ H Q q => ?_
      obtain ⟨F, τ, st, e, su, h⟩ := q
      unfold wpXs at h
      refine tlX_go x .refl su h fun F1 H1 y v x1 su1 d1 h1 => ?_
      exact ⟨F1, τ, st, e, su1, wpXs_mono xs (fun vs h F2 H2 zs x2 rs2 d2 => h F2 H2 _ (x1.trans x2) rs2 (.cons (d1.ext x2) d2)) h1⟩
theorem sXa : ∀ (xs : XEs) {X : Cx} {C : SC} {k i : Nat} {W : WX} {n : Str} {a Cc dx : Addr} {oe : Obj} {pn : List (Addr × Obj)} {ys : List Expr} {pos : Pos}, SuOk X C k W n i a Cc dx oe pn → chkXs xs C n ys = true → needXs (pxX X k) xs → PE (X.suite a ((a, oe) :: pn)) (.BoolOp .And ys pos) (tlX X (.ref Cc) (some dx) i a (wpXa xs))
  | .nil, X, C, k, i, W, n, a, Cc, dx, oe, pn, ys, pos, s, hc, hn => ⟨fun pins s σ H Q I ⟨F, τ, st, e, su, h⟩ => by unfold wpXa at h; exact h.elim⟩
  | .cons x .nil, X, C, k, i, W, n, a, Cc, dx, oe, pn, ys, pos, s, hc, hn => by
    cases ys with
    | nil => cases hc
    | cons y r =>
      have h' : (notStar y && chkX x C n y && chkXs .nil C n r) = true := hc
      simp only [Bool.and_eq_true] at h'
      cases r with
      | cons _ _ => cases h'.2
      | nil =>
        refine impE (pe_one (sX x s h'.1.2 hn.1)) fun σ H Q q => ?_
        obtain ⟨F, τ, st, e, su, h⟩ := q
        unfold wpXa at h
        exact ⟨F, τ, st, e, su, h⟩
  | .cons x (.cons z zs), X, C, k, i, W, n, a, Cc, dx, oe, pn, ys, pos, s, hc, hn => by
    cases ys with
    | nil => cases hc
    | cons y r =>
      have h' : (notStar y && chkX x C n y && chkXs (.cons z zs) C n r) = true := hc
      simp only [Bool.and_eq_true] at h'
      cases r with
      | nil => cases h'.2
      | cons y2 r =>
        have ih := sXa (.cons z zs) (pos := pos) s h'.2 hn.2
        refine impE (pe_and (sX x s h'.1.2 hn.1) ih) fun σ H Q q => ?_
        obtain ⟨F, τ, st, e, su, h⟩ := q
        have h : wpX x e τ fun v => onBl v fun b => if b = true then wpXa (.cons z zs) e τ _ else _ := h
        refine tlX_go x .refl su h fun F1 H1 y v x1 su1 d1 h1 => ?_
        cases d1 with
        | bl c =>
          refine ⟨c, rfl, ?_⟩
          cases c with
          | true => exact ⟨F1, τ, st, e, su1, wpXa_mono (.cons z zs) (fun v h => LQ.ext x1 _ _ h) h1⟩
          | false => exact h1 F1 H1 _ x1 su1.rs (.bl _)
        | _ => exact False.elim h1
end
/-- a suite's statements, read -/
def tlXS (X : Cx) (cls : Value) (d : Option Addr) (i : Nat) (a : Addr) (w : Exn → Sl → Store → (Store → Prop) → PQ → Prop) : TS := fun D σ H => ∃ F τ st e, SuR X.K X.mg cls d i a σ H F τ st e ∧
  w e τ st (fun st' => ∀ F' H', Ext F H F' H' → RS X.K H' F' st' → D.nx σ H') (LQ X.K F H D.rt)
mutual
theorem sXS : ∀ (x : XS) {X : Cx} {C : SC} {k i : Nat} {W : WX} {n : Str} {a Cc dx : Addr} {oe : Obj} {pn : List (Addr × Obj)} {y : Stmt}, SuOk X C k W n i a Cc dx oe pn → chkXS x C n y = true → needXS (pxX X k) x → PS (X.suite a ((a, oe) :: pn)) y (tlXS X (.ref Cc) (some dx) i a (wpXS x))
  | .ret x, X, C, k, i, W, n, a, Cc, dx, oe, pn, y, s, hc, hn => by
    unfold chkXS at hc
    split at hc
    · refine impS (ps_ret (sX x s hc hn)) fun D σ H q => ?_
      obtain ⟨F, τ, st, e, su, h⟩ := q
      unfold wpXS at h
      exact ⟨F, τ, st, e, su, h⟩
    · cases hc
  | .app j x, X, C, k, i, W, n, a, Cc, dx, oe, pn, y, s, hc, hn => by
    unfold chkXS at hc
    split at hc
    · rename_i nm p y2 ap z cp pos
      simp only [Bool.and_eq_true, decide_eq_true_eq] at hc
      obtain ⟨⟨⟨⟨e, hl⟩, hst⟩, hv⟩, hx⟩ := hc
      subst e
      have hz : PE (X.suite a ((a, oe) :: pn)) (.Name nm p) (tVar j) := by
        unfold chkE at hv
        unfold nmB at hv
        simp only [Bool.and_eq_true, decide_eq_true_eq, Bool.not_eq_true'] at hv
        obtain ⟨⟨⟨h1, h2⟩, h3⟩, h4⟩ := hv
        exact pe_var (X := X.suite a ((a, oe) :: pn)) (i := j) (by show X.N[j]? = _; rw [s.ok.hN]; exact h1) (s.ok.vis h2) h3 h4
      refine impS (ps_expr (pe_bm PySem.F.plainAttrs_list PySem.F.slot_list_append PySem.F.type_list_append (meth_ok (X := X.suite a ((a, oe) :: pn)) (f := .append)) hz (pa_cons (sX x s hx hn) pa_nil (star_cons hst)) (by rfl) (by rw [star_cons hst]; rfl) hl (star_cons hst) (by rfl)) (by rfl)) fun D σ H q => ?_
      obtain ⟨F, τ, st, e, su, h⟩ := q
      unfold wpXS at h
      obtain ⟨b, xs, g1, g2, g3, h⟩ := h
      obtain ⟨w, hw, dw⟩ := su.sl.2 j _ g1
      cases dw
      obtain ⟨nf, ys, h1, dz⟩ := su.rs.lst _ _ g2
      refine ⟨_, hw, .inl ⟨rfl, ys, .of h1⟩, ?_⟩
      refine tlX_go x .refl su h fun F1 H1 y v x1 su1 d1 hk => ?_
      refine ⟨F1, st, .ref b, [v], su1.rs, .ref b, .cons d1 .nil, xs, g2, g3, fun F2 H2 y2 x2 rs2 d2 => hk F2 H2 (x1.trans x2) rs2⟩
    · cases hc
  | .ite ts p q, X, C, k, i, W, n, a, Cc, dx, oe, pn, y, s, hc, hn => by
    unfold chkXS at hc
    split at hc
    · rename_i y1 y2 y3 ypos
      simp only [Bool.and_eq_true] at hc
      obtain ⟨⟨h1, h2⟩, h3⟩ := hc
      have ht : PT (X.suite a ((a, oe) :: pn)) y1 (tlXt X (.ref Cc) (some dx) i a (wpXt ts)) := by
        cases ts with
        | nil => cases h1
        | cons u us =>
          cases us with
          | nil =>
            have h1 := Bool.and_eq_true_iff.mp h1
            refine impT (sXo u s h1.1 h1.2 hn.1.1) fun σ H Q q => ?_
            obtain ⟨F, τ, st, e, su, h⟩ := q
            unfold wpXt at h
            refine ⟨F, τ, st, e, su, wpX_mono u (fun v h => onBl_mono (fun b h => ?_) h) h⟩
            cases b with
            | true => exact h
            | false => exact h
          | cons v vs =>
            split at h1
            · cases h1
            · rename_i eq; cases eq
            · rename_i eq
              split at h1
              · exact (sXt (.cons u (.cons v vs)) s h1 (fun z => by cases z) hn.1).pt
              · cases h1
      refine impS (ps_if ht (sXSs p s h2 hn.2.1) (sXSs q s h3 hn.2.2)) fun D σ H qq => ?_
      obtain ⟨F, τ, st, e, su, h⟩ := qq
      unfold wpXS at h
      refine ⟨F, τ, st, e, su, wpXt_mono ts (fun b hb F1 H1 x1 rs1 => ?_) h⟩
      have su1 := su.ext x1 rs1
      cases b with
      | true => exact ⟨F1, τ, st, e, su1, wpXSs_mono p (fun s h F2 H2 x2 => h F2 H2 (x1.trans x2)) (fun v s h => LQ.ext x1 _ _ h) hb⟩
      | false => exact ⟨F1, τ, st, e, su1, wpXSs_mono q (fun s h F2 H2 x2 => h F2 H2 (x1.trans x2)) (fun v s h => LQ.ext x1 _ _ h) hb⟩
    · cases hc
theorem sXSs : ∀ (x : XSs) {X : Cx} {C : SC} {k i : Nat} {W : WX} {n : Str} {a Cc dx : Addr} {oe : Obj} {pn : List (Addr × Obj)} {y : List Stmt}, SuOk X C k W n i a Cc dx oe pn → chkXSs x C n y = true → needXSs (pxX X k) x → PSs (X.suite a ((a, oe) :: pn)) y (tlXS X (.ref Cc) (some dx) i a (wpXSs x))
  | .nil, X, C, k, i, W, n, a, Cc, dx, oe, pn, ys, s, hc, hn => by
    cases ys with
    | cons _ _ => cases hc
    | nil =>
      refine impSs pss_nil fun D σ H q => ?_
      obtain ⟨F, τ, st, e, su, h⟩ := q
      exact h F H .refl su.rs
  | .cons x xs, X, C, k, i, W, n, a, Cc, dx, oe, pn, ys, s, hc, hn => by
    cases ys with
    | nil => cases hc
    | cons y r =>
      have h' : (chkXS x C n y && chkXSs xs C n r) = true := hc
      simp only [Bool.and_eq_true] at h'
      refine impSs (pss_cons (sXS x s h'.1 hn.1) (sXSs xs s h'.2 hn.2)) fun D σ H q => ?_
      obtain ⟨F, τ, st, e, su, h⟩ := q
      unfold wpXSs at h
      exact ⟨F, τ, st, e, su, wpXS_mono x (fun s1 h F1 H1 x1 rs1 => ⟨F1, τ, s1, e, ⟨rs1, su.sl.ext x1, su.at_, su.mem, su.rep.ext x1⟩, wpXSs_mono xs (fun s h F2 H2 x2 => h F2 H2 (x1.trans x2)) (fun v s h => LQ.ext x1 _ _ h) h⟩) (fun _ _ h => h) h⟩
end
end
end TK

set_option maxRecDepth 100000
set_option maxHeartbeats 8000000
namespace TK
open PySem PySem.Spec PyProof.Rows L2
/-! ### the classes of errors, from what the written part says -/
section
variable {P : Program} {w : World} {K : PySem.W.Frag} {mg : Str → Option Value} {base : Heap} {C D : Addr}
theorem oex_mk {nm q : Str} {N : Addr} {bs bm : List Value} {sn : List Str} {sub : List Value} {ab : Bool} {col : Option Bool} {dd : Option Addr} {m0 m1 m2 m3 m5 : Option Value}
    (xL : K.lookup C = some (excClassObj nm q C N bs bm true sn sub ab col dd m0 m1 m2 m3 m5 "ValueError.__new__")) (hb : PySem.HandSPX.refsVE bm = true)
    (sa : PySem.W.findIn K (.ref C) "__setattr__" = some (some (.builtin "object.__setattr__"))) (eC : PySem.W.subIn K (.ref C) (.type "BaseException") = some true) (tC : PySem.W.typeIn K (.ref C) = some (.type "type")) (kC : PySem.W.keepIn K (.ref C) = true) : OexC K C :=
  ⟨⟨nm, q, N, bs, bm, sn, sub, ab, col, dd, m0, m1, m2, m3, m5, xL, hb⟩, sa, eC, tC, kC⟩
theorem cls_mk (ga : PySem.W.findIn K (.ref C) "__getattribute__" = some (some (.builtin "BaseException.__getattribute__"))) (gg : PySem.W.findIn K (.ref C) "__getattr__" = some none) (eC : PySem.W.subIn K (.ref C) (.type "BaseException") = some true)
    (hd : PySem.W.hasDictIn K C = true) (ha : PySem.W.findIn K (.ref C) "__class__" = some (some (.builtin "object.__class__"))) (hn : PySem.W.specialIn K (.builtin "object.__class__") "__get__" = some (some (.builtin "getset_descriptor.__get__")))
    (ht : PySem.W.takesIn K (.builtin "object.__class__") = some true) (hm : PySem.W.mroIn K C (.type "object") = some true)
    (n0 : PySem.W.findIn K (.ref C) "what" = some none) (n1 : PySem.W.findIn K (.ref C) "limit" = some none) (n2 : PySem.W.findIn K (.ref C) "line" = some none) (n3 : PySem.W.findIn K (.ref C) "reason" = some none)
    (n4 : PySem.W.findIn K (.ref C) "at" = some none) (n5 : PySem.W.findIn K (.ref C) "kind" = some none) (n6 : PySem.W.findIn K (.ref C) "first" = some none) (n7 : PySem.W.findIn K (.ref C) "second" = some none) : ClsRd K C := by
  refine ⟨⟨ga, gg, eC, hd⟩, ⟨ga, gg, eC, hd, ha, hn, ht, hm⟩, fun f hf => ?_⟩
  simp only [fldNames, List.mem_cons, List.not_mem_nil, or_false] at hf
  rcases hf with rfl | rfl | rfl | rfl | rfl | rfl | rfl | rfl <;> assumption
theorem ini_mk {x qual : Str} {st : Stmt} {fI cda cc : Addr} {oc : Value} {od an : Option Addr} {osl : Array (Option Value)} {kV doc pm ct cl ccl : Value} {cld cdd : Option Addr} {csl ccs : Array (Option Value)} {vs : Array Value} {file : Str} {tf : Tok}
    (l : K.lookup fI = some ⟨oc, od, .func (PySem.W.ksFn x qual (defArgs st) (defBody st) (defScope st) .none kV doc pm an (.ref cda) ct cc), osl⟩) (c : PySem.W.codeIn K (.ref cda) qual = true)
    (lc : K.lookup cc = some ⟨cl, cld, .cell (some (.ref C)), csl⟩) (ld : K.lookup cda = some ⟨ccl, cdd, .fields vs, ccs⟩) (hv : vs[2]? = some (.str file tf)) (hf : ((P.main.file : Str) == file) = true)
    (sup : PySem.W.ks_superIn K C C "__init__" = some (some (.builtin "ValueError.__init__"))) (sub : PySem.W.subIn K (.ref C) (.type "ValueError") = some true) (mro : PySem.W.mroIn K C (.ref C) = some true)
    (opq : PySem.W.nsIn K PySem.cStatics "thirdparty.any" = some none) (top : (P.main.scope.names.lookup ("super" : Str)).isSome = false) :
    IniF P K x qual st C fI (PySem.W.ksFn x qual (defArgs st) (defBody st) (defScope st) .none kV doc pm an (.ref cda) ct cc) :=
  ⟨⟨oc, od, kV, doc, pm, an, cda, ct, osl, cc, rfl, l, c, ⟨cl, cld, csl, lc⟩, ccl, cdd, vs, ccs, file, tf, ld, hv, hf⟩, sup, sub, mro, opq, top⟩
/-- super().__init__(a text + what) -/
theorem msg_what {m : Str} {j : Nat} {r1 r2 r3 p3 : Pos} {st : Stmt} (S : IniSc (sf "what") (sf "what") (defScope st)) (hm : m.length ≤ 100) (X : Cx) (hN : X.N = sf "what") (hs : X.env.scope = defScope st)
    (hst : starEach [Expr.BinOp (.Constant (.str m) j r1) .Add (.Name "what" r2) r3] X.env = (false, eval (Expr.BinOp (.Constant (.str m) j r1) .Add (.Name "what" r2) r3) X.env) :: starEach [] X.env) :
    ∃ ta, PA X [Expr.BinOp (.Constant (.str m) j r1) .Add (.Name "what" r2) r3] ta ∧ (backTo p3 (starEach [Expr.BinOp (.Constant (.str m) j r1) .Add (.Name "what" r2) r3] X.env)).any (·.1) = false ∧
      ∀ (a : Addr) (y : V) (H : Hp) (Q : List V → Hp → Prop), okV "BadValue" y → (∀ us, us.length ≤ 1000 → Q us H) → ta (L2.start (sf "what") [.ref a, y]) H Q := by
  have hv : PE X (.Name "what" r2) (tVar 1) := pe_var (by rw [hN]; rfl) (by rw [hs]; exact .inl (S.par _ (List.mem_cons_of_mem _ List.mem_cons_self)))
  refine ⟨_, pa_cons (pe_op op_add_str pe_str hv) pa_nil hst, ?_, fun a y H Q oky hq => ?_⟩
  · rw [hst]; rfl
  · cases y with
    | str x =>
      obtain ⟨_, hx⟩ := oky
      exact ⟨_, rfl, _, _, rfl, rfl, Nat.le_trans (Nat.add_le_add hm hx) (show 100 + 1000 ≤ sizeLine by decide), hq _ (show 1 ≤ 1000 by decide)⟩
    | _ => exact oky.elim
theorem has_raise {c : Str} {fI : Addr} {fd : FuncData} {k : Nat} (hk : 2 ≤ k) (hc : mg c = some (.ref C)) (T : OexC K C) (i1 : PySem.W.findIn K (.ref C) "__init__" = some (some (.ref fI))) (t1 : PySem.W.typeIn K (.ref fI) = some (.type "function"))
    (hb : Binds K fd (sf (fldOf c)) []) (hno : PySem.W.findIn K (.ref C) (fldOf c) = some none) (F : FnOk P w K mg base (L2.CX P w) 1 fI fd (sf (fldOf c)) (iniSp1 K C (fldOf c) (okV c))) : HasX ⟨P, w, K, mg, base⟩ k 0 c :=
  ⟨hk, C, fI, fd, hc, T, i1, t1, hb, hno, F⟩
theorem has_exc {d : Str} {k : Nat} (hd : mg d = some (.ref D)) (h : ∀ c ∈ excNames, ∀ C : Addr, mg c = some (.ref C) → PySem.W.exmOne K (.ref C) (.ref D) = some (subC c d) ∧ ClsRd K C) : HasX ⟨P, w, K, mg, base⟩ k 1 d := ⟨D, hd, h⟩
theorem has_is {d : Str} {k : Nat} (hd : mg d = some (.ref D)) (h : ∀ c ∈ excNames, ∀ C : Addr, mg c = some (.ref C) → PySem.W.kitOne K (.ref C) (.ref D) = some (subC c d)) : HasX ⟨P, w, K, mg, base⟩ k 2 d :=
  ⟨_, .ref D, .inl hd, rfl, fun _ e => e, h⟩
theorem has_isT {d : Str} {t : String} {k : Nat} (hd : mg d = none) (hb : bootBuiltins d = some (.type t)) (hn : d ≠ "__name__") (h : ∀ c ∈ excNames, ∀ C : Addr, mg c = some (.ref C) → PySem.W.kitOne K (.ref C) (.type t) = some (subC c d)) : HasX ⟨P, w, K, mg, base⟩ k 2 d :=
  ⟨_, .ty t, .inr ⟨hd, hb, hn⟩, rfl, fun _ e => e, h⟩
theorem has_same {g : Str} {k : Nat} {f : Addr} {fd : FuncData} (hk : 1 ≤ k) (hm : mg g = some (.ref f)) (kp : PySem.W.keepIn K (.ref f) = true) (b : Binds K fd vd []) (F : FnA P w K mg base 1 f fd vd sameSp) : HasX ⟨P, w, K, mg, base⟩ k 3 g :=
  ⟨hk, f, fd, hm, kp, b, F⟩
theorem kit_self : PySem.W.kitOne K (.ref C) (.ref C) = some true := by
  unfold PySem.W.kitOne
  rw [if_pos (beq_self_eq_true _)]
theorem kit_cls {b : Bool} (hd : PySem.W.hasDictIn K D = true) (ht : PySem.W.typeIn K (.ref D) = some (.type "type")) (h : PySem.W.subIn K (.ref C) (.ref D) = some b) : PySem.W.kitCls K (.ref C) (.ref D) = some b := by
  obtain ⟨cd, hc, _⟩ := PySem.W.any_some hd
  have e2 : ((PySem.W.clsIn K D).isSome && PySem.W.typeIn K (.ref D) == some (.type "type")) = true := by rw [hc, ht] <;> rfl
  show (if ((PySem.W.clsIn K D).isSome && PySem.W.typeIn K (.ref D) == some (.type "type")) = true then PySem.W.subIn K (.ref C) (.ref D) else none) = some b
  rw [if_pos e2]
  exact h
theorem kit_ref (hd : PySem.W.hasDictIn K D = true) (ht : PySem.W.typeIn K (.ref D) = some (.type "type")) (h : PySem.W.subIn K (.ref C) (.ref D) = some true) : PySem.W.kitOne K (.ref C) (.ref D) = some true := by
  unfold PySem.W.kitOne
  split
  · rfl
  · exact kit_cls hd ht h
theorem kit_no (hne : C ≠ D) (hd : PySem.W.hasDictIn K D = true) (ht : PySem.W.typeIn K (.ref D) = some (.type "type")) (h : PySem.W.subIn K (.ref C) (.ref D) = some false) : PySem.W.kitOne K (.ref C) (.ref D) = some false := by
  unfold PySem.W.kitOne
  split
  · rename_i e
    exact absurd (Value.ref.inj (beq_iff_eq.mp e)) hne
  · exact kit_cls hd ht h
theorem kit_ty {T : String} (hm : PySem.W.kitMeta T = true) (h : PySem.W.subIn K (.ref C) (.type T) = some true) : PySem.W.kitOne K (.ref C) (.type T) = some true := by
  unfold PySem.W.kitOne
  split
  · rfl
  · show (if PySem.W.kitMeta T = true then PySem.W.subIn K (.ref C) (.type T) else none) = some true
    rw [if_pos hm]
    exact h
/-- every class of errors that the text has -/
theorem exc_all {Pr : Str → Addr → Prop} (h : ∀ c ∈ excNames, mg c = none ∨ ∃ C, mg c = some (.ref C) ∧ Pr c C) : ∀ c ∈ excNames, ∀ C : Addr, mg c = some (.ref C) → Pr c C := by
  intro c hc C e
  rcases h c hc with z | ⟨C', z, p⟩
  · rw [z] at e; cases e
  · rw [z] at e; cases e; exact p
theorem exc7 {Pr : Str → Prop} (a : Pr "BadText") (b : Pr "BadMachine") (c : Pr "BadValue") (d : Pr "TooMany") (e : Pr "OpenEnd") (f : Pr "NotClear") (g : Pr "NothingToUndo") : ∀ c ∈ excNames, Pr c := by
  intro x hx
  simp only [excNames, List.mem_cons, List.not_mem_nil, or_false] at hx
  rcases hx with rfl | rfl | rfl | rfl | rfl | rfl | rfl <;> assumption
end
end TK

set_option maxRecDepth 100000
set_option maxHeartbeats 8000000
namespace TK
open PySem PySem.Spec PyProof.Rows L2
/-! ### statements -/
def PD (X : Cx) (W : WX) (D : Ends) (F : FS) (H : Hp) : PEnds where
  nx := fun τ' st' => ∀ F' H' σ', Ext F H F' H' → RS X.K H' F' st' → RSl X.K H' F' τ' σ' → D.nx σ' H'
  rt := LQ X.K F H D.rt
  bk := fun τ' st' => ∀ F' H' σ', Ext F H F' H' → RS X.K H' F' st' → RSl X.K H' F' τ' σ' → D.bk σ' H'
  ct := fun τ' st' => ∀ F' H' σ', Ext F H F' H' → RS X.K H' F' st' → RSl X.K H' F' τ' σ' → D.ct σ' H'
  ex := fun e τ' st' => ∀ F' H' σ' cls d, Ext F H F' H' → RS X.K H' F' st' → RSl X.K H' F' τ' σ' → ExRep X.K X.mg H' F' e cls d → W cls d σ' H'
theorem PD.ext {X : Cx} {W : WX} {D : Ends} {F F1 : FS} {H H1 : Hp} (x : Ext F H F1 H1) : (PD X W D F H).Le (PD X W D F1 H1) :=
  ⟨fun _ _ h F' H' σ' e => h F' H' σ' (x.trans e), fun _ _ h F' H' y e => h F' H' y (x.trans e), fun _ _ h F' H' σ' e => h F' H' σ' (x.trans e), fun _ _ h F' H' σ' e => h F' H' σ' (x.trans e), fun _ _ _ h F' H' σ' c d e => h F' H' σ' c d (x.trans e)⟩
theorem PD.lx {X : Cx} {W : WX} {D : Ends} {F : FS} {H : Hp} {τ : Sl} {σ : L2.St} (sl : RSl X.K H F τ σ) : ∀ e s, (PD X W D F H).ex e τ s → LX X W σ F H e s :=
  fun e s h F' H' c d x r q => h F' H' σ c d x r (sl.ext x) q
def tls (X : Cx) (W : WX) (w : PEnds → Sl → Store → Prop) : TS := fun D σ H => ∃ F τ st, RS X.K H F st ∧ RSl X.K H F τ σ ∧ w (PD X W D F H) τ st
section
variable {X : Cx} {C : SC} {k : Nat} {W : WX}
theorem notComp_swaps {e : Expr} (h : notComp e = true) (t : Option Expr) (n : Nat) (env : Env) : swapsWith e t n env = pure false := by
  cases e <;> first | rfl | cases h
theorem noswap {g e : Expr} {env : Env} (h : (notTup g || notTup e) = true) : swappedStores [g] e env = pure none := by
  rcases Bool.or_eq_true_iff.mp h with h | h
  · cases g <;> first | rfl | cases h
  · cases e with
    | Tuple _ _ _ => cases h
    | _ =>
      unfold swappedStores
      split
      · rename_i e1
        split at e1 <;> first | (rename_i hh; cases hh; done) | cases e1
      · rfl
theorem chkG_star {tg : TG} {g : Expr} (h : chkG C tg g = true) : notStar g = true := by
  cases g with
  | Starred _ _ => cases tg <;> cases h
  | _ => rfl
theorem assign_one {g : Expr} {env : Env} (h : notStar g = true) : (assignEach [g] env).map (·.2) = [assign g env] := by
  cases g <;> first | rfl | cases h
theorem aug_ok {o : Operator} : PIp X o (rB X.K (augV o)) := by
  intro pins s σ H x y vv uu Q I rx ry ⟨F, st, v, w, rs, dv, dw, h⟩
  unfold augV at h
  split at h
  · cases dv; cases dw
    exact iop_add pins s σ H _ _ _ _ Q I rx ry ⟨_, _, rfl, rfl, h.now rs (.int _)⟩
  · cases dv; cases dw
    exact iop_sub pins s σ H _ _ _ _ Q I rx ry ⟨_, _, rfl, rfl, h.now rs (.int _)⟩
  · exact h.elim
/-- an expression, then a target -/
theorem sS_asg {tg : TG} {a : E} {D : Ends} {σ : L2.St} {H : Hp} (q : tls X W (wpS (.asg tg a)) D σ H) : tAsg (tl X W (wpE a)) (tlG X.K tg) D σ H := by
  obtain ⟨F, τ, st, rs, sl, h⟩ := q
  unfold wpS at h
  refine tl_go (wpE_mono a) .refl rs sl (wpE_mono a (PD.lx sl) (fun _ _ h => h) h) fun F1 H1 y v st1 e1 rs1 sl1 d1 h1 => ?_
  cases e : tg.asg v τ with
  | none => rw [e] at h1; exact h1.elim
  | some τ' =>
    rw [e] at h1
    exact ⟨F1, τ, τ', v, sl1, d1, e, fun σ' sl' _ => h1 F1 H1 σ' e1 rs1 sl'⟩
/-- a def's own frame is the topmost one -/
abbrev StkOk (X : Cx) : Prop := X.stack = X.env :: X.outer ∧ X.env.frame = some X.env.locals
theorem lookup_cons_if {α : Type} (n f : Str) (v : α) : ([(f, v)] : List (Str × α)).lookup n = if n = f then some v else none := by
  rw [List.lookup_cons]
  by_cases h : n = f
  · subst h; simp
  · have e : (n == f) = false := by simpa using h
    rw [e, if_neg h]; rfl
mutual
theorem sS : ∀ (s : S) {X : Cx} {C : SC} {k : Nat} {W : WX} {x : Stmt}, CxOk X C k W → StkOk X → chkS s C x = true → needS (pfX X k) (pkX X k) (pgX X) (pxX X k) s → PS X x (tls X W (wpS s))
  | .asg tg a, X, C, k, W, x, ok, hs, hc, hn => by
    unfold chkS at hc
    split at hc
    · simp only [Bool.and_eq_true] at hc
      obtain ⟨⟨⟨h1, h2⟩, h3⟩, h4⟩ := hc
      exact impS (ps_asg (sE a ok h4 hn) (sG tg ok h1) (notComp_swaps h2 _ _ _) (noswap h3) (assign_one (chkG_star h1))) fun D σ H q => sS_asg q
    · cases hc
  | .asgLc i a, X, C, k, W, x, ok, hs, hc, hn => by
    unfold chkS at hc
    split at hc
    · rename_i y py elt gs scope pos spos
      simp only [Bool.and_eq_true, decide_eq_true_eq] at hc
      obtain ⟨⟨⟨⟨⟨g1, g2⟩, g3⟩, g4⟩, g5⟩, g6⟩ := hc
      cases a with
      | comp m vs tg it ts elt' =>
        unfold chkE at g6
        split at g6
        · rename_i x0 g y ifs kz scope' pos' e6
          cases e6
          simp only [Bool.and_eq_true, decide_eq_true_eq] at g6
          obtain ⟨⟨⟨⟨⟨⟨⟨⟨⟨hk, hown⟩, hblk⟩, hsl⟩, hset⟩, h1⟩, h2⟩, h3⟩, h4⟩, h5⟩ := g6
          have ek := eq_of_beq hk
          subst ek
          have hb := fun s H a cl fp => ok.blk (vs := vs) (scope := scope) hblk s H a cl fp
          have hbk : BlkOk X.N X.env.scope scope (ownOf C.N vs) := by rw [ok.hN, ok.hsc]; exact blkOk_by hblk
          have hsw := sw_true (elt := elt) (gs := [⟨g, y, ifs, 0⟩]) (pos := pos) (py := py) (l := spos.line) (env := X.env) (by rw [ok.hsc]; have := ok.kindF; exact this) (by rw [ok.hsc]; exact g2) g3 (scope := scope) (by simpa using g4)
          have := ps_setLc (X := X) (i := i) (py := py) (elt := elt) (tg := g) (iter := y) (ifs := ifs) (scope := scope) (own := ownOf C.N vs) (pos := pos) (spos := spos) (g := tlG X.K tg) (tt := tlT X (fun _ _ _ _ => False) (wpTs .And ts)) (te := tl X (fun _ _ _ _ => False) (wpE elt'))
            ok.calm (by rw [ok.hN]; exact ok.nd) (by rw [ok.hN]; exact g1) (by rw [ok.hsc]; exact g2) hsw (sI it ok h1 hn.1) hbk
            (fun s H a cl fp => sG tg (hb s H a cl fp) h2)
            (fun s H a cl fp => sPTs ts (hb s H a cl fp) h3 h4 hn.2.1)
            (fun s H a cl fp => sE elt' (hb s H a cl fp) h5 hn.2.2) (folded hset _)
          rw [hown] at this
          refine impS this fun D σ H q => ?_
          obtain ⟨F, τ, st, rs, sl, h⟩ := q
          unfold wpS at h
          have h := wpE_mono (.comp m vs tg it ts elt') (PD.lx sl) (fun _ _ h => h) h
          unfold wpE at h
          refine tlI_go (wpI_mono it) .refl rs sl h fun F1 H1 J xs oks st1 e1 rs1 sl1 wp hz h6 => ?_
          obtain ⟨h7, h8, h9⟩ := h6
          have hlen : xs.length ≤ sizeLine := by
            cases hr : it.isR with
            | true => exact h7 hr
            | false => exact hz hr
          have hlc := lc_sound (X := X) (Q := fun x H1 => gName i x σ H1 D.nx) (tt := tlT X (fun _ _ _ _ => False) (wpTs .And ts)) (te := tl X (fun _ _ _ _ => False) (wpE elt')) hsl rs1 sl1 wp h8 hlen
            (fun {ys s} h => newList_mono (fun v s h2 => (fun F2 H2 y x2 r2 d2 => h2 F2 H2 _ (e1.trans x2) r2 ((sl1.ext x2).set d2 i) : LQ X.K F1 H1 (fun x H1 => gName i x σ H1 D.nx) v s)) h) h9
            (fun σ H P q => let ⟨F, τ, st, rs, sl, h⟩ := q; ⟨F, τ, st, rs, sl, wpTs_mono ts (fun _ _ z => z.elim) (fun _ _ h => h) h⟩)
            (fun σ H P q => let ⟨F, τ, st, rs, sl, h⟩ := q; ⟨F, τ, st, rs, sl, wpE_mono elt' (fun _ _ z => z.elim) (fun _ _ h => h) h⟩) (fun hp h => wpTs_mono ts (fun _ _ z => z) hp h) (fun hp h => wpE_mono elt' (fun _ _ z => z) hp h)
          exact hlc
        · cases g6
      | _ => cases g5
    · cases hc
  | .setIx o i a, X, C, k, W, x, ok, hs, hc, hn => by
    unfold chkS at hc
    split at hc
    · rename_i y z ps e ps'
      simp only [Bool.and_eq_true] at hc
      obtain ⟨⟨⟨h1, h2⟩, h3⟩, h4⟩ := hc
      have hz : ∀ v, assign (.Subscript y z ps) X.env v = (do
          let ov ← holding [v] (eval y X.env)
          let iv ← holding [v, ov] (eval z X.env)
          standAt ps
          holding [v, ov, iv] (setItem ov iv v)
          release [v, ov, iv] []) := by
        intro v
        cases z <;> first | rfl | cases h1
      have hs : swapsWithSole [.Subscript y z ps] e ps'.line X.env = pure false := by
        show swapsWith e (some (.Subscript y z ps)) ps'.line X.env = pure false
        cases e <;> rfl
      refine impS (ps_asg (sE a ok h4 hn.2.2) (pg_sub (sE o ok h2 hn.1) (sE i ok h3 hn.2.1) set_ok hz) hs rfl rfl) fun D σ H q => ?_
      obtain ⟨F, τ, st, rs, sl, h⟩ := q
      unfold wpS at h
      refine tl_go (wpE_mono a) .refl rs sl (wpE_mono a (PD.lx sl) (fun _ _ h => h) h) fun F1 H1 y v st1 e1 rs1 sl1 d1 h1 => ?_
      refine tl_go (wpE_mono o) e1 rs1 sl1 (wpE_mono o (PD.lx sl) (fun _ _ h => h) h1) fun F2 H2 y2 v2 st2 e2 rs2 sl2 d2 h2 => ?_
      refine tl_go (wpE_mono i) (e1.trans e2) rs2 sl2 (wpE_mono i (PD.lx sl) (fun _ _ h => h) h2) fun F3 H3 y3 v3 st3 e3 rs3 sl3 d3 h3 => ?_
      refine ⟨F3, st3, v2, v3, v, rs3, d2.ext e3, d3, d1.ext (e2.trans e3), setIxV_mono (fun s4 h4 F4 H4 e4 rs4 => ?_) h3⟩
      exact h4 F4 H4 σ (((e1.trans e2).trans e3).trans e4) rs4 (sl3.ext e4)
    · cases hc
  | .aug i o a, X, C, k, W, x, ok, hs, hc, hn => by
    unfold chkS at hc
    split at hc
    · simp only [Bool.and_eq_true, decide_eq_true_eq] at hc
      obtain ⟨⟨⟨h1, h2⟩, h3⟩, h4⟩ := hc
      subst h3
      obtain ⟨l1, l2⟩ := ok.tg _ h2
      refine impS (ps_aug (i := i) (by rw [ok.hN]; exact ok.nd) (by rw [ok.hN]; exact h1) (by rw [ok.hsc]; exact l1) (sE a ok h4 hn) aug_ok (by rw [ok.hsc]; exact l2)) fun D σ H q => ?_
      obtain ⟨F, τ, st, rs, sl, h⟩ := q
      unfold wpS at h
      cases e : getS τ i with
      | none => rw [e] at h; exact h.elim
      | some v =>
        rw [e] at h
        obtain ⟨y, e', d⟩ := sl.2 i v e
        refine ⟨y, e', tl_go (wpE_mono a) .refl rs sl (wpE_mono a (PD.lx sl) (fun _ _ h => h) h) fun F1 H1 y1 v1 st1 e1 rs1 sl1 d1 h1 => ?_⟩
        refine ⟨F1, st1, v, v1, rs1, d.ext e1, d1, augV_mono (fun z s2 h2 F2 H2 y2 e2 rs2 d2 => ?_) h1⟩
        exact h2 F2 H2 _ (e1.trans e2) rs2 ((sl1.ext e2).set d2 i)
    · cases hc
  | .expr a, X, C, k, W, x, ok, hs, hc, hn => by
    unfold chkS at hc
    split at hc
    · simp only [Bool.and_eq_true] at hc
      refine impS (ps_expr (sE a ok hc.2 hn) (notComp_swaps hc.1 _ _ _)) fun D σ H q => ?_
      obtain ⟨F, τ, st, rs, sl, h⟩ := q
      unfold wpS at h
      exact tl_go (wpE_mono a) .refl rs sl (wpE_mono a (PD.lx sl) (fun _ _ h => h) h) fun F1 H1 y1 v1 st1 e1 rs1 sl1 d1 h1 => h1 F1 H1 σ e1 rs1 sl1
    · cases hc
  | .ret a, X, C, k, W, x, ok, hs, hc, hn => by
    unfold chkS at hc
    split at hc
    · refine impS (ps_ret (sE a ok hc hn)) fun D σ H q => ?_
      obtain ⟨F, τ, st, rs, sl, h⟩ := q
      unfold wpS at h
      exact ⟨F, τ, st, rs, sl, wpE_mono a (PD.lx sl) (fun _ _ h => h) h⟩
    · cases hc
  | .retN, X, C, k, W, x, ok, hs, hc, hn => by
    unfold chkS at hc
    split at hc
    · refine impS ps_retN fun D σ H q => ?_
      obtain ⟨F, τ, st, rs, sl, h⟩ := q
      exact h F H _ .refl rs .non
    · cases hc
  | .ite t a b, X, C, k, W, x, ok, hs, hc, hn => by
    unfold chkS at hc
    split at hc
    · simp only [Bool.and_eq_true] at hc
      obtain ⟨⟨h1, h2⟩, h3⟩ := hc
      refine impS (ps_if (sT t ok h1 hn.1) (sSs a ok hs h2 hn.2.1) (sSs b ok hs h3 hn.2.2)) fun D σ H q => ?_
      obtain ⟨F, τ, st, rs, sl, h⟩ := q
      unfold wpS at h
      refine tlT_go (wpT_mono t) .refl rs sl (wpT_mono t (PD.lx sl) (fun _ _ h => h) h) fun F1 H1 c st1 e1 rs1 sl1 h1 => ?_
      cases c with
      | true => exact ⟨F1, τ, st1, rs1, sl1, wpSs_mono a (PD.ext e1) h1⟩
      | false => exact ⟨F1, τ, st1, rs1, sl1, wpSs_mono b (PD.ext e1) h1⟩
    · cases hc
  | .loop tg it b, X, C, k, W, x, ok, hs, hc, hn => by
    unfold chkS at hc
    split at hc
    · simp only [Bool.and_eq_true] at hc
      obtain ⟨⟨⟨h1, h2⟩, h3⟩, h4⟩ := hc
      refine impS (ps_for ok.po ok.calm (sI it ok h3 hn.1) (sG tg ok h1) (sSs b ok hs h4 hn.2) (folded h2 _)) fun D σ H q => ?_
      obtain ⟨F, τ, st, rs, sl, h⟩ := q
      unfold wpS at h
      refine tlI_go (wpI_mono it) .refl rs sl (wpI_mono it (PD.lx sl) (fun _ _ _ h => h) h) fun F1 H1 J xs oks st1 e1 rs1 sl1 wp hz h6 => ?_
      refine ⟨fun i m σ H2 => m = xs.length - i ∧ i ≤ xs.length ∧ ∃ F2 τ2 st2, Ext F1 H1 F2 H2 ∧ RS X.K H2 F2 st2 ∧ RSl X.K H2 F2 τ2 σ ∧ forL tg (wpSs b) oks (xs.drop i) (PD X W D F H) τ2 st2,
        ⟨xs.length, rfl, Nat.zero_le _, F1, τ, st1, .refl, rs1, sl1, h6⟩, ?_⟩
      rintro i m σ2 H2 ⟨rfl, hi, F2, τ2, st2, x2, r2, sl2, hf⟩
      by_cases hlt : i < xs.length
      · have hd : xs.drop i = xs[i] :: xs.drop (i + 1) := List.drop_eq_getElem_cons hlt
        rw [hd] at hf
        have hf' : oks st2 ∧ oP (tg.asg xs[i] τ2) fun τ1 => wpSs b { PD X W D F H with nx := forL tg (wpSs b) oks (xs.drop (i + 1)) (PD X W D F H), ct := forL tg (wpSs b) oks (xs.drop (i + 1)) (PD X W D F H), bk := (PD X W D F H).nx } τ1 st2 := hf
        refine .inr ⟨wp.go i F2 H2 _ hlt x2 r2 hf'.1, fun σ' H' => ∃ F3 τ3 st3, Ext F1 H1 F3 H' ∧ RS X.K H' F3 st3 ∧ RSl X.K H' F3 τ3 σ' ∧ forL tg (wpSs b) oks (xs.drop (i + 1)) (PD X W D F H) τ3 st3,
          fun σ' H' ⟨F3, τ3, st3, a1, a2, a3, a4⟩ => ⟨xs.length - (i + 1), by omega, rfl, hlt, F3, τ3, st3, a1, a2, a3, a4⟩, fun x H' y => ?_⟩
        obtain ⟨x3, r3, v, hv, dv⟩ := wp.yld i F2 H2 _ x H' hlt x2 r2 hf'.1 y
        rw [List.getElem?_eq_getElem hlt] at hv
        cases (Option.some.inj hv)
        have h8 := hf'.2
        cases ea : tg.asg xs[i] τ2 with
        | none => rw [ea] at h8; exact h8.elim
        | some τ3 =>
          rw [ea] at h8
          refine ⟨F2, τ2, τ3, _, sl2.ext x3, dv, ea, fun σ3 sl3 _ => ⟨F2, τ3, st2, r3, sl3, wpSs_mono b ?_ h8⟩⟩
          have x13 := x2.trans x3
          have le := PD.ext (X := X) (W := W) (D := D) (e1.trans x13)
          exact ⟨fun τ' s' h F' H'' σ' x4 r4 sl4 => ⟨F', τ', s', x13.trans x4, r4, sl4, h⟩, le.rt, le.nx, fun τ' s' h F' H'' σ' x4 r4 sl4 => ⟨F', τ', s', x13.trans x4, r4, sl4, h⟩, le.ex⟩
      · have e : i = xs.length := by omega
        subst e
        rw [List.drop_length] at hf
        exact .inl ⟨wp.stop F2 H2 _ x2 r2 hf.1, hf.2 F2 H2 σ2 (e1.trans x2) r2 sl2⟩
    · cases hc
  | .while t b, X, C, k, W, x, ok, hs, hc, hn => by
    unfold chkS at hc
    split at hc
    · simp only [Bool.and_eq_true] at hc
      refine impS (ps_while ok.po (sT t ok hc.1 hn.1) (sSs b ok hs hc.2 hn.2)) fun D σ H q => ?_
      obtain ⟨F, τ, st, rs, sl, h⟩ := q
      unfold wpS at h
      obtain ⟨Wv, ⟨n0, w0⟩, h⟩ := h
      refine ⟨fun n σ2 H2 => ∃ F2 τ2 st2, Ext F H F2 H2 ∧ RS X.K H2 F2 st2 ∧ RSl X.K H2 F2 τ2 σ2 ∧ Wv n τ2 st2, ⟨n0, F, τ, st, .refl, rs, sl, w0⟩, ?_⟩
      rintro n σ2 H2 ⟨F2, τ2, st2, x2, r2, sl2, w2⟩
      have h2 := h n τ2 st2 w2
      refine ⟨F2, τ2, st2, r2, sl2, wpT_mono t (fun e s h => PD.lx sl2 e s ((PD.ext x2).ex _ _ _ h)) (fun c s hcs => ?_) h2⟩
      intro F3 H3 x3 r3
      have x13 := x2.trans x3
      have le := PD.ext (X := X) (W := W) (D := D) x13
      cases c with
      | true =>
        refine ⟨fun σ' H' => ∃ m, m < n ∧ ∃ F4 τ4 st4, Ext F H F4 H' ∧ RS X.K H' F4 st4 ∧ RSl X.K H' F4 τ4 σ' ∧ Wv m τ4 st4, fun σ' H' ⟨m, hm, q⟩ => ⟨m, hm, q⟩, F3, τ2, s, r3, sl2.ext x3, wpSs_mono b ?_ hcs⟩
        exact ⟨fun τ' s' ⟨m, hm, hw⟩ F' H'' σ' x4 r4 sl4 => ⟨m, hm, F', τ', s', x13.trans x4, r4, sl4, hw⟩, le.rt, le.nx, fun τ' s' ⟨m, hm, hw⟩ F' H'' σ' x4 r4 sl4 => ⟨m, hm, F', τ', s', x13.trans x4, r4, sl4, hw⟩, le.ex⟩
      | false => exact hcs F3 H3 σ2 x13 r3 (sl2.ext x3)
    · cases hc
  | .pass, X, C, k, W, x, ok, hs, hc, hn => by
    unfold chkS at hc
    split at hc
    · refine impS ps_pass fun D σ H q => ?_
      obtain ⟨F, τ, st, rs, sl, h⟩ := q
      exact h F H σ .refl rs sl
    · cases hc
  | .brk, X, C, k, W, x, ok, hs, hc, hn => by
    unfold chkS at hc
    split at hc
    · refine impS ps_break fun D σ H q => ?_
      obtain ⟨F, τ, st, rs, sl, h⟩ := q
      exact h F H σ .refl rs sl
    · cases hc
  | .cont, X, C, k, W, x, ok, hs, hc, hn => by
    unfold chkS at hc
    split at hc
    · refine impS ps_continue fun D σ H q => ?_
      obtain ⟨F, τ, st, rs, sl, h⟩ := q
      exact h F H σ .refl rs sl
    · cases hc
  | .never, X, C, k, W, x, ok, hs, hc, hn => by
    refine impS ps_never fun D σ H q => ?_
    obtain ⟨F, τ, st, rs, sl, h⟩ := q
    exact h
  | .raise c es, X, C, k, W, x, ok, hs, hc, hn => by
    unfold chkS at hc
    split at hc
    · rename_i y p x0 xr q pos
      simp only [Bool.and_eq_true, decide_eq_true_eq] at hc
      obtain ⟨⟨e, hg⟩, h1⟩ := hc
      subst e
      obtain ⟨⟨hk, Cc, fI, fd, m1, m2, m3, m4, m5, m6, m7⟩, hn2⟩ := hn
      obtain ⟨g1, g2⟩ := ok.gl hg
      have hst : notStar x0 = true := by
        cases es with
        | nil => cases h1
        | cons a as =>
          have h' : (notStar x0 && chkE a C x0 && chkEs as C xr) = true := h1
          simp only [Bool.and_eq_true] at h'
          exact h'.1.1
      have hall := chkEs_star h1 X.env
      rw [star_cons hst, List.all_cons, Bool.and_eq_true] at hall
      refine impS (ps_raise ok.calm ok.tk (pmk_oex (ds := []) (dvs := []) m2 m3 m4 m7 (ok.room.mono hk) m5 .nil (fun _ _ _ _ _ _ _ c => by obtain ⟨_, _, _, _, _, _, _, _, _, _, _, _, z⟩ := c; exact z.elim) g1 m1 (sA es ok h1 hn2) g2 (star_cons hst) (backTo_any hall.2))) fun D σ H qq => ?_
      obtain ⟨F, τ, st, rs, sl, h⟩ := qq
      unfold wpS at h
      refine tlA_go (wpEs_mono es) .refl rs sl (wpEs_mono es (PD.lx sl) (fun _ _ h => h) h) fun F1 H1 ys vs st1 e1 rs1 sl1 d1 h1 => ?_
      obtain ⟨v, rfl, hv, h2⟩ := h1
      cases d1 with
      | cons dv dn =>
        rename_i yv ys'
        cases dn
        refine ⟨show 1 ≤ 1000 by decide, fun a ha => ?_⟩
        have okv : okV c yv := by
          cases dv with
          | str t => exact hv
          | _ => exact False.elim hv
        refine ⟨a, yv, rfl, okv, m2, m6, upd_same, fun dx hdx hne => ⟨rfl, dx, [(fldOf c, yv)], upd_same, ?_, ?_, ?_⟩⟩
        · rw [upd_ne hne, upd_same]
        · rw [upd_ne hne] at hdx; exact hdx
        · have hd1 : H1 dx = none := by rw [upd_ne hne] at hdx; exact hdx
          have eH : upd (del (upd (upd (upd H1 a (exo a Cc none)) dx (exd dx [(fldOf c, yv)])) a (exo a Cc (some dx))) a) dx (.xd [(fldOf c, yv)]) = upd H1 dx (.xd [(fldOf c, yv)]) := by
            funext b
            by_cases hb : b = dx
            · rw [hb, upd_same, upd_same]
            · rw [upd_ne hb, upd_ne hb]
              by_cases hba : b = a
              · rw [hba, del_same, ha]
              · rw [del_ne hba, upd_ne hba, upd_ne hb, upd_ne hba]
          rw [eH]
          refine h2 F1 _ σ _ _ (e1.trans (.new hd1)) (rs1.new hd1) (sl1.ext (.new hd1)) ⟨Cc, rfl, m1, dx, _, rfl, upd_same, fun n v e => ?_⟩
          have e := (lookup_cons_if n (fldOf c) _).symm.trans e
          split at e
          · rename_i hn
            cases e
            exact ⟨yv, by rw [hn, lookup_cons_if, if_pos rfl], dv.ext (.new hd1)⟩
          · cases e
    · cases hc
  | .tryX b c i h, X, C, k, W, x, ok, hs, hc, hn => by
    unfold chkS at hc
    split at hc
    · rename_i xs y py n z pz ph pos
      simp only [Bool.and_eq_true, decide_eq_true_eq] at hc
      obtain ⟨⟨⟨⟨⟨h1, e⟩, hg⟩, hi⟩, hl⟩, hx⟩ := hc
      subst e
      obtain ⟨⟨D0, m1, m2⟩, hnx, hnb⟩ := hn
      obtain ⟨g1, g2⟩ := ok.gl hg
      let ts : Addr → Value → Option Addr → TS := fun a cls d D σ H => (∃ (e1 : Exn) (Cc dx : Addr), e1.1 ∈ excNames ∧ cls = .ref Cc ∧ X.mg e1.1 = some (.ref Cc) ∧ d = some dx) ∧ tlX X cls d i a (wpX h) σ H D.rt
      refine impS (ps_try_as (tb := fun W' => tls X W' (wpSs b)) (ts := ts) hs.1 hs.2 (by rw [ok.hN]; exact ok.nd) (by rw [ok.hN]; exact hi) (by show X.env.scope.names.lookup n = _; rw [ok.hsc]; exact hl) ⟨g1, g2, .inl m1⟩ ok.tk ?_ ?_) fun D σ H qq => ?_
      · intro W' pn xe tk' po'
        have ok' : CxOk (X.tr pn xe) C k W' := { hN := ok.hN, nd := ok.nd, hsc := ok.hsc, calm := ok.calm, kindF := ok.kindF, room := ok.room, gds := ok.gds, tk := tk', po := po', tg := ok.tg, blt := ok.blt }
        exact sSs b ok' hs h1 hnb
      · intro a oe cls d pn hz hf
        by_cases hgood : ∃ (e1 : Exn) (Cc dx : Addr), e1.1 ∈ excNames ∧ cls = .ref Cc ∧ X.mg e1.1 = some (.ref Cc) ∧ d = some dx
        · obtain ⟨e1, Cc, dx, hm, rfl, mc, rfl⟩ := hgood
          have S : SuOk X C k W n i a Cc dx oe pn := ⟨ok, hi, hl, hz, hf, (m2 _ hm _ mc).2⟩
          exact impSs (pss_cons (ps_ret (sX h S hx hnx)) pss_nil) fun D σ H q => q.2
        · exact ⟨fun pins s σ H D I q => absurd q.1 hgood⟩
      · obtain ⟨F, τ, st, rs, sl, hw⟩ := qq
        unfold wpS at hw
        refine ⟨F, τ, st, rs, sl, wpSs_mono b ?_ hw⟩
        refine ⟨fun _ _ h => h, fun _ _ h => h, fun _ _ h => h, fun _ _ h => h, fun e τ' s h F' H' σ' cls d x r sl' rep => ?_⟩
        obtain ⟨hm, h⟩ := h
        obtain ⟨Cc, e1, mc, dx, fs, e2, r4, r5⟩ := id rep
        subst e1 e2
        refine ⟨subC e.1 c, (m2 e.1 hm Cc mc).1, fun hb a ha => ?_, fun hb => ?_⟩
        · rw [hb] at h
          obtain ⟨hg0, hlt, hw⟩ := h
          refine ⟨⟨e, Cc, dx, hm, rfl, mc, rfl⟩, F', τ', s, e, ⟨r, ⟨by rw [List.length_set]; exact sl'.1, fun j v ej => ?_⟩, ?_, hm, rep⟩, wpX_mono _ (fun v h => LQ.ext x _ _ h) hw⟩
          · obtain ⟨y, e3, dy⟩ := sl'.2 j v ej
            refine ⟨y, ?_, dy⟩
            rw [List.getElem?_set_ne (fun z => by rw [← z, hg0] at ej; cases ej)]
            exact e3
          · rw [List.getElem?_set_self (by rw [← sl'.1]; exact hlt)]
        · rw [hb] at h
          exact h F' H' σ' _ _ x r sl' rep
    · cases hc
  | .tryH b c i h, X, C, k, W, x, ok, hs, hc, hn => by
    unfold chkS at hc
    split at hc
    · rename_i xs y py n z zs ph pos
      simp only [Bool.and_eq_true, decide_eq_true_eq] at hc
      obtain ⟨⟨⟨⟨⟨h1, e⟩, hg⟩, hi⟩, hl⟩, hx⟩ := hc
      subst e
      obtain ⟨⟨D0, m1, m2⟩, hnx, hnb⟩ := hn
      obtain ⟨g1, g2⟩ := ok.gl hg
      let ts : Addr → Value → Option Addr → TS := fun a cls d D σ H => (∃ (e1 : Exn) (Cc dx : Addr), e1.1 ∈ excNames ∧ cls = .ref Cc ∧ X.mg e1.1 = some (.ref Cc) ∧ d = some dx) ∧ tlXS X cls d i a (wpXSs h) D σ H
      refine impS (ps_try_as (tb := fun W' => tls X W' (wpSs b)) (ts := ts) hs.1 hs.2 (by rw [ok.hN]; exact ok.nd) (by rw [ok.hN]; exact hi) (by show X.env.scope.names.lookup n = _; rw [ok.hsc]; exact hl) ⟨g1, g2, .inl m1⟩ ok.tk ?_ ?_) fun D σ H qq => ?_
      · intro W' pn xe tk' po'
        have ok' : CxOk (X.tr pn xe) C k W' := { hN := ok.hN, nd := ok.nd, hsc := ok.hsc, calm := ok.calm, kindF := ok.kindF, room := ok.room, gds := ok.gds, tk := tk', po := po', tg := ok.tg, blt := ok.blt }
        exact sSs b ok' hs h1 hnb
      · intro a oe cls d pn hz hf
        by_cases hgood : ∃ (e1 : Exn) (Cc dx : Addr), e1.1 ∈ excNames ∧ cls = .ref Cc ∧ X.mg e1.1 = some (.ref Cc) ∧ d = some dx
        · obtain ⟨e1, Cc, dx, hm, rfl, mc, rfl⟩ := hgood
          have S : SuOk X C k W n i a Cc dx oe pn := ⟨ok, hi, hl, hz, hf, (m2 _ hm _ mc).2⟩
          exact impSs (sXSs h S hx hnx) fun D σ H q => q.2
        · exact ⟨fun pins s σ H D I q => absurd q.1 hgood⟩
      · obtain ⟨F, τ, st, rs, sl, hw⟩ := qq
        unfold wpS at hw
        refine ⟨F, τ, st, rs, sl, wpSs_mono b ?_ hw⟩
        refine ⟨fun _ _ h => h, fun _ _ h => h, fun _ _ h => h, fun _ _ h => h, fun e τ' s h F' H' σ' cls d x r sl' rep => ?_⟩
        obtain ⟨hm, h⟩ := h
        obtain ⟨Cc, e1, mc, dx, fs, e2, r4, r5⟩ := id rep
        subst e1 e2
        refine ⟨subC e.1 c, (m2 e.1 hm Cc mc).1, fun hb a ha => ?_, fun hb => ?_⟩
        · rw [hb] at h
          obtain ⟨hg0, hlt, hw⟩ := h
          refine ⟨⟨e, Cc, dx, hm, rfl, mc, rfl⟩, F', τ', s, e, ⟨r, ⟨by rw [List.length_set]; exact sl'.1, fun j v ej => ?_⟩, ?_, hm, rep⟩, wpXSs_mono _ (fun s1 h F2 H2 x2 rs2 => ?_) (fun v s h => LQ.ext x _ _ h) hw⟩
          · obtain ⟨y, e3, dy⟩ := sl'.2 j v ej
            refine ⟨y, ?_, dy⟩
            rw [List.getElem?_set_ne (fun z => by rw [← z, hg0] at ej; cases ej)]
            exact e3
          · rw [List.getElem?_set_self (by rw [← sl'.1]; exact hlt)]
          · refine h F2 H2 _ (x.trans x2) rs2 ⟨by rw [List.length_set, List.length_set]; exact sl'.1, fun j v ej => ?_⟩
            obtain ⟨y, e3, dy⟩ := (sl'.ext x2).2 j v ej
            refine ⟨y, ?_, dy⟩
            have ne : i ≠ j := fun z => by rw [← z, hg0] at ej; cases ej
            rw [List.getElem?_set_ne ne, List.getElem?_set_ne ne]
            exact e3
        · rw [hb] at h
          exact h F' H' σ' _ _ x r sl' rep
    · cases hc
theorem sSs : ∀ (s : Ss) {X : Cx} {C : SC} {k : Nat} {W : WX} {x : List Stmt}, CxOk X C k W → StkOk X → chkSs s C x = true → needSs (pfX X k) (pkX X k) (pgX X) (pxX X k) s → PSs X x (tls X W (wpSs s))
  | .nil, X, C, k, W, xs, ok, hs, hc, hn => by
    cases xs with
    | cons _ _ => cases hc
    | nil =>
      refine impSs pss_nil fun D σ H q => ?_
      obtain ⟨F, τ, st, rs, sl, h⟩ := q
      exact h F H σ .refl rs sl
  | .cons s ss, X, C, k, W, xs, ok, hs, hc, hn => by
    cases xs with
    | nil => cases hc
    | cons x r =>
      have h' : (chkS s C x && chkSs ss C r) = true := hc
      simp only [Bool.and_eq_true] at h'
      refine impSs (pss_cons (sS s ok hs h'.1 hn.1) (sSs ss ok hs h'.2 hn.2)) fun D σ H q => ?_
      obtain ⟨F, τ, st, rs, sl, h⟩ := q
      unfold wpSs at h
      refine ⟨F, τ, st, rs, sl, wpS_mono s ?_ h⟩
      exact ⟨fun τ' s' h F' H' σ' e r sl => ⟨F', τ', s', r, sl, wpSs_mono ss (PD.ext e) h⟩, fun _ _ h => h, fun _ _ h => h, fun _ _ h => h, fun _ _ _ h => h⟩
end
end
end TK

set_option maxRecDepth 100000
set_option maxHeartbeats 4000000
namespace TK
open PySem PySem.Spec PyProof.Rows L2
/-! ### a def by its body -/
theorem getS_some : ∀ {τ : Sl} {i : Nat} {v : PV}, getS τ i = some v → τ[i]? = some (some v)
  | [], _, _, h => by cases h
  | _ :: _, 0, _, h => by
    have h' : _ = some _ := h
    rw [List.getElem?_cons_zero]; exact congrArg some h'
  | _ :: r, i + 1, v, h => by
    rw [List.getElem?_cons_succ]
    exact getS_some (τ := r) h
theorem start_init {K : PySem.W.Frag} {H : Hp} {F : FS} {N : List Str} {pvs : List PV} {vs : List V} (d : DVs K H F pvs vs) : RSl K H F (initS N.length pvs) (L2.start N vs) := by
  have hl := d.length
  refine ⟨by unfold initS L2.start; simp only [List.length_append, List.length_map, List.length_replicate]; omega, fun i v e => ?_⟩
  have hi : (initS N.length pvs)[i]? = some (some v) := getS_some e
  unfold initS at hi
  by_cases h : i < pvs.length
  · rw [List.getElem?_append_left (by simpa using h), List.getElem?_map] at hi
    cases e2 : pvs[i]? with
    | none => rw [e2] at hi; cases hi
    | some w =>
      rw [e2] at hi; cases hi
      obtain ⟨y, e3, dy⟩ := d.get e2
      refine ⟨y, ?_, dy⟩
      unfold L2.start
      rw [List.getElem?_append_left (by simpa [← hl] using h), List.getElem?_map, e3]; rfl
  · rw [List.getElem?_append_right (by simpa using h), List.getElem?_replicate] at hi
    split at hi <;> cases hi
/-- a def as it stands behind the top, dvs its defaults -/
abbrev FunW (K : PySem.W.Frag) (x qual : Str) (st : Stmt) (dvs : List V) (f : Addr) (fd : FuncData) : Prop := FunD K x qual (defArgs st) (defBody st) (defScope st) dvs [] f fd
theorem funW_of {K : PySem.W.Frag} {x qual : Str} {st : Stmt} {f : Addr} {fd : FuncData} (F : L2.Fun K x qual st f fd) : FunW K x qual st [] f fd := by
  obtain ⟨oc, od, kV, doc, pm, an, cdv, ct, osl, e, lk, hcd⟩ := F.ex
  exact ⟨⟨oc, od, .none, kV, doc, pm, an, cdv, ct, osl, e, lk, hcd, .inl ⟨rfl, rfl⟩, .inl rfl⟩, F.kp⟩
theorem funW_mk {K : PySem.W.Frag} {x qual : Str} {st : Stmt} {f T : Addr} {oc : Value} {od an : Option Addr} {osl : Array (Option Value)} {kV doc pm cdv ct : Value} {dvs : List V} {o : Obj} {its : List Value} {m : Nat}
    (l : K.lookup f = some ⟨oc, od, .func (PySem.W.fnOf x qual (defArgs st) (defBody st) (defScope st) (.ref T) kV doc pm an cdv ct), osl⟩) (c : PySem.W.codeIn K cdv qual = true) (k : PySem.W.keepIn K (.ref f) = true)
    (lT : K.lookup T = some o) (oT : o.data = .seq its.toArray m) (r : Vals dvs its) (hd : dvs ≠ []) : FunW K x qual st dvs f (PySem.W.fnOf x qual (defArgs st) (defBody st) (defScope st) (.ref T) kV doc pm an cdv ct) :=
  ⟨⟨oc, od, .ref T, kV, doc, pm, an, cdv, ct, osl, rfl, l, c, .inr ⟨hd, T, o, its, m, rfl, lT, oT, r⟩, .inl rfl⟩, k⟩
/-- how a call binds whose last argument is given by its name -/
theorem FunW.bindsK {K : PySem.W.Frag} {x qual ks : Str} {st : Stmt} {f : Addr} {fd : FuncData} {dvs : List V} {ps : List Str} (F : FunW K x qual st dvs f fd) (n : Nat) (hd : dvs ≠ [])
    (h : ∀ (T : Addr) (kV doc pm : Value) (an : Option Addr) (cdv ct : Value) (us its : List Value) (w : Value), us.length = n → its.length = dvs.length →
      ∃ k, bindArgs (PySem.W.fnOf x qual (defArgs st) (defBody st) (defScope st) (.ref T) kV doc pm an cdv ct) ⟨us, [(ks, w)]⟩ = seqItems? (.ref T) >>= k ∧ k (some its.toArray) = pure (ps.zip (us ++ [w])))
    (s : Shared) (us : List Value) (w : Value) (X : K.In s.heap) (hl : us.length = n) : BindsTo s fd ⟨us, [(ks, w)]⟩ (ps.zip (us ++ [w])) := by
  obtain ⟨oc, od, dV, kV, doc, pm, an, cdv, ct, osl, rfl, lk, hcd, hD, hK⟩ := F.ex
  rcases hD with ⟨e, _⟩ | ⟨_, T, o, its, m, rfl, lT, oT, rT⟩
  · exact absurd e hd
  · obtain ⟨k, e1, e2⟩ := h T kV doc pm an cdv ct us its w hl rT.length.symm
    refine BindsTo.of_looks fun M => ?_
    rw [e1]
    exact looks_items X lT oT (.of_pure e2)
theorem fnG_of {P : Program} {w : World} {K : PySem.W.Frag} {mg : Str → Option Value} {base : Heap} {k n : Nat} {f : Addr} {fd : FuncData} {x qual : Str} {st : Stmt} {N ps : List Str} {sp : PSpec} {body : Ss}
    {dvs : List V} (F : FunW K x qual st dvs f fd) (S : FnScope N ps (defScope st)) (hbl : ∀ x ∈ bltNames, mg x = none) (hpn : ps.length = n)
    (hc : chkSs body ⟨N, defScope st, defScope st⟩ (defBody st) = true) (hn : needSs (HasFn ⟨P, w, K, mg, base⟩ k) (HasFnK ⟨P, w, K, mg, base⟩ k) (HasGl ⟨P, w, K, mg, base⟩) (HasX ⟨P, w, K, mg, base⟩ k) body)
    (hs : ∀ vs s Q X, vs.length = n → sp vs s Q X → wpFn N.length body vs s Q X) : FnG P w K mg base (k + 1) f fd ps (liftSp K mg n sp) := by
  obtain ⟨oc, od, dV, kV, doc, pm, an, cdv, ct, osl, rfl, lk, hcd, _, _⟩ := F.ex
  refine ⟨fun vs H Q E ⟨_, _, _, _, _, h, _⟩ => h.trans hpn.symm, fun A outer s H args us vs Q E hg hr e0 hb r hsp => ?_⟩
  obtain ⟨F0, s0, pvs, rs, dvs, hl, Q0, X0, hsp0, hQ0, hX0⟩ := hsp
  have hl' : vs.length = ps.length := hl.trans hpn.symm
  have KX : K.In s.heap := e0.mod.kin.keeps fun b o e => (e0.bs b o e).1
  have lim : s.heap.NoLimit := e0.mod.nolimit.keeps fun b o e => (e0.bs b o e).1
  have hkind : ∀ y ∈ ps.zip us, (defScope st).names.lookup y.1 = some .local ∨ ((defScope st).names.lookup y.1 = some .cell ∧ ((cellsFrom (s.heap.objs.size + 1) (defScope st).names []).lookup y.1).isSome = true) := fun ⟨n, v⟩ hy => by
    rcases S.par n (List.of_mem_zip hy).1 with q | q
    · exact .inl q
    · exact .inr ⟨q, PySem.W.cellsFrom_some _ _ _ (.inl q)⟩
  refine codeAny_call_function hr.depth (KX _ _ lk) rfl S.co S.gen rfl (PySem.W.codeRec_of KX hcd) (hb _ _ _ _ ?_)
  refine wpAny_newFunctionEnv_cells S.kind hkind fun env he s1 x => ?_
  subst he
  refine ⟨lim.keeps x.toInCall.keep, codeAny_func ?_⟩
  have hroom := hr.deeper (envOfC qual (defScope st) s.heap.objs.size f cdv)
  have ok : CxOk (cxOf (L2.CX P w) P w K mg base N qual (defScope st) f cdv A outer s H E) ⟨N, defScope st, defScope st⟩ k (fun cls d _ H => E cls d H) :=
    { hN := rfl, nd := S.nd, hsc := rfl, calm := rfl, kindF := S.kind, room := hroom, gds := hg, tk := takes_of rfl rfl rfl rfl, po := passes_of rfl, blt := hbl
      tg := fun y hy => by
        unfold locB at hy
        refine ⟨?_, .inl rfl⟩
        split at hy
        · exact .inl ‹_›
        · exact .inr ‹_›
        · cases hy }
  have ht := sSs body ok ⟨rfl, rfl⟩ hc hn
  have hq : tls (cxOf (L2.CX P w) P w K mg base N qual (defScope st) f cdv A outer s H E) (fun cls d _ H => E cls d H) (wpSs body) { nx := fun _ H' => Q .non H', rt := Q } (L2.start N vs) H := by
    have hw := hs pvs s0 Q0 X0 (dvs.length.trans hl) hsp0
    unfold wpFn at hw
    refine ⟨F0, initS N.length pvs, s0, rs, start_init dvs, wpSs_mono body ⟨?_, ?_, ?_, ?_, ?_⟩ hw⟩
    · rintro τ' s' ⟨s2, sub, h⟩ F' H' σ' ex r' _
      exact hQ0 _ _ h F' H' _ ex (r'.less sub) .non
    · rintro v s' ⟨s2, sub, h⟩ F' H' y ex r' d'
      exact hQ0 _ _ h F' H' y ex (r'.less sub) d'
    · exact fun _ _ h => h.elim
    · exact fun _ _ h => h.elim
    · rintro e τ' s' ⟨s2, sub, h⟩ F' H' σ' cls d ex r' _ rep
      exact hX0 _ _ h F' H' cls d ex (r'.less sub) rep
  have I : Inv (cxOf (L2.CX P w) P w K mg base N qual (defScope st) f cdv A outer s H E) [] (L2.start N vs) H s1 := inv_start S hr.hd e0 hl' r x
  refine wpAny_mono (ht.run [] s1 (L2.start N vs) H _ I hq) (fun fl s' hs => ?_) fun e s' hs => hs
  have fin : ∀ {σ' : L2.St} {H' : Hp} {v : V} {u : Value}, Inv (cxOf (L2.CX P w) P w K mg base N qual (defScope st) f cdv A outer s H E) [] σ' H' s' → RelV v u → Q v H' → CE outer P w H s Q u s' :=
    fun {σ' H' v u} J rv q => ⟨v, H', J.os, J.bare, J.base, J.hok, rv, q⟩
  cases fl with
  | ret u =>
    obtain ⟨v, σ', H', J, rv, q⟩ := hs
    exact fin J rv q
  | next =>
    obtain ⟨σ', H', J, q⟩ := hs
    exact fin (v := V.non) (u := Value.none) J rfl q
  | brk =>
    obtain ⟨_, _, _, q⟩ := hs
    exact False.elim q
  | cont =>
    obtain ⟨_, _, _, q⟩ := hs
    exact False.elim q
theorem hasFn_full {P : Program} {w : World} {K : PySem.W.Frag} {mg : Str → Option Value} {base : Heap} {k n : Nat} {f : Addr} {fd : FuncData} {x : Str} {ps : List Str} {sp : PSpec}
    (hm : mg x = some (.ref f)) (kp : PySem.W.keepIn K (.ref f) = true) (b : Binds K fd ps []) (hpn : ps.length = n) (G : FnG P w K mg base k f fd ps (liftSp K mg n sp)) : HasFn ⟨P, w, K, mg, base⟩ k x sp n :=
  ⟨f, fd, ps, [], [], [], sp, hm, kp, b, .nil, fun _ _ => .nil, hpn, fun vs _ _ _ h => by rw [List.append_nil]; exact h, G⟩
/-- every parameter is given by position -/
theorem hasFn_of {P : Program} {w : World} {K : PySem.W.Frag} {mg : Str → Option Value} {base : Heap} {k n : Nat} {f : Addr} {fd : FuncData} {x : Str} {st : Stmt} {N ps : List Str} {sp : PSpec} {body : Ss}
    (F : L2.Fun K x x st f fd) (hm : mg x = some (.ref f)) (b : Binds K fd ps []) (S : FnScope N ps (defScope st)) (hbl : ∀ x ∈ bltNames, mg x = none) (hpn : ps.length = n)
    (hc : chkSs body ⟨N, defScope st, defScope st⟩ (defBody st) = true) (hn : needSs (HasFn ⟨P, w, K, mg, base⟩ k) (HasFnK ⟨P, w, K, mg, base⟩ k) (HasGl ⟨P, w, K, mg, base⟩) (HasX ⟨P, w, K, mg, base⟩ k) body)
    (hs : ∀ vs s Q X, vs.length = n → sp vs s Q X → wpFn N.length body vs s Q X) : HasFn ⟨P, w, K, mg, base⟩ (k + 1) x sp n :=
  hasFn_full hm F.kp b hpn (fnG_of (funW_of F) S hbl hpn hc hn hs)
/-- one whose last parameters have defaults -/
theorem hasFn_dfl {P : Program} {w : World} {K : PySem.W.Frag} {mg : Str → Option Value} {base : Heap} {k n : Nat} {f : Addr} {fd : FuncData} {x : Str} {ps : List Str} {sp sp1 : PSpec} {ds : List Value} {dv : List V} {pv : List PV}
    (hm : mg x = some (.ref f)) (kp : PySem.W.keepIn K (.ref f) = true) (b : Binds K fd ps ds) (hv : Vals dv ds) (hp : ∀ H F, DVs K H F pv dv) (hpn : ps.length = n + pv.length) (h1 : ∀ vs st Q X, sp1 vs st Q X → sp (vs ++ pv) st Q X)
    (G : FnG P w K mg base k f fd ps (liftSp K mg ps.length sp)) : HasFn ⟨P, w, K, mg, base⟩ k x sp1 n :=
  ⟨f, fd, ps, ds, dv, pv, sp, hm, kp, b, hv, hp, hpn, h1, by rw [← hpn]; exact G⟩
theorem HasGl.int {Γ : Wd} {x : Str} {n : Int} {t : Tok} (h : Γ.mg x = some (.int n t)) : HasGl Γ x (.int n) := ⟨_, .int n, h, ⟨t, rfl⟩, fun _ _ => .int n⟩
theorem HasGl.str {Γ : Wd} {x : Str} {n : Str} {t : Tok} (h : Γ.mg x = some (.str n t)) : HasGl Γ x (.str n) := ⟨_, .str n, h, ⟨t, rfl⟩, fun _ _ => .str n⟩

theorem HasGl.tup {Γ : Wd} {x : Str} {a : Addr} {xs : List PV} {ys : List V} {o : Obj} {its : Array Value} {n : Nat} (h : Γ.mg x = some (.ref a)) (hk : Γ.K.lookup a = some o) (hc : o.cls = .type "tuple") (hd : o.data = .seq its n) (hz : its.size ≤ sizeLine) (hv : Vals ys its.toList)
    (hx : ∀ H F, DVs Γ.K H F xs ys) : HasGl Γ x (.tup xs) := ⟨_, .ref a, h, rfl, fun H F => .tup (.inr ⟨o, its, n, hk, hc, hd, hz, hv⟩) (hx H F)⟩
/-- a tuple of two numbers, ZERO for one -/
theorem HasGl.two {Γ : Wd} {x : Str} {a : Addr} {i j : Int} {od : Option Addr} {t u : Tok} {n : Nat} {sl : Array (Option Value)} (h : Γ.mg x = some (.ref a)) (hk : Γ.K.lookup a = some ⟨.type "tuple", od, .seq #[.int i t, .int j u] n, sl⟩) :
    HasGl Γ x (.tup [.int i, .int j]) :=
  .tup (ys := [.int i, .int j]) h hk rfl rfl (show 2 ≤ sizeLine by decide) (.cons ⟨_, rfl⟩ (.cons ⟨_, rfl⟩ .nil)) fun _ _ => .cons (.int i) (.cons (.int j) .nil)

/-! ### the law's own head -/
/-- a law's promise: a short script, and it answers True -/
def lawSp : PSpec := fun vs st Q _ => ∃ ns : List Int, vs = [.scr ns] ∧ ns.length ≤ 63 ∧ ∀ s, Q (.bl true) s
theorem scr_of {K : PySem.W.Frag} {H : Hp} {a : Addr} {ys : List V} (hO : Only H) (h : SqL K H a ys) : ScrL K H a ys := by
  rcases h with (h | h) | h
  · rcases hO a with z | ⟨o, xs, z⟩
    · rw [z] at h; cases h
    · rw [z] at h; cases h
  · exact .inl h
  · exact .inr (.inr h)
theorem lawcall {P : Program} {w : World} {K : PySem.W.Frag} {mg mb : Str → Option Value} {k : Nat} {fa a : Addr} {fd : FuncData} {x : Str} {s₁ : Shared} {vs : List Value} {ns : List Int}
    (KX : K.In s₁.heap) (hns : s₁.heap.Ns mainGlobals mg) (hb : s₁.heap.Ns builtinsNs mb) (hbb : ∀ x : Str, x ≠ "__name__" → mb x = bootBuiltins x) (hlim : s₁.heap.NoLimit) (hg : s₁.gens = #[])
    (ha : s₁.heap.get? a = some { cls := .type "list", data := .seq vs.toArray }) (hi : IntsAre vs ns) (hl : ns.length ≤ 63) (hr : Room k callerA)
    (F : ∀ base : Heap, K.In base → base.Ns mainGlobals mg → FnG P w K mg base k fa fd [x] (liftSp K mg 1 lawSp)) (hbind : ∀ (s : Shared) (u : Value), BindsTo s fd ⟨[u], []⟩ [(x, u)]) :
    codeAny (model P w) callerA (.call (.ref fa) ⟨[.ref a], []⟩) (fun r s' => r = .ok (.ret (.bool true)) ∧ OldK s₁.heap s'.heap ∧ s'.os = s₁.os ∧ AllBare s'.gens) s₁ := by
  have rv := vals_ints hi
  have lenV := hi.length
  have hlz : ns.length ≤ sizeLine := Nat.le_trans hl (by decide)
  have core : ∀ H : Hp, Only H → SqL K H a (ns.map V.int) → HOk P w H s₁.heap → (∀ b, H b ≠ none → b = a) → (H a ≠ none → K.lookup a = none) →
      codeAny (model P w) callerA (.call (.ref fa) ⟨[.ref a], []⟩) (fun r s' => r = .ok (.ret (.bool true)) ∧ OldK s₁.heap s'.heap ∧ s'.os = s₁.os ∧ AllBare s'.gens) s₁ := by
    intro H hO hS hok hA hK
    have base_of : ∀ {b : Addr} {o : Obj}, s₁.heap.get? b = some o → H b = none → (hidT s₁.heap H).get? b = some o := fun e n => hidT_get e n
    have noA : ∀ {b : Addr} {o : Obj} {es : Array DictEntry} {ep : Nat}, s₁.heap.get? b = some o → o.data = .dict es ep → H b = none := fun {b o es ep} e d => by
      cases q : H b with
      | none => rfl
      | some u =>
        have e' : b = a := hA b (by rw [q]; simp)
        subst e'
        rw [ha] at e; cases e
        have d' : Data.seq vs.toArray _ = Data.dict es ep := d
        cases d'
    have nsK : ∀ {b : Addr} {m : Str → Option Value}, s₁.heap.Ns b m → (hidT s₁.heap H).Ns b m := fun {b m} ⟨o, es, ep, e, d, r⟩ => ⟨o, es, ep, base_of e (noA e d), d, r⟩
    have hKb : K.In (hidT s₁.heap H) := fun b o e => base_of (KX b o e) (by
      cases q : H b with
      | none => rfl
      | some u =>
        have e' : b = a := hA b (by rw [q]; simp)
        subst e'
        rw [hK (by rw [q]; simp)] at e; cases e)
    have hM : Mod K mg (hidT s₁.heap H) := ⟨hKb, nsK hns, ⟨mb, nsK hb, hbb⟩, let ⟨mc, h1, h2⟩ := hlim; ⟨mc, nsK h1, h2⟩⟩
    have e0 : Env0 P w K mg (hidT s₁.heap H) callerA [] s₁ H := ⟨rfl, hM, fun b o e => of_hidT e, Nat.le_of_eq (hidT_size _ _), trivial, fun b hb => absurd (show b ∈ ([] : List Addr) from hb) (by simp), hok, .of_eq hg⟩
    have hsp : liftSp K mg 1 lawSp [.ref a] H (fun v _ => v = .bl true) fun _ _ _ => False :=
      ⟨fun _ => False, fun _ => none, [.scr ns], ⟨fun _ _ e => (nomatch e), fun _ e => (nomatch e), fun _ f => f.elim⟩, .cons (.scr (scr_of hO hS)) .nil, rfl,
        fun v _ => v = .bl true, fun _ _ => False, ⟨ns, rfl, hl, fun _ => rfl⟩, fun v s e F' H' y _ _ d => by subst e; cases d; rfl, fun _ _ h => h.elim⟩
    refine codeAny_mono ((F _ hKb (nsK hns)).run callerA [] s₁ H ⟨[.ref a], []⟩ [.ref a] [.ref a] _ _ rfl hr e0 (hbind s₁ (.ref a)) (.cons rfl .nil) hsp) fun r s' h => ?_
    cases r with
    | error e => exact (by
        obtain ⟨_, _, _, _, _, _, _, _, _, _, _, _, h⟩ := h
        exact h.elim)
    | ok fl =>
      cases fl with
      | next => exact False.elim h
      | brk => exact False.elim h
      | cont => exact False.elim h
      | ret u =>
        obtain ⟨v, H', os, bare, un, hok', r', q⟩ := h
        have q' : v = .bl true := q
        subst q'
        obtain rfl : u = Value.bool true := r'
        refine ⟨rfl, OldK.of_keep fun b o e => ?_, os, bare⟩
        cases q : H b with
        | none => exact un.keep b o e q (by intro z; exact absurd (show b ∈ ([] : List Addr) from z) (by simp)) (by simp)
        | some u =>
          rcases hO b with z | ⟨ob, xs, z⟩
          · rw [q] at z; cases z
          · have z2 := un.frzs b ob _ z
            obtain ⟨e1, _⟩ := hok b _ z
            obtain ⟨e2, _⟩ := hok' b _ z2
            rw [e] at e1; cases e1
            exact e2
  cases hk : K.lookup a with
  | some o =>
    have e := KX a o hk
    rw [ha] at e
    cases e
    refine core (fun _ => none) (fun _ => .inl rfl) (.inr ⟨_, vs.toArray, _, hk, rfl, rfl, rfl, by rw [List.size_toArray, lenV]; exact hlz, by simpa using rv⟩) (fun b u z => by have z' : (none : Option HO) = some u := z; cases z') (fun b z => absurd rfl z) fun z => absurd rfl z
  | none =>
    refine core (fun b => if b = a then some (.frz { cls := .type "list", data := .seq vs.toArray } (.lst (ns.map V.int))) else none) (fun b => ?_) (.inl (.inr ⟨{ cls := .type "list", data := .seq vs.toArray }, if_pos rfl⟩)) (fun b u z => ?_) (fun b z => ?_) fun _ => hk
    · by_cases hb : b = a
      · exact .inr ⟨_, _, if_pos hb⟩
      · exact .inl (if_neg hb)
    · by_cases hb : b = a
      · have z' := (if_pos hb).symm.trans z
        cases z'
        subst hb
        exact ⟨ha, by rw [List.length_map]; exact hlz, vs, _, rv, ha⟩
      · have z' := (if_neg hb).symm.trans z
        cases z'
    · by_cases hb : b = a
      · exact hb
      · exact absurd (if_neg hb) z
/-- the goal that k_fill leaves, from the law's def -/
theorem walk_of {l : PySem.W.OpenLaw} {k : Nat} {q : Program} {loose : List Str} {XP : (Str → Option Value) → Heap → Prop} {YP : World → Heap → Prop} {d : DefRec} {K : Params → PySem.W.Frag} {x : Str}
    (hn : l.most = some 63) (hdf : d.params.defaults = []) (hr : Room k callerA)
    (hY : ∀ (w : World) (h : Heap), YP w h → (K w.params).In h)
    (F : ∀ (w : World) (mg : Str → Option Value) (fa : Addr) (h : Heap), (K w.params).In h → h.Ns mainGlobals mg → mg d.name = some (.ref fa) →
      ∃ fd : FuncData, (∀ (s : Shared) (u : Value), BindsTo s fd ⟨[u], []⟩ [(x, u)]) ∧
        ∀ base : Heap, (K w.params).In base → base.Ns mainGlobals mg → FnG l.prog w (K w.params) mg base k fa fd [x] (liftSp (K w.params) mg 1 lawSp)) :
    PySem.W.WalkO q loose XP YP l.row.toRowW d [] (fun f vs => PySem.call f vs) := by
  refine Att.attach_call hn hdf fun w s₀ s₁ mg mb fa o pm cd doc a vs ns G Y ho hd hcd hmg hobj hints hlen hg => ?_
  have KX := hY w _ Y
  obtain ⟨fd, hb, hF⟩ := F w mg fa _ KX G.T.g hmg
  exact lawcall KX G.T.g G.T.b G.T.builtins G.T.nolimit hg hobj hints hlen hr hF hb
end TK

set_option maxRecDepth 100000
set_option maxHeartbeats 4000000
namespace TK
open PySem PySem.Spec PyProof.Rows L2
/-! ### promises that bear weaker wishes -/
def Mono (sp : PSpec) : Prop := ∀ vs st (Q Q' : PQ) (X X' : EQ), (∀ v s, Q v s → Q' v s) → (∀ e s, X e s → X' e s) → sp vs st Q X → sp vs st Q' X'
theorem callS_eq {sp : PSpec} (m : Mono sp) {vs : List PV} {st : Store} {X : EQ} {Q : PQ} : callS sp vs st X Q = sp vs st Q X :=
  propext ⟨fun ⟨_, _, h, hq, hx⟩ => m _ _ _ _ _ _ hq hx h, fun h => ⟨Q, X, h, fun _ _ h => h, fun _ _ h => h⟩⟩
theorem callS_of {sp : PSpec} {vs : List PV} {st : Store} {X : EQ} {Q : PQ} (h : sp vs st Q X) : callS sp vs st X Q := ⟨Q, X, h, fun _ _ h => h, fun _ _ h => h⟩
/-! ### stepping -/
/-- the statements that are left -/
theorem wpSs_ex : Nonempty { f : Ss → PEnds → Sl → Store → Prop // f = wpSs } := ⟨⟨wpSs, rfl⟩⟩
/-- wpSs under a name that does not unfold -/
noncomputable def wpSsC : { f : Ss → PEnds → Sl → Store → Prop // f = wpSs } := Classical.choice wpSs_ex
noncomputable def Nx (ss : Ss) (D : PEnds) (τ : Sl) (st : Store) : Prop := wpSsC.1 ss D τ st
theorem Nx_eq {ss : Ss} {D : PEnds} {τ : Sl} {st : Store} : Nx ss D τ st = wpSs ss D τ st := congrFun (congrFun (congrFun (congrFun wpSsC.2 ss) D) τ) st
theorem Nx_fun {ss : Ss} {D : PEnds} : Nx ss D = wpSs ss D := by funext τ st; exact Nx_eq
theorem ss_nil {D : PEnds} {τ : Sl} {st : Store} : wpSs .nil D τ st = D.nx τ st := rfl
noncomputable def PEnds.nxt (D : PEnds) (ss : Ss) : PEnds := { D with nx := Nx ss D }
def PEnds.lp (D : PEnds) (J : Sl → Store → Prop) : PEnds := { D with nx := J, ct := J, bk := D.nx }
/-- the ends of a try's body -/
noncomputable def PEnds.tr (D : PEnds) (c : Str) (i : Nat) (h : XE) : PEnds := { D with ex := fun e τ' st' => e.1 ∈ excNames ∧ if subC e.1 c = true then getS τ' i = none ∧ i < τ'.length ∧ wpX h e τ' (fun v => D.rt v st') else D.ex e τ' st' }
noncomputable def PEnds.trH (D : PEnds) (c : Str) (i : Nat) (h : XSs) : PEnds := { D with ex := fun e τ' st' => e.1 ∈ excNames ∧ if subC e.1 c = true then getS τ' i = none ∧ i < τ'.length ∧ wpXSs h e τ' st' (D.nx τ') D.rt else D.ex e τ' st' }
theorem tr_nx {D : PEnds} {c : Str} {i : Nat} {h : XE} : (D.tr c i h).nx = D.nx := rfl
theorem trH_nx {D : PEnds} {c : Str} {i : Nat} {h : XSs} : (D.trH c i h).nx = D.nx := rfl
theorem tr_rt {D : PEnds} {c : Str} {i : Nat} {h : XE} : (D.tr c i h).rt = D.rt := rfl
theorem trH_rt {D : PEnds} {c : Str} {i : Nat} {h : XSs} : (D.trH c i h).rt = D.rt := rfl
theorem tr_bk {D : PEnds} {c : Str} {i : Nat} {h : XE} : (D.tr c i h).bk = D.bk := rfl
theorem trH_bk {D : PEnds} {c : Str} {i : Nat} {h : XSs} : (D.trH c i h).bk = D.bk := rfl
theorem tr_ct {D : PEnds} {c : Str} {i : Nat} {h : XE} : (D.tr c i h).ct = D.ct := rfl
theorem trH_ct {D : PEnds} {c : Str} {i : Nat} {h : XSs} : (D.trH c i h).ct = D.ct := rfl
theorem nxt_ex {D : PEnds} {ss : Ss} : (D.nxt ss).ex = D.ex := rfl
theorem lp_ex {D : PEnds} {J : Sl → Store → Prop} : (D.lp J).ex = D.ex := rfl
theorem ss_cons {s : S} {ss : Ss} {D : PEnds} {τ : Sl} {st : Store} : wpSs (.cons s ss) D τ st = wpS s (D.nxt ss) τ st := by
  unfold PEnds.nxt
  rw [Nx_fun]; rfl
theorem nxt_nx {D : PEnds} {ss : Ss} : (D.nxt ss).nx = Nx ss D := rfl
theorem nxt_rt {D : PEnds} {ss : Ss} : (D.nxt ss).rt = D.rt := rfl
theorem nxt_bk {D : PEnds} {ss : Ss} : (D.nxt ss).bk = D.bk := rfl
theorem nxt_ct {D : PEnds} {ss : Ss} : (D.nxt ss).ct = D.ct := rfl
theorem lp_nx {D : PEnds} {J : Sl → Store → Prop} : (D.lp J).nx = J := rfl
theorem lp_rt {D : PEnds} {J : Sl → Store → Prop} : (D.lp J).rt = D.rt := rfl
theorem lp_bk {D : PEnds} {J : Sl → Store → Prop} : (D.lp J).bk = D.nx := rfl
theorem lp_ct {D : PEnds} {J : Sl → Store → Prop} : (D.lp J).ct = J := rfl
theorem Nx_nil {D : PEnds} : Nx .nil D = D.nx := by funext τ st; exact Nx_eq
/-- an if: its arms are looked at later -/
noncomputable def Arm (ss : Ss) (D : PEnds) (τ : Sl) (st : Store) : Prop := wpSsC.1 ss D τ st
theorem Arm_eq {ss : Ss} {D : PEnds} {τ : Sl} {st : Store} : Arm ss D τ st = wpSs ss D τ st := congrFun (congrFun (congrFun (congrFun wpSsC.2 ss) D) τ) st
/-- the def's ends -/
def fnEnds (Q : PQ) (X : EQ) : PEnds := ⟨fun _ s => ∃ s0, Sub s0 s ∧ Q .non s0, fun v s => ∃ s0, Sub s0 s ∧ Q v s0, fun _ _ => False, fun _ _ => False, fun e _ s => ∃ s0, Sub s0 s ∧ X e s0⟩
theorem fn_eq {n : Nat} {b : Ss} {vs : List PV} {st : Store} {Q : PQ} {X : EQ} : wpFn n b vs st Q X = wpSs b (fnEnds Q X) (initS n vs) st := rfl
theorem fnRet {Q : PQ} {X : EQ} {v : PV} {s : Store} (s0 : Store) (hs : Sub s0 s) (h : Q v s0) : (fnEnds Q X).rt v s := ⟨s0, hs, h⟩
theorem Sub.rfl {s : Store} : Sub s s := fun _ _ h => h
theorem fnRet1 {Q : PQ} {X : EQ} {v : PV} {s : Store} (h : Q v s) : (fnEnds Q X).rt v s := ⟨s, .rfl, h⟩
theorem fnNx1 {Q : PQ} {X : EQ} {τ : Sl} {s : Store} (h : Q .non s) : (fnEnds Q X).nx τ s := ⟨s, .rfl, h⟩
theorem sub_new {s : Store} {p : Addr} {c : Option Cell} (h : s p = none) : Sub s (up s p c) := fun a d e => by
  by_cases n : a = p
  · subst n; rw [h] at e; cases e
  · rw [up_ne n]; exact e
theorem up_up {s : Store} {p : Addr} {c d : Option Cell} : up (up s p c) p d = up s p d := by
  funext a
  by_cases n : a = p
  · subst n; rw [up_same, up_same]
  · rw [up_ne n, up_ne n, up_ne n]
theorem up_id {s : Store} {p : Addr} {c : Option Cell} (h : s p = c) : up s p c = s := by
  funext a
  by_cases n : a = p
  · subst n; rw [up_same, h]
  · rw [up_ne n]
/-! ### loops -/
/-- a loop over items: what holds ahead of the rest -/
theorem for_ind {tg : TG} {b : Ss} {ok : Store → Prop} {D : PEnds} (J : List PV → Sl → Store → Prop)
    (hstep : ∀ x r τ st, J (x :: r) τ st → ok st ∧ oP (tg.asg x τ) fun τ1 => wpSs b (D.lp (J r)) τ1 st)
    (hend : ∀ τ st, J [] τ st → ok st ∧ D.nx τ st) : ∀ xs τ st, J xs τ st → forL tg (wpSs b) ok xs D τ st
  | [], τ, st, h => hend τ st h
  | x :: r, τ, st, h => by
    refine ⟨(hstep x r τ st h).1, ?_⟩
    have h2 := (hstep x r τ st h).2
    have ih := for_ind J hstep hend r
    cases e : tg.asg x τ with
    | none => rw [e] at h2; exact h2.elim
    | some τ1 =>
      rw [e] at h2
      refine wpSs_mono b ?_ h2
      exact ⟨fun _ _ h => ih _ _ h, fun _ _ h => h, fun _ _ h => h, fun _ _ h => ih _ _ h, fun _ _ _ h => h⟩
/-- .. by the number of items that are done -/
theorem for_at {tg : TG} {b : Ss} {ok : Store → Prop} {D : PEnds} {xs : List PV} (J : Nat → Sl → Store → Prop)
    (hstep : ∀ i x τ st, xs[i]? = some x → J i τ st → ok st ∧ oP (tg.asg x τ) fun τ1 => wpSs b (D.lp (J (i + 1))) τ1 st)
    (hend : ∀ τ st, J xs.length τ st → ok st ∧ D.nx τ st) {τ : Sl} {st : Store} (h : J 0 τ st) : forL tg (wpSs b) ok xs D τ st := by
  refine for_ind (fun r τ st => ∃ i, r = xs.drop i ∧ i ≤ xs.length ∧ J i τ st) ?_ ?_ xs τ st ⟨0, by simp, Nat.zero_le _, h⟩
  · rintro x r τ st ⟨i, e, hi, h⟩
    have hx : xs[i]? = some x := by
      have := congrArg (·[0]?) e
      simpa using this.symm
    obtain ⟨h1, h2⟩ := hstep i x τ st hx h
    refine ⟨h1, ?_⟩
    have hl : i < xs.length := by
      rcases Nat.lt_or_ge i xs.length with h | h
      · exact h
      · rw [List.getElem?_eq_none h] at hx; cases hx
    have er : r = xs.drop (i + 1) := by
      rw [List.drop_eq_getElem_cons hl] at e
      exact (List.cons.inj e).2
    cases e2 : tg.asg x τ with
    | none => rw [e2] at h2; exact h2.elim
    | some τ1 =>
      rw [e2] at h2
      refine wpSs_mono b ?_ h2
      exact ⟨fun _ _ h => ⟨i + 1, er, hl, h⟩, fun _ _ h => h, fun _ _ h => h, fun _ _ h => ⟨i + 1, er, hl, h⟩, fun _ _ _ h => h⟩
  · rintro τ st ⟨i, e, hi, h⟩
    have : i = xs.length := by
      have := congrArg List.length e
      simp only [List.length_nil, List.length_drop] at this
      omega
    subst this
    exact hend τ st h
/-! ### calls: another look at the same heap -/
theorem HasFn.view {Γ : Wd} {k n : Nat} {f : Str} {sp sp' : PSpec} (h : HasFn Γ k f sp n)
    (c : ∀ vs st Q X H F, RS Γ.K H F st → sp' vs st Q X → ∃ st2 Q2, RS Γ.K H F st2 ∧ sp vs st2 Q2 (fun _ _ => False) ∧ ∀ v s2 H' F', Ext F H F' H' → RS Γ.K H' F' s2 → Q2 v s2 → ∃ s, RS Γ.K H' F' s ∧ Q v s) :
    HasFn Γ k f sp' n := by
  obtain ⟨fa, fd, ps, ds, dv, pv, sp1, h1, h2, h3, h3a, h3b, h4, h5, hf⟩ := h
  refine ⟨fa, fd, ps, ds, dv, pv, fun ws st Q X => ∃ vs, ws = vs ++ pv ∧ sp' vs st Q X, h1, h2, h3, h3a, h3b, h4, fun vs st Q X h => ⟨vs, rfl, h⟩, ⟨fun vs H Q E ⟨_, _, _, _, _, h, _⟩ => h.trans h4.symm, fun A outer s H args us vs Q E hg hr e0 hb r hsp => ?_⟩⟩
  refine hf.run A outer s H args us vs Q E hg hr e0 hb r ?_
  obtain ⟨F, st, pvs, rs, d, hl, Q0, X0, ⟨ws, rfl, h0⟩, hq, hx⟩ := hsp
  obtain ⟨st2, Q2, rs2, hs2, hc⟩ := c ws st Q0 X0 H F rs h0
  refine ⟨F, st2, ws ++ pv, rs2, d, hl, Q2, fun _ _ => False, h5 _ _ _ _ hs2, fun v s2 h2 F' H' y ex r' dv => ?_, fun _ _ h => h.elim⟩
  obtain ⟨s, rs', hq'⟩ := hc v s2 H' F' ex r' h2
  exact hq v s hq' F' H' y ex rs' dv
end TK

namespace TK
open PySem PySem.Spec PyProof.Rows L2
/-! ### the same readings, what is still to come under a name -/
/-- a proposition that does not unfold by itself -/
theorem Blk_ex : Nonempty { f : Prop → Prop // f = id } := ⟨⟨id, rfl⟩⟩
noncomputable def BlkC : { f : Prop → Prop // f = id } := Classical.choice Blk_ex
noncomputable def Blk (p : Prop) : Prop := BlkC.1 p
theorem Blk_eq {p : Prop} : Blk p = p := congrFun BlkC.2 p
def KEx (D : PEnds) (τ : Sl) : EQ := fun x s => D.ex x τ s
theorem ex_nxt {D : PEnds} {ss : Ss} {τ : Sl} : KEx (D.nxt ss) τ = KEx D τ := rfl
theorem ex_lp {D : PEnds} {J : Sl → Store → Prop} {τ : Sl} : KEx (D.lp J) τ = KEx D τ := rfl
def KV (st : Store) (Q : PQ) (v : PV) : Prop := Q v st
noncomputable def KF (st : Store) (Q : PQ) (v : PV) : Prop := Blk (frzV v st Q)
theorem f_KF {st : Store} {Q : PQ} : KF st Q = fun v => frzV v st Q := by funext v; exact Blk_eq
noncomputable def KBin2 (o : Operator) (m : Bool) (v : PV) (Q : PQ) (w : PV) (st : Store) : Prop := Blk (binV o m v w st Q)
theorem f_KBin2 {o : Operator} {m : Bool} {v : PV} {Q : PQ} : KBin2 o m v Q = fun w st => binV o m v w st Q := by funext w st; exact Blk_eq
noncomputable def KBin1 (o : Operator) (m : Bool) (b : E) (X : EQ) (τ : Sl) (Q : PQ) (v : PV) (st : Store) : Prop := Blk (wpE b X τ st (KBin2 o m v Q))
theorem f_KBin1 {o : Operator} {m : Bool} {b : E} {X : EQ} {τ : Sl} {Q : PQ} : KBin1 o m b X τ Q = fun v st => wpE b X τ st (KBin2 o m v Q) := by funext v st; exact Blk_eq
noncomputable def KNeg (Q : PQ) (v : PV) (st : Store) : Prop := Blk (negV v st Q)
theorem f_KNeg {Q : PQ} : KNeg Q = fun v st => negV v st Q := by funext v st; exact Blk_eq
noncomputable def KUn (f : UF) (Q : PQ) (v : PV) (st : Store) : Prop := Blk (unV f v st Q)
theorem f_KUn {f : UF} {Q : PQ} : KUn f Q = fun v st => unV f v st Q := by funext v st; exact Blk_eq
noncomputable def KNot2 (Q : PQ) (st : Store) (b : Bool) : Prop := Blk (Q (.bl (!b)) st)
theorem f_KNot2 {Q : PQ} {st : Store} : KNot2 Q st = fun b => Q (.bl (!b)) st := by funext b; exact Blk_eq
noncomputable def KNot (Q : PQ) (v : PV) (st : Store) : Prop := Blk (onBl v (KNot2 Q st))
theorem f_KNot {Q : PQ} : KNot Q = fun v st => onBl v (KNot2 Q st) := by funext v st; exact Blk_eq
noncomputable def KCmp2 (o : CmpOp) (v : PV) (Q : PQ) (w : PV) (st : Store) : Prop := Blk (cmpV o v w st Q)
theorem f_KCmp2 {o : CmpOp} {v : PV} {Q : PQ} : KCmp2 o v Q = fun w st => cmpV o v w st Q := by funext w st; exact Blk_eq
noncomputable def KCmp1 (o : CmpOp) (b : E) (X : EQ) (τ : Sl) (Q : PQ) (v : PV) (st : Store) : Prop := Blk (wpE b X τ st (KCmp2 o v Q))
theorem f_KCmp1 {o : CmpOp} {b : E} {X : EQ} {τ : Sl} {Q : PQ} : KCmp1 o b X τ Q = fun v st => wpE b X τ st (KCmp2 o v Q) := by funext v st; exact Blk_eq
noncomputable def KCh4 (o : CmpOp) (c : E) (X : EQ) (τ : Sl) (w : PV) (Q : PQ) (st : Store) (k : Bool) : Prop := Blk (if k = true then wpE c X τ st (KCmp2 o w Q) else Q (.bl false) st)
theorem f_KCh4 {o : CmpOp} {c : E} {X : EQ} {τ : Sl} {w : PV} {Q : PQ} {st : Store} : KCh4 o c X τ w Q st = fun k => if k = true then wpE c X τ st (KCmp2 o w Q) else Q (.bl false) st := by funext k; exact Blk_eq
noncomputable def KCh3 (o : CmpOp) (c : E) (X : EQ) (τ : Sl) (w : PV) (Q : PQ) (z : PV) (st : Store) : Prop := Blk (onBl z (KCh4 o c X τ w Q st))
theorem f_KCh3 {o : CmpOp} {c : E} {X : EQ} {τ : Sl} {w : PV} {Q : PQ} : KCh3 o c X τ w Q = fun z st => onBl z (KCh4 o c X τ w Q st) := by funext z st; exact Blk_eq
noncomputable def KCh2 (o o' : CmpOp) (c : E) (X : EQ) (τ : Sl) (v : PV) (Q : PQ) (w : PV) (st : Store) : Prop := Blk (cmpV o v w st (KCh3 o' c X τ w Q))
theorem f_KCh2 {o : CmpOp} {o' : CmpOp} {c : E} {X : EQ} {τ : Sl} {v : PV} {Q : PQ} : KCh2 o o' c X τ v Q = fun w st => cmpV o v w st (KCh3 o' c X τ w Q) := by funext w st; exact Blk_eq
noncomputable def KCh1 (o o' : CmpOp) (b c : E) (X : EQ) (τ : Sl) (Q : PQ) (v : PV) (st : Store) : Prop := Blk (wpE b X τ st (KCh2 o o' c X τ v Q))
theorem f_KCh1 {o : CmpOp} {o' : CmpOp} {b : E} {c : E} {X : EQ} {τ : Sl} {Q : PQ} : KCh1 o o' b c X τ Q = fun v st => wpE b X τ st (KCh2 o o' c X τ v Q) := by funext v st; exact Blk_eq
noncomputable def KBs2 (o : BoolOp) (es : Es) (X : EQ) (τ : Sl) (Q : PQ) (st : Store) (b : Bool) : Prop := Blk (match o with | .And => if b = true then wpBs .And es X τ st Q else Q (.bl false) st | .Or => if b = true then Q (.bl true) st else wpBs .Or es X τ st Q)
theorem f_KBs2 {o : BoolOp} {es : Es} {X : EQ} {τ : Sl} {Q : PQ} {st : Store} : KBs2 o es X τ Q st = fun b => match o with | .And => if b = true then wpBs .And es X τ st Q else Q (.bl false) st | .Or => if b = true then Q (.bl true) st else wpBs .Or es X τ st Q := by funext b; exact Blk_eq
noncomputable def KBs (o : BoolOp) (es : Es) (X : EQ) (τ : Sl) (Q : PQ) (v : PV) (st : Store) : Prop := Blk (onBl v (KBs2 o es X τ Q st))
theorem f_KBs {o : BoolOp} {es : Es} {X : EQ} {τ : Sl} {Q : PQ} : KBs o es X τ Q = fun v st => onBl v (KBs2 o es X τ Q st) := by funext v st; exact Blk_eq
noncomputable def KIf (a b : E) (X : EQ) (τ : Sl) (Q : PQ) (k : Bool) (st : Store) : Prop := Blk (if k = true then wpE a X τ st Q else wpE b X τ st Q)
theorem f_KIf {a : E} {b : E} {X : EQ} {τ : Sl} {Q : PQ} : KIf a b X τ Q = fun k st => if k = true then wpE a X τ st Q else wpE b X τ st Q := by funext k st; exact Blk_eq
noncomputable def KTup (Q : PQ) (vs : List PV) (st : Store) : Prop := Blk (vs.length ≤ sizeLine ∧ Q (.tup vs) st)
theorem f_KTup {Q : PQ} : KTup Q = fun vs st => vs.length ≤ sizeLine ∧ Q (.tup vs) st := by funext vs st; exact Blk_eq
noncomputable def KLst (m : Bool) (Q : PQ) (vs : List PV) (st : Store) : Prop := Blk (vs.length ≤ sizeLine ∧ newList m vs st Q)
theorem f_KLst {m : Bool} {Q : PQ} : KLst m Q = fun vs st => vs.length ≤ sizeLine ∧ newList m vs st Q := by funext vs st; exact Blk_eq
noncomputable def KIdx2 (v : PV) (Q : PQ) (w : PV) (st : Store) : Prop := Blk (idxV v w st Q)
theorem f_KIdx2 {v : PV} {Q : PQ} : KIdx2 v Q = fun w st => idxV v w st Q := by funext w st; exact Blk_eq
noncomputable def KIdx1 (i : E) (X : EQ) (τ : Sl) (Q : PQ) (v : PV) (st : Store) : Prop := Blk (wpE i X τ st (KIdx2 v Q))
theorem f_KIdx1 {i : E} {X : EQ} {τ : Sl} {Q : PQ} : KIdx1 i X τ Q = fun v st => wpE i X τ st (KIdx2 v Q) := by funext v st; exact Blk_eq
noncomputable def KSl3 (m : Bool) (v : PV) (l : Option Int) (Q : PQ) (u : Option Int) (st : Store) : Prop := Blk (sliceV m v l u st Q)
theorem f_KSl3 {m : Bool} {v : PV} {l : Option Int} {Q : PQ} : KSl3 m v l Q = fun u st => sliceV m v l u st Q := by funext u st; exact Blk_eq
noncomputable def KSl2 (m : Bool) (hi : OE) (X : EQ) (τ : Sl) (v : PV) (Q : PQ) (l : Option Int) (st : Store) : Prop := Blk (wpO hi X τ st (KSl3 m v l Q))
theorem f_KSl2 {m : Bool} {hi : OE} {X : EQ} {τ : Sl} {v : PV} {Q : PQ} : KSl2 m hi X τ v Q = fun l st => wpO hi X τ st (KSl3 m v l Q) := by funext l st; exact Blk_eq
noncomputable def KSl1 (m : Bool) (lo hi : OE) (X : EQ) (τ : Sl) (Q : PQ) (v : PV) (st : Store) : Prop := Blk (wpO lo X τ st (KSl2 m hi X τ v Q))
theorem f_KSl1 {m : Bool} {lo : OE} {hi : OE} {X : EQ} {τ : Sl} {Q : PQ} : KSl1 m lo hi X τ Q = fun v st => wpO lo X τ st (KSl2 m hi X τ v Q) := by funext v st; exact Blk_eq
noncomputable def KCall (sp : PSpec) (X : EQ) (Q : PQ) (vs : List PV) (st : Store) : Prop := Blk (callS sp vs st X Q)
theorem f_KCall {sp : PSpec} {X : EQ} {Q : PQ} : KCall sp X Q = fun vs st => callS sp vs st X Q := by funext vs st; exact Blk_eq
noncomputable def KCk2 (vs : List PV) (sp : PSpec) (X : EQ) (Q : PQ) (v : PV) (st : Store) : Prop := Blk (callS sp (vs ++ [v]) st X Q)
theorem f_KCk2 {vs : List PV} {sp : PSpec} {X : EQ} {Q : PQ} : KCk2 vs sp X Q = fun v st => callS sp (vs ++ [v]) st X Q := by funext v st; exact Blk_eq
noncomputable def KCk1 (ek : E) (sp : PSpec) (X : EQ) (τ : Sl) (Q : PQ) (vs : List PV) (st : Store) : Prop := Blk (wpE ek X τ st (KCk2 vs sp X Q))
theorem f_KCk1 {ek : E} {sp : PSpec} {X : EQ} {τ : Sl} {Q : PQ} : KCk1 ek sp X τ Q = fun vs st => wpE ek X τ st (KCk2 vs sp X Q) := by funext vs st; exact Blk_eq
noncomputable def KRs (c : Str) (τ : Sl) (D : PEnds) (vs : List PV) (st : Store) : Prop := Blk (∃ v, vs = [v] ∧ raiseOk c v ∧ D.ex (c, [(fldOf c, v)]) τ st)
theorem f_KRs {c : Str} {τ : Sl} {D : PEnds} : KRs c τ D = fun vs st => ∃ v, vs = [v] ∧ raiseOk c v ∧ D.ex (c, [(fldOf c, v)]) τ st := by funext vs st; exact Blk_eq
theorem KRs_one {c : Str} {τ : Sl} {D : PEnds} {v : PV} {st : Store} : KRs c τ D [v] st = (raiseOk c v ∧ D.ex (c, [(fldOf c, v)]) τ st) := by
  unfold KRs
  rw [Blk_eq]
  exact propext ⟨fun ⟨w, e, h⟩ => by cases e; exact h, fun h => ⟨v, rfl, h⟩⟩
noncomputable def KBlt (f : BF) (m : Bool) (Q : PQ) (vs : List PV) (st : Store) : Prop := Blk (bltV f m vs st Q)
theorem f_KBlt {f : BF} {m : Bool} {Q : PQ} : KBlt f m Q = fun vs st => bltV f m vs st Q := by funext vs st; exact Blk_eq
noncomputable def KIsi2 (Q : PQ) (st : Store) (b : Bool) : Prop := Blk (Q (.bl b) st)
theorem f_KIsi2 {Q : PQ} {st : Store} : KIsi2 Q st = fun b => Q (.bl b) st := by funext b; exact Blk_eq
noncomputable def KIsi (ty : Str) (Q : PQ) (v : PV) (st : Store) : Prop := Blk (oP (isiV ty v) (KIsi2 Q st))
theorem f_KIsi {ty : Str} {Q : PQ} : KIsi ty Q = fun v st => oP (isiV ty v) (KIsi2 Q st) := by funext v st; exact Blk_eq
noncomputable def KMe2 (f : MF) (v : PV) (Q : PQ) (vs : List PV) (st : Store) : Prop := Blk (methV f v vs st Q)
theorem f_KMe2 {f : MF} {v : PV} {Q : PQ} : KMe2 f v Q = fun vs st => methV f v vs st Q := by funext vs st; exact Blk_eq
noncomputable def KMe1 (f : MF) (es : Es) (X : EQ) (τ : Sl) (Q : PQ) (v : PV) (st : Store) : Prop := Blk (isLst st v ∧ wpEs es X τ st (KMe2 f v Q))
theorem f_KMe1 {f : MF} {es : Es} {X : EQ} {τ : Sl} {Q : PQ} : KMe1 f es X τ Q = fun v st => isLst st v ∧ wpEs es X τ st (KMe2 f v Q) := by funext v st; exact Blk_eq
noncomputable def KComp2 (m : Bool) (Q : PQ) (acc : List PV) (st : Store) : Prop := Blk (newList m acc st Q)
theorem f_KComp2 {m : Bool} {Q : PQ} : KComp2 m Q = fun acc st => newList m acc st Q := by funext acc st; exact Blk_eq
noncomputable def KComp (m : Bool) (vs : List Nat) (tg : TG) (r : Bool) (ts : Ts) (elt : E) (τ : Sl) (Q : PQ) (xs : List PV) (ok : Store → Prop) (st : Store) : Prop := Blk ((r = true → xs.length ≤ sizeLine) ∧ ok st ∧ lcL tg (wpTs .And ts fun _ _ => False) (wpE elt fun _ _ => False) (wipeS τ vs) (KComp2 m Q) xs st [])
theorem f_KComp {m : Bool} {vs : List Nat} {tg : TG} {r : Bool} {ts : Ts} {elt : E} {τ : Sl} {Q : PQ} : KComp m vs tg r ts elt τ Q = fun xs ok st => (r = true → xs.length ≤ sizeLine) ∧ ok st ∧ lcL tg (wpTs .And ts fun _ _ => False) (wpE elt fun _ _ => False) (wipeS τ vs) (KComp2 m Q) xs st [] := by funext xs ok st; exact Blk_eq
noncomputable def KEs2 (v : PV) (Q : List PV → Store → Prop) (vs : List PV) (st : Store) : Prop := Blk (Q (v :: vs) st)
theorem f_KEs2 {v : PV} {Q : List PV → Store → Prop} : KEs2 v Q = fun vs st => Q (v :: vs) st := by funext vs st; exact Blk_eq
noncomputable def KEs1 (es : Es) (X : EQ) (τ : Sl) (Q : List PV → Store → Prop) (v : PV) (st : Store) : Prop := Blk (wpEs es X τ st (KEs2 v Q))
theorem f_KEs1 {es : Es} {X : EQ} {τ : Sl} {Q : List PV → Store → Prop} : KEs1 es X τ Q = fun v st => wpEs es X τ st (KEs2 v Q) := by funext v st; exact Blk_eq
noncomputable def KO2 (Q : Option Int → Store → Prop) (st : Store) (i : Int) : Prop := Blk (Q (some i) st)
theorem f_KO2 {Q : Option Int → Store → Prop} {st : Store} : KO2 Q st = fun i => Q (some i) st := by funext i; exact Blk_eq
noncomputable def KO (Q : Option Int → Store → Prop) (v : PV) (st : Store) : Prop := Blk (onInt v (KO2 Q st))
theorem f_KO {Q : Option Int → Store → Prop} : KO Q = fun v st => onInt v (KO2 Q st) := by funext v st; exact Blk_eq
noncomputable def KTv (Q : Bool → Store → Prop) (v : PV) (st : Store) : Prop := Blk (truV v st Q)
theorem f_KTv {Q : Bool → Store → Prop} : KTv Q = fun v st => truV v st Q := by funext v st; exact Blk_eq
noncomputable def KT4 (Q : Bool → Store → Prop) (st : Store) (k : Bool) : Prop := Blk (Q k st)
theorem f_KT4 {Q : Bool → Store → Prop} {st : Store} : KT4 Q st = fun k => Q k st := by funext k; exact Blk_eq
noncomputable def KT3 (Q : Bool → Store → Prop) (z : PV) (st : Store) : Prop := Blk (onBl z (KT4 Q st))
theorem f_KT3 {Q : Bool → Store → Prop} : KT3 Q = fun z st => onBl z (KT4 Q st) := by funext z st; exact Blk_eq
noncomputable def KT2 (o : CmpOp) (v : PV) (Q : Bool → Store → Prop) (w : PV) (st : Store) : Prop := Blk (cmpV o v w st (KT3 Q))
theorem f_KT2 {o : CmpOp} {v : PV} {Q : Bool → Store → Prop} : KT2 o v Q = fun w st => cmpV o v w st (KT3 Q) := by funext w st; exact Blk_eq
noncomputable def KT1 (o : CmpOp) (b : E) (X : EQ) (τ : Sl) (Q : Bool → Store → Prop) (v : PV) (st : Store) : Prop := Blk (wpE b X τ st (KT2 o v Q))
theorem f_KT1 {o : CmpOp} {b : E} {X : EQ} {τ : Sl} {Q : Bool → Store → Prop} : KT1 o b X τ Q = fun v st => wpE b X τ st (KT2 o v Q) := by funext v st; exact Blk_eq
noncomputable def KTc4 (o : CmpOp) (c : E) (X : EQ) (τ : Sl) (w : PV) (Q : Bool → Store → Prop) (st : Store) (k : Bool) : Prop := Blk (if k = true then wpE c X τ st (KT2 o w Q) else Q false st)
theorem f_KTc4 {o : CmpOp} {c : E} {X : EQ} {τ : Sl} {w : PV} {Q : Bool → Store → Prop} {st : Store} : KTc4 o c X τ w Q st = fun k => if k = true then wpE c X τ st (KT2 o w Q) else Q false st := by funext k; exact Blk_eq
noncomputable def KTc3 (o : CmpOp) (c : E) (X : EQ) (τ : Sl) (w : PV) (Q : Bool → Store → Prop) (z : PV) (st : Store) : Prop := Blk (onBl z (KTc4 o c X τ w Q st))
theorem f_KTc3 {o : CmpOp} {c : E} {X : EQ} {τ : Sl} {w : PV} {Q : Bool → Store → Prop} : KTc3 o c X τ w Q = fun z st => onBl z (KTc4 o c X τ w Q st) := by funext z st; exact Blk_eq
noncomputable def KTc2 (o o' : CmpOp) (c : E) (X : EQ) (τ : Sl) (v : PV) (Q : Bool → Store → Prop) (w : PV) (st : Store) : Prop := Blk (cmpV o v w st (KTc3 o' c X τ w Q))
theorem f_KTc2 {o : CmpOp} {o' : CmpOp} {c : E} {X : EQ} {τ : Sl} {v : PV} {Q : Bool → Store → Prop} : KTc2 o o' c X τ v Q = fun w st => cmpV o v w st (KTc3 o' c X τ w Q) := by funext w st; exact Blk_eq
noncomputable def KTc1 (o o' : CmpOp) (b c : E) (X : EQ) (τ : Sl) (Q : Bool → Store → Prop) (v : PV) (st : Store) : Prop := Blk (wpE b X τ st (KTc2 o o' c X τ v Q))
theorem f_KTc1 {o : CmpOp} {o' : CmpOp} {b : E} {c : E} {X : EQ} {τ : Sl} {Q : Bool → Store → Prop} : KTc1 o o' b c X τ Q = fun v st => wpE b X τ st (KTc2 o o' c X τ v Q) := by funext v st; exact Blk_eq
noncomputable def KTn (Q : Bool → Store → Prop) (k : Bool) (st : Store) : Prop := Blk (Q (!k) st)
theorem f_KTn {Q : Bool → Store → Prop} : KTn Q = fun k st => Q (!k) st := by funext k st; exact Blk_eq
noncomputable def KTs (o : BoolOp) (ts : Ts) (X : EQ) (τ : Sl) (Q : Bool → Store → Prop) (k : Bool) (st : Store) : Prop := Blk (match o with | .And => if k = true then wpTs .And ts X τ st Q else Q false st | .Or => if k = true then Q true st else wpTs .Or ts X τ st Q)
theorem f_KTs {o : BoolOp} {ts : Ts} {X : EQ} {τ : Sl} {Q : Bool → Store → Prop} : KTs o ts X τ Q = fun k st => match o with | .And => if k = true then wpTs .And ts X τ st Q else Q false st | .Or => if k = true then Q true st else wpTs .Or ts X τ st Q := by funext k st; exact Blk_eq
noncomputable def KTi (a b : T) (X : EQ) (τ : Sl) (Q : Bool → Store → Prop) (k : Bool) (st : Store) : Prop := Blk (if k = true then wpT a X τ st Q else wpT b X τ st Q)
theorem f_KTi {a : T} {b : T} {X : EQ} {τ : Sl} {Q : Bool → Store → Prop} : KTi a b X τ Q = fun k st => if k = true then wpT a X τ st Q else wpT b X τ st Q := by funext k st; exact Blk_eq
noncomputable def KI1 (Q : List PV → (Store → Prop) → Store → Prop) (v : PV) (st : Store) : Prop := Blk (itV0 v st Q)
theorem f_KI1 {Q : List PV → (Store → Prop) → Store → Prop} : KI1 Q = fun v st => itV0 v st Q := by funext v st; exact Blk_eq
noncomputable def KR12 (Q : List PV → (Store → Prop) → Store → Prop) (st : Store) (j : Int) : Prop := Blk (R62 j ∧ Q (rngL 0 j.toNat) (fun _ => True) st)
theorem f_KR12 {Q : List PV → (Store → Prop) → Store → Prop} {st : Store} : KR12 Q st = fun j => R62 j ∧ Q (rngL 0 j.toNat) (fun _ => True) st := by funext j; exact Blk_eq
noncomputable def KR1 (Q : List PV → (Store → Prop) → Store → Prop) (v : PV) (st : Store) : Prop := Blk (onInt v (KR12 Q st))
theorem f_KR1 {Q : List PV → (Store → Prop) → Store → Prop} : KR1 Q = fun v st => onInt v (KR12 Q st) := by funext v st; exact Blk_eq
noncomputable def KR2d (Q : List PV → (Store → Prop) → Store → Prop) (st : Store) (i j : Int) : Prop := Blk (R62 i ∧ R62 j ∧ Q (rngL i (j - i).toNat) (fun _ => True) st)
theorem f_KR2d {Q : List PV → (Store → Prop) → Store → Prop} {st : Store} {i : Int} : KR2d Q st i = fun j => R62 i ∧ R62 j ∧ Q (rngL i (j - i).toNat) (fun _ => True) st := by funext j; exact Blk_eq
noncomputable def KR2c (Q : List PV → (Store → Prop) → Store → Prop) (st : Store) (w : PV) (i : Int) : Prop := Blk (onInt w (KR2d Q st i))
theorem f_KR2c {Q : List PV → (Store → Prop) → Store → Prop} {st : Store} {w : PV} : KR2c Q st w = fun i => onInt w (KR2d Q st i) := by funext i; exact Blk_eq
noncomputable def KR2b (v : PV) (Q : List PV → (Store → Prop) → Store → Prop) (w : PV) (st : Store) : Prop := Blk (onInt v (KR2c Q st w))
theorem f_KR2b {v : PV} {Q : List PV → (Store → Prop) → Store → Prop} : KR2b v Q = fun w st => onInt v (KR2c Q st w) := by funext w st; exact Blk_eq
noncomputable def KR2a (b : E) (X : EQ) (τ : Sl) (Q : List PV → (Store → Prop) → Store → Prop) (v : PV) (st : Store) : Prop := Blk (wpE b X τ st (KR2b v Q))
theorem f_KR2a {b : E} {X : EQ} {τ : Sl} {Q : List PV → (Store → Prop) → Store → Prop} : KR2a b X τ Q = fun v st => wpE b X τ st (KR2b v Q) := by funext v st; exact Blk_eq
noncomputable def KEn (Q : List PV → (Store → Prop) → Store → Prop) (v : PV) (st : Store) : Prop := Blk (itV (enumL 0) v st Q)
theorem f_KEn {Q : List PV → (Store → Prop) → Store → Prop} : KEn Q = fun v st => itV (enumL 0) v st Q := by funext v st; exact Blk_eq
noncomputable def KZ2 (v : PV) (Q : List PV → (Store → Prop) → Store → Prop) (w : PV) (st : Store) : Prop := Blk (zipV v w st Q)
theorem f_KZ2 {v : PV} {Q : List PV → (Store → Prop) → Store → Prop} : KZ2 v Q = fun w st => zipV v w st Q := by funext w st; exact Blk_eq
noncomputable def KZ1 (b : E) (X : EQ) (τ : Sl) (Q : List PV → (Store → Prop) → Store → Prop) (v : PV) (st : Store) : Prop := Blk (wpE b X τ st (KZ2 v Q))
theorem f_KZ1 {b : E} {X : EQ} {τ : Sl} {Q : List PV → (Store → Prop) → Store → Prop} : KZ1 b X τ Q = fun v st => wpE b X τ st (KZ2 v Q) := by funext v st; exact Blk_eq
noncomputable def KNx (D : PEnds) (st : Store) (τ : Sl) : Prop := Blk (D.nx τ st)
theorem f_KNx {D : PEnds} {st : Store} : KNx D st = fun τ => D.nx τ st := by funext τ; exact Blk_eq
noncomputable def KAsg (tg : TG) (τ : Sl) (D : PEnds) (v : PV) (st : Store) : Prop := Blk (oP (tg.asg v τ) (KNx D st))
theorem f_KAsg {tg : TG} {τ : Sl} {D : PEnds} : KAsg tg τ D = fun v st => oP (tg.asg v τ) (KNx D st) := by funext v st; exact Blk_eq
noncomputable def KAsgN (i : Nat) (τ : Sl) (D : PEnds) (v : PV) (st : Store) : Prop := Blk (D.nx (setS τ i (some v)) st)
theorem f_KAsgN {i : Nat} {τ : Sl} {D : PEnds} : KAsgN i τ D = fun v st => D.nx (setS τ i (some v)) st := by funext v st; exact Blk_eq
noncomputable def KSx4 (τ : Sl) (D : PEnds) (st : Store) : Prop := Blk (D.nx τ st)
theorem f_KSx4 {τ : Sl} {D : PEnds} : KSx4 τ D = fun st => D.nx τ st := by funext st; exact Blk_eq
noncomputable def KSx3 (v ov : PV) (τ : Sl) (D : PEnds) (iv : PV) (st : Store) : Prop := Blk (setIxV ov iv v st (KSx4 τ D))
theorem f_KSx3 {v : PV} {ov : PV} {τ : Sl} {D : PEnds} : KSx3 v ov τ D = fun iv st => setIxV ov iv v st (KSx4 τ D) := by funext iv st; exact Blk_eq
noncomputable def KSx2 (v : PV) (i : E) (τ : Sl) (D : PEnds) (ov : PV) (st : Store) : Prop := Blk (wpE i (KEx D τ) τ st (KSx3 v ov τ D))
theorem f_KSx2 {v : PV} {i : E} {τ : Sl} {D : PEnds} : KSx2 v i τ D = fun ov st => wpE i (KEx D τ) τ st (KSx3 v ov τ D) := by funext ov st; exact Blk_eq
noncomputable def KSx1 (o i : E) (τ : Sl) (D : PEnds) (v : PV) (st : Store) : Prop := Blk (wpE o (KEx D τ) τ st (KSx2 v i τ D))
theorem f_KSx1 {o : E} {i : E} {τ : Sl} {D : PEnds} : KSx1 o i τ D = fun v st => wpE o (KEx D τ) τ st (KSx2 v i τ D) := by funext v st; exact Blk_eq
noncomputable def KAug2 (i : Nat) (o : Operator) (v : PV) (τ : Sl) (D : PEnds) (w : PV) (st : Store) : Prop := Blk (augV o v w st (KAsgN i τ D))
theorem f_KAug2 {i : Nat} {o : Operator} {v : PV} {τ : Sl} {D : PEnds} : KAug2 i o v τ D = fun w st => augV o v w st (KAsgN i τ D) := by funext w st; exact Blk_eq
noncomputable def KAug1 (i : Nat) (o : Operator) (e : E) (τ : Sl) (D : PEnds) (st : Store) (v : PV) : Prop := Blk (wpE e (KEx D τ) τ st (KAug2 i o v τ D))
theorem f_KAug1 {i : Nat} {o : Operator} {e : E} {τ : Sl} {D : PEnds} {st : Store} : KAug1 i o e τ D st = fun v => wpE e (KEx D τ) τ st (KAug2 i o v τ D) := by funext v; exact Blk_eq
noncomputable def KExpr (τ : Sl) (D : PEnds) (v : PV) (st : Store) : Prop := Blk (D.nx τ st)
theorem f_KExpr {τ : Sl} {D : PEnds} : KExpr τ D = fun v st => D.nx τ st := by funext v st; exact Blk_eq
noncomputable def KArm (a b : Ss) (τ : Sl) (D : PEnds) (k : Bool) (st : Store) : Prop := Blk (if k = true then Arm a D τ st else Arm b D τ st)
theorem f_KArm {a : Ss} {b : Ss} {τ : Sl} {D : PEnds} : KArm a b τ D = fun k st => if k = true then Arm a D τ st else Arm b D τ st := by funext k st; exact Blk_eq
noncomputable def KLoop (tg : TG) (b : Ss) (τ : Sl) (D : PEnds) (xs : List PV) (ok : Store → Prop) (st : Store) : Prop := Blk (forL tg (wpSs b) ok xs D τ st)
theorem f_KLoop {tg : TG} {b : Ss} {τ : Sl} {D : PEnds} : KLoop tg b τ D = fun xs ok st => forL tg (wpSs b) ok xs D τ st := by funext xs ok st; exact Blk_eq
noncomputable def KWt (t : T) (D : PEnds) (τ : Sl) (st : Store) (Q : Bool → Store → Prop) : Prop := Blk (wpT t (KEx D τ) τ st Q)
theorem f_KWt {t : T} {D : PEnds} : KWt t D = fun τ st Q => wpT t (KEx D τ) τ st Q := by funext τ st Q; exact Blk_eq
section
variable {X : EQ} {τ : Sl} {st : Store} {Q : PQ}
theorem e_var {i : Nat} : wpE (.var i) X τ st Q = oP (getS τ i) (KV st Q) := rfl
theorem e_fvar {i : Nat} : wpE (.fvar i) X τ st Q = oP (getS τ i) (KF st Q) := by first | (simp only [f_KF]; done) | (simp only [f_KF]; rfl)
theorem e_int {n : Int} : wpE (.int n) X τ st Q = Q (.int n) st := rfl
theorem e_bl {n : Bool} : wpE (.bl n) X τ st Q = Q (.bl n) st := rfl
theorem e_non  : wpE .non X τ st Q = Q .non st := rfl
theorem e_str {n : Str} : wpE (.str n) X τ st Q = Q (.str n) st := rfl
theorem e_glob {n : Str} {v : PV} : wpE (.glob n v) X τ st Q = Q v st := rfl
theorem e_bin {o : Operator} {m : Bool} {a b : E} : wpE (.bin o m a b) X τ st Q = wpE a X τ st (KBin1 o m b X τ Q) := by first | (simp only [f_KBin1, f_KBin2]; done) | (simp only [f_KBin1, f_KBin2]; rfl)
theorem e_neg {a : E} : wpE (.neg a) X τ st Q = wpE a X τ st (KNeg Q) := by first | (simp only [f_KNeg]; done) | (simp only [f_KNeg]; rfl)
theorem e_un {f : UF} {a : E} : wpE (.un f a) X τ st Q = wpE a X τ st (KUn f Q) := by first | (simp only [f_KUn]; done) | (simp only [f_KUn]; rfl)
theorem e_not {a : E} : wpE (.not a) X τ st Q = wpE a X τ st (KNot Q) := by first | (simp only [f_KNot, f_KNot2]; done) | (simp only [f_KNot, f_KNot2]; rfl)
theorem e_cmp {o : CmpOp} {a b : E} : wpE (.cmp o a b) X τ st Q = wpE a X τ st (KCmp1 o b X τ Q) := by first | (simp only [f_KCmp1, f_KCmp2]; done) | (simp only [f_KCmp1, f_KCmp2]; rfl)
theorem e_chain {o o' : CmpOp} {a b c : E} : wpE (.chain o o' a b c) X τ st Q = wpE a X τ st (KCh1 o o' b c X τ Q) := by first | (simp only [f_KCh1, f_KCh2, f_KCh3, f_KCh4, f_KCmp2]; done) | (simp only [f_KCh1, f_KCh2, f_KCh3, f_KCh4, f_KCmp2]; rfl)
theorem e_bools {o : BoolOp} {es : Es} : wpE (.bools o es) X τ st Q = wpBs o es X τ st Q := rfl
theorem e_ite {t : T} {a b : E} : wpE (.ite t a b) X τ st Q = wpT t X τ st (KIf a b X τ Q) := by first | (simp only [f_KIf]; done) | (simp only [f_KIf]; rfl)
theorem e_tup {es : Es} : wpE (.tup es) X τ st Q = wpEs es X τ st (KTup Q) := by first | (simp only [f_KTup]; done) | (simp only [f_KTup]; rfl)
theorem e_lst {m : Bool} {es : Es} : wpE (.lst m es) X τ st Q = wpEs es X τ st (KLst m Q) := by first | (simp only [f_KLst]; done) | (simp only [f_KLst]; rfl)
theorem e_idx {a i : E} : wpE (.idx a i) X τ st Q = wpE a X τ st (KIdx1 i X τ Q) := by first | (simp only [f_KIdx1, f_KIdx2]; done) | (simp only [f_KIdx1, f_KIdx2]; rfl)
theorem e_slice {m : Bool} {a : E} {lo hi : OE} : wpE (.slice m a lo hi) X τ st Q = wpE a X τ st (KSl1 m lo hi X τ Q) := by first | (simp only [f_KSl1, f_KSl2, f_KSl3]; done) | (simp only [f_KSl1, f_KSl2, f_KSl3]; rfl)
theorem e_call {f : Str} {sp : PSpec} {es : Es} : wpE (.call f sp es) X τ st Q = wpEs es X τ st (KCall sp X Q) := by first | (simp only [f_KCall]; done) | (simp only [f_KCall]; rfl)
theorem e_callK {f ks : Str} {sp : PSpec} {es : Es} {ek : E} : wpE (.callK f ks sp es ek) X τ st Q = wpEs es X τ st (KCk1 ek sp X τ Q) := by first | (simp only [f_KCk1, f_KCk2]; done) | (simp only [f_KCk1, f_KCk2]; rfl)
theorem e_blt {f : BF} {m : Bool} {es : Es} : wpE (.blt f m es) X τ st Q = wpEs es X τ st (KBlt f m Q) := by first | (simp only [f_KBlt]; done) | (simp only [f_KBlt]; rfl)
theorem e_isi {e : E} {ty : Str} : wpE (.isi e ty) X τ st Q = wpE e X τ st (KIsi ty Q) := by first | (simp only [f_KIsi, f_KIsi2]; done) | (simp only [f_KIsi, f_KIsi2]; rfl)
theorem e_meth {f : MF} {o : E} {es : Es} : wpE (.meth f o es) X τ st Q = wpE o X τ st (KMe1 f es X τ Q) := by first | (simp only [f_KMe1, f_KMe2]; done) | (simp only [f_KMe1, f_KMe2]; rfl)
theorem e_comp {m : Bool} {vs : List Nat} {tg : TG} {it : I} {ts : Ts} {elt : E} : wpE (.comp m vs tg it ts elt) X τ st Q = wpI it X τ st (KComp m vs tg it.isR ts elt τ Q) := by first | (simp only [f_KComp, f_KComp2]; done) | (simp only [f_KComp, f_KComp2]; rfl)
theorem es_nil {R : List PV → Store → Prop} : wpEs .nil X τ st R = R [] st := rfl
theorem es_cons {e : E} {es : Es} {R : List PV → Store → Prop} : wpEs (.cons e es) X τ st R = wpE e X τ st (KEs1 es X τ R) := by first | (simp only [f_KEs1, f_KEs2]; done) | (simp only [f_KEs1, f_KEs2]; rfl)
theorem bs_one {o : BoolOp} {e : E} : wpBs o (.cons e .nil) X τ st Q = wpE e X τ st Q := rfl
theorem bs_and {e e' : E} {es : Es} : wpBs .And (.cons e (.cons e' es)) X τ st Q = wpE e X τ st (KBs .And (.cons e' es) X τ Q) := by first | (simp only [f_KBs, f_KBs2]; done) | (simp only [f_KBs, f_KBs2]; rfl)
theorem bs_or {e e' : E} {es : Es} : wpBs .Or (.cons e (.cons e' es)) X τ st Q = wpE e X τ st (KBs .Or (.cons e' es) X τ Q) := by first | (simp only [f_KBs, f_KBs2]; done) | (simp only [f_KBs, f_KBs2]; rfl)
theorem o_no {R : Option Int → Store → Prop} : wpO .no X τ st R = R none st := rfl
theorem o_yes {e : E} {R : Option Int → Store → Prop} : wpO (.yes e) X τ st R = wpE e X τ st (KO R) := by first | (simp only [f_KO, f_KO2]; done) | (simp only [f_KO, f_KO2]; rfl)
theorem t_val {e : E} {R : Bool → Store → Prop} : wpT (.val e) X τ st R = wpE e X τ st (KTv R) := by first | (simp only [f_KTv]; done) | (simp only [f_KTv]; rfl)
theorem t_cmp {o : CmpOp} {a b : E} {R : Bool → Store → Prop} : wpT (.cmp o a b) X τ st R = wpE a X τ st (KT1 o b X τ R) := by first | (simp only [f_KT1, f_KT2, f_KT3, f_KT4]; done) | (simp only [f_KT1, f_KT2, f_KT3, f_KT4]; rfl)
theorem t_chain {o o' : CmpOp} {a b c : E} {R : Bool → Store → Prop} : wpT (.chain o o' a b c) X τ st R = wpE a X τ st (KTc1 o o' b c X τ R) := by first | (simp only [f_KT2, f_KT3, f_KT4, f_KTc1, f_KTc2, f_KTc3, f_KTc4]; done) | (simp only [f_KT2, f_KT3, f_KT4, f_KTc1, f_KTc2, f_KTc3, f_KTc4]; rfl)
theorem t_not {t : T} {R : Bool → Store → Prop} : wpT (.not t) X τ st R = wpT t X τ st (KTn R) := by first | (simp only [f_KTn]; done) | (simp only [f_KTn]; rfl)
theorem t_bools {o : BoolOp} {ts : Ts} {R : Bool → Store → Prop} : wpT (.bools o ts) X τ st R = wpTs o ts X τ st R := rfl
theorem t_ite {t a b : T} {R : Bool → Store → Prop} : wpT (.ite t a b) X τ st R = wpT t X τ st (KTi a b X τ R) := by first | (simp only [f_KTi]; done) | (simp only [f_KTi]; rfl)
theorem ts_nilA {R : Bool → Store → Prop} : wpTs .And .nil X τ st R = R true st := rfl
theorem ts_nilO {R : Bool → Store → Prop} : wpTs .Or .nil X τ st R = R false st := rfl
theorem ts_and {t : T} {ts : Ts} {R : Bool → Store → Prop} : wpTs .And (.cons t ts) X τ st R = wpT t X τ st (KTs .And ts X τ R) := by first | (simp only [f_KTs]; done) | (simp only [f_KTs]; rfl)
theorem ts_or {t : T} {ts : Ts} {R : Bool → Store → Prop} : wpTs .Or (.cons t ts) X τ st R = wpT t X τ st (KTs .Or ts X τ R) := by first | (simp only [f_KTs]; done) | (simp only [f_KTs]; rfl)
theorem i_val {e : E} {R : List PV → (Store → Prop) → Store → Prop} : wpI (.val e) X τ st R = wpE e X τ st (KI1 R) := by first | (simp only [f_KI1]; done) | (simp only [f_KI1]; rfl)
theorem i_r1 {e : E} {R : List PV → (Store → Prop) → Store → Prop} : wpI (.range1 e) X τ st R = wpE e X τ st (KR1 R) := by first | (simp only [f_KR1, f_KR12]; done) | (simp only [f_KR1, f_KR12]; rfl)
theorem i_r2 {a b : E} {R : List PV → (Store → Prop) → Store → Prop} : wpI (.range2 a b) X τ st R = wpE a X τ st (KR2a b X τ R) := by first | (simp only [f_KR2a, f_KR2b, f_KR2c, f_KR2d]; done) | (simp only [f_KR2a, f_KR2b, f_KR2c, f_KR2d]; rfl)
theorem i_en {e : E} {R : List PV → (Store → Prop) → Store → Prop} : wpI (.enum e) X τ st R = wpE e X τ st (KEn R) := by first | (simp only [f_KEn]; done) | (simp only [f_KEn]; rfl)
theorem i_zip {a b : E} {R : List PV → (Store → Prop) → Store → Prop} : wpI (.zip a b) X τ st R = wpE a X τ st (KZ1 b X τ R) := by first | (simp only [f_KZ1, f_KZ2]; done) | (simp only [f_KZ1, f_KZ2]; rfl)
end
section
variable {D : PEnds} {τ : Sl} {st : Store}
theorem s_asgN {i : Nat} {e : E} : wpS (.asg (.name i) e) D τ st = wpE e (KEx D τ) τ st (KAsgN i τ D) := by first | (simp only [f_KAsgN]; done) | (simp only [f_KAsgN]; rfl)
theorem s_asgT {ts : TGs} {e : E} : wpS (.asg (.tup ts) e) D τ st = wpE e (KEx D τ) τ st (KAsg (.tup ts) τ D) := by first | (simp only [f_KAsg, f_KNx]; done) | (simp only [f_KAsg, f_KNx]; rfl)
theorem s_asgLc {i : Nat} {e : E} : wpS (.asgLc i e) D τ st = wpE e (KEx D τ) τ st (KAsgN i τ D) := by first | (simp only [f_KAsgN]; done) | (simp only [f_KAsgN]; rfl)
theorem s_setIx {o i e : E} : wpS (.setIx o i e) D τ st = wpE e (KEx D τ) τ st (KSx1 o i τ D) := by first | (simp only [f_KSx1, f_KSx2, f_KSx3, f_KSx4]; done) | (simp only [f_KSx1, f_KSx2, f_KSx3, f_KSx4]; rfl)
theorem s_aug {i : Nat} {o : Operator} {e : E} : wpS (.aug i o e) D τ st = oP (getS τ i) (KAug1 i o e τ D st) := by first | (simp only [f_KAsgN, f_KAug1, f_KAug2]; done) | (simp only [f_KAsgN, f_KAug1, f_KAug2]; rfl)
theorem s_expr {e : E} : wpS (.expr e) D τ st = wpE e (KEx D τ) τ st (KExpr τ D) := by first | (simp only [f_KExpr]; done) | (simp only [f_KExpr]; rfl)
theorem s_ret {e : E} : wpS (.ret e) D τ st = wpE e (KEx D τ) τ st D.rt := rfl
theorem s_retN  : wpS .retN D τ st = D.rt .non st := rfl
theorem s_ite {t : T} {a b : Ss} : wpS (.ite t a b) D τ st = wpT t (KEx D τ) τ st (KArm a b τ D) := by
  have e : KArm a b τ D = fun k st1 => if k = true then wpSs a D τ st1 else wpSs b D τ st1 := by
    funext k st1; unfold KArm; rw [Blk_eq, Arm_eq, Arm_eq]
  rw [e]; rfl
theorem s_loop {tg : TG} {it : I} {b : Ss} : wpS (.loop tg it b) D τ st = wpI it (KEx D τ) τ st (KLoop tg b τ D) := by first | (simp only [f_KLoop]; done) | (simp only [f_KLoop]; rfl)
theorem s_while {t : T} {b : Ss} : wpS (.while t b) D τ st = whileL (KWt t D) (wpSs b) D τ st := by first | (simp only [f_KWt]; done) | (simp only [f_KWt]; rfl)
theorem s_raise {c : Str} {es : Es} : wpS (.raise c es) D τ st = wpEs es (KEx D τ) τ st (KRs c τ D) := by first | (simp only [f_KRs]; done) | (simp only [f_KRs]; rfl)
theorem s_try {b : Ss} {c : Str} {i : Nat} {h : XE} : wpS (.tryX b c i h) D τ st = Nx b (D.tr c i h) τ st := by rw [Nx_eq]; rfl
theorem s_tryH {b : Ss} {c : Str} {i : Nat} {h : XSs} : wpS (.tryH b c i h) D τ st = Nx b (D.trH c i h) τ st := by rw [Nx_eq]; rfl
theorem s_pass  : wpS .pass D τ st = D.nx τ st := rfl
theorem s_brk  : wpS .brk D τ st = D.bk τ st := rfl
theorem s_cont  : wpS .cont D τ st = D.ct τ st := rfl
end
theorem ex_fn {Q : PQ} {X : EQ} {e : Exn} {τ : Sl} {s : Store} : (fnEnds Q X).ex e τ s = ∃ s0, Sub s0 s ∧ X e s0 := rfl
theorem kex_fn {Q : PQ} {X : EQ} {e : Exn} {τ : Sl} {s : Store} (h : X e s) : KEx (fnEnds Q X) τ e s := ⟨s, .rfl, h⟩
theorem kex_tr {D : PEnds} {c : Str} {i : Nat} {h : XE} {τ : Sl} {e : Exn} {st : Store} (hm : e.1 ∈ excNames) (hs : subC e.1 c = true) (hg : getS τ i = none) (hl : i < τ.length) (hw : wpX h e τ fun v => D.rt v st) : KEx (D.tr c i h) τ e st :=
  ⟨hm, by rw [hs]; exact ⟨hg, hl, hw⟩⟩
theorem kex_trH {D : PEnds} {c : Str} {i : Nat} {h : XSs} {τ : Sl} {e : Exn} {st : Store} (hm : e.1 ∈ excNames) (hs : subC e.1 c = true) (hg : getS τ i = none) (hl : i < τ.length) (hw : wpXSs h e τ st (D.nx τ) D.rt) : KEx (D.trH c i h) τ e st :=
  ⟨hm, by rw [hs]; exact ⟨hg, hl, hw⟩⟩
theorem rt_fn {Q : PQ} {X : EQ} {v : PV} {s : Store} : (fnEnds Q X).rt v s = ∃ s0, Sub s0 s ∧ Q v s0 := rfl
theorem nx_fn {Q : PQ} {X : EQ} {τ : Sl} {s : Store} : (fnEnds Q X).nx τ s = ∃ s0, Sub s0 s ∧ Q .non s0 := rfl
theorem oP_some {α : Type} {a : α} {k : α → Prop} : oP (some a) k = k a := rfl
theorem oP_none {α : Type} {k : α → Prop} : oP none k = False := rfl
theorem onBl_eq {b : Bool} {k : Bool → Prop} : onBl (.bl b) k = k b := rfl
theorem onInt_eq {b : Int} {k : Int → Prop} : onInt (.int b) k = k b := rfl
theorem natc0 : ((0 : Nat) : Int) = 0 := rfl
theorem natc1 : ((1 : Nat) : Int) = 1 := rfl
theorem natc2 : ((2 : Nat) : Int) = 2 := rfl
theorem natc3 : ((3 : Nat) : Int) = 3 := rfl
theorem natc4 : ((4 : Nat) : Int) = 4 := rfl
theorem natc5 : ((5 : Nat) : Int) = 5 := rfl
theorem natc6 : ((6 : Nat) : Int) = 6 := rfl
theorem natc7 : ((7 : Nat) : Int) = 7 := rfl
theorem natc8 : ((8 : Nat) : Int) = 8 := rfl
theorem isNon_non : isNon .non = true := rfl
theorem isNon_int {i : Int} : isNon (.int i) = false := rfl
theorem isNon_bl {i : Bool} : isNon (.bl i) = false := rfl
theorem isNon_str {i : Str} : isNon (.str i) = false := rfl
theorem isNon_tup {i : List PV} : isNon (.tup i) = false := rfl
theorem isNon_lst {i : List PV} : isNon (.lst i) = false := rfl
theorem isNon_ref {i : Nat} : isNon (.ref i) = false := rfl
theorem getS_0 {x : Option PV} {r : Sl} : getS (x :: r) 0 = x := rfl
theorem getS_s {x : Option PV} {r : Sl} {n : Nat} : getS (x :: r) (n + 1) = getS r n := rfl
/-- an item at a number of the text -/
theorem atI_nat {α : Type} {xs : List α} {n : Nat} : atI xs (n : Int) = xs[n]? := by
  unfold atI ixN
  rw [if_pos (by omega)]
  by_cases h : n < xs.length
  · rw [if_pos (by omega)]; simp
  · rw [if_neg (by omega)]
    simp only [Option.bind_none]
    exact (List.getElem?_eq_none (by omega)).symm
theorem atI_0 {α : Type} {x : α} {r : List α} : atI (x :: r) 0 = some x := atI_nat (n := 0)
theorem atI_1 {α : Type} {x y : α} {r : List α} : atI (x :: y :: r) 1 = some y := atI_nat (n := 1)
theorem atI_2 {α : Type} {x y z : α} {r : List α} : atI (x :: y :: z :: r) 2 = some z := atI_nat (n := 2)
theorem atI_3 {α : Type} {x y z u : α} {r : List α} : atI (x :: y :: z :: u :: r) 3 = some u := atI_nat (n := 3)
theorem atI_4 {α : Type} {x y z u v : α} {r : List α} : atI (x :: y :: z :: u :: v :: r) 4 = some v := atI_nat (n := 4)
theorem atI_of {α : Type} {xs : List α} {i : Int} (h0 : 0 ≤ i) (h : i < xs.length) : atI xs i = some (xs[i.toNat]'(by omega)) := by
  obtain ⟨n, rfl⟩ := Int.eq_ofNat_of_zero_le h0
  rw [atI_nat]
  exact List.getElem?_eq_getElem _
theorem atI_int {ns : List Int} {i : Int} (h0 : 0 ≤ i) (h : i < ns.length) : atI (ns.map PV.int) i = some (.int (ns[i.toNat]'(by omega))) := by
  rw [atI_of h0 (by simpa using h)]
  simp
theorem ixN_nat {n m : Nat} (h : m < n) : ixN n (m : Int) = some m := by
  unfold ixN
  rw [if_pos (by omega), if_pos (by omega)]; simp
theorem while_ind {t : T} {b : Ss} {D : PEnds} (W : Nat → Sl → Store → Prop)
    (h : ∀ n τ st, W n τ st → wpT t (KEx D τ) τ st fun k st1 => if k = true then wpSs b (D.lp fun τ' st' => ∃ m, m < n ∧ W m τ' st') τ st1 else D.nx τ st1)
    {τ : Sl} {st : Store} (n : Nat) (h0 : W n τ st) : whileL (KWt t D) (wpSs b) D τ st := by
  rw [f_KWt]
  exact ⟨W, ⟨n, h0⟩, h⟩

theorem Arm_nil {D : PEnds} : Arm .nil D = D.nx := by funext τ st; exact Arm_eq
theorem sz_0 : (0 ≤ sizeLine) = True := eq_true (by decide)
theorem sz_1 : (1 ≤ sizeLine) = True := eq_true (by decide)
theorem sz_2 : (2 ≤ sizeLine) = True := eq_true (by decide)
theorem sz_3 : (3 ≤ sizeLine) = True := eq_true (by decide)
theorem sz_4 : (4 ≤ sizeLine) = True := eq_true (by decide)
theorem sz_5 : (5 ≤ sizeLine) = True := eq_true (by decide)
theorem sz_6 : (6 ≤ sizeLine) = True := eq_true (by decide)
theorem sz_7 : (7 ≤ sizeLine) = True := eq_true (by decide)
theorem sz_8 : (8 ≤ sizeLine) = True := eq_true (by decide)
theorem sz_9 : (9 ≤ sizeLine) = True := eq_true (by decide)
theorem sz_10 : (10 ≤ sizeLine) = True := eq_true (by decide)
theorem sz_11 : (11 ≤ sizeLine) = True := eq_true (by decide)
theorem sz_12 : (12 ≤ sizeLine) = True := eq_true (by decide)
theorem cp_2 : CPow 10 2 = True := eq_true (by unfold CPow; decide)
theorem cp_3 : CPow 10 3 = True := eq_true (by unfold CPow; decide)
theorem cp_4 : CPow 10 4 = True := eq_true (by unfold CPow; decide)
theorem cp_5 : CPow 10 5 = True := eq_true (by unfold CPow; decide)
theorem cp_6 : CPow 10 6 = True := eq_true (by unfold CPow; decide)
theorem cp_7 : CPow 10 7 = True := eq_true (by unfold CPow; decide)
theorem cp_12 : CPow 10 12 = True := eq_true (by unfold CPow; decide)
theorem cp_20 : CPow 10 20 = True := eq_true (by unfold CPow; decide)
theorem cp_30 : CPow 10 30 = True := eq_true (by unfold CPow; decide)
theorem cp_38 : CPow 10 38 = True := eq_true (by unfold CPow; decide)
theorem cp_39 : CPow 10 39 = True := eq_true (by unfold CPow; decide)
theorem cp_40 : CPow 10 40 = True := eq_true (by unfold CPow; decide)
/-! ### operations on followed lists -/
def KSet2 (a : Nat) (v : PV) (st : Store) (Q : Store → Prop) (xs : List PV) (j : Nat) : Prop := Q (up st a (some (.lst (xs.set j v))))
def KSet1 (a : Nat) (k : Int) (v : PV) (st : Store) (Q : Store → Prop) (xs : List PV) : Prop := oP (ixN xs.length k) (KSet2 a v st Q xs)
def KApp (a : Nat) (v : PV) (st : Store) (Q : PQ) (xs : List PV) : Prop := xs.length < sizeLine ∧ Q .non (up st a (some (.lst (xs ++ [v]))))
def KExt (a : Nat) (w : PV) (st : Store) (Q : PQ) (xs : List PV) : Prop := oP (extOf st w) fun ys => xs.length + ys.length ≤ sizeLine ∧ Q .non (up st a (some (.lst (xs ++ ys))))
def KPop (a : Nat) (st : Store) (Q : PQ) (xs : List PV) : Prop := oP (xs[xs.length - 1]?) fun y => Q y (up st a (some (.lst xs.dropLast)))
def KAddL (m : Bool) (w : PV) (st : Store) (Q : PQ) (xs : List PV) : Prop := oP (lstOf st w) fun ys => xs.length + ys.length ≤ sizeLine ∧ newList m (xs ++ ys) st Q
def KCut (m : Bool) (lo hi : Option Int) (st : Store) (Q : PQ) (xs : List PV) : Prop := newList m (cutP xs lo hi) st Q
def KTru (st : Store) (Q : Bool → Store → Prop) (xs : List PV) : Prop := Q (!xs.isEmpty) st
theorem lstOf_ref {st : Store} {a : Nat} {xs : List PV} : lstOf st (.ref a) = some xs ↔ st a = some (.lst xs) := by
  show (match st a with
    | some (.lst xs) => some xs
    | _ => none) = some xs ↔ _
  cases h : st a with
  | none => simp
  | some c => cases c <;> simp
theorem oP_iff {α : Type} {o : Option α} {k : α → Prop} : oP o k ↔ ∃ a, o = some a ∧ k a := by
  cases o with
  | none => simp [oP]
  | some a => simp [oP]
theorem v_set {a : Nat} {k : Int} {v : PV} {st : Store} {Q : Store → Prop} : setIxV (.ref a) (.int k) v st Q = oP (lstOf st (.ref a)) (KSet1 a k v st Q) := by
  refine propext ⟨fun ⟨xs, j, h1, h2, h3⟩ => oP_iff.mpr ⟨xs, lstOf_ref.mpr h1, oP_iff.mpr ⟨j, h2, h3⟩⟩, fun h => ?_⟩
  obtain ⟨xs, h1, h2⟩ := oP_iff.mp h
  obtain ⟨j, h2, h3⟩ := oP_iff.mp h2
  exact ⟨xs, j, lstOf_ref.mp h1, h2, h3⟩
theorem v_app {a : Nat} {v : PV} {st : Store} {Q : PQ} : methV .append (.ref a) [v] st Q = oP (lstOf st (.ref a)) (KApp a v st Q) := by
  refine propext ⟨fun ⟨xs, h1, h2⟩ => oP_iff.mpr ⟨xs, lstOf_ref.mpr h1, h2⟩, fun h => ?_⟩
  obtain ⟨xs, h1, h2⟩ := oP_iff.mp h
  exact ⟨xs, lstOf_ref.mp h1, h2⟩
theorem v_ext {a : Nat} {w : PV} {st : Store} {Q : PQ} : methV .extend (.ref a) [w] st Q = oP (lstOf st (.ref a)) (KExt a w st Q) := by
  refine propext ⟨fun ⟨xs, ys, h1, h2, h3⟩ => oP_iff.mpr ⟨xs, lstOf_ref.mpr h1, oP_iff.mpr ⟨ys, h2, h3⟩⟩, fun h => ?_⟩
  obtain ⟨xs, h1, h2⟩ := oP_iff.mp h
  obtain ⟨ys, h2, h3⟩ := oP_iff.mp h2
  exact ⟨xs, ys, lstOf_ref.mp h1, h2, h3⟩
theorem v_pop {a : Nat} {st : Store} {Q : PQ} : methV .pop (.ref a) [] st Q = oP (lstOf st (.ref a)) (KPop a st Q) := by
  refine propext ⟨fun ⟨xs, ys, h1, h2, h3⟩ => oP_iff.mpr ⟨xs, lstOf_ref.mpr h1, oP_iff.mpr ⟨ys, h2, h3⟩⟩, fun h => ?_⟩
  obtain ⟨xs, h1, h2⟩ := oP_iff.mp h
  obtain ⟨ys, h2, h3⟩ := oP_iff.mp h2
  exact ⟨xs, ys, lstOf_ref.mp h1, h2, h3⟩
theorem v_addRL {m : Bool} {a : Nat} {ys : List PV} {st : Store} {Q : PQ} : binV .Add m (.ref a) (.lst ys) st Q = oP (lstOf st (.ref a)) (KAddL m (.lst ys) st Q) := by
  refine propext ⟨fun ⟨xs, h1, h2⟩ => oP_iff.mpr ⟨xs, lstOf_ref.mpr h1, h2⟩, fun h => ?_⟩
  obtain ⟨xs, h1, h2⟩ := oP_iff.mp h
  exact ⟨xs, lstOf_ref.mp h1, h2⟩
theorem v_addLR {m : Bool} {a : Nat} {xs : List PV} {st : Store} {Q : PQ} : binV .Add m (.lst xs) (.ref a) st Q = KAddL m (.ref a) st Q xs := by
  refine propext ⟨fun ⟨ys, h1, h2⟩ => oP_iff.mpr ⟨ys, lstOf_ref.mpr h1, h2⟩, fun h => ?_⟩
  obtain ⟨ys, h1, h2⟩ := oP_iff.mp h
  exact ⟨ys, lstOf_ref.mp h1, h2⟩
theorem v_addRR {m : Bool} {a b : Nat} {st : Store} {Q : PQ} : binV .Add m (.ref a) (.ref b) st Q = oP (lstOf st (.ref a)) (KAddL m (.ref b) st Q) := by
  refine propext ⟨fun ⟨xs, ys, h1, h2, h3⟩ => oP_iff.mpr ⟨xs, lstOf_ref.mpr h1, oP_iff.mpr ⟨ys, lstOf_ref.mpr h2, h3⟩⟩, fun h => ?_⟩
  obtain ⟨xs, h1, h2⟩ := oP_iff.mp h
  obtain ⟨ys, h2, h3⟩ := oP_iff.mp h2
  exact ⟨xs, ys, lstOf_ref.mp h1, lstOf_ref.mp h2, h3⟩
theorem v_cut {m : Bool} {a : Nat} {lo hi : Option Int} {st : Store} {Q : PQ} : sliceV m (.ref a) lo hi st Q = oP (lstOf st (.ref a)) (KCut m lo hi st Q) := by
  refine propext ⟨fun ⟨xs, h1, h2⟩ => oP_iff.mpr ⟨xs, lstOf_ref.mpr h1, h2⟩, fun h => ?_⟩
  obtain ⟨xs, h1, h2⟩ := oP_iff.mp h
  exact ⟨xs, lstOf_ref.mp h1, h2⟩
theorem v_tru {a : Nat} {st : Store} {Q : Bool → Store → Prop} : truV (.ref a) st Q = oP (lstOf st (.ref a)) (KTru st Q) := by
  refine propext ⟨fun ⟨xs, h1, h2⟩ => oP_iff.mpr ⟨xs, lstOf_ref.mpr h1, h2⟩, fun h => ?_⟩
  obtain ⟨xs, h1, h2⟩ := oP_iff.mp h
  exact ⟨xs, lstOf_ref.mp h1, h2⟩
theorem ix_50 : ixN 5 0 = some 0 := rfl
theorem ix_51 : ixN 5 1 = some 1 := rfl
theorem ix_52 : ixN 5 2 = some 2 := rfl
theorem ix_53 : ixN 5 3 = some 3 := rfl
theorem ix_54 : ixN 5 4 = some 4 := rfl
theorem inOk_sc {st : Store} {v w : PV} {xs : List PV} (h : isSc v = true) (k : xs.all isSc = true) : inOk st v w xs := .inl ⟨h, k⟩
/-! ### operations whose wish is looked at later -/
def KItL (i : Int) (st : Store) (Q : PQ) (xs : List PV) : Prop := oP (atI xs i) (KV st Q)
def KLen (st : Store) (Q : PQ) (xs : List PV) : Prop := Q (.int xs.length) st
def KTupB (st : Store) (Q : PQ) (xs : List PV) : Prop := Q (.tup xs) st
def KListB (m : Bool) (st : Store) (Q : PQ) (xs : List PV) : Prop := newList m xs st Q
def KAll2 (st : Store) (Q : PQ) (bs : List Bool) : Prop := Q (.bl (bs.all id)) st
def KAll (st : Store) (Q : PQ) (xs : List PV) : Prop := oP (blsOf xs) (KAll2 st Q)
def KAny2 (st : Store) (Q : PQ) (bs : List Bool) : Prop := Q (.bl (bs.any id)) st
def KAny (st : Store) (Q : PQ) (xs : List PV) : Prop := oP (blsOf xs) (KAny2 st Q)
def KSum2 (st : Store) (Q : PQ) (ns : List Int) : Prop := Q (.int ns.sum) st
def KSum (st : Store) (Q : PQ) (xs : List PV) : Prop := oP (intsOf xs) (KSum2 st Q)
def KMax2 (st : Store) (Q : PQ) (ns : List Int) : Prop := ns ≠ [] ∧ Q (.int (maxL ns)) st
def KMax (st : Store) (Q : PQ) (xs : List PV) : Prop := oP (intsOf xs) (KMax2 st Q)
def KMin2 (st : Store) (Q : PQ) (ns : List Int) : Prop := ns ≠ [] ∧ Q (.int (minL ns)) st
def KMin (st : Store) (Q : PQ) (xs : List PV) : Prop := oP (intsOf xs) (KMin2 st Q)
def KIn (v w : PV) (st : Store) (Q : PQ) (xs : List PV) : Prop := inOk st v w xs ∧ Q (.bl (xs.any fun y => eqv y v)) st
def KNotIn (v w : PV) (st : Store) (Q : PQ) (xs : List PV) : Prop := inOk st v w xs ∧ Q (.bl (!xs.any fun y => eqv y v)) st
def KItR (f : List PV → List PV) (a : Nat) (st : Store) (Q : List PV → (Store → Prop) → Store → Prop) (xs : List PV) : Prop := Q (f xs) (fun s => s a = some (.lst xs)) st
def KFrz (a : Nat) (st : Store) (Q : PQ) (xs : List PV) : Prop := Q (.lst xs) (up st a none)
section
variable {m : Bool} {st : Store} {Q : PQ} {v : PV} {a : Nat} {xs : List PV} {i : Int}
theorem v_itT  : itemV i (.tup xs) st Q = oP (atI xs i) (KV st Q) := rfl
theorem v_itL  : itemV i (.lst xs) st Q = oP (atI xs i) (KV st Q) := rfl
theorem v_itR  : itemV i (.ref a) st Q = oP (lstOf st (.ref a)) (KItL i st Q) := rfl
theorem v_lenR  : bltV .len m [.ref a] st Q = oP (lstOf st (.ref a)) (KLen st Q) := rfl
theorem v_tuple  : bltV .tuple m [v] st Q = oP (seqOf st v) (KTupB st Q) := rfl
theorem v_listR  : bltV .list m [.ref a] st Q = oP (lstOf st (.ref a)) (KListB m st Q) := rfl
theorem v_all  : bltV .all m [v] st Q = oP (lstOf st v) (KAll st Q) := rfl
theorem v_any  : bltV .any m [v] st Q = oP (lstOf st v) (KAny st Q) := rfl
theorem v_sum  : bltV .sum m [v] st Q = oP (lstOf st v) (KSum st Q) := rfl
theorem v_max  : bltV .max m [v] st Q = oP (extOf st v) (KMax st Q) := rfl
theorem v_min  : bltV .min m [v] st Q = oP (lstOf st v) (KMin st Q) := rfl
theorem v_inT {ys : List PV} : cmpV .In v (.tup ys) st Q = oP (seqOf st (.tup ys)) (KIn v (.tup ys) st Q) := rfl
theorem v_inL {ys : List PV} : cmpV .In v (.lst ys) st Q = oP (seqOf st (.lst ys)) (KIn v (.lst ys) st Q) := rfl
theorem v_inR : cmpV .In v (.ref a) st Q = oP (seqOf st (.ref a)) (KIn v (.ref a) st Q) := rfl
theorem onStr_eq {x : Str} {k : Str → Prop} : onStr (.str x) k = k x := rfl
theorem v_notInT {ys : List PV} : cmpV .NotIn v (.tup ys) st Q = oP (seqOf st (.tup ys)) (KNotIn v (.tup ys) st Q) := rfl
theorem v_notInL {ys : List PV} : cmpV .NotIn v (.lst ys) st Q = oP (seqOf st (.lst ys)) (KNotIn v (.lst ys) st Q) := rfl
theorem v_notInR : cmpV .NotIn v (.ref a) st Q = oP (seqOf st (.ref a)) (KNotIn v (.ref a) st Q) := rfl
theorem v_it {f : List PV → List PV} {K : List PV → (Store → Prop) → Store → Prop} : itV f (.ref a) st K = oP (lstOf st (.ref a)) (KItR f a st K) := rfl
theorem v_itL2 {f : List PV → List PV} {K : List PV → (Store → Prop) → Store → Prop} : itVL f (.ref a) st K = oP (lstOf st (.ref a)) (KItR f a st K) := rfl
theorem v_frz  : frzV (.ref a) st Q = oP (lstOf st (.ref a)) (KFrz a st Q) := rfl
end
section
variable {st : Store} {Q : PQ} {i j : Int} {a b : Bool}
theorem v_eqII : cmpV .Eq (.int i) (.int j) st Q = Q (.bl (decide (i = j))) st := by
  show (eqOk st (.int i) (.int j) ∧ Q (.bl (eqv (.int i) (.int j))) st) = _
  rw [show eqv (.int i) (.int j) = decide (i = j) by unfold eqv; rfl]
  exact propext ⟨fun h => h.2, fun h => ⟨.inl rfl, h⟩⟩
theorem v_neII : cmpV .NotEq (.int i) (.int j) st Q = Q (.bl (!decide (i = j))) st := by
  show (eqOk st (.int i) (.int j) ∧ Q (.bl (!eqv (.int i) (.int j))) st) = _
  rw [show eqv (.int i) (.int j) = decide (i = j) by unfold eqv; rfl]
  exact propext ⟨fun h => h.2, fun h => ⟨.inl rfl, h⟩⟩
theorem v_eqSS {x y : Str} : cmpV .Eq (.str x) (.str y) st Q = Q (.bl (decide (x = y))) st := by
  show (eqOk st (.str x) (.str y) ∧ Q (.bl (eqv (.str x) (.str y))) st) = _
  rw [show eqv (.str x) (.str y) = decide (x = y) by unfold eqv; rfl]
  exact propext ⟨fun h => h.2, fun h => ⟨.inl rfl, h⟩⟩
theorem v_eqBB : cmpV .Eq (.bl a) (.bl b) st Q = Q (.bl (a == b)) st := by
  show (eqOk st (.bl a) (.bl b) ∧ Q (.bl (eqv (.bl a) (.bl b))) st) = _
  rw [show eqv (.bl a) (.bl b) = (a == b) by unfold eqv; rfl]
  exact propext ⟨fun h => h.2, fun h => ⟨.inl rfl, h⟩⟩
theorem v_neBB : cmpV .NotEq (.bl a) (.bl b) st Q = Q (.bl (!(a == b))) st := by
  show (eqOk st (.bl a) (.bl b) ∧ Q (.bl (!eqv (.bl a) (.bl b))) st) = _
  rw [show eqv (.bl a) (.bl b) = (a == b) by unfold eqv; rfl]
  exact propext ⟨fun h => h.2, fun h => ⟨.inl rfl, h⟩⟩
end
end TK

set_option maxRecDepth 100000
set_option maxHeartbeats 4000000
namespace TK
open PySem PySem.Spec PyProof.Rows L2
/-! ### the drawing of numbers from the script -/
/-- a number one may divide by -/
def Sm (n : Int) : Prop := n.natAbs < 2 ^ 8000
theorem Sm.of {n : Int} (h : n.natAbs ≤ 10 ^ 100) : Sm n := Nat.lt_of_le_of_lt h (by decide)
theorem Sm.div {n : Int} (h : Sm n) (h0 : n ≠ 0) : DivOk n := ⟨h0, Nat.lt_of_lt_of_le ((Nat.log2_lt (by omega)).mpr h) (by decide)⟩
theorem Sm.lit {n : Nat} (h : n < 2 ^ 8000) : Sm (n : Int) := h
def poolC (ns : List Int) (x b c d : Int) : Cell := .lst [.lst (ns.map .int), .int x, .int b, .int c, .int d]
theorem unpool {K : PySem.W.Frag} {H : Hp} {F : FS} {st : Store} {p : Addr} (r : RS K H F st) (e : st p = some .pool) : ∃ ns x b c d, 0 ≤ x ∧ RS K H F (up st p (some (poolC ns x b c d))) := by
  obtain ⟨nf, q, ns, x, b, c, d, h1, h2, h3, h4⟩ := r.pool p e
  refine ⟨ns, x, b, c, d, h4, fun a xs z => ?_, fun a z => ?_, r.fz⟩
  · by_cases n : a = p
    · subst n
      rw [up_same] at z; cases z
      exact ⟨nf, _, h1, .cons (.lst h2 h3 (DVs.ints ns)) (.cons (.int _) (.cons (.int _) (.cons (.int _) (.cons (.int _) .nil))))⟩
    · rw [up_ne n] at z; exact r.lst a xs z
  · by_cases n : a = p
    · subst n; rw [up_same] at z; cases z
    · rw [up_ne n] at z; exact r.pool a z
theorem repool {K : PySem.W.Frag} {H : Hp} {F : FS} {st : Store} {p : Addr} {ns : List Int} {x b c d : Int} (r : RS K H F (up st p (some (poolC ns x b c d)))) (hx : 0 ≤ x) : RS K H F (up st p (some .pool)) := by
  refine ⟨fun a xs z => ?_, fun a z => ?_, r.fz⟩
  · by_cases n : a = p
    · subst n; rw [up_same] at z; cases z
    · rw [up_ne n] at z; exact r.lst a xs (by rw [up_ne n]; exact z)
  · by_cases n : a = p
    · subst n
      obtain ⟨nf, ys, h, d⟩ := r.lst a _ up_same
      refine ⟨nf, ?_⟩
      cases d with
      | cons d0 d =>
        cases d with
        | cons d1 d => cases d with
          | cons d2 d => cases d with
            | cons d3 d => cases d with
              | cons d4 d => cases d with
                | nil =>
                  cases d1; cases d2; cases d3; cases d4
                  cases d0 with
                  | lst f e dd => exact ⟨_, ns, _, _, _, _, h, f, e.trans (by rw [dd.of_ints]), hx⟩
    · rw [up_ne n] at z; exact r.pool a (by rw [up_ne n]; exact z)
/-- a list-level promise, told of the pool -/
def sl__law_pool : PSpec
  | [.scr ns], st, Q, _ => ∀ p, st p = none → Q (.ref p) (up st p (some (poolC ns 0 0 7 0)))
  | _, _, _, _ => False
def sp__law_pool : PSpec
  | [.scr _], st, Q, _ => ∀ p, st p = none → Q (.ref p) (up st p (some .pool))
  | _, _, _, _ => False
def sp__law_mix : PSpec
  | [.ref p], st, Q, _ => ∃ ns x b c d, st p = some (poolC ns x b c d) ∧ ∀ c' d', 0 ≤ c' → Q (.int c') (up st p (some (poolC ns x b c' d')))
  | _, _, _, _ => False
def sl__law_draw : PSpec
  | [.ref p, .int many], st, Q, _ => ∃ ns x b c d, st p = some (poolC ns x b c d) ∧ 0 ≤ x ∧ Sm many ∧ ∀ r x' b' c' d', 0 ≤ x' → 0 ≤ r → (2 ≤ many → r < many) → (many < 2 → r = 0) → Q (.int r) (up st p (some (poolC ns x' b' c' d')))
  | _, _, _, _ => False
def sp__law_draw : PSpec
  | [.ref p, .int many], st, Q, _ => st p = some .pool ∧ Sm many ∧ ∀ r, 0 ≤ r → (2 ≤ many → r < many) → (many < 2 → r = 0) → Q (.int r) st
  | _, _, _, _ => False
theorem pool_view {Γ : Wd} {k : Nat} (h : HasFn Γ k "_law_pool" sl__law_pool 1) : HasFn Γ k "_law_pool" sp__law_pool 1 := by
  refine h.view fun vs st Q X H F rs hs => ?_
  unfold sp__law_pool at hs
  split at hs
  · rename_i ns
    refine ⟨st, fun v s => ∃ p, st p = none ∧ v = .ref p ∧ s = up st p (some (poolC ns 0 0 7 0)), rs, fun p hp => ⟨p, hp, rfl, rfl⟩, ?_⟩
    rintro v s2 H' F' _ r2 ⟨p, hp, rfl, rfl⟩
    exact ⟨_, repool r2 (Int.le_refl 0), hs p hp⟩
  · exact hs.elim
theorem draw_view {Γ : Wd} {k : Nat} (h : HasFn Γ k "_law_draw" sl__law_draw 2) : HasFn Γ k "_law_draw" sp__law_draw 2 := by
  refine h.view fun vs st Q X H F rs hs => ?_
  unfold sp__law_draw at hs
  split at hs
  · rename_i p many
    obtain ⟨h1, h2, h3⟩ := hs
    obtain ⟨ns, x, b, c, d, hx, rs2⟩ := unpool rs h1
    refine ⟨_, fun v s => ∃ r x' b' c' d', v = .int r ∧ 0 ≤ x' ∧ 0 ≤ r ∧ (2 ≤ many → r < many) ∧ (many < 2 → r = 0) ∧ s = up (up st p (some (poolC ns x b c d))) p (some (poolC ns x' b' c' d')), rs2, ⟨ns, x, b, c, d, up_same, hx, h2, fun r x' b' c' d' a1 a2 a3 a4 => ⟨r, x', b', c', d', rfl, a1, a2, a3, a4, rfl⟩⟩, ?_⟩
    rintro v s2 H' F' _ r2 ⟨r, x', b', c', d', rfl, a1, a2, a3, a4, rfl⟩
    rw [up_up] at r2
    have r3 := repool r2 a1
    rw [up_id h1] at r3
    exact ⟨st, r3, h3 r a2 a3 a4⟩
  · exact hs.elim
end TK

set_option maxRecDepth 100000
set_option maxHeartbeats 4000000
namespace TK
open PySem PySem.Spec PyProof.Rows L2
/-! ### how long a value's text is, at most -/
def Pn (n : Int) : Prop := n.natAbs < 10 ^ 570
mutual
def shOk : Nat → PV → Prop
  | _, .non => True
  | _, .bl _ => True
  | _, .int i => Pn i
  | n, .tup xs => n ≠ 0 ∧ shOks (n - 1) xs
  | n, .lst xs => n ≠ 0 ∧ shOks (n - 1) xs
  | _, _ => False
def shOks : Nat → List PV → Prop
  | _, [] => True
  | n, x :: r => shOk n x ∧ shOks n r
end
mutual
def wgt : PV → Nat
  | .tup xs => wgts xs + 3
  | .lst xs => wgts xs + 3
  | _ => 571
def wgts : List PV → Nat
  | [] => 0
  | x :: r => wgt x + 2 + wgts r
end
theorem ten_pow (k : Nat) : ((10 : Int) ^ k) = ((10 ^ k : Nat) : Int) := by
  first
    | exact (Int.natCast_pow 10 k).symm
    | simp
theorem shown_int {i : Int} (h : Pn i) : (Str.ofString (toString i)).length ≤ 571 := by
  unfold Pn at h
  cases i with
  | ofNat m =>
    exact Nat.le_succ_of_le (toString_length_le (v := (m : Int)) (k := 570) (by omega) (by decide) (by rw [ten_pow]; exact Int.ofNat_lt.mpr h))
  | negSucc m =>
    have e : toString (Int.negSucc m) = "-" ++ toString (((m + 1 : Nat)) : Int) := rfl
    have h2 : (Str.ofString (toString (((m + 1 : Nat)) : Int))).length ≤ 570 := toString_length_le (v := ((m + 1 : Nat) : Int)) (k := 570) (by omega) (by decide) (by rw [ten_pow]; exact Int.ofNat_lt.mpr h)
    have l : ∀ s : String, (Str.ofString s).length = s.toList.length := fun s => by
      have := congrArg List.length (signs_ofString s)
      rw [List.length_map] at this
      exact this
    rw [e, l, String.toList_append, List.length_append, ← l, ← l]
    have : (Str.ofString "-").length = 1 := rfl
    omega
theorem piled_all : ∀ (ts : List Str), (listText ts).length ≤ piled ts + 2 ∧ (tupleText ts).length ≤ piled ts + 3
  | [] => ⟨by decide, by decide⟩
  | t :: r => by
    refine ⟨?_, ?_⟩
    · unfold listText
      rw [strLen_append]
      show (textFrom 1 (("[" : Str) ++ (if 0 > 0 then ", " else "" : String) ++ t) r).length + _ ≤ _
      rw [textFrom_length_pos _ _ _ (by decide), piled_cons, strLen_append, strLen_append]
      have e1 : (("[" : String) : Str).length = 1 := rfl
      have e2 : ((if 0 > 0 then ", " else "" : String) : Str).length = 0 := rfl
      have e3 : (("]" : String) : Str).length = 1 := rfl
      omega
    · unfold tupleText
      rw [strLen_append, strLen_append]
      have e1 : ((("(" : String) : Str)).length = 1 := rfl
      have e3 : (((if (t :: r).length == 1 then ",)" else ")" : String) : Str)).length ≤ 2 := by split <;> decide
      have := join_length_add (t :: r) (by simp)
      omega
mutual
theorem show_le : ∀ (n : Nat) (v : PV), n ≤ 60 → shOk n v → (toD v).showable = true ∧ (toD v).shown.length ≤ wgt v ∧ flat n v = true
  | _, .non, _, _ => ⟨rfl, by decide, by simp only [flat]⟩
  | _, .bl b, _, _ => ⟨rfl, by cases b <;> decide, by simp only [flat]⟩
  | _, .int i, _, h => by
    unfold shOk at h
    refine ⟨?_, ?_, by simp only [flat]⟩
    · simp only [toD, PyData.showable, decide_eq_true_eq]
      exact log2_small (Nat.lt_of_lt_of_le h (by decide))
    · simp only [toD, PyData.shown, wgt]
      exact shown_int h
  | n, .tup xs, hn, h => by
    unfold shOk at h
    obtain ⟨h1, h2⟩ := h
    obtain ⟨a, b, c⟩ := shows_le (n - 1) xs (by omega) h2
    refine ⟨?_, ?_, ?_⟩
    · simp only [toD, PyData.showable]; exact a
    · simp only [toD, PyData.shown, wgt]
      exact Nat.le_trans (piled_all _).2 (by omega)
    · simp only [flat, c, Bool.and_true]; simpa using h1
  | n, .lst xs, hn, h => by
    unfold shOk at h
    obtain ⟨h1, h2⟩ := h
    obtain ⟨a, b, c⟩ := shows_le (n - 1) xs (by omega) h2
    refine ⟨?_, ?_, ?_⟩
    · simp only [toD, PyData.showable]; exact a
    · simp only [toD, PyData.shown, wgt]
      exact Nat.le_trans (piled_all _).1 (by omega)
    · simp only [flat, c, Bool.and_true]; simpa using h1
  | _, .str _, _, h => by unfold shOk at h; exact h.elim
  | _, .ref _, _, h => by unfold shOk at h; exact h.elim
  | _, .scr _, _, h => by unfold shOk at h; exact h.elim
theorem shows_le : ∀ (n : Nat) (xs : List PV), n ≤ 60 → shOks n xs → PyData.showableAll (toDs xs) = true ∧ piled (PyData.shownAll (toDs xs)) ≤ wgts xs ∧ flats n xs = true
  | _, [], _, _ => ⟨rfl, by decide, by simp only [flats]⟩
  | n, x :: r, hn, h => by
    unfold shOks at h
    obtain ⟨a, b, c⟩ := show_le n x hn h.1
    obtain ⟨a2, b2, c2⟩ := shows_le n r hn h.2
    refine ⟨?_, ?_, ?_⟩
    · simp only [toDs, PyData.showableAll, a, a2, Bool.and_self]
    · simp only [toDs, PyData.shownAll, wgts]
      rw [piled_cons]; omega
    · simp only [flats, c, c2, Bool.and_self]
end
theorem flat_mono : True := trivial
theorem showOk_of {v : PV} (h : shOk 60 v) (hw : wgt v ≤ sizeLine) : ShowOk v :=
  let ⟨a, b, c⟩ := show_le 60 v (Nat.le_refl _) h
  ⟨a, Nat.le_trans b hw, c⟩
end TK

set_option maxRecDepth 100000
set_option maxHeartbeats 4000000
namespace TK
open PySem PySem.Spec PyProof.Rows L2
/-- a comprehension over the images of a list -/
theorem lc_encA {α : Type} {enc : α → PV} {tg : TG} {t : Sl → Store → (Bool → Store → Prop) → Prop} {e : Sl → Store → PQ → Prop} {τ : Sl} {st : Store} {K : List PV → Store → Prop} (f : α → Bool) (g : α → PV) :
    ∀ (l : List α) (acc : List PV), (∀ x ∈ l, ∃ τ1, tg.asg (enc x) τ = some τ1 ∧ ∀ st', Sub st st' → (∀ Q, Q (f x) st' → t τ1 st' Q) ∧ (f x = true → ∀ Q, Q (g x) st' → e τ1 st' Q)) → K (acc ++ (l.filter f).map g) st → lcL tg t e τ K (l.map enc) st acc
  | [], acc, _, h => by
    show K acc st
    simpa using h
  | x :: r, acc, hx, h => by
    obtain ⟨τ1, h1, h2⟩ := hx x List.mem_cons_self
    have hr := fun y hy => hx y (List.mem_cons_of_mem _ hy)
    rw [List.map_cons]
    unfold lcL
    rw [h1]
    intro st' sub
    obtain ⟨h3, h4⟩ := h2 st' sub
    refine h3 _ ⟨rfl, ?_⟩
    cases e : f x with
    | true =>
      rw [if_pos rfl]
      refine h4 e _ (.inl ⟨rfl, lc_encA f g r _ hr ?_⟩)
      rw [List.filter_cons_of_pos e, List.map_cons] at h
      simpa using h
    | false =>
      rw [if_neg (by decide)]
      refine lc_encA f g r _ hr ?_
      rw [List.filter_cons_of_neg (by rw [e]; decide)] at h
      exact h
/-- a comprehension whose tests and elements are known -/
theorem lc_pure {tg : TG} {t : Sl → Store → (Bool → Store → Prop) → Prop} {e : Sl → Store → PQ → Prop} {τ : Sl} {st : Store} {K : List PV → Store → Prop} (f : PV → Bool) (g : PV → PV)
    (xs acc : List PV) (hx : ∀ x ∈ xs, ∃ τ1, tg.asg x τ = some τ1 ∧ ∀ st', Sub st st' → (∀ Q, Q (f x) st' → t τ1 st' Q) ∧ (f x = true → ∀ Q, Q (g x) st' → e τ1 st' Q)) (h : K (acc ++ (xs.filter f).map g) st) : lcL tg t e τ K xs st acc := by
  have := lc_encA (enc := id) (K := K) f g xs acc hx h
  rwa [List.map_id] at this
/-- .. without a test -/
theorem lc_map {tg : TG} {e : Sl → Store → PQ → Prop} {t : Sl → Store → (Bool → Store → Prop) → Prop} {τ : Sl} {st : Store} {K : List PV → Store → Prop} (g : PV → PV)
    (xs : List PV) (ht : ∀ τ1 st' Q, Q true st' → t τ1 st' Q) (hx : ∀ x ∈ xs, ∃ τ1, tg.asg x τ = some τ1 ∧ ∀ st', Sub st st' → ∀ Q, Q (g x) st' → e τ1 st' Q) (h : K (xs.map g) st) : lcL tg t e τ K xs st [] :=
  lc_pure (fun _ => true) g xs [] (fun x hm => let ⟨τ1, a, b⟩ := hx x hm; ⟨τ1, a, fun st' sub => ⟨fun Q q => ht _ _ _ q, fun _ Q q => b st' sub Q q⟩⟩) (by rw [List.filter_eq_self.mpr (fun _ _ => rfl)]; exact h)
/-- slices from the start, to the end -/
theorem cut_to {α : Type} {xs : List α} {k : Int} (h : 0 ≤ k) : cutP xs none (some k) = xs.take k.toNat := by
  obtain ⟨n, rfl⟩ := Int.eq_ofNat_of_zero_le h
  unfold cutP
  rw [HT.sIx_nat, HT.sIx_none, List.drop_zero, Int.toNat_natCast, Nat.sub_zero, List.take_eq_take_iff]
  omega
theorem cut_from {α : Type} {xs : List α} {k : Int} (h : 0 ≤ k) : cutP xs (some k) none = xs.drop k.toNat := by
  obtain ⟨n, rfl⟩ := Int.eq_ofNat_of_zero_le h
  unfold cutP
  rw [HT.sIx_nat, HT.sIx_none, Int.toNat_natCast]
  by_cases hn : n ≤ xs.length
  · rw [Nat.min_eq_left hn]
    exact List.take_of_length_le (by rw [List.length_drop]; omega)
  · rw [Nat.min_eq_right (by omega), Nat.sub_self, List.take_zero]
    exact (List.drop_eq_nil_of_le (by omega)).symm

/-- .. with a test -/
theorem lc_filter {α : Type} {enc : α → PV} {tg : TG} {t : Sl → Store → (Bool → Store → Prop) → Prop} {e : Sl → Store → PQ → Prop} {τ : Sl} {st : Store} {K : List PV → Store → Prop} (f : α → Bool) (g : α → PV) (l : List α)
    (hx : ∀ x ∈ l, ∃ τ1, tg.asg (enc x) τ = some τ1 ∧ ∀ st', Sub st st' → (∀ Q, Q (f x) st' → t τ1 st' Q) ∧ (f x = true → ∀ Q, Q (g x) st' → e τ1 st' Q)) (h : K ((l.filter f).map g) st) : lcL tg t e τ K (l.map enc) st [] :=
  lc_encA f g l [] hx (by simpa using h)
/-- .. without one -/
theorem lc_enc {α : Type} {enc : α → PV} {tg : TG} {t : Sl → Store → (Bool → Store → Prop) → Prop} {e : Sl → Store → PQ → Prop} {τ : Sl} {st : Store} {K : List PV → Store → Prop} (g : α → PV) (l : List α) (ht : ∀ τ1 st' Q, Q true st' → t τ1 st' Q)
    (hx : ∀ x ∈ l, ∃ τ1, tg.asg (enc x) τ = some τ1 ∧ ∀ st', Sub st st' → ∀ Q, Q (g x) st' → e τ1 st' Q) (h : K (l.map g) st) : lcL tg t e τ K (l.map enc) st [] :=
  lc_encA (fun _ => true) g l [] (fun x hm => let ⟨τ1, a, b⟩ := hx x hm; ⟨τ1, a, fun st' sub => ⟨fun Q q => ht _ _ _ q, fun _ Q q => b st' sub Q q⟩⟩) (by rw [List.filter_eq_self.mpr (fun _ _ => rfl)]; exact h)
/-- a comprehension whose elements are new lists -/
theorem lc_new {α : Type} {enc : α → PV} {tg : TG} {t : Sl → Store → (Bool → Store → Prop) → Prop} {e : Sl → Store → PQ → Prop} {τ : Sl} {K : List PV → Store → Prop} (g : α → List PV) (ht : ∀ τ1 st' Q, Q true st' → t τ1 st' Q) :
    ∀ (l : List α) (st : Store) (acc : List PV), (∀ x ∈ l, ∃ τ1, tg.asg (enc x) τ = some τ1 ∧ ∀ st' Q, Sub st st' → (∀ p, st' p = none → Q (.ref p) (up st' p (some (.lst (g x))))) → e τ1 st' Q) →
      (∀ (ps : List Nat) (s : Store), ps.length = l.length → Sub st s → (∀ (i p : Nat) (x : α), ps[i]? = some p → l[i]? = some x → s p = some (.lst (g x)) ∧ st p = none) → ps.Nodup → K (acc ++ ps.map .ref) s) → lcL tg t e τ K (l.map enc) st acc
  | [], st, acc, _, h => by
    have := h [] st rfl (fun _ _ h => h) (fun i p x h => by simp at h) List.nodup_nil
    show K acc st
    simpa using this
  | x :: r, st, acc, hx, h => by
    obtain ⟨τ1, h1, h2⟩ := hx x List.mem_cons_self
    rw [List.map_cons]
    unfold lcL
    rw [h1]
    intro st' sub
    refine ht _ _ _ ⟨rfl, ?_⟩
    rw [if_pos rfl]
    refine h2 st' _ sub fun p hp => .inr ⟨p, g x, hp, rfl, rfl, ?_⟩
    have hp0 : st p = none := by
      cases e : st p with
      | none => rfl
      | some c => rw [sub _ _ e] at hp; cases hp
    have sub1 : Sub st (up st p (some (.lst (g x)))) := sub_new hp0
    refine lc_new g ht r _ _ (fun y hy => ?_) fun ps s hl hs hps hnd => ?_
    · obtain ⟨τ2, k1, k2⟩ := hx y (List.mem_cons_of_mem _ hy)
      exact ⟨τ2, k1, fun st2 Q s2 q => k2 st2 Q (fun a c ha => s2 a c (sub1 a c ha)) q⟩
    · have := h (p :: ps) s (by rw [List.length_cons, hl, List.length_cons]) (fun a c ha => hs a c (sub1 a c ha)) (fun i q y hi hy => ?_) (List.nodup_cons.mpr ⟨fun hm => ?_, hnd⟩)
      · rw [List.map_cons] at this
        rw [List.append_assoc]
        exact this
      · cases i with
        | zero =>
          simp only [List.getElem?_cons_zero, Option.some.injEq] at hi hy
          subst hi hy
          exact ⟨hs _ _ up_same, hp0⟩
        | succ i =>
          simp only [List.getElem?_cons_succ] at hi hy
          obtain ⟨a, b⟩ := hps i q y hi hy
          refine ⟨a, ?_⟩
          have n : q ≠ p := fun z => by rw [z, up_same] at b; cases b
          rwa [up_ne n] at b
      · obtain ⟨i, hi, e⟩ := List.getElem_of_mem hm
        have hir : i < r.length := by omega
        obtain ⟨_, b⟩ := hps i p (r[i]) (by rw [List.getElem?_eq_getElem hi, e]) (List.getElem?_eq_getElem hir)
        rw [up_same] at b; cases b
/-- a list with its numbers -/
theorem enumL_map {α : Type} (enc : α → PV) : ∀ (k : Nat) (l : List α), enumL k (l.map enc) = (l.zipIdx k).map fun p => .tup [.int (p.2 : Int), enc p.1]
  | _, [] => rfl
  | k, x :: r => by
    rw [List.map_cons, List.zipIdx_cons, List.map_cons, ← enumL_map enc (k + 1) r]
    rfl
end TK

open TK in
local macro_rules | `(tactic| simp_all only [$xs,*]) => `(tactic| simp only [ss_nil, Blk_eq, ss_cons, nxt_nx, nxt_rt, nxt_bk, nxt_ct, lp_nx, lp_rt, lp_bk, lp_ct, ex_nxt, ex_lp, KV, KF, KBin2, KBin1, KNeg, KUn, KNot2, KNot, KCmp2, KCmp1, KCh4, KCh3, KCh2, KCh1, KBs2, KBs, KIf, KTup, KLst, KIdx2, KIdx1, KSl3, KSl2, KSl1, KCall, KBlt, KIsi2, KIsi, KMe2, KMe1, KComp2, KComp, KEs2, KEs1, KO2, KO, KTv, KT4, KT3, KT2, KT1, KTc4, KTc3, KTc2, KTc1, KTn, KTs, KTi, KI1, KR12, KR1, KR2d, KR2c, KR2b, KR2a, KEn, KZ2, KZ1, KNx, KAsg, KAsgN, KSx4, KSx3, KSx2, KSx1, KAug2, KAug1, KExpr, KArm, KLoop, KWt, e_var, e_fvar, e_int, e_bl, e_non, e_str, e_glob, e_bin, e_neg, e_un, e_not, e_cmp, e_chain, e_bools, e_ite, e_tup, e_lst, e_idx, e_slice, e_call, e_callK, KCk1, KCk2, KRs_one, s_raise, s_try, tr_nx, tr_rt, tr_bk, tr_ct, s_tryH, trH_nx, trH_rt, trH_bk, trH_ct, nxt_ex, lp_ex, ex_fn, e_blt, e_isi, e_meth, e_comp, es_nil, es_cons, bs_one, bs_and, bs_or, o_no, o_yes, t_val, t_cmp, t_chain, t_not, t_bools, t_ite, ts_nilA, ts_nilO, ts_and, ts_or, i_val, i_r1, i_r2, i_en, i_zip, s_asgN, s_asgT, s_asgLc, s_setIx, s_aug, s_expr, s_ret, s_retN, s_ite, s_loop, s_while, s_pass, s_brk, s_cont, rt_fn, nx_fn, oP_some, oP_none, ↓v_itT, ↓v_itL, ↓v_itR, ↓v_lenR, ↓v_tuple, ↓v_listR, ↓v_all, ↓v_any, ↓v_sum, ↓v_max, ↓v_min, ↓v_inT, ↓v_inL, ↓v_inR, ↓v_notInT, ↓v_notInL, ↓v_notInR, onStr_eq, itV0, ↓v_it, ↓v_itL2, ↓v_frz, KItL, KLen, KTupB, KListB, KAll2, KAll, KAny2, KAny, KSum2, KSum, KMax2, KMax, KMin2, KMin, KIn, KNotIn, KItR, KFrz, ↓v_eqII, ↓v_eqSS, ↓v_neII, ↓v_eqBB, ↓v_neBB, ↓v_set, ↓v_app, ↓v_ext, ↓v_pop, ↓v_addRL, ↓v_addLR, ↓v_addRR, ↓v_cut, ↓v_tru, KSet1, KSet2, KApp, KExt, KPop, KAddL, KCut, KTru, List.set_cons_zero, List.set_cons_succ, onBl_eq, onInt_eq, getS_0, getS_s, getS, setS, wipeS, TG.asg, TGs.asg, Option.bind_some, binV, unV, negV, cmpV, idxV, itemV, sliceV, bltV, isiV, methV, truV, setIxV, augV, newList, frzV, itV, itVL, zipV, lstOf, extOf, seqOf, isLst, natc0, natc1, natc2, natc3, natc4, natc5, natc6, natc7, natc8, isNon_non, isNon_int, isNon_bl, isNon_str, isNon_tup, isNon_lst, isNon_ref, atI_0, atI_1, atI_2, atI_3, atI_4, callS_eq, Bool.not_true, Bool.not_false, ite_true, ite_false, reduceIte, reduceCtorEq, Bool.false_eq_true, decide_eq_true_eq, decide_true, decide_false, decide_not, Bool.not_eq_true', decide_eq_false_iff_not, initS, List.map_cons, List.map_nil, List.length_cons, List.length_nil, List.cons_append, List.nil_append, Nat.reduceAdd, Nat.reduceSub, List.replicate_succ, List.replicate_zero, up_same, Option.some.injEq, Cell.lst.injEq, exists_eq_left', exists_eq_left, true_and, and_true, true_or, inOk, PV.int.injEq, Int.reduceLT, Int.reduceLE, Int.reduceAdd, Int.reduceMul, Int.reduceNeg, Int.reduceSub, Int.reduceToNat, Int.reducePow, id_eq, not_true_eq_false, not_false_eq_true, Nat.zero_add, I.isR, false_implies, true_implies, forall_const, $xs,*])

set_option maxRecDepth 100000
set_option maxHeartbeats 4000000
namespace TK
open PySem PySem.Spec PyProof.Rows L2
-- _law_pool
def b__law_pool : Ss :=
  (.cons (.ret (.lst true (.cons (.blt .list false (.cons (.var 0) .nil)) (.cons (.int 0) (.cons (.int 0) (.cons (.int 7) (.cons (.int 0) .nil))))))) .nil)
def n__law_pool : List Str := ["script"]
-- _law_mix
def b__law_mix : Ss :=
  (.cons (.setIx (.var 0) (.int 4) (.bin .Add false (.idx (.var 0) (.int 4)) (.int 1))) (.cons (.asg (.name 1) (.bin .Mod false (.blt .int false (.cons (.bin .Add false (.bin .Add false (.bin .Mult false (.idx (.var 0) (.int 3)) (.int 48271)) (.bin .Mult false (.idx (.var 0) (.int 4)) (.int 69621))) (.int 11)) .nil)) (.int 2147483647))) (.cons (.setIx (.var 0) (.int 3) (.bin .Mod false (.blt .int false (.cons (.bin .Add false (.bin .Add false (.bin .Mult false (.var 1) (.int 16807)) (.bin .Mult false (.idx (.var 0) (.int 4)) (.int 40692))) (.int 5)) .nil)) (.int 1000000007))) (.cons (.ret (.idx (.var 0) (.int 3))) .nil))))
def n__law_mix : List Str := ["pool", "first"]
-- _law_draw
def b__law_draw : Ss :=
  (.cons (.ite (.cmp .Lt (.var 1) (.int 2)) (.cons (.ret (.int 0)) .nil) .nil) (.cons (.ite (.cmp .Gt (.idx (.var 0) (.int 2)) (.int 0)) (.cons (.asg (.name 2) (.bin .Mod false (.blt .int false (.cons (.idx (.var 0) (.int 2)) .nil)) (.var 1))) (.cons (.setIx (.var 0) (.int 2) (.bin .FloorDiv false (.idx (.var 0) (.int 2)) (.var 1))) (.cons (.ret (.var 2)) .nil))) .nil) (.cons (.ite (.cmp .Lt (.idx (.var 0) (.int 1)) (.blt .len false (.cons (.idx (.var 0) (.int 0)) .nil))) (.cons (.asg (.name 3) (.idx (.idx (.var 0) (.int 0)) (.idx (.var 0) (.int 1)))) (.cons (.setIx (.var 0) (.int 1) (.bin .Add false (.idx (.var 0) (.int 1)) (.int 1))) (.cons (.ite (.cmp .GtE (.var 3) (.bin .Pow false (.int 10) (.int 18))) (.cons (.setIx (.var 0) (.int 2) (.bin .FloorDiv false (.var 3) (.var 1))) (.cons (.ret (.bin .Mod false (.blt .int false (.cons (.var 3) .nil)) (.var 1))) .nil)) .nil) (.cons (.setIx (.var 0) (.int 3) (.bin .Mod false (.blt .int false (.cons (.bin .Add false (.bin .Add false (.bin .Mult false (.idx (.var 0) (.int 3)) (.int 31)) (.bin .Mult false (.int 2) (.blt .abs false (.cons (.var 3) .nil)))) (.ite (.cmp .Lt (.var 3) (.int 0)) (.int 1) (.int 0))) .nil)) (.int 1000000007))) .nil)))) .nil) (.cons (.ret (.bin .Mod false (.blt .int false (.cons (.bin .FloorDiv false (.call "_law_mix" sp__law_mix (.cons (.var 0) .nil)) (.int 11)) .nil)) (.var 1))) .nil))))
def n__law_draw : List Str := ["pool", "many", "told", "cell"]
theorem w__law_pool : ∀ vs s Q X, vs.length = 1 → sl__law_pool vs s Q X → wpFn n__law_pool.length b__law_pool vs s Q X := by
  intro vs s Q X hl h
  unfold sl__law_pool at h
  split at h
  · rename_i ns
    rw [fn_eq]
    unfold b__law_pool n__law_pool
    simp_all only [ss_nil]
    exact ⟨by decide, fun p hp => ⟨_, .rfl, h p hp⟩⟩
  · exact h.elim
theorem w__law_mix : ∀ vs s Q X, vs.length = 1 → sp__law_mix vs s Q X → wpFn n__law_mix.length b__law_mix vs s Q X := by
  intro vs s Q X hl h
  unfold sp__law_mix at h
  split at h
  · rename_i p
    rw [fn_eq]
    unfold b__law_mix n__law_mix
    obtain ⟨ns, x, b, c, d, hp, h⟩ := h
    simp_all only [ss_nil, hp, poolC, ix_50, ix_51, ix_52, ix_53, ix_54, up_up]
    rw [Nx_eq]
    simp_all only [ss_nil, hp, poolC, ix_50, ix_51, ix_52, ix_53, ix_54, up_up]
    refine ⟨CMul.ok (by unfold CMul; omega), CMul.ok (by unfold CMul; omega), by decide, ?_⟩
    rw [Nx_eq]
    simp_all only [ss_nil, hp, poolC, ix_50, ix_51, ix_52, ix_53, ix_54, up_up]
    refine ⟨CMul.ok (by unfold CMul; omega), CMul.ok (by unfold CMul; omega), by decide, ?_⟩
    rw [Nx_eq]
    simp_all only [ss_nil, hp, poolC, ix_50, ix_51, ix_52, ix_53, ix_54, up_up]
    exact ⟨_, .rfl, h _ _ (Int.fmod_nonneg_of_pos _ (by decide))⟩
  · exact h.elim
theorem w__law_draw : ∀ vs s Q X, vs.length = 2 → sl__law_draw vs s Q X → wpFn n__law_draw.length b__law_draw vs s Q X := by
  intro vs s Q X hl h
  unfold sl__law_draw at h
  split at h
  · rename_i p many
    rw [fn_eq]
    unfold b__law_draw n__law_draw
    obtain ⟨ns, x, b, c, d, hp, hx, hm, h⟩ := h
    -- what is drawn is below many
    have low : ∀ z : Int, ¬ many < 2 → 0 ≤ z.fmod many ∧ (2 ≤ many → z.fmod many < many) ∧ (many < 2 → z.fmod many = 0) := fun z hz =>
      ⟨Int.fmod_nonneg_of_pos z (by omega), fun _ => Int.fmod_lt_of_pos z (by omega), fun h => absurd h hz⟩
    simp_all only [ss_nil, hp, poolC]
    split
    · (first | rw [Nx_eq] | rw [Arm_eq] | skip); (try simp_all only [ss_nil])
      have e := h 0 x b c d hx (Int.le_refl 0) (fun _ => by omega) (fun _ => rfl)
      rw [up_id hp] at e
      exact ⟨s, .rfl, e⟩
    · rename_i hmany
      have dv : DivOk many := hm.div (by omega)
      have m0 : many ≠ 0 := by omega
      (first | rw [Nx_eq] | rw [Arm_eq] | skip); (try simp_all only [ss_nil, Nx_eq, hp, poolC])
      split
      · (first | rw [Nx_eq] | rw [Arm_eq] | skip); (try simp_all only [ss_nil, hp, poolC, m0, ne_eq])
        (first | rw [Nx_eq] | rw [Arm_eq] | skip); (try simp_all only [ss_nil, hp, poolC, ix_52, up_up])
        refine ⟨dv, ?_⟩
        (first | rw [Nx_eq] | rw [Arm_eq] | skip); (try simp_all only [ss_nil])
        obtain ⟨l1, l2, l3⟩ := low b hmany
        exact ⟨_, .rfl, h _ _ _ _ _ hx l1 l2 l3⟩
      · (first | rw [Nx_eq] | rw [Arm_eq] | skip); (try simp_all only [ss_nil, Nx_eq, hp, poolC])
        split
        · rename_i hlt
          rw [List.length_map] at hlt
          (first | rw [Nx_eq] | rw [Arm_eq] | skip); (try simp_all only [ss_nil, hp, poolC, atI_int hx hlt])
          generalize ns[x.toNat]'(by omega) = z
          (first | rw [Nx_eq] | rw [Arm_eq] | skip); (try simp_all only [ss_nil, hp, poolC, ix_51])
          (first | rw [Nx_eq] | rw [Arm_eq] | skip); (try simp_all only [ss_nil, hp, poolC])
          refine ⟨by unfold CPow; decide, ?_⟩
          split
          · (first | rw [Nx_eq] | rw [Arm_eq] | skip); (try simp_all only [ss_nil, hp, poolC, ix_52, up_up])
            refine ⟨dv, ?_⟩
            (first | rw [Nx_eq] | rw [Arm_eq] | skip); (try simp_all only [ss_nil, m0, ne_eq])
            obtain ⟨l1, l2, l3⟩ := low z hmany
            exact ⟨_, .rfl, h _ _ _ _ _ (by omega) l1 l2 l3⟩
          · (first | rw [Nx_eq] | rw [Arm_eq] | skip); (try simp_all only [ss_nil, Nx_eq, hp, poolC, ix_53, up_up])
            refine ⟨CMul.ok (by unfold CMul; omega), CMul.ok (by unfold CMul; omega), ?_⟩
            split
            all_goals
              refine ⟨by decide, ?_⟩
              refine callS_of ⟨ns, x + 1, b, _, d, up_same, fun c' d' hc => ?_⟩
              simp_all only [ss_nil, up_up]
              refine ⟨⟨by decide, by decide⟩, ?_⟩
              simp_all only [ss_nil, m0, ne_eq]
              obtain ⟨l1, l2, l3⟩ := low (c'.fdiv 11) hmany
              exact ⟨_, .rfl, h _ _ _ _ _ (by omega) l1 l2 l3⟩
        · (first | rw [Nx_eq] | rw [Arm_eq] | skip); (try simp_all only [ss_nil, Nx_eq, hp, poolC])
          refine callS_of ⟨ns, x, b, c, d, hp, fun c' d' hc => ?_⟩
          simp_all only [ss_nil]
          refine ⟨⟨by decide, by decide⟩, ?_⟩
          simp_all only [ss_nil, m0, ne_eq]
          obtain ⟨l1, l2, l3⟩ := low (c'.fdiv 11) hmany
          exact ⟨_, .rfl, h _ _ _ _ _ hx l1 l2 l3⟩
  · exact h.elim

def pickR (xs : List PV) (st : Store) (Q : PQ) : Prop := xs ≠ [] ∧ xs.length ≤ 10 ^ 9 ∧ ∀ (i : Nat) v, xs[i]? = some v → Q v st
def sp__law_pick : PSpec
  | [.ref p, m], st, Q, _ => st p = some .pool ∧ (match m with
    | .lst xs => pickR xs st Q
    | .tup xs => pickR xs st Q
    | _ => False)
  | _, _, _, _ => False
def b__law_pick : Ss :=
  (.cons (.ret (.idx (.var 1) (.call "_law_draw" sp__law_draw (.cons (.var 0) (.cons (.blt .len false (.cons (.var 1) .nil)) .nil))))) .nil)
def n__law_pick : List Str := ["pool", "menu"]

theorem w__law_pick : ∀ vs s Q X, vs.length = 2 → sp__law_pick vs s Q X → wpFn n__law_pick.length b__law_pick vs s Q X := by
  intro vs s Q X hl h
  unfold sp__law_pick at h
  split at h
  · rename_i p m
    rw [fn_eq]
    unfold b__law_pick n__law_pick
    obtain ⟨hp, h⟩ := h
    have go : ∀ xs : List PV, pickR xs s Q → Sm xs.length ∧ ∀ r : Int, 0 ≤ r → (2 ≤ (xs.length : Int) → r < xs.length) → ((xs.length : Int) < 2 → r = 0) → ∃ v, atI xs r = some v ∧ Q v s := by
      rintro xs ⟨h0, hb, hq⟩
      have hpos : 0 < xs.length := List.length_pos_iff.mpr h0
      refine ⟨.of (by omega), fun r r0 r1 r2 => ?_⟩
      have hr : r < xs.length := by omega
      exact ⟨_, atI_of r0 hr, hq r.toNat _ (List.getElem?_eq_getElem _)⟩
    cases m with
    | lst xs =>
      obtain ⟨h1, h2⟩ := go xs h
      simp_all only [ss_nil]
      refine callS_of ⟨hp, h1, fun r r0 r1 r2 => ?_⟩
      obtain ⟨v, e, q⟩ := h2 r r0 r1 r2
      simp_all only [ss_nil, e]
      exact ⟨s, .rfl, q⟩
    | tup xs =>
      obtain ⟨h1, h2⟩ := go xs h
      simp_all only [ss_nil]
      refine callS_of ⟨hp, h1, fun r r0 r1 r2 => ?_⟩
      obtain ⟨v, e, q⟩ := h2 r r0 r1 r2
      simp_all only [ss_nil, e]
      exact ⟨s, .rfl, q⟩
    | _ => exact h.elim
  · exact h.elim
/-- is it a whole number? -/
def isI : PV → Bool
  | .int _ => true
  | _ => false
def noRef : PV → Bool
  | .ref _ => false
  | .scr _ => false
  | _ => true
def sp__law_int : PSpec
  | [v], st, Q, _ => noRef v = true ∧ Q (.bl (isI v)) st
  | _, _, _, _ => False
def b__law_int : Ss :=
  (.cons (.ret (.bools .And (.cons (.isi (.var 0) "int") (.cons (.not (.isi (.var 0) "bool")) .nil)))) .nil)
def n__law_int : List Str := ["value"]

theorem w__law_int : ∀ vs s Q X, vs.length = 1 → sp__law_int vs s Q X → wpFn n__law_int.length b__law_int vs s Q X := by
  intro vs s Q X hl h
  unfold sp__law_int at h
  split at h
  · rename_i v
    rw [fn_eq]
    unfold b__law_int n__law_int
    obtain ⟨hv, h⟩ := h
    cases v <;> first | (cases hv; done) | (simp_all only [ss_nil]; exact ⟨s, .rfl, h⟩)
  · exact h.elim
end TK

set_option maxRecDepth 100000
set_option maxHeartbeats 4000000
namespace TK
open PySem PySem.Spec PyProof.Rows L2
theorem res_of {st : Store} {v : PV} (h : noRef v = true) : res st v = v := by
  cases v <;> first | rfl | cases h
/-- equal ones are told the same -/
def sp__law_same : PSpec
  | [v, w], st, Q, _ => v = w ∧ noRef v = true ∧ ShowOk v ∧ Q (.bl true) st
  | _, _, _, _ => False
def b__law_same : Ss :=
  (.cons (.ret (.cmp .Eq (.blt .repr false (.cons (.var 0) .nil)) (.blt .repr false (.cons (.var 1) .nil)))) .nil)
def n__law_same : List Str := ["value", "due"]

theorem w__law_same : ∀ vs s Q X, vs.length = 2 → sp__law_same vs s Q X → wpFn n__law_same.length b__law_same vs s Q X := by
  intro vs s Q X hl h
  unfold sp__law_same at h
  split at h
  · rename_i v w
    rw [fn_eq]
    unfold b__law_same n__law_same
    obtain ⟨rfl, hn, hs, h⟩ := h
    simp_all only [ss_nil, res_of hn]
    exact ⟨hs, hs, s, .rfl, h⟩
  · exact h.elim
def sp__law_gcd : PSpec
  | [.int a, .int b], st, Q, _ => Q (.int (Int.gcd a b)) st
  | _, _, _, _ => False
def b__law_gcd_1 : Ss :=
  (.cons (.asg (.name 2) (.bin .Mod false (.blt .int false (.cons (.var 0) .nil)) (.var 1))) (.cons (.asg (.name 0) (.var 1)) (.cons (.asg (.name 1) (.var 2)) .nil)))
def b__law_gcd : Ss :=
  (.cons (.asg (.name 0) (.blt .abs false (.cons (.var 0) .nil))) (.cons (.asg (.name 1) (.blt .abs false (.cons (.var 1) .nil))) (.cons (.while (.cmp .Gt (.var 1) (.int 0)) b__law_gcd_1) (.cons (.ret (.var 0)) .nil))))
def n__law_gcd : List Str := ["a", "b", "rest"]

theorem fmod_gcd (a b : Nat) (hb : 0 < b) : ((a : Int).fmod b) = ((a % b : Nat) : Int) := by
  rw [Int.fmod_eq_emod_of_nonneg _ (by omega)]; rfl
theorem w__law_gcd : ∀ vs s Q X, vs.length = 2 → sp__law_gcd vs s Q X → wpFn n__law_gcd.length b__law_gcd vs s Q X := by
  intro vs s Q X hl h
  unfold sp__law_gcd at h
  split at h
  · rename_i a b
    rw [fn_eq]
    unfold b__law_gcd n__law_gcd
    have ab : ∀ z : Int, (if z < 0 then -z else z) = (z.natAbs : Int) := fun z => by split <;> omega
    simp_all only [ss_nil, ab]
    (first | rw [Nx_eq] | rw [Arm_eq] | skip); (try simp_all only [ss_nil, ab])
    (first | rw [Nx_eq] | rw [Arm_eq] | skip); (try simp_all only [ss_nil])
    refine while_ind (fun n τ st => ∃ (x y : Nat) (o : Option PV), τ = [some (.int x), some (.int y), o] ∧ st = s ∧ y = n ∧ Nat.gcd x y = Int.gcd a b) ?_ b.natAbs ⟨a.natAbs, b.natAbs, none, rfl, rfl, rfl, rfl⟩
    rintro n τ st ⟨x, y, o, rfl, rfl, rfl, hg⟩
    simp_all only [ss_nil]
    split
    · rename_i hy
      have hy' : 0 < y := by omega
      unfold b__law_gcd_1
      simp_all only [ss_nil]
      refine ⟨by omega, ?_⟩
      (first | rw [Nx_eq] | rw [Arm_eq] | skip); (try simp_all only [ss_nil])
      (first | rw [Nx_eq] | rw [Arm_eq] | skip); (try simp_all only [ss_nil, Nx_eq])
      refine ⟨x % y, Nat.mod_lt _ hy', y, x % y, some (.int (x % y : Nat)), by rw [fmod_gcd x y hy'], rfl, ?_⟩
      rw [← hg, Nat.gcd_comm x y, Nat.gcd_rec y x, Nat.gcd_comm]
    · rename_i hy
      have : y = 0 := by omega
      subst this
      (first | rw [Nx_eq] | rw [Arm_eq] | skip); (try simp_all only [ss_nil])
      rw [Nat.gcd_zero_right] at hg
      subst hg
      exact ⟨st, .rfl, h⟩
  · exact h.elim
end TK

set_option maxRecDepth 100000
set_option maxHeartbeats 4000000
namespace TK
open PySem PySem.Spec PyProof.Rows L2
/-! ### whole numbers, asked and refused -/
theorem fld_bv : fldOf "BadValue" = ("what" : Str) := by decide
def sp_is_int : PSpec
  | [v], st, Q, _ => noRef v = true ∧ Q (.bl (isI v)) st
  | _, _, _, _ => False
def b_is_int : Ss :=
  (.cons (.ret (.bools .And (.cons (.isi (.var 0) "int") (.cons (.not (.isi (.var 0) "bool")) .nil)))) .nil)
def n_is_int : List Str := ["value"]
theorem w_is_int : ∀ vs s Q X, vs.length = 1 → sp_is_int vs s Q X → wpFn n_is_int.length b_is_int vs s Q X := by
  intro vs s Q X hl h
  unfold sp_is_int at h
  split at h
  · rename_i v
    rw [fn_eq]
    unfold b_is_int n_is_int
    obtain ⟨h1, h2⟩ := h
    have e1 : (("int" : Str) == ("int" : Str)) = true := by decide
    have e2 : (("int" : Str) == ("bool" : Str)) = false := by decide
    have e3 : (("tuple" : Str) == ("int" : Str)) = false := by decide
    have e4 : (("bool" : Str) == ("int" : Str)) = false := by decide
    have e5 : (("bool" : Str) == ("bool" : Str)) = true := by decide
    have e6 : (("list" : Str) == ("int" : Str)) = false := by decide
    have e7 : (("str" : Str) == ("int" : Str)) = false := by decide
    have e8 : (("int" : Str) == ("tuple" : Str)) = false := by decide
    have e9 : (("int" : Str) == ("list" : Str)) = false := by decide
    have e10 : (("int" : Str) == ("str" : Str)) = false := by decide
    cases v <;> first | (cases h1; done) | (simp_all only [ss_nil, Nx_nil, Arm_nil, sz_0, sz_1, sz_2, sz_3, sz_4, sz_5, sz_6, sz_7, sz_8, sz_9, sz_10, sz_11, sz_12, cp_2, cp_3, cp_4, cp_5, cp_6, cp_7, cp_12, cp_20, cp_30, cp_38, cp_39, cp_40, e1, e2, e3, e4, e5, e6, e7, e8, e9, e10, Bool.or_true, Bool.or_false]; exact ⟨s, .rfl, h2⟩)
  · exact h.elim
def errW (w : Str) : Exn := ("BadValue", [("what", .str w)])
def wholeB (v : PV) (lo : Int) (h : PV) : Bool := match v with
  | .int n => decide (lo ≤ n) && (match h with
    | .int k => decide (n ≤ k)
    | _ => true)
  | _ => false
def endP (h : PV) : Prop := h = .non ∨ ∃ k, h = .int k
def sp_is_whole : PSpec
  | [v, .int lo, h], st, Q, _ => noRef v = true ∧ endP h ∧ Q (.bl (wholeB v lo h)) st
  | _, _, _, _ => False
def b_is_whole : Ss :=
  (.cons (.ite (.bools .Or (.cons (.not (.val (.call "is_int" sp_is_int (.cons (.var 0) .nil)))) (.cons (.cmp .Lt (.var 0) (.var 1)) .nil))) (.cons (.ret (.bl false)) .nil) .nil) (.cons (.ret (.bools .Or (.cons (.cmp .Is (.var 2) .non) (.cons (.cmp .LtE (.var 0) (.var 2)) .nil)))) .nil))
def n_is_whole : List Str := ["value", "low", "high"]
theorem w_is_whole : ∀ vs s Q X, vs.length = 3 → sp_is_whole vs s Q X → wpFn n_is_whole.length b_is_whole vs s Q X := by
  intro vs s Q X hl h
  unfold sp_is_whole at h
  split at h
  · rename_i v lo hi
    rw [fn_eq]
    unfold b_is_whole n_is_whole
    obtain ⟨hn, he, h⟩ := h
    simp_all only [ss_nil, Nx_nil, Arm_nil, sz_0, sz_1, sz_2, sz_3, sz_4, sz_5, sz_6, sz_7, sz_8, sz_9, sz_10, sz_11, sz_12, cp_2, cp_3, cp_4, cp_5, cp_6, cp_7, cp_12, cp_20, cp_30, cp_38, cp_39, cp_40]
    refine callS_of ⟨hn, ?_⟩
    cases e : isI v with
    | false =>
      simp_all only [ss_nil, Nx_nil, Arm_nil, sz_0, sz_1, sz_2, sz_3, sz_4, sz_5, sz_6, sz_7, sz_8, sz_9, sz_10, sz_11, sz_12, cp_2, cp_3, cp_4, cp_5, cp_6, cp_7, cp_12, cp_20, cp_30, cp_38, cp_39, cp_40]
      (first | rw [Nx_eq] | rw [Arm_eq] | skip); (try simp_all only [ss_nil, Nx_nil, Arm_nil, sz_0, sz_1, sz_2, sz_3, sz_4, sz_5, sz_6, sz_7, sz_8, sz_9, sz_10, sz_11, sz_12, cp_2, cp_3, cp_4, cp_5, cp_6, cp_7, cp_12, cp_20, cp_30, cp_38, cp_39, cp_40])
      have e1 : wholeB v lo hi = false := by cases v <;> first | rfl | cases e
      rw [e1] at h
      exact ⟨s, .rfl, h⟩
    | true =>
      obtain ⟨n, rfl⟩ : ∃ n, v = .int n := by cases v <;> first | exact ⟨_, rfl⟩ | cases e
      by_cases hlo : n < lo
      · have e0 : (n < lo) = True := eq_true hlo
        simp_all only [ss_nil, Nx_nil, Arm_nil, sz_0, sz_1, sz_2, sz_3, sz_4, sz_5, sz_6, sz_7, sz_8, sz_9, sz_10, sz_11, sz_12, cp_2, cp_3, cp_4, cp_5, cp_6, cp_7, cp_12, cp_20, cp_30, cp_38, cp_39, cp_40, e0]
        (first | rw [Nx_eq] | rw [Arm_eq] | skip); (try simp_all only [ss_nil, Nx_nil, Arm_nil, sz_0, sz_1, sz_2, sz_3, sz_4, sz_5, sz_6, sz_7, sz_8, sz_9, sz_10, sz_11, sz_12, cp_2, cp_3, cp_4, cp_5, cp_6, cp_7, cp_12, cp_20, cp_30, cp_38, cp_39, cp_40])
        have e1 : wholeB (.int n) lo hi = false := by
          unfold wholeB
          show (decide (lo ≤ n) && _) = false
          rw [decide_eq_false (by omega)]; rfl
        rw [e1] at h
        exact ⟨s, .rfl, h⟩
      · have e0 : (n < lo) = False := eq_false hlo
        have e1 : decide (lo ≤ n) = true := decide_eq_true (by omega)
        simp_all only [ss_nil, Nx_nil, Arm_nil, sz_0, sz_1, sz_2, sz_3, sz_4, sz_5, sz_6, sz_7, sz_8, sz_9, sz_10, sz_11, sz_12, cp_2, cp_3, cp_4, cp_5, cp_6, cp_7, cp_12, cp_20, cp_30, cp_38, cp_39, cp_40, e0]
        rcases he with rfl | ⟨k, rfl⟩
        · have e2 : wholeB (.int n) lo .non = true := by
            show (decide (lo ≤ n) && true) = true
            rw [e1]; rfl
          rw [e2] at h
          (first | rw [Nx_eq] | rw [Arm_eq] | skip); (try simp_all only [ss_nil, Nx_nil, Arm_nil, sz_0, sz_1, sz_2, sz_3, sz_4, sz_5, sz_6, sz_7, sz_8, sz_9, sz_10, sz_11, sz_12, cp_2, cp_3, cp_4, cp_5, cp_6, cp_7, cp_12, cp_20, cp_30, cp_38, cp_39, cp_40])
          exact ⟨s, .rfl, h⟩
        · have e2 : wholeB (.int n) lo (.int k) = decide (n ≤ k) := by
            show (decide (lo ≤ n) && decide (n ≤ k)) = _
            rw [e1]; rfl
          rw [e2] at h
          (first | rw [Nx_eq] | rw [Arm_eq] | skip); (try simp_all only [ss_nil, Nx_nil, Arm_nil, sz_0, sz_1, sz_2, sz_3, sz_4, sz_5, sz_6, sz_7, sz_8, sz_9, sz_10, sz_11, sz_12, cp_2, cp_3, cp_4, cp_5, cp_6, cp_7, cp_12, cp_20, cp_30, cp_38, cp_39, cp_40])
          exact ⟨s, .rfl, h⟩
  · exact h.elim
def sp_check_whole : PSpec
  | [v, .int lo, h, .str w], st, Q, X => noRef v = true ∧ endP h ∧ w.length ≤ 1000 ∧ (wholeB v lo h = true → Q .non st) ∧ (wholeB v lo h = false → X (errW w) st)
  | _, _, _, _ => False
def b_check_whole : Ss :=
  (.cons (.ite (.not (.val (.call "is_whole" sp_is_whole (.cons (.var 0) (.cons (.var 1) (.cons (.var 2) .nil)))))) (.cons (.raise "BadValue" (.cons (.var 3) .nil)) .nil) .nil) .nil)
def n_check_whole : List Str := ["value", "low", "high", "what"]
theorem w_check_whole : ∀ vs s Q X, vs.length = 4 → sp_check_whole vs s Q X → wpFn n_check_whole.length b_check_whole vs s Q X := by
  intro vs s Q X hl h
  unfold sp_check_whole at h
  split at h
  · rename_i v lo hi w
    rw [fn_eq]
    unfold b_check_whole n_check_whole
    obtain ⟨hn, he, hw, h1, h2⟩ := h
    simp_all only [ss_nil, Nx_nil, Arm_nil, sz_0, sz_1, sz_2, sz_3, sz_4, sz_5, sz_6, sz_7, sz_8, sz_9, sz_10, sz_11, sz_12, cp_2, cp_3, cp_4, cp_5, cp_6, cp_7, cp_12, cp_20, cp_30, cp_38, cp_39, cp_40]
    refine callS_of ⟨hn, he, ?_⟩
    cases e : wholeB v lo hi with
    | false =>
      simp_all only [ss_nil, Nx_nil, Arm_nil, sz_0, sz_1, sz_2, sz_3, sz_4, sz_5, sz_6, sz_7, sz_8, sz_9, sz_10, sz_11, sz_12, cp_2, cp_3, cp_4, cp_5, cp_6, cp_7, cp_12, cp_20, cp_30, cp_38, cp_39, cp_40]
      (first | rw [Nx_eq] | rw [Arm_eq] | skip); (try simp_all only [ss_nil, Nx_nil, Arm_nil, sz_0, sz_1, sz_2, sz_3, sz_4, sz_5, sz_6, sz_7, sz_8, sz_9, sz_10, sz_11, sz_12, cp_2, cp_3, cp_4, cp_5, cp_6, cp_7, cp_12, cp_20, cp_30, cp_38, cp_39, cp_40])
      exact ⟨⟨rfl, hw⟩, s, .rfl, by rw [fld_bv]; exact h2 e⟩
    | true =>
      simp_all only [ss_nil, Nx_nil, Arm_nil, sz_0, sz_1, sz_2, sz_3, sz_4, sz_5, sz_6, sz_7, sz_8, sz_9, sz_10, sz_11, sz_12, cp_2, cp_3, cp_4, cp_5, cp_6, cp_7, cp_12, cp_20, cp_30, cp_38, cp_39, cp_40]
      exact ⟨s, .rfl, h1 e⟩
  · exact h.elim
end TK

set_option maxRecDepth 100000
set_option maxHeartbeats 4000000
namespace TK
open PySem PySem.Spec PyProof.Rows L2
/-! ### systems of differences: turns of lifting come to the least values, or there are none (plain law) -/
structure Ed where
  i : Nat
  j : Nat
  w : Int
abbrev Vl := List (Option Int)
def vg (v : Vl) (i : Nat) : Option Int := v[i]?.join
def leO : Option Int → Option Int → Prop
  | none, _ => True
  | some a, some b => a ≤ b
  | some _, none => False
theorem leO.rfl : ∀ {a : Option Int}, leO a a
  | none => trivial
  | some a => Int.le_refl a
theorem leO.trans : ∀ {a b c : Option Int}, leO a b → leO b c → leO a c
  | none, _, _, _, _ => trivial
  | some _, some _, some _, h, k => Int.le_trans h k
  | some _, some _, none, _, k => k.elim
  | some _, none, _, h, _ => h.elim
theorem leO.antisymm : ∀ {a b : Option Int}, leO a b → leO b a → a = b
  | none, none, _, _ => Eq.refl _
  | some _, some _, h, k => congrArg some (Int.le_antisymm h k)
  | some _, none, h, _ => h.elim
  | none, some _, _, k => k.elim
theorem leO.get {a : Int} : ∀ {b : Option Int}, leO (some a) b → ∃ c, b = some c ∧ a ≤ c
  | some c, h => ⟨c, Eq.refl _, h⟩
  | none, h => h.elim
def better (x : Int) : Option Int → Bool
  | none => true
  | some b => decide (x > b)
theorem better_t {x : Int} : ∀ {b : Option Int}, better x b = true → leO b (some x) ∧ ¬ leO (some x) b
  | none, _ => ⟨trivial, fun h => h⟩
  | some b, h => by
    have h : x > b := of_decide_eq_true h
    exact ⟨Int.le_of_lt h, fun z => by have z : x ≤ b := z; omega⟩
theorem better_f {x : Int} : ∀ {b : Option Int}, better x b = false → leO (some x) b
  | none, h => by cases h
  | some b, h => by
    have h : ¬ x > b := of_decide_eq_false h
    show x ≤ b
    omega
theorem vg_set {v : Vl} {j k : Nat} {x : Option Int} (h : j < v.length) : vg (v.set j x) k = if k = j then x else vg v k := by
  unfold vg
  by_cases e : k = j
  · subst e
    rw [if_pos rfl, List.getElem?_set_self h]; rfl
  · rw [if_neg e, List.getElem?_set_ne (Ne.symm e)]
/-- one lift -/
def rl (s : Vl × Bool) (e : Ed) : Vl × Bool :=
  match vg s.1 e.i with
  | none => s
  | some a => if better (a - e.w) (vg s.1 e.j) = true then (s.1.set e.j (some (a - e.w)), true) else s
theorem rl_len (s : Vl × Bool) (e : Ed) : (rl s e).1.length = s.1.length := by
  unfold rl
  split
  · rfl
  · split
    · exact List.length_set
    · rfl
theorem rl_mono {s : Vl × Bool} {e : Ed} (hj : e.j < s.1.length) (k : Nat) : leO (vg s.1 k) (vg (rl s e).1 k) := by
  unfold rl
  split
  · exact .rfl
  · split
    · rename_i h
      show leO (vg s.1 k) (vg (s.1.set _ _) k)
      rw [vg_set hj]
      split
      · rename_i z; subst z; exact (better_t h).1
      · exact .rfl
    · exact .rfl
theorem rl_at {s : Vl × Bool} {e : Ed} (hj : e.j < s.1.length) {a : Int} (h : vg s.1 e.i = some a) : leO (some (a - e.w)) (vg (rl s e).1 e.j) := by
  unfold rl
  rw [h]
  show leO _ (vg (if better (a - e.w) (vg s.1 e.j) = true then (s.1.set e.j (some (a - e.w)), true) else s).1 e.j)
  split
  · show leO _ (vg (s.1.set _ _) e.j)
    rw [vg_set hj, if_pos rfl]; exact .rfl
  · rename_i k
    exact better_f (Bool.eq_false_iff.mpr k)
def Sol (es : List Ed) (q : Nat → Option Int) : Prop := ∀ e ∈ es, ∀ a, q e.i = some a → leO (some (a - e.w)) (q e.j)
theorem rl_le {es : List Ed} {q : Nat → Option Int} (hq : Sol es q) {s : Vl × Bool} {e : Ed} (he : e ∈ es) (hj : e.j < s.1.length) (h : ∀ k, leO (vg s.1 k) (q k)) (k : Nat) : leO (vg (rl s e).1 k) (q k) := by
  unfold rl
  split
  · exact h k
  · rename_i a ha
    split
    · show leO (vg (s.1.set _ _) k) (q k)
      rw [vg_set hj]
      split
      · rename_i z
        subst z
        have h1 := h e.i
        rw [ha] at h1
        obtain ⟨c, hc, hac⟩ := h1.get
        have h2 := hq e he c hc
        exact leO.trans (show leO (some (a - e.w)) (some (c - e.w)) by show a - e.w ≤ c - e.w; omega) h2
      · exact h k
    · exact h k
/-- the flag tells that something was lifted -/
theorem rl_flag {v : Vl} {s : Vl × Bool} {e : Ed} (hj : e.j < s.1.length) (hm : ∀ k, leO (vg v k) (vg s.1 k)) (h : s.2 = true → ∃ k, ¬ leO (vg s.1 k) (vg v k)) : (rl s e).2 = true → ∃ k, ¬ leO (vg (rl s e).1 k) (vg v k) := by
  unfold rl
  split
  · exact h
  · split
    · rename_i hb
      intro _
      refine ⟨e.j, fun z => ?_⟩
      have z : leO (vg (s.1.set _ _) e.j) (vg v e.j) := z
      rw [vg_set hj, if_pos rfl] at z
      exact (better_t hb).2 (z.trans (hm e.j))
    · exact h
theorem rl_noflag {s : Vl × Bool} {e : Ed} (h : (rl s e).2 = false) : rl s e = s := by
  unfold rl at h ⊢
  split
  · rfl
  · rename_i a ha
    rw [ha] at h
    split
    · rename_i hb
      have h : (if better (a - e.w) (vg s.1 e.j) = true then (s.1.set e.j (some (a - e.w)), true) else s).2 = false := h
      rw [if_pos hb] at h
      cases h
    · rfl
/-- a turn -/
def rnd (es : List Ed) (v : Vl) : Vl × Bool := es.foldl rl (v, false)
section
variable {es : List Ed} {n : Nat}
def InR (n : Nat) (es : List Ed) : Prop := ∀ e ∈ es, e.i < n ∧ e.j < n
theorem fold_len : ∀ (es : List Ed) (s : Vl × Bool), (es.foldl rl s).1.length = s.1.length
  | [], _ => rfl
  | e :: r, s => by rw [List.foldl_cons, fold_len r, rl_len]
theorem rnd_len (v : Vl) : (rnd es v).1.length = v.length := fold_len es _
theorem fold_mono : ∀ (es : List Ed) (s : Vl × Bool), InR s.1.length es → ∀ k, leO (vg s.1 k) (vg (es.foldl rl s).1 k)
  | [], _, _, _ => .rfl
  | e :: r, s, h, k => by
    rw [List.foldl_cons]
    exact (rl_mono (h e List.mem_cons_self).2 k).trans (fold_mono r _ (by rw [rl_len]; exact fun x hx => h x (List.mem_cons_of_mem _ hx)) k)
theorem rnd_mono {v : Vl} (h : InR v.length es) (k : Nat) : leO (vg v k) (vg (rnd es v).1 k) := fold_mono es (v, false) h k
theorem fold_at : ∀ (es : List Ed) (s : Vl × Bool), InR s.1.length es → ∀ e ∈ es, ∀ a, vg s.1 e.i = some a → leO (some (a - e.w)) (vg (es.foldl rl s).1 e.j)
  | x :: r, s, h, e, he, a, ha => by
    rw [List.foldl_cons]
    have hr : InR (rl s x).1.length r := by rw [rl_len]; exact fun y hy => h y (List.mem_cons_of_mem _ hy)
    rcases List.mem_cons.mp he with rfl | he
    · exact (rl_at (h e List.mem_cons_self).2 ha).trans (fold_mono r _ hr _)
    · have m := rl_mono (e := x) (s := s) (h x List.mem_cons_self).2 e.i
      rw [ha] at m
      obtain ⟨c, hc, hac⟩ := m.get
      exact leO.trans (show leO (some (a - e.w)) (some (c - e.w)) by show a - e.w ≤ c - e.w; omega) (fold_at r _ hr e he c hc)
theorem rnd_at {v : Vl} (h : InR v.length es) {e : Ed} (he : e ∈ es) {a : Int} (ha : vg v e.i = some a) : leO (some (a - e.w)) (vg (rnd es v).1 e.j) := fold_at es (v, false) h e he a ha
theorem fold_le {all : List Ed} {q : Nat → Option Int} (hq : Sol all q) : ∀ (es : List Ed) (s : Vl × Bool), (∀ e ∈ es, e ∈ all) → InR s.1.length es → (∀ k, leO (vg s.1 k) (q k)) → ∀ k, leO (vg (es.foldl rl s).1 k) (q k)
  | [], _, _, _, h, k => h k
  | e :: r, s, hs, hin, h, k => by
    rw [List.foldl_cons]
    exact fold_le hq r _ (fun x hx => hs x (List.mem_cons_of_mem _ hx)) (by rw [rl_len]; exact fun y hy => hin y (List.mem_cons_of_mem _ hy)) (rl_le hq (hs e List.mem_cons_self) (hin e List.mem_cons_self).2 h) k
theorem rnd_le {q : Nat → Option Int} (hq : Sol es q) {v : Vl} (hin : InR v.length es) (h : ∀ k, leO (vg v k) (q k)) (k : Nat) : leO (vg (rnd es v).1 k) (q k) := fold_le hq es (v, false) (fun _ h => h) hin h k
theorem fold_flag {v : Vl} : ∀ (es : List Ed) (s : Vl × Bool), InR s.1.length es → (∀ k, leO (vg v k) (vg s.1 k)) → (s.2 = true → ∃ k, ¬ leO (vg s.1 k) (vg v k)) → (es.foldl rl s).2 = true → ∃ k, ¬ leO (vg (es.foldl rl s).1 k) (vg v k)
  | [], _, _, _, h => h
  | e :: r, s, hin, hm, h => by
    rw [List.foldl_cons]
    have hj := (hin e List.mem_cons_self).2
    exact fold_flag r _ (by rw [rl_len]; exact fun y hy => hin y (List.mem_cons_of_mem _ hy)) (fun k => (hm k).trans (rl_mono hj k)) (rl_flag hj hm h)
theorem rnd_flag {v : Vl} (hin : InR v.length es) (h : (rnd es v).2 = true) : ∃ k, ¬ leO (vg (rnd es v).1 k) (vg v k) := fold_flag es (v, false) hin (fun _ => .rfl) (fun z => by cases z) h
theorem fold_noflag : ∀ (es : List Ed) (s : Vl × Bool), (es.foldl rl s).2 = false → es.foldl rl s = s
  | [], _, _ => rfl
  | e :: r, s, h => by
    rw [List.foldl_cons] at h ⊢
    have e1 := fold_noflag r _ h
    rw [e1] at h ⊢
    exact rl_noflag h
theorem rnd_noflag {v : Vl} (h : (rnd es v).2 = false) : (rnd es v).1 = v := by
  have := fold_noflag es (v, false) h
  unfold rnd; rw [this]
def over0 (v : Vl) : Bool := match vg v 0 with
  | some z => decide (z > 0)
  | none => false
/-- turns, till nothing is lifted; none where the first value is lifted -/
def bf (es : List Ed) : Nat → Vl → Option Vl
  | 0, _ => none
  | k + 1, v => if over0 (rnd es v).1 = true then none else if (rnd es v).2 = true then bf es k (rnd es v).1 else some (rnd es v).1
/-- what comes out is the least solution -/
structure Least (es : List Ed) (v r : Vl) : Prop where
  sol : Sol es (vg r)
  ge : ∀ k, leO (vg v k) (vg r k)
  le : ∀ q, Sol es q → (∀ k, leO (vg v k) (q k)) → ∀ k, leO (vg r k) (q k)
  len : r.length = v.length
  zero : vg v 0 = some 0 → vg r 0 = some 0
theorem bf_least : ∀ (k : Nat) {v r : Vl}, InR v.length es → bf es k v = some r → Least es v r
  | 0, _, _, _, h => by cases h
  | k + 1, v, r, hin, h => by
    have h : (if over0 (rnd es v).1 = true then none else if (rnd es v).2 = true then bf es k (rnd es v).1 else some (rnd es v).1) = some r := h
    split at h
    · cases h
    · rename_i ho
      split at h
      · have L := bf_least k (by rw [rnd_len]; exact hin) h
        refine ⟨L.sol, fun i => (rnd_mono hin i).trans (L.ge i), fun q hq hv i => L.le q hq (rnd_le hq hin hv) i, by rw [L.len, rnd_len], fun z => L.zero ?_⟩
        have m := rnd_mono hin 0
        rw [z] at m
        obtain ⟨c, hc, h0⟩ := m.get
        unfold over0 at ho
        rw [hc] at ho ⊢
        have : ¬ c > 0 := fun z => ho (decide_eq_true z)
        congr 1; omega
      · rename_i hf
        have e := rnd_noflag (Bool.eq_false_iff.mpr hf)
        rw [e] at h
        cases h
        refine ⟨fun x hx a ha => ?_, fun _ => .rfl, fun q _ hv => hv, rfl, fun z => z⟩
        have := rnd_at hin hx ha
        rwa [e] at this
theorem max_of {P : Int → Prop} {b : Int} : (∃ a, P a) → (∀ a, P a → a ≤ b) → ∃ m, P m ∧ ∀ a, P a → a ≤ m := by
  intro ⟨a, ha⟩ hb
  have go : ∀ (d : Nat) (a : Int), P a → (b - a).toNat = d → ∃ m, P m ∧ ∀ a, P a → a ≤ m := by
    intro d
    induction d using Nat.strongRecOn with
    | ind d ih =>
      intro a ha hd
      by_cases h : ∃ c, P c ∧ a < c
      · obtain ⟨c, hc, hac⟩ := h
        have := hb c hc
        exact ih (b - c).toNat (by omega) c hc rfl
      · exact ⟨a, ha, fun c hc => Int.not_lt.mp fun z => h ⟨c, hc, z⟩⟩
  exact go _ a ha rfl
/-- the values after t turns -/
def ut (es : List Ed) (v : Vl) : Nat → Vl
  | 0 => v
  | t + 1 => (rnd es (ut es v t)).1
theorem ut_len {v : Vl} : ∀ t, (ut es v t).length = v.length
  | 0 => rfl
  | t + 1 => by show (rnd es _).1.length = _; rw [rnd_len, ut_len t]
theorem cnt_lt {p q : Nat → Bool} : ∀ (l : List Nat), (∀ x ∈ l, p x = true → q x = true) → (∃ x ∈ l, q x = true ∧ p x = false) → l.countP p < l.countP q
  | [], _, ⟨_, h, _⟩ => nomatch h
  | y :: r, h, ⟨x, hx, h1, h2⟩ => by
    rw [List.countP_cons, List.countP_cons]
    have mono : r.countP p ≤ r.countP q := List.countP_mono_left fun z hz => h z (List.mem_cons_of_mem _ hz)
    rcases List.mem_cons.mp hx with e | hx
    · subst e
      rw [h1, h2]; simp; omega
    · have ih := cnt_lt r (fun z hz => h z (List.mem_cons_of_mem _ hz)) ⟨x, hx, h1, h2⟩
      have hy := h y List.mem_cons_self
      cases e1 : p y with
      | false => cases q y <;> simp <;> omega
      | true => rw [hy e1]; simp; omega
/-- where there is a solution, the turns come to an end -/
theorem bf_some {v : Vl} (hin : InR v.length es) (h0 : vg v 0 = some 0) {q : Nat → Option Int} (hq : Sol es q) (hv : ∀ k, leO (vg v k) (q k)) (hq0 : q 0 = some 0) {m : Nat} (hm : v.length ≤ m) : ∃ r, bf es m v = some r := by
  have n0 : 0 < v.length := by
    rcases Nat.eq_zero_or_pos v.length with e | e
    · rw [List.eq_nil_of_length_eq_zero e] at h0; cases h0
    · exact e
  have hin' : ∀ t, InR (ut es v t).length es := fun t => by rw [ut_len]; exact hin
  have up : ∀ t k, leO (vg (ut es v t) k) (vg (ut es v (t + 1)) k) := fun t k => rnd_mono (hin' t) k
  have ub : ∀ t (p : Nat → Option Int), Sol es p → (∀ k, leO (vg v k) (p k)) → ∀ k, leO (vg (ut es v t) k) (p k) := by
    intro t
    induction t with
    | zero => exact fun _ _ h => h
    | succ t ih => exact fun p hp h => rnd_le hp (hin' t) (ih p hp h)
  have base : ∀ t k, leO (vg v k) (vg (ut es v t) k) := by
    intro t
    induction t with
    | zero => exact fun _ => .rfl
    | succ t ih => exact fun k => (ih k).trans (up t k)
  -- the limit
  have lim : ∀ j, ∃ x : Option Int, (∀ t, leO (vg (ut es v t) j) x) ∧ ∀ a, x = some a → ∃ t, vg (ut es v t) j = some a := by
    intro j
    by_cases h : ∃ a t, vg (ut es v t) j = some a
    · have hb : ∀ a, (∃ t, vg (ut es v t) j = some a) → ∃ b, q j = some b ∧ a ≤ b := fun a ⟨t, e⟩ => by
        have := ub t q hq hv j
        rw [e] at this
        exact this.get
      obtain ⟨a0, ht0⟩ := h
      obtain ⟨b, hqb, _⟩ := hb a0 ht0
      obtain ⟨mx, h1, h2⟩ := max_of (P := fun a => ∃ t, vg (ut es v t) j = some a) (b := b) ⟨a0, ht0⟩ fun a ha => by
        obtain ⟨b', e, h⟩ := hb a ha
        rw [hqb] at e; cases e; exact h
      refine ⟨some mx, fun t => ?_, fun a e => by cases e; exact h1⟩
      cases e : vg (ut es v t) j with
      | none => trivial
      | some a => exact h2 a ⟨t, e⟩
    · refine ⟨none, fun t => ?_, fun a e => by cases e⟩
      cases e : vg (ut es v t) j with
      | none => trivial
      | some a => exact absurd ⟨a, t, e⟩ h
  obtain ⟨s, hs⟩ : ∃ s : Nat → Option Int, ∀ j, (∀ t, leO (vg (ut es v t) j) (s j)) ∧ ∀ a, s j = some a → ∃ t, vg (ut es v t) j = some a :=
    ⟨fun j => Classical.choose (lim j), fun j => Classical.choose_spec (lim j)⟩
  have sSol : Sol es s := fun e he a ha => by
    obtain ⟨t, ht⟩ := (hs e.i).2 a ha
    exact (rnd_at (hin' t) he ht).trans ((hs e.j).1 (t + 1))
  have sGe : ∀ k, leO (vg v k) (s k) := fun k => (hs k).1 0
  have sLe : ∀ p, Sol es p → (∀ k, leO (vg v k) (p k)) → ∀ k, leO (s k) (p k) := fun p hp h k => by
    cases e : s k with
    | none => trivial
    | some a =>
      obtain ⟨t, ht⟩ := (hs k).2 a e
      rw [← ht]
      exact ub t p hp h k
  have s0 : s 0 = some 0 := by
    have a := sGe 0
    have b := sLe q hq hv 0
    rw [h0] at a
    rw [hq0] at b
    exact b.antisymm a
  -- a turn settles one more
  let fin : Nat → Nat → Bool := fun t j => decide (vg (ut es v t) j = s j)
  have keep : ∀ t j, fin t j = true → fin (t + 1) j = true := fun t j h => by
    have e := of_decide_eq_true h
    refine decide_eq_true ?_
    have a := up t j
    rw [e] at a
    exact ((hs j).1 (t + 1)).antisymm a
  have more : ∀ t, (∃ j, j < v.length ∧ fin t j = false) → ∃ j, j < v.length ∧ fin (t + 1) j = true ∧ fin t j = false := by
    intro t ⟨j0, hj0, hn0⟩
    refine Classical.byContradiction fun none_ => ?_
    have hno : ∀ j, j < v.length → fin t j = false → fin (t + 1) j = false := fun j hj h => by
      cases e : fin (t + 1) j with
      | false => rfl
      | true => exact absurd ⟨j, hj, e, h⟩ none_
    let p : Nat → Option Int := fun j => if j < v.length ∧ fin t j = false then (s j).map (· - 1) else s j
    have pIn : ∀ j, j < v.length → fin t j = false → p j = (s j).map (· - 1) := fun j h k => if_pos ⟨h, k⟩
    have pOut : ∀ j, ¬ (j < v.length ∧ fin t j = false) → p j = s j := fun j h => if_neg h
    have low : ∀ j, j < v.length → fin t j = false → ∃ m, s j = some m ∧ ∀ x, leO (some x) (vg (ut es v t) j) → x ≤ m - 1 := fun j _ h => by
      have hne : vg (ut es v t) j ≠ s j := of_decide_eq_false h
      have hle := (hs j).1 t
      cases e : s j with
      | none =>
        cases e2 : vg (ut es v t) j with
        | none => exact absurd (by rw [e, e2]) hne
        | some y => rw [e, e2] at hle; exact hle.elim
      | some m =>
        refine ⟨m, rfl, fun x hx => ?_⟩
        obtain ⟨y, hy, hxy⟩ := hx.get
        rw [e, hy] at hle hne
        have : y ≤ m := hle
        have : y ≠ m := fun z => hne (congrArg _ z)
        omega
    have pSol : Sol es p := fun e he a' ha' => by
      obtain ⟨hi, hj⟩ := hin e he
      have jcase : ∀ m, s e.j = some m → leO (some (m - 1)) (p e.j) := fun m hm => by
        by_cases h : e.j < v.length ∧ fin t e.j = false
        · rw [pIn _ h.1 h.2, hm]; exact Int.le_refl _
        · rw [pOut _ h, hm]; show m - 1 ≤ m; omega
      by_cases h : e.i < v.length ∧ fin t e.i = false
      · rw [pIn _ h.1 h.2] at ha'
        cases es' : s e.i with
        | none => rw [es'] at ha'; cases ha'
        | some a =>
          rw [es'] at ha'
          cases ha'
          obtain ⟨m, hm, hle⟩ := (sSol e he a es').get
          exact leO.trans (show leO (some (a - 1 - e.w)) (some (m - 1)) by show a - 1 - e.w ≤ m - 1; omega) (jcase m hm)
      · rw [pOut _ h] at ha'
        have ff : fin t e.i = true := by
          cases e2 : fin t e.i with
          | true => rfl
          | false => exact absurd ⟨hi, e2⟩ h
        have e1 : vg (ut es v t) e.i = some a' := (of_decide_eq_true ff).trans ha'
        have st := rnd_at (hin' t) he e1
        by_cases h2 : e.j < v.length ∧ fin t e.j = false
        · obtain ⟨m, hm, _⟩ := low _ h2.1 h2.2
          have nf := of_decide_eq_false (hno _ h2.1 h2.2)
          have up1 := (hs e.j).1 (t + 1)
          obtain ⟨c, hc, hac⟩ := leO.get st
          have hc' : vg (ut es v (t + 1)) e.j = some c := hc
          rw [hc', hm] at up1 nf
          have : c ≤ m := up1
          have : c ≠ m := fun z => nf (congrArg _ z)
          rw [pIn _ h2.1 h2.2, hm]
          show a' - e.w ≤ m - 1
          omega
        · rw [pOut _ h2]
          exact st.trans ((hs e.j).1 (t + 1))
    have pGe : ∀ k, leO (vg v k) (p k) := fun k => by
      by_cases h : k < v.length ∧ fin t k = false
      · obtain ⟨m, hm, hx⟩ := low _ h.1 h.2
        rw [pIn _ h.1 h.2, hm]
        cases e : vg v k with
        | none => trivial
        | some x =>
          have := base t k
          rw [e] at this
          exact hx x this
      · rw [pOut _ h]; exact sGe k
    have := sLe p pSol pGe j0
    obtain ⟨m, hm, _⟩ := low _ hj0 hn0
    rw [pIn _ hj0 hn0, hm] at this
    have : m ≤ m - 1 := this
    omega
  have count : ∀ t, t + 1 ≤ v.length → t + 1 ≤ (List.range v.length).countP (fin t) := by
    intro t
    induction t with
    | zero =>
      intro _
      have f0 : fin 0 0 = true := decide_eq_true (by show vg v 0 = s 0; rw [h0, s0])
      have : 0 < (List.range v.length).countP (fin 0) := List.countP_pos_iff.mpr ⟨0, List.mem_range.mpr n0, f0⟩
      omega
    | succ t ih =>
      intro ht
      have ih := ih (by omega)
      by_cases h : ∃ j, j < v.length ∧ fin t j = false
      · obtain ⟨j, hj, h1, h2⟩ := more t h
        have := cnt_lt (p := fin t) (q := fin (t + 1)) (List.range v.length) (fun x _ => keep t x) ⟨j, List.mem_range.mpr hj, h1, h2⟩
        omega
      · have all : ∀ x ∈ List.range v.length, fin (t + 1) x = true := fun x hx => by
          refine keep t x ?_
          cases e : fin t x with
          | true => rfl
          | false => exact absurd ⟨x, List.mem_range.mp hx, e⟩ h
        rw [List.countP_eq_length.mpr all, List.length_range]
        exact ht
  have last : ∀ j, j < v.length → fin (v.length - 1) j = true := by
    have c := count (v.length - 1) (by omega)
    have e : (List.range v.length).countP (fin (v.length - 1)) = (List.range v.length).length := by
      have := List.countP_le_length (p := fin (v.length - 1)) (l := List.range v.length)
      rw [List.length_range] at this ⊢
      omega
    intro j hj
    exact List.countP_eq_length.mp e j (List.mem_range.mpr hj)
  have still : (rnd es (ut es v (v.length - 1))).2 = false := by
    cases e : (rnd es (ut es v (v.length - 1))).2 with
    | false => rfl
    | true =>
      obtain ⟨k, hk⟩ := rnd_flag (hin' _) e
      by_cases hkl : k < v.length
      · have := of_decide_eq_true (last k hkl)
        rw [this] at hk
        exact absurd ((hs k).1 (v.length - 1 + 1)) hk
      · have : vg (rnd es (ut es v (v.length - 1))).1 k = none := by
          unfold vg
          rw [List.getElem?_eq_none (by rw [rnd_len, ut_len]; omega)]; rfl
        rw [this] at hk
        exact absurd trivial hk
  have noOver : ∀ t, over0 (ut es v t) = false := fun t => by
    unfold over0
    cases e : vg (ut es v t) 0 with
    | none => rfl
    | some z =>
      have := (hs 0).1 t
      rw [e, s0] at this
      have : z ≤ 0 := this
      exact decide_eq_false (by omega)
  have run : ∀ k t, v.length ≤ t + k → t ≤ v.length - 1 → ∃ r, bf es k (ut es v t) = some r := by
    intro k
    induction k with
    | zero => intro t h1 h2; omega
    | succ k ih =>
      intro t h1 h2
      show ∃ r, (if over0 (ut es v (t + 1)) = true then none else if (rnd es (ut es v t)).2 = true then bf es k (ut es v (t + 1)) else some (ut es v (t + 1))) = some r
      rw [noOver, if_neg Bool.false_ne_true]
      by_cases hf : (rnd es (ut es v t)).2 = true
      · rw [if_pos hf]
        by_cases ht : t = v.length - 1
        · rw [ht, still] at hf; cases hf
        · exact ih (t + 1) (by omega) (by omega)
      · rw [if_neg hf]
        exact ⟨_, rfl⟩
  exact run m 0 (by omega) (by omega)
end
end TK

set_option maxRecDepth 100000
set_option maxHeartbeats 4000000
namespace TK
open PySem PySem.Spec PyProof.Rows L2
/-! ### jobs, their forms, and hours from both sides (plain law) -/
structure Lk where
  x : Nat
  y : Nat
  low : Int
  high : Option Int
def jobE (k : Nat) (p : Int × Int) : List Ed := [⟨2 * k + 2, 2 * k + 1, p.2⟩, ⟨2 * k + 1, 2 * k + 2, -p.1⟩, ⟨0, 2 * k + 1, 0⟩]
def jE : Nat → List (Int × Int) → List Ed
  | _, [] => []
  | k, p :: r => jobE k p ++ jE (k + 1) r
def hiE (l : Lk) : List Ed := match l.high with
  | some h => [⟨l.y, l.x, h⟩]
  | none => []
def lkE (l : Lk) : List Ed := hiE l ++ [⟨l.x, l.y, -l.low⟩]
def sysE (js : List (Int × Int)) (ls : List Lk) : List Ed := jE 0 js ++ ls.flatMap lkE
theorem jE_snoc : ∀ (l : List (Int × Int)) (k : Nat) (p : Int × Int), jE k (l ++ [p]) = jE k l ++ jobE (k + l.length) p
  | [], k, p => by show jobE k p ++ [] = [] ++ jobE (k + 0) p; simp
  | q :: r, k, p => by
    show jobE k q ++ jE (k + 1) (r ++ [p]) = (jobE k q ++ jE (k + 1) r) ++ jobE (k + (r.length + 1)) p
    rw [jE_snoc r, List.append_assoc, show k + 1 + r.length = k + (r.length + 1) by omega]
theorem mem_jE {e : Ed} : ∀ {l : List (Int × Int)} {k : Nat}, e ∈ jE k l ↔ ∃ i p, l[i]? = some p ∧ e ∈ jobE (k + i) p
  | [], k => ⟨fun h => (nomatch h), fun ⟨_, _, h, _⟩ => by simp at h⟩
  | q :: r, k => by
    show e ∈ jobE k q ++ jE (k + 1) r ↔ _
    rw [List.mem_append, mem_jE (l := r)]
    constructor
    · rintro (h | ⟨i, p, h1, h2⟩)
      · exact ⟨0, q, rfl, h⟩
      · exact ⟨i + 1, p, h1, by rw [show k + (i + 1) = k + 1 + i by omega]; exact h2⟩
    · rintro ⟨i, p, h1, h2⟩
      cases i with
      | zero => cases h1; exact .inl h2
      | succ i => exact .inr ⟨i, p, h1, by rw [show k + 1 + i = k + (i + 1) by omega]; exact h2⟩
/-- jobs and links as they may be; W: what a lift may add -/
structure WOk (W : Int) (js : List (Int × Int)) (ls : List Lk) : Prop where
  nj : js.length ≤ 8
  nl : ls.length ≤ 40
  w0 : 0 ≤ W
  jb : ∀ p ∈ js, 0 ≤ p.1 ∧ p.1 ≤ p.2 ∧ p.2 ≤ 99 ∧ p.1 ≤ W
  lk : ∀ l ∈ ls, l.x < 2 * js.length + 1 ∧ l.y < 2 * js.length + 1 ∧ -99 ≤ l.low ∧ l.low ≤ 99 ∧ l.low ≤ W ∧ ∀ h, l.high = some h → -99 ≤ h ∧ h ≤ 99 ∧ -h ≤ W
section
variable {W : Int} {js : List (Int × Int)} {ls : List Lk}
theorem mem_lk {e : Ed} {l : Lk} (h : e ∈ lkE l) : (∃ z, l.high = some z ∧ e = ⟨l.y, l.x, z⟩) ∨ e = ⟨l.x, l.y, -l.low⟩ := by
  unfold lkE hiE at h
  cases e1 : l.high with
  | none => rw [e1] at h; simp at h; exact .inr h
  | some z =>
    rw [e1] at h
    rcases List.mem_append.mp h with h | h
    · exact .inl ⟨z, rfl, List.mem_singleton.mp h⟩
    · exact .inr (List.mem_singleton.mp h)
theorem sys_cases {e : Ed} (h : e ∈ sysE js ls) : (∃ i p, js[i]? = some p ∧ e ∈ jobE i p) ∨ ∃ l ∈ ls, e ∈ lkE l := by
  rcases List.mem_append.mp h with h | h
  · obtain ⟨i, p, h1, h2⟩ := mem_jE.mp h
    exact .inl ⟨i, p, h1, by rwa [Nat.zero_add] at h2⟩
  · obtain ⟨l, h1, h2⟩ := List.mem_flatMap.mp h
    exact .inr ⟨l, h1, h2⟩
theorem sys_in (O : WOk W js ls) : InR (2 * js.length + 1) (sysE js ls) ∧ ∀ e ∈ sysE js ls, -e.w ≤ W := by
  have go : ∀ e ∈ sysE js ls, (e.i < 2 * js.length + 1 ∧ e.j < 2 * js.length + 1) ∧ -e.w ≤ W := fun e he => by
    have w0 := O.w0
    rcases sys_cases he with ⟨i, p, h1, h2⟩ | ⟨l, h1, h2⟩
    · have hi := (List.getElem?_eq_some_iff.mp h1).1
      have hp := O.jb p (List.mem_of_getElem? h1)
      simp only [jobE, List.mem_cons, List.not_mem_nil, or_false] at h2
      rcases h2 with rfl | rfl | rfl
      · exact ⟨⟨by show 2 * i + 2 < _; omega, by show 2 * i + 1 < _; omega⟩, by show -p.2 ≤ W; omega⟩
      · exact ⟨⟨by show 2 * i + 1 < _; omega, by show 2 * i + 2 < _; omega⟩, by show - -p.1 ≤ W; omega⟩
      · exact ⟨⟨by show 0 < _; omega, by show 2 * i + 1 < _; omega⟩, by show -0 ≤ W; omega⟩
    · obtain ⟨a, b, _, _, c, d⟩ := O.lk l h1
      rcases mem_lk h2 with ⟨z, hz, rfl⟩ | rfl
      · exact ⟨⟨b, a⟩, (d z hz).2.2⟩
      · exact ⟨⟨a, b⟩, by show - -l.low ≤ W; omega⟩
  exact ⟨fun e he => (go e he).1, fun e he => (go e he).2⟩
theorem jE_len : ∀ (l : List (Int × Int)) (k : Nat), (jE k l).length = 3 * l.length
  | [], _ => rfl
  | p :: r, k => by
    show (jobE k p ++ jE (k + 1) r).length = 3 * (r.length + 1)
    rw [List.length_append, jE_len r]
    show 3 + 3 * r.length = _
    omega
theorem lk_len : ∀ (l : List Lk), (l.flatMap lkE).length ≤ 2 * l.length
  | [] => Nat.le_refl _
  | x :: r => by
    rw [List.flatMap_cons, List.length_append]
    have h1 : (lkE x).length ≤ 2 := by unfold lkE hiE; cases x.high <;> simp
    have := lk_len r
    rw [List.length_cons]
    omega
theorem sys_len : (sysE js ls).length ≤ 3 * js.length + 2 * ls.length := by
  unfold sysE
  rw [List.length_append, jE_len]
  have := lk_len ls
  omega
theorem all_hours (O : WOk W js ls) {q : Nat → Option Int} (hq : Sol (sysE js ls) q) (h0 : q 0 = some 0) (e : Nat) (he : e < 2 * js.length + 1) : ∃ a, q e = some a ∧ 0 ≤ a := by
  have jobs : ∀ i, i < js.length → (∃ a, q (2 * i + 1) = some a ∧ 0 ≤ a) ∧ ∃ a, q (2 * i + 2) = some a ∧ 0 ≤ a := fun i hi => by
    have e1 : js[i]? = some js[i] := List.getElem?_eq_getElem hi
    have hp := O.jb _ (List.getElem_mem hi)
    have m : ∀ x ∈ jobE i js[i], x ∈ sysE js ls := fun x hx => List.mem_append_left _ (mem_jE.mpr ⟨i, _, e1, by rwa [Nat.zero_add]⟩)
    obtain ⟨a, ha, ha0⟩ := (hq ⟨0, 2 * i + 1, 0⟩ (m _ (by simp [jobE])) 0 h0).get
    have ha0 : 0 - 0 ≤ a := ha0
    obtain ⟨b, hb, hb0⟩ := (hq ⟨2 * i + 1, 2 * i + 2, -js[i].1⟩ (m _ (by simp [jobE])) a ha).get
    have hb0 : a - -js[i].1 ≤ b := hb0
    exact ⟨⟨a, ha, by omega⟩, b, hb, by omega⟩
  by_cases hz : e = 0
  · subst hz; exact ⟨0, h0, Int.le_refl _⟩
  · by_cases ho : e % 2 = 1
    · have := (jobs (e / 2) (by omega)).1
      rwa [show 2 * (e / 2) + 1 = e by omega] at this
    · have := (jobs ((e - 1) / 2) (by omega)).2
      rwa [show 2 * ((e - 1) / 2) + 2 = e by omega] at this
end
/-! ### how high values come -/
def Und (v : Vl) (B : Int) : Prop := ∀ k a, vg v k = some a → a ≤ B
theorem rl_und {s : Vl × Bool} {e : Ed} {B W : Int} (hj : e.j < s.1.length) (w0 : 0 ≤ W) (hw : -e.w ≤ W) (h : Und s.1 B) : Und (rl s e).1 (B + W) := by
  unfold rl
  split
  · exact fun k a e => by have := h k a e; omega
  · rename_i a ha
    split
    · intro k b e1
      have e1 : vg (s.1.set _ _) k = some b := e1
      rw [vg_set hj] at e1
      split at e1
      · cases e1
        have := h _ _ ha
        omega
      · have := h k b e1; omega
    · exact fun k a e => by have := h k a e; omega
theorem fold_und {W : Int} (w0 : 0 ≤ W) : ∀ (es : List Ed) (s : Vl × Bool) (B : Int), InR s.1.length es → (∀ e ∈ es, -e.w ≤ W) → Und s.1 B → Und (es.foldl rl s).1 (B + es.length * W)
  | [], s, B, _, _, h => fun k a e => by have := h k a e; simpa using this
  | e :: r, s, B, hin, hw, h => by
    rw [List.foldl_cons]
    have := fold_und w0 r (rl s e) (B + W) (by rw [rl_len]; exact fun y hy => hin y (List.mem_cons_of_mem _ hy)) (fun x hx => hw x (List.mem_cons_of_mem _ hx)) (rl_und (hin e List.mem_cons_self).2 w0 (hw e List.mem_cons_self) h)
    intro k a ek
    have := this k a ek
    rw [List.length_cons, Int.natCast_add, Int.add_mul]
    omega
theorem bf_und {W : Int} {es : List Ed} (w0 : 0 ≤ W) (hw : ∀ e ∈ es, -e.w ≤ W) : ∀ (k : Nat) {v r : Vl} {B : Int}, InR v.length es → Und v B → bf es k v = some r → Und r (B + k * (es.length * W))
  | 0, _, _, _, _, _, h => by cases h
  | k + 1, v, r, B, hin, hu, h => by
    have h : (if over0 (rnd es v).1 = true then none else if (rnd es v).2 = true then bf es k (rnd es v).1 else some (rnd es v).1) = some r := h
    have h1 : Und (rnd es v).1 (B + es.length * W) := fold_und w0 es (v, false) B hin hw hu
    have p : 0 ≤ (es.length : Int) * W := Int.mul_nonneg (by omega) w0
    have p2 : 0 ≤ (k : Int) * (es.length * W) := Int.mul_nonneg (by omega) p
    split at h
    · cases h
    · split at h
      · have := bf_und w0 hw k (by rw [rnd_len]; exact hin) h1 h
        intro i a e
        have := this i a e
        rw [Int.natCast_add, Int.add_mul]
        omega
      · cases h
        intro i a e
        have := h1 i a e
        rw [Int.natCast_add, Int.add_mul]
        omega
/-! ### from the other side -/
def start (n : Nat) : Vl := some 0 :: List.replicate (n - 1) none
def stL (n : Nat) (d : Int) : Vl := some 0 :: List.replicate (n - 1) (some (-d))
def fl (e : Ed) : Ed := ⟨e.j, e.i, e.w⟩
def shE (es : List Ed) (n : Nat) (d : Int) : List Ed := es.map (fun e => ⟨e.j + 1, e.i + 1, e.w⟩) ++ (List.range n).map (fun e => ⟨0, e + 1, 0⟩) ++ [⟨1, 0, d⟩, ⟨0, 1, -d⟩]
theorem vg_0 {x : Option Int} {r : Vl} : vg (x :: r) 0 = x := by cases x <;> rfl
theorem vg_s {x : Option Int} {r : Vl} {k : Nat} : vg (x :: r) (k + 1) = vg r k := by unfold vg; rw [List.getElem?_cons_succ]
theorem vg_out {v : Vl} {k : Nat} (h : v.length ≤ k) : vg v k = none := by unfold vg; rw [List.getElem?_eq_none h]; rfl
theorem vg_rep {n k : Nat} {x : Option Int} : vg (List.replicate n x) k = if k < n then x else none := by
  unfold vg
  rw [List.getElem?_replicate]
  split
  · cases x <;> rfl
  · rfl
theorem start_len {n : Nat} (h : 0 < n) : (start n).length = n := by unfold start; rw [List.length_cons, List.length_replicate]; omega
theorem stL_len {n : Nat} {d : Int} (h : 0 < n) : (stL n d).length = n := by unfold stL; rw [List.length_cons, List.length_replicate]; omega
theorem start_le {n : Nat} {q : Nat → Option Int} (h : q 0 = some 0) (k : Nat) : leO (vg (start n) k) (q k) := by
  unfold start
  cases k with
  | zero => rw [vg_0, h]; exact .rfl
  | succ k =>
    rw [vg_s, vg_rep]
    split <;> trivial
theorem stL_le {n : Nat} {d : Int} {q : Nat → Option Int} (h : q 0 = some 0) (hq : ∀ k, 0 < k → k < n → ∃ a, q k = some a ∧ -d ≤ a) (k : Nat) : leO (vg (stL n d) k) (q k) := by
  unfold stL
  cases k with
  | zero => rw [vg_0, h]; exact .rfl
  | succ k =>
    rw [vg_s, vg_rep]
    split
    · rename_i hk
      obtain ⟨a, e, h⟩ := hq (k + 1) (Nat.succ_pos _) (by omega)
      rw [e]; exact h
    · trivial
theorem vl_ext {a b : Vl} (h : a.length = b.length) (k : ∀ i, vg a i = vg b i) : a = b := by
  refine List.ext_getElem? fun i => ?_
  by_cases hi : i < a.length
  · have e1 : a[i]? = some a[i] := List.getElem?_eq_getElem hi
    have e2 : b[i]? = some (b[i]'(by omega)) := List.getElem?_eq_getElem (by omega)
    have := k i
    unfold vg at this
    rw [e1, e2] at this ⊢
    have this : a[i] = b[i]'(by omega) := this
    rw [this]
  · rw [List.getElem?_eq_none (by omega), List.getElem?_eq_none (by omega)]
theorem vg_map {v : Vl} {f : Option Int → Option Int} (hf : f none = none) (k : Nat) : vg (v.map f) k = f (vg v k) := by
  unfold vg
  rw [List.getElem?_map]
  cases v[k]? with
  | none => exact hf.symm
  | some x => rfl
section
variable {es : List Ed} {n : Nat} {d : Int}
theorem stL_some {q : Nat → Option Int} (hq : ∀ k, leO (vg (stL n d) k) (q k)) (k : Nat) (hk : 0 < k) (hn : k < n) : ∃ a, q k = some a ∧ -d ≤ a := by
  have := hq k
  unfold stL at this
  obtain ⟨i, rfl⟩ : ∃ i, k = i + 1 := ⟨k - 1, by omega⟩
  rw [vg_s, vg_rep, if_pos (by omega)] at this
  exact this.get
theorem fl_in (h : InR n es) : InR n (es.map fl) := fun e he => by
  obtain ⟨x, hx, rfl⟩ := List.mem_map.mp he
  exact ⟨(h x hx).2, (h x hx).1⟩
theorem sh_in (hn : 0 < n) (h : InR n es) : InR (n + 1) (shE es n d) := fun e he => by
  rcases List.mem_append.mp he with he | he
  · rcases List.mem_append.mp he with he | he
    · obtain ⟨x, hx, rfl⟩ := List.mem_map.mp he
      have := h x hx
      exact ⟨by show x.j + 1 < _; omega, by show x.i + 1 < _; omega⟩
    · obtain ⟨x, hx, rfl⟩ := List.mem_map.mp he
      have := List.mem_range.mp hx
      exact ⟨by show 0 < _; omega, by show x + 1 < _; omega⟩
  · simp only [List.mem_cons, List.not_mem_nil, or_false] at he
    rcases he with rfl | rfl
    · exact ⟨by show 1 < _; omega, by show 0 < _; omega⟩
    · exact ⟨by show 0 < _; omega, by show 1 < _; omega⟩
/-- values here, values there -/
theorem sh_of (hn : 0 < n) (hin : InR n es) (u : Nat → Option Int) (hu : Sol (es.map fl) u) (h0 : u 0 = some 0) (hd : 0 ≤ d) (hs : ∀ k, 0 < k → k < n → ∃ a, u k = some a ∧ -d ≤ a) :
    ∃ b : Nat → Option Int, Sol (shE es n d) b ∧ b 0 = some 0 ∧ ∀ k, b (k + 1) = (u k).map (· + d) := by
  refine ⟨fun k => match k with
    | 0 => some 0
    | k + 1 => (u k).map (· + d), ?_, rfl, fun _ => rfl⟩
  intro e he a ha
  rcases List.mem_append.mp he with he | he
  · rcases List.mem_append.mp he with he | he
    · obtain ⟨x, hx, rfl⟩ := List.mem_map.mp he
      have ha : (u x.j).map (· + d) = some a := ha
      cases e1 : u x.j with
      | none => rw [e1] at ha; cases ha
      | some c =>
        rw [e1] at ha
        cases ha
        obtain ⟨m, hm, hle⟩ := (hu (fl x) (List.mem_map_of_mem hx) c e1).get
        show leO _ ((u x.i).map (· + d))
        have hm : u x.i = some m := hm
        have hle : c - x.w ≤ m := hle
        rw [hm]
        show c + d - x.w ≤ m + d
        omega
    · obtain ⟨x, hx, rfl⟩ := List.mem_map.mp he
      have hx := List.mem_range.mp hx
      have ha : (some 0 : Option Int) = some a := ha
      cases ha
      show leO _ ((u x).map (· + d))
      cases x with
      | zero => rw [h0]; show (0 : Int) - 0 ≤ 0 + d; omega
      | succ x =>
        obtain ⟨m, hm, hle⟩ := hs (x + 1) (Nat.succ_pos _) hx
        rw [hm]
        show (0 : Int) - 0 ≤ m + d
        omega
  · simp only [List.mem_cons, List.not_mem_nil, or_false] at he
    rcases he with rfl | rfl
    · have ha : (u 0).map (· + d) = some a := ha
      rw [h0] at ha; cases ha
      show (0 + d) - d ≤ (0 : Int)
      omega
    · have ha : (some 0 : Option Int) = some a := ha
      cases ha
      show leO _ ((u 0).map (· + d))
      rw [h0]
      show (0 : Int) - -d ≤ 0 + d
      omega
theorem sh_back (hn : 0 < n) (b : Nat → Option Int) (hb : Sol (shE es n d) b) (h0 : b 0 = some 0) :
    Sol (es.map fl) (fun k => (b (k + 1)).map (· - d)) ∧ (b 1).map (· - d) = some 0 ∧ ∀ k, k < n → ∃ a, (b (k + 1)).map (· - d) = some a ∧ -d ≤ a := by
  refine ⟨?_, ?_, ?_⟩
  · intro e he a ha
    obtain ⟨x, hx, rfl⟩ := List.mem_map.mp he
    have ha : (b (x.j + 1)).map (· - d) = some a := ha
    cases e1 : b (x.j + 1) with
    | none => rw [e1] at ha; cases ha
    | some c =>
      rw [e1] at ha
      cases ha
      obtain ⟨m, hm, hle⟩ := (hb ⟨x.j + 1, x.i + 1, x.w⟩ (List.mem_append_left _ (List.mem_append_left _ (List.mem_map.mpr ⟨x, hx, rfl⟩))) c e1).get
      have hm : b (x.i + 1) = some m := hm
      have hle : c - x.w ≤ m := hle
      show leO _ ((b (x.i + 1)).map (· - d))
      rw [hm]
      show c - d - x.w ≤ m - d
      omega
  · obtain ⟨m, hm, hle⟩ := (hb ⟨0, 1, -d⟩ (List.mem_append_right _ (by simp)) 0 h0).get
    have hm : b 1 = some m := hm
    have hle : (0 : Int) - -d ≤ m := hle
    have := hb ⟨1, 0, d⟩ (List.mem_append_right _ (by simp)) m hm
    have this : leO (some (m - d)) (b 0) := this
    rw [h0] at this
    have this : m - d ≤ 0 := this
    rw [hm]
    show some (m - d) = some 0
    congr 1; omega
  · intro k hk
    obtain ⟨m, hm, hle⟩ := (hb ⟨0, k + 1, 0⟩ (List.mem_append_left _ (List.mem_append_right _ (List.mem_map.mpr ⟨k, List.mem_range.mpr hk, rfl⟩))) 0 h0).get
    have hm : b (k + 1) = some m := hm
    have hle : (0 : Int) - 0 ≤ m := hle
    exact ⟨m - d, by rw [hm]; rfl, by omega⟩
/-- both ways of reckoning the latest hours come to the same -/
theorem lat_same (hn : 0 < n) (hin : InR n es) (hd : 0 ≤ d) :
    bf (shE es n d) (n + 2) (start (n + 1)) = (bf (es.map fl) (n + 1) (stL n d)).map fun u => some 0 :: u.map (fun x => x.map (· + d)) := by
  have i1 := fl_in hin
  have i2 := sh_in (d := d) hn hin
  have l1 : (stL n d).length = n := stL_len hn
  have l2 : (start (n + 1)).length = n + 1 := start_len (Nat.succ_pos _)
  have z1 : vg (stL n d) 0 = some 0 := vg_0
  have z2 : vg (start (n + 1)) 0 = some 0 := vg_0
  cases e1 : bf (es.map fl) (n + 1) (stL n d) with
  | none =>
    cases e2 : bf (shE es n d) (n + 2) (start (n + 1)) with
    | none => rfl
    | some b =>
      have L := bf_least _ (by rw [l2]; exact i2) e2
      obtain ⟨s1, s2, s3⟩ := sh_back hn (vg b) L.sol (L.zero z2)
      obtain ⟨r, hr⟩ := bf_some (m := n + 1) (by rw [l1]; exact i1) z1 s1 (stL_le s2 fun k _ hk => s3 k hk) s2 (by rw [l1]; omega)
      rw [e1] at hr; cases hr
  | some u =>
    have L := bf_least _ (by rw [l1]; exact i1) e1
    have st := stL_some (n := n) (d := d) (q := vg u) L.ge
    obtain ⟨b, b1, b2, b3⟩ := sh_of hn hin (vg u) L.sol (L.zero z1) hd st
    obtain ⟨r, hr⟩ := bf_some (m := n + 2) (by rw [l2]; exact i2) z2 b1 (start_le b2) b2 (by rw [l2]; omega)
    rw [hr]
    have M := bf_least _ (by rw [l2]; exact i2) hr
    obtain ⟨s1, s2, s3⟩ := sh_back hn (vg r) M.sol (M.zero z2)
    show some r = some _
    congr 1
    refine vl_ext (by rw [M.len, l2, List.length_cons, List.length_map, L.len, l1]) fun k => ?_
    cases k with
    | zero => rw [vg_0]; exact M.zero z2
    | succ k =>
      rw [vg_s, vg_map rfl]
      have a1 := M.le b b1 (start_le b2) (k + 1)
      rw [b3] at a1
      have a2 := L.le _ s1 (stL_le s2 fun k _ hk => s3 k hk) k
      cases e3 : vg r (k + 1) with
      | none =>
        rw [e3] at a2
        cases e4 : vg u k with
        | none => rfl
        | some c => rw [e4] at a2; exact a2.elim
      | some m =>
        rw [e3] at a1 a2
        cases e4 : vg u k with
        | none => rw [e4] at a1; exact a1.elim
        | some c =>
          rw [e4] at a1 a2
          have a1 : m ≤ c + d := a1
          have a2 : c ≤ m - d := a2
          show some m = some (c + d)
          congr 1; omega
/-- hours that are some plan's, turned about -/
theorem neg_sol {q : Nat → Option Int} (h : Sol es q) (hall : ∀ e ∈ es, ∃ a, q e.i = some a) : Sol (es.map fl) (fun k => (q k).map fun a => -a) := by
  intro e he a ha
  obtain ⟨x, hx, rfl⟩ := List.mem_map.mp he
  have ha : (q x.j).map (fun a => -a) = some a := ha
  obtain ⟨c, hc⟩ := hall x hx
  obtain ⟨m, hm, hle⟩ := (h x hx c hc).get
  rw [hm] at ha
  cases ha
  show leO _ ((q x.i).map fun a => -a)
  rw [hc]
  show -m - x.w ≤ -c
  omega
theorem neg_back {u : Nat → Option Int} (h : Sol (es.map fl) u) (hall : ∀ e ∈ es, ∃ a, u e.j = some a) : Sol es (fun k => (u k).map fun a => -a) := by
  intro e he a ha
  obtain ⟨c, hc⟩ := hall e he
  obtain ⟨m, hm, hle⟩ := (h (fl e) (List.mem_map_of_mem he) c hc).get
  have hm : u e.i = some m := hm
  have hle : c - e.w ≤ m := hle
  have ha : (u e.i).map (fun a => -a) = some a := ha
  rw [hm] at ha
  cases ha
  show leO _ ((u e.j).map fun a => -a)
  rw [hc]
  show -m - e.w ≤ -c
  omega
/-- a plan that is over by d gives latest hours -/
theorem lat_some (hn : 0 < n) (hin : InR n es) {q : Nat → Option Int} (hq : Sol es q) (h0 : q 0 = some 0) (hall : ∀ k, k < n → ∃ a, q k = some a ∧ a ≤ d) :
    ∃ u, bf (es.map fl) (n + 1) (stL n d) = some u ∧ ∀ k, k < n → ∃ a b, vg u k = some a ∧ q k = some b ∧ a ≤ -b := by
  have s1 := neg_sol hq fun e he => let ⟨a, h, _⟩ := hall e.i (hin e he).1; ⟨a, h⟩
  have z : (q 0).map (fun a => -a) = some 0 := by rw [h0]; rfl
  have st : ∀ k, 0 < k → k < n → ∃ a, (q k).map (fun a => -a) = some a ∧ -d ≤ a := fun k _ hk => by
    obtain ⟨a, e, h⟩ := hall k hk
    exact ⟨-a, by rw [e]; rfl, by omega⟩
  have l1 : (stL n d).length = n := stL_len hn
  obtain ⟨u, hu⟩ := bf_some (v := stL n d) (m := n + 1) (by rw [l1]; exact fl_in hin) vg_0 s1 (stL_le z st) z (by rw [l1]; omega)
  have L := bf_least _ (by rw [l1]; exact fl_in hin) hu
  refine ⟨u, hu, fun k hk => ?_⟩
  obtain ⟨b, e, _⟩ := hall k hk
  have le := L.le _ s1 (stL_le z st) k
  rw [e] at le
  have ex : ∃ a, vg u k = some a := by
    cases k with
    | zero => exact ⟨0, L.zero vg_0⟩
    | succ k => obtain ⟨a, h, _⟩ := stL_some (q := vg u) L.ge (k + 1) (Nat.succ_pos _) hk; exact ⟨a, h⟩
  obtain ⟨a, ha⟩ := ex
  rw [ha] at le
  exact ⟨a, b, ha, e, le⟩
/-- and latest hours are a plan -/
theorem lat_plan (hn : 0 < n) (hin : InR n es) {u : Vl} (hu : bf (es.map fl) (n + 1) (stL n d) = some u) :
    Sol es (fun k => (vg u k).map fun a => -a) ∧ ((vg u 0).map fun a => -a) = some 0 ∧ u.length = n ∧ (∀ k, k < n → ∃ a, vg u k = some a) ∧ ∀ k, 0 < k → k < n → ∃ a, vg u k = some a ∧ -d ≤ a := by
  have l1 : (stL n d).length = n := stL_len hn
  have L := bf_least _ (by rw [l1]; exact fl_in hin) hu
  have st := stL_some (q := vg u) L.ge
  have z := L.zero vg_0
  have all : ∀ k, k < n → ∃ a, vg u k = some a := fun k hk => by
    cases k with
    | zero => exact ⟨0, z⟩
    | succ k => obtain ⟨a, h, _⟩ := st (k + 1) (Nat.succ_pos _) hk; exact ⟨a, h⟩
  exact ⟨neg_back L.sol fun e he => all e.j (hin e he).2, by rw [z]; rfl, by rw [L.len, l1], all, st⟩
end
end TK

set_option maxRecDepth 100000
set_option maxHeartbeats 4000000
namespace TK
open PySem PySem.Spec PyProof.Rows L2
/-! ### numbers in bounds; the turns of lifting, walked -/
def sp_at_most : PSpec
  | [.int n], st, Q, _ => Q (.int (2 * n + 1)) st
  | _, _, _, _ => False
def b_at_most : Ss :=
  (.cons (.ret (.bin .Add false (.bin .Mult false (.int 2) (.var 0)) (.int 1))) .nil)
def n_at_most : List Str := ["n"]
theorem w_at_most : ∀ vs s Q X, vs.length = 1 → sp_at_most vs s Q X → wpFn n_at_most.length b_at_most vs s Q X := by
  intro vs s Q X hl h
  unfold sp_at_most at h
  split at h
  · rename_i n
    rw [fn_eq]
    unfold b_at_most n_at_most
    simp_all only [ss_nil, Nx_nil, Arm_nil, sz_0, sz_1, sz_2, sz_3, sz_4, sz_5, sz_6, sz_7, sz_8, sz_9, sz_10, sz_11, sz_12, cp_2, cp_3, cp_4, cp_5, cp_6, cp_7, cp_12, cp_20, cp_30, cp_38, cp_39, cp_40]
    exact ⟨CMul.ok (by unfold CMul; omega), s, .rfl, h⟩
  · exact h.elim
def sp_begin_of : PSpec
  | [.int n], st, Q, _ => Q (.int (2 * n + 1)) st
  | _, _, _, _ => False
def b_begin_of : Ss :=
  (.cons (.ret (.bin .Add false (.bin .Mult false (.int 2) (.var 0)) (.int 1))) .nil)
def n_begin_of : List Str := ["job"]
theorem w_begin_of : ∀ vs s Q X, vs.length = 1 → sp_begin_of vs s Q X → wpFn n_begin_of.length b_begin_of vs s Q X := by
  intro vs s Q X hl h
  unfold sp_begin_of at h
  split at h
  · rename_i n
    rw [fn_eq]
    unfold b_begin_of n_begin_of
    simp_all only [ss_nil, Nx_nil, Arm_nil, sz_0, sz_1, sz_2, sz_3, sz_4, sz_5, sz_6, sz_7, sz_8, sz_9, sz_10, sz_11, sz_12, cp_2, cp_3, cp_4, cp_5, cp_6, cp_7, cp_12, cp_20, cp_30, cp_38, cp_39, cp_40]
    exact ⟨CMul.ok (by unfold CMul; omega), s, .rfl, h⟩
  · exact h.elim
def sp_end_event : PSpec
  | [.int n], st, Q, _ => Q (.int (2 * n + 2)) st
  | _, _, _, _ => False
def b_end_event : Ss :=
  (.cons (.ret (.bin .Add false (.bin .Mult false (.int 2) (.var 0)) (.int 2))) .nil)
def n_end_event : List Str := ["job"]
theorem w_end_event : ∀ vs s Q X, vs.length = 1 → sp_end_event vs s Q X → wpFn n_end_event.length b_end_event vs s Q X := by
  intro vs s Q X hl h
  unfold sp_end_event at h
  split at h
  · rename_i n
    rw [fn_eq]
    unfold b_end_event n_end_event
    simp_all only [ss_nil, Nx_nil, Arm_nil, sz_0, sz_1, sz_2, sz_3, sz_4, sz_5, sz_6, sz_7, sz_8, sz_9, sz_10, sz_11, sz_12, cp_2, cp_3, cp_4, cp_5, cp_6, cp_7, cp_12, cp_20, cp_30, cp_38, cp_39, cp_40]
    exact ⟨CMul.ok (by unfold CMul; omega), s, .rfl, h⟩
  · exact h.elim
/-! ### lifting -/
def oV : Option Int → PV
  | none => .non
  | some a => .int a
def edV (e : Ed) : PV := .tup [.int e.i, .int e.j, .int e.w]
theorem at_v {f : Option Int → PV} {v : Vl} {k : Nat} (h : k < v.length) : atI (v.map f) (k : Int) = some (f (vg v k)) := by
  rw [atI_nat, List.getElem?_map]
  unfold vg
  rw [List.getElem?_eq_getElem h]; rfl
theorem ix_v {f : Option Int → PV} {v : Vl} {k : Nat} (h : k < v.length) : ixN (v.map f).length (k : Int) = some k := ixN_nat (by rw [List.length_map]; exact h)
theorem get_map' {α : Type} {f : α → PV} {l : List α} {i : Nat} {v : PV} (h : (l.map f)[i]? = some v) : ∃ x, v = f x ∧ l[i]? = some x := by
  rw [List.getElem?_map] at h
  cases e : l[i]? with
  | none => rw [e] at h; cases h
  | some x => rw [e] at h; cases h; exact ⟨x, rfl, rfl⟩
theorem take_1 {α : Type} {l : List α} {i : Nat} {x : α} (h : l[i]? = some x) : l.take (i + 1) = l.take i ++ [x] := by
  rw [List.take_add_one, h]; rfl
theorem mem_at' {α : Type} {l : List α} {i : Nat} {v : α} (h : l[i]? = some v) : v ∈ l := List.mem_of_getElem? h
theorem fold_1 {es : List Ed} {i : Nat} {e : Ed} {s : Vl × Bool} (h : es[i]? = some e) : (es.take (i + 1)).foldl rl s = rl ((es.take i).foldl rl s) e := by
  rw [take_1 h, List.foldl_append]; rfl
theorem rl_none {s : Vl × Bool} {e : Ed} (h : vg s.1 e.i = none) : rl s e = s := by unfold rl; rw [h]
theorem rl_yes {s : Vl × Bool} {e : Ed} {a : Int} (h : vg s.1 e.i = some a) (k : better (a - e.w) (vg s.1 e.j) = true) : rl s e = (s.1.set e.j (some (a - e.w)), true) := by
  unfold rl; rw [h]
  show (if _ then _ else _) = _
  rw [if_pos k]
theorem rl_no {s : Vl × Bool} {e : Ed} {a : Int} (h : vg s.1 e.i = some a) (k : better (a - e.w) (vg s.1 e.j) = false) : rl s e = s := by
  unfold rl; rw [h]
  show (if _ then _ else _) = _
  rw [if_neg (Bool.eq_false_iff.mp k)]
theorem set_map {f : Option Int → PV} {v : Vl} {j : Nat} {x : Option Int} : (v.map f).set j (f x) = (v.set j x).map f := (List.map_set).symm
theorem bf_step {es : List Ed} {k : Nat} {v : Vl} : bf es (k + 1) v = if over0 (rnd es v).1 = true then none else if (rnd es v).2 = true then bf es k (rnd es v).1 else some (rnd es v).1 := rfl
def ansV (f : Option Int → PV) (wrap : List PV → PV) : Option Vl → PV
  | none => .non
  | some r => wrap (r.map f)
def sp_lowest : PSpec
  | [.int n, .lst xs], st, Q, _ => ∃ (m : Nat) (es : List Ed), n = m ∧ 0 < m ∧ m ≤ 1000 ∧ xs = es.map edV ∧ InR m es ∧ Q (ansV oV PV.tup (bf es (m + 1) (start m))) st
  | _, _, _, _ => False
def b_lowest_2 : Ss :=
  (.cons (.ite (.cmp .Is (.idx (.var 2) (.var 5)) .non) (.cons .cont .nil) .nil) (.cons (.ite (.bools .Or (.cons (.cmp .Is (.idx (.var 2) (.var 6)) .non) (.cons (.cmp .Gt (.bin .Sub false (.idx (.var 2) (.var 5)) (.var 7)) (.idx (.var 2) (.var 6))) .nil))) (.cons (.setIx (.var 2) (.var 6) (.bin .Sub false (.idx (.var 2) (.var 5)) (.var 7))) (.cons (.asg (.name 4) (.bl true)) .nil)) .nil) .nil))
def b_lowest_1 : Ss :=
  (.cons (.asg (.name 4) (.bl false)) (.cons (.loop (.tup (.cons (.name 5) (.cons (.name 6) (.cons (.name 7) .nil)))) (.val (.var 1)) b_lowest_2) (.cons (.ite (.cmp .Gt (.idx (.var 2) (.int 0)) (.int 0)) (.cons (.ret .non) .nil) .nil) (.cons (.ite (.not (.val (.var 4))) (.cons (.ret (.blt .tuple false (.cons (.var 2) .nil))) .nil) .nil) .nil))))
def b_lowest : Ss :=
  (.cons (.asg (.name 2) (.bin .Mult true (.lst false (.cons .non .nil)) (.var 0))) (.cons (.setIx (.var 2) (.int 0) (.int 0)) (.cons (.loop (.name 3) (.range1 (.bin .Add false (.var 0) (.int 1))) b_lowest_1) (.cons (.ret .non) .nil))))
def n_lowest : List Str := ["size", "weights", "values", "turn", "changed", "i", "j", "weight"]
theorem rep_map {m : Nat} : (List.replicate m [PV.non]).flatten = (List.replicate m (none : Option Int)).map oV := by
  rw [List.map_replicate]
  induction m with
  | zero => rfl
  | succ m ih => rw [List.replicate_succ, List.flatten_cons, ih, List.replicate_succ]; rfl
theorem start_set {m : Nat} (h : 0 < m) : (List.replicate m (none : Option Int)).set 0 (some 0) = start m := by
  obtain ⟨k, rfl⟩ : ∃ k, m = k + 1 := ⟨m - 1, by omega⟩
  rfl
theorem w_lowest : ∀ vs s Q X, vs.length = 2 → sp_lowest vs s Q X → wpFn n_lowest.length b_lowest vs s Q X := by
  intro vs s Q X hl h
  unfold sp_lowest at h
  split at h
  · rename_i n xs
    rw [fn_eq]
    unfold b_lowest n_lowest
    obtain ⟨m, es, rfl, m0, m1, rfl, hin, h⟩ := h
    have sz : 1000 ≤ sizeLine := by decide
    simp_all only [ss_nil, Nx_nil, Arm_nil, sz_0, sz_1, sz_2, sz_3, sz_4, sz_5, sz_6, sz_7, sz_8, sz_9, sz_10, sz_11, sz_12, cp_2, cp_3, cp_4, cp_5, cp_6, cp_7, cp_12, cp_20, cp_30, cp_38, cp_39, cp_40]
    refine ⟨by omega, by omega, by simp; omega, fun q hq => ?_⟩
    have ix0 : ixN m 0 = some 0 := ixN_nat (m := 0) m0
    have e0 : (List.map oV (List.replicate m none)).set 0 (PV.int 0) = (start m).map oV := by
      rw [← start_set m0]; exact set_map (f := oV) (x := some 0)
    rw [Int.toNat_natCast, rep_map]
    (first | rw [Nx_eq] | rw [Arm_eq] | skip); (try simp_all only [ss_nil, Nx_nil, Arm_nil, sz_0, sz_1, sz_2, sz_3, sz_4, sz_5, sz_6, sz_7, sz_8, sz_9, sz_10, sz_11, sz_12, cp_2, cp_3, cp_4, cp_5, cp_6, cp_7, cp_12, cp_20, cp_30, cp_38, cp_39, cp_40, List.length_map, List.length_replicate, ix0, up_up])
    rw [e0]
    (first | rw [Nx_eq] | rw [Arm_eq] | skip); (try simp_all only [ss_nil, Nx_nil, Arm_nil, sz_0, sz_1, sz_2, sz_3, sz_4, sz_5, sz_6, sz_7, sz_8, sz_9, sz_10, sz_11, sz_12, cp_2, cp_3, cp_4, cp_5, cp_6, cp_7, cp_12, cp_20, cp_30, cp_38, cp_39, cp_40])
    refine ⟨by unfold R62; omega, ?_⟩
    refine for_at (fun i τ st => ∃ (v : Vl) (o3 o4 o5 o6 o7 : Option PV), τ = [some (.int m), some (.lst (es.map edV)), some (.ref q), o3, o4, o5, o6, o7] ∧ st = up s q (some (.lst (v.map oV))) ∧ v.length = m ∧ (∃ a, vg v 0 = some a) ∧ i ≤ m + 1 ∧ bf es (m + 1) (start m) = bf es (m + 1 - i) v) ?_ ?_
      ⟨start m, _, _, _, _, _, rfl, rfl, start_len m0, ⟨0, vg_0⟩, Nat.zero_le _, rfl⟩
    · rintro i x τ st hi ⟨v, o3, o4, o5, o6, o7, rfl, rfl, hv, ⟨z, hz⟩, him, hbf⟩
      have him : i < m + 1 := by
        have := (List.getElem?_eq_some_iff.mp hi).1
        simpa [rngL] using this
      refine ⟨trivial, ?_⟩
      unfold b_lowest_1
      simp_all only [ss_nil, Nx_nil, Arm_nil, sz_0, sz_1, sz_2, sz_3, sz_4, sz_5, sz_6, sz_7, sz_8, sz_9, sz_10, sz_11, sz_12, cp_2, cp_3, cp_4, cp_5, cp_6, cp_7, cp_12, cp_20, cp_30, cp_38, cp_39, cp_40]
      (first | rw [Nx_eq] | rw [Arm_eq] | skip); (try simp_all only [ss_nil, Nx_nil, Arm_nil, sz_0, sz_1, sz_2, sz_3, sz_4, sz_5, sz_6, sz_7, sz_8, sz_9, sz_10, sz_11, sz_12, cp_2, cp_3, cp_4, cp_5, cp_6, cp_7, cp_12, cp_20, cp_30, cp_38, cp_39, cp_40])
      refine for_at (fun k τ st => ∃ (o5 o6 o7 : Option PV), τ = [some (.int m), some (.lst (es.map edV)), some (.ref q), some x, some (.bl ((es.take k).foldl rl (v, false)).2), o5, o6, o7] ∧ st = up s q (some (.lst (((es.take k).foldl rl (v, false)).1.map oV)))) ?_ ?_ ⟨_, _, _, rfl, rfl⟩
      · rintro k y τ st hk ⟨o5, o6, o7, rfl, rfl⟩
        obtain ⟨e, rfl, he⟩ := get_map' hk
        rw [fold_1 (s := (v, false)) he]
        have lenS : ((es.take k).foldl rl (v, false)).1.length = m := by rw [fold_len]; exact hv
        revert lenS
        generalize (es.take k).foldl rl (v, false) = S
        intro lenS
        obtain ⟨hi', hj⟩ := hin e (mem_at' he)
        have a1 : atI (S.1.map oV) (e.i : Int) = some (oV (vg S.1 e.i)) := at_v (by omega)
        have a2 : atI (S.1.map oV) (e.j : Int) = some (oV (vg S.1 e.j)) := at_v (by omega)
        have ixj : ixN (S.1.map oV).length (e.j : Int) = some e.j := ix_v (by omega)
        have ev : edV e = .tup [.int e.i, .int e.j, .int e.w] := rfl
        have on : oV none = .non := rfl
        have os : ∀ a, oV (some a) = .int a := fun _ => rfl
        have sm : ∀ a : Int, (S.1.map oV).set e.j (.int a) = (S.1.set e.j (some a)).map oV := fun a => set_map (f := oV) (x := some a)
        refine ⟨trivial, ?_⟩
        unfold b_lowest_2
        cases hx : vg S.1 e.i with
        | none =>
          rw [hx] at a1
          rw [rl_none hx]
          simp_all only [ss_nil, Nx_nil, Arm_nil, sz_0, sz_1, sz_2, sz_3, sz_4, sz_5, sz_6, sz_7, sz_8, sz_9, sz_10, sz_11, sz_12, cp_2, cp_3, cp_4, cp_5, cp_6, cp_7, cp_12, cp_20, cp_30, cp_38, cp_39, cp_40, ev, a1, on]
          (first | rw [Nx_eq] | rw [Arm_eq] | skip); (try simp_all only [ss_nil, Nx_nil, Arm_nil, sz_0, sz_1, sz_2, sz_3, sz_4, sz_5, sz_6, sz_7, sz_8, sz_9, sz_10, sz_11, sz_12, cp_2, cp_3, cp_4, cp_5, cp_6, cp_7, cp_12, cp_20, cp_30, cp_38, cp_39, cp_40])
          exact ⟨_, _, _, rfl⟩
        | some a =>
          rw [hx] at a1
          cases hb : better (a - e.w) (vg S.1 e.j) with
          | false =>
            rw [rl_no hx hb]
            cases hy : vg S.1 e.j with
            | none => rw [hy] at hb; cases hb
            | some b =>
              rw [hy] at hb a2
              have nb : (b < a - e.w) = False := eq_false (of_decide_eq_false hb)
              simp_all only [ss_nil, Nx_nil, Arm_nil, sz_0, sz_1, sz_2, sz_3, sz_4, sz_5, sz_6, sz_7, sz_8, sz_9, sz_10, sz_11, sz_12, cp_2, cp_3, cp_4, cp_5, cp_6, cp_7, cp_12, cp_20, cp_30, cp_38, cp_39, cp_40, ev, a1, os]
              (first | rw [Nx_eq] | rw [Arm_eq] | skip); (try simp_all only [ss_nil, Nx_nil, Arm_nil, sz_0, sz_1, sz_2, sz_3, sz_4, sz_5, sz_6, sz_7, sz_8, sz_9, sz_10, sz_11, sz_12, cp_2, cp_3, cp_4, cp_5, cp_6, cp_7, cp_12, cp_20, cp_30, cp_38, cp_39, cp_40, a1, a2, os, nb])
              exact ⟨_, _, _, rfl⟩
          | true =>
            rw [rl_yes hx hb]
            cases hy : vg S.1 e.j with
            | none =>
              rw [hy] at a2
              simp_all only [ss_nil, Nx_nil, Arm_nil, sz_0, sz_1, sz_2, sz_3, sz_4, sz_5, sz_6, sz_7, sz_8, sz_9, sz_10, sz_11, sz_12, cp_2, cp_3, cp_4, cp_5, cp_6, cp_7, cp_12, cp_20, cp_30, cp_38, cp_39, cp_40, ev, a1, os]
              (first | rw [Nx_eq] | rw [Arm_eq] | skip); (try simp_all only [ss_nil, Nx_nil, Arm_nil, sz_0, sz_1, sz_2, sz_3, sz_4, sz_5, sz_6, sz_7, sz_8, sz_9, sz_10, sz_11, sz_12, cp_2, cp_3, cp_4, cp_5, cp_6, cp_7, cp_12, cp_20, cp_30, cp_38, cp_39, cp_40, a1, a2, os, on])
              (first | rw [Nx_eq] | rw [Arm_eq] | skip); (try simp_all only [ss_nil, Nx_nil, Arm_nil, sz_0, sz_1, sz_2, sz_3, sz_4, sz_5, sz_6, sz_7, sz_8, sz_9, sz_10, sz_11, sz_12, cp_2, cp_3, cp_4, cp_5, cp_6, cp_7, cp_12, cp_20, cp_30, cp_38, cp_39, cp_40, a1, os, ixj, up_up, sm])
              (first | rw [Nx_eq] | rw [Arm_eq] | skip); (try simp_all only [ss_nil, Nx_nil, Arm_nil, sz_0, sz_1, sz_2, sz_3, sz_4, sz_5, sz_6, sz_7, sz_8, sz_9, sz_10, sz_11, sz_12, cp_2, cp_3, cp_4, cp_5, cp_6, cp_7, cp_12, cp_20, cp_30, cp_38, cp_39, cp_40])
              exact ⟨_, _, _, rfl⟩
            | some b =>
              rw [hy] at hb a2
              have nb : (b < a - e.w) = True := eq_true (of_decide_eq_true hb)
              simp_all only [ss_nil, Nx_nil, Arm_nil, sz_0, sz_1, sz_2, sz_3, sz_4, sz_5, sz_6, sz_7, sz_8, sz_9, sz_10, sz_11, sz_12, cp_2, cp_3, cp_4, cp_5, cp_6, cp_7, cp_12, cp_20, cp_30, cp_38, cp_39, cp_40, ev, a1, os]
              (first | rw [Nx_eq] | rw [Arm_eq] | skip); (try simp_all only [ss_nil, Nx_nil, Arm_nil, sz_0, sz_1, sz_2, sz_3, sz_4, sz_5, sz_6, sz_7, sz_8, sz_9, sz_10, sz_11, sz_12, cp_2, cp_3, cp_4, cp_5, cp_6, cp_7, cp_12, cp_20, cp_30, cp_38, cp_39, cp_40, a1, a2, os, nb])
              (first | rw [Nx_eq] | rw [Arm_eq] | skip); (try simp_all only [ss_nil, Nx_nil, Arm_nil, sz_0, sz_1, sz_2, sz_3, sz_4, sz_5, sz_6, sz_7, sz_8, sz_9, sz_10, sz_11, sz_12, cp_2, cp_3, cp_4, cp_5, cp_6, cp_7, cp_12, cp_20, cp_30, cp_38, cp_39, cp_40, a1, os, ixj, up_up, sm])
              (first | rw [Nx_eq] | rw [Arm_eq] | skip); (try simp_all only [ss_nil, Nx_nil, Arm_nil, sz_0, sz_1, sz_2, sz_3, sz_4, sz_5, sz_6, sz_7, sz_8, sz_9, sz_10, sz_11, sz_12, cp_2, cp_3, cp_4, cp_5, cp_6, cp_7, cp_12, cp_20, cp_30, cp_38, cp_39, cp_40])
              exact ⟨_, _, _, rfl⟩
      · rintro τ st ⟨o5, o6, o7, rfl, rfl⟩
        refine ⟨trivial, ?_⟩
        rw [List.length_map, List.take_length]
        have hin' : InR v.length es := by rw [hv]; exact hin
        have hm0 := rnd_mono hin' 0
        have lenS : (rnd es v).1.length = m := by rw [rnd_len]; exact hv
        rw [hz] at hm0
        obtain ⟨b, hb, _⟩ := hm0.get
        have st1 := bf_step (es := es) (k := m - i) (v := v)
        rw [show m - i + 1 = m + 1 - i by omega, ← hbf] at st1
        clear hbf
        have hbf := st1
        clear st1
        unfold over0 at hbf
        rw [hb] at hbf
        show Nx _ _ [_, _, _, _, some (.bl (rnd es v).2), _, _, _] (up s q (some (.lst ((rnd es v).1.map oV))))
        revert hbf hb lenS
        generalize rnd es v = S
        intro lenS hb hbf
        have a0 : atI (S.1.map oV) 0 = some (.int b) := by
          have := at_v (f := oV) (v := S.1) (k := 0) (by omega)
          rw [hb] at this; exact this
        by_cases hb0 : 0 < b
        · have e1 : (0 < b) = True := eq_true hb0
          have e2 : decide (b > 0) = true := decide_eq_true hb0
          have hbf : bf es (m + 1) (start m) = if decide (b > 0) = true then none else _ := hbf
          rw [e2, if_pos rfl] at hbf
          rw [hbf] at h
          clear hbf e2
          simp_all only [ss_nil, Nx_nil, Arm_nil, sz_0, sz_1, sz_2, sz_3, sz_4, sz_5, sz_6, sz_7, sz_8, sz_9, sz_10, sz_11, sz_12, cp_2, cp_3, cp_4, cp_5, cp_6, cp_7, cp_12, cp_20, cp_30, cp_38, cp_39, cp_40]
          (first | rw [Nx_eq] | rw [Arm_eq] | skip); (try simp_all only [ss_nil, Nx_nil, Arm_nil, sz_0, sz_1, sz_2, sz_3, sz_4, sz_5, sz_6, sz_7, sz_8, sz_9, sz_10, sz_11, sz_12, cp_2, cp_3, cp_4, cp_5, cp_6, cp_7, cp_12, cp_20, cp_30, cp_38, cp_39, cp_40, a0, e1])
          (first | rw [Nx_eq] | rw [Arm_eq] | skip); (try simp_all only [ss_nil, Nx_nil, Arm_nil, sz_0, sz_1, sz_2, sz_3, sz_4, sz_5, sz_6, sz_7, sz_8, sz_9, sz_10, sz_11, sz_12, cp_2, cp_3, cp_4, cp_5, cp_6, cp_7, cp_12, cp_20, cp_30, cp_38, cp_39, cp_40])
          exact ⟨s, sub_new hq, h⟩
        · have e1 : (0 < b) = False := eq_false hb0
          have e2 : decide (b > 0) = false := decide_eq_false hb0
          have hbf : bf es (m + 1) (start m) = if decide (b > 0) = true then none else _ := hbf
          rw [e2, if_neg Bool.false_ne_true] at hbf
          clear e2
          cases hS : S.2 with
          | true =>
            rw [hS, if_pos rfl] at hbf
            have fin : ∃ (v : Vl) (o3 o4 o5' o6' o7' : Option PV), ([some (.int m), some (.lst (es.map edV)), some (.ref q), some x, some (.bl true), o5, o6, o7] : Sl) = [some (.int m), some (.lst (es.map edV)), some (.ref q), o3, o4, o5', o6', o7'] ∧ up s q (some (.lst (S.1.map oV))) = up s q (some (.lst (v.map oV))) ∧ v.length = m ∧ (∃ a, vg v 0 = some a) ∧ i + 1 ≤ m + 1 ∧ bf es (m + 1) (start m) = bf es (m + 1 - (i + 1)) v :=
              ⟨S.1, _, _, _, _, _, rfl, rfl, lenS, ⟨b, hb⟩, by omega, by rw [hbf, show m + 1 - (i + 1) = m - i by omega]⟩
            clear hbf h
            revert fin
            generalize bf es (m + 1) (start m) = R
            intro fin
            simp_all only [ss_nil, Nx_nil, Arm_nil, sz_0, sz_1, sz_2, sz_3, sz_4, sz_5, sz_6, sz_7, sz_8, sz_9, sz_10, sz_11, sz_12, cp_2, cp_3, cp_4, cp_5, cp_6, cp_7, cp_12, cp_20, cp_30, cp_38, cp_39, cp_40]
            (first | rw [Nx_eq] | rw [Arm_eq] | skip); (try simp_all only [ss_nil, Nx_nil, Arm_nil, sz_0, sz_1, sz_2, sz_3, sz_4, sz_5, sz_6, sz_7, sz_8, sz_9, sz_10, sz_11, sz_12, cp_2, cp_3, cp_4, cp_5, cp_6, cp_7, cp_12, cp_20, cp_30, cp_38, cp_39, cp_40, a0, e1])
            (first | rw [Nx_eq] | rw [Arm_eq] | skip); (try simp_all only [ss_nil, Nx_nil, Arm_nil, sz_0, sz_1, sz_2, sz_3, sz_4, sz_5, sz_6, sz_7, sz_8, sz_9, sz_10, sz_11, sz_12, cp_2, cp_3, cp_4, cp_5, cp_6, cp_7, cp_12, cp_20, cp_30, cp_38, cp_39, cp_40])
            exact fin
          | false =>
            rw [hS, if_neg Bool.false_ne_true] at hbf
            rw [hbf] at h
            clear hbf
            simp_all only [ss_nil, Nx_nil, Arm_nil, sz_0, sz_1, sz_2, sz_3, sz_4, sz_5, sz_6, sz_7, sz_8, sz_9, sz_10, sz_11, sz_12, cp_2, cp_3, cp_4, cp_5, cp_6, cp_7, cp_12, cp_20, cp_30, cp_38, cp_39, cp_40]
            (first | rw [Nx_eq] | rw [Arm_eq] | skip); (try simp_all only [ss_nil, Nx_nil, Arm_nil, sz_0, sz_1, sz_2, sz_3, sz_4, sz_5, sz_6, sz_7, sz_8, sz_9, sz_10, sz_11, sz_12, cp_2, cp_3, cp_4, cp_5, cp_6, cp_7, cp_12, cp_20, cp_30, cp_38, cp_39, cp_40, a0, e1])
            (first | rw [Nx_eq] | rw [Arm_eq] | skip); (try simp_all only [ss_nil, Nx_nil, Arm_nil, sz_0, sz_1, sz_2, sz_3, sz_4, sz_5, sz_6, sz_7, sz_8, sz_9, sz_10, sz_11, sz_12, cp_2, cp_3, cp_4, cp_5, cp_6, cp_7, cp_12, cp_20, cp_30, cp_38, cp_39, cp_40])
            (first | rw [Nx_eq] | rw [Arm_eq] | skip); (try simp_all only [ss_nil, Nx_nil, Arm_nil, sz_0, sz_1, sz_2, sz_3, sz_4, sz_5, sz_6, sz_7, sz_8, sz_9, sz_10, sz_11, sz_12, cp_2, cp_3, cp_4, cp_5, cp_6, cp_7, cp_12, cp_20, cp_30, cp_38, cp_39, cp_40])
            exact ⟨s, sub_new hq, h⟩
    · rintro τ st ⟨v, o3, o4, o5, o6, o7, rfl, rfl, hv, hz, him, hbf⟩
      refine ⟨trivial, ?_⟩
      rw [show (rngL 0 ((m : Int) + 1).toNat).length = m + 1 by simp [rngL], Nat.sub_self] at hbf
      have hbf : bf es (m + 1) (start m) = none := hbf
      rw [hbf] at h
      clear hbf
      simp_all only [ss_nil, Nx_nil, Arm_nil, sz_0, sz_1, sz_2, sz_3, sz_4, sz_5, sz_6, sz_7, sz_8, sz_9, sz_10, sz_11, sz_12, cp_2, cp_3, cp_4, cp_5, cp_6, cp_7, cp_12, cp_20, cp_30, cp_38, cp_39, cp_40]
      (first | rw [Nx_eq] | rw [Arm_eq] | skip); (try simp_all only [ss_nil, Nx_nil, Arm_nil, sz_0, sz_1, sz_2, sz_3, sz_4, sz_5, sz_6, sz_7, sz_8, sz_9, sz_10, sz_11, sz_12, cp_2, cp_3, cp_4, cp_5, cp_6, cp_7, cp_12, cp_20, cp_30, cp_38, cp_39, cp_40])
      exact ⟨s, sub_new hq, h⟩
  · exact h.elim
end TK

set_option maxRecDepth 100000
set_option maxHeartbeats 4000000
namespace TK
open PySem PySem.Spec PyProof.Rows L2
theorem lc_rng {tg : TG} {t : Sl → Store → (Bool → Store → Prop) → Prop} {e : Sl → Store → PQ → Prop} {τ : Sl} {st : Store} {K : List PV → Store → Prop} {n : Nat} {lo : Int} (g : Nat → PV) (ht : ∀ τ1 st' Q, Q true st' → t τ1 st' Q)
    (hx : ∀ k, k < n → ∃ τ1, tg.asg (.int (lo + (k : Int))) τ = some τ1 ∧ ∀ st', Sub st st' → ∀ Q, Q (g k) st' → e τ1 st' Q) (h : K ((List.range n).map g) st) : lcL tg t e τ K (rngL lo n) st [] :=
  lc_enc (enc := fun k : Nat => PV.int (lo + (k : Int))) g (List.range n) ht (fun x hm => hx x (List.mem_range.mp hm)) h
def sp__law_lowest : PSpec
  | [.int n, .lst xs], st, Q, _ => ∃ (m : Nat) (es : List Ed), n = m ∧ 0 < m ∧ m ≤ 1000 ∧ xs = es.map edV ∧ InR m es ∧ Q (ansV oV PV.lst (bf es (m + 1) (start m))) st
  | _, _, _, _ => False
def b__law_lowest_2 : Ss :=
  (.cons (.ite (.cmp .IsNot (.idx (.var 2) (.idx (.var 5) (.int 0))) .non) (.cons (.asg (.name 7) (.bin .Sub false (.idx (.var 2) (.idx (.var 5) (.int 0))) (.idx (.var 5) (.int 2)))) (.cons (.ite (.bools .Or (.cons (.cmp .Is (.idx (.var 2) (.idx (.var 5) (.int 1))) .non) (.cons (.cmp .Gt (.var 7) (.idx (.var 2) (.idx (.var 5) (.int 1)))) .nil))) (.cons (.setIx (.var 2) (.idx (.var 5) (.int 1)) (.var 7)) (.cons (.asg (.name 4) (.bl true)) .nil)) .nil) .nil)) .nil) .nil)
def b__law_lowest_1 : Ss :=
  (.cons (.asg (.name 4) (.bl false)) (.cons (.loop (.name 5) (.val (.var 1)) b__law_lowest_2) (.cons (.ite (.cmp .Gt (.idx (.var 2) (.int 0)) (.int 0)) (.cons (.ret .non) .nil) .nil) (.cons (.ite (.not (.val (.var 4))) (.cons (.ret (.fvar 2)) .nil) .nil) .nil))))
def b__law_lowest : Ss :=
  (.cons (.asgLc 2 (.comp true [6] (.name 6) (.range1 (.var 0)) .nil .non)) (.cons (.setIx (.var 2) (.int 0) (.int 0)) (.cons (.loop (.name 3) (.range1 (.bin .Add false (.var 0) (.int 1))) b__law_lowest_1) (.cons (.ret .non) .nil))))
def n__law_lowest : List Str := ["size", "weights", "values", "turn", "changed", "one", "k", "value"]
theorem rng_rep {m : Nat} {x : PV} : (List.range m).map (fun _ => x) = List.replicate m x := by
  refine List.ext_getElem (by simp) fun i h1 h2 => by simp
theorem w__law_lowest : ∀ vs s Q X, vs.length = 2 → sp__law_lowest vs s Q X → wpFn n__law_lowest.length b__law_lowest vs s Q X := by
  intro vs s Q X hl h
  unfold sp__law_lowest at h
  split at h
  · rename_i n xs
    rw [fn_eq]
    unfold b__law_lowest n__law_lowest
    obtain ⟨m, es, rfl, m0, m1, rfl, hin, h⟩ := h
    have sz : 1000 ≤ sizeLine := by decide
    have ix0 : ixN m 0 = some 0 := ixN_nat (m := 0) m0
    have e0 : (List.map oV (List.replicate m none)).set 0 (PV.int 0) = (start m).map oV := by
      rw [← start_set m0]; exact set_map (f := oV) (x := some 0)
    have er : List.replicate m PV.non = (List.replicate m (none : Option Int)).map oV := by rw [List.map_replicate]; rfl
    simp_all only [ss_nil, Nx_nil, Arm_nil, sz_0, sz_1, sz_2, sz_3, sz_4, sz_5, sz_6, sz_7, sz_8, sz_9, sz_10, sz_11, sz_12, cp_2, cp_3, cp_4, cp_5, cp_6, cp_7, cp_12, cp_20, cp_30, cp_38, cp_39, cp_40]
    refine ⟨by unfold R62; omega, by rw [show (rngL 0 (m : Int).toNat).length = m by simp [rngL]]; omega, ?_⟩
    refine lc_rng (fun _ => .non) (fun τ1 st' Q q => by simp_all only [ss_nil, Nx_nil, Arm_nil, sz_0, sz_1, sz_2, sz_3, sz_4, sz_5, sz_6, sz_7, sz_8, sz_9, sz_10, sz_11, sz_12, cp_2, cp_3, cp_4, cp_5, cp_6, cp_7, cp_12, cp_20, cp_30, cp_38, cp_39, cp_40]; exact q) (fun k hk => ⟨_, rfl, fun st' sub K hk => by simp_all only [ss_nil, Nx_nil, Arm_nil, sz_0, sz_1, sz_2, sz_3, sz_4, sz_5, sz_6, sz_7, sz_8, sz_9, sz_10, sz_11, sz_12, cp_2, cp_3, cp_4, cp_5, cp_6, cp_7, cp_12, cp_20, cp_30, cp_38, cp_39, cp_40]; exact hk⟩) ?_
    rw [Int.toNat_natCast, rng_rep, er]
    simp_all only [ss_nil, Nx_nil, Arm_nil, sz_0, sz_1, sz_2, sz_3, sz_4, sz_5, sz_6, sz_7, sz_8, sz_9, sz_10, sz_11, sz_12, cp_2, cp_3, cp_4, cp_5, cp_6, cp_7, cp_12, cp_20, cp_30, cp_38, cp_39, cp_40]
    intro q hq
    (first | rw [Nx_eq] | rw [Arm_eq] | skip); (try simp_all only [ss_nil, Nx_nil, Arm_nil, sz_0, sz_1, sz_2, sz_3, sz_4, sz_5, sz_6, sz_7, sz_8, sz_9, sz_10, sz_11, sz_12, cp_2, cp_3, cp_4, cp_5, cp_6, cp_7, cp_12, cp_20, cp_30, cp_38, cp_39, cp_40, List.length_map, List.length_replicate, ix0, up_up])
    rw [e0]
    (first | rw [Nx_eq] | rw [Arm_eq] | skip); (try simp_all only [ss_nil, Nx_nil, Arm_nil, sz_0, sz_1, sz_2, sz_3, sz_4, sz_5, sz_6, sz_7, sz_8, sz_9, sz_10, sz_11, sz_12, cp_2, cp_3, cp_4, cp_5, cp_6, cp_7, cp_12, cp_20, cp_30, cp_38, cp_39, cp_40])
    refine ⟨by unfold R62; omega, ?_⟩
    refine for_at (fun i τ st => ∃ (v : Vl) (o3 o4 o5 o6 o7 : Option PV), τ = [some (.int m), some (.lst (es.map edV)), some (.ref q), o3, o4, o5, o6, o7] ∧ st = up s q (some (.lst (v.map oV))) ∧ v.length = m ∧ (∃ a, vg v 0 = some a) ∧ i ≤ m + 1 ∧ bf es (m + 1) (start m) = bf es (m + 1 - i) v) ?_ ?_
      ⟨start m, _, _, _, _, _, rfl, rfl, start_len m0, ⟨0, vg_0⟩, Nat.zero_le _, rfl⟩
    · rintro i x τ st hi ⟨v, o3, o4, o5, o6, o7, rfl, rfl, hv, ⟨z, hz⟩, him, hbf⟩
      have him : i < m + 1 := by
        have := (List.getElem?_eq_some_iff.mp hi).1
        simpa [rngL] using this
      refine ⟨trivial, ?_⟩
      unfold b__law_lowest_1
      simp_all only [ss_nil, Nx_nil, Arm_nil, sz_0, sz_1, sz_2, sz_3, sz_4, sz_5, sz_6, sz_7, sz_8, sz_9, sz_10, sz_11, sz_12, cp_2, cp_3, cp_4, cp_5, cp_6, cp_7, cp_12, cp_20, cp_30, cp_38, cp_39, cp_40]
      (first | rw [Nx_eq] | rw [Arm_eq] | skip); (try simp_all only [ss_nil, Nx_nil, Arm_nil, sz_0, sz_1, sz_2, sz_3, sz_4, sz_5, sz_6, sz_7, sz_8, sz_9, sz_10, sz_11, sz_12, cp_2, cp_3, cp_4, cp_5, cp_6, cp_7, cp_12, cp_20, cp_30, cp_38, cp_39, cp_40])
      refine for_at (fun k τ st => ∃ (o5 o7 : Option PV), τ = [some (.int m), some (.lst (es.map edV)), some (.ref q), some x, some (.bl ((es.take k).foldl rl (v, false)).2), o5, o6, o7] ∧ st = up s q (some (.lst (((es.take k).foldl rl (v, false)).1.map oV)))) ?_ ?_ ⟨_, _, rfl, rfl⟩
      · rintro k y τ st hk ⟨o5, o7, rfl, rfl⟩
        obtain ⟨e, rfl, he⟩ := get_map' hk
        rw [fold_1 (s := (v, false)) he]
        have lenS : ((es.take k).foldl rl (v, false)).1.length = m := by rw [fold_len]; exact hv
        revert lenS
        generalize (es.take k).foldl rl (v, false) = S
        intro lenS
        obtain ⟨hi', hj⟩ := hin e (mem_at' he)
        have a1 : atI (S.1.map oV) (e.i : Int) = some (oV (vg S.1 e.i)) := at_v (by omega)
        have a2 : atI (S.1.map oV) (e.j : Int) = some (oV (vg S.1 e.j)) := at_v (by omega)
        have ixj : ixN (S.1.map oV).length (e.j : Int) = some e.j := ix_v (by omega)
        have ev : edV e = .tup [.int e.i, .int e.j, .int e.w] := rfl
        have on : oV none = .non := rfl
        have os : ∀ a, oV (some a) = .int a := fun _ => rfl
        have sm : ∀ a : Int, (S.1.map oV).set e.j (.int a) = (S.1.set e.j (some a)).map oV := fun a => set_map (f := oV) (x := some a)
        refine ⟨trivial, ?_⟩
        unfold b__law_lowest_2
        cases hx : vg S.1 e.i with
        | none =>
          rw [hx] at a1
          rw [rl_none hx]
          simp_all only [ss_nil, Nx_nil, Arm_nil, sz_0, sz_1, sz_2, sz_3, sz_4, sz_5, sz_6, sz_7, sz_8, sz_9, sz_10, sz_11, sz_12, cp_2, cp_3, cp_4, cp_5, cp_6, cp_7, cp_12, cp_20, cp_30, cp_38, cp_39, cp_40, ev, a1, on]
          exact ⟨_, _, rfl⟩
        | some a =>
          rw [hx] at a1
          cases hb : better (a - e.w) (vg S.1 e.j) with
          | false =>
            rw [rl_no hx hb]
            cases hy : vg S.1 e.j with
            | none => rw [hy] at hb; cases hb
            | some b =>
              rw [hy] at hb a2
              have nb : (b < a - e.w) = False := eq_false (of_decide_eq_false hb)
              simp_all only [ss_nil, Nx_nil, Arm_nil, sz_0, sz_1, sz_2, sz_3, sz_4, sz_5, sz_6, sz_7, sz_8, sz_9, sz_10, sz_11, sz_12, cp_2, cp_3, cp_4, cp_5, cp_6, cp_7, cp_12, cp_20, cp_30, cp_38, cp_39, cp_40, ev, a1, os]
              (first | rw [Nx_eq] | rw [Arm_eq] | skip); (try simp_all only [ss_nil, Nx_nil, Arm_nil, sz_0, sz_1, sz_2, sz_3, sz_4, sz_5, sz_6, sz_7, sz_8, sz_9, sz_10, sz_11, sz_12, cp_2, cp_3, cp_4, cp_5, cp_6, cp_7, cp_12, cp_20, cp_30, cp_38, cp_39, cp_40, a1, a2, os, nb])
              (first | rw [Nx_eq] | rw [Arm_eq] | skip); (try simp_all only [ss_nil, Nx_nil, Arm_nil, sz_0, sz_1, sz_2, sz_3, sz_4, sz_5, sz_6, sz_7, sz_8, sz_9, sz_10, sz_11, sz_12, cp_2, cp_3, cp_4, cp_5, cp_6, cp_7, cp_12, cp_20, cp_30, cp_38, cp_39, cp_40, a1, a2, os, nb])
              exact ⟨_, _, rfl⟩
          | true =>
            rw [rl_yes hx hb]
            cases hy : vg S.1 e.j with
            | none =>
              rw [hy] at a2
              simp_all only [ss_nil, Nx_nil, Arm_nil, sz_0, sz_1, sz_2, sz_3, sz_4, sz_5, sz_6, sz_7, sz_8, sz_9, sz_10, sz_11, sz_12, cp_2, cp_3, cp_4, cp_5, cp_6, cp_7, cp_12, cp_20, cp_30, cp_38, cp_39, cp_40, ev, a1, os]
              (first | rw [Nx_eq] | rw [Arm_eq] | skip); (try simp_all only [ss_nil, Nx_nil, Arm_nil, sz_0, sz_1, sz_2, sz_3, sz_4, sz_5, sz_6, sz_7, sz_8, sz_9, sz_10, sz_11, sz_12, cp_2, cp_3, cp_4, cp_5, cp_6, cp_7, cp_12, cp_20, cp_30, cp_38, cp_39, cp_40, a1, a2, os, on])
              (first | rw [Nx_eq] | rw [Arm_eq] | skip); (try simp_all only [ss_nil, Nx_nil, Arm_nil, sz_0, sz_1, sz_2, sz_3, sz_4, sz_5, sz_6, sz_7, sz_8, sz_9, sz_10, sz_11, sz_12, cp_2, cp_3, cp_4, cp_5, cp_6, cp_7, cp_12, cp_20, cp_30, cp_38, cp_39, cp_40, a1, a2, os, on])
              (first | rw [Nx_eq] | rw [Arm_eq] | skip); (try simp_all only [ss_nil, Nx_nil, Arm_nil, sz_0, sz_1, sz_2, sz_3, sz_4, sz_5, sz_6, sz_7, sz_8, sz_9, sz_10, sz_11, sz_12, cp_2, cp_3, cp_4, cp_5, cp_6, cp_7, cp_12, cp_20, cp_30, cp_38, cp_39, cp_40, a1, os, ixj, up_up, sm])
              (first | rw [Nx_eq] | rw [Arm_eq] | skip); (try simp_all only [ss_nil, Nx_nil, Arm_nil, sz_0, sz_1, sz_2, sz_3, sz_4, sz_5, sz_6, sz_7, sz_8, sz_9, sz_10, sz_11, sz_12, cp_2, cp_3, cp_4, cp_5, cp_6, cp_7, cp_12, cp_20, cp_30, cp_38, cp_39, cp_40])
              exact ⟨_, _, rfl⟩
            | some b =>
              rw [hy] at hb a2
              have nb : (b < a - e.w) = True := eq_true (of_decide_eq_true hb)
              simp_all only [ss_nil, Nx_nil, Arm_nil, sz_0, sz_1, sz_2, sz_3, sz_4, sz_5, sz_6, sz_7, sz_8, sz_9, sz_10, sz_11, sz_12, cp_2, cp_3, cp_4, cp_5, cp_6, cp_7, cp_12, cp_20, cp_30, cp_38, cp_39, cp_40, ev, a1, os]
              (first | rw [Nx_eq] | rw [Arm_eq] | skip); (try simp_all only [ss_nil, Nx_nil, Arm_nil, sz_0, sz_1, sz_2, sz_3, sz_4, sz_5, sz_6, sz_7, sz_8, sz_9, sz_10, sz_11, sz_12, cp_2, cp_3, cp_4, cp_5, cp_6, cp_7, cp_12, cp_20, cp_30, cp_38, cp_39, cp_40, a1, a2, os, nb])
              (first | rw [Nx_eq] | rw [Arm_eq] | skip); (try simp_all only [ss_nil, Nx_nil, Arm_nil, sz_0, sz_1, sz_2, sz_3, sz_4, sz_5, sz_6, sz_7, sz_8, sz_9, sz_10, sz_11, sz_12, cp_2, cp_3, cp_4, cp_5, cp_6, cp_7, cp_12, cp_20, cp_30, cp_38, cp_39, cp_40, a1, a2, os, nb])
              (first | rw [Nx_eq] | rw [Arm_eq] | skip); (try simp_all only [ss_nil, Nx_nil, Arm_nil, sz_0, sz_1, sz_2, sz_3, sz_4, sz_5, sz_6, sz_7, sz_8, sz_9, sz_10, sz_11, sz_12, cp_2, cp_3, cp_4, cp_5, cp_6, cp_7, cp_12, cp_20, cp_30, cp_38, cp_39, cp_40, a1, os, ixj, up_up, sm])
              (first | rw [Nx_eq] | rw [Arm_eq] | skip); (try simp_all only [ss_nil, Nx_nil, Arm_nil, sz_0, sz_1, sz_2, sz_3, sz_4, sz_5, sz_6, sz_7, sz_8, sz_9, sz_10, sz_11, sz_12, cp_2, cp_3, cp_4, cp_5, cp_6, cp_7, cp_12, cp_20, cp_30, cp_38, cp_39, cp_40])
              exact ⟨_, _, rfl⟩
      · rintro τ st ⟨o5, o7, rfl, rfl⟩
        refine ⟨trivial, ?_⟩
        rw [List.length_map, List.take_length]
        have hin' : InR v.length es := by rw [hv]; exact hin
        have hm0 := rnd_mono hin' 0
        have lenS : (rnd es v).1.length = m := by rw [rnd_len]; exact hv
        rw [hz] at hm0
        obtain ⟨b, hb, _⟩ := hm0.get
        have st1 := bf_step (es := es) (k := m - i) (v := v)
        rw [show m - i + 1 = m + 1 - i by omega, ← hbf] at st1
        clear hbf
        have hbf := st1
        clear st1
        unfold over0 at hbf
        rw [hb] at hbf
        show Nx _ _ [_, _, _, _, some (.bl (rnd es v).2), _, _, _] (up s q (some (.lst ((rnd es v).1.map oV))))
        revert hbf hb lenS
        generalize rnd es v = S
        intro lenS hb hbf
        have a0 : atI (S.1.map oV) 0 = some (.int b) := by
          have := at_v (f := oV) (v := S.1) (k := 0) (by omega)
          rw [hb] at this; exact this
        by_cases hb0 : 0 < b
        · have e1 : (0 < b) = True := eq_true hb0
          have e2 : decide (b > 0) = true := decide_eq_true hb0
          have hbf : bf es (m + 1) (start m) = if decide (b > 0) = true then none else _ := hbf
          rw [e2, if_pos rfl] at hbf
          rw [hbf] at h
          clear hbf e2
          simp_all only [ss_nil, Nx_nil, Arm_nil, sz_0, sz_1, sz_2, sz_3, sz_4, sz_5, sz_6, sz_7, sz_8, sz_9, sz_10, sz_11, sz_12, cp_2, cp_3, cp_4, cp_5, cp_6, cp_7, cp_12, cp_20, cp_30, cp_38, cp_39, cp_40]
          (first | rw [Nx_eq] | rw [Arm_eq] | skip); (try simp_all only [ss_nil, Nx_nil, Arm_nil, sz_0, sz_1, sz_2, sz_3, sz_4, sz_5, sz_6, sz_7, sz_8, sz_9, sz_10, sz_11, sz_12, cp_2, cp_3, cp_4, cp_5, cp_6, cp_7, cp_12, cp_20, cp_30, cp_38, cp_39, cp_40, a0, e1])
          (first | rw [Nx_eq] | rw [Arm_eq] | skip); (try simp_all only [ss_nil, Nx_nil, Arm_nil, sz_0, sz_1, sz_2, sz_3, sz_4, sz_5, sz_6, sz_7, sz_8, sz_9, sz_10, sz_11, sz_12, cp_2, cp_3, cp_4, cp_5, cp_6, cp_7, cp_12, cp_20, cp_30, cp_38, cp_39, cp_40])
          exact ⟨s, sub_new hq, h⟩
        · have e1 : (0 < b) = False := eq_false hb0
          have e2 : decide (b > 0) = false := decide_eq_false hb0
          have hbf : bf es (m + 1) (start m) = if decide (b > 0) = true then none else _ := hbf
          rw [e2, if_neg Bool.false_ne_true] at hbf
          clear e2
          cases hS : S.2 with
          | true =>
            rw [hS, if_pos rfl] at hbf
            have fin : ∃ (v : Vl) (o3 o4 o5' o6' o7' : Option PV), ([some (.int m), some (.lst (es.map edV)), some (.ref q), some x, some (.bl true), o5, o6, o7] : Sl) = [some (.int m), some (.lst (es.map edV)), some (.ref q), o3, o4, o5', o6', o7'] ∧ up s q (some (.lst (S.1.map oV))) = up s q (some (.lst (v.map oV))) ∧ v.length = m ∧ (∃ a, vg v 0 = some a) ∧ i + 1 ≤ m + 1 ∧ bf es (m + 1) (start m) = bf es (m + 1 - (i + 1)) v :=
              ⟨S.1, _, _, _, _, _, rfl, rfl, lenS, ⟨b, hb⟩, by omega, by rw [hbf, show m + 1 - (i + 1) = m - i by omega]⟩
            clear hbf h
            revert fin
            generalize bf es (m + 1) (start m) = R
            intro fin
            simp_all only [ss_nil, Nx_nil, Arm_nil, sz_0, sz_1, sz_2, sz_3, sz_4, sz_5, sz_6, sz_7, sz_8, sz_9, sz_10, sz_11, sz_12, cp_2, cp_3, cp_4, cp_5, cp_6, cp_7, cp_12, cp_20, cp_30, cp_38, cp_39, cp_40]
            (first | rw [Nx_eq] | rw [Arm_eq] | skip); (try simp_all only [ss_nil, Nx_nil, Arm_nil, sz_0, sz_1, sz_2, sz_3, sz_4, sz_5, sz_6, sz_7, sz_8, sz_9, sz_10, sz_11, sz_12, cp_2, cp_3, cp_4, cp_5, cp_6, cp_7, cp_12, cp_20, cp_30, cp_38, cp_39, cp_40, a0, e1])
            (first | rw [Nx_eq] | rw [Arm_eq] | skip); (try simp_all only [ss_nil, Nx_nil, Arm_nil, sz_0, sz_1, sz_2, sz_3, sz_4, sz_5, sz_6, sz_7, sz_8, sz_9, sz_10, sz_11, sz_12, cp_2, cp_3, cp_4, cp_5, cp_6, cp_7, cp_12, cp_20, cp_30, cp_38, cp_39, cp_40])
            exact fin
          | false =>
            rw [hS, if_neg Bool.false_ne_true] at hbf
            rw [hbf] at h
            clear hbf
            simp_all only [ss_nil, Nx_nil, Arm_nil, sz_0, sz_1, sz_2, sz_3, sz_4, sz_5, sz_6, sz_7, sz_8, sz_9, sz_10, sz_11, sz_12, cp_2, cp_3, cp_4, cp_5, cp_6, cp_7, cp_12, cp_20, cp_30, cp_38, cp_39, cp_40]
            (first | rw [Nx_eq] | rw [Arm_eq] | skip); (try simp_all only [ss_nil, Nx_nil, Arm_nil, sz_0, sz_1, sz_2, sz_3, sz_4, sz_5, sz_6, sz_7, sz_8, sz_9, sz_10, sz_11, sz_12, cp_2, cp_3, cp_4, cp_5, cp_6, cp_7, cp_12, cp_20, cp_30, cp_38, cp_39, cp_40, a0, e1])
            (first | rw [Nx_eq] | rw [Arm_eq] | skip); (try simp_all only [ss_nil, Nx_nil, Arm_nil, sz_0, sz_1, sz_2, sz_3, sz_4, sz_5, sz_6, sz_7, sz_8, sz_9, sz_10, sz_11, sz_12, cp_2, cp_3, cp_4, cp_5, cp_6, cp_7, cp_12, cp_20, cp_30, cp_38, cp_39, cp_40])
            (first | rw [Nx_eq] | rw [Arm_eq] | skip); (try simp_all only [ss_nil, Nx_nil, Arm_nil, sz_0, sz_1, sz_2, sz_3, sz_4, sz_5, sz_6, sz_7, sz_8, sz_9, sz_10, sz_11, sz_12, cp_2, cp_3, cp_4, cp_5, cp_6, cp_7, cp_12, cp_20, cp_30, cp_38, cp_39, cp_40, up_up])
            rw [up_id hq]
            exact ⟨s, .rfl, h⟩
    · rintro τ st ⟨v, o3, o4, o5, o6, o7, rfl, rfl, hv, hz, him, hbf⟩
      refine ⟨trivial, ?_⟩
      rw [show (rngL 0 ((m : Int) + 1).toNat).length = m + 1 by simp [rngL], Nat.sub_self] at hbf
      have hbf : bf es (m + 1) (start m) = none := hbf
      rw [hbf] at h
      clear hbf
      simp_all only [ss_nil, Nx_nil, Arm_nil, sz_0, sz_1, sz_2, sz_3, sz_4, sz_5, sz_6, sz_7, sz_8, sz_9, sz_10, sz_11, sz_12, cp_2, cp_3, cp_4, cp_5, cp_6, cp_7, cp_12, cp_20, cp_30, cp_38, cp_39, cp_40]
      (first | rw [Nx_eq] | rw [Arm_eq] | skip); (try simp_all only [ss_nil, Nx_nil, Arm_nil, sz_0, sz_1, sz_2, sz_3, sz_4, sz_5, sz_6, sz_7, sz_8, sz_9, sz_10, sz_11, sz_12, cp_2, cp_3, cp_4, cp_5, cp_6, cp_7, cp_12, cp_20, cp_30, cp_38, cp_39, cp_40])
      exact ⟨s, sub_new hq, h⟩
  · exact h.elim
def nV : Option Int → PV
  | none => .non
  | some a => .int (-a)
def jobV (p : Int × Int) : PV := .tup [.int p.1, .int p.2]
def lkV (l : Lk) : PV := .tup [.int l.x, .int l.y, .int l.low, oV l.high]
def foV (e : Ed) : PV := .tup [.int e.i, .int e.j, .int (2 * e.w + 1), .int 0]
def sp__law_job_bounds : PSpec
  | [.tup xs, .tup ys], st, Q, _ => ∃ (js : List (Int × Int)) (ls : List Lk), xs = js.map jobV ∧ ys = ls.map lkV ∧ js.length ≤ 8 ∧ ls.length ≤ 40 ∧ Q (.lst ((sysE js ls).map edV)) st
  | _, _, _, _ => False
def b__law_job_bounds_2 : Ss :=
  (.cons (.ite (.cmp .IsNot (.idx (.var 4) (.int 3)) .non) (.cons (.expr (.meth .append (.var 2) (.cons (.tup (.cons (.idx (.var 4) (.int 1)) (.cons (.idx (.var 4) (.int 0)) (.cons (.idx (.var 4) (.int 3)) .nil)))) .nil))) .nil) .nil) (.cons (.expr (.meth .append (.var 2) (.cons (.tup (.cons (.idx (.var 4) (.int 0)) (.cons (.idx (.var 4) (.int 1)) (.cons (.neg (.idx (.var 4) (.int 2))) .nil)))) .nil))) .nil))
def b__law_job_bounds_1 : Ss :=
  (.cons (.expr (.meth .append (.var 2) (.cons (.tup (.cons (.bin .Add false (.bin .Mult false (.int 2) (.var 3)) (.int 2)) (.cons (.bin .Add false (.bin .Mult false (.int 2) (.var 3)) (.int 1)) (.cons (.idx (.idx (.var 0) (.var 3)) (.int 1)) .nil)))) .nil))) (.cons (.expr (.meth .append (.var 2) (.cons (.tup (.cons (.bin .Add false (.bin .Mult false (.int 2) (.var 3)) (.int 1)) (.cons (.bin .Add false (.bin .Mult false (.int 2) (.var 3)) (.int 2)) (.cons (.neg (.idx (.idx (.var 0) (.var 3)) (.int 0))) .nil)))) .nil))) (.cons (.expr (.meth .append (.var 2) (.cons (.tup (.cons (.int 0) (.cons (.bin .Add false (.bin .Mult false (.int 2) (.var 3)) (.int 1)) (.cons (.int 0) .nil)))) .nil))) .nil)))
def b__law_job_bounds : Ss :=
  (.cons (.asg (.name 2) (.lst true .nil)) (.cons (.loop (.name 3) (.range1 (.blt .len false (.cons (.var 0) .nil))) b__law_job_bounds_1) (.cons (.loop (.name 4) (.val (.var 1)) b__law_job_bounds_2) (.cons (.ret (.fvar 2)) .nil))))
def n__law_job_bounds : List Str := ["jobs", "links", "told", "k", "link"]
theorem w__law_job_bounds : ∀ vs s Q X, vs.length = 2 → sp__law_job_bounds vs s Q X → wpFn n__law_job_bounds.length b__law_job_bounds vs s Q X := by
  intro vs s Q X hl h
  unfold sp__law_job_bounds at h
  split at h
  · rename_i xs ys
    rw [fn_eq]
    unfold b__law_job_bounds n__law_job_bounds
    obtain ⟨js, ls, rfl, rfl, nj, nl, h⟩ := h
    have sz : 1000 ≤ sizeLine := by decide
    simp_all only [ss_nil, Nx_nil, Arm_nil, sz_0, sz_1, sz_2, sz_3, sz_4, sz_5, sz_6, sz_7, sz_8, sz_9, sz_10, sz_11, sz_12, cp_2, cp_3, cp_4, cp_5, cp_6, cp_7, cp_12, cp_20, cp_30, cp_38, cp_39, cp_40]
    intro q hq
    (first | rw [Nx_eq] | rw [Arm_eq] | skip); (try simp_all only [ss_nil, Nx_nil, Arm_nil, sz_0, sz_1, sz_2, sz_3, sz_4, sz_5, sz_6, sz_7, sz_8, sz_9, sz_10, sz_11, sz_12, cp_2, cp_3, cp_4, cp_5, cp_6, cp_7, cp_12, cp_20, cp_30, cp_38, cp_39, cp_40, List.length_map])
    refine ⟨by unfold R62; omega, ?_⟩
    refine for_at (fun i τ st => ∃ (o3 : Option PV), τ = [some (.tup (js.map jobV)), some (.tup (ls.map lkV)), some (.ref q), o3, none] ∧ st = up s q (some (.lst ((jE 0 (js.take i)).map edV)))) ?_ ?_ ⟨_, rfl, rfl⟩
    · rintro i x τ st hi ⟨o3, rfl, rfl⟩
      have hil : i < js.length := by
        have := (List.getElem?_eq_some_iff.mp hi).1
        simpa [rngL] using this
      obtain rfl : x = .int i := by
        obtain ⟨h1, h2⟩ := List.getElem?_eq_some_iff.mp hi
        simp only [rngL, List.getElem_map, List.getElem_range] at h2
        rw [← h2, Int.zero_add]
      have e1 : js[i]? = some js[i] := List.getElem?_eq_getElem hil
      have aj : atI (js.map jobV) (i : Int) = some (jobV js[i]) := by rw [atI_nat, List.getElem?_map, e1]; rfl
      have jv : ∀ p : Int × Int, jobV p = .tup [.int p.1, .int p.2] := fun _ => rfl
      have ln : ((jE 0 (js.take i)).map edV).length = 3 * i := by rw [List.length_map, jE_len, List.length_take, Nat.min_eq_left (by omega)]
      have sn : (jE 0 (js.take (i + 1))).map edV = (jE 0 (js.take i)).map edV ++ [.tup [.int (2 * i + 2), .int (2 * i + 1), .int js[i].2], .tup [.int (2 * i + 1), .int (2 * i + 2), .int (-js[i].1)], .tup [.int 0, .int (2 * i + 1), .int 0]] := by
        rw [take_1 e1, jE_snoc, List.map_append, List.length_take, Nat.min_eq_left (by omega), Nat.zero_add]
        rfl
      refine ⟨trivial, ?_⟩
      unfold b__law_job_bounds_1
      rw [sn]
      generalize (jE 0 (js.take i)).map edV = L at *
      have w1 : ∀ k, k ≤ 10 → L.length + k < sizeLine := fun k hk => by omega
      simp_all only [ss_nil, Nx_nil, Arm_nil, sz_0, sz_1, sz_2, sz_3, sz_4, sz_5, sz_6, sz_7, sz_8, sz_9, sz_10, sz_11, sz_12, cp_2, cp_3, cp_4, cp_5, cp_6, cp_7, cp_12, cp_20, cp_30, cp_38, cp_39, cp_40, aj, jv]
      refine ⟨CMul.ok (by unfold CMul; omega), CMul.ok (by unfold CMul; omega), by omega, ?_⟩
      (first | rw [Nx_eq] | rw [Arm_eq] | skip); (try simp_all only [ss_nil, Nx_nil, Arm_nil, sz_0, sz_1, sz_2, sz_3, sz_4, sz_5, sz_6, sz_7, sz_8, sz_9, sz_10, sz_11, sz_12, cp_2, cp_3, cp_4, cp_5, cp_6, cp_7, cp_12, cp_20, cp_30, cp_38, cp_39, cp_40, aj, jv, up_up, List.length_append])
      refine ⟨CMul.ok (by unfold CMul; omega), CMul.ok (by unfold CMul; omega), by first | omega | (simp; omega), ?_⟩
      (first | rw [Nx_eq] | rw [Arm_eq] | skip); (try simp_all only [ss_nil, Nx_nil, Arm_nil, sz_0, sz_1, sz_2, sz_3, sz_4, sz_5, sz_6, sz_7, sz_8, sz_9, sz_10, sz_11, sz_12, cp_2, cp_3, cp_4, cp_5, cp_6, cp_7, cp_12, cp_20, cp_30, cp_38, cp_39, cp_40, up_up, List.length_append])
      refine ⟨CMul.ok (by unfold CMul; omega), by first | omega | (simp; omega), ?_⟩
      exact ⟨_, rfl, by simp⟩
    · rintro τ st ⟨o3, rfl, rfl⟩
      refine ⟨trivial, ?_⟩
      rw [show js.take (rngL 0 (js.length : Int).toNat).length = js by simp [rngL]]
      simp_all only [ss_nil, Nx_nil, Arm_nil, sz_0, sz_1, sz_2, sz_3, sz_4, sz_5, sz_6, sz_7, sz_8, sz_9, sz_10, sz_11, sz_12, cp_2, cp_3, cp_4, cp_5, cp_6, cp_7, cp_12, cp_20, cp_30, cp_38, cp_39, cp_40]
      (first | rw [Nx_eq] | rw [Arm_eq] | skip); (try simp_all only [ss_nil, Nx_nil, Arm_nil, sz_0, sz_1, sz_2, sz_3, sz_4, sz_5, sz_6, sz_7, sz_8, sz_9, sz_10, sz_11, sz_12, cp_2, cp_3, cp_4, cp_5, cp_6, cp_7, cp_12, cp_20, cp_30, cp_38, cp_39, cp_40])
      refine for_at (fun i τ st => ∃ (o4 : Option PV), τ = [some (.tup (js.map jobV)), some (.tup (ls.map lkV)), some (.ref q), o3, o4] ∧ st = up s q (some (.lst ((jE 0 js ++ (ls.take i).flatMap lkE).map edV)))) ?_ ?_ ⟨_, rfl, by simp⟩
      · rintro i x τ st hi ⟨o4, rfl, rfl⟩
        obtain ⟨l, rfl, hl'⟩ := get_map' hi
        have hil := (List.getElem?_eq_some_iff.mp hi).1
        rw [List.length_map] at hil
        have lv : lkV l = .tup [.int l.x, .int l.y, .int l.low, oV l.high] := rfl
        have ln : ((jE 0 js ++ (ls.take i).flatMap lkE).map edV).length ≤ 3 * 8 + 2 * 40 := by
          rw [List.length_map, List.length_append, jE_len]
          have := lk_len (ls.take i)
          rw [List.length_take, Nat.min_eq_left (by omega)] at this
          omega
        have sn : (jE 0 js ++ (ls.take (i + 1)).flatMap lkE).map edV = (jE 0 js ++ (ls.take i).flatMap lkE).map edV ++ (lkE l).map edV := by
          rw [take_1 hl', List.flatMap_append, ← List.append_assoc, List.map_append]
          simp
        refine ⟨trivial, ?_⟩
        unfold b__law_job_bounds_2
        rw [sn]
        generalize (jE 0 js ++ (ls.take i).flatMap lkE).map edV = L at *
        cases hh : l.high with
        | none =>
          have le : (lkE l).map edV = [.tup [.int l.x, .int l.y, .int (-l.low)]] := by unfold lkE hiE; rw [hh]; rfl
          have on : oV none = .non := rfl
          rw [hh] at lv
          simp_all only [ss_nil, Nx_nil, Arm_nil, sz_0, sz_1, sz_2, sz_3, sz_4, sz_5, sz_6, sz_7, sz_8, sz_9, sz_10, sz_11, sz_12, cp_2, cp_3, cp_4, cp_5, cp_6, cp_7, cp_12, cp_20, cp_30, cp_38, cp_39, cp_40, lv, on, le]
          (first | rw [Nx_eq] | rw [Arm_eq] | skip); (try simp_all only [ss_nil, Nx_nil, Arm_nil, sz_0, sz_1, sz_2, sz_3, sz_4, sz_5, sz_6, sz_7, sz_8, sz_9, sz_10, sz_11, sz_12, cp_2, cp_3, cp_4, cp_5, cp_6, cp_7, cp_12, cp_20, cp_30, cp_38, cp_39, cp_40, up_up])
          exact ⟨by omega, _, rfl⟩
        | some z =>
          have le : (lkE l).map edV = [.tup [.int l.y, .int l.x, .int z], .tup [.int l.x, .int l.y, .int (-l.low)]] := by unfold lkE hiE; rw [hh]; rfl
          have os : oV (some z) = .int z := rfl
          rw [hh] at lv
          simp_all only [ss_nil, Nx_nil, Arm_nil, sz_0, sz_1, sz_2, sz_3, sz_4, sz_5, sz_6, sz_7, sz_8, sz_9, sz_10, sz_11, sz_12, cp_2, cp_3, cp_4, cp_5, cp_6, cp_7, cp_12, cp_20, cp_30, cp_38, cp_39, cp_40, lv, os, le]
          (first | rw [Nx_eq] | rw [Arm_eq] | skip); (try simp_all only [ss_nil, Nx_nil, Arm_nil, sz_0, sz_1, sz_2, sz_3, sz_4, sz_5, sz_6, sz_7, sz_8, sz_9, sz_10, sz_11, sz_12, cp_2, cp_3, cp_4, cp_5, cp_6, cp_7, cp_12, cp_20, cp_30, cp_38, cp_39, cp_40])
          refine ⟨by omega, ?_⟩
          (first | rw [Nx_eq] | rw [Arm_eq] | skip); (try simp_all only [ss_nil, Nx_nil, Arm_nil, sz_0, sz_1, sz_2, sz_3, sz_4, sz_5, sz_6, sz_7, sz_8, sz_9, sz_10, sz_11, sz_12, cp_2, cp_3, cp_4, cp_5, cp_6, cp_7, cp_12, cp_20, cp_30, cp_38, cp_39, cp_40, up_up, List.length_append])
          exact ⟨by first | omega | (simp; omega), _, rfl, by simp⟩
      · rintro τ st ⟨o4, rfl, rfl⟩
        refine ⟨trivial, ?_⟩
        rw [List.length_map, List.take_length]
        simp_all only [ss_nil, Nx_nil, Arm_nil, sz_0, sz_1, sz_2, sz_3, sz_4, sz_5, sz_6, sz_7, sz_8, sz_9, sz_10, sz_11, sz_12, cp_2, cp_3, cp_4, cp_5, cp_6, cp_7, cp_12, cp_20, cp_30, cp_38, cp_39, cp_40]
        (first | rw [Nx_eq] | rw [Arm_eq] | skip); (try simp_all only [ss_nil, Nx_nil, Arm_nil, sz_0, sz_1, sz_2, sz_3, sz_4, sz_5, sz_6, sz_7, sz_8, sz_9, sz_10, sz_11, sz_12, cp_2, cp_3, cp_4, cp_5, cp_6, cp_7, cp_12, cp_20, cp_30, cp_38, cp_39, cp_40, up_up])
        rw [up_id hq]
        exact ⟨s, .rfl, h⟩
  · exact h.elim
def sp__law_latest : PSpec
  | [.tup xs, .tup ys, .int d], st, Q, _ => ∃ (W : Int) (js : List (Int × Int)) (ls : List Lk), xs = js.map jobV ∧ ys = ls.map lkV ∧ WOk W js ls ∧ Q (ansV nV PV.lst (bf ((sysE js ls).map fl) (2 * js.length + 1 + 1) (stL (2 * js.length + 1) d))) st
  | _, _, _, _ => False
def b__law_latest_2 : Ss :=
  (.cons (.ite (.cmp .Gt (.idx (.var 5) (.idx (.var 8) (.int 0))) (.bin .Add false (.idx (.var 5) (.idx (.var 8) (.int 1))) (.idx (.var 8) (.int 2)))) (.cons (.setIx (.var 5) (.idx (.var 8) (.int 0)) (.bin .Add false (.idx (.var 5) (.idx (.var 8) (.int 1))) (.idx (.var 8) (.int 2)))) (.cons (.asg (.name 7) (.bl true)) .nil)) .nil) .nil)
def b__law_latest_1 : Ss :=
  (.cons (.asg (.name 7) (.bl false)) (.cons (.loop (.name 8) (.val (.var 4)) b__law_latest_2) (.cons (.ite (.cmp .Lt (.idx (.var 5) (.int 0)) (.int 0)) (.cons (.ret .non) .nil) .nil) (.cons (.ite (.not (.val (.var 7))) (.cons (.ret (.fvar 5)) .nil) .nil) .nil))))
def b__law_latest : Ss :=
  (.cons (.asg (.name 3) (.bin .Add false (.bin .Mult false (.int 2) (.blt .len false (.cons (.var 0) .nil))) (.int 1))) (.cons (.asg (.name 4) (.call "_law_job_bounds" sp__law_job_bounds (.cons (.var 0) (.cons (.var 1) .nil)))) (.cons (.asgLc 5 (.comp true [9] (.name 9) (.range1 (.var 3)) .nil (.var 2))) (.cons (.setIx (.var 5) (.int 0) (.int 0)) (.cons (.loop (.name 6) (.range1 (.bin .Add false (.var 3) (.int 1))) b__law_latest_1) (.cons (.ret .non) .nil))))))
def n__law_latest : List Str := ["jobs", "links", "end", "size", "bounds", "hours", "turn", "changed", "one", "k"]
theorem w__law_latest : ∀ vs s Q X, vs.length = 3 → sp__law_latest vs s Q X → wpFn n__law_latest.length b__law_latest vs s Q X := by
  intro vs s Q X hl h
  unfold sp__law_latest at h
  split at h
  · rename_i xs ys d
    rw [fn_eq]
    unfold b__law_latest n__law_latest
    obtain ⟨W, js, ls, rfl, rfl, O, h⟩ := h
    simp_all only [ss_nil, Nx_nil, Arm_nil, sz_0, sz_1, sz_2, sz_3, sz_4, sz_5, sz_6, sz_7, sz_8, sz_9, sz_10, sz_11, sz_12, cp_2, cp_3, cp_4, cp_5, cp_6, cp_7, cp_12, cp_20, cp_30, cp_38, cp_39, cp_40, List.length_map]
    refine ⟨CMul.ok (by unfold CMul; omega), ?_⟩
    (first | rw [Nx_eq] | rw [Arm_eq] | skip); (try simp_all only [ss_nil, Nx_nil, Arm_nil, sz_0, sz_1, sz_2, sz_3, sz_4, sz_5, sz_6, sz_7, sz_8, sz_9, sz_10, sz_11, sz_12, cp_2, cp_3, cp_4, cp_5, cp_6, cp_7, cp_12, cp_20, cp_30, cp_38, cp_39, cp_40])
    refine callS_of ⟨js, ls, rfl, rfl, O.nj, O.nl, ?_⟩
    simp_all only [ss_nil, Nx_nil, Arm_nil, sz_0, sz_1, sz_2, sz_3, sz_4, sz_5, sz_6, sz_7, sz_8, sz_9, sz_10, sz_11, sz_12, cp_2, cp_3, cp_4, cp_5, cp_6, cp_7, cp_12, cp_20, cp_30, cp_38, cp_39, cp_40]
    (first | rw [Nx_eq] | rw [Arm_eq] | skip); (try simp_all only [ss_nil, Nx_nil, Arm_nil, sz_0, sz_1, sz_2, sz_3, sz_4, sz_5, sz_6, sz_7, sz_8, sz_9, sz_10, sz_11, sz_12, cp_2, cp_3, cp_4, cp_5, cp_6, cp_7, cp_12, cp_20, cp_30, cp_38, cp_39, cp_40])
    obtain ⟨hin, _⟩ := sys_in O
    have em : (2 * (js.length : Int) + 1) = ((2 * js.length + 1 : Nat) : Int) := by omega
    have m0 : 0 < 2 * js.length + 1 := by omega
    have m1 : 2 * js.length + 1 ≤ 1000 := by have := O.nj; omega
    rw [em]
    clear hl em O
    revert hin h m0 m1
    generalize 2 * js.length + 1 = m
    generalize sysE js ls = es
    generalize PV.tup (List.map jobV js) = vj
    generalize PV.tup (List.map lkV ls) = vl
    intro h hin m0 m1
    have sz : 1000 ≤ sizeLine := by decide
    have ix0 : ixN m 0 = some 0 := ixN_nat (m := 0) m0
    have er : List.replicate m (PV.int d) = (List.replicate m (some (-d))).map nV := by
      rw [List.map_replicate]
      show _ = List.replicate m (PV.int (- -d))
      rw [Int.neg_neg]
    have e0 : ((List.replicate m (some (-d))).map nV).set 0 (PV.int 0) = (stL m d).map nV := by
      have : (List.replicate m (some (-d))).set 0 (some 0) = stL m d := by
        obtain ⟨k, rfl⟩ : ∃ k, m = k + 1 := ⟨m - 1, by omega⟩
        rfl
      rw [← this]; exact set_map (f := nV) (x := some 0)
    refine ⟨by unfold R62; omega, by rw [show (rngL 0 (m : Int).toNat).length = m by simp [rngL]]; omega, ?_⟩
    refine lc_rng (fun _ => .int d) (fun τ1 st' Q q => by simp_all only [ss_nil, Nx_nil, Arm_nil, sz_0, sz_1, sz_2, sz_3, sz_4, sz_5, sz_6, sz_7, sz_8, sz_9, sz_10, sz_11, sz_12, cp_2, cp_3, cp_4, cp_5, cp_6, cp_7, cp_12, cp_20, cp_30, cp_38, cp_39, cp_40]; exact q) (fun k hk => ⟨_, rfl, fun st' sub K hk => by simp_all only [ss_nil, Nx_nil, Arm_nil, sz_0, sz_1, sz_2, sz_3, sz_4, sz_5, sz_6, sz_7, sz_8, sz_9, sz_10, sz_11, sz_12, cp_2, cp_3, cp_4, cp_5, cp_6, cp_7, cp_12, cp_20, cp_30, cp_38, cp_39, cp_40]; exact hk⟩) ?_
    rw [Int.toNat_natCast, rng_rep, er]
    simp_all only [ss_nil, Nx_nil, Arm_nil, sz_0, sz_1, sz_2, sz_3, sz_4, sz_5, sz_6, sz_7, sz_8, sz_9, sz_10, sz_11, sz_12, cp_2, cp_3, cp_4, cp_5, cp_6, cp_7, cp_12, cp_20, cp_30, cp_38, cp_39, cp_40]
    intro q hq
    (first | rw [Nx_eq] | rw [Arm_eq] | skip); (try simp_all only [ss_nil, Nx_nil, Arm_nil, sz_0, sz_1, sz_2, sz_3, sz_4, sz_5, sz_6, sz_7, sz_8, sz_9, sz_10, sz_11, sz_12, cp_2, cp_3, cp_4, cp_5, cp_6, cp_7, cp_12, cp_20, cp_30, cp_38, cp_39, cp_40, List.length_map, List.length_replicate, ix0, up_up])
    rw [e0]
    (first | rw [Nx_eq] | rw [Arm_eq] | skip); (try simp_all only [ss_nil, Nx_nil, Arm_nil, sz_0, sz_1, sz_2, sz_3, sz_4, sz_5, sz_6, sz_7, sz_8, sz_9, sz_10, sz_11, sz_12, cp_2, cp_3, cp_4, cp_5, cp_6, cp_7, cp_12, cp_20, cp_30, cp_38, cp_39, cp_40])
    refine ⟨by unfold R62; omega, ?_⟩
    have lS : (stL m d).length = m := stL_len m0
    have aS : ∀ k, k < m → ∃ a, vg (stL m d) k = some a := fun k hk => by
      cases k with
      | zero => exact ⟨0, vg_0⟩
      | succ k => exact ⟨-d, by unfold stL; rw [vg_s, vg_rep, if_pos (by omega)]⟩
    have hinf : InR m (es.map fl) := fl_in hin
    refine for_at (fun i τ st => ∃ (v : Vl) (o6 o7 o8 o9 : Option PV), τ = [some vj, some vl, some (.int d), some (.int m), some (.lst (es.map edV)), some (.ref q), o6, o7, o8, o9] ∧ st = up s q (some (.lst (v.map nV))) ∧ v.length = m ∧ (∀ k, k < m → ∃ a, vg v k = some a) ∧ i ≤ m + 1 ∧ bf (es.map fl) (m + 1) (stL m d) = bf (es.map fl) (m + 1 - i) v) ?_ ?_
      ⟨stL m d, _, _, _, _, rfl, rfl, lS, aS, Nat.zero_le _, rfl⟩
    · rintro i x τ st hi ⟨v, o6, o7, o8, o9, rfl, rfl, hv, hz, him, hbf⟩
      have him : i < m + 1 := by
        have := (List.getElem?_eq_some_iff.mp hi).1
        simpa [rngL] using this
      refine ⟨trivial, ?_⟩
      unfold b__law_latest_1
      simp_all only [ss_nil, Nx_nil, Arm_nil, sz_0, sz_1, sz_2, sz_3, sz_4, sz_5, sz_6, sz_7, sz_8, sz_9, sz_10, sz_11, sz_12, cp_2, cp_3, cp_4, cp_5, cp_6, cp_7, cp_12, cp_20, cp_30, cp_38, cp_39, cp_40]
      (first | rw [Nx_eq] | rw [Arm_eq] | skip); (try simp_all only [ss_nil, Nx_nil, Arm_nil, sz_0, sz_1, sz_2, sz_3, sz_4, sz_5, sz_6, sz_7, sz_8, sz_9, sz_10, sz_11, sz_12, cp_2, cp_3, cp_4, cp_5, cp_6, cp_7, cp_12, cp_20, cp_30, cp_38, cp_39, cp_40])
      refine for_at (fun k τ st => ∃ (o8 : Option PV), τ = [some vj, some vl, some (.int d), some (.int m), some (.lst (es.map edV)), some (.ref q), some x, some (.bl (((es.map fl).take k).foldl rl (v, false)).2), o8, o9] ∧ st = up s q (some (.lst ((((es.map fl).take k).foldl rl (v, false)).1.map nV)))) ?_ ?_ ⟨_, rfl, rfl⟩
      · rintro k y τ st hk ⟨o8, rfl, rfl⟩
        obtain ⟨e, rfl, he⟩ := get_map' hk
        have he' : (es.map fl)[k]? = some (fl e) := by rw [List.getElem?_map, he]; rfl
        rw [fold_1 (s := (v, false)) he']
        have lenS : (((es.map fl).take k).foldl rl (v, false)).1.length = m := by rw [fold_len]; exact hv
        have allS : ∀ i, i < m → ∃ a, vg (((es.map fl).take k).foldl rl (v, false)).1 i = some a := fun i hi => by
          obtain ⟨a, ha⟩ := hz i hi
          have := fold_mono ((es.map fl).take k) (v, false) (by rw [hv]; exact fun x hx => hinf x (List.mem_of_mem_take hx)) i
          rw [ha] at this
          obtain ⟨c, hc, _⟩ := this.get
          exact ⟨c, hc⟩
        revert lenS allS
        generalize ((es.map fl).take k).foldl rl (v, false) = S
        intro lenS allS
        obtain ⟨hi', hj⟩ := hin e (mem_at' he)
        obtain ⟨a, hx⟩ := allS e.j hj
        obtain ⟨b, hy⟩ := allS e.i hi'
        have a1 : atI (S.1.map nV) (e.j : Int) = some (.int (-a)) := by rw [at_v (by omega), hx]; rfl
        have a2 : atI (S.1.map nV) (e.i : Int) = some (.int (-b)) := by rw [at_v (by omega), hy]; rfl
        have ixj : ixN (S.1.map nV).length (e.i : Int) = some e.i := ix_v (by omega)
        have ev : edV e = .tup [.int e.i, .int e.j, .int e.w] := rfl
        have sm : (S.1.map nV).set e.i (.int (-a + e.w)) = (S.1.set e.i (some (a - e.w))).map nV := by
          rw [← set_map (f := nV) (x := some (a - e.w))]
          show _ = (S.1.map nV).set e.i (.int (-(a - e.w)))
          rw [show -(a - e.w) = -a + e.w by omega]
        refine ⟨trivial, ?_⟩
        unfold b__law_latest_2
        have hx' : vg S.1 (fl e).i = some a := hx
        by_cases hb : a - e.w > b
        · have hb' : better (a - (fl e).w) (vg S.1 (fl e).j) = true := by
            show better (a - e.w) (vg S.1 e.i) = true
            rw [hy]; exact decide_eq_true hb
          have ry : rl S (fl e) = (S.1.set e.i (some (a - e.w)), true) := rl_yes hx' hb'
          rw [ry]
          have nb : (-a + e.w < -b) = True := eq_true (by omega)
          simp_all only [ss_nil, Nx_nil, Arm_nil, sz_0, sz_1, sz_2, sz_3, sz_4, sz_5, sz_6, sz_7, sz_8, sz_9, sz_10, sz_11, sz_12, cp_2, cp_3, cp_4, cp_5, cp_6, cp_7, cp_12, cp_20, cp_30, cp_38, cp_39, cp_40, ev, a1, a2, nb]
          (first | rw [Nx_eq] | rw [Arm_eq] | skip); (try simp_all only [ss_nil, Nx_nil, Arm_nil, sz_0, sz_1, sz_2, sz_3, sz_4, sz_5, sz_6, sz_7, sz_8, sz_9, sz_10, sz_11, sz_12, cp_2, cp_3, cp_4, cp_5, cp_6, cp_7, cp_12, cp_20, cp_30, cp_38, cp_39, cp_40, a1, ixj, up_up, sm])
          (first | rw [Nx_eq] | rw [Arm_eq] | skip); (try simp_all only [ss_nil, Nx_nil, Arm_nil, sz_0, sz_1, sz_2, sz_3, sz_4, sz_5, sz_6, sz_7, sz_8, sz_9, sz_10, sz_11, sz_12, cp_2, cp_3, cp_4, cp_5, cp_6, cp_7, cp_12, cp_20, cp_30, cp_38, cp_39, cp_40])
          exact ⟨_, rfl⟩
        · have hb' : better (a - (fl e).w) (vg S.1 (fl e).j) = false := by
            show better (a - e.w) (vg S.1 e.i) = false
            rw [hy]; exact decide_eq_false hb
          rw [rl_no hx' hb']
          have nb : (-a + e.w < -b) = False := eq_false (by omega)
          simp_all only [ss_nil, Nx_nil, Arm_nil, sz_0, sz_1, sz_2, sz_3, sz_4, sz_5, sz_6, sz_7, sz_8, sz_9, sz_10, sz_11, sz_12, cp_2, cp_3, cp_4, cp_5, cp_6, cp_7, cp_12, cp_20, cp_30, cp_38, cp_39, cp_40, ev, a1, a2, nb]
          exact ⟨_, rfl⟩
      · rintro τ st ⟨o8, rfl, rfl⟩
        refine ⟨trivial, ?_⟩
        rw [List.length_map, show (es.map fl).take es.length = es.map fl by rw [← List.length_map (f := fl), List.take_length]]
        have hin' : InR v.length (es.map fl) := by rw [hv]; exact hinf
        have lenS : (rnd (es.map fl) v).1.length = m := by rw [rnd_len]; exact hv
        have allS : ∀ i, i < m → ∃ a, vg (rnd (es.map fl) v).1 i = some a := fun i hi => by
          obtain ⟨a, ha⟩ := hz i hi
          have := rnd_mono hin' i
          rw [ha] at this
          obtain ⟨c, hc, _⟩ := this.get
          exact ⟨c, hc⟩
        obtain ⟨b, hb⟩ := allS 0 m0
        have st1 := bf_step (es := es.map fl) (k := m - i) (v := v)
        rw [show m - i + 1 = m + 1 - i by omega, ← hbf] at st1
        clear hbf
        have hbf := st1
        clear st1
        unfold over0 at hbf
        rw [hb] at hbf
        show Nx _ _ [_, _, _, _, _, _, _, some (.bl (rnd (es.map fl) v).2), _, _] (up s q (some (.lst ((rnd (es.map fl) v).1.map nV))))
        revert hbf hb lenS allS
        generalize rnd (es.map fl) v = S
        intro lenS allS hb hbf
        have a0 : atI (S.1.map nV) 0 = some (.int (-b)) := by
          have := at_v (f := nV) (v := S.1) (k := 0) (by omega)
          rw [hb] at this; exact this
        by_cases hb0 : 0 < b
        · have e1 : (-b < 0) = True := eq_true (by omega)
          have e2 : decide (b > 0) = true := decide_eq_true hb0
          have hbf : bf (es.map fl) (m + 1) (stL m d) = if decide (b > 0) = true then none else _ := hbf
          rw [e2, if_pos rfl] at hbf
          rw [hbf] at h
          clear hbf e2
          simp_all only [ss_nil, Nx_nil, Arm_nil, sz_0, sz_1, sz_2, sz_3, sz_4, sz_5, sz_6, sz_7, sz_8, sz_9, sz_10, sz_11, sz_12, cp_2, cp_3, cp_4, cp_5, cp_6, cp_7, cp_12, cp_20, cp_30, cp_38, cp_39, cp_40]
          (first | rw [Nx_eq] | rw [Arm_eq] | skip); (try simp_all only [ss_nil, Nx_nil, Arm_nil, sz_0, sz_1, sz_2, sz_3, sz_4, sz_5, sz_6, sz_7, sz_8, sz_9, sz_10, sz_11, sz_12, cp_2, cp_3, cp_4, cp_5, cp_6, cp_7, cp_12, cp_20, cp_30, cp_38, cp_39, cp_40, a0, e1])
          (first | rw [Nx_eq] | rw [Arm_eq] | skip); (try simp_all only [ss_nil, Nx_nil, Arm_nil, sz_0, sz_1, sz_2, sz_3, sz_4, sz_5, sz_6, sz_7, sz_8, sz_9, sz_10, sz_11, sz_12, cp_2, cp_3, cp_4, cp_5, cp_6, cp_7, cp_12, cp_20, cp_30, cp_38, cp_39, cp_40])
          exact ⟨s, sub_new hq, h⟩
        · have e1 : (-b < 0) = False := eq_false (by omega)
          have e2 : decide (b > 0) = false := decide_eq_false hb0
          have hbf : bf (es.map fl) (m + 1) (stL m d) = if decide (b > 0) = true then none else _ := hbf
          rw [e2, if_neg Bool.false_ne_true] at hbf
          clear e2
          cases hS : S.2 with
          | true =>
            rw [hS, if_pos rfl] at hbf
            have fin : ∃ (v : Vl) (o6 o7 o8' o9' : Option PV), ([some vj, some vl, some (.int d), some (.int m), some (.lst (es.map edV)), some (.ref q), some x, some (.bl true), o8, o9] : Sl) = [some vj, some vl, some (.int d), some (.int m), some (.lst (es.map edV)), some (.ref q), o6, o7, o8', o9'] ∧ up s q (some (.lst (S.1.map nV))) = up s q (some (.lst (v.map nV))) ∧ v.length = m ∧ (∀ k, k < m → ∃ a, vg v k = some a) ∧ i + 1 ≤ m + 1 ∧ bf (es.map fl) (m + 1) (stL m d) = bf (es.map fl) (m + 1 - (i + 1)) v :=
              ⟨S.1, _, _, _, _, rfl, rfl, lenS, allS, by omega, by rw [hbf, show m + 1 - (i + 1) = m - i by omega]⟩
            clear hbf h
            revert fin
            generalize bf (es.map fl) (m + 1) (stL m d) = R
            intro fin
            simp_all only [ss_nil, Nx_nil, Arm_nil, sz_0, sz_1, sz_2, sz_3, sz_4, sz_5, sz_6, sz_7, sz_8, sz_9, sz_10, sz_11, sz_12, cp_2, cp_3, cp_4, cp_5, cp_6, cp_7, cp_12, cp_20, cp_30, cp_38, cp_39, cp_40]
            (first | rw [Nx_eq] | rw [Arm_eq] | skip); (try simp_all only [ss_nil, Nx_nil, Arm_nil, sz_0, sz_1, sz_2, sz_3, sz_4, sz_5, sz_6, sz_7, sz_8, sz_9, sz_10, sz_11, sz_12, cp_2, cp_3, cp_4, cp_5, cp_6, cp_7, cp_12, cp_20, cp_30, cp_38, cp_39, cp_40, a0, e1])
            (first | rw [Nx_eq] | rw [Arm_eq] | skip); (try simp_all only [ss_nil, Nx_nil, Arm_nil, sz_0, sz_1, sz_2, sz_3, sz_4, sz_5, sz_6, sz_7, sz_8, sz_9, sz_10, sz_11, sz_12, cp_2, cp_3, cp_4, cp_5, cp_6, cp_7, cp_12, cp_20, cp_30, cp_38, cp_39, cp_40])
            exact fin
          | false =>
            rw [hS, if_neg Bool.false_ne_true] at hbf
            rw [hbf] at h
            clear hbf
            simp_all only [ss_nil, Nx_nil, Arm_nil, sz_0, sz_1, sz_2, sz_3, sz_4, sz_5, sz_6, sz_7, sz_8, sz_9, sz_10, sz_11, sz_12, cp_2, cp_3, cp_4, cp_5, cp_6, cp_7, cp_12, cp_20, cp_30, cp_38, cp_39, cp_40]
            (first | rw [Nx_eq] | rw [Arm_eq] | skip); (try simp_all only [ss_nil, Nx_nil, Arm_nil, sz_0, sz_1, sz_2, sz_3, sz_4, sz_5, sz_6, sz_7, sz_8, sz_9, sz_10, sz_11, sz_12, cp_2, cp_3, cp_4, cp_5, cp_6, cp_7, cp_12, cp_20, cp_30, cp_38, cp_39, cp_40, a0, e1])
            (first | rw [Nx_eq] | rw [Arm_eq] | skip); (try simp_all only [ss_nil, Nx_nil, Arm_nil, sz_0, sz_1, sz_2, sz_3, sz_4, sz_5, sz_6, sz_7, sz_8, sz_9, sz_10, sz_11, sz_12, cp_2, cp_3, cp_4, cp_5, cp_6, cp_7, cp_12, cp_20, cp_30, cp_38, cp_39, cp_40])
            (first | rw [Nx_eq] | rw [Arm_eq] | skip); (try simp_all only [ss_nil, Nx_nil, Arm_nil, sz_0, sz_1, sz_2, sz_3, sz_4, sz_5, sz_6, sz_7, sz_8, sz_9, sz_10, sz_11, sz_12, cp_2, cp_3, cp_4, cp_5, cp_6, cp_7, cp_12, cp_20, cp_30, cp_38, cp_39, cp_40, up_up])
            rw [up_id hq]
            exact ⟨s, .rfl, h⟩
    · rintro τ st ⟨v, o6, o7, o8, o9, rfl, rfl, hv, hz, him, hbf⟩
      refine ⟨trivial, ?_⟩
      rw [show (rngL 0 ((m : Int) + 1).toNat).length = m + 1 by simp [rngL], Nat.sub_self] at hbf
      have hbf : bf (es.map fl) (m + 1) (stL m d) = none := hbf
      rw [hbf] at h
      clear hbf
      simp_all only [ss_nil, Nx_nil, Arm_nil, sz_0, sz_1, sz_2, sz_3, sz_4, sz_5, sz_6, sz_7, sz_8, sz_9, sz_10, sz_11, sz_12, cp_2, cp_3, cp_4, cp_5, cp_6, cp_7, cp_12, cp_20, cp_30, cp_38, cp_39, cp_40]
      (first | rw [Nx_eq] | rw [Arm_eq] | skip); (try simp_all only [ss_nil, Nx_nil, Arm_nil, sz_0, sz_1, sz_2, sz_3, sz_4, sz_5, sz_6, sz_7, sz_8, sz_9, sz_10, sz_11, sz_12, cp_2, cp_3, cp_4, cp_5, cp_6, cp_7, cp_12, cp_20, cp_30, cp_38, cp_39, cp_40])
      exact ⟨s, sub_new hq, h⟩
  · exact h.elim
end TK

set_option maxRecDepth 100000
set_option maxHeartbeats 4000000
namespace TK
open PySem PySem.Spec PyProof.Rows L2
theorem bls_t {α : Type} : ∀ l : List α, blsOf (l.map fun _ => PV.bl true) = some (l.map fun _ => true)
  | [] => rfl
  | x :: r => by
    show (blsOf (r.map fun _ => PV.bl true)).map (true :: ·) = _
    rw [bls_t r]; rfl
theorem all_t {α : Type} (l : List α) : (l.map fun _ => true).all id = true := by simp
theorem str_ty : (("tuple" : Str) == ("tuple" : Str)) = true := by decide
def nr1 : PV → Bool
  | .tup xs => xs.all noRef
  | v => noRef v
def nr2 : PV → Bool
  | .tup xs => xs.all nr1
  | v => noRef v
theorem nr1_ref {v : PV} (h : nr1 v = true) : noRef v = true := by cases v <;> first | rfl | exact h
theorem nr2_ref {v : PV} (h : nr2 v = true) : noRef v = true := by cases v <;> first | rfl | exact h
def jobB : PV → Bool
  | .tup [a, b] => wholeB a 0 (.int 99) && match a with
    | .int lo => wholeB b lo (.int 99)
    | _ => false
  | _ => false
def hiB (h : PV) : Bool := match h with
  | .non => true
  | h => wholeB h (-99) (.int 99)
def linkB (n : Nat) : PV → Bool
  | .tup [x, y, l, h] => wholeB x 0 (.int ((n : Int) - 1)) && wholeB y 0 (.int ((n : Int) - 1)) && wholeB l (-99) (.int 99) && hiB h
  | _ => false
def jobsB : PV → Bool
  | .tup xs => decide (xs.length ≤ 8) && xs.all jobB
  | _ => false
def linksB (n : Nat) : PV → Bool
  | .tup xs => decide (xs.length ≤ 40) && xs.all (linkB n)
  | _ => false
def badJ (j : PV) : Bool := nr2 j && !jobsB j
def badL (n : Nat) (l : PV) : Bool := nr2 l && !linksB n l
theorem bls_b {f : PV → Bool} : ∀ l : List PV, blsOf (l.map fun v => PV.bl (f v)) = some (l.map f)
  | [] => rfl
  | x :: r => by
    show (blsOf (r.map fun v => PV.bl (f v))).map (f x :: ·) = _
    rw [bls_b r]; rfl
theorem all_b {f : PV → Bool} (l : List PV) : (l.map f).all id = l.all f := by
  rw [List.all_map]; rfl
theorem whole_int {v h : PV} {lo : Int} (e : wholeB v lo h = true) : ∃ n, v = .int n := by
  cases v with
  | int n => exact ⟨n, rfl⟩
  | _ => cases e
def sp_is_job : PSpec
  | [v], st, Q, _ => nr1 v = true ∧ Q (.bl (jobB v)) st
  | _, _, _, _ => False
def b_is_job : Ss :=
  (.cons (.ite (.bools .Or (.cons (.not (.val (.isi (.var 0) "tuple"))) (.cons (.cmp .NotEq (.blt .len false (.cons (.var 0) .nil)) (.int 2)) .nil))) (.cons (.ret (.bl false)) .nil) .nil) (.cons (.ret (.bools .And (.cons (.call "is_whole" sp_is_whole (.cons (.idx (.var 0) (.int 0)) (.cons (.int 0) (.cons (.glob "MOST_SPAN" (.int 99)) .nil)))) (.cons (.call "is_whole" sp_is_whole (.cons (.idx (.var 0) (.int 1)) (.cons (.idx (.var 0) (.int 0)) (.cons (.glob "MOST_SPAN" (.int 99)) .nil)))) .nil)))) .nil))
def n_is_job : List Str := ["job"]
theorem whole_t {n lo k : Int} (h : lo ≤ n) (h2 : n ≤ k) : wholeB (.int n) lo (.int k) = true := by
  show (decide (lo ≤ n) && decide (n ≤ k)) = true
  rw [decide_eq_true h, decide_eq_true h2]; rfl
theorem job_t {p : Int × Int} (h1 : 0 ≤ p.1) (h2 : p.1 ≤ p.2) (h3 : p.2 ≤ 99) : jobB (jobV p) = true := by
  show (wholeB (.int p.1) 0 (.int 99) && wholeB (.int p.2) p.1 (.int 99)) = true
  rw [whole_t h1 (by omega), whole_t h2 h3]; rfl
theorem link_t {l : Lk} {m : Nat} (h1 : l.x < m) (h2 : l.y < m) (h3 : -99 ≤ l.low) (h4 : l.low ≤ 99) (h5 : ∀ h, l.high = some h → -99 ≤ h ∧ h ≤ 99) : linkB m (lkV l) = true := by
  have e : linkB m (lkV l) = (wholeB (.int l.x) 0 (.int ((m : Int) - 1)) && wholeB (.int l.y) 0 (.int ((m : Int) - 1)) && wholeB (.int l.low) (-99) (.int 99) && hiB (oV l.high)) := rfl
  rw [e, whole_t (by omega) (by omega), whole_t (by omega) (by omega), whole_t h3 h4]
  cases hh : l.high with
  | none => rfl
  | some z => exact whole_t (h5 z hh).1 (h5 z hh).2
theorem w_is_job : ∀ vs s Q X, vs.length = 1 → sp_is_job vs s Q X → wpFn n_is_job.length b_is_job vs s Q X := by
  intro vs s Q X hl h
  unfold sp_is_job at h
  split at h
  · rename_i v
    rw [fn_eq]
    unfold b_is_job n_is_job
    obtain ⟨hn, h⟩ := h
    have t1 : (("int" : Str) == ("tuple" : Str)) = false := by decide
    have t2 : (("bool" : Str) == ("tuple" : Str)) = false := by decide
    have t3 : (("list" : Str) == ("tuple" : Str)) = false := by decide
    have t4 : (("str" : Str) == ("tuple" : Str)) = false := by decide
    have t5 : (("tuple" : Str) == ("int" : Str)) = false := by decide
    have t6 : (("tuple" : Str) == ("bool" : Str)) = false := by decide
    have t7 : (("tuple" : Str) == ("list" : Str)) = false := by decide
    have t8 : (("tuple" : Str) == ("str" : Str)) = false := by decide
    cases v with
    | tup xs =>
      by_cases hx : xs.length = 2
      · obtain ⟨a, b, rfl⟩ : ∃ a b, xs = [a, b] := by
          match xs, hx with
          | [a, b], _ => exact ⟨a, b, rfl⟩
        have hn : (noRef a && (noRef b && true)) = true := hn
        simp only [Bool.and_eq_true, and_true] at hn
        have el : (((2 : Nat) : Int) = 2) = True := eq_true rfl
        simp_all only [ss_nil, Nx_nil, Arm_nil, sz_0, sz_1, sz_2, sz_3, sz_4, sz_5, sz_6, sz_7, sz_8, sz_9, sz_10, sz_11, sz_12, cp_2, cp_3, cp_4, cp_5, cp_6, cp_7, cp_12, cp_20, cp_30, cp_38, cp_39, cp_40, str_ty, el]
        (first | rw [Nx_eq] | rw [Arm_eq] | skip); (try simp_all only [ss_nil, Nx_nil, Arm_nil, sz_0, sz_1, sz_2, sz_3, sz_4, sz_5, sz_6, sz_7, sz_8, sz_9, sz_10, sz_11, sz_12, cp_2, cp_3, cp_4, cp_5, cp_6, cp_7, cp_12, cp_20, cp_30, cp_38, cp_39, cp_40])
        refine callS_of ⟨hn.1, .inr ⟨_, rfl⟩, ?_⟩
        cases hw : wholeB a 0 (.int 99) with
        | false =>
          have : jobB (.tup [a, b]) = false := by
            show (wholeB a 0 (.int 99) && _) = false
            rw [hw]; rfl
          rw [this] at h
          simp_all only [ss_nil, Nx_nil, Arm_nil, sz_0, sz_1, sz_2, sz_3, sz_4, sz_5, sz_6, sz_7, sz_8, sz_9, sz_10, sz_11, sz_12, cp_2, cp_3, cp_4, cp_5, cp_6, cp_7, cp_12, cp_20, cp_30, cp_38, cp_39, cp_40]
          exact ⟨s, .rfl, h⟩
        | true =>
          obtain ⟨lo, rfl⟩ := whole_int hw
          have : jobB (.tup [.int lo, b]) = wholeB b lo (.int 99) := by
            show (wholeB (.int lo) 0 (.int 99) && wholeB b lo (.int 99)) = _
            rw [hw]; rfl
          rw [this] at h
          simp_all only [ss_nil, Nx_nil, Arm_nil, sz_0, sz_1, sz_2, sz_3, sz_4, sz_5, sz_6, sz_7, sz_8, sz_9, sz_10, sz_11, sz_12, cp_2, cp_3, cp_4, cp_5, cp_6, cp_7, cp_12, cp_20, cp_30, cp_38, cp_39, cp_40]
          refine callS_of ⟨hn.2, .inr ⟨_, rfl⟩, ?_⟩
          exact ⟨s, .rfl, h⟩
      · have e : jobB (.tup xs) = false := by
          unfold jobB
          split
          · rename_i q; cases q; exact absurd rfl hx
          · rfl
        rw [e] at h
        have e2 : ((xs.length : Int) = 2) = False := eq_false (by omega)
        simp_all only [ss_nil, Nx_nil, Arm_nil, sz_0, sz_1, sz_2, sz_3, sz_4, sz_5, sz_6, sz_7, sz_8, sz_9, sz_10, sz_11, sz_12, cp_2, cp_3, cp_4, cp_5, cp_6, cp_7, cp_12, cp_20, cp_30, cp_38, cp_39, cp_40, str_ty, e2]
        (first | rw [Nx_eq] | rw [Arm_eq] | skip); (try simp_all only [ss_nil, Nx_nil, Arm_nil, sz_0, sz_1, sz_2, sz_3, sz_4, sz_5, sz_6, sz_7, sz_8, sz_9, sz_10, sz_11, sz_12, cp_2, cp_3, cp_4, cp_5, cp_6, cp_7, cp_12, cp_20, cp_30, cp_38, cp_39, cp_40])
        exact ⟨s, .rfl, h⟩
    | ref _ => cases hn
    | scr _ => cases hn
    | _ =>
      simp_all only [ss_nil, Nx_nil, Arm_nil, sz_0, sz_1, sz_2, sz_3, sz_4, sz_5, sz_6, sz_7, sz_8, sz_9, sz_10, sz_11, sz_12, cp_2, cp_3, cp_4, cp_5, cp_6, cp_7, cp_12, cp_20, cp_30, cp_38, cp_39, cp_40, t1, t2, t3, t4, t5, t6, t7, t8, Bool.or_false]
      (first | rw [Nx_eq] | rw [Arm_eq] | skip); (try simp_all only [ss_nil, Nx_nil, Arm_nil, sz_0, sz_1, sz_2, sz_3, sz_4, sz_5, sz_6, sz_7, sz_8, sz_9, sz_10, sz_11, sz_12, cp_2, cp_3, cp_4, cp_5, cp_6, cp_7, cp_12, cp_20, cp_30, cp_38, cp_39, cp_40])
      exact ⟨s, .rfl, h⟩
  · exact h.elim
def sp_is_link : PSpec
  | [v, .int n], st, Q, _ => nr1 v = true ∧ ∃ m : Nat, n = m ∧ Q (.bl (linkB m v)) st
  | _, _, _, _ => False
def b_is_link : Ss :=
  (.cons (.ite (.bools .Or (.cons (.not (.val (.isi (.var 0) "tuple"))) (.cons (.cmp .NotEq (.blt .len false (.cons (.var 0) .nil)) (.int 4)) .nil))) (.cons (.ret (.bl false)) .nil) .nil) (.cons (.asg (.tup (.cons (.name 2) (.cons (.name 3) (.cons (.name 4) (.cons (.name 5) .nil))))) (.var 0)) (.cons (.ite (.bools .Or (.cons (.not (.val (.call "is_whole" sp_is_whole (.cons (.var 2) (.cons (.int 0) (.cons (.bin .Sub false (.var 1) (.int 1)) .nil)))))) (.cons (.not (.val (.call "is_whole" sp_is_whole (.cons (.var 3) (.cons (.int 0) (.cons (.bin .Sub false (.var 1) (.int 1)) .nil)))))) .nil))) (.cons (.ret (.bl false)) .nil) .nil) (.cons (.ite (.not (.val (.call "is_whole" sp_is_whole (.cons (.var 4) (.cons (.neg (.glob "MOST_SPAN" (.int 99))) (.cons (.glob "MOST_SPAN" (.int 99)) .nil)))))) (.cons (.ret (.bl false)) .nil) .nil) (.cons (.ret (.bools .Or (.cons (.cmp .Is (.var 5) .non) (.cons (.call "is_whole" sp_is_whole (.cons (.var 5) (.cons (.neg (.glob "MOST_SPAN" (.int 99))) (.cons (.glob "MOST_SPAN" (.int 99)) .nil)))) .nil)))) .nil)))))
def n_is_link : List Str := ["link", "events", "x", "y", "low", "high"]
theorem w_is_link : ∀ vs s Q X, vs.length = 2 → sp_is_link vs s Q X → wpFn n_is_link.length b_is_link vs s Q X := by
  intro vs s Q X hl h
  unfold sp_is_link at h
  split at h
  · rename_i v n
    rw [fn_eq]
    unfold b_is_link n_is_link
    obtain ⟨hn, m, rfl, h⟩ := h
    have t1 : (("int" : Str) == ("tuple" : Str)) = false := by decide
    have t2 : (("bool" : Str) == ("tuple" : Str)) = false := by decide
    have t3 : (("list" : Str) == ("tuple" : Str)) = false := by decide
    have t4 : (("str" : Str) == ("tuple" : Str)) = false := by decide
    cases v with
    | tup xs =>
      by_cases hx : xs.length = 4
      · obtain ⟨a, b, c, d, rfl⟩ : ∃ a b c d, xs = [a, b, c, d] := by
          match xs, hx with
          | [a, b, c, d], _ => exact ⟨a, b, c, d, rfl⟩
        have hn : (noRef a && (noRef b && (noRef c && (noRef d && true)))) = true := hn
        simp only [Bool.and_eq_true, and_true] at hn
        obtain ⟨ha, hb, hc, hd⟩ := hn
        have el : (((4 : Nat) : Int) = 4) = True := eq_true rfl
        have lb : linkB m (.tup [a, b, c, d]) = (wholeB a 0 (.int ((m : Int) - 1)) && wholeB b 0 (.int ((m : Int) - 1)) && wholeB c (-99) (.int 99) && hiB d) := rfl
        rw [lb] at h
        clear lb
        simp_all only [ss_nil, Nx_nil, Arm_nil, sz_0, sz_1, sz_2, sz_3, sz_4, sz_5, sz_6, sz_7, sz_8, sz_9, sz_10, sz_11, sz_12, cp_2, cp_3, cp_4, cp_5, cp_6, cp_7, cp_12, cp_20, cp_30, cp_38, cp_39, cp_40, str_ty, el]
        (first | rw [Nx_eq] | rw [Arm_eq] | skip); (try simp_all only [ss_nil, Nx_nil, Arm_nil, sz_0, sz_1, sz_2, sz_3, sz_4, sz_5, sz_6, sz_7, sz_8, sz_9, sz_10, sz_11, sz_12, cp_2, cp_3, cp_4, cp_5, cp_6, cp_7, cp_12, cp_20, cp_30, cp_38, cp_39, cp_40])
        (first | rw [Nx_eq] | rw [Arm_eq] | skip); (try simp_all only [ss_nil, Nx_nil, Arm_nil, sz_0, sz_1, sz_2, sz_3, sz_4, sz_5, sz_6, sz_7, sz_8, sz_9, sz_10, sz_11, sz_12, cp_2, cp_3, cp_4, cp_5, cp_6, cp_7, cp_12, cp_20, cp_30, cp_38, cp_39, cp_40])
        refine callS_of ⟨ha, .inr ⟨_, rfl⟩, ?_⟩
        cases h1 : wholeB a 0 (.int ((m : Int) - 1)) with
        | false =>
          rw [h1] at h
          simp_all only [ss_nil, Nx_nil, Arm_nil, sz_0, sz_1, sz_2, sz_3, sz_4, sz_5, sz_6, sz_7, sz_8, sz_9, sz_10, sz_11, sz_12, cp_2, cp_3, cp_4, cp_5, cp_6, cp_7, cp_12, cp_20, cp_30, cp_38, cp_39, cp_40]
          (first | rw [Nx_eq] | rw [Arm_eq] | skip); (try simp_all only [ss_nil, Nx_nil, Arm_nil, sz_0, sz_1, sz_2, sz_3, sz_4, sz_5, sz_6, sz_7, sz_8, sz_9, sz_10, sz_11, sz_12, cp_2, cp_3, cp_4, cp_5, cp_6, cp_7, cp_12, cp_20, cp_30, cp_38, cp_39, cp_40])
          exact ⟨s, .rfl, h⟩
        | true =>
          simp_all only [ss_nil, Nx_nil, Arm_nil, sz_0, sz_1, sz_2, sz_3, sz_4, sz_5, sz_6, sz_7, sz_8, sz_9, sz_10, sz_11, sz_12, cp_2, cp_3, cp_4, cp_5, cp_6, cp_7, cp_12, cp_20, cp_30, cp_38, cp_39, cp_40]
          refine callS_of ⟨hb, .inr ⟨_, rfl⟩, ?_⟩
          cases h2 : wholeB b 0 (.int ((m : Int) - 1)) with
          | false =>
            rw [h1, h2] at h
            simp_all only [ss_nil, Nx_nil, Arm_nil, sz_0, sz_1, sz_2, sz_3, sz_4, sz_5, sz_6, sz_7, sz_8, sz_9, sz_10, sz_11, sz_12, cp_2, cp_3, cp_4, cp_5, cp_6, cp_7, cp_12, cp_20, cp_30, cp_38, cp_39, cp_40]
            (first | rw [Nx_eq] | rw [Arm_eq] | skip); (try simp_all only [ss_nil, Nx_nil, Arm_nil, sz_0, sz_1, sz_2, sz_3, sz_4, sz_5, sz_6, sz_7, sz_8, sz_9, sz_10, sz_11, sz_12, cp_2, cp_3, cp_4, cp_5, cp_6, cp_7, cp_12, cp_20, cp_30, cp_38, cp_39, cp_40])
            exact ⟨s, .rfl, h⟩
          | true =>
            simp_all only [ss_nil, Nx_nil, Arm_nil, sz_0, sz_1, sz_2, sz_3, sz_4, sz_5, sz_6, sz_7, sz_8, sz_9, sz_10, sz_11, sz_12, cp_2, cp_3, cp_4, cp_5, cp_6, cp_7, cp_12, cp_20, cp_30, cp_38, cp_39, cp_40]
            (first | rw [Nx_eq] | rw [Arm_eq] | skip); (try simp_all only [ss_nil, Nx_nil, Arm_nil, sz_0, sz_1, sz_2, sz_3, sz_4, sz_5, sz_6, sz_7, sz_8, sz_9, sz_10, sz_11, sz_12, cp_2, cp_3, cp_4, cp_5, cp_6, cp_7, cp_12, cp_20, cp_30, cp_38, cp_39, cp_40])
            refine callS_of ⟨hc, .inr ⟨_, rfl⟩, ?_⟩
            cases h3 : wholeB c (-99) (.int 99) with
            | false =>
              rw [h1, h2, h3] at h
              simp_all only [ss_nil, Nx_nil, Arm_nil, sz_0, sz_1, sz_2, sz_3, sz_4, sz_5, sz_6, sz_7, sz_8, sz_9, sz_10, sz_11, sz_12, cp_2, cp_3, cp_4, cp_5, cp_6, cp_7, cp_12, cp_20, cp_30, cp_38, cp_39, cp_40]
              (first | rw [Nx_eq] | rw [Arm_eq] | skip); (try simp_all only [ss_nil, Nx_nil, Arm_nil, sz_0, sz_1, sz_2, sz_3, sz_4, sz_5, sz_6, sz_7, sz_8, sz_9, sz_10, sz_11, sz_12, cp_2, cp_3, cp_4, cp_5, cp_6, cp_7, cp_12, cp_20, cp_30, cp_38, cp_39, cp_40])
              exact ⟨s, .rfl, h⟩
            | true =>
              rw [h1, h2, h3] at h
              simp_all only [ss_nil, Nx_nil, Arm_nil, sz_0, sz_1, sz_2, sz_3, sz_4, sz_5, sz_6, sz_7, sz_8, sz_9, sz_10, sz_11, sz_12, cp_2, cp_3, cp_4, cp_5, cp_6, cp_7, cp_12, cp_20, cp_30, cp_38, cp_39, cp_40]
              by_cases hnn : d = .non
              · subst hnn
                (first | rw [Nx_eq] | rw [Arm_eq] | skip); (try simp_all only [ss_nil, Nx_nil, Arm_nil, sz_0, sz_1, sz_2, sz_3, sz_4, sz_5, sz_6, sz_7, sz_8, sz_9, sz_10, sz_11, sz_12, cp_2, cp_3, cp_4, cp_5, cp_6, cp_7, cp_12, cp_20, cp_30, cp_38, cp_39, cp_40])
                exact ⟨s, .rfl, h⟩
              · have e3 : isNon d = false := by cases d <;> first | rfl | exact absurd rfl hnn
                have h : Q (.bl (wholeB d (-99) (.int 99))) s := by
                  cases d <;> first | exact h | exact absurd rfl hnn
                (first | rw [Nx_eq] | rw [Arm_eq] | skip); (try simp_all only [ss_nil, Nx_nil, Arm_nil, sz_0, sz_1, sz_2, sz_3, sz_4, sz_5, sz_6, sz_7, sz_8, sz_9, sz_10, sz_11, sz_12, cp_2, cp_3, cp_4, cp_5, cp_6, cp_7, cp_12, cp_20, cp_30, cp_38, cp_39, cp_40, e3])
                refine callS_of ⟨hd, .inr ⟨_, rfl⟩, ?_⟩
                exact ⟨s, .rfl, h⟩
      · have e : linkB m (.tup xs) = false := by
          unfold linkB
          split
          · rename_i q; cases q; exact absurd rfl hx
          · rfl
        rw [e] at h
        have e2 : ((xs.length : Int) = 4) = False := eq_false (by omega)
        simp_all only [ss_nil, Nx_nil, Arm_nil, sz_0, sz_1, sz_2, sz_3, sz_4, sz_5, sz_6, sz_7, sz_8, sz_9, sz_10, sz_11, sz_12, cp_2, cp_3, cp_4, cp_5, cp_6, cp_7, cp_12, cp_20, cp_30, cp_38, cp_39, cp_40, str_ty, e2]
        (first | rw [Nx_eq] | rw [Arm_eq] | skip); (try simp_all only [ss_nil, Nx_nil, Arm_nil, sz_0, sz_1, sz_2, sz_3, sz_4, sz_5, sz_6, sz_7, sz_8, sz_9, sz_10, sz_11, sz_12, cp_2, cp_3, cp_4, cp_5, cp_6, cp_7, cp_12, cp_20, cp_30, cp_38, cp_39, cp_40])
        exact ⟨s, .rfl, h⟩
    | ref _ => cases hn
    | scr _ => cases hn
    | _ =>
      simp_all only [ss_nil, Nx_nil, Arm_nil, sz_0, sz_1, sz_2, sz_3, sz_4, sz_5, sz_6, sz_7, sz_8, sz_9, sz_10, sz_11, sz_12, cp_2, cp_3, cp_4, cp_5, cp_6, cp_7, cp_12, cp_20, cp_30, cp_38, cp_39, cp_40, t1, t2, t3, t4, Bool.or_false]
      (first | rw [Nx_eq] | rw [Arm_eq] | skip); (try simp_all only [ss_nil, Nx_nil, Arm_nil, sz_0, sz_1, sz_2, sz_3, sz_4, sz_5, sz_6, sz_7, sz_8, sz_9, sz_10, sz_11, sz_12, cp_2, cp_3, cp_4, cp_5, cp_6, cp_7, cp_12, cp_20, cp_30, cp_38, cp_39, cp_40])
      first | exact ⟨s, .rfl, h⟩ | ((first | rw [Nx_eq] | rw [Arm_eq] | skip); (try simp_all only [ss_nil, Nx_nil, Arm_nil, sz_0, sz_1, sz_2, sz_3, sz_4, sz_5, sz_6, sz_7, sz_8, sz_9, sz_10, sz_11, sz_12, cp_2, cp_3, cp_4, cp_5, cp_6, cp_7, cp_12, cp_20, cp_30, cp_38, cp_39, cp_40]); exact ⟨s, .rfl, h⟩)
  · exact h.elim
def sp_check_jobs : PSpec
  | [j, l], st, Q, X => (badJ j = true ∧ X (errW "jobs") st) ∨ ∃ (W : Int) (js : List (Int × Int)) (ls : List Lk), j = .tup (js.map jobV) ∧ WOk W js ls ∧ ((l = .tup (ls.map lkV) ∧ Q .non st) ∨ (badL (2 * js.length + 1) l = true ∧ X (errW "links") st))
  | _, _, _, _ => False
def b_check_jobs : Ss :=
  (.cons (.ite (.bools .Or (.cons (.not (.val (.isi (.var 0) "tuple"))) (.cons (.cmp .Gt (.blt .len false (.cons (.var 0) .nil)) (.glob "MOST_JOBS" (.int 8))) (.cons (.not (.val (.blt .all false (.cons (.comp false [3] (.name 3) (.val (.var 0)) .nil (.call "is_job" sp_is_job (.cons (.var 3) .nil))) .nil)))) .nil)))) (.cons (.raise "BadValue" (.cons (.str "jobs") .nil)) .nil) .nil) (.cons (.ite (.bools .Or (.cons (.not (.val (.isi (.var 1) "tuple"))) (.cons (.cmp .Gt (.blt .len false (.cons (.var 1) .nil)) (.glob "MOST_LINKS" (.int 40))) .nil))) (.cons (.raise "BadValue" (.cons (.str "links") .nil)) .nil) .nil) (.cons (.ite (.not (.val (.blt .all false (.cons (.comp false [2] (.name 2) (.val (.var 1)) .nil (.call "is_link" sp_is_link (.cons (.var 2) (.cons (.bin .Add false (.bin .Mult false (.int 2) (.blt .len false (.cons (.var 0) .nil))) (.int 1)) .nil)))) .nil)))) (.cons (.raise "BadValue" (.cons (.str "links") .nil)) .nil) .nil) .nil)))
def n_check_jobs : List Str := ["jobs", "links", "link", "job"]
theorem w_check_jobs : ∀ vs s Q X, vs.length = 2 → sp_check_jobs vs s Q X → wpFn n_check_jobs.length b_check_jobs vs s Q X := by
  intro vs s Q X hl h
  unfold sp_check_jobs at h
  split at h
  · rename_i j l
    rw [fn_eq]
    unfold b_check_jobs n_check_jobs
    have sz : 1000 ≤ sizeLine := by decide
    have t1 : (("int" : Str) == ("tuple" : Str)) = false := by decide
    have t2 : (("bool" : Str) == ("tuple" : Str)) = false := by decide
    have t3 : (("list" : Str) == ("tuple" : Str)) = false := by decide
    have t4 : (("str" : Str) == ("tuple" : Str)) = false := by decide
    rcases h with ⟨hb, h⟩ | ⟨W, js, ls, rfl, O, h⟩
    · have hb := Bool.and_eq_true_iff.mp hb
      cases j with
      | tup xs =>
        by_cases h8 : 8 < xs.length
        · have e1 : ((8 : Int) < xs.length) = True := eq_true (by omega)
          simp_all only [ss_nil, Nx_nil, Arm_nil, sz_0, sz_1, sz_2, sz_3, sz_4, sz_5, sz_6, sz_7, sz_8, sz_9, sz_10, sz_11, sz_12, cp_2, cp_3, cp_4, cp_5, cp_6, cp_7, cp_12, cp_20, cp_30, cp_38, cp_39, cp_40, str_ty, e1]
          (first | rw [Nx_eq] | rw [Arm_eq] | skip); (try simp_all only [ss_nil, Nx_nil, Arm_nil, sz_0, sz_1, sz_2, sz_3, sz_4, sz_5, sz_6, sz_7, sz_8, sz_9, sz_10, sz_11, sz_12, cp_2, cp_3, cp_4, cp_5, cp_6, cp_7, cp_12, cp_20, cp_30, cp_38, cp_39, cp_40])
          exact ⟨⟨rfl, by decide⟩, s, .rfl, by rw [fld_bv]; exact h⟩
        · have e1 : ((8 : Int) < xs.length) = False := eq_false (by omega)
          have hall : xs.all jobB = false := by
            have : (!(decide (xs.length ≤ 8) && xs.all jobB)) = true := hb.2
            rw [decide_eq_true (show xs.length ≤ 8 by omega), Bool.true_and] at this
            simpa using this
          have hnr : ∀ v ∈ xs, nr1 v = true := fun v hv => List.all_eq_true.mp hb.1 v hv
          simp_all only [ss_nil, Nx_nil, Arm_nil, sz_0, sz_1, sz_2, sz_3, sz_4, sz_5, sz_6, sz_7, sz_8, sz_9, sz_10, sz_11, sz_12, cp_2, cp_3, cp_4, cp_5, cp_6, cp_7, cp_12, cp_20, cp_30, cp_38, cp_39, cp_40, str_ty, e1]
          refine lc_map (fun v => .bl (jobB v)) xs (fun τ1 st' Q q => by simp_all only [ss_nil, Nx_nil, Arm_nil, sz_0, sz_1, sz_2, sz_3, sz_4, sz_5, sz_6, sz_7, sz_8, sz_9, sz_10, sz_11, sz_12, cp_2, cp_3, cp_4, cp_5, cp_6, cp_7, cp_12, cp_20, cp_30, cp_38, cp_39, cp_40]; exact q) (fun v hv => ⟨_, rfl, fun st' sub K hk => ?_⟩) ?_
          · simp_all only [ss_nil, Nx_nil, Arm_nil, sz_0, sz_1, sz_2, sz_3, sz_4, sz_5, sz_6, sz_7, sz_8, sz_9, sz_10, sz_11, sz_12, cp_2, cp_3, cp_4, cp_5, cp_6, cp_7, cp_12, cp_20, cp_30, cp_38, cp_39, cp_40]
            exact callS_of ⟨hnr v hv, hk⟩
          simp_all only [ss_nil, Nx_nil, Arm_nil, sz_0, sz_1, sz_2, sz_3, sz_4, sz_5, sz_6, sz_7, sz_8, sz_9, sz_10, sz_11, sz_12, cp_2, cp_3, cp_4, cp_5, cp_6, cp_7, cp_12, cp_20, cp_30, cp_38, cp_39, cp_40, bls_b, all_b, hall]
          (first | rw [Nx_eq] | rw [Arm_eq] | skip); (try simp_all only [ss_nil, Nx_nil, Arm_nil, sz_0, sz_1, sz_2, sz_3, sz_4, sz_5, sz_6, sz_7, sz_8, sz_9, sz_10, sz_11, sz_12, cp_2, cp_3, cp_4, cp_5, cp_6, cp_7, cp_12, cp_20, cp_30, cp_38, cp_39, cp_40])
          exact ⟨⟨rfl, by decide⟩, s, .rfl, by rw [fld_bv]; exact h⟩
      | ref _ => cases hb.1
      | scr _ => cases hb.1
      | _ =>
        simp_all only [ss_nil, Nx_nil, Arm_nil, sz_0, sz_1, sz_2, sz_3, sz_4, sz_5, sz_6, sz_7, sz_8, sz_9, sz_10, sz_11, sz_12, cp_2, cp_3, cp_4, cp_5, cp_6, cp_7, cp_12, cp_20, cp_30, cp_38, cp_39, cp_40, t1, t2, t3, t4, Bool.or_false]
        (first | rw [Nx_eq] | rw [Arm_eq] | skip); (try simp_all only [ss_nil, Nx_nil, Arm_nil, sz_0, sz_1, sz_2, sz_3, sz_4, sz_5, sz_6, sz_7, sz_8, sz_9, sz_10, sz_11, sz_12, cp_2, cp_3, cp_4, cp_5, cp_6, cp_7, cp_12, cp_20, cp_30, cp_38, cp_39, cp_40])
        exact ⟨⟨rfl, by decide⟩, s, .rfl, by rw [fld_bv]; exact h⟩
    · have nj := O.nj
      have e1 : ((8 : Int) < js.length) = False := eq_false (by omega)
      simp_all only [ss_nil, Nx_nil, Arm_nil, sz_0, sz_1, sz_2, sz_3, sz_4, sz_5, sz_6, sz_7, sz_8, sz_9, sz_10, sz_11, sz_12, cp_2, cp_3, cp_4, cp_5, cp_6, cp_7, cp_12, cp_20, cp_30, cp_38, cp_39, cp_40, str_ty, List.length_map, e1]
      refine lc_enc (fun _ => .bl true) js (fun τ1 st' Q q => by simp_all only [ss_nil, Nx_nil, Arm_nil, sz_0, sz_1, sz_2, sz_3, sz_4, sz_5, sz_6, sz_7, sz_8, sz_9, sz_10, sz_11, sz_12, cp_2, cp_3, cp_4, cp_5, cp_6, cp_7, cp_12, cp_20, cp_30, cp_38, cp_39, cp_40]; exact q) (fun p hp => ⟨_, rfl, fun st' sub K hk => ?_⟩) ?_
      · obtain ⟨a, b, c, _⟩ := O.jb p hp
        simp_all only [ss_nil, Nx_nil, Arm_nil, sz_0, sz_1, sz_2, sz_3, sz_4, sz_5, sz_6, sz_7, sz_8, sz_9, sz_10, sz_11, sz_12, cp_2, cp_3, cp_4, cp_5, cp_6, cp_7, cp_12, cp_20, cp_30, cp_38, cp_39, cp_40]
        exact callS_of ⟨rfl, by rw [job_t a b c]; exact hk⟩
      simp_all only [ss_nil, Nx_nil, Arm_nil, sz_0, sz_1, sz_2, sz_3, sz_4, sz_5, sz_6, sz_7, sz_8, sz_9, sz_10, sz_11, sz_12, cp_2, cp_3, cp_4, cp_5, cp_6, cp_7, cp_12, cp_20, cp_30, cp_38, cp_39, cp_40, bls_t, all_t]
      rcases h with ⟨rfl, h⟩ | ⟨hb, h⟩
      · have nl := O.nl
        have e2 : ((40 : Int) < ls.length) = False := eq_false (by omega)
        (first | rw [Nx_eq] | rw [Arm_eq] | skip); (try simp_all only [ss_nil, Nx_nil, Arm_nil, sz_0, sz_1, sz_2, sz_3, sz_4, sz_5, sz_6, sz_7, sz_8, sz_9, sz_10, sz_11, sz_12, cp_2, cp_3, cp_4, cp_5, cp_6, cp_7, cp_12, cp_20, cp_30, cp_38, cp_39, cp_40, str_ty, List.length_map, e2])
        (first | rw [Nx_eq] | rw [Arm_eq] | skip); (try simp_all only [ss_nil, Nx_nil, Arm_nil, sz_0, sz_1, sz_2, sz_3, sz_4, sz_5, sz_6, sz_7, sz_8, sz_9, sz_10, sz_11, sz_12, cp_2, cp_3, cp_4, cp_5, cp_6, cp_7, cp_12, cp_20, cp_30, cp_38, cp_39, cp_40, List.length_map])
        refine lc_enc (fun _ => .bl true) ls (fun τ1 st' Q q => by simp_all only [ss_nil, Nx_nil, Arm_nil, sz_0, sz_1, sz_2, sz_3, sz_4, sz_5, sz_6, sz_7, sz_8, sz_9, sz_10, sz_11, sz_12, cp_2, cp_3, cp_4, cp_5, cp_6, cp_7, cp_12, cp_20, cp_30, cp_38, cp_39, cp_40]; exact q) (fun p hp => ⟨_, rfl, fun st' sub K hk => ?_⟩) ?_
        · obtain ⟨a, b, c, d, _, e⟩ := O.lk p hp
          simp_all only [ss_nil, Nx_nil, Arm_nil, sz_0, sz_1, sz_2, sz_3, sz_4, sz_5, sz_6, sz_7, sz_8, sz_9, sz_10, sz_11, sz_12, cp_2, cp_3, cp_4, cp_5, cp_6, cp_7, cp_12, cp_20, cp_30, cp_38, cp_39, cp_40, List.length_map]
          refine ⟨CMul.ok (by unfold CMul; omega), ?_⟩
          refine callS_of ⟨?_, 2 * js.length + 1, by omega, by rw [link_t a b c d fun h hh => ⟨(e h hh).1, (e h hh).2.1⟩]; exact hk⟩
          show (noRef (.int p.x) && (noRef (.int p.y) && (noRef (.int p.low) && (noRef (oV p.high) && true)))) = true
          cases p.high <;> rfl
        simp_all only [ss_nil, Nx_nil, Arm_nil, sz_0, sz_1, sz_2, sz_3, sz_4, sz_5, sz_6, sz_7, sz_8, sz_9, sz_10, sz_11, sz_12, cp_2, cp_3, cp_4, cp_5, cp_6, cp_7, cp_12, cp_20, cp_30, cp_38, cp_39, cp_40, bls_t, all_t]
        exact ⟨s, .rfl, h⟩
      · have hb := Bool.and_eq_true_iff.mp hb
        cases l with
        | tup xs =>
          by_cases h40 : 40 < xs.length
          · have e2 : ((40 : Int) < xs.length) = True := eq_true (by omega)
            (first | rw [Nx_eq] | rw [Arm_eq] | skip); (try simp_all only [ss_nil, Nx_nil, Arm_nil, sz_0, sz_1, sz_2, sz_3, sz_4, sz_5, sz_6, sz_7, sz_8, sz_9, sz_10, sz_11, sz_12, cp_2, cp_3, cp_4, cp_5, cp_6, cp_7, cp_12, cp_20, cp_30, cp_38, cp_39, cp_40, str_ty, e2])
            (first | rw [Nx_eq] | rw [Arm_eq] | skip); (try simp_all only [ss_nil, Nx_nil, Arm_nil, sz_0, sz_1, sz_2, sz_3, sz_4, sz_5, sz_6, sz_7, sz_8, sz_9, sz_10, sz_11, sz_12, cp_2, cp_3, cp_4, cp_5, cp_6, cp_7, cp_12, cp_20, cp_30, cp_38, cp_39, cp_40])
            exact ⟨⟨rfl, by decide⟩, s, .rfl, by rw [fld_bv]; exact h⟩
          · have e2 : ((40 : Int) < xs.length) = False := eq_false (by omega)
            have hall : xs.all (linkB (2 * js.length + 1)) = false := by
              have : (!(decide (xs.length ≤ 40) && xs.all (linkB (2 * js.length + 1)))) = true := hb.2
              rw [decide_eq_true (show xs.length ≤ 40 by omega), Bool.true_and] at this
              simpa using this
            have hnr : ∀ v ∈ xs, nr1 v = true := fun v hv => List.all_eq_true.mp hb.1 v hv
            (first | rw [Nx_eq] | rw [Arm_eq] | skip); (try simp_all only [ss_nil, Nx_nil, Arm_nil, sz_0, sz_1, sz_2, sz_3, sz_4, sz_5, sz_6, sz_7, sz_8, sz_9, sz_10, sz_11, sz_12, cp_2, cp_3, cp_4, cp_5, cp_6, cp_7, cp_12, cp_20, cp_30, cp_38, cp_39, cp_40, str_ty, e2])
            (first | rw [Nx_eq] | rw [Arm_eq] | skip); (try simp_all only [ss_nil, Nx_nil, Arm_nil, sz_0, sz_1, sz_2, sz_3, sz_4, sz_5, sz_6, sz_7, sz_8, sz_9, sz_10, sz_11, sz_12, cp_2, cp_3, cp_4, cp_5, cp_6, cp_7, cp_12, cp_20, cp_30, cp_38, cp_39, cp_40])
            refine lc_map (fun v => .bl (linkB (2 * js.length + 1) v)) xs (fun τ1 st' Q q => by simp_all only [ss_nil, Nx_nil, Arm_nil, sz_0, sz_1, sz_2, sz_3, sz_4, sz_5, sz_6, sz_7, sz_8, sz_9, sz_10, sz_11, sz_12, cp_2, cp_3, cp_4, cp_5, cp_6, cp_7, cp_12, cp_20, cp_30, cp_38, cp_39, cp_40]; exact q) (fun v hv => ⟨_, rfl, fun st' sub K hk => ?_⟩) ?_
            · simp_all only [ss_nil, Nx_nil, Arm_nil, sz_0, sz_1, sz_2, sz_3, sz_4, sz_5, sz_6, sz_7, sz_8, sz_9, sz_10, sz_11, sz_12, cp_2, cp_3, cp_4, cp_5, cp_6, cp_7, cp_12, cp_20, cp_30, cp_38, cp_39, cp_40, List.length_map]
              refine ⟨CMul.ok (by unfold CMul; omega), ?_⟩
              exact callS_of ⟨hnr v hv, 2 * js.length + 1, by omega, hk⟩
            simp_all only [ss_nil, Nx_nil, Arm_nil, sz_0, sz_1, sz_2, sz_3, sz_4, sz_5, sz_6, sz_7, sz_8, sz_9, sz_10, sz_11, sz_12, cp_2, cp_3, cp_4, cp_5, cp_6, cp_7, cp_12, cp_20, cp_30, cp_38, cp_39, cp_40, bls_b, all_b, hall]
            (first | rw [Nx_eq] | rw [Arm_eq] | skip); (try simp_all only [ss_nil, Nx_nil, Arm_nil, sz_0, sz_1, sz_2, sz_3, sz_4, sz_5, sz_6, sz_7, sz_8, sz_9, sz_10, sz_11, sz_12, cp_2, cp_3, cp_4, cp_5, cp_6, cp_7, cp_12, cp_20, cp_30, cp_38, cp_39, cp_40])
            exact ⟨⟨rfl, by decide⟩, s, .rfl, by rw [fld_bv]; exact h⟩
        | ref _ => cases hb.1
        | scr _ => cases hb.1
        | _ =>
          (first | rw [Nx_eq] | rw [Arm_eq] | skip); (try simp_all only [ss_nil, Nx_nil, Arm_nil, sz_0, sz_1, sz_2, sz_3, sz_4, sz_5, sz_6, sz_7, sz_8, sz_9, sz_10, sz_11, sz_12, cp_2, cp_3, cp_4, cp_5, cp_6, cp_7, cp_12, cp_20, cp_30, cp_38, cp_39, cp_40, t1, t2, t3, t4, Bool.or_false])
          (first | rw [Nx_eq] | rw [Arm_eq] | skip); (try simp_all only [ss_nil, Nx_nil, Arm_nil, sz_0, sz_1, sz_2, sz_3, sz_4, sz_5, sz_6, sz_7, sz_8, sz_9, sz_10, sz_11, sz_12, cp_2, cp_3, cp_4, cp_5, cp_6, cp_7, cp_12, cp_20, cp_30, cp_38, cp_39, cp_40])
          first | exact ⟨⟨rfl, by decide⟩, s, .rfl, by rw [fld_bv]; exact h⟩ | ((first | rw [Nx_eq] | rw [Arm_eq] | skip); (try simp_all only [ss_nil, Nx_nil, Arm_nil, sz_0, sz_1, sz_2, sz_3, sz_4, sz_5, sz_6, sz_7, sz_8, sz_9, sz_10, sz_11, sz_12, cp_2, cp_3, cp_4, cp_5, cp_6, cp_7, cp_12, cp_20, cp_30, cp_38, cp_39, cp_40]); exact ⟨⟨rfl, by decide⟩, s, .rfl, by rw [fld_bv]; exact h⟩)
  · exact h.elim
def sp_link_forms : PSpec
  | [.tup ys], st, Q, _ => ∃ ls : List Lk, ys = ls.map lkV ∧ ls.length ≤ 40 ∧ Q (.lst ((ls.flatMap lkE).map foV)) st
  | _, _, _, _ => False
def b_link_forms_1 : Ss :=
  (.cons (.ite (.cmp .IsNot (.var 5) .non) (.cons (.expr (.meth .append (.var 1) (.cons (.tup (.cons (.var 3) (.cons (.var 2) (.cons (.call "at_most" sp_at_most (.cons (.var 5) .nil)) (.cons (.int 0) .nil))))) .nil))) .nil) .nil) (.cons (.expr (.meth .append (.var 1) (.cons (.tup (.cons (.var 2) (.cons (.var 3) (.cons (.call "at_most" sp_at_most (.cons (.neg (.var 4)) .nil)) (.cons (.int 0) .nil))))) .nil))) .nil))
def b_link_forms : Ss :=
  (.cons (.asg (.name 1) (.lst true .nil)) (.cons (.loop (.tup (.cons (.name 2) (.cons (.name 3) (.cons (.name 4) (.cons (.name 5) .nil))))) (.val (.var 0)) b_link_forms_1) (.cons (.ret (.fvar 1)) .nil)))
def n_link_forms : List Str := ["links", "told", "x", "y", "low", "high"]
theorem w_link_forms : ∀ vs s Q X, vs.length = 1 → sp_link_forms vs s Q X → wpFn n_link_forms.length b_link_forms vs s Q X := by
  intro vs s Q X hl h
  unfold sp_link_forms at h
  split at h
  · rw [fn_eq]
    unfold b_link_forms n_link_forms
    obtain ⟨ls, rfl, nl, h⟩ := h
    have sz : 1000 ≤ sizeLine := by decide
    simp_all only [ss_nil, Nx_nil, Arm_nil, sz_0, sz_1, sz_2, sz_3, sz_4, sz_5, sz_6, sz_7, sz_8, sz_9, sz_10, sz_11, sz_12, cp_2, cp_3, cp_4, cp_5, cp_6, cp_7, cp_12, cp_20, cp_30, cp_38, cp_39, cp_40]
    intro q hq
    (first | rw [Nx_eq] | rw [Arm_eq] | skip); (try simp_all only [ss_nil, Nx_nil, Arm_nil, sz_0, sz_1, sz_2, sz_3, sz_4, sz_5, sz_6, sz_7, sz_8, sz_9, sz_10, sz_11, sz_12, cp_2, cp_3, cp_4, cp_5, cp_6, cp_7, cp_12, cp_20, cp_30, cp_38, cp_39, cp_40])
    refine for_at (fun i τ st => ∃ (o2 o3 o4 o5 : Option PV), τ = [some (.tup (ls.map lkV)), some (.ref q), o2, o3, o4, o5] ∧ st = up s q (some (.lst (((ls.take i).flatMap lkE).map foV)))) ?_ ?_ ⟨_, _, _, _, rfl, rfl⟩
    · rintro i x τ st hi ⟨o2, o3, o4, o5, rfl, rfl⟩
      obtain ⟨l, rfl, hl'⟩ := get_map' hi
      have hil := (List.getElem?_eq_some_iff.mp hi).1
      rw [List.length_map] at hil
      have lv : lkV l = .tup [.int l.x, .int l.y, .int l.low, oV l.high] := rfl
      have ln : (((ls.take i).flatMap lkE).map foV).length ≤ 2 * 40 := by
        rw [List.length_map]
        have := lk_len (ls.take i)
        rw [List.length_take, Nat.min_eq_left (by omega)] at this
        omega
      have sn : ((ls.take (i + 1)).flatMap lkE).map foV = ((ls.take i).flatMap lkE).map foV ++ (lkE l).map foV := by
        rw [take_1 hl', List.flatMap_append, List.map_append]
        simp
      refine ⟨trivial, ?_⟩
      unfold b_link_forms_1
      rw [sn]
      generalize ((ls.take i).flatMap lkE).map foV = L at *
      cases hh : l.high with
      | none =>
        have le : (lkE l).map foV = [.tup [.int l.x, .int l.y, .int (2 * -l.low + 1), .int 0]] := by unfold lkE hiE; rw [hh]; rfl
        have on : oV none = .non := rfl
        rw [hh] at lv
        simp_all only [ss_nil, Nx_nil, Arm_nil, sz_0, sz_1, sz_2, sz_3, sz_4, sz_5, sz_6, sz_7, sz_8, sz_9, sz_10, sz_11, sz_12, cp_2, cp_3, cp_4, cp_5, cp_6, cp_7, cp_12, cp_20, cp_30, cp_38, cp_39, cp_40, lv, on, le]
        (first | rw [Nx_eq] | rw [Arm_eq] | skip); (try simp_all only [ss_nil, Nx_nil, Arm_nil, sz_0, sz_1, sz_2, sz_3, sz_4, sz_5, sz_6, sz_7, sz_8, sz_9, sz_10, sz_11, sz_12, cp_2, cp_3, cp_4, cp_5, cp_6, cp_7, cp_12, cp_20, cp_30, cp_38, cp_39, cp_40])
        refine callS_of ?_
        unfold sp_at_most
        simp_all only [ss_nil, Nx_nil, Arm_nil, sz_0, sz_1, sz_2, sz_3, sz_4, sz_5, sz_6, sz_7, sz_8, sz_9, sz_10, sz_11, sz_12, cp_2, cp_3, cp_4, cp_5, cp_6, cp_7, cp_12, cp_20, cp_30, cp_38, cp_39, cp_40, up_up]
        exact ⟨by omega, _, _, _, _, rfl⟩
      | some z =>
        have le : (lkE l).map foV = [.tup [.int l.y, .int l.x, .int (2 * z + 1), .int 0], .tup [.int l.x, .int l.y, .int (2 * -l.low + 1), .int 0]] := by unfold lkE hiE; rw [hh]; rfl
        have os : oV (some z) = .int z := rfl
        rw [hh] at lv
        simp_all only [ss_nil, Nx_nil, Arm_nil, sz_0, sz_1, sz_2, sz_3, sz_4, sz_5, sz_6, sz_7, sz_8, sz_9, sz_10, sz_11, sz_12, cp_2, cp_3, cp_4, cp_5, cp_6, cp_7, cp_12, cp_20, cp_30, cp_38, cp_39, cp_40, lv, os, le]
        (first | rw [Nx_eq] | rw [Arm_eq] | skip); (try simp_all only [ss_nil, Nx_nil, Arm_nil, sz_0, sz_1, sz_2, sz_3, sz_4, sz_5, sz_6, sz_7, sz_8, sz_9, sz_10, sz_11, sz_12, cp_2, cp_3, cp_4, cp_5, cp_6, cp_7, cp_12, cp_20, cp_30, cp_38, cp_39, cp_40])
        refine callS_of ?_
        unfold sp_at_most
        simp_all only [ss_nil, Nx_nil, Arm_nil, sz_0, sz_1, sz_2, sz_3, sz_4, sz_5, sz_6, sz_7, sz_8, sz_9, sz_10, sz_11, sz_12, cp_2, cp_3, cp_4, cp_5, cp_6, cp_7, cp_12, cp_20, cp_30, cp_38, cp_39, cp_40]
        refine ⟨by omega, ?_⟩
        (first | rw [Nx_eq] | rw [Arm_eq] | skip); (try simp_all only [ss_nil, Nx_nil, Arm_nil, sz_0, sz_1, sz_2, sz_3, sz_4, sz_5, sz_6, sz_7, sz_8, sz_9, sz_10, sz_11, sz_12, cp_2, cp_3, cp_4, cp_5, cp_6, cp_7, cp_12, cp_20, cp_30, cp_38, cp_39, cp_40])
        refine callS_of ?_
        simp_all only [ss_nil, Nx_nil, Arm_nil, sz_0, sz_1, sz_2, sz_3, sz_4, sz_5, sz_6, sz_7, sz_8, sz_9, sz_10, sz_11, sz_12, cp_2, cp_3, cp_4, cp_5, cp_6, cp_7, cp_12, cp_20, cp_30, cp_38, cp_39, cp_40, up_up, List.length_append]
        exact ⟨by first | omega | (simp; omega), _, _, _, _, rfl, by simp⟩
    · rintro τ st ⟨o2, o3, o4, o5, rfl, rfl⟩
      refine ⟨trivial, ?_⟩
      rw [List.length_map, List.take_length]
      simp_all only [ss_nil, Nx_nil, Arm_nil, sz_0, sz_1, sz_2, sz_3, sz_4, sz_5, sz_6, sz_7, sz_8, sz_9, sz_10, sz_11, sz_12, cp_2, cp_3, cp_4, cp_5, cp_6, cp_7, cp_12, cp_20, cp_30, cp_38, cp_39, cp_40]
      (first | rw [Nx_eq] | rw [Arm_eq] | skip); (try simp_all only [ss_nil, Nx_nil, Arm_nil, sz_0, sz_1, sz_2, sz_3, sz_4, sz_5, sz_6, sz_7, sz_8, sz_9, sz_10, sz_11, sz_12, cp_2, cp_3, cp_4, cp_5, cp_6, cp_7, cp_12, cp_20, cp_30, cp_38, cp_39, cp_40, up_up])
      rw [up_id hq]
      exact ⟨s, .rfl, h⟩
  · exact h.elim
def sp_made_job_system : PSpec
  | [.tup xs, .tup ys], st, Q, _ => ∃ (js : List (Int × Int)) (ls : List Lk), xs = js.map jobV ∧ ys = ls.map lkV ∧ js.length ≤ 8 ∧ ls.length ≤ 40 ∧ Q (.tup ((sysE js ls).map foV)) st
  | _, _, _, _ => False
def b_made_job_system_1 : Ss :=
  (.cons (.expr (.meth .append (.var 2) (.cons (.tup (.cons (.call "end_event" sp_end_event (.cons (.var 3) .nil)) (.cons (.call "begin_of" sp_begin_of (.cons (.var 3) .nil)) (.cons (.call "at_most" sp_at_most (.cons (.var 5) .nil)) (.cons (.int 0) .nil))))) .nil))) (.cons (.expr (.meth .append (.var 2) (.cons (.tup (.cons (.call "begin_of" sp_begin_of (.cons (.var 3) .nil)) (.cons (.call "end_event" sp_end_event (.cons (.var 3) .nil)) (.cons (.call "at_most" sp_at_most (.cons (.neg (.var 4)) .nil)) (.cons (.int 0) .nil))))) .nil))) (.cons (.expr (.meth .append (.var 2) (.cons (.tup (.cons (.int 0) (.cons (.call "begin_of" sp_begin_of (.cons (.var 3) .nil)) (.cons (.call "at_most" sp_at_most (.cons (.int 0) .nil)) (.cons (.int 0) .nil))))) .nil))) .nil)))
def b_made_job_system : Ss :=
  (.cons (.asg (.name 2) (.lst true .nil)) (.cons (.loop (.tup (.cons (.name 3) (.cons (.tup (.cons (.name 4) (.cons (.name 5) .nil))) .nil))) (.enum (.var 0)) b_made_job_system_1) (.cons (.ret (.blt .tuple false (.cons (.bin .Add false (.var 2) (.call "link_forms" sp_link_forms (.cons (.var 1) .nil))) .nil))) .nil)))
def n_made_job_system : List Str := ["jobs", "links", "told", "job", "least", "greatest"]
theorem get_en {l : List PV} : ∀ {k i : Nat} {v : PV}, (enumL k l)[i]? = some v → ∃ x, l[i]? = some x ∧ v = .tup [.int ((k + i : Nat) : Int), x] := by
  induction l with
  | nil => intro k i v h; simp [enumL] at h
  | cons x r ih =>
    intro k i v h
    cases i with
    | zero => have h : some (PV.tup [.int (k : Int), x]) = some v := h; cases h; exact ⟨x, rfl, rfl⟩
    | succ i =>
      obtain ⟨y, h1, h2⟩ := ih (k := k + 1) (i := i) (v := v) h
      exact ⟨y, h1, by rw [h2, show k + 1 + i = k + (i + 1) by omega]⟩
theorem en_len' {l : List PV} : ∀ {k : Nat}, (enumL k l).length = l.length := by
  induction l with
  | nil => intro k; rfl
  | cons x r ih => intro k; show (enumL (k + 1) r).length + 1 = r.length + 1; rw [ih]
theorem w_made_job_system : ∀ vs s Q X, vs.length = 2 → sp_made_job_system vs s Q X → wpFn n_made_job_system.length b_made_job_system vs s Q X := by
  intro vs s Q X hl h
  unfold sp_made_job_system at h
  split at h
  · rw [fn_eq]
    unfold b_made_job_system n_made_job_system
    obtain ⟨js, ls, rfl, rfl, nj, nl, h⟩ := h
    have sz : 1000 ≤ sizeLine := by decide
    simp_all only [ss_nil, Nx_nil, Arm_nil, sz_0, sz_1, sz_2, sz_3, sz_4, sz_5, sz_6, sz_7, sz_8, sz_9, sz_10, sz_11, sz_12, cp_2, cp_3, cp_4, cp_5, cp_6, cp_7, cp_12, cp_20, cp_30, cp_38, cp_39, cp_40]
    intro q hq
    (first | rw [Nx_eq] | rw [Arm_eq] | skip); (try simp_all only [ss_nil, Nx_nil, Arm_nil, sz_0, sz_1, sz_2, sz_3, sz_4, sz_5, sz_6, sz_7, sz_8, sz_9, sz_10, sz_11, sz_12, cp_2, cp_3, cp_4, cp_5, cp_6, cp_7, cp_12, cp_20, cp_30, cp_38, cp_39, cp_40])
    refine for_at (fun i τ st => ∃ (o3 o4 o5 : Option PV), τ = [some (.tup (js.map jobV)), some (.tup (ls.map lkV)), some (.ref q), o3, o4, o5] ∧ st = up s q (some (.lst ((jE 0 (js.take i)).map foV)))) ?_ ?_ ⟨_, _, _, rfl, rfl⟩
    · rintro i x τ st hi ⟨o3, o4, o5, rfl, rfl⟩
      obtain ⟨y, hy, rfl⟩ := get_en hi
      obtain ⟨p, rfl, e1⟩ := get_map' hy
      have hil := (List.getElem?_eq_some_iff.mp e1).1
      rw [Nat.zero_add]
      have jv : jobV p = .tup [.int p.1, .int p.2] := rfl
      have ln : ((jE 0 (js.take i)).map foV).length = 3 * i := by rw [List.length_map, jE_len, List.length_take, Nat.min_eq_left (by omega)]
      have sn : (jE 0 (js.take (i + 1))).map foV = (jE 0 (js.take i)).map foV ++ [.tup [.int (2 * i + 2), .int (2 * i + 1), .int (2 * p.2 + 1), .int 0], .tup [.int (2 * i + 1), .int (2 * i + 2), .int (2 * -p.1 + 1), .int 0], .tup [.int 0, .int (2 * i + 1), .int (2 * 0 + 1), .int 0]] := by
        rw [take_1 e1, jE_snoc, List.map_append, List.length_take, Nat.min_eq_left (by omega), Nat.zero_add]
        rfl
      refine ⟨trivial, ?_⟩
      unfold b_made_job_system_1
      rw [sn]
      generalize (jE 0 (js.take i)).map foV = L at *
      simp_all only [ss_nil, Nx_nil, Arm_nil, sz_0, sz_1, sz_2, sz_3, sz_4, sz_5, sz_6, sz_7, sz_8, sz_9, sz_10, sz_11, sz_12, cp_2, cp_3, cp_4, cp_5, cp_6, cp_7, cp_12, cp_20, cp_30, cp_38, cp_39, cp_40, jv]
      refine callS_of ?_
      unfold sp_end_event
      simp_all only [ss_nil, Nx_nil, Arm_nil, sz_0, sz_1, sz_2, sz_3, sz_4, sz_5, sz_6, sz_7, sz_8, sz_9, sz_10, sz_11, sz_12, cp_2, cp_3, cp_4, cp_5, cp_6, cp_7, cp_12, cp_20, cp_30, cp_38, cp_39, cp_40]
      refine callS_of ?_
      unfold sp_begin_of
      simp_all only [ss_nil, Nx_nil, Arm_nil, sz_0, sz_1, sz_2, sz_3, sz_4, sz_5, sz_6, sz_7, sz_8, sz_9, sz_10, sz_11, sz_12, cp_2, cp_3, cp_4, cp_5, cp_6, cp_7, cp_12, cp_20, cp_30, cp_38, cp_39, cp_40]
      refine callS_of ?_
      unfold sp_at_most
      simp_all only [ss_nil, Nx_nil, Arm_nil, sz_0, sz_1, sz_2, sz_3, sz_4, sz_5, sz_6, sz_7, sz_8, sz_9, sz_10, sz_11, sz_12, cp_2, cp_3, cp_4, cp_5, cp_6, cp_7, cp_12, cp_20, cp_30, cp_38, cp_39, cp_40]
      refine ⟨by omega, ?_⟩
      (first | rw [Nx_eq] | rw [Arm_eq] | skip); (try simp_all only [ss_nil, Nx_nil, Arm_nil, sz_0, sz_1, sz_2, sz_3, sz_4, sz_5, sz_6, sz_7, sz_8, sz_9, sz_10, sz_11, sz_12, cp_2, cp_3, cp_4, cp_5, cp_6, cp_7, cp_12, cp_20, cp_30, cp_38, cp_39, cp_40])
      refine callS_of ?_
      simp_all only [ss_nil, Nx_nil, Arm_nil, sz_0, sz_1, sz_2, sz_3, sz_4, sz_5, sz_6, sz_7, sz_8, sz_9, sz_10, sz_11, sz_12, cp_2, cp_3, cp_4, cp_5, cp_6, cp_7, cp_12, cp_20, cp_30, cp_38, cp_39, cp_40]
      refine callS_of ?_
      simp_all only [ss_nil, Nx_nil, Arm_nil, sz_0, sz_1, sz_2, sz_3, sz_4, sz_5, sz_6, sz_7, sz_8, sz_9, sz_10, sz_11, sz_12, cp_2, cp_3, cp_4, cp_5, cp_6, cp_7, cp_12, cp_20, cp_30, cp_38, cp_39, cp_40]
      refine callS_of ?_
      simp_all only [ss_nil, Nx_nil, Arm_nil, sz_0, sz_1, sz_2, sz_3, sz_4, sz_5, sz_6, sz_7, sz_8, sz_9, sz_10, sz_11, sz_12, cp_2, cp_3, cp_4, cp_5, cp_6, cp_7, cp_12, cp_20, cp_30, cp_38, cp_39, cp_40, up_up, List.length_append]
      refine ⟨by first | omega | (simp; omega), ?_⟩
      (first | rw [Nx_eq] | rw [Arm_eq] | skip); (try simp_all only [ss_nil, Nx_nil, Arm_nil, sz_0, sz_1, sz_2, sz_3, sz_4, sz_5, sz_6, sz_7, sz_8, sz_9, sz_10, sz_11, sz_12, cp_2, cp_3, cp_4, cp_5, cp_6, cp_7, cp_12, cp_20, cp_30, cp_38, cp_39, cp_40])
      refine callS_of ?_
      simp_all only [ss_nil, Nx_nil, Arm_nil, sz_0, sz_1, sz_2, sz_3, sz_4, sz_5, sz_6, sz_7, sz_8, sz_9, sz_10, sz_11, sz_12, cp_2, cp_3, cp_4, cp_5, cp_6, cp_7, cp_12, cp_20, cp_30, cp_38, cp_39, cp_40]
      refine callS_of ?_
      simp_all only [ss_nil, Nx_nil, Arm_nil, sz_0, sz_1, sz_2, sz_3, sz_4, sz_5, sz_6, sz_7, sz_8, sz_9, sz_10, sz_11, sz_12, cp_2, cp_3, cp_4, cp_5, cp_6, cp_7, cp_12, cp_20, cp_30, cp_38, cp_39, cp_40, up_up, List.length_append]
      exact ⟨by first | omega | (simp; omega), _, _, _, rfl, by simp⟩
    · rintro τ st ⟨o3, o4, o5, rfl, rfl⟩
      refine ⟨trivial, ?_⟩
      rw [en_len', List.length_map, List.take_length]
      simp_all only [ss_nil, Nx_nil, Arm_nil, sz_0, sz_1, sz_2, sz_3, sz_4, sz_5, sz_6, sz_7, sz_8, sz_9, sz_10, sz_11, sz_12, cp_2, cp_3, cp_4, cp_5, cp_6, cp_7, cp_12, cp_20, cp_30, cp_38, cp_39, cp_40]
      (first | rw [Nx_eq] | rw [Arm_eq] | skip); (try simp_all only [ss_nil, Nx_nil, Arm_nil, sz_0, sz_1, sz_2, sz_3, sz_4, sz_5, sz_6, sz_7, sz_8, sz_9, sz_10, sz_11, sz_12, cp_2, cp_3, cp_4, cp_5, cp_6, cp_7, cp_12, cp_20, cp_30, cp_38, cp_39, cp_40])
      refine callS_of ⟨ls, rfl, nl, ?_⟩
      have l1 : ((jE 0 js).map foV).length ≤ 24 := by rw [List.length_map, jE_len]; omega
      have l2 : ((ls.flatMap lkE).map foV).length ≤ 80 := by rw [List.length_map]; have := lk_len ls; omega
      have e : (jE 0 js).map foV ++ (ls.flatMap lkE).map foV = (sysE js ls).map foV := by unfold sysE; rw [List.map_append]
      simp_all only [ss_nil, Nx_nil, Arm_nil, sz_0, sz_1, sz_2, sz_3, sz_4, sz_5, sz_6, sz_7, sz_8, sz_9, sz_10, sz_11, sz_12, cp_2, cp_3, cp_4, cp_5, cp_6, cp_7, cp_12, cp_20, cp_30, cp_38, cp_39, cp_40, e]
      exact ⟨by omega, s, sub_new hq, h⟩
  · exact h.elim
def sp_whole_weights : PSpec
  | [.tup xs], st, Q, _ => ∃ es : List Ed, xs = es.map foV ∧ Q (.lst (es.map edV)) st
  | _, _, _, _ => False
def b_whole_weights : Ss :=
  (.cons (.ret (.comp false [1] (.name 1) (.val (.var 0)) .nil (.tup (.cons (.idx (.var 1) (.int 0)) (.cons (.idx (.var 1) (.int 1)) (.cons (.bin .FloorDiv false (.idx (.var 1) (.int 2)) (.int 2)) .nil)))))) .nil)
def n_whole_weights : List Str := ["forms", "form"]
theorem w_whole_weights : ∀ vs s Q X, vs.length = 1 → sp_whole_weights vs s Q X → wpFn n_whole_weights.length b_whole_weights vs s Q X := by
  intro vs s Q X hl h
  unfold sp_whole_weights at h
  split at h
  · rw [fn_eq]
    unfold b_whole_weights n_whole_weights
    obtain ⟨es, rfl, h⟩ := h
    simp_all only [ss_nil, Nx_nil, Arm_nil, sz_0, sz_1, sz_2, sz_3, sz_4, sz_5, sz_6, sz_7, sz_8, sz_9, sz_10, sz_11, sz_12, cp_2, cp_3, cp_4, cp_5, cp_6, cp_7, cp_12, cp_20, cp_30, cp_38, cp_39, cp_40]
    refine lc_enc edV es (fun τ1 st' Q q => by simp_all only [ss_nil, Nx_nil, Arm_nil, sz_0, sz_1, sz_2, sz_3, sz_4, sz_5, sz_6, sz_7, sz_8, sz_9, sz_10, sz_11, sz_12, cp_2, cp_3, cp_4, cp_5, cp_6, cp_7, cp_12, cp_20, cp_30, cp_38, cp_39, cp_40]; exact q) (fun e he => ⟨_, rfl, fun st' sub K hk => ?_⟩) ?_
    · have fv : foV e = .tup [.int e.i, .int e.j, .int (2 * e.w + 1), .int 0] := rfl
      have ew : (2 * e.w + 1).fdiv 2 = e.w := by rw [Int.fdiv_eq_ediv_of_nonneg _ (by decide)]; omega
      simp_all only [ss_nil, Nx_nil, Arm_nil, sz_0, sz_1, sz_2, sz_3, sz_4, sz_5, sz_6, sz_7, sz_8, sz_9, sz_10, sz_11, sz_12, cp_2, cp_3, cp_4, cp_5, cp_6, cp_7, cp_12, cp_20, cp_30, cp_38, cp_39, cp_40, fv, ew]
      exact ⟨(Sm.of (by decide)).div (by decide), hk⟩
    simp_all only [ss_nil, Nx_nil, Arm_nil, sz_0, sz_1, sz_2, sz_3, sz_4, sz_5, sz_6, sz_7, sz_8, sz_9, sz_10, sz_11, sz_12, cp_2, cp_3, cp_4, cp_5, cp_6, cp_7, cp_12, cp_20, cp_30, cp_38, cp_39, cp_40]
    exact ⟨s, .rfl, h⟩
  · exact h.elim
def sp_lowest_hours : PSpec
  | [.int n, .tup xs], st, Q, _ => ∃ (m : Nat) (es : List Ed), n = m ∧ 0 < m ∧ m ≤ 1000 ∧ xs = es.map foV ∧ InR m es ∧ Q (ansV oV PV.tup (bf es (m + 1) (start m))) st
  | _, _, _, _ => False
def b_lowest_hours : Ss :=
  (.cons (.ret (.call "lowest" sp_lowest (.cons (.var 0) (.cons (.call "whole_weights" sp_whole_weights (.cons (.var 1) .nil)) .nil)))) .nil)
def n_lowest_hours : List Str := ["size", "forms"]
theorem w_lowest_hours : ∀ vs s Q X, vs.length = 2 → sp_lowest_hours vs s Q X → wpFn n_lowest_hours.length b_lowest_hours vs s Q X := by
  intro vs s Q X hl h
  unfold sp_lowest_hours at h
  split at h
  · rw [fn_eq]
    unfold b_lowest_hours n_lowest_hours
    obtain ⟨m, es, rfl, m0, m1, rfl, hin, h⟩ := h
    simp_all only [ss_nil, Nx_nil, Arm_nil, sz_0, sz_1, sz_2, sz_3, sz_4, sz_5, sz_6, sz_7, sz_8, sz_9, sz_10, sz_11, sz_12, cp_2, cp_3, cp_4, cp_5, cp_6, cp_7, cp_12, cp_20, cp_30, cp_38, cp_39, cp_40]
    refine callS_of ⟨es, rfl, ?_⟩
    simp_all only [ss_nil, Nx_nil, Arm_nil, sz_0, sz_1, sz_2, sz_3, sz_4, sz_5, sz_6, sz_7, sz_8, sz_9, sz_10, sz_11, sz_12, cp_2, cp_3, cp_4, cp_5, cp_6, cp_7, cp_12, cp_20, cp_30, cp_38, cp_39, cp_40]
    exact callS_of ⟨m, es, rfl, m0, m1, rfl, hin, s, .rfl, h⟩
  · exact h.elim
def early (js : List (Int × Int)) (ls : List Lk) : Option Vl := bf (sysE js ls) (2 * js.length + 1 + 1) (start (2 * js.length + 1))
def late (js : List (Int × Int)) (ls : List Lk) (d : Int) : Option Vl := bf ((sysE js ls).map fl) (2 * js.length + 1 + 1) (stL (2 * js.length + 1) d)
def sp_hours_of : PSpec
  | [j, l], st, Q, X => (badJ j = true ∧ X (errW "jobs") st) ∨ ∃ (W : Int) (js : List (Int × Int)) (ls : List Lk), j = .tup (js.map jobV) ∧ WOk W js ls ∧ ((l = .tup (ls.map lkV) ∧ Q (ansV oV PV.tup (early js ls)) st) ∨ (badL (2 * js.length + 1) l = true ∧ X (errW "links") st))
  | _, _, _, _ => False
def b_hours_of : Ss :=
  (.cons (.expr (.call "check_jobs" sp_check_jobs (.cons (.var 0) (.cons (.var 1) .nil)))) (.cons (.ret (.call "lowest_hours" sp_lowest_hours (.cons (.bin .Add false (.bin .Mult false (.int 2) (.blt .len false (.cons (.var 0) .nil))) (.int 1)) (.cons (.call "made_job_system" sp_made_job_system (.cons (.var 0) (.cons (.var 1) .nil))) .nil)))) .nil))
def n_hours_of : List Str := ["jobs", "links"]
theorem w_hours_of : ∀ vs s Q X, vs.length = 2 → sp_hours_of vs s Q X → wpFn n_hours_of.length b_hours_of vs s Q X := by
  intro vs s Q X hl h
  unfold sp_hours_of at h
  split at h
  · rw [fn_eq]
    unfold b_hours_of n_hours_of
    rcases h with ⟨hb, h⟩ | ⟨W, js, ls, rfl, O, ⟨rfl, h⟩ | ⟨hb, h⟩⟩
    · simp_all only [ss_nil, Nx_nil, Arm_nil, sz_0, sz_1, sz_2, sz_3, sz_4, sz_5, sz_6, sz_7, sz_8, sz_9, sz_10, sz_11, sz_12, cp_2, cp_3, cp_4, cp_5, cp_6, cp_7, cp_12, cp_20, cp_30, cp_38, cp_39, cp_40]
      exact callS_of (.inl ⟨hb, kex_fn h⟩)
    · have nj := O.nj
      simp_all only [ss_nil, Nx_nil, Arm_nil, sz_0, sz_1, sz_2, sz_3, sz_4, sz_5, sz_6, sz_7, sz_8, sz_9, sz_10, sz_11, sz_12, cp_2, cp_3, cp_4, cp_5, cp_6, cp_7, cp_12, cp_20, cp_30, cp_38, cp_39, cp_40]
      refine callS_of (.inr ⟨W, js, ls, rfl, O, .inl ⟨rfl, ?_⟩⟩)
      simp_all only [ss_nil, Nx_nil, Arm_nil, sz_0, sz_1, sz_2, sz_3, sz_4, sz_5, sz_6, sz_7, sz_8, sz_9, sz_10, sz_11, sz_12, cp_2, cp_3, cp_4, cp_5, cp_6, cp_7, cp_12, cp_20, cp_30, cp_38, cp_39, cp_40]
      (first | rw [Nx_eq] | rw [Arm_eq] | skip); (try simp_all only [ss_nil, Nx_nil, Arm_nil, sz_0, sz_1, sz_2, sz_3, sz_4, sz_5, sz_6, sz_7, sz_8, sz_9, sz_10, sz_11, sz_12, cp_2, cp_3, cp_4, cp_5, cp_6, cp_7, cp_12, cp_20, cp_30, cp_38, cp_39, cp_40, List.length_map])
      refine ⟨CMul.ok (by unfold CMul; omega), callS_of ⟨js, ls, rfl, rfl, O.nj, O.nl, ?_⟩⟩
      simp_all only [ss_nil, Nx_nil, Arm_nil, sz_0, sz_1, sz_2, sz_3, sz_4, sz_5, sz_6, sz_7, sz_8, sz_9, sz_10, sz_11, sz_12, cp_2, cp_3, cp_4, cp_5, cp_6, cp_7, cp_12, cp_20, cp_30, cp_38, cp_39, cp_40]
      exact callS_of ⟨2 * js.length + 1, sysE js ls, by omega, by omega, by omega, rfl, (sys_in O).1, s, .rfl, h⟩
    · simp_all only [ss_nil, Nx_nil, Arm_nil, sz_0, sz_1, sz_2, sz_3, sz_4, sz_5, sz_6, sz_7, sz_8, sz_9, sz_10, sz_11, sz_12, cp_2, cp_3, cp_4, cp_5, cp_6, cp_7, cp_12, cp_20, cp_30, cp_38, cp_39, cp_40]
      exact callS_of (.inr ⟨W, js, ls, rfl, O, .inr ⟨hb, kex_fn h⟩⟩)
  · exact h.elim
end TK

set_option maxRecDepth 100000
set_option maxHeartbeats 4000000
namespace TK
open PySem PySem.Spec PyProof.Rows L2
/-! ### earliest and latest hours -/
section
variable {W : Int} {js : List (Int × Int)} {ls : List Lk} {d : Int}
theorem some_list {v : Vl} {n : Nat} (hl : v.length = n) (h : ∀ k, k < n → ∃ a, vg v k = some a) : v = (v.map fun x => x.getD 0).map some := by
  rw [List.map_map]
  refine List.ext_getElem (by simp) fun i h1 h2 => ?_
  obtain ⟨a, ha⟩ := h i (by omega)
  unfold vg at ha
  rw [List.getElem?_eq_getElem h1] at ha
  have ha : v[i] = some a := ha
  simp [ha]
theorem some_inj {hs hs' : List Int} (h : hs.map some = hs'.map some) : hs = hs' := by
  have := congrArg (List.map fun x : Option Int => x.getD 0) h
  simpa [List.map_map, Function.comp_def] using this
theorem nV_ints {ws : List Int} : (ws.map fun h => some (-h)).map nV = ws.map PV.int := by
  rw [List.map_map]
  refine List.map_congr_left fun x _ => ?_
  show PV.int (- -x) = .int x
  rw [Int.neg_neg]
theorem vg_ints {hs : List Int} {k : Nat} : vg (hs.map some) k = hs[k]? := by
  unfold vg
  rw [List.getElem?_map]
  cases hs[k]? <;> rfl
theorem early_some (O : WOk W js ls) {r : Vl} (h : early js ls = some r) : ∃ hs : List Int, r = hs.map some ∧ hs.length = 2 * js.length + 1 ∧ Sol (sysE js ls) (fun k => hs[k]?) ∧ hs[0]? = some 0 ∧ (∀ x ∈ hs, 0 ≤ x) ∧
    (∀ q, Sol (sysE js ls) q → q 0 = some 0 → ∀ k, leO hs[k]? (q k)) ∧ ∀ x ∈ hs, x ≤ (2 * js.length + 2 : Nat) * ((3 * js.length + 2 * ls.length : Nat) * W) := by
  have l1 : (start (2 * js.length + 1)).length = 2 * js.length + 1 := start_len (by omega)
  obtain ⟨i1, i2⟩ := sys_in O
  have hin : InR (start (2 * js.length + 1)).length (sysE js ls) := by rw [l1]; exact i1
  have L := bf_least _ hin h
  have z := L.zero vg_0
  have all := all_hours O L.sol z
  have e := some_list (v := r) (by rw [L.len, l1]) fun k hk => let ⟨a, h, _⟩ := all k hk; ⟨a, h⟩
  have und := bf_und O.w0 i2 _ hin (B := 0) (fun k a e => by
    unfold start at e
    cases k with
    | zero => rw [vg_0] at e; cases e; exact Int.le_refl _
    | succ k => rw [vg_s, vg_rep] at e; split at e <;> cases e) h
  refine ⟨r.map fun x => x.getD 0, e, by rw [List.length_map, L.len, l1], ?_⟩
  have eq : ∀ k, (r.map fun x => x.getD 0)[k]? = vg r k := fun k => by rw [← vg_ints, ← e]
  have ef : (fun k => (r.map fun x => x.getD 0)[k]?) = vg r := by funext k; exact eq k
  rw [ef, eq]
  refine ⟨L.sol, z, fun x hx => ?_, fun q hq hq0 k => by rw [eq]; exact L.le q hq (start_le hq0) k, fun x hx => ?_⟩
  · obtain ⟨k, hk, e2⟩ := List.getElem_of_mem hx
    have e3 := eq k
    rw [List.getElem?_eq_getElem hk, e2] at e3
    rw [List.length_map, L.len, l1] at hk
    obtain ⟨a, ha, h0⟩ := all k hk
    rw [ha] at e3; cases e3; exact h0
  · obtain ⟨k, hk, e2⟩ := List.getElem_of_mem hx
    have e3 := eq k
    rw [List.getElem?_eq_getElem hk, e2] at e3
    have := und k x e3.symm
    have p : ((sysE js ls).length : Int) * W ≤ ((3 * js.length + 2 * ls.length : Nat) : Int) * W := Int.mul_le_mul_of_nonneg_right (by have := sys_len (js := js) (ls := ls); omega) O.w0
    have p2 := Int.mul_le_mul_of_nonneg_left p (show (0 : Int) ≤ ((2 * js.length + 2 : Nat) : Int) by omega)
    rw [show 2 * js.length + 1 + 1 = 2 * js.length + 2 by omega] at this
    omega
theorem late_some (O : WOk W js ls) {u : Vl} (h : late js ls d = some u) : ∃ ws : List Int, u = ws.map (fun h => some (-h)) ∧ ws.length = 2 * js.length + 1 ∧ Sol (sysE js ls) (fun k => ws[k]?) ∧ ws[0]? = some 0 ∧ ∀ k w, 0 < k → ws[k]? = some w → w ≤ d := by
  obtain ⟨s1, s2, s3, s4, s5⟩ := lat_plan (by omega) (sys_in O).1 h
  have e := some_list s3 s4
  have e1 : u = (u.map fun x => -(x.getD 0)).map fun h => some (-h) := by
    conv => lhs; rw [e]
    rw [List.map_map, List.map_map]
    refine List.map_congr_left fun x _ => ?_
    show some (x.getD 0) = some (- -(x.getD 0))
    rw [Int.neg_neg]
  have eq : ∀ k, (u.map fun x => -(x.getD 0))[k]? = (vg u k).map fun a => -a := fun k => by
    rw [List.getElem?_map]
    by_cases hk : k < u.length
    · obtain ⟨a, ha⟩ := s4 k (by omega)
      rw [ha]
      unfold vg at ha
      rw [List.getElem?_eq_getElem hk] at ha ⊢
      have ha : u[k] = some a := ha
      show some (-(u[k].getD 0)) = some (-a)
      rw [ha]; rfl
    · rw [vg_out (by omega), List.getElem?_eq_none (by omega)]; rfl
  refine ⟨u.map fun x => -(x.getD 0), e1, by rw [List.length_map, s3], ?_, by rw [eq]; exact s2, fun k w hk hw => ?_⟩
  · have : (fun k => (u.map fun x => -(x.getD 0))[k]?) = fun k => (vg u k).map fun a => -a := by funext k; exact eq k
    rw [this]; exact s1
  · rw [eq] at hw
    have hkl : k < u.length := by
      rcases Nat.lt_or_ge k u.length with h | h
      · exact h
      · rw [vg_out h] at hw; cases hw
    obtain ⟨a, ha, h⟩ := s5 k hk (by omega)
    rw [ha] at hw; cases hw
    show -a ≤ d
    omega
theorem late_none (O : WOk W js ls) (h : early js ls = none) : late js ls d = none := by
  cases e : late js ls d with
  | none => rfl
  | some u =>
    obtain ⟨ws, _, _, h1, h2, _⟩ := late_some O e
    obtain ⟨r, hr⟩ := bf_some (v := start (2 * js.length + 1)) (m := 2 * js.length + 1 + 1) (by rw [start_len (by omega)]; exact (sys_in O).1) vg_0 h1 (start_le h2) h2 (by rw [start_len (by omega)]; omega)
    unfold early at h
    rw [h] at hr; cases hr
/-- a plan is over by d exactly if d is no less than the least end -/
theorem late_iff (O : WOk W js ls) {hs : List Int} (h : early js ls = some (hs.map some)) (hd : 0 ≤ d) :
    (maxL hs ≤ d → ∃ ws : List Int, late js ls d = some (ws.map fun h => some (-h)) ∧ ws.length = 2 * js.length + 1 ∧ ∀ w ∈ ws, 0 ≤ w ∧ w ≤ d) ∧ (d < maxL hs → late js ls d = none) := by
  obtain ⟨hs', e, hl, s1, s2, s3, s4, _⟩ := early_some O h
  have e := some_inj e
  subst e
  have hne : hs ≠ [] := fun z => by rw [z] at hl; simp at hl
  refine ⟨fun hm => ?_, fun hm => ?_⟩
  · obtain ⟨u, hu, hb⟩ := lat_some (d := d) (es := sysE js ls) (n := 2 * js.length + 1) (by omega) (sys_in O).1 s1 s2 fun k hk => by
      have e1 : hs[k]? = some (hs[k]'(by omega)) := List.getElem?_eq_getElem (by omega)
      exact ⟨_, e1, Int.le_trans (maxL_ge _ (List.getElem_mem _)) hm⟩
    have hu : late js ls d = some u := hu
    obtain ⟨ws, rfl, h2, h3, h4, h5⟩ := late_some O hu
    refine ⟨ws, hu, h2, fun w hw => ?_⟩
    obtain ⟨k, hk, e2⟩ := List.getElem_of_mem hw
    have ew : ws[k]? = some w := by rw [List.getElem?_eq_getElem hk, e2]
    obtain ⟨a, b, ha, hb, hab⟩ := hb k (by omega)
    have : vg (ws.map fun h => some (-h)) k = some (-w) := by
      unfold vg
      rw [List.getElem?_map, ew]; rfl
    rw [this] at ha
    cases ha
    have hb0 := s3 b (List.mem_of_getElem? hb)
    refine ⟨by omega, ?_⟩
    cases k with
    | zero => rw [h4] at ew; cases ew; exact hd
    | succ k => exact h5 _ _ (Nat.succ_pos _) ew
  · cases e : late js ls d with
    | none => rfl
    | some u =>
      obtain ⟨ws, _, h2, h3, h4, h5⟩ := late_some O e
      have le := s4 _ h3 h4
      obtain ⟨k, hk, e2⟩ := List.getElem_of_mem (maxL_mem hne)
      have := le k
      rw [List.getElem?_eq_getElem hk, e2] at this
      obtain ⟨c, hc, hmc⟩ := this.get
      have : c ≤ d := by
        cases k with
        | zero => rw [h4] at hc; cases hc; exact hd
        | succ k => exact h5 _ _ (Nat.succ_pos _) hc
      omega
end
theorem ints_show {bs : List Int} (h : ∀ b ∈ bs, 0 ≤ b ∧ b ≤ 10 ^ 6) (hl : bs.length ≤ 1000) : ShowOk (.tup (bs.map PV.int)) := by
  have key : ∀ {bs : List Int}, (∀ b ∈ bs, 0 ≤ b ∧ b ≤ 10 ^ 6) → shOks 59 (bs.map PV.int) ∧ wgts (bs.map PV.int) = 573 * bs.length := by
    intro bs
    induction bs with
    | nil => intro _; exact ⟨by unfold List.map shOks; trivial, rfl⟩
    | cons x r ih =>
      intro h
      obtain ⟨a, b⟩ := ih fun y hy => h y (List.mem_cons_of_mem _ hy)
      have hx := h x List.mem_cons_self
      refine ⟨?_, ?_⟩
      · rw [List.map_cons]
        unfold shOks
        refine ⟨?_, a⟩
        unfold shOk Pn
        exact Nat.lt_of_le_of_lt (show x.natAbs ≤ 10 ^ 6 by omega) (show (10 : Nat) ^ 6 < 10 ^ 570 by decide)
      · rw [List.map_cons, List.length_cons]
        show 571 + 2 + wgts _ = _
        rw [b]; omega
  obtain ⟨a, b⟩ := key h
  refine showOk_of ?_ ?_
  · unfold shOk
    exact ⟨by decide, a⟩
  · show wgts (bs.map PV.int) + 3 ≤ _
    rw [b]
    have sz : 2000000 ≤ sizeLine := by decide
    omega
theorem ints_of : ∀ ns : List Int, intsOf (ns.map PV.int) = some ns
  | [] => rfl
  | x :: r => by
    show (intsOf (r.map PV.int)).map (x :: ·) = _
    rw [ints_of r]; rfl
def sp_least_end : PSpec
  | [.tup xs, .tup ys], st, Q, _ => ∃ (W : Int) (js : List (Int × Int)) (ls : List Lk), xs = js.map jobV ∧ ys = ls.map lkV ∧ WOk W js ls ∧ (early js ls = none → Q .non st) ∧ ∀ hs : List Int, early js ls = some (hs.map some) → Q (.int (maxL hs)) st
  | _, _, _, _ => False
def b_least_end : Ss :=
  (.cons (.asg (.name 2) (.call "hours_of" sp_hours_of (.cons (.var 0) (.cons (.var 1) .nil)))) (.cons (.ite (.cmp .Is (.var 2) .non) (.cons (.ret .non) .nil) .nil) (.cons (.ret (.blt .max false (.cons (.var 2) .nil))) .nil)))
def n_least_end : List Str := ["jobs", "links", "hours"]
theorem w_least_end : ∀ vs s Q X, vs.length = 2 → sp_least_end vs s Q X → wpFn n_least_end.length b_least_end vs s Q X := by
  intro vs s Q X hl h
  unfold sp_least_end at h
  split at h
  · rw [fn_eq]
    unfold b_least_end n_least_end
    obtain ⟨W, js, ls, rfl, rfl, O, h1, h2⟩ := h
    simp_all only [ss_nil, Nx_nil, Arm_nil, sz_0, sz_1, sz_2, sz_3, sz_4, sz_5, sz_6, sz_7, sz_8, sz_9, sz_10, sz_11, sz_12, cp_2, cp_3, cp_4, cp_5, cp_6, cp_7, cp_12, cp_20, cp_30, cp_38, cp_39, cp_40]
    refine callS_of (.inr ⟨W, js, ls, rfl, O, .inl ⟨rfl, ?_⟩⟩)
    cases e : early js ls with
    | none =>
      have ea : ansV oV PV.tup none = .non := rfl
      have q := h1 e
      clear h1 h2
      simp_all only [ss_nil, Nx_nil, Arm_nil, sz_0, sz_1, sz_2, sz_3, sz_4, sz_5, sz_6, sz_7, sz_8, sz_9, sz_10, sz_11, sz_12, cp_2, cp_3, cp_4, cp_5, cp_6, cp_7, cp_12, cp_20, cp_30, cp_38, cp_39, cp_40, ea]
      (first | rw [Nx_eq] | rw [Arm_eq] | skip); (try simp_all only [ss_nil, Nx_nil, Arm_nil, sz_0, sz_1, sz_2, sz_3, sz_4, sz_5, sz_6, sz_7, sz_8, sz_9, sz_10, sz_11, sz_12, cp_2, cp_3, cp_4, cp_5, cp_6, cp_7, cp_12, cp_20, cp_30, cp_38, cp_39, cp_40])
      (first | rw [Nx_eq] | rw [Arm_eq] | skip); (try simp_all only [ss_nil, Nx_nil, Arm_nil, sz_0, sz_1, sz_2, sz_3, sz_4, sz_5, sz_6, sz_7, sz_8, sz_9, sz_10, sz_11, sz_12, cp_2, cp_3, cp_4, cp_5, cp_6, cp_7, cp_12, cp_20, cp_30, cp_38, cp_39, cp_40])
      exact ⟨s, .rfl, q⟩
    | some r =>
      obtain ⟨hs, rfl, hlen, _⟩ := early_some O e
      have ea : ansV oV PV.tup (some (hs.map some)) = .tup (hs.map PV.int) := by
        show PV.tup ((hs.map some).map oV) = _
        rw [List.map_map]; rfl
      have q := h2 hs e
      have hne : hs ≠ [] := fun z => by rw [z] at hlen; simp at hlen
      clear h1 h2
      simp_all only [ss_nil, Nx_nil, Arm_nil, sz_0, sz_1, sz_2, sz_3, sz_4, sz_5, sz_6, sz_7, sz_8, sz_9, sz_10, sz_11, sz_12, cp_2, cp_3, cp_4, cp_5, cp_6, cp_7, cp_12, cp_20, cp_30, cp_38, cp_39, cp_40, ea]
      (first | rw [Nx_eq] | rw [Arm_eq] | skip); (try simp_all only [ss_nil, Nx_nil, Arm_nil, sz_0, sz_1, sz_2, sz_3, sz_4, sz_5, sz_6, sz_7, sz_8, sz_9, sz_10, sz_11, sz_12, cp_2, cp_3, cp_4, cp_5, cp_6, cp_7, cp_12, cp_20, cp_30, cp_38, cp_39, cp_40])
      (first | rw [Nx_eq] | rw [Arm_eq] | skip); (try simp_all only [ss_nil, Nx_nil, Arm_nil, sz_0, sz_1, sz_2, sz_3, sz_4, sz_5, sz_6, sz_7, sz_8, sz_9, sz_10, sz_11, sz_12, cp_2, cp_3, cp_4, cp_5, cp_6, cp_7, cp_12, cp_20, cp_30, cp_38, cp_39, cp_40, ints_of])
      exact ⟨hne, s, .rfl, q⟩
  · exact h.elim
def sp_made_latest : PSpec
  | [.tup xs, .tup ys, .int d], st, Q, _ => ∃ (W : Int) (js : List (Int × Int)) (ls : List Lk), xs = js.map jobV ∧ ys = ls.map lkV ∧ WOk W js ls ∧ 0 ≤ d ∧ Q (ansV nV PV.tup (late js ls d)) st
  | _, _, _, _ => False
def b_made_latest_1 : Ss :=
  (.cons (.expr (.meth .append (.var 4) (.cons (.tup (.cons (.int 0) (.cons (.bin .Add false (.var 5) (.int 1)) (.cons (.int 0) .nil)))) .nil))) .nil)
def b_made_latest : Ss :=
  (.cons (.asg (.name 3) (.bin .Add false (.bin .Mult false (.int 2) (.blt .len false (.cons (.var 0) .nil))) (.int 1))) (.cons (.asgLc 4 (.comp true [7, 8, 9] (.tup (.cons (.name 7) (.cons (.name 8) (.cons (.name 9) .nil)))) (.val (.call "whole_weights" sp_whole_weights (.cons (.call "made_job_system" sp_made_job_system (.cons (.var 0) (.cons (.var 1) .nil))) .nil))) .nil (.tup (.cons (.bin .Add false (.var 8) (.int 1)) (.cons (.bin .Add false (.var 7) (.int 1)) (.cons (.var 9) .nil)))))) (.cons (.loop (.name 5) (.range1 (.var 3)) b_made_latest_1) (.cons (.expr (.meth .append (.var 4) (.cons (.tup (.cons (.int 1) (.cons (.int 0) (.cons (.var 2) .nil)))) .nil))) (.cons (.expr (.meth .append (.var 4) (.cons (.tup (.cons (.int 0) (.cons (.int 1) (.cons (.neg (.var 2)) .nil)))) .nil))) (.cons (.asg (.name 6) (.call "lowest" sp_lowest (.cons (.bin .Add false (.var 3) (.int 1)) (.cons (.fvar 4) .nil)))) (.cons (.ite (.cmp .Is (.var 6) .non) (.cons (.ret .non) .nil) .nil) (.cons (.ret (.blt .tuple false (.cons (.comp false [10] (.name 10) (.val (.slice false (.var 6) (.yes (.int 1)) .no)) .nil (.bin .Sub false (.var 2) (.var 10))) .nil))) .nil))))))))
def n_made_latest : List Str := ["jobs", "links", "end", "size", "weights", "event", "back", "i", "j", "weight", "value"]
def upE (e : Ed) : Ed := ⟨e.j + 1, e.i + 1, e.w⟩
theorem w_made_latest : ∀ vs s Q X, vs.length = 3 → sp_made_latest vs s Q X → wpFn n_made_latest.length b_made_latest vs s Q X := by
  intro vs s Q X hl h
  unfold sp_made_latest at h
  split at h
  · rename_i xs ys d
    rw [fn_eq]
    unfold b_made_latest n_made_latest
    obtain ⟨W, js, ls, rfl, rfl, O, hd, h⟩ := h
    have sz : 1000 ≤ sizeLine := by decide
    simp_all only [ss_nil, Nx_nil, Arm_nil, sz_0, sz_1, sz_2, sz_3, sz_4, sz_5, sz_6, sz_7, sz_8, sz_9, sz_10, sz_11, sz_12, cp_2, cp_3, cp_4, cp_5, cp_6, cp_7, cp_12, cp_20, cp_30, cp_38, cp_39, cp_40, List.length_map]
    refine ⟨CMul.ok (by unfold CMul; omega), ?_⟩
    (first | rw [Nx_eq] | rw [Arm_eq] | skip); (try simp_all only [ss_nil, Nx_nil, Arm_nil, sz_0, sz_1, sz_2, sz_3, sz_4, sz_5, sz_6, sz_7, sz_8, sz_9, sz_10, sz_11, sz_12, cp_2, cp_3, cp_4, cp_5, cp_6, cp_7, cp_12, cp_20, cp_30, cp_38, cp_39, cp_40])
    refine callS_of ⟨js, ls, rfl, rfl, O.nj, O.nl, ?_⟩
    simp_all only [ss_nil, Nx_nil, Arm_nil, sz_0, sz_1, sz_2, sz_3, sz_4, sz_5, sz_6, sz_7, sz_8, sz_9, sz_10, sz_11, sz_12, cp_2, cp_3, cp_4, cp_5, cp_6, cp_7, cp_12, cp_20, cp_30, cp_38, cp_39, cp_40]
    refine callS_of ⟨sysE js ls, rfl, ?_⟩
    simp_all only [ss_nil, Nx_nil, Arm_nil, sz_0, sz_1, sz_2, sz_3, sz_4, sz_5, sz_6, sz_7, sz_8, sz_9, sz_10, sz_11, sz_12, cp_2, cp_3, cp_4, cp_5, cp_6, cp_7, cp_12, cp_20, cp_30, cp_38, cp_39, cp_40]
    refine lc_enc (fun e => edV (upE e)) (sysE js ls) (fun τ1 st' Q q => by simp_all only [ss_nil, Nx_nil, Arm_nil, sz_0, sz_1, sz_2, sz_3, sz_4, sz_5, sz_6, sz_7, sz_8, sz_9, sz_10, sz_11, sz_12, cp_2, cp_3, cp_4, cp_5, cp_6, cp_7, cp_12, cp_20, cp_30, cp_38, cp_39, cp_40]; exact q) (fun e he => ⟨_, rfl, fun st' sub K hk => ?_⟩) ?_
    · have ev : edV (upE e) = .tup [.int ((e.j : Int) + 1), .int ((e.i : Int) + 1), .int e.w] := rfl
      rw [ev] at hk
      simp_all only [ss_nil, Nx_nil, Arm_nil, sz_0, sz_1, sz_2, sz_3, sz_4, sz_5, sz_6, sz_7, sz_8, sz_9, sz_10, sz_11, sz_12, cp_2, cp_3, cp_4, cp_5, cp_6, cp_7, cp_12, cp_20, cp_30, cp_38, cp_39, cp_40]
      exact hk
    simp_all only [ss_nil, Nx_nil, Arm_nil, sz_0, sz_1, sz_2, sz_3, sz_4, sz_5, sz_6, sz_7, sz_8, sz_9, sz_10, sz_11, sz_12, cp_2, cp_3, cp_4, cp_5, cp_6, cp_7, cp_12, cp_20, cp_30, cp_38, cp_39, cp_40]
    intro q hq
    obtain ⟨hin, _⟩ := sys_in O
    have nj := O.nj
    have nl := O.nl
    have nes := sys_len (js := js) (ls := ls)
    (first | rw [Nx_eq] | rw [Arm_eq] | skip); (try simp_all only [ss_nil, Nx_nil, Arm_nil, sz_0, sz_1, sz_2, sz_3, sz_4, sz_5, sz_6, sz_7, sz_8, sz_9, sz_10, sz_11, sz_12, cp_2, cp_3, cp_4, cp_5, cp_6, cp_7, cp_12, cp_20, cp_30, cp_38, cp_39, cp_40])
    refine ⟨by unfold R62; omega, ?_⟩
    refine for_at (fun i τ st => ∃ (o5 : Option PV), τ = [some (.tup (js.map jobV)), some (.tup (ls.map lkV)), some (.int d), some (.int (2 * (js.length : Int) + 1)), some (.ref q), o5, none, none, none, none, none] ∧ st = up s q (some (.lst ((sysE js ls).map (fun e => edV (upE e)) ++ (List.range i).map fun e => edV ⟨0, e + 1, 0⟩)))) ?_ ?_ ⟨_, rfl, by simp⟩
    · rintro i x τ st hi ⟨o5, rfl, rfl⟩
      have hil : i < 2 * js.length + 1 := by
        have := (List.getElem?_eq_some_iff.mp hi).1
        simp [rngL] at this
        omega
      obtain rfl : x = .int i := by
        obtain ⟨h1, h2⟩ := List.getElem?_eq_some_iff.mp hi
        simp only [rngL, List.getElem_map, List.getElem_range] at h2
        rw [← h2, Int.zero_add]
      have sn : (sysE js ls).map (fun e => edV (upE e)) ++ (List.range (i + 1)).map (fun e => edV ⟨0, e + 1, 0⟩) = (sysE js ls).map (fun e => edV (upE e)) ++ (List.range i).map (fun e => edV ⟨0, e + 1, 0⟩) ++ [.tup [.int 0, .int ((i : Int) + 1), .int 0]] := by
        rw [List.range_succ, List.map_append, ← List.append_assoc]; rfl
      have ln : ((sysE js ls).map (fun e => edV (upE e)) ++ (List.range i).map (fun e => edV ⟨0, e + 1, 0⟩)).length ≤ 104 + 17 := by
        simp; omega
      refine ⟨trivial, ?_⟩
      unfold b_made_latest_1
      rw [sn]
      generalize (sysE js ls).map (fun e => edV (upE e)) ++ (List.range i).map (fun e => edV ⟨0, e + 1, 0⟩) = L at *
      simp_all only [ss_nil, Nx_nil, Arm_nil, sz_0, sz_1, sz_2, sz_3, sz_4, sz_5, sz_6, sz_7, sz_8, sz_9, sz_10, sz_11, sz_12, cp_2, cp_3, cp_4, cp_5, cp_6, cp_7, cp_12, cp_20, cp_30, cp_38, cp_39, cp_40, up_up]
      exact ⟨by omega, _, rfl⟩
    · rintro τ st ⟨o5, rfl, rfl⟩
      refine ⟨trivial, ?_⟩
      rw [show (rngL 0 (2 * (js.length : Int) + 1).toNat).length = 2 * js.length + 1 by simp [rngL]; omega]
      have ln : ((sysE js ls).map (fun e => edV (upE e)) ++ (List.range (2 * js.length + 1)).map (fun e => edV ⟨0, e + 1, 0⟩)).length ≤ 104 + 17 := by
        simp; omega
      have fin : (shE (sysE js ls) (2 * js.length + 1) d).map edV = (sysE js ls).map (fun e => edV (upE e)) ++ (List.range (2 * js.length + 1)).map (fun e => edV ⟨0, e + 1, 0⟩) ++ [.tup [.int 1, .int 0, .int d]] ++ [.tup [.int 0, .int 1, .int (-d)]] := by
        unfold shE
        rw [List.map_append, List.map_append, List.map_map, List.map_map, List.append_assoc _ [_] [_]]; rfl
      revert ln fin
      generalize (sysE js ls).map (fun e => edV (upE e)) ++ (List.range (2 * js.length + 1)).map (fun e => edV ⟨0, e + 1, 0⟩) = L
      intro ln fin
      simp_all only [ss_nil, Nx_nil, Arm_nil, sz_0, sz_1, sz_2, sz_3, sz_4, sz_5, sz_6, sz_7, sz_8, sz_9, sz_10, sz_11, sz_12, cp_2, cp_3, cp_4, cp_5, cp_6, cp_7, cp_12, cp_20, cp_30, cp_38, cp_39, cp_40]
      (first | rw [Nx_eq] | rw [Arm_eq] | skip); (try simp_all only [ss_nil, Nx_nil, Arm_nil, sz_0, sz_1, sz_2, sz_3, sz_4, sz_5, sz_6, sz_7, sz_8, sz_9, sz_10, sz_11, sz_12, cp_2, cp_3, cp_4, cp_5, cp_6, cp_7, cp_12, cp_20, cp_30, cp_38, cp_39, cp_40, up_up])
      refine ⟨by omega, ?_⟩
      (first | rw [Nx_eq] | rw [Arm_eq] | skip); (try simp_all only [ss_nil, Nx_nil, Arm_nil, sz_0, sz_1, sz_2, sz_3, sz_4, sz_5, sz_6, sz_7, sz_8, sz_9, sz_10, sz_11, sz_12, cp_2, cp_3, cp_4, cp_5, cp_6, cp_7, cp_12, cp_20, cp_30, cp_38, cp_39, cp_40, up_up, List.length_append])
      refine ⟨by first | omega | (simp; omega), ?_⟩
      (first | rw [Nx_eq] | rw [Arm_eq] | skip); (try simp_all only [ss_nil, Nx_nil, Arm_nil, sz_0, sz_1, sz_2, sz_3, sz_4, sz_5, sz_6, sz_7, sz_8, sz_9, sz_10, sz_11, sz_12, cp_2, cp_3, cp_4, cp_5, cp_6, cp_7, cp_12, cp_20, cp_30, cp_38, cp_39, cp_40, up_up])
      rw [up_id hq]
      refine callS_of ⟨2 * js.length + 1 + 1, shE (sysE js ls) (2 * js.length + 1) d, by omega, by omega, by omega, by rw [fin], sh_in (by omega) hin, ?_⟩
      rw [lat_same (by omega) hin hd]
      show KAsgN _ _ _ (ansV oV PV.tup ((late js ls d).map _)) _
      cases e : late js ls d with
      | none =>
        rw [e] at h
        have h : Q .non s := h
        have ea : ansV oV PV.tup none = .non := rfl
        simp_all only [ss_nil, Nx_nil, Arm_nil, sz_0, sz_1, sz_2, sz_3, sz_4, sz_5, sz_6, sz_7, sz_8, sz_9, sz_10, sz_11, sz_12, cp_2, cp_3, cp_4, cp_5, cp_6, cp_7, cp_12, cp_20, cp_30, cp_38, cp_39, cp_40, Option.map_none, ea]
        (first | rw [Nx_eq] | rw [Arm_eq] | skip); (try simp_all only [ss_nil, Nx_nil, Arm_nil, sz_0, sz_1, sz_2, sz_3, sz_4, sz_5, sz_6, sz_7, sz_8, sz_9, sz_10, sz_11, sz_12, cp_2, cp_3, cp_4, cp_5, cp_6, cp_7, cp_12, cp_20, cp_30, cp_38, cp_39, cp_40])
        (first | rw [Nx_eq] | rw [Arm_eq] | skip); (try simp_all only [ss_nil, Nx_nil, Arm_nil, sz_0, sz_1, sz_2, sz_3, sz_4, sz_5, sz_6, sz_7, sz_8, sz_9, sz_10, sz_11, sz_12, cp_2, cp_3, cp_4, cp_5, cp_6, cp_7, cp_12, cp_20, cp_30, cp_38, cp_39, cp_40])
        exact ⟨s, .rfl, h⟩
      | some u =>
        obtain ⟨ws, rfl, _⟩ := late_some O e
        rw [e] at h
        have h : Q (.tup ((ws.map fun h => some (-h)).map nV)) s := h
        rw [nV_ints] at h
        have ea : ansV oV PV.tup ((some (ws.map fun h => some (-h))).map fun u => some 0 :: u.map (fun x => x.map (· + d))) = .tup (.int 0 :: ws.map fun h => .int (-h + d)) := by
          show PV.tup ((some 0 :: (ws.map fun h => some (-h)).map (fun x => x.map (· + d))).map oV) = _
          rw [List.map_cons, List.map_map, List.map_map]; rfl
        rw [ea]
        clear ea
        simp_all only [ss_nil, Nx_nil, Arm_nil, sz_0, sz_1, sz_2, sz_3, sz_4, sz_5, sz_6, sz_7, sz_8, sz_9, sz_10, sz_11, sz_12, cp_2, cp_3, cp_4, cp_5, cp_6, cp_7, cp_12, cp_20, cp_30, cp_38, cp_39, cp_40]
        (first | rw [Nx_eq] | rw [Arm_eq] | skip); (try simp_all only [ss_nil, Nx_nil, Arm_nil, sz_0, sz_1, sz_2, sz_3, sz_4, sz_5, sz_6, sz_7, sz_8, sz_9, sz_10, sz_11, sz_12, cp_2, cp_3, cp_4, cp_5, cp_6, cp_7, cp_12, cp_20, cp_30, cp_38, cp_39, cp_40])
        (first | rw [Nx_eq] | rw [Arm_eq] | skip); (try simp_all only [ss_nil, Nx_nil, Arm_nil, sz_0, sz_1, sz_2, sz_3, sz_4, sz_5, sz_6, sz_7, sz_8, sz_9, sz_10, sz_11, sz_12, cp_2, cp_3, cp_4, cp_5, cp_6, cp_7, cp_12, cp_20, cp_30, cp_38, cp_39, cp_40, cut_from (show (0 : Int) ≤ 1 by decide)])
        refine lc_enc (fun h => .int (d - (-h + d))) ws (fun τ1 st' Q q => by simp_all only [ss_nil, Nx_nil, Arm_nil, sz_0, sz_1, sz_2, sz_3, sz_4, sz_5, sz_6, sz_7, sz_8, sz_9, sz_10, sz_11, sz_12, cp_2, cp_3, cp_4, cp_5, cp_6, cp_7, cp_12, cp_20, cp_30, cp_38, cp_39, cp_40]; exact q) (fun e he => ⟨_, rfl, fun st' sub K hk => ?_⟩) ?_
        · simp_all only [ss_nil, Nx_nil, Arm_nil, sz_0, sz_1, sz_2, sz_3, sz_4, sz_5, sz_6, sz_7, sz_8, sz_9, sz_10, sz_11, sz_12, cp_2, cp_3, cp_4, cp_5, cp_6, cp_7, cp_12, cp_20, cp_30, cp_38, cp_39, cp_40]
          exact hk
        simp_all only [ss_nil, Nx_nil, Arm_nil, sz_0, sz_1, sz_2, sz_3, sz_4, sz_5, sz_6, sz_7, sz_8, sz_9, sz_10, sz_11, sz_12, cp_2, cp_3, cp_4, cp_5, cp_6, cp_7, cp_12, cp_20, cp_30, cp_38, cp_39, cp_40]
        have ew : (ws.map fun h => PV.int (d - (-h + d))) = ws.map PV.int := List.map_congr_left fun x _ => by rw [show d - (-x + d) = x by omega]
        rw [ew]
        exact ⟨s, .rfl, h⟩
  · exact h.elim
def sp_latest_hours : PSpec
  | [j, l, v], st, Q, X => noRef v = true ∧ ((j = .non ∧ X (errW "jobs") st) ∨ ∃ (W : Int) (js : List (Int × Int)) (ls : List Lk), j = .tup (js.map jobV) ∧ WOk W js ls ∧ ((l = .non ∧ X (errW "links") st) ∨
      (l = .tup (ls.map lkV) ∧ (wholeB v 0 (.int 9999) = false → X (errW "end") st) ∧ ∀ d : Int, v = .int d → 0 ≤ d → d ≤ 9999 → Q (ansV nV PV.tup (late js ls d)) st)))
  | _, _, _, _ => False
def b_latest_hours : Ss :=
  (.cons (.expr (.call "check_jobs" sp_check_jobs (.cons (.var 0) (.cons (.var 1) .nil)))) (.cons (.expr (.call "check_whole" sp_check_whole (.cons (.var 2) (.cons (.int 0) (.cons (.glob "MOST_HOUR" (.int 9999)) (.cons (.str "end") .nil)))))) (.cons (.ret (.call "made_latest" sp_made_latest (.cons (.var 0) (.cons (.var 1) (.cons (.var 2) .nil))))) .nil)))
def n_latest_hours : List Str := ["jobs", "links", "end"]
theorem w_latest_hours : ∀ vs s Q X, vs.length = 3 → sp_latest_hours vs s Q X → wpFn n_latest_hours.length b_latest_hours vs s Q X := by
  intro vs s Q X hl h
  unfold sp_latest_hours at h
  split at h
  · rename_i j l v
    rw [fn_eq]
    unfold b_latest_hours n_latest_hours
    obtain ⟨hn, ⟨rfl, h⟩ | ⟨W, js, ls, rfl, O, ⟨rfl, h⟩ | ⟨rfl, h1, h2⟩⟩⟩ := h
    · simp_all only [ss_nil, Nx_nil, Arm_nil, sz_0, sz_1, sz_2, sz_3, sz_4, sz_5, sz_6, sz_7, sz_8, sz_9, sz_10, sz_11, sz_12, cp_2, cp_3, cp_4, cp_5, cp_6, cp_7, cp_12, cp_20, cp_30, cp_38, cp_39, cp_40]
      exact callS_of (.inl ⟨rfl, kex_fn h⟩)
    · simp_all only [ss_nil, Nx_nil, Arm_nil, sz_0, sz_1, sz_2, sz_3, sz_4, sz_5, sz_6, sz_7, sz_8, sz_9, sz_10, sz_11, sz_12, cp_2, cp_3, cp_4, cp_5, cp_6, cp_7, cp_12, cp_20, cp_30, cp_38, cp_39, cp_40]
      exact callS_of (.inr ⟨W, js, ls, rfl, O, .inr ⟨rfl, kex_fn h⟩⟩)
    · simp_all only [ss_nil, Nx_nil, Arm_nil, sz_0, sz_1, sz_2, sz_3, sz_4, sz_5, sz_6, sz_7, sz_8, sz_9, sz_10, sz_11, sz_12, cp_2, cp_3, cp_4, cp_5, cp_6, cp_7, cp_12, cp_20, cp_30, cp_38, cp_39, cp_40]
      refine callS_of (.inr ⟨W, js, ls, rfl, O, .inl ⟨rfl, ?_⟩⟩)
      simp_all only [ss_nil, Nx_nil, Arm_nil, sz_0, sz_1, sz_2, sz_3, sz_4, sz_5, sz_6, sz_7, sz_8, sz_9, sz_10, sz_11, sz_12, cp_2, cp_3, cp_4, cp_5, cp_6, cp_7, cp_12, cp_20, cp_30, cp_38, cp_39, cp_40]
      (first | rw [Nx_eq] | rw [Arm_eq] | skip); (try simp_all only [ss_nil, Nx_nil, Arm_nil, sz_0, sz_1, sz_2, sz_3, sz_4, sz_5, sz_6, sz_7, sz_8, sz_9, sz_10, sz_11, sz_12, cp_2, cp_3, cp_4, cp_5, cp_6, cp_7, cp_12, cp_20, cp_30, cp_38, cp_39, cp_40])
      refine callS_of ⟨hn, .inr ⟨_, rfl⟩, by decide, fun e => ?_, fun e => kex_fn (h1 e)⟩
      obtain ⟨d, rfl, hd0, hd1⟩ : ∃ d : Int, v = .int d ∧ 0 ≤ d ∧ d ≤ 9999 := by
        unfold wholeB at e
        split at e
        · rename_i n
          simp only [Bool.and_eq_true, decide_eq_true_eq] at e
          exact ⟨n, rfl, e.1, e.2⟩
        · cases e
      have q := h2 d rfl hd0 hd1
      clear h1 h2
      simp_all only [ss_nil, Nx_nil, Arm_nil, sz_0, sz_1, sz_2, sz_3, sz_4, sz_5, sz_6, sz_7, sz_8, sz_9, sz_10, sz_11, sz_12, cp_2, cp_3, cp_4, cp_5, cp_6, cp_7, cp_12, cp_20, cp_30, cp_38, cp_39, cp_40]
      (first | rw [Nx_eq] | rw [Arm_eq] | skip); (try simp_all only [ss_nil, Nx_nil, Arm_nil, sz_0, sz_1, sz_2, sz_3, sz_4, sz_5, sz_6, sz_7, sz_8, sz_9, sz_10, sz_11, sz_12, cp_2, cp_3, cp_4, cp_5, cp_6, cp_7, cp_12, cp_20, cp_30, cp_38, cp_39, cp_40])
      exact callS_of ⟨W, js, ls, rfl, rfl, O, hd0, s, .rfl, q⟩
  · exact h.elim
/-- the events that have the same hour in both -/
def sameAt (hs ws : List Int) : List Nat := (List.range hs.length).filter fun k => decide (hs[k]? = ws[k]?)
def sp_critical : PSpec
  | [.tup xs, .tup ys], st, Q, _ => ∃ (W : Int) (js : List (Int × Int)) (ls : List Lk), xs = js.map jobV ∧ ys = ls.map lkV ∧ WOk W js ls ∧ (early js ls = none → Q .non st) ∧
      ∀ hs ws : List Int, early js ls = some (hs.map some) → late js ls (maxL hs) = some (ws.map fun h => some (-h)) → ws.length = hs.length → Q (.tup ((sameAt hs ws).map fun (k : Nat) => .int (k : Int))) st
  | _, _, _, _ => False
def b_critical : Ss :=
  (.cons (.asg (.name 2) (.call "hours_of" sp_hours_of (.cons (.var 0) (.cons (.var 1) .nil)))) (.cons (.ite (.cmp .Is (.var 2) .non) (.cons (.ret .non) .nil) .nil) (.cons (.asg (.name 3) (.call "made_latest" sp_made_latest (.cons (.var 0) (.cons (.var 1) (.cons (.blt .max false (.cons (.var 2) .nil)) .nil))))) (.cons (.ret (.blt .tuple false (.cons (.comp false [4] (.name 4) (.range1 (.blt .len false (.cons (.var 2) .nil))) (.cons (.cmp .Eq (.idx (.var 2) (.var 4)) (.idx (.var 3) (.var 4))) .nil) (.var 4)) .nil))) .nil))))
def n_critical : List Str := ["jobs", "links", "early", "late", "event"]
theorem at_ints {hs : List Int} {k : Nat} (h : k < hs.length) : atI (hs.map PV.int) (k : Int) = some (.int hs[k]) := by
  rw [atI_nat, List.getElem?_map, List.getElem?_eq_getElem h]; rfl
theorem dec_at {hs ws : List Int} {k : Nat} (h : k < hs.length) (h2 : k < ws.length) : decide (hs[k]? = ws[k]?) = decide (hs[k] = ws[k]) := by
  rw [List.getElem?_eq_getElem h, List.getElem?_eq_getElem h2, decide_eq_decide]
  exact ⟨fun e => Option.some.inj e, fun e => by rw [e]⟩
theorem w_critical : ∀ vs s Q X, vs.length = 2 → sp_critical vs s Q X → wpFn n_critical.length b_critical vs s Q X := by
  intro vs s Q X hl h
  unfold sp_critical at h
  split at h
  · rw [fn_eq]
    unfold b_critical n_critical
    obtain ⟨W, js, ls, rfl, rfl, O, h1, h2⟩ := h
    have sz : 1000 ≤ sizeLine := by decide
    simp_all only [ss_nil, Nx_nil, Arm_nil, sz_0, sz_1, sz_2, sz_3, sz_4, sz_5, sz_6, sz_7, sz_8, sz_9, sz_10, sz_11, sz_12, cp_2, cp_3, cp_4, cp_5, cp_6, cp_7, cp_12, cp_20, cp_30, cp_38, cp_39, cp_40]
    refine callS_of (.inr ⟨W, js, ls, rfl, O, .inl ⟨rfl, ?_⟩⟩)
    cases e : early js ls with
    | none =>
      have ea : ansV oV PV.tup none = .non := rfl
      have q := h1 e
      clear h1 h2
      simp_all only [ss_nil, Nx_nil, Arm_nil, sz_0, sz_1, sz_2, sz_3, sz_4, sz_5, sz_6, sz_7, sz_8, sz_9, sz_10, sz_11, sz_12, cp_2, cp_3, cp_4, cp_5, cp_6, cp_7, cp_12, cp_20, cp_30, cp_38, cp_39, cp_40, ea]
      (first | rw [Nx_eq] | rw [Arm_eq] | skip); (try simp_all only [ss_nil, Nx_nil, Arm_nil, sz_0, sz_1, sz_2, sz_3, sz_4, sz_5, sz_6, sz_7, sz_8, sz_9, sz_10, sz_11, sz_12, cp_2, cp_3, cp_4, cp_5, cp_6, cp_7, cp_12, cp_20, cp_30, cp_38, cp_39, cp_40])
      (first | rw [Nx_eq] | rw [Arm_eq] | skip); (try simp_all only [ss_nil, Nx_nil, Arm_nil, sz_0, sz_1, sz_2, sz_3, sz_4, sz_5, sz_6, sz_7, sz_8, sz_9, sz_10, sz_11, sz_12, cp_2, cp_3, cp_4, cp_5, cp_6, cp_7, cp_12, cp_20, cp_30, cp_38, cp_39, cp_40])
      exact ⟨s, .rfl, q⟩
    | some r =>
      obtain ⟨hs, rfl, hlen, _, _, h0, _⟩ := early_some O e
      have ea : ansV oV PV.tup (some (hs.map some)) = .tup (hs.map PV.int) := by
        show PV.tup ((hs.map some).map oV) = _
        rw [List.map_map]; rfl
      have hne : hs ≠ [] := fun z => by rw [z] at hlen; simp at hlen
      have hm : 0 ≤ maxL hs := h0 _ (maxL_mem hne)
      obtain ⟨ws, hw, hwl, _⟩ := (late_iff O e hm).1 (Int.le_refl _)
      have q := h2 hs ws e hw (by rw [hwl, hlen])
      clear h1 h2
      rw [ea]
      clear ea
      simp_all only [ss_nil, Nx_nil, Arm_nil, sz_0, sz_1, sz_2, sz_3, sz_4, sz_5, sz_6, sz_7, sz_8, sz_9, sz_10, sz_11, sz_12, cp_2, cp_3, cp_4, cp_5, cp_6, cp_7, cp_12, cp_20, cp_30, cp_38, cp_39, cp_40]
      (first | rw [Nx_eq] | rw [Arm_eq] | skip); (try simp_all only [ss_nil, Nx_nil, Arm_nil, sz_0, sz_1, sz_2, sz_3, sz_4, sz_5, sz_6, sz_7, sz_8, sz_9, sz_10, sz_11, sz_12, cp_2, cp_3, cp_4, cp_5, cp_6, cp_7, cp_12, cp_20, cp_30, cp_38, cp_39, cp_40])
      (first | rw [Nx_eq] | rw [Arm_eq] | skip); (try simp_all only [ss_nil, Nx_nil, Arm_nil, sz_0, sz_1, sz_2, sz_3, sz_4, sz_5, sz_6, sz_7, sz_8, sz_9, sz_10, sz_11, sz_12, cp_2, cp_3, cp_4, cp_5, cp_6, cp_7, cp_12, cp_20, cp_30, cp_38, cp_39, cp_40, ints_of])
      refine ⟨hne, callS_of ⟨W, js, ls, rfl, rfl, O, hm, ?_⟩⟩
      have eb : ansV nV PV.tup (late js ls (maxL hs)) = .tup (ws.map PV.int) := by
        rw [hw]
        show PV.tup ((ws.map fun h => some (-h)).map nV) = _
        rw [nV_ints]
      rw [eb]
      have nj := O.nj
      clear eb hw e
      simp_all only [ss_nil, Nx_nil, Arm_nil, sz_0, sz_1, sz_2, sz_3, sz_4, sz_5, sz_6, sz_7, sz_8, sz_9, sz_10, sz_11, sz_12, cp_2, cp_3, cp_4, cp_5, cp_6, cp_7, cp_12, cp_20, cp_30, cp_38, cp_39, cp_40]
      (first | rw [Nx_eq] | rw [Arm_eq] | skip); (try simp_all only [ss_nil, Nx_nil, Arm_nil, sz_0, sz_1, sz_2, sz_3, sz_4, sz_5, sz_6, sz_7, sz_8, sz_9, sz_10, sz_11, sz_12, cp_2, cp_3, cp_4, cp_5, cp_6, cp_7, cp_12, cp_20, cp_30, cp_38, cp_39, cp_40, List.length_map])
      refine ⟨by unfold R62; omega, by simp [rngL]; omega, ?_⟩
      refine lc_filter (enc := fun k : Nat => PV.int (0 + (k : Int))) (fun k => decide (hs[k]? = ws[k]?)) (fun k => .int (k : Int)) (List.range hs.length) (fun k hk => ⟨_, rfl, fun st' sub => ⟨fun K hK => ?_, fun _ K hK => ?_⟩⟩) ?_
      · have hk := List.mem_range.mp hk
        rw [dec_at hk (by omega)] at hK
        have a1 := at_ints hk
        have a2 : atI (ws.map PV.int) (k : Int) = some (.int (ws[k]'(by omega))) := at_ints (by omega)
        rw [Int.zero_add]
        by_cases hq : hs[k] = ws[k]'(by omega)
        · rw [decide_eq_true hq] at hK
          have e1 : (hs[k] = ws[k]'(by omega)) = True := eq_true hq
          simp_all only [ss_nil, Nx_nil, Arm_nil, sz_0, sz_1, sz_2, sz_3, sz_4, sz_5, sz_6, sz_7, sz_8, sz_9, sz_10, sz_11, sz_12, cp_2, cp_3, cp_4, cp_5, cp_6, cp_7, cp_12, cp_20, cp_30, cp_38, cp_39, cp_40, a1, a2, e1]
          exact hK
        · rw [decide_eq_false hq] at hK
          have e1 : (hs[k] = ws[k]'(by omega)) = False := eq_false hq
          simp_all only [ss_nil, Nx_nil, Arm_nil, sz_0, sz_1, sz_2, sz_3, sz_4, sz_5, sz_6, sz_7, sz_8, sz_9, sz_10, sz_11, sz_12, cp_2, cp_3, cp_4, cp_5, cp_6, cp_7, cp_12, cp_20, cp_30, cp_38, cp_39, cp_40, a1, a2, e1]
          exact hK
      · rw [Int.zero_add]
        simp_all only [ss_nil, Nx_nil, Arm_nil, sz_0, sz_1, sz_2, sz_3, sz_4, sz_5, sz_6, sz_7, sz_8, sz_9, sz_10, sz_11, sz_12, cp_2, cp_3, cp_4, cp_5, cp_6, cp_7, cp_12, cp_20, cp_30, cp_38, cp_39, cp_40]
        exact hK
      simp_all only [ss_nil, Nx_nil, Arm_nil, sz_0, sz_1, sz_2, sz_3, sz_4, sz_5, sz_6, sz_7, sz_8, sz_9, sz_10, sz_11, sz_12, cp_2, cp_3, cp_4, cp_5, cp_6, cp_7, cp_12, cp_20, cp_30, cp_38, cp_39, cp_40]
      exact ⟨s, .rfl, q⟩
  · exact h.elim
end TK

set_option maxRecDepth 100000
set_option maxHeartbeats 4000000
namespace TK
open PySem PySem.Spec PyProof.Rows L2
def sp__law_jobs : PSpec
  | [.ref p, .int many, .int most], st, Q, _ => st p = some .pool ∧ 0 ≤ many ∧ many ≤ 8 ∧ 0 ≤ most ∧ most ≤ 96 ∧ ∀ js : List (Int × Int), (js.length : Int) = many → (∀ p ∈ js, 0 ≤ p.1 ∧ p.1 ≤ most ∧ p.1 ≤ p.2 ∧ p.2 ≤ p.1 + 3) → Q (.tup (js.map jobV)) st
  | _, _, _, _ => False
def b__law_jobs_1 : Ss :=
  (.cons (.asg (.name 5) (.call "_law_draw" sp__law_draw (.cons (.var 0) (.cons (.bin .Add false (.var 2) (.int 1)) .nil)))) (.cons (.expr (.meth .append (.var 3) (.cons (.tup (.cons (.var 5) (.cons (.bin .Add false (.var 5) (.call "_law_pick" sp__law_pick (.cons (.var 0) (.cons (.lst false (.cons (.int 0) (.cons (.int 0) (.cons (.int 1) (.cons (.int 2) (.cons (.int 3) .nil)))))) .nil)))) .nil))) .nil))) .nil))
def b__law_jobs : Ss :=
  (.cons (.asg (.name 3) (.lst true .nil)) (.cons (.loop (.name 4) (.range1 (.var 1)) b__law_jobs_1) (.cons (.ret (.blt .tuple false (.cons (.var 3) .nil))) .nil)))
def n__law_jobs : List Str := ["pool", "many", "most", "told", "k", "low"]
theorem rg_at {n i : Nat} {lo : Int} {v : PV} (h : (rngL lo n)[i]? = some v) : i < n ∧ v = .int (lo + (i : Int)) := by
  obtain ⟨h1, h2⟩ := List.getElem?_eq_some_iff.mp h
  simp only [rngL, List.length_map, List.length_range] at h1
  simp only [rngL, List.getElem_map, List.getElem_range] at h2
  exact ⟨h1, h2.symm⟩
theorem rg_ln {n : Nat} {lo : Int} : (rngL lo n).length = n := by simp only [rngL, List.length_map, List.length_range]
theorem w__law_jobs : ∀ vs s Q X, vs.length = 3 → sp__law_jobs vs s Q X → wpFn n__law_jobs.length b__law_jobs vs s Q X := by
  intro vs s Q X hl h
  unfold sp__law_jobs at h
  split at h
  · rename_i p many most
    rw [fn_eq]
    unfold b__law_jobs n__law_jobs
    obtain ⟨hp, m0, m1, t0, t1, h⟩ := h
    have sz : 1000 ≤ sizeLine := by decide
    simp_all only [ss_nil, Nx_nil, Arm_nil, sz_0, sz_1, sz_2, sz_3, sz_4, sz_5, sz_6, sz_7, sz_8, sz_9, sz_10, sz_11, sz_12, cp_2, cp_3, cp_4, cp_5, cp_6, cp_7, cp_12, cp_20, cp_30, cp_38, cp_39, cp_40]
    intro q hq
    have pq : p ≠ q := fun e => by rw [← e, hp] at hq; cases hq
    have hpu : ∀ c, up s q c p = some .pool := fun c => by rw [up_ne pq]; exact hp
    (first | rw [Nx_eq] | rw [Arm_eq] | skip); (try simp_all only [ss_nil, Nx_nil, Arm_nil, sz_0, sz_1, sz_2, sz_3, sz_4, sz_5, sz_6, sz_7, sz_8, sz_9, sz_10, sz_11, sz_12, cp_2, cp_3, cp_4, cp_5, cp_6, cp_7, cp_12, cp_20, cp_30, cp_38, cp_39, cp_40])
    refine ⟨by unfold R62; omega, ?_⟩
    refine for_at (fun i τ st => ∃ (o4 o5 : Option PV) (js : List (Int × Int)), τ = [some (.ref p), some (.int many), some (.int most), some (.ref q), o4, o5] ∧ st = up s q (some (.lst (js.map jobV))) ∧ js.length = i ∧ ∀ p ∈ js, 0 ≤ p.1 ∧ p.1 ≤ most ∧ p.1 ≤ p.2 ∧ p.2 ≤ p.1 + 3) ?_ ?_ ⟨_, _, [], rfl, rfl, rfl, fun _ h => (nomatch h)⟩
    · rintro i v τ st hi ⟨o4, o5, js, rfl, rfl, hlen, hb⟩
      obtain ⟨i1, rfl⟩ := rg_at hi
      refine ⟨trivial, ?_⟩
      unfold b__law_jobs_1
      simp_all only [ss_nil, Nx_nil, Arm_nil, sz_0, sz_1, sz_2, sz_3, sz_4, sz_5, sz_6, sz_7, sz_8, sz_9, sz_10, sz_11, sz_12, cp_2, cp_3, cp_4, cp_5, cp_6, cp_7, cp_12, cp_20, cp_30, cp_38, cp_39, cp_40]
      refine callS_of ⟨hpu _, .of (by omega), fun a a0 a1 a2 => ?_⟩
      have ha : a ≤ most := by rcases Int.lt_or_le (most + 1) 2 with h | h <;> omega
      simp_all only [ss_nil, Nx_nil, Arm_nil, sz_0, sz_1, sz_2, sz_3, sz_4, sz_5, sz_6, sz_7, sz_8, sz_9, sz_10, sz_11, sz_12, cp_2, cp_3, cp_4, cp_5, cp_6, cp_7, cp_12, cp_20, cp_30, cp_38, cp_39, cp_40]
      (first | rw [Nx_eq] | rw [Arm_eq] | skip); (try simp_all only [ss_nil, Nx_nil, Arm_nil, sz_0, sz_1, sz_2, sz_3, sz_4, sz_5, sz_6, sz_7, sz_8, sz_9, sz_10, sz_11, sz_12, cp_2, cp_3, cp_4, cp_5, cp_6, cp_7, cp_12, cp_20, cp_30, cp_38, cp_39, cp_40])
      refine callS_of ⟨hpu _, by simp, by simp only [List.length_cons, List.length_nil]; decide, fun j v hv => ?_⟩
      have hv' : ∃ z : Int, v = .int z ∧ 0 ≤ z ∧ z ≤ 3 := by
        have := mem_at' hv
        simp only [List.mem_cons, List.not_mem_nil, or_false] at this
        rcases this with e | e | e | e | e <;> exact ⟨_, e, by decide, by decide⟩
      obtain ⟨z, rfl, z0, z1⟩ := hv'
      simp_all only [ss_nil, Nx_nil, Arm_nil, sz_0, sz_1, sz_2, sz_3, sz_4, sz_5, sz_6, sz_7, sz_8, sz_9, sz_10, sz_11, sz_12, cp_2, cp_3, cp_4, cp_5, cp_6, cp_7, cp_12, cp_20, cp_30, cp_38, cp_39, cp_40, up_up, List.length_map]
      refine ⟨by omega, _, _, js ++ [(a, a + z)], rfl, by rw [List.map_append]; rfl, by rw [List.length_append, hlen]; rfl, fun w hw => ?_⟩
      rcases List.mem_append.mp hw with hw | hw
      · exact hb w hw
      · rw [List.mem_singleton.mp hw]; exact ⟨a0, ha, by show a ≤ a + z; omega, by show a + z ≤ a + 3; omega⟩
    · rintro τ st ⟨o4, o5, js, rfl, rfl, hlen, hb⟩
      refine ⟨trivial, ?_⟩
      rw [rg_ln] at hlen
      simp_all only [ss_nil, Nx_nil, Arm_nil, sz_0, sz_1, sz_2, sz_3, sz_4, sz_5, sz_6, sz_7, sz_8, sz_9, sz_10, sz_11, sz_12, cp_2, cp_3, cp_4, cp_5, cp_6, cp_7, cp_12, cp_20, cp_30, cp_38, cp_39, cp_40]
      (first | rw [Nx_eq] | rw [Arm_eq] | skip); (try simp_all only [ss_nil, Nx_nil, Arm_nil, sz_0, sz_1, sz_2, sz_3, sz_4, sz_5, sz_6, sz_7, sz_8, sz_9, sz_10, sz_11, sz_12, cp_2, cp_3, cp_4, cp_5, cp_6, cp_7, cp_12, cp_20, cp_30, cp_38, cp_39, cp_40])
      exact ⟨s, sub_new hq, h js (by omega) hb⟩
  · exact h.elim
def sp__law_links : PSpec
  | [.ref p, v, .int many, .int most], st, Q, _ => st p = some .pool ∧ ∃ n : Nat, ((∃ xs, v = .tup xs ∧ xs.length = n) ∨ ∃ j xs, v = .ref j ∧ st j = some (.lst xs) ∧ xs.length = n) ∧ n ≤ 8 ∧ 0 ≤ many ∧ many ≤ 40 ∧ 0 ≤ most ∧ most ≤ 99 ∧
      ∀ ls : List Lk, (ls.length : Int) = many → (∀ l ∈ ls, l.x < 2 * n + 1 ∧ l.y < 2 * n + 1 ∧ -most ≤ l.low ∧ l.low ≤ most ∧ ∀ h, l.high = some h → l.low - 1 ≤ h ∧ h ≤ l.low + most) → Q (.tup (ls.map lkV)) st
  | _, _, _, _ => False
def b__law_links_1 : Ss :=
  (.cons (.asg (.name 7) (.bin .Sub false (.call "_law_draw" sp__law_draw (.cons (.var 0) (.cons (.bin .Add false (.bin .Mult false (.int 2) (.var 3)) (.int 1)) .nil))) (.var 3))) (.cons (.asg (.name 8) (.ite (.cmp .Gt (.call "_law_draw" sp__law_draw (.cons (.var 0) (.cons (.int 3) .nil))) (.int 0)) .non (.bin .Sub false (.bin .Add false (.var 7) (.call "_law_draw" sp__law_draw (.cons (.var 0) (.cons (.bin .Add false (.var 3) (.int 1)) .nil)))) (.call "_law_pick" sp__law_pick (.cons (.var 0) (.cons (.lst false (.cons (.int 0) (.cons (.int 0) (.cons (.int 0) (.cons (.int 1) .nil))))) .nil)))))) (.cons (.expr (.meth .append (.var 5) (.cons (.tup (.cons (.call "_law_draw" sp__law_draw (.cons (.var 0) (.cons (.var 4) .nil))) (.cons (.call "_law_draw" sp__law_draw (.cons (.var 0) (.cons (.var 4) .nil))) (.cons (.var 7) (.cons (.var 8) .nil))))) .nil))) .nil)))
def b__law_links : Ss :=
  (.cons (.asg (.name 4) (.bin .Add false (.bin .Mult false (.int 2) (.blt .len false (.cons (.var 1) .nil))) (.int 1))) (.cons (.asg (.name 5) (.lst true .nil)) (.cons (.loop (.name 6) (.range1 (.var 2)) b__law_links_1) (.cons (.ret (.blt .tuple false (.cons (.var 5) .nil))) .nil))))
def n__law_links : List Str := ["pool", "jobs", "many", "most", "events", "told", "k", "low", "high"]
theorem w__law_links : ∀ vs s Q X, vs.length = 4 → sp__law_links vs s Q X → wpFn n__law_links.length b__law_links vs s Q X := by
  intro vs s Q X hl h
  unfold sp__law_links at h
  split at h
  · rename_i p vj many most
    rw [fn_eq]
    obtain ⟨hp, n, hj, nx, m0, m1, t0, t1, h⟩ := h
    have sz : 1000 ≤ sizeLine := by decide
    suffices main : Nx (.cons (.asg (.name 5) (.lst true .nil)) (.cons (.loop (.name 6) (.range1 (.var 2)) b__law_links_1) (.cons (.ret (.blt .tuple false (.cons (.var 5) .nil))) .nil))) (fnEnds Q X) [some (.ref p), some vj, some (.int many), some (.int most), some (.int (2 * (n : Int) + 1)), none, none, none, none] s by
      unfold b__law_links n__law_links
      rcases hj with ⟨xs, rfl, rfl⟩ | ⟨j, xs, rfl, hj, rfl⟩
      · simp_all only [ss_nil, Nx_nil, Arm_nil, sz_0, sz_1, sz_2, sz_3, sz_4, sz_5, sz_6, sz_7, sz_8, sz_9, sz_10, sz_11, sz_12, cp_2, cp_3, cp_4, cp_5, cp_6, cp_7, cp_12, cp_20, cp_30, cp_38, cp_39, cp_40]
        exact ⟨CMul.ok (by unfold CMul; omega), main⟩
      · simp_all only [ss_nil, Nx_nil, Arm_nil, sz_0, sz_1, sz_2, sz_3, sz_4, sz_5, sz_6, sz_7, sz_8, sz_9, sz_10, sz_11, sz_12, cp_2, cp_3, cp_4, cp_5, cp_6, cp_7, cp_12, cp_20, cp_30, cp_38, cp_39, cp_40, hj]
        exact ⟨CMul.ok (by unfold CMul; omega), main⟩
    clear hj
    (first | rw [Nx_eq] | rw [Arm_eq] | skip); (try simp_all only [ss_nil, Nx_nil, Arm_nil, sz_0, sz_1, sz_2, sz_3, sz_4, sz_5, sz_6, sz_7, sz_8, sz_9, sz_10, sz_11, sz_12, cp_2, cp_3, cp_4, cp_5, cp_6, cp_7, cp_12, cp_20, cp_30, cp_38, cp_39, cp_40])
    intro q hq
    have pq : p ≠ q := fun e => by rw [← e, hp] at hq; cases hq
    have hpu : ∀ c, up s q c p = some .pool := fun c => by rw [up_ne pq]; exact hp
    (first | rw [Nx_eq] | rw [Arm_eq] | skip); (try simp_all only [ss_nil, Nx_nil, Arm_nil, sz_0, sz_1, sz_2, sz_3, sz_4, sz_5, sz_6, sz_7, sz_8, sz_9, sz_10, sz_11, sz_12, cp_2, cp_3, cp_4, cp_5, cp_6, cp_7, cp_12, cp_20, cp_30, cp_38, cp_39, cp_40])
    refine ⟨by unfold R62; omega, ?_⟩
    refine for_at (fun i τ st => ∃ (o6 o7 o8 : Option PV) (ls : List Lk), τ = [some (.ref p), some vj, some (.int many), some (.int most), some (.int (2 * (n : Int) + 1)), some (.ref q), o6, o7, o8] ∧ st = up s q (some (.lst (ls.map lkV))) ∧ ls.length = i ∧
      ∀ l ∈ ls, l.x < 2 * n + 1 ∧ l.y < 2 * n + 1 ∧ -most ≤ l.low ∧ l.low ≤ most ∧ ∀ h, l.high = some h → l.low - 1 ≤ h ∧ h ≤ l.low + most) ?_ ?_ ⟨_, _, _, [], rfl, rfl, rfl, fun _ h => (nomatch h)⟩
    · rintro i v τ st hi ⟨o6, o7, o8, ls, rfl, rfl, hlen, hb⟩
      obtain ⟨i1, rfl⟩ := rg_at hi
      refine ⟨trivial, ?_⟩
      unfold b__law_links_1
      simp_all only [ss_nil, Nx_nil, Arm_nil, sz_0, sz_1, sz_2, sz_3, sz_4, sz_5, sz_6, sz_7, sz_8, sz_9, sz_10, sz_11, sz_12, cp_2, cp_3, cp_4, cp_5, cp_6, cp_7, cp_12, cp_20, cp_30, cp_38, cp_39, cp_40]
      refine ⟨CMul.ok (by unfold CMul; omega), callS_of ⟨hpu _, .of (by omega), fun a a0 a1 a2 => ?_⟩⟩
      have ha : a ≤ 2 * most := by rcases Int.lt_or_le (2 * most + 1) 2 with h | h <;> omega
      simp_all only [ss_nil, Nx_nil, Arm_nil, sz_0, sz_1, sz_2, sz_3, sz_4, sz_5, sz_6, sz_7, sz_8, sz_9, sz_10, sz_11, sz_12, cp_2, cp_3, cp_4, cp_5, cp_6, cp_7, cp_12, cp_20, cp_30, cp_38, cp_39, cp_40]
      have fin : ∀ hi : Option Int, (∀ h, hi = some h → (a - most) - 1 ≤ h ∧ h ≤ (a - most) + most) → Nx (.cons (.expr (.meth .append (.var 5) (.cons (.tup (.cons (.call "_law_draw" sp__law_draw (.cons (.var 0) (.cons (.var 4) .nil))) (.cons (.call "_law_draw" sp__law_draw (.cons (.var 0) (.cons (.var 4) .nil))) (.cons (.var 7) (.cons (.var 8) .nil))))) .nil))) .nil)
          (((fnEnds Q X).nxt (.cons (.ret (.blt .tuple false (.cons (.var 5) .nil))) .nil)).lp fun τ st => ∃ (o6 o7 o8 : Option PV) (ls : List Lk), τ = [some (.ref p), some vj, some (.int many), some (.int most), some (.int (2 * (n : Int) + 1)), some (.ref q), o6, o7, o8] ∧ st = up s q (some (.lst (ls.map lkV))) ∧ ls.length = i + 1 ∧
            ∀ l ∈ ls, l.x < 2 * n + 1 ∧ l.y < 2 * n + 1 ∧ -most ≤ l.low ∧ l.low ≤ most ∧ ∀ h, l.high = some h → l.low - 1 ≤ h ∧ h ≤ l.low + most)
          [some (.ref p), some vj, some (.int many), some (.int most), some (.int (2 * (n : Int) + 1)), some (.ref q), some (.int (0 + (i : Int))), some (.int (a - most)), some (oV hi)] (up s q (some (.lst (ls.map lkV)))) := by
        intro hi hhi
        (first | rw [Nx_eq] | rw [Arm_eq] | skip); (try simp_all only [ss_nil, Nx_nil, Arm_nil, sz_0, sz_1, sz_2, sz_3, sz_4, sz_5, sz_6, sz_7, sz_8, sz_9, sz_10, sz_11, sz_12, cp_2, cp_3, cp_4, cp_5, cp_6, cp_7, cp_12, cp_20, cp_30, cp_38, cp_39, cp_40])
        refine callS_of ⟨hpu _, .of (by omega), fun x x0 x1 x2 => ?_⟩
        have hx : x < 2 * (n : Int) + 1 := by rcases Int.lt_or_le (2 * (n : Int) + 1) 2 with h | h <;> omega
        simp_all only [ss_nil, Nx_nil, Arm_nil, sz_0, sz_1, sz_2, sz_3, sz_4, sz_5, sz_6, sz_7, sz_8, sz_9, sz_10, sz_11, sz_12, cp_2, cp_3, cp_4, cp_5, cp_6, cp_7, cp_12, cp_20, cp_30, cp_38, cp_39, cp_40]
        refine callS_of ⟨hpu _, .of (by omega), fun y y0 y1 y2 => ?_⟩
        have hy : y < 2 * (n : Int) + 1 := by rcases Int.lt_or_le (2 * (n : Int) + 1) 2 with h | h <;> omega
        simp_all only [ss_nil, Nx_nil, Arm_nil, sz_0, sz_1, sz_2, sz_3, sz_4, sz_5, sz_6, sz_7, sz_8, sz_9, sz_10, sz_11, sz_12, cp_2, cp_3, cp_4, cp_5, cp_6, cp_7, cp_12, cp_20, cp_30, cp_38, cp_39, cp_40, up_up, List.length_map]
        refine ⟨by omega, _, _, _, ls ++ [⟨x.toNat, y.toNat, a - most, hi⟩], rfl, ?_, by rw [List.length_append, hlen]; rfl, fun w hw => ?_⟩
        · rw [List.map_append]
          show _ = up s q (some (.lst (ls.map lkV ++ [.tup [.int (x.toNat : Int), .int (y.toNat : Int), .int (a - most), oV hi]])))
          rw [Int.toNat_of_nonneg x0, Int.toNat_of_nonneg y0]
        · rcases List.mem_append.mp hw with hw | hw
          · exact hb w hw
          · rw [List.mem_singleton.mp hw]
            exact ⟨by show x.toNat < _; omega, by show y.toNat < _; omega, by show -most ≤ a - most; omega, by show a - most ≤ most; omega, hhi⟩
      (first | rw [Nx_eq] | rw [Arm_eq] | skip); (try simp_all only [ss_nil, Nx_nil, Arm_nil, sz_0, sz_1, sz_2, sz_3, sz_4, sz_5, sz_6, sz_7, sz_8, sz_9, sz_10, sz_11, sz_12, cp_2, cp_3, cp_4, cp_5, cp_6, cp_7, cp_12, cp_20, cp_30, cp_38, cp_39, cp_40])
      refine callS_of ⟨hpu _, .of (by decide), fun u u0 u1 _ => ?_⟩
      simp_all only [ss_nil, Nx_nil, Arm_nil, sz_0, sz_1, sz_2, sz_3, sz_4, sz_5, sz_6, sz_7, sz_8, sz_9, sz_10, sz_11, sz_12, cp_2, cp_3, cp_4, cp_5, cp_6, cp_7, cp_12, cp_20, cp_30, cp_38, cp_39, cp_40]
      split
      · exact fin none fun h e => by cases e
      · refine callS_of ⟨hpu _, .of (by omega), fun b b0 b1 b2 => ?_⟩
        have hb' : b ≤ most := by rcases Int.lt_or_le (most + 1) 2 with h | h <;> omega
        simp_all only [ss_nil, Nx_nil, Arm_nil, sz_0, sz_1, sz_2, sz_3, sz_4, sz_5, sz_6, sz_7, sz_8, sz_9, sz_10, sz_11, sz_12, cp_2, cp_3, cp_4, cp_5, cp_6, cp_7, cp_12, cp_20, cp_30, cp_38, cp_39, cp_40]
        refine callS_of ⟨hpu _, by simp, by simp only [List.length_cons, List.length_nil]; decide, fun j v hv => ?_⟩
        have hv' : ∃ z : Int, v = .int z ∧ 0 ≤ z ∧ z ≤ 1 := by
          have := mem_at' hv
          simp only [List.mem_cons, List.not_mem_nil, or_false] at this
          rcases this with e | e | e | e <;> exact ⟨_, e, by decide, by decide⟩
        obtain ⟨z, rfl, z0, z1⟩ := hv'
        simp_all only [ss_nil, Nx_nil, Arm_nil, sz_0, sz_1, sz_2, sz_3, sz_4, sz_5, sz_6, sz_7, sz_8, sz_9, sz_10, sz_11, sz_12, cp_2, cp_3, cp_4, cp_5, cp_6, cp_7, cp_12, cp_20, cp_30, cp_38, cp_39, cp_40]
        exact fin (some (a - most + b - z)) fun h e => by cases e; omega
    · rintro τ st ⟨o6, o7, o8, ls, rfl, rfl, hlen, hb⟩
      refine ⟨trivial, ?_⟩
      rw [rg_ln] at hlen
      simp_all only [ss_nil, Nx_nil, Arm_nil, sz_0, sz_1, sz_2, sz_3, sz_4, sz_5, sz_6, sz_7, sz_8, sz_9, sz_10, sz_11, sz_12, cp_2, cp_3, cp_4, cp_5, cp_6, cp_7, cp_12, cp_20, cp_30, cp_38, cp_39, cp_40]
      (first | rw [Nx_eq] | rw [Arm_eq] | skip); (try simp_all only [ss_nil, Nx_nil, Arm_nil, sz_0, sz_1, sz_2, sz_3, sz_4, sz_5, sz_6, sz_7, sz_8, sz_9, sz_10, sz_11, sz_12, cp_2, cp_3, cp_4, cp_5, cp_6, cp_7, cp_12, cp_20, cp_30, cp_38, cp_39, cp_40])
      exact ⟨s, sub_new hq, h ls (by omega) hb⟩
  · exact h.elim
def sp__law_refused : PSpec
  | [j, l, v], st, Q, _ => noRef v = true ∧ ((j = .non ∧ Q (.str "jobs") st) ∨ ∃ (W : Int) (js : List (Int × Int)) (ls : List Lk), j = .tup (js.map jobV) ∧ WOk W js ls ∧ ((l = .non ∧ Q (.str "links") st) ∨
      (l = .tup (ls.map lkV) ∧ wholeB v 0 (.int 9999) = false ∧ Q (.str "end") st)))
  | _, _, _, _ => False
def b__law_refused : Ss :=
  (.cons (.tryX (.cons (.expr (.call "latest_hours" sp_latest_hours (.cons (.var 0) (.cons (.var 1) (.cons (.var 2) .nil))))) .nil) "BadValue" 3 (.fld "what")) (.cons (.ret .non) .nil))
def n__law_refused : List Str := ["jobs", "links", "end", "e"]
theorem whatW {w : Str} {τ : Sl} {Q : PV → Prop} (h : Q (.str w)) : wpX (.fld "what") (errW w) τ Q := by
  unfold wpX
  show oP (some (PV.str w)) Q
  exact h
theorem w__law_refused : ∀ vs s Q X, vs.length = 3 → sp__law_refused vs s Q X → wpFn n__law_refused.length b__law_refused vs s Q X := by
  intro vs s Q X hl h
  unfold sp__law_refused at h
  split at h
  · rename_i j l v
    rw [fn_eq]
    unfold b__law_refused n__law_refused
    have tr : ∀ {D : PEnds} {τ : Sl} {w : Str} {st : Store}, getS τ 3 = none → 3 < τ.length → D.rt (.str w) st → KEx (D.tr "BadValue" 3 (.fld "what")) τ (errW w) st := fun hg hl h =>
      kex_tr (by show ("BadValue" : Str) ∈ excNames; decide) (by show subC "BadValue" "BadValue" = true; decide) hg hl (whatW h)
    obtain ⟨hn, ⟨rfl, h⟩ | ⟨W, js, ls, rfl, O, ⟨rfl, h⟩ | ⟨rfl, h1, h⟩⟩⟩ := h
    · simp_all only [ss_nil, Nx_nil, Arm_nil, sz_0, sz_1, sz_2, sz_3, sz_4, sz_5, sz_6, sz_7, sz_8, sz_9, sz_10, sz_11, sz_12, cp_2, cp_3, cp_4, cp_5, cp_6, cp_7, cp_12, cp_20, cp_30, cp_38, cp_39, cp_40]
      (first | rw [Nx_eq] | rw [Arm_eq] | skip); (try simp_all only [ss_nil, Nx_nil, Arm_nil, sz_0, sz_1, sz_2, sz_3, sz_4, sz_5, sz_6, sz_7, sz_8, sz_9, sz_10, sz_11, sz_12, cp_2, cp_3, cp_4, cp_5, cp_6, cp_7, cp_12, cp_20, cp_30, cp_38, cp_39, cp_40])
      exact callS_of ⟨hn, .inl ⟨rfl, tr rfl (by show 3 < 4; decide) ⟨s, .rfl, h⟩⟩⟩
    · simp_all only [ss_nil, Nx_nil, Arm_nil, sz_0, sz_1, sz_2, sz_3, sz_4, sz_5, sz_6, sz_7, sz_8, sz_9, sz_10, sz_11, sz_12, cp_2, cp_3, cp_4, cp_5, cp_6, cp_7, cp_12, cp_20, cp_30, cp_38, cp_39, cp_40]
      (first | rw [Nx_eq] | rw [Arm_eq] | skip); (try simp_all only [ss_nil, Nx_nil, Arm_nil, sz_0, sz_1, sz_2, sz_3, sz_4, sz_5, sz_6, sz_7, sz_8, sz_9, sz_10, sz_11, sz_12, cp_2, cp_3, cp_4, cp_5, cp_6, cp_7, cp_12, cp_20, cp_30, cp_38, cp_39, cp_40])
      exact callS_of ⟨hn, .inr ⟨W, js, ls, rfl, O, .inl ⟨rfl, tr rfl (by show 3 < 4; decide) ⟨s, .rfl, h⟩⟩⟩⟩
    · simp_all only [ss_nil, Nx_nil, Arm_nil, sz_0, sz_1, sz_2, sz_3, sz_4, sz_5, sz_6, sz_7, sz_8, sz_9, sz_10, sz_11, sz_12, cp_2, cp_3, cp_4, cp_5, cp_6, cp_7, cp_12, cp_20, cp_30, cp_38, cp_39, cp_40]
      (first | rw [Nx_eq] | rw [Arm_eq] | skip); (try simp_all only [ss_nil, Nx_nil, Arm_nil, sz_0, sz_1, sz_2, sz_3, sz_4, sz_5, sz_6, sz_7, sz_8, sz_9, sz_10, sz_11, sz_12, cp_2, cp_3, cp_4, cp_5, cp_6, cp_7, cp_12, cp_20, cp_30, cp_38, cp_39, cp_40])
      refine callS_of ⟨hn, .inr ⟨W, js, ls, rfl, O, .inr ⟨rfl, fun _ => tr rfl (by show 3 < 4; decide) ⟨s, .rfl, h⟩, fun d e h0 h9 => ?_⟩⟩⟩
      subst e
      rw [whole_t h0 h9] at h1
      cases h1
  · exact h.elim
end TK

set_option maxRecDepth 100000
set_option maxHeartbeats 4000000
namespace TK
open PySem PySem.Spec PyProof.Rows L2
/-! ### rounds that fall: what the lifts tell when they don't end (plain law) -/
def ups {α : Type} (f : Nat → α) (j : Nat) (x : α) : Nat → α := fun k => if k = j then x else f k
theorem ups_same {α : Type} {f : Nat → α} {j : Nat} {x : α} : ups f j x j = x := if_pos rfl
theorem ups_ne {α : Type} {f : Nat → α} {j k : Nat} {x : α} (h : k ≠ j) : ups f j x k = f k := if_neg h
/-- turn and place: b (turns done, times the number of edges) and k (edges done in this turn); v the values, l the last lifts, T when they were -/
structure RI (es : List Ed) (b : Int) (k : Nat) (v : Nat → Int) (l : Nat → Option Nat) (T : Nat → Int) : Prop where
  b0 : 0 ≤ b
  tlt : ∀ j, T j < b + k
  non : ∀ j, l j = none → T j = -1
  som : ∀ j a, l j = some a → 0 ≤ T j ∧ ∃ e, es[a]? = some e ∧ e.j = j ∧ v j ≤ v e.i - e.w ∧ ((T j < T e.i ∨ e.i = j) → v j < v e.i - e.w) ∧ T j - es.length ≤ T e.i
  inj : ∀ i j, i ≠ j → 0 ≤ T i → T i ≠ T j
  cur : ∀ a e, a < k → es[a]? = some e → T e.i < b + a → v e.i - e.w ≤ v e.j
  old : b ≠ 0 → ∀ a e, k ≤ a → es[a]? = some e → T e.i < b - es.length + a → v e.i - e.w ≤ v e.j
section
variable {es : List Ed} {b : Int} {k : Nat} {v : Nat → Int} {l : Nat → Option Nat} {T : Nat → Int}
theorem RI.ge (R : RI es b k v l T) (j : Nat) : -1 ≤ T j := by
  cases e : l j with
  | none => rw [R.non j e]; exact Int.le_refl _
  | some a => have := (R.som j a e).1; omega
theorem ri_init : RI es 0 0 (fun _ => 0) (fun _ => none) (fun _ => -1) :=
  ⟨Int.le_refl _, fun _ => by decide, fun _ _ => rfl, fun _ _ h => (nomatch h), fun _ _ _ h => absurd h (by decide), fun _ _ h => absurd h (Nat.not_lt_zero _), fun h => absurd rfl h⟩
theorem RI.no (R : RI es b k v l T) {e : Ed} (he : es[k]? = some e) (h : v e.i - e.w ≤ v e.j) : RI es b (k + 1) v l T := by
  refine ⟨R.b0, fun j => by have := R.tlt j; omega, R.non, R.som, R.inj, fun a e' ha he' ht => ?_, fun hb a e' ha he' ht => R.old hb a e' (by omega) he' ht⟩
  by_cases hak : a = k
  · subst hak
    rw [he] at he'
    cases he'
    exact h
  · exact R.cur a e' (by omega) he' ht
theorem RI.yes (R : RI es b k v l T) {e : Ed} (he : es[k]? = some e) (h : v e.j < v e.i - e.w) : RI es b (k + 1) (ups v e.j (v e.i - e.w)) (ups l e.j (some k)) (ups T e.j (b + k)) := by
  have hkl : k < es.length := (List.getElem?_eq_some_iff.mp he).1
  have b0 := R.b0
  have vup : ∀ j, v j ≤ ups v e.j (v e.i - e.w) j := fun j => by
    by_cases hj : j = e.j
    · subst hj; rw [ups_same]; omega
    · rw [ups_ne hj]; exact Int.le_refl _
  have tup : ∀ j, T j ≤ ups T e.j (b + k) j := fun j => by
    by_cases hj : j = e.j
    · subst hj; rw [ups_same]; have := R.tlt e.j; omega
    · rw [ups_ne hj]; exact Int.le_refl _
  have recent : b + k - es.length ≤ T e.i := by
    refine Int.not_lt.mp fun z => ?_
    by_cases hb : b = 0
    · have := R.ge e.i; omega
    · have := R.old hb k e (Nat.le_refl _) he (by omega)
      omega
  refine ⟨b0, fun j => ?_, fun j hj => ?_, fun j a hj => ?_, fun i j hij hi => ?_, fun a e' ha he' ht => ?_, fun hb a e' ha he' ht => ?_⟩
  · by_cases hj : j = e.j
    · subst hj; rw [ups_same]; omega
    · rw [ups_ne hj]; have := R.tlt j; omega
  · by_cases hje : j = e.j
    · subst hje; rw [ups_same] at hj; cases hj
    · rw [ups_ne hje] at hj ⊢; exact R.non j hj
  · by_cases hje : j = e.j
    · subst hje
      rw [ups_same] at hj
      cases hj
      rw [ups_same, ups_same]
      refine ⟨by omega, e, he, rfl, ?_, fun hs => ?_, ?_⟩
      · by_cases hi : e.i = e.j
        · rw [hi, ups_same]; rw [hi] at h; omega
        · rw [ups_ne hi]; exact Int.le_refl _
      · by_cases hi : e.i = e.j
        · rw [hi, ups_same]; rw [hi] at h; omega
        · rcases hs with hs | hs
          · rw [ups_ne hi] at hs
            have := R.tlt e.i
            omega
          · exact absurd hs hi
      · have := tup e.i
        omega
    · rw [ups_ne hje] at hj
      rw [ups_ne hje, ups_ne hje]
      obtain ⟨t0, e', he', ej, hle, hst, hr⟩ := R.som j a hj
      refine ⟨t0, e', he', ej, ?_, fun hs => ?_, ?_⟩
      · have := vup e'.i; omega
      · by_cases hi : e'.i = e.j
        · rw [hi, ups_same]
          rw [hi] at hle
          omega
        · rw [ups_ne hi] at hs ⊢
          exact hst hs
      · have := tup e'.i; omega
  · by_cases h1 : i = e.j
    · have h2 : j ≠ e.j := fun z => hij (h1.trans z.symm)
      subst h1
      rw [ups_same, ups_ne h2]
      have := R.tlt j
      omega
    · rw [ups_ne h1] at hi ⊢
      by_cases h2 : j = e.j
      · subst h2; rw [ups_same]
        have := R.tlt i
        omega
      · rw [ups_ne h2]; exact R.inj i j hij hi
  · by_cases hi : e'.i = e.j
    · rw [hi, ups_same] at ht
      omega
    · rw [ups_ne hi] at ht ⊢
      by_cases hak : a = k
      · subst hak
        rw [he] at he'
        cases he'
        rw [ups_same]
        exact Int.le_refl _
      · have := R.cur a e' (by omega) he' ht
        have := vup e'.j
        omega
  · have hal : a < es.length := (List.getElem?_eq_some_iff.mp he').1
    by_cases hi : e'.i = e.j
    · rw [hi, ups_same] at ht
      omega
    · rw [ups_ne hi] at ht ⊢
      have := R.old hb a e' (by omega) he' ht
      have := vup e'.j
      omega
theorem RI.next (R : RI es b es.length v l T) : RI es (b + es.length) 0 v l T := by
  refine ⟨by have := R.b0; omega, fun j => by have := R.tlt j; omega, R.non, R.som, R.inj, fun _ _ h => absurd h (Nat.not_lt_zero _), fun _ a e _ he ht => ?_⟩
  have hal : a < es.length := (List.getElem?_eq_some_iff.mp he).1
  exact R.cur a e hal he (by omega)
/-! the way back -/
def pr (es : List Ed) (l : Nat → Option Nat) (j : Nat) : Nat := match l j with
  | some a => match es[a]? with
    | some e => e.i
    | none => 0
  | none => 0
def it (f : Nat → Nat) : Nat → Nat → Nat
  | 0, j => j
  | k + 1, j => f (it f k j)
theorem it_add (f : Nat → Nat) (a j : Nat) : ∀ b, it f (a + b) j = it f b (it f a j)
  | 0 => rfl
  | b + 1 => congrArg f (it_add f a j b)
theorem pigeon : ∀ (n : Nat) (f : Nat → Nat), (∀ k, k ≤ n → f k < n) → ∃ a b, a < b ∧ b ≤ n ∧ f a = f b
  | 0, f, h => absurd (h 0 (Nat.le_refl _)) (Nat.not_lt_zero _)
  | n + 1, f, h => by
    by_cases hc : ∃ a, a < n + 1 ∧ f a = f (n + 1)
    · obtain ⟨a, ha, e⟩ := hc
      exact ⟨a, n + 1, ha, Nat.le_refl _, e⟩
    · have hne : ∀ a, a < n + 1 → f a ≠ f (n + 1) := fun a ha e => hc ⟨a, ha, e⟩
      have hl := h (n + 1) (Nat.le_refl _)
      obtain ⟨a, b, hab, hb, e⟩ := pigeon n (fun k => if f k > f (n + 1) then f k - 1 else f k) fun k hk => by
        have h1 := h k (by omega)
        have h2 := hne k (by omega)
        show (if f k > f (n + 1) then f k - 1 else f k) < n
        split <;> omega
      refine ⟨a, b, hab, by omega, ?_⟩
      have ha := hne a (by omega)
      have hb' := hne b (by omega)
      have e : (if f a > f (n + 1) then f a - 1 else f a) = (if f b > f (n + 1) then f b - 1 else f b) := e
      split at e <;> split at e <;> omega
def sumTo (f : Nat → Int) : Nat → Int
  | 0 => 0
  | k + 1 => sumTo f k + f k
theorem sum_le {w y : Nat → Int} : ∀ (p : Nat), (∀ k, k < p → w k ≤ y (k + 1) - y k) → sumTo w p ≤ y p - y 0 ∧ ((∃ k, k < p ∧ w k < y (k + 1) - y k) → sumTo w p < y p - y 0)
  | 0, _ => ⟨by show (0 : Int) ≤ y 0 - y 0; omega, fun ⟨_, h, _⟩ => absurd h (Nat.not_lt_zero _)⟩
  | p + 1, h => by
    obtain ⟨h1, h2⟩ := sum_le p fun k hk => h k (by omega)
    have h3 := h p (Nat.lt_succ_self _)
    refine ⟨by show sumTo w p + w p ≤ _; omega, fun ⟨k, hk, hs⟩ => ?_⟩
    show sumTo w p + w p < _
    by_cases hkp : k = p
    · subst hkp; omega
    · have := h2 ⟨k, by omega, hs⟩
      omega
/-- the edge by which a node was lifted last -/
def lw (es : List Ed) (l : Nat → Option Nat) (j : Nat) : Int := match l j with
  | some a => match es[a]? with
    | some e => e.w
    | none => 0
  | none => 0
theorem pr_of {j a : Nat} {e : Ed} (h : l j = some a) (he : es[a]? = some e) : pr es l j = e.i ∧ lw es l j = e.w := by
  unfold pr lw
  rw [h]
  show (match es[a]? with
    | some e => e.i
    | none => 0) = e.i ∧ (match es[a]? with
    | some e => e.w
    | none => 0) = e.w
  rw [he]
  exact ⟨rfl, rfl⟩
/-- lifted in the last turn: the lifts lead back into a round that falls -/
structure Falls (es : List Ed) (l : Nat → Option Nat) (n j0 : Nat) (p : Nat) : Prop where
  p1 : 1 ≤ p
  pn : p ≤ n
  back : ∀ k, k ≤ n → ∃ a, l (it (pr es l) k j0) = some a
  rnd : it (pr es l) p (it (pr es l) n j0) = it (pr es l) n j0
  first : ∀ q, 0 < q → q < p → it (pr es l) q (it (pr es l) n j0) ≠ it (pr es l) n j0
  has : ∀ k, ∃ a e, l (it (pr es l) k (it (pr es l) n j0)) = some a ∧ es[a]? = some e ∧ e.j = it (pr es l) k (it (pr es l) n j0) ∧ e.i = it (pr es l) (k + 1) (it (pr es l) n j0)
  fall : sumTo (fun k => lw es l (it (pr es l) k (it (pr es l) n j0))) p < 0
theorem RI.falls (R : RI es b k v l T) {n j0 : Nat} (hin : InR n es) (hj : j0 < n) (h0 : (n : Int) * es.length ≤ T j0) : ∃ p, Falls es l n j0 p := by
  have tback : ∀ k, k ≤ n → ((n - k : Nat) : Int) * es.length ≤ T (it (pr es l) k j0) ∧ it (pr es l) k j0 < n := by
    intro k
    induction k with
    | zero => intro _; exact ⟨h0, hj⟩
    | succ k ih =>
      intro hk
      obtain ⟨h1, h2⟩ := ih (by omega)
      have e1 : ((n - k : Nat) : Int) * es.length = ((n - (k + 1) : Nat) : Int) * es.length + es.length := by
        rw [show n - k = (n - (k + 1)) + 1 by omega, Int.natCast_add, Int.add_mul]
        omega
      have p0 : 0 ≤ ((n - (k + 1) : Nat) : Int) * es.length := Int.mul_nonneg (by omega) (by omega)
      cases hl : l (it (pr es l) k j0) with
      | none => have := R.non _ hl; omega
      | some a =>
        obtain ⟨_, e, he, _, _, _, hr⟩ := R.som _ a hl
        have hpr := (pr_of hl he).1
        show _ ≤ T (pr es l (it (pr es l) k j0)) ∧ pr es l (it (pr es l) k j0) < n
        rw [hpr]
        exact ⟨by omega, (hin e (List.mem_of_getElem? he)).1⟩
  have back : ∀ k, k ≤ n → ∃ a, l (it (pr es l) k j0) = some a := fun k hk => by
    have h1 := (tback k hk).1
    have p0 : 0 ≤ ((n - k : Nat) : Int) * es.length := Int.mul_nonneg (by omega) (by omega)
    cases hl : l (it (pr es l) k j0) with
    | none => have := R.non _ hl; omega
    | some a => exact ⟨a, rfl⟩
  obtain ⟨a, c, hac, hc, heq⟩ := pigeon n (fun k => it (pr es l) k j0) fun k hk => (tback k hk).2
  have heq : it (pr es l) a j0 = it (pr es l) c j0 := heq
  -- behind a all comes again after c - a steps
  have per : ∀ m, it (pr es l) (a + m) j0 = it (pr es l) (c + m) j0 := fun m => by rw [it_add, it_add, heq]
  have hall : ∀ m, ∃ q, q ≤ n ∧ it (pr es l) (n + m) j0 = it (pr es l) q j0 := by
    intro m
    induction m with
    | zero => exact ⟨n, Nat.le_refl _, rfl⟩
    | succ m ih =>
      obtain ⟨q, hq, e⟩ := ih
      have e2 : it (pr es l) (n + (m + 1)) j0 = it (pr es l) (q + 1) j0 := congrArg (pr es l) e
      by_cases hqn : q = n
      · subst hqn
        have := per (q + 1 - c)
        rw [show c + (q + 1 - c) = q + 1 by omega] at this
        exact ⟨a + (q + 1 - c), by omega, by rw [e2, ← this]⟩
      · exact ⟨q + 1, by omega, e2⟩
  have hx : ∀ m, it (pr es l) m (it (pr es l) n j0) = it (pr es l) (n + m) j0 := fun m => (it_add _ n j0 m).symm
  have hd : it (pr es l) (c - a) (it (pr es l) n j0) = it (pr es l) n j0 := by
    rw [hx]
    have := per (n - a)
    rw [show a + (n - a) = n by omega, show c + (n - a) = n + (c - a) by omega] at this
    exact this.symm
  -- the least such number of steps
  have least : ∃ p, 1 ≤ p ∧ p ≤ n ∧ it (pr es l) p (it (pr es l) n j0) = it (pr es l) n j0 ∧ ∀ q, 0 < q → q < p → it (pr es l) q (it (pr es l) n j0) ≠ it (pr es l) n j0 := by
    have go : ∀ d, 1 ≤ d → d ≤ n → it (pr es l) d (it (pr es l) n j0) = it (pr es l) n j0 → ∃ p, 1 ≤ p ∧ p ≤ n ∧ it (pr es l) p (it (pr es l) n j0) = it (pr es l) n j0 ∧ ∀ q, 0 < q → q < p → it (pr es l) q (it (pr es l) n j0) ≠ it (pr es l) n j0 := by
      intro d
      induction d using Nat.strongRecOn with
      | ind d ih =>
        intro h1 h2 h3
        by_cases h : ∃ q, 0 < q ∧ q < d ∧ it (pr es l) q (it (pr es l) n j0) = it (pr es l) n j0
        · obtain ⟨q, q0, qd, e⟩ := h
          exact ih q qd q0 (by omega) e
        · exact ⟨d, h1, h2, h3, fun q q0 qd e => h ⟨q, q0, qd, e⟩⟩
    exact go (c - a) (by omega) (by omega) hd
  obtain ⟨p, p1, pn, hp, hfirst⟩ := least
  have has : ∀ k, ∃ a e, l (it (pr es l) k (it (pr es l) n j0)) = some a ∧ es[a]? = some e ∧ e.j = it (pr es l) k (it (pr es l) n j0) ∧ e.i = it (pr es l) (k + 1) (it (pr es l) n j0) := fun k => by
    obtain ⟨q, hq, e⟩ := hall k
    obtain ⟨a, ha⟩ := back q hq
    rw [hx, e]
    obtain ⟨_, ed, he, ej, _⟩ := R.som _ a ha
    refine ⟨a, ed, ha, he, ej, ?_⟩
    have : it (pr es l) (k + 1) (it (pr es l) n j0) = pr es l (it (pr es l) k (it (pr es l) n j0)) := rfl
    rw [this, hx, e, (pr_of ha he).1]
  refine ⟨p, p1, pn, back, hp, hfirst, has, ?_⟩
  have steps : ∀ k, lw es l (it (pr es l) k (it (pr es l) n j0)) ≤ v (it (pr es l) (k + 1) (it (pr es l) n j0)) - v (it (pr es l) k (it (pr es l) n j0)) ∧
      ((T (it (pr es l) k (it (pr es l) n j0)) < T (it (pr es l) (k + 1) (it (pr es l) n j0)) ∨ it (pr es l) (k + 1) (it (pr es l) n j0) = it (pr es l) k (it (pr es l) n j0)) → lw es l (it (pr es l) k (it (pr es l) n j0)) < v (it (pr es l) (k + 1) (it (pr es l) n j0)) - v (it (pr es l) k (it (pr es l) n j0))) ∧ 0 ≤ T (it (pr es l) k (it (pr es l) n j0)) := fun k => by
    obtain ⟨a, e, ha, he, ej, ei⟩ := has k
    obtain ⟨t0, e', he', _, hle, hst, _⟩ := R.som _ a ha
    rw [he] at he'
    cases he'
    rw [(pr_of ha he).2, ← ei]
    exact ⟨by omega, fun hs => by have := hst hs; omega, t0⟩
  obtain ⟨_, hlt⟩ := sum_le (w := fun k => lw es l (it (pr es l) k (it (pr es l) n j0))) (y := fun k => v (it (pr es l) k (it (pr es l) n j0))) p fun k _ => (steps k).1
  have strict : ∃ k, k < p ∧ (T (it (pr es l) k (it (pr es l) n j0)) < T (it (pr es l) (k + 1) (it (pr es l) n j0)) ∨ it (pr es l) (k + 1) (it (pr es l) n j0) = it (pr es l) k (it (pr es l) n j0)) := by
    refine Classical.byContradiction fun hno => ?_
    have dec : ∀ k, k < p → T (it (pr es l) (k + 1) (it (pr es l) n j0)) < T (it (pr es l) k (it (pr es l) n j0)) := fun k hk => by
      have h1 : ¬ T (it (pr es l) k (it (pr es l) n j0)) < T (it (pr es l) (k + 1) (it (pr es l) n j0)) := fun z => hno ⟨k, hk, .inl z⟩
      have h2 : it (pr es l) (k + 1) (it (pr es l) n j0) ≠ it (pr es l) k (it (pr es l) n j0) := fun z => hno ⟨k, hk, .inr z⟩
      have := R.inj _ _ h2 (steps (k + 1)).2.2
      omega
    have all : ∀ k, k ≤ p → T (it (pr es l) k (it (pr es l) n j0)) + k ≤ T (it (pr es l) n j0) := by
      intro k
      induction k with
      | zero => intro _; show T (it (pr es l) n j0) + ((0 : Nat) : Int) ≤ _; omega
      | succ k ih =>
        intro hk
        have := ih (by omega)
        have := dec k (by omega)
        omega
    have := all p (Nat.le_refl _)
    rw [hp] at this
    omega
  obtain ⟨q, hq, hs⟩ := strict
  have := hlt ⟨q, hq, (steps q).2.1 hs⟩
  have this : sumTo (fun k => lw es l (it (pr es l) k (it (pr es l) n j0))) p < v (it (pr es l) p (it (pr es l) n j0)) - v (it (pr es l) n j0) := this
  rw [hp] at this
  omega
end
end TK

set_option maxRecDepth 100000
set_option maxHeartbeats 4000000
namespace TK
open PySem PySem.Spec PyProof.Rows L2
/-! ### rounds that fall: relaxed, walked -/
def tab (m : Nat) (f : Nat → PV) : List PV := (List.range m).map f
theorem tab_len {m : Nat} {f : Nat → PV} : (tab m f).length = m := by unfold tab; rw [List.length_map, List.length_range]
theorem tab_get {m k : Nat} {f : Nat → PV} (h : k < m) : (tab m f)[k]? = some (f k) := by
  unfold tab
  rw [List.getElem?_map, List.getElem?_range h]; rfl
theorem tab_at {m k : Nat} {f : Nat → PV} (h : k < m) : atI (tab m f) (k : Int) = some (f k) := by rw [atI_nat]; exact tab_get h
theorem tab_ix {m k : Nat} {f : Nat → PV} (h : k < m) : ixN (tab m f).length (k : Int) = some k := ixN_nat (by rw [tab_len]; exact h)
theorem tab_set {m j : Nat} {f g : Nat → PV} {x : PV} (hj : g j = x) (hg : ∀ k, k ≠ j → g k = f k) : (tab m f).set j x = tab m g := by
  have get : ∀ (f : Nat → PV) (k : Nat) (h : k < (tab m f).length), (tab m f)[k] = f k := fun f k h => by
    simp [tab]
  apply List.ext_getElem
  · rw [List.length_set, tab_len, tab_len]
  · intro k h1 h2
    rw [List.getElem_set, get]
    split
    · rename_i e; subst e; rw [get]; exact hj.symm
    · rename_i e; rw [get]; exact (hg k fun z => e z.symm).symm
theorem tab_rep {m : Nat} {x : PV} : (List.replicate m [x]).flatten = tab m fun _ => x := by
  unfold tab
  apply List.ext_getElem?
  intro k
  have e : (List.replicate m [x]).flatten = List.replicate m x := by
    induction m with
    | zero => rfl
    | succ m ih => rw [List.replicate_succ, List.flatten_cons, ih, List.replicate_succ]; rfl
  rw [e, List.getElem?_map, List.getElem?_replicate]
  by_cases h : k < m
  · rw [if_pos h, List.getElem?_range h]; rfl
  · rw [if_neg h, List.getElem?_eq_none (by rw [List.length_range]; omega)]; rfl
def lV : Option Nat → PV
  | none => .int (-1)
  | some a => .int a
def RelR (es : List Ed) (m : Nat) (v : Nat → Int) (l : Nat → Option Nat) (last : Int) : Prop :=
  (last = -1 ∧ ∀ e ∈ es, v e.i - e.w ≤ v e.j) ∨ ∃ (j : Nat) (T : Nat → Int), last = j ∧ j < m ∧ RI es (((m + 1 : Nat) : Int) * es.length) 0 v l T ∧ (m : Int) * es.length ≤ T j
def sp_relaxed : PSpec
  | [.int n, .lst xs], s, Q, _ => ∃ (m : Nat) (es : List Ed), n = m ∧ m ≤ 1000 ∧ xs = es.map edV ∧ InR m es ∧
      ∀ a b st' v l last, s a = none → s b = none → a ≠ b → (∀ x, x ≠ a → x ≠ b → st' x = s x) → st' a = some (.lst (tab m fun k => .int (v k))) → st' b = some (.lst (tab m fun k => lV (l k))) → RelR es m v l last →
        Q (.tup [.ref a, .ref b, .int last]) st'
  | _, _, _, _ => False
def b_relaxed_2 : Ss :=
  (.cons (.ite (.cmp .Gt (.bin .Sub false (.idx (.var 2) (.var 7)) (.var 9)) (.idx (.var 2) (.var 8))) (.cons (.setIx (.var 2) (.var 8) (.bin .Sub false (.idx (.var 2) (.var 7)) (.var 9))) (.cons (.setIx (.var 3) (.var 8) (.var 6)) (.cons (.asg (.name 4) (.var 8)) .nil))) .nil) .nil)
def b_relaxed_1 : Ss :=
  (.cons (.asg (.name 4) (.neg (.int 1))) (.cons (.loop (.tup (.cons (.name 6) (.cons (.tup (.cons (.name 7) (.cons (.name 8) (.cons (.name 9) .nil)))) .nil))) (.enum (.var 1)) b_relaxed_2) (.cons (.ite (.cmp .Lt (.var 4) (.int 0)) (.cons .brk .nil) .nil) .nil)))
def b_relaxed : Ss :=
  (.cons (.asg (.name 2) (.bin .Mult true (.lst false (.cons (.int 0) .nil)) (.var 0))) (.cons (.asg (.name 3) (.bin .Mult true (.lst false (.cons (.neg (.int 1)) .nil)) (.var 0))) (.cons (.asg (.name 4) (.neg (.int 1))) (.cons (.loop (.name 5) (.range1 (.bin .Add false (.var 0) (.int 1))) b_relaxed_1) (.cons (.ret (.tup (.cons (.var 2) (.cons (.var 3) (.cons (.var 4) .nil))))) .nil)))))
def n_relaxed : List Str := ["size", "weights", "values", "lifts", "last", "turn", "at", "i", "j", "weight"]
theorem w_relaxed : ∀ vs s Q X, vs.length = 2 → sp_relaxed vs s Q X → wpFn n_relaxed.length b_relaxed vs s Q X := by
  intro vs s Q X hl h
  unfold sp_relaxed at h
  split at h
  · rename_i n xs
    rw [fn_eq]
    unfold b_relaxed n_relaxed
    obtain ⟨m, es, rfl, m1, rfl, hin, h⟩ := h
    have sz : 1000 ≤ sizeLine := by decide
    simp_all only [ss_nil, Nx_nil, Arm_nil, sz_0, sz_1, sz_2, sz_3, sz_4, sz_5, sz_6, sz_7, sz_8, sz_9, sz_10, sz_11, sz_12, cp_2, cp_3, cp_4, cp_5, cp_6, cp_7, cp_12, cp_20, cp_30, cp_38, cp_39, cp_40]
    refine ⟨by omega, by omega, by simp; omega, fun p hp => ?_⟩
    rw [Int.toNat_natCast, tab_rep]
    (first | rw [Nx_eq] | rw [Arm_eq] | skip); (try simp_all only [ss_nil, Nx_nil, Arm_nil, sz_0, sz_1, sz_2, sz_3, sz_4, sz_5, sz_6, sz_7, sz_8, sz_9, sz_10, sz_11, sz_12, cp_2, cp_3, cp_4, cp_5, cp_6, cp_7, cp_12, cp_20, cp_30, cp_38, cp_39, cp_40])
    refine ⟨by omega, by omega, by simp; omega, fun q hq => ?_⟩
    rw [Int.toNat_natCast, tab_rep]
    have pq : q ≠ p := fun z => by rw [z, up_same] at hq; cases hq
    rw [up_ne pq] at hq
    (first | rw [Nx_eq] | rw [Arm_eq] | skip); (try simp_all only [ss_nil, Nx_nil, Arm_nil, sz_0, sz_1, sz_2, sz_3, sz_4, sz_5, sz_6, sz_7, sz_8, sz_9, sz_10, sz_11, sz_12, cp_2, cp_3, cp_4, cp_5, cp_6, cp_7, cp_12, cp_20, cp_30, cp_38, cp_39, cp_40])
    (first | rw [Nx_eq] | rw [Arm_eq] | skip); (try simp_all only [ss_nil, Nx_nil, Arm_nil, sz_0, sz_1, sz_2, sz_3, sz_4, sz_5, sz_6, sz_7, sz_8, sz_9, sz_10, sz_11, sz_12, cp_2, cp_3, cp_4, cp_5, cp_6, cp_7, cp_12, cp_20, cp_30, cp_38, cp_39, cp_40])
    refine ⟨by unfold R62; omega, ?_⟩
    refine for_at (fun t τ st => ∃ (v : Nat → Int) (l : Nat → Option Nat) (T : Nat → Int) (la : Int) (o5 o6 o7 o8 o9 : Option PV), τ = [some (.int m), some (.lst (es.map edV)), some (.ref p), some (.ref q), some (.int la), o5, o6, o7, o8, o9] ∧
        (∀ x, x ≠ p → x ≠ q → st x = s x) ∧ st p = some (.lst (tab m fun k => .int (v k))) ∧ st q = some (.lst (tab m fun k => lV (l k))) ∧ RI es ((t : Int) * es.length) 0 v l T ∧
        (0 < t → ∃ j : Nat, la = j ∧ j < m ∧ ((t - 1 : Nat) : Int) * es.length ≤ T j)) ?_ ?_
      ⟨fun _ => 0, fun _ => none, fun _ => -1, _, _, _, _, _, _, rfl, fun x h1 h2 => by rw [up_ne h2, up_ne h1], by rw [up_ne (fun z => pq z.symm), up_same], by rw [up_same]; rfl, by rw [Int.natCast_zero, Int.zero_mul]; exact ri_init, fun z => absurd z (Nat.lt_irrefl _)⟩
    · rintro t x τ st ht ⟨v, l, T, la, o5, o6, o7, o8, o9, rfl, hother, hp1, hq1, R0, hla⟩
      refine ⟨trivial, ?_⟩
      unfold b_relaxed_1
      simp_all only [ss_nil, Nx_nil, Arm_nil, sz_0, sz_1, sz_2, sz_3, sz_4, sz_5, sz_6, sz_7, sz_8, sz_9, sz_10, sz_11, sz_12, cp_2, cp_3, cp_4, cp_5, cp_6, cp_7, cp_12, cp_20, cp_30, cp_38, cp_39, cp_40]
      (first | rw [Nx_eq] | rw [Arm_eq] | skip); (try simp_all only [ss_nil, Nx_nil, Arm_nil, sz_0, sz_1, sz_2, sz_3, sz_4, sz_5, sz_6, sz_7, sz_8, sz_9, sz_10, sz_11, sz_12, cp_2, cp_3, cp_4, cp_5, cp_6, cp_7, cp_12, cp_20, cp_30, cp_38, cp_39, cp_40])
      refine for_at (fun k τ st => ∃ (v : Nat → Int) (l : Nat → Option Nat) (T : Nat → Int) (la : Int) (o6 o7 o8 o9 : Option PV), τ = [some (.int m), some (.lst (es.map edV)), some (.ref p), some (.ref q), some (.int la), some x, o6, o7, o8, o9] ∧
          (∀ x, x ≠ p → x ≠ q → st x = s x) ∧ st p = some (.lst (tab m fun k => .int (v k))) ∧ st q = some (.lst (tab m fun k => lV (l k))) ∧ RI es ((t : Int) * es.length) k v l T ∧
          ((la = -1 ∧ ∀ a e, a < k → es[a]? = some e → v e.i - e.w ≤ v e.j) ∨ ∃ j : Nat, la = j ∧ j < m ∧ (t : Int) * es.length ≤ T j)) ?_ ?_
        ⟨v, l, T, -1, _, _, _, _, rfl, hother, hp1, hq1, R0, .inl ⟨rfl, fun _ _ z => absurd z (Nat.not_lt_zero _)⟩⟩
      · clear hla hp1 hq1 hother R0 v l T la h
        rintro k y τ st hk ⟨v, l, T, la, o6, o7, o8, o9, rfl, hother, hp1, hq1, R0, hla⟩
        refine ⟨trivial, ?_⟩
        have hen : ∃ e, y = .tup [.int (k : Int), edV e] ∧ es[k]? = some e := by
          obtain ⟨x, hx, rfl⟩ := get_en hk
          obtain ⟨e, rfl, he⟩ := get_map' hx
          exact ⟨e, by rw [Nat.zero_add], he⟩
        obtain ⟨e, rfl, he⟩ := hen
        obtain ⟨hi', hj⟩ := hin e (mem_at' he)
        have ev : edV e = .tup [.int e.i, .int e.j, .int e.w] := rfl
        have a1 : atI (tab m fun k => .int (v k)) (e.i : Int) = some (.int (v e.i)) := tab_at hi'
        have a2 : atI (tab m fun k => .int (v k)) (e.j : Int) = some (.int (v e.j)) := tab_at hj
        have i1 : ixN (tab m fun k => .int (v k)).length (e.j : Int) = some e.j := tab_ix hj
        have i2 : ixN (tab m fun k => lV (l k)).length (e.j : Int) = some e.j := tab_ix hj
        have hl : (tab m fun k => lV (l k)).length = m := tab_len
        unfold b_relaxed_2
        by_cases hc : v e.j < v e.i - e.w
        · have e1 : (v e.j < v e.i - e.w) = True := eq_true hc
          have sp1 : ∀ c, up st p c q = some (.lst (tab m fun k => lV (l k))) := fun c => by rw [up_ne pq]; exact hq1
          simp_all only [ss_nil, Nx_nil, Arm_nil, sz_0, sz_1, sz_2, sz_3, sz_4, sz_5, sz_6, sz_7, sz_8, sz_9, sz_10, sz_11, sz_12, cp_2, cp_3, cp_4, cp_5, cp_6, cp_7, cp_12, cp_20, cp_30, cp_38, cp_39, cp_40, ev, hp1, a1, a2, e1]
          (first | rw [Nx_eq] | rw [Arm_eq] | skip); (try simp_all only [ss_nil, Nx_nil, Arm_nil, sz_0, sz_1, sz_2, sz_3, sz_4, sz_5, sz_6, sz_7, sz_8, sz_9, sz_10, sz_11, sz_12, cp_2, cp_3, cp_4, cp_5, cp_6, cp_7, cp_12, cp_20, cp_30, cp_38, cp_39, cp_40, hp1, a1, i1])
          (first | rw [Nx_eq] | rw [Arm_eq] | skip); (try simp_all only [ss_nil, Nx_nil, Arm_nil, sz_0, sz_1, sz_2, sz_3, sz_4, sz_5, sz_6, sz_7, sz_8, sz_9, sz_10, sz_11, sz_12, cp_2, cp_3, cp_4, cp_5, cp_6, cp_7, cp_12, cp_20, cp_30, cp_38, cp_39, cp_40, sp1, i2])
          (first | rw [Nx_eq] | rw [Arm_eq] | skip); (try simp_all only [ss_nil, Nx_nil, Arm_nil, sz_0, sz_1, sz_2, sz_3, sz_4, sz_5, sz_6, sz_7, sz_8, sz_9, sz_10, sz_11, sz_12, cp_2, cp_3, cp_4, cp_5, cp_6, cp_7, cp_12, cp_20, cp_30, cp_38, cp_39, cp_40])
          refine ⟨ups v e.j (v e.i - e.w), ups l e.j (some k), ups T e.j ((t : Int) * es.length + k), e.j, _, _, _, _, rfl, fun x h1 h2 => ?_, ?_, ?_, R0.yes he hc, .inr ⟨e.j, rfl, hj, ?_⟩⟩
          · rw [up_ne h2, up_ne h1]; exact hother x h1 h2
          · rw [up_ne (fun z => pq z.symm), up_same]
            rw [tab_set (g := fun k => .int (ups v e.j (v e.i - e.w) k)) (by rw [ups_same]) (fun k hk => by rw [ups_ne hk])]
          · rw [tab_set (g := fun k' => lV (ups l e.j (some k) k')) (by rw [ups_same]; rfl) (fun k hk => by rw [ups_ne hk])]
          · rw [ups_same]; omega
        · have e1 : (v e.j < v e.i - e.w) = False := eq_false hc
          simp_all only [ss_nil, Nx_nil, Arm_nil, sz_0, sz_1, sz_2, sz_3, sz_4, sz_5, sz_6, sz_7, sz_8, sz_9, sz_10, sz_11, sz_12, cp_2, cp_3, cp_4, cp_5, cp_6, cp_7, cp_12, cp_20, cp_30, cp_38, cp_39, cp_40, ev, hp1, a1, a2, e1]
          refine ⟨v, l, T, la, _, _, _, _, rfl, hother, rfl, hq1, R0.no he (by omega), ?_⟩
          rcases hla with ⟨e2, h2⟩ | h2
          · refine .inl ⟨e2, fun a e' ha he' => ?_⟩
            by_cases hak : a = k
            · subst hak
              rw [he] at he'
              cases he'
              omega
            · exact h2 a e' (by omega) he'
          · exact .inr h2
      · clear hla hp1 hq1 hother R0 v l T la
        rintro τ st ⟨v, l, T, la, o6, o7, o8, o9, rfl, hother, hp1, hq1, R0, hla⟩
        have hen : (enumL 0 (es.map edV)).length = es.length := by
          rw [en_len', List.length_map]
        rw [hen] at R0 hla
        refine ⟨trivial, ?_⟩
        have R1 := R0.next
        rw [show (t : Int) * es.length + es.length = ((t + 1 : Nat) : Int) * es.length by rw [Int.natCast_add, Int.add_mul]; omega] at R1
        rcases hla with ⟨rfl, h2⟩ | ⟨j, rfl, hj, h2⟩
        · (first | rw [Nx_eq] | rw [Arm_eq] | skip); (try simp_all only [ss_nil, Nx_nil, Arm_nil, sz_0, sz_1, sz_2, sz_3, sz_4, sz_5, sz_6, sz_7, sz_8, sz_9, sz_10, sz_11, sz_12, cp_2, cp_3, cp_4, cp_5, cp_6, cp_7, cp_12, cp_20, cp_30, cp_38, cp_39, cp_40])
          (first | rw [Nx_eq] | rw [Arm_eq] | skip); (try simp_all only [ss_nil, Nx_nil, Arm_nil, sz_0, sz_1, sz_2, sz_3, sz_4, sz_5, sz_6, sz_7, sz_8, sz_9, sz_10, sz_11, sz_12, cp_2, cp_3, cp_4, cp_5, cp_6, cp_7, cp_12, cp_20, cp_30, cp_38, cp_39, cp_40])
          (first | rw [Nx_eq] | rw [Arm_eq] | skip); (try simp_all only [ss_nil, Nx_nil, Arm_nil, sz_0, sz_1, sz_2, sz_3, sz_4, sz_5, sz_6, sz_7, sz_8, sz_9, sz_10, sz_11, sz_12, cp_2, cp_3, cp_4, cp_5, cp_6, cp_7, cp_12, cp_20, cp_30, cp_38, cp_39, cp_40])
          (first | rw [Nx_eq] | rw [Arm_eq] | skip); (try simp_all only [ss_nil, Nx_nil, Arm_nil, sz_0, sz_1, sz_2, sz_3, sz_4, sz_5, sz_6, sz_7, sz_8, sz_9, sz_10, sz_11, sz_12, cp_2, cp_3, cp_4, cp_5, cp_6, cp_7, cp_12, cp_20, cp_30, cp_38, cp_39, cp_40])
          refine ⟨st, .rfl, h p q st v l (-1) hp hq (fun z => pq z.symm) hother hp1 hq1 (.inl ⟨rfl, fun e he => ?_⟩)⟩
          obtain ⟨a, ha, e1⟩ := List.getElem_of_mem he
          exact h2 a e ha (by rw [List.getElem?_eq_getElem ha, e1])
        · have e1 : ((j : Int) < 0) = False := eq_false (by omega)
          (first | rw [Nx_eq] | rw [Arm_eq] | skip); (try simp_all only [ss_nil, Nx_nil, Arm_nil, sz_0, sz_1, sz_2, sz_3, sz_4, sz_5, sz_6, sz_7, sz_8, sz_9, sz_10, sz_11, sz_12, cp_2, cp_3, cp_4, cp_5, cp_6, cp_7, cp_12, cp_20, cp_30, cp_38, cp_39, cp_40])
          (first | rw [Nx_eq] | rw [Arm_eq] | skip); (try simp_all only [ss_nil, Nx_nil, Arm_nil, sz_0, sz_1, sz_2, sz_3, sz_4, sz_5, sz_6, sz_7, sz_8, sz_9, sz_10, sz_11, sz_12, cp_2, cp_3, cp_4, cp_5, cp_6, cp_7, cp_12, cp_20, cp_30, cp_38, cp_39, cp_40, e1])
          exact ⟨v, l, T, j, _, _, _, _, _, rfl, hother, hp1, hq1, R1, fun _ => ⟨j, rfl, hj, h2⟩⟩
    · rintro τ st ⟨v, l, T, la, o5, o6, o7, o8, o9, rfl, hother, hp1, hq1, R0, hla⟩
      refine ⟨trivial, ?_⟩
      have hlen : (rngL 0 ((m : Int) + 1).toNat).length = m + 1 := by simp [rngL]
      rw [hlen] at R0 hla
      obtain ⟨j, rfl, hj, h2⟩ := hla (Nat.succ_pos _)
      (first | rw [Nx_eq] | rw [Arm_eq] | skip); (try simp_all only [ss_nil, Nx_nil, Arm_nil, sz_0, sz_1, sz_2, sz_3, sz_4, sz_5, sz_6, sz_7, sz_8, sz_9, sz_10, sz_11, sz_12, cp_2, cp_3, cp_4, cp_5, cp_6, cp_7, cp_12, cp_20, cp_30, cp_38, cp_39, cp_40])
      (first | rw [Nx_eq] | rw [Arm_eq] | skip); (try simp_all only [ss_nil, Nx_nil, Arm_nil, sz_0, sz_1, sz_2, sz_3, sz_4, sz_5, sz_6, sz_7, sz_8, sz_9, sz_10, sz_11, sz_12, cp_2, cp_3, cp_4, cp_5, cp_6, cp_7, cp_12, cp_20, cp_30, cp_38, cp_39, cp_40])
      exact ⟨st, .rfl, h p q st v l j hp hq (fun z => pq z.symm) hother hp1 hq1 (.inr ⟨j, T, rfl, hj, R0, h2⟩)⟩
  · exact h.elim
end TK

set_option maxRecDepth 100000
set_option maxHeartbeats 4000000
namespace TK
open PySem PySem.Spec PyProof.Rows L2
/-! ### rounds that fall: falling_round, walked -/
def wOf (es : List Ed) (a : Nat) : Int := match es[a]? with
  | some e => e.w
  | none => 0
/-- numbers of edges that lead round, each once, with a sum below 0 -/
structure RndOk (es : List Ed) (ns : List Nat) : Prop where
  ne : 0 < ns.length
  len : ns.length ≤ 1000
  nd : ns.Nodup
  lt : ∀ a ∈ ns, a < es.length
  nxt : ∀ k a, ns[k]? = some a → ∃ a' e e', (ns[k + 1]? = some a' ∨ (k + 1 = ns.length ∧ ns[0]? = some a')) ∧ es[a]? = some e ∧ es[a']? = some e' ∧ e.j = e'.i
  fall : (ns.map (wOf es)).sum < 0
def FallR (es : List Ed) (r : PV) : Prop :=
  (r = .non ∧ ∃ v : Nat → Int, ∀ e ∈ es, v e.i - e.w ≤ v e.j) ∨ ∃ ns : List Nat, r = .tup (ns.map fun a => PV.int (a : Nat)) ∧ RndOk es ns
/-- the number of the edge by which a node was lifted last -/
def li (l : Nat → Option Nat) (j : Nat) : Nat := match l j with
  | some a => a
  | none => 0
theorem li_of {l : Nat → Option Nat} {j a : Nat} (h : l j = some a) : li l j = a := by unfold li; rw [h]
/-- the round that the lifts lead back through, forward -/
def rndL (es : List Ed) (l : Nat → Option Nat) (x0 p : Nat) : List Nat := ((List.range p).map fun k => li l (it (pr es l) k x0)).reverse
theorem sum_rev : ∀ (l : List Int), l.reverse.sum = l.sum
  | [] => rfl
  | x :: r => by rw [List.reverse_cons, List.sum_append, sum_rev r, List.sum_cons]; simp [Int.add_comm]
theorem sum_range (f : Nat → Int) : ∀ p, ((List.range p).map f).sum = sumTo f p
  | 0 => rfl
  | p + 1 => by rw [List.range_succ, List.map_append, List.sum_append, sum_range f p]; simp [sumTo]
theorem rnd_ok {es : List Ed} {l : Nat → Option Nat} {n j0 p : Nat} (F : Falls es l n j0 p) (hn : n ≤ 1000) : RndOk es (rndL es l (it (pr es l) n j0) p) := by
  have hlen : (rndL es l (it (pr es l) n j0) p).length = p := by unfold rndL; rw [List.length_reverse, List.length_map, List.length_range]
  have p1 := F.p1
  have get : ∀ k, k < p → (rndL es l (it (pr es l) n j0) p)[k]? = some (li l (it (pr es l) (p - 1 - k) (it (pr es l) n j0))) := fun k hk => by
    unfold rndL
    rw [List.getElem?_reverse (by rw [List.length_map, List.length_range]; exact hk), List.length_map, List.length_range, List.getElem?_map, List.getElem?_range (by omega)]
    rfl
  have ed : ∀ k, ∃ e, es[li l (it (pr es l) k (it (pr es l) n j0))]? = some e ∧ e.j = it (pr es l) k (it (pr es l) n j0) ∧ e.i = it (pr es l) (k + 1) (it (pr es l) n j0) ∧ e.w = lw es l (it (pr es l) k (it (pr es l) n j0)) := fun k => by
    obtain ⟨a, e, ha, he, h1, h2⟩ := F.has k
    rw [li_of ha]
    exact ⟨e, he, h1, h2, (pr_of ha he).2.symm⟩
  have inj : ∀ a b, a < b → b < p → li l (it (pr es l) a (it (pr es l) n j0)) ≠ li l (it (pr es l) b (it (pr es l) n j0)) := by
    intro a b hab hb he
    obtain ⟨e1, g1, j1, _⟩ := ed a
    obtain ⟨e2, g2, j2, _⟩ := ed b
    rw [he, g2] at g1
    cases g1
    have e3 : it (pr es l) a (it (pr es l) n j0) = it (pr es l) b (it (pr es l) n j0) := by rw [← j1, ← j2]
    refine F.first (a + (p - b)) (by omega) (by omega) ?_
    rw [it_add, e3, ← it_add, show b + (p - b) = p by omega]
    exact F.rnd
  refine ⟨by rw [hlen]; exact p1, by rw [hlen]; have := F.pn; omega, ?_, fun a ha => ?_, fun k a hk => ?_, ?_⟩
  · unfold rndL
    show List.Pairwise (· ≠ ·) _
    rw [List.pairwise_reverse, List.pairwise_map]
    refine List.Pairwise.imp_of_mem ?_ (List.pairwise_lt_range (n := p))
    intro a b ha hb hab
    exact fun z => inj a b hab (List.mem_range.mp hb) z.symm
  · unfold rndL at ha
    rw [List.mem_reverse] at ha
    obtain ⟨k, _, rfl⟩ := List.mem_map.mp ha
    obtain ⟨e, he, _⟩ := ed k
    exact (List.getElem?_eq_some_iff.mp he).1
  · have hkp : k < p := by
      have := (List.getElem?_eq_some_iff.mp hk).1
      omega
    rw [get k hkp] at hk
    cases hk
    obtain ⟨e, he, hj, _⟩ := ed (p - 1 - k)
    by_cases hl : k + 1 = p
    · obtain ⟨e', he', _, hi, _⟩ := ed (p - 1)
      refine ⟨_, e, e', .inr ⟨by rw [hlen]; exact hl, get 0 (by omega)⟩, he, he', ?_⟩
      rw [hj, hi, show p - 1 - k = 0 by omega, show p - 1 + 1 = p by omega, F.rnd]; rfl
    · obtain ⟨e', he', _, hi, _⟩ := ed (p - 1 - (k + 1))
      refine ⟨_, e, e', .inl (get (k + 1) (by omega)), he, he', ?_⟩
      rw [hj, hi, show p - 1 - (k + 1) + 1 = p - 1 - k by omega]
  · unfold rndL
    rw [List.map_reverse, sum_rev, List.map_map, sum_range]
    refine Int.lt_of_le_of_lt (Int.le_of_eq ?_) F.fall
    congr 1
    funext k
    obtain ⟨e, he, _, _, hw⟩ := ed k
    show wOf es (li l (it (pr es l) k (it (pr es l) n j0))) = _
    unfold wOf
    rw [he, ← hw]
def sp_falling_round : PSpec
  | [.int n, .lst xs], s, Q, _ => ∃ (m : Nat) (es : List Ed), n = m ∧ m ≤ 1000 ∧ xs = es.map edV ∧ InR m es ∧ ∀ r, FallR es r → Q r s
  | _, _, _, _ => False
def b_falling_round_2 : Ss :=
  (.cons (.expr (.meth .append (.var 4) (.cons (.idx (.var 7) (.var 5)) .nil))) (.cons (.asg (.name 5) (.idx (.idx (.var 1) (.idx (.var 7) (.var 5))) (.int 0))) .nil))
def b_falling_round_1 : Ss :=
  (.cons (.asg (.name 2) (.idx (.idx (.var 1) (.idx (.var 7) (.var 2))) (.int 0))) .nil)
def b_falling_round : Ss :=
  (.cons (.asg (.tup (.cons (.name 6) (.cons (.name 7) (.cons (.name 8) .nil)))) (.call "relaxed" sp_relaxed (.cons (.var 0) (.cons (.var 1) .nil)))) (.cons (.ite (.cmp .Lt (.var 8) (.int 0)) (.cons (.ret .non) .nil) .nil) (.cons (.asg (.name 2) (.var 8)) (.cons (.loop (.name 3) (.range1 (.var 0)) b_falling_round_1) (.cons (.asg (.name 4) (.lst true (.cons (.idx (.var 7) (.var 2)) .nil))) (.cons (.asg (.name 5) (.idx (.idx (.var 1) (.idx (.var 7) (.var 2))) (.int 0))) (.cons (.while (.cmp .NotEq (.var 5) (.var 2)) b_falling_round_2) (.cons (.ret (.blt .tuple false (.cons (.un .revL (.var 4)) .nil))) .nil))))))))
def n_falling_round : List Str := ["size", "weights", "node", "turn", "told", "at", "values", "lifts", "last"]
theorem w_falling_round : ∀ vs s Q X, vs.length = 2 → sp_falling_round vs s Q X → wpFn n_falling_round.length b_falling_round vs s Q X := by
  intro vs s Q X hl h
  unfold sp_falling_round at h
  split at h
  · rename_i n xs
    rw [fn_eq]
    unfold b_falling_round n_falling_round
    obtain ⟨m, es, rfl, m1, rfl, hin, h⟩ := h
    simp_all only [ss_nil, Nx_nil, Arm_nil, sz_0, sz_1, sz_2, sz_3, sz_4, sz_5, sz_6, sz_7, sz_8, sz_9, sz_10, sz_11, sz_12, cp_2, cp_3, cp_4, cp_5, cp_6, cp_7, cp_12, cp_20, cp_30, cp_38, cp_39, cp_40]
    refine callS_of ⟨m, es, rfl, m1, rfl, hin, fun a b st' v l last ha hb hab hother hpa hpb hR => ?_⟩
    have hsub : Sub s st' := fun x d e => by
      rw [hother x (fun z => by rw [z, ha] at e; cases e) (fun z => by rw [z, hb] at e; cases e)]; exact e
    rcases hR with ⟨rfl, hv⟩ | ⟨j, T, rfl, hj, R0, hT⟩
    · (first | rw [Nx_eq] | rw [Arm_eq] | skip); (try simp_all only [ss_nil, Nx_nil, Arm_nil, sz_0, sz_1, sz_2, sz_3, sz_4, sz_5, sz_6, sz_7, sz_8, sz_9, sz_10, sz_11, sz_12, cp_2, cp_3, cp_4, cp_5, cp_6, cp_7, cp_12, cp_20, cp_30, cp_38, cp_39, cp_40])
      (first | rw [Nx_eq] | rw [Arm_eq] | skip); (try simp_all only [ss_nil, Nx_nil, Arm_nil, sz_0, sz_1, sz_2, sz_3, sz_4, sz_5, sz_6, sz_7, sz_8, sz_9, sz_10, sz_11, sz_12, cp_2, cp_3, cp_4, cp_5, cp_6, cp_7, cp_12, cp_20, cp_30, cp_38, cp_39, cp_40])
      (first | rw [Nx_eq] | rw [Arm_eq] | skip); (try simp_all only [ss_nil, Nx_nil, Arm_nil, sz_0, sz_1, sz_2, sz_3, sz_4, sz_5, sz_6, sz_7, sz_8, sz_9, sz_10, sz_11, sz_12, cp_2, cp_3, cp_4, cp_5, cp_6, cp_7, cp_12, cp_20, cp_30, cp_38, cp_39, cp_40])
      exact ⟨s, hsub, h _ (.inl ⟨rfl, v, hv⟩)⟩
    · obtain ⟨p, F⟩ := R0.falls hin hj hT
      have e1 : ((j : Int) < 0) = False := eq_false (by omega)
      -- a node that was lifted
      have node : ∀ x a, x < m → l x = some a → ∃ e, es[a]? = some e ∧ pr es l x = e.i ∧ e.i < m := fun x a hx hl => by
        obtain ⟨_, e, he, _⟩ := R0.som x a hl
        exact ⟨e, he, (pr_of hl he).1, (hin e (List.mem_of_getElem? he)).1⟩
      have fin := rnd_ok F m1
      have ndx : ∀ x a, x < m → l x = some a → atI (tab m fun k => lV (l k)) (x : Int) = some (.int a) := fun x a hx hl => by
        rw [tab_at hx, hl]; rfl
      have edx : ∀ (a : Nat) (e : Ed), es[a]? = some e → atI (es.map edV) (a : Int) = some (.tup [.int e.i, .int e.j, .int e.w]) := fun a e he => by
        rw [atI_nat, List.getElem?_map, he]; rfl
      (first | rw [Nx_eq] | rw [Arm_eq] | skip); (try simp_all only [ss_nil, Nx_nil, Arm_nil, sz_0, sz_1, sz_2, sz_3, sz_4, sz_5, sz_6, sz_7, sz_8, sz_9, sz_10, sz_11, sz_12, cp_2, cp_3, cp_4, cp_5, cp_6, cp_7, cp_12, cp_20, cp_30, cp_38, cp_39, cp_40])
      (first | rw [Nx_eq] | rw [Arm_eq] | skip); (try simp_all only [ss_nil, Nx_nil, Arm_nil, sz_0, sz_1, sz_2, sz_3, sz_4, sz_5, sz_6, sz_7, sz_8, sz_9, sz_10, sz_11, sz_12, cp_2, cp_3, cp_4, cp_5, cp_6, cp_7, cp_12, cp_20, cp_30, cp_38, cp_39, cp_40, e1])
      (first | rw [Nx_eq] | rw [Arm_eq] | skip); (try simp_all only [ss_nil, Nx_nil, Arm_nil, sz_0, sz_1, sz_2, sz_3, sz_4, sz_5, sz_6, sz_7, sz_8, sz_9, sz_10, sz_11, sz_12, cp_2, cp_3, cp_4, cp_5, cp_6, cp_7, cp_12, cp_20, cp_30, cp_38, cp_39, cp_40])
      (first | rw [Nx_eq] | rw [Arm_eq] | skip); (try simp_all only [ss_nil, Nx_nil, Arm_nil, sz_0, sz_1, sz_2, sz_3, sz_4, sz_5, sz_6, sz_7, sz_8, sz_9, sz_10, sz_11, sz_12, cp_2, cp_3, cp_4, cp_5, cp_6, cp_7, cp_12, cp_20, cp_30, cp_38, cp_39, cp_40])
      refine ⟨by unfold R62; omega, ?_⟩
      refine for_at (fun i τ st => ∃ (o3 o4 o5 : Option PV), τ = [some (.int m), some (.lst (es.map edV)), some (.int (it (pr es l) i j)), o3, o4, o5, some (.ref a), some (.ref b), some (.int j)] ∧ st = st' ∧ it (pr es l) i j < m) ?_ ?_ ⟨_, _, _, rfl, rfl, hj⟩
      · rintro i x τ st hi ⟨o3, o4, o5, rfl, rfl, hlt⟩
        have him : i < m := by
          have := (List.getElem?_eq_some_iff.mp hi).1
          simpa [rngL] using this
        refine ⟨trivial, ?_⟩
        obtain ⟨c, hc⟩ := F.back i (by omega)
        obtain ⟨e, he, hpr, hei⟩ := node _ c hlt hc
        have d1 := ndx _ c hlt hc
        have d2 := edx c e he
        have hit : it (pr es l) (i + 1) j = e.i := hpr
        unfold b_falling_round_1
        simp_all only [ss_nil, Nx_nil, Arm_nil, sz_0, sz_1, sz_2, sz_3, sz_4, sz_5, sz_6, sz_7, sz_8, sz_9, sz_10, sz_11, sz_12, cp_2, cp_3, cp_4, cp_5, cp_6, cp_7, cp_12, cp_20, cp_30, cp_38, cp_39, cp_40, hpb, d1, d2]
        exact ⟨_, _, _, by rw [hit], by rw [hit]; exact hei⟩
      · rintro τ st ⟨o3, o4, o5, rfl, rfl, hlt⟩
        refine ⟨trivial, ?_⟩
        have hm : (rngL 0 (m : Int).toNat).length = m := by simp [rngL]
        rw [hm] at hlt ⊢
        clear hm
        have F' := F
        revert fin
        obtain ⟨p1, pn, back, rnd, first, has, _⟩ := F'
        revert rnd first has hlt
        generalize hx0 : it (pr es l) m j = x0
        intro hlt rnd first has fin
        obtain ⟨c, e, hc, he, hej, hei⟩ := has 0
        have hc : l x0 = some c := hc
        have d1 := ndx _ c hlt hc
        have d2 := edx c e he
        (first | rw [Nx_eq] | rw [Arm_eq] | skip); (try simp_all only [ss_nil, Nx_nil, Arm_nil, sz_0, sz_1, sz_2, sz_3, sz_4, sz_5, sz_6, sz_7, sz_8, sz_9, sz_10, sz_11, sz_12, cp_2, cp_3, cp_4, cp_5, cp_6, cp_7, cp_12, cp_20, cp_30, cp_38, cp_39, cp_40])
        (first | rw [Nx_eq] | rw [Arm_eq] | skip); (try simp_all only [ss_nil, Nx_nil, Arm_nil, sz_0, sz_1, sz_2, sz_3, sz_4, sz_5, sz_6, sz_7, sz_8, sz_9, sz_10, sz_11, sz_12, cp_2, cp_3, cp_4, cp_5, cp_6, cp_7, cp_12, cp_20, cp_30, cp_38, cp_39, cp_40, hpb, d1, d2])
        intro q hq
        have qb : q ≠ b := fun z => by rw [z, hpb] at hq; cases hq
        have hpb' : ∀ d, up st q d b = some (.lst (tab m fun k => lV (l k))) := fun d => by rw [up_ne (fun z => qb z.symm)]; exact hpb
        (first | rw [Nx_eq] | rw [Arm_eq] | skip); (try simp_all only [ss_nil, Nx_nil, Arm_nil, sz_0, sz_1, sz_2, sz_3, sz_4, sz_5, sz_6, sz_7, sz_8, sz_9, sz_10, sz_11, sz_12, cp_2, cp_3, cp_4, cp_5, cp_6, cp_7, cp_12, cp_20, cp_30, cp_38, cp_39, cp_40, hpb', d1, d2])
        (first | rw [Nx_eq] | rw [Arm_eq] | skip); (try simp_all only [ss_nil, Nx_nil, Arm_nil, sz_0, sz_1, sz_2, sz_3, sz_4, sz_5, sz_6, sz_7, sz_8, sz_9, sz_10, sz_11, sz_12, cp_2, cp_3, cp_4, cp_5, cp_6, cp_7, cp_12, cp_20, cp_30, cp_38, cp_39, cp_40])
        refine while_ind (fun n τ s2 => ∃ (k : Nat) (o3 : Option PV), 1 ≤ k ∧ k ≤ p ∧ n = p - k ∧ τ = [some (.int m), some (.lst (es.map edV)), some (.int x0), o3, some (.ref q), some (.int (it (pr es l) k x0)), some (.ref a), some (.ref b), some (.int j)] ∧
            s2 = up st q (some (.lst ((List.range k).map fun i => PV.int (li l (it (pr es l) i x0)))))) ?_ (p - 1) ⟨1, _, Nat.le_refl _, p1, rfl, by rw [hei], by rw [show (List.range 1).map (fun i => PV.int (li l (it (pr es l) i x0))) = [.int (li l x0)] from rfl, li_of hc]⟩
        rintro n τ s2 ⟨k, o3, k1, kp, rfl, rfl, rfl⟩
        by_cases hk : it (pr es l) k x0 = x0
        · have kp' : k = p := by
            by_cases z : k = p
            · exact z
            · exact absurd hk (first k (by omega) (by omega))
          subst kp'
          have e2 : ((it (pr es l) k x0 : Int) = (x0 : Int)) = True := eq_true (by rw [hk])
          simp_all only [ss_nil, Nx_nil, Arm_nil, sz_0, sz_1, sz_2, sz_3, sz_4, sz_5, sz_6, sz_7, sz_8, sz_9, sz_10, sz_11, sz_12, cp_2, cp_3, cp_4, cp_5, cp_6, cp_7, cp_12, cp_20, cp_30, cp_38, cp_39, cp_40, hk]
          (first | rw [Nx_eq] | rw [Arm_eq] | skip); (try simp_all only [ss_nil, Nx_nil, Arm_nil, sz_0, sz_1, sz_2, sz_3, sz_4, sz_5, sz_6, sz_7, sz_8, sz_9, sz_10, sz_11, sz_12, cp_2, cp_3, cp_4, cp_5, cp_6, cp_7, cp_12, cp_20, cp_30, cp_38, cp_39, cp_40])
          refine ⟨s, fun x d e => ?_, h _ (.inr ⟨rndL es l x0 k, ?_, fin⟩)⟩
          · have := hsub x d e
            rw [up_ne (fun z => by rw [z, hq] at this; cases this)]
            exact this
          · unfold rndL
            rw [List.map_reverse, List.map_map]; rfl
        · obtain ⟨c, e, hc, he, hej, hei⟩ := has k
          have hkm : it (pr es l) k x0 < m := by rw [← hej]; exact (hin e (List.mem_of_getElem? he)).2
          have d1 := ndx _ c hkm hc
          have d2 := edx c e he
          have e2 : ((it (pr es l) k x0 : Int) = (x0 : Int)) = False := eq_false (by omega)
          have kp' : k < p := by
            by_cases z : k = p
            · subst z; exact absurd rnd hk
            · omega
          have szk : ((List.range k).map fun i => PV.int (li l (it (pr es l) i x0))).length < sizeLine := by
            rw [List.length_map, List.length_range]
            have : 1000 < sizeLine := by decide
            omega
          simp_all only [ss_nil, Nx_nil, Arm_nil, sz_0, sz_1, sz_2, sz_3, sz_4, sz_5, sz_6, sz_7, sz_8, sz_9, sz_10, sz_11, sz_12, cp_2, cp_3, cp_4, cp_5, cp_6, cp_7, cp_12, cp_20, cp_30, cp_38, cp_39, cp_40, e2]
          unfold b_falling_round_2
          simp_all only [ss_nil, Nx_nil, Arm_nil, sz_0, sz_1, sz_2, sz_3, sz_4, sz_5, sz_6, sz_7, sz_8, sz_9, sz_10, sz_11, sz_12, cp_2, cp_3, cp_4, cp_5, cp_6, cp_7, cp_12, cp_20, cp_30, cp_38, cp_39, cp_40, hpb', d1, d2, szk]
          (first | rw [Nx_eq] | rw [Arm_eq] | skip); (try simp_all only [ss_nil, Nx_nil, Arm_nil, sz_0, sz_1, sz_2, sz_3, sz_4, sz_5, sz_6, sz_7, sz_8, sz_9, sz_10, sz_11, sz_12, cp_2, cp_3, cp_4, cp_5, cp_6, cp_7, cp_12, cp_20, cp_30, cp_38, cp_39, cp_40, hpb', d1, d2, up_up])
          refine ⟨p - (k + 1), by omega, k + 1, _, by omega, by omega, rfl, by rw [hei], ?_⟩
          rw [List.range_succ, List.map_append, List.map_cons, List.map_nil, li_of hc]
  · exact h.elim
end TK

set_option maxRecDepth 100000
set_option maxHeartbeats 4000000
namespace TK
open PySem PySem.Spec PyProof.Rows L2
/-! ### the forms of jobs told, their fall, and the law's own look at a round -/
def sp_job_system : PSpec
  | [j, l], st, Q, X => (badJ j = true ∧ X (errW "jobs") st) ∨ ∃ (W : Int) (js : List (Int × Int)) (ls : List Lk), j = .tup (js.map jobV) ∧ WOk W js ls ∧ ((l = .tup (ls.map lkV) ∧ Q (.tup ((sysE js ls).map foV)) st) ∨ (badL (2 * js.length + 1) l = true ∧ X (errW "links") st))
  | _, _, _, _ => False
def b_job_system : Ss :=
  (.cons (.expr (.call "check_jobs" sp_check_jobs (.cons (.var 0) (.cons (.var 1) .nil)))) (.cons (.ret (.call "made_job_system" sp_made_job_system (.cons (.var 0) (.cons (.var 1) .nil)))) .nil))
def n_job_system : List Str := ["jobs", "links"]
theorem w_job_system : ∀ vs s Q X, vs.length = 2 → sp_job_system vs s Q X → wpFn n_job_system.length b_job_system vs s Q X := by
  intro vs s Q X hl h
  unfold sp_job_system at h
  split at h
  · rw [fn_eq]
    unfold b_job_system n_job_system
    rcases h with ⟨hb, h⟩ | ⟨W, js, ls, rfl, O, ⟨rfl, h⟩ | ⟨hb, h⟩⟩
    · simp_all only [ss_nil, Nx_nil, Arm_nil, sz_0, sz_1, sz_2, sz_3, sz_4, sz_5, sz_6, sz_7, sz_8, sz_9, sz_10, sz_11, sz_12, cp_2, cp_3, cp_4, cp_5, cp_6, cp_7, cp_12, cp_20, cp_30, cp_38, cp_39, cp_40]
      exact callS_of (.inl ⟨hb, kex_fn h⟩)
    · simp_all only [ss_nil, Nx_nil, Arm_nil, sz_0, sz_1, sz_2, sz_3, sz_4, sz_5, sz_6, sz_7, sz_8, sz_9, sz_10, sz_11, sz_12, cp_2, cp_3, cp_4, cp_5, cp_6, cp_7, cp_12, cp_20, cp_30, cp_38, cp_39, cp_40]
      refine callS_of (.inr ⟨W, js, ls, rfl, O, .inl ⟨rfl, ?_⟩⟩)
      simp_all only [ss_nil, Nx_nil, Arm_nil, sz_0, sz_1, sz_2, sz_3, sz_4, sz_5, sz_6, sz_7, sz_8, sz_9, sz_10, sz_11, sz_12, cp_2, cp_3, cp_4, cp_5, cp_6, cp_7, cp_12, cp_20, cp_30, cp_38, cp_39, cp_40]
      (first | rw [Nx_eq] | rw [Arm_eq] | skip); (try simp_all only [ss_nil, Nx_nil, Arm_nil, sz_0, sz_1, sz_2, sz_3, sz_4, sz_5, sz_6, sz_7, sz_8, sz_9, sz_10, sz_11, sz_12, cp_2, cp_3, cp_4, cp_5, cp_6, cp_7, cp_12, cp_20, cp_30, cp_38, cp_39, cp_40])
      exact callS_of ⟨js, ls, rfl, rfl, O.nj, O.nl, s, .rfl, h⟩
    · simp_all only [ss_nil, Nx_nil, Arm_nil, sz_0, sz_1, sz_2, sz_3, sz_4, sz_5, sz_6, sz_7, sz_8, sz_9, sz_10, sz_11, sz_12, cp_2, cp_3, cp_4, cp_5, cp_6, cp_7, cp_12, cp_20, cp_30, cp_38, cp_39, cp_40]
      exact callS_of (.inr ⟨W, js, ls, rfl, O, .inr ⟨hb, kex_fn h⟩⟩)
  · exact h.elim
def sp_job_fall : PSpec
  | [.tup xs, .tup ys], st, Q, _ => ∃ (W : Int) (js : List (Int × Int)) (ls : List Lk), xs = js.map jobV ∧ ys = ls.map lkV ∧ WOk W js ls ∧ ∀ r, FallR (sysE js ls) r → Q r st
  | _, _, _, _ => False
def b_job_fall : Ss :=
  (.cons (.expr (.call "check_jobs" sp_check_jobs (.cons (.var 0) (.cons (.var 1) .nil)))) (.cons (.ret (.call "falling_round" sp_falling_round (.cons (.bin .Add false (.bin .Mult false (.int 2) (.blt .len false (.cons (.var 0) .nil))) (.int 1)) (.cons (.call "whole_weights" sp_whole_weights (.cons (.call "made_job_system" sp_made_job_system (.cons (.var 0) (.cons (.var 1) .nil))) .nil)) .nil)))) .nil))
def n_job_fall : List Str := ["jobs", "links"]
theorem w_job_fall : ∀ vs s Q X, vs.length = 2 → sp_job_fall vs s Q X → wpFn n_job_fall.length b_job_fall vs s Q X := by
  intro vs s Q X hl h
  unfold sp_job_fall at h
  split at h
  · rw [fn_eq]
    unfold b_job_fall n_job_fall
    obtain ⟨W, js, ls, rfl, rfl, O, h⟩ := h
    have nj := O.nj
    simp_all only [ss_nil, Nx_nil, Arm_nil, sz_0, sz_1, sz_2, sz_3, sz_4, sz_5, sz_6, sz_7, sz_8, sz_9, sz_10, sz_11, sz_12, cp_2, cp_3, cp_4, cp_5, cp_6, cp_7, cp_12, cp_20, cp_30, cp_38, cp_39, cp_40]
    refine callS_of (.inr ⟨W, js, ls, rfl, O, .inl ⟨rfl, ?_⟩⟩)
    simp_all only [ss_nil, Nx_nil, Arm_nil, sz_0, sz_1, sz_2, sz_3, sz_4, sz_5, sz_6, sz_7, sz_8, sz_9, sz_10, sz_11, sz_12, cp_2, cp_3, cp_4, cp_5, cp_6, cp_7, cp_12, cp_20, cp_30, cp_38, cp_39, cp_40]
    (first | rw [Nx_eq] | rw [Arm_eq] | skip); (try simp_all only [ss_nil, Nx_nil, Arm_nil, sz_0, sz_1, sz_2, sz_3, sz_4, sz_5, sz_6, sz_7, sz_8, sz_9, sz_10, sz_11, sz_12, cp_2, cp_3, cp_4, cp_5, cp_6, cp_7, cp_12, cp_20, cp_30, cp_38, cp_39, cp_40, List.length_map])
    refine ⟨CMul.ok (by unfold CMul; omega), callS_of ⟨js, ls, rfl, rfl, O.nj, O.nl, ?_⟩⟩
    simp_all only [ss_nil, Nx_nil, Arm_nil, sz_0, sz_1, sz_2, sz_3, sz_4, sz_5, sz_6, sz_7, sz_8, sz_9, sz_10, sz_11, sz_12, cp_2, cp_3, cp_4, cp_5, cp_6, cp_7, cp_12, cp_20, cp_30, cp_38, cp_39, cp_40]
    refine callS_of ⟨sysE js ls, rfl, ?_⟩
    simp_all only [ss_nil, Nx_nil, Arm_nil, sz_0, sz_1, sz_2, sz_3, sz_4, sz_5, sz_6, sz_7, sz_8, sz_9, sz_10, sz_11, sz_12, cp_2, cp_3, cp_4, cp_5, cp_6, cp_7, cp_12, cp_20, cp_30, cp_38, cp_39, cp_40]
    exact callS_of ⟨2 * js.length + 1, sysE js ls, by omega, by omega, rfl, (sys_in O).1, fun r hr => ⟨s, .rfl, h r hr⟩⟩
  · exact h.elim
section
variable {W : Int} {js : List (Int × Int)} {ls : List Lk}
theorem plan_of (O : WOk W js ls) {v : Nat → Int} (hv : ∀ e ∈ sysE js ls, v e.i - e.w ≤ v e.j) : early js ls ≠ none := by
  obtain ⟨r, hr⟩ := bf_some (es := sysE js ls) (v := start (2 * js.length + 1)) (q := fun k => some (v k - v 0)) (m := 2 * js.length + 1 + 1) (by rw [start_len (by omega)]; exact (sys_in O).1) vg_0
    (fun e he a ha => by
      cases ha
      have := hv e he
      show v e.i - v 0 - e.w ≤ v e.j - v 0
      omega)
    (start_le (by show some (v 0 - v 0) = some 0; rw [Int.sub_self])) (by show some (v 0 - v 0) = some 0; rw [Int.sub_self]) (by rw [start_len (by omega)]; omega)
  intro z
  unfold early at z
  rw [z] at hr; cases hr
theorem sum_neg (f : Nat → Int) : ∀ p, sumTo (fun k => -f k) p = -sumTo f p
  | 0 => rfl
  | p + 1 => by show sumTo (fun k => -f k) p + -f p = -(sumTo f p + f p); rw [sum_neg f p]; omega
theorem sum_get (es : List Ed) (ns : List Nat) : (ns.map (wOf es)).sum = sumTo (fun k => wOf es (ns.getD k 0)) ns.length := by
  rw [← sum_range]
  congr 1
  refine List.ext_getElem (by simp) fun i h1 h2 => ?_
  rw [List.length_map] at h1
  simp [List.getD_eq_getElem?_getD, List.getElem?_eq_getElem h1]
theorem rnd_no {es : List Ed} {ns : List Nat} (R : RndOk es ns) {v : Nat → Int} (hv : ∀ e ∈ es, v e.i - e.w ≤ v e.j) : False := by
  let y : Nat → Int := fun k => match es[ns.getD (if k = ns.length then 0 else k) 0]? with
    | some e => v e.i
    | none => 0
  have hy : ∀ k a e, k < ns.length → ns[k]? = some a → es[a]? = some e → y k = v e.i := fun k a e hk ha he => by
    show (match es[ns.getD (if k = ns.length then 0 else k) 0]? with
      | some e => v e.i
      | none => 0) = _
    rw [if_neg (by omega), List.getD_eq_getElem?_getD, ha]
    show (match es[a]? with
      | some e => v e.i
      | none => 0) = _
    rw [he]
  have hyl : y ns.length = y 0 := by
    show (match es[ns.getD (if ns.length = ns.length then 0 else ns.length) 0]? with
      | some e => v e.i
      | none => 0) = (match es[ns.getD (if 0 = ns.length then 0 else 0) 0]? with
      | some e => v e.i
      | none => 0)
    rw [if_pos rfl, ite_self]
  have := (sum_le (w := fun k => -wOf es (ns.getD k 0)) (y := y) ns.length fun k hk => by
    have ha : ns[k]? = some ns[k] := List.getElem?_eq_getElem hk
    obtain ⟨a', e, e', hn, he, he', hj⟩ := R.nxt k _ ha
    have h1 := hy k _ e hk ha he
    have h2 : y (k + 1) = v e'.i := by
      rcases hn with hn | ⟨hl, hn⟩
      · exact hy (k + 1) _ e' (List.getElem?_eq_some_iff.mp hn).1 hn he'
      · rw [hl, hyl]
        exact hy 0 _ e' R.ne hn he'
    have hw : wOf es (ns.getD k 0) = e.w := by
      rw [List.getD_eq_getElem?_getD, ha]
      show wOf es ns[k] = _
      unfold wOf
      rw [he]
    show -wOf es (ns.getD k 0) ≤ _
    rw [hw, h1, h2, ← hj]
    have := hv e (List.mem_of_getElem? he)
    omega).1
  rw [hyl, sum_neg, ← sum_get] at this
  have := R.fall
  omega
theorem no_plan (O : WOk W js ls) {ns : List Nat} (R : RndOk (sysE js ls) ns) : early js ls = none := by
  cases h : early js ls with
  | none => rfl
  | some r =>
    obtain ⟨hs, _, hl, s1, _⟩ := early_some O h
    refine (rnd_no R (v := fun k => hs.getD k 0) fun e he => ?_).elim
    obtain ⟨hi, hj⟩ := (sys_in O).1 e he
    have e1 : hs[e.i]? = some (hs[e.i]'(by omega)) := List.getElem?_eq_getElem (by omega)
    have e2 : hs[e.j]? = some (hs[e.j]'(by omega)) := List.getElem?_eq_getElem (by omega)
    have := s1 e he _ e1
    have this : leO _ hs[e.j]? := this
    rw [e2] at this
    have this : hs[e.i]'(by omega) - e.w ≤ hs[e.j]'(by omega) := this
    show hs.getD e.i 0 - e.w ≤ hs.getD e.j 0
    rw [List.getD_eq_getElem?_getD, List.getD_eq_getElem?_getD, e1, e2]
    exact this
end
def ntV (ns : List Nat) : PV := .tup (ns.map fun a => PV.int (a : Nat))
def sp__law_numbers : PSpec
  | [v, .int n], st, Q, _ => ∃ (ns : List Nat) (m : Nat), v = ntV ns ∧ n = m ∧ ns.length ≤ 1000 ∧ ns.Nodup ∧ (∀ a ∈ ns, a < m) ∧ Q (.bl true) st
  | _, _, _, _ => False
def b__law_numbers_1 : Ss :=
  (.cons (.ite (.bools .Or (.cons (.not (.val (.call "_law_int" sp__law_int (.cons (.var 3) .nil)))) (.cons (.not (.chain .LtE .Lt (.int 0) (.var 3) (.var 1))) (.cons (.cmp .In (.var 3) (.var 2)) .nil)))) (.cons (.ret (.bl false)) .nil) .nil) (.cons (.expr (.meth .append (.var 2) (.cons (.var 3) .nil))) .nil))
def b__law_numbers : Ss :=
  (.cons (.ite (.not (.val (.isi (.var 0) "tuple"))) (.cons (.ret (.bl false)) .nil) .nil) (.cons (.asg (.name 2) (.lst true .nil)) (.cons (.loop (.name 3) (.val (.var 0)) b__law_numbers_1) (.cons (.ret (.bl true)) .nil))))
def n__law_numbers : List Str := ["value", "many", "seen", "number"]
theorem any_nat {a : Nat} {l : List Nat} : ((l.map fun a => PV.int (a : Nat)).any fun y => eqv y (.int (a : Nat))) = decide (a ∈ l) := by
  induction l with
  | nil => rfl
  | cons x r ih =>
    rw [List.map_cons, List.any_cons, ih]
    have : eqv (.int (x : Nat)) (.int (a : Nat)) = decide ((x : Int) = (a : Int)) := by unfold eqv; rfl
    rw [this, ← Bool.decide_or, decide_eq_decide, List.mem_cons]
    constructor
    · rintro (h | h)
      · exact .inl (by omega)
      · exact .inr h
    · rintro (h | h)
      · exact .inl (by omega)
      · exact .inr h
theorem sc_nats (l : List Nat) : (l.map fun a => PV.int (a : Nat)).all isSc = true := by
  rw [List.all_map, List.all_eq_true]
  intro x _; rfl
theorem nodup_take {ns : List Nat} {i : Nat} {a : Nat} (h : ns.Nodup) (hi : ns[i]? = some a) : a ∉ ns.take i := by
  intro hm
  obtain ⟨k, hk, e⟩ := List.getElem_of_mem hm
  rw [List.length_take] at hk
  rw [List.getElem_take] at e
  obtain ⟨hi', ei⟩ := List.getElem?_eq_some_iff.mp hi
  have := List.pairwise_iff_getElem.mp h k i (by omega) hi' (by omega)
  exact this (by rw [e, ei])
theorem w__law_numbers : ∀ vs s Q X, vs.length = 2 → sp__law_numbers vs s Q X → wpFn n__law_numbers.length b__law_numbers vs s Q X := by
  intro vs s Q X hl h
  unfold sp__law_numbers at h
  split at h
  · rw [fn_eq]
    unfold b__law_numbers n__law_numbers
    obtain ⟨ns, m, rfl, rfl, hlen, hnd, hlt, h⟩ := h
    have sz : 1001 ≤ sizeLine := by decide
    unfold ntV
    simp_all only [ss_nil, Nx_nil, Arm_nil, sz_0, sz_1, sz_2, sz_3, sz_4, sz_5, sz_6, sz_7, sz_8, sz_9, sz_10, sz_11, sz_12, cp_2, cp_3, cp_4, cp_5, cp_6, cp_7, cp_12, cp_20, cp_30, cp_38, cp_39, cp_40]
    (first | rw [Nx_eq] | rw [Arm_eq] | skip); (try simp_all only [ss_nil, Nx_nil, Arm_nil, sz_0, sz_1, sz_2, sz_3, sz_4, sz_5, sz_6, sz_7, sz_8, sz_9, sz_10, sz_11, sz_12, cp_2, cp_3, cp_4, cp_5, cp_6, cp_7, cp_12, cp_20, cp_30, cp_38, cp_39, cp_40])
    intro q hq
    (first | rw [Nx_eq] | rw [Arm_eq] | skip); (try simp_all only [ss_nil, Nx_nil, Arm_nil, sz_0, sz_1, sz_2, sz_3, sz_4, sz_5, sz_6, sz_7, sz_8, sz_9, sz_10, sz_11, sz_12, cp_2, cp_3, cp_4, cp_5, cp_6, cp_7, cp_12, cp_20, cp_30, cp_38, cp_39, cp_40])
    refine for_at (fun i τ st => ∃ (o3 : Option PV), τ = [some (.tup (ns.map fun a => PV.int (a : Nat))), some (.int m), some (.ref q), o3] ∧ st = up s q (some (.lst ((ns.take i).map fun a => PV.int (a : Nat))))) ?_ ?_ ⟨_, rfl, rfl⟩
    · rintro i v τ st hi ⟨o3, rfl, rfl⟩
      obtain ⟨a, rfl, ha⟩ := get_map' hi
      have hil := (List.getElem?_eq_some_iff.mp ha).1
      have ham := hlt a (List.mem_of_getElem? ha)
      have ln : ((ns.take i).map fun a => PV.int (a : Nat)).length < sizeLine := by
        rw [List.length_map, List.length_take]; omega
      have e0 : ((a : Int) < 0) = False := eq_false (by omega)
      have e1 : ((0 : Int) ≤ (a : Int)) = True := eq_true (by omega)
      have e2 : ((a : Int) < (m : Int)) = True := eq_true (by omega)
      have e3 : inOk (up s q (some (.lst ((ns.take i).map fun a => PV.int (a : Nat))))) (.int (a : Int)) (.ref q) ((ns.take i).map fun a => PV.int (a : Nat)) = True := eq_true (.inl ⟨rfl, sc_nats _⟩)
      have e4 : (((ns.take i).map fun a => PV.int (a : Nat)).any fun y => eqv y (.int (a : Nat))) = false := by
        rw [any_nat]; exact decide_eq_false (nodup_take hnd ha)
      refine ⟨trivial, ?_⟩
      unfold b__law_numbers_1
      simp_all only [ss_nil, Nx_nil, Arm_nil, sz_0, sz_1, sz_2, sz_3, sz_4, sz_5, sz_6, sz_7, sz_8, sz_9, sz_10, sz_11, sz_12, cp_2, cp_3, cp_4, cp_5, cp_6, cp_7, cp_12, cp_20, cp_30, cp_38, cp_39, cp_40]
      refine callS_of ⟨rfl, ?_⟩
      simp_all only [ss_nil, Nx_nil, Arm_nil, sz_0, sz_1, sz_2, sz_3, sz_4, sz_5, sz_6, sz_7, sz_8, sz_9, sz_10, sz_11, sz_12, cp_2, cp_3, cp_4, cp_5, cp_6, cp_7, cp_12, cp_20, cp_30, cp_38, cp_39, cp_40, isI, e0, e1, e2]
      refine ⟨.inl ⟨rfl, sc_nats _⟩, ?_⟩
      rw [e4]
      simp_all only [ss_nil, Nx_nil, Arm_nil, sz_0, sz_1, sz_2, sz_3, sz_4, sz_5, sz_6, sz_7, sz_8, sz_9, sz_10, sz_11, sz_12, cp_2, cp_3, cp_4, cp_5, cp_6, cp_7, cp_12, cp_20, cp_30, cp_38, cp_39, cp_40]
      (first | rw [Nx_eq] | rw [Arm_eq] | skip); (try simp_all only [ss_nil, Nx_nil, Arm_nil, sz_0, sz_1, sz_2, sz_3, sz_4, sz_5, sz_6, sz_7, sz_8, sz_9, sz_10, sz_11, sz_12, cp_2, cp_3, cp_4, cp_5, cp_6, cp_7, cp_12, cp_20, cp_30, cp_38, cp_39, cp_40, up_up])
      exact ⟨ln, _, rfl, by rw [take_1 ha, List.map_append]; rfl⟩
    · rintro τ st ⟨o3, rfl, rfl⟩
      refine ⟨trivial, ?_⟩
      simp_all only [ss_nil, Nx_nil, Arm_nil, sz_0, sz_1, sz_2, sz_3, sz_4, sz_5, sz_6, sz_7, sz_8, sz_9, sz_10, sz_11, sz_12, cp_2, cp_3, cp_4, cp_5, cp_6, cp_7, cp_12, cp_20, cp_30, cp_38, cp_39, cp_40]
      (first | rw [Nx_eq] | rw [Arm_eq] | skip); (try simp_all only [ss_nil, Nx_nil, Arm_nil, sz_0, sz_1, sz_2, sz_3, sz_4, sz_5, sz_6, sz_7, sz_8, sz_9, sz_10, sz_11, sz_12, cp_2, cp_3, cp_4, cp_5, cp_6, cp_7, cp_12, cp_20, cp_30, cp_38, cp_39, cp_40])
      exact ⟨s, sub_new hq, h⟩
  · exact h.elim
def sp__law_round_falls : PSpec
  | [.lst xs, v], st, Q, _ => ∃ (es : List Ed) (ns : List Nat), xs = es.map edV ∧ v = ntV ns ∧ es.length ≤ 1000 ∧ RndOk es ns ∧ Q (.bl true) st
  | _, _, _, _ => False
def b__law_round_falls_1 : Ss :=
  (.cons (.asg (.name 4) (.ite (.cmp .Lt (.bin .Add false (.var 3) (.int 1)) (.blt .len false (.cons (.var 1) .nil))) (.idx (.var 1) (.bin .Add false (.var 3) (.int 1))) (.idx (.var 1) (.int 0)))) (.cons (.ite (.cmp .NotEq (.idx (.idx (.var 0) (.idx (.var 1) (.var 3))) (.int 1)) (.idx (.idx (.var 0) (.var 4)) (.int 0))) (.cons (.ret (.bl false)) .nil) .nil) (.cons (.asg (.name 2) (.bin .Add false (.var 2) (.idx (.idx (.var 0) (.idx (.var 1) (.var 3))) (.int 2)))) .nil)))
def b__law_round_falls : Ss :=
  (.cons (.ite (.bools .Or (.cons (.not (.val (.call "_law_numbers" sp__law_numbers (.cons (.var 1) (.cons (.blt .len false (.cons (.var 0) .nil)) .nil))))) (.cons (.cmp .Eq (.blt .len false (.cons (.var 1) .nil)) (.int 0)) .nil))) (.cons (.ret (.bl false)) .nil) .nil) (.cons (.asg (.name 2) (.int 0)) (.cons (.loop (.name 3) (.range1 (.blt .len false (.cons (.var 1) .nil))) b__law_round_falls_1) (.cons (.ret (.cmp .Lt (.var 2) (.int 0))) .nil))))
def n__law_round_falls : List Str := ["bounds", "numbers", "total", "at", "after"]
theorem w__law_round_falls : ∀ vs s Q X, vs.length = 2 → sp__law_round_falls vs s Q X → wpFn n__law_round_falls.length b__law_round_falls vs s Q X := by
  intro vs s Q X hl h
  unfold sp__law_round_falls at h
  split at h
  · rw [fn_eq]
    unfold b__law_round_falls n__law_round_falls
    obtain ⟨es, ns, rfl, rfl, hes, F, h⟩ := h
    have n0 := F.ne
    have n1 := F.len
    have e0 : ((ns.length : Int) = 0) = False := eq_false (by omega)
    simp_all only [ss_nil, Nx_nil, Arm_nil, sz_0, sz_1, sz_2, sz_3, sz_4, sz_5, sz_6, sz_7, sz_8, sz_9, sz_10, sz_11, sz_12, cp_2, cp_3, cp_4, cp_5, cp_6, cp_7, cp_12, cp_20, cp_30, cp_38, cp_39, cp_40, List.length_map]
    refine callS_of ⟨ns, es.length, rfl, rfl, F.len, F.nd, F.lt, ?_⟩
    unfold ntV
    simp_all only [ss_nil, Nx_nil, Arm_nil, sz_0, sz_1, sz_2, sz_3, sz_4, sz_5, sz_6, sz_7, sz_8, sz_9, sz_10, sz_11, sz_12, cp_2, cp_3, cp_4, cp_5, cp_6, cp_7, cp_12, cp_20, cp_30, cp_38, cp_39, cp_40, List.length_map, e0]
    (first | rw [Nx_eq] | rw [Arm_eq] | skip); (try simp_all only [ss_nil, Nx_nil, Arm_nil, sz_0, sz_1, sz_2, sz_3, sz_4, sz_5, sz_6, sz_7, sz_8, sz_9, sz_10, sz_11, sz_12, cp_2, cp_3, cp_4, cp_5, cp_6, cp_7, cp_12, cp_20, cp_30, cp_38, cp_39, cp_40])
    (first | rw [Nx_eq] | rw [Arm_eq] | skip); (try simp_all only [ss_nil, Nx_nil, Arm_nil, sz_0, sz_1, sz_2, sz_3, sz_4, sz_5, sz_6, sz_7, sz_8, sz_9, sz_10, sz_11, sz_12, cp_2, cp_3, cp_4, cp_5, cp_6, cp_7, cp_12, cp_20, cp_30, cp_38, cp_39, cp_40, List.length_map])
    refine ⟨by unfold R62; omega, ?_⟩
    refine for_at (fun i τ st => ∃ (o3 o4 : Option PV), τ = [some (.lst (es.map edV)), some (.tup (ns.map fun a => PV.int (a : Nat))), some (.int (sumTo (fun k => wOf es (ns.getD k 0)) i)), o3, o4] ∧ st = s) ?_ ?_ ⟨_, _, rfl, rfl⟩
    · rintro i v τ st hi ⟨o3, o4, rfl, rfl⟩
      obtain ⟨i1, rfl⟩ : i < ns.length ∧ v = .int (i : Nat) := by
        obtain ⟨h1, h2⟩ := List.getElem?_eq_some_iff.mp hi
        simp only [rngL, List.length_map, List.length_range] at h1
        simp only [rngL, List.getElem_map, List.getElem_range] at h2
        rw [Int.zero_add] at h2
        exact ⟨by omega, h2.symm⟩
      have ha : ns[i]? = some ns[i] := List.getElem?_eq_getElem i1
      generalize ns[i] = a at ha
      obtain ⟨a', e, e', hn, he, he', hj⟩ := F.nxt i a ha
      have d2 : atI (ns.map fun a => PV.int (a : Nat)) (i : Int) = some (.int (a : Nat)) := by rw [atI_nat, List.getElem?_map, ha]; rfl
      have d3 : atI (es.map edV) (a : Int) = some (.tup [.int e.i, .int e.j, .int e.w]) := by rw [atI_nat, List.getElem?_map, he]; rfl
      have d4 : atI (es.map edV) (a' : Int) = some (.tup [.int e'.i, .int e'.j, .int e'.w]) := by rw [atI_nat, List.getElem?_map, he']; rfl
      have ej : ((e.j : Int) = (e'.i : Int)) = True := eq_true (by omega)
      have sw : sumTo (fun k => wOf es (ns.getD k 0)) (i + 1) = sumTo (fun k => wOf es (ns.getD k 0)) i + e.w := by
        show _ + wOf es (ns.getD i 0) = _
        rw [List.getD_eq_getElem?_getD, ha]
        show _ + wOf es a = _
        unfold wOf
        rw [he]
      rw [sw]
      clear sw
      generalize sumTo (fun k => wOf es (ns.getD k 0)) i = z
      refine ⟨trivial, ?_⟩
      unfold b__law_round_falls_1
      rcases hn with hn | ⟨hl, hn⟩
      · have d1 : atI (ns.map fun a => PV.int (a : Nat)) ((i : Int) + 1) = some (.int (a' : Nat)) := by
          have := atI_nat (xs := ns.map fun a => PV.int (a : Nat)) (n := i + 1)
          rw [List.getElem?_map, hn] at this
          exact this
        have h1 := (List.getElem?_eq_some_iff.mp hn).1
        have e1 : ((i : Int) + 1 < (ns.length : Int)) = True := eq_true (by omega)
        simp_all only [ss_nil, Nx_nil, Arm_nil, sz_0, sz_1, sz_2, sz_3, sz_4, sz_5, sz_6, sz_7, sz_8, sz_9, sz_10, sz_11, sz_12, cp_2, cp_3, cp_4, cp_5, cp_6, cp_7, cp_12, cp_20, cp_30, cp_38, cp_39, cp_40, List.length_map, e1, d1]
        (first | rw [Nx_eq] | rw [Arm_eq] | skip); (try simp_all only [ss_nil, Nx_nil, Arm_nil, sz_0, sz_1, sz_2, sz_3, sz_4, sz_5, sz_6, sz_7, sz_8, sz_9, sz_10, sz_11, sz_12, cp_2, cp_3, cp_4, cp_5, cp_6, cp_7, cp_12, cp_20, cp_30, cp_38, cp_39, cp_40, d2, d3, d4, ej])
        (first | rw [Nx_eq] | rw [Arm_eq] | skip); (try simp_all only [ss_nil, Nx_nil, Arm_nil, sz_0, sz_1, sz_2, sz_3, sz_4, sz_5, sz_6, sz_7, sz_8, sz_9, sz_10, sz_11, sz_12, cp_2, cp_3, cp_4, cp_5, cp_6, cp_7, cp_12, cp_20, cp_30, cp_38, cp_39, cp_40, d2, d3])
        exact ⟨_, _, rfl⟩
      · have d1 : atI (ns.map fun a => PV.int (a : Nat)) 0 = some (.int (a' : Nat)) := by
          have := atI_nat (xs := ns.map fun a => PV.int (a : Nat)) (n := 0)
          rw [List.getElem?_map, hn] at this
          exact this
        have e1 : ((i : Int) + 1 < (ns.length : Int)) = False := eq_false (by omega)
        simp_all only [ss_nil, Nx_nil, Arm_nil, sz_0, sz_1, sz_2, sz_3, sz_4, sz_5, sz_6, sz_7, sz_8, sz_9, sz_10, sz_11, sz_12, cp_2, cp_3, cp_4, cp_5, cp_6, cp_7, cp_12, cp_20, cp_30, cp_38, cp_39, cp_40, List.length_map, e1, d1]
        (first | rw [Nx_eq] | rw [Arm_eq] | skip); (try simp_all only [ss_nil, Nx_nil, Arm_nil, sz_0, sz_1, sz_2, sz_3, sz_4, sz_5, sz_6, sz_7, sz_8, sz_9, sz_10, sz_11, sz_12, cp_2, cp_3, cp_4, cp_5, cp_6, cp_7, cp_12, cp_20, cp_30, cp_38, cp_39, cp_40, d2, d3, d4, ej])
        (first | rw [Nx_eq] | rw [Arm_eq] | skip); (try simp_all only [ss_nil, Nx_nil, Arm_nil, sz_0, sz_1, sz_2, sz_3, sz_4, sz_5, sz_6, sz_7, sz_8, sz_9, sz_10, sz_11, sz_12, cp_2, cp_3, cp_4, cp_5, cp_6, cp_7, cp_12, cp_20, cp_30, cp_38, cp_39, cp_40, d2, d3])
        exact ⟨_, _, rfl⟩
    · rintro τ st ⟨o3, o4, rfl, rfl⟩
      refine ⟨trivial, ?_⟩
      have hlen : (rngL 0 (ns.length : Int).toNat).length = ns.length := by simp [rngL]
      rw [hlen, ← sum_get]
      have e1 : ((ns.map (wOf es)).sum < 0) = True := eq_true F.fall
      simp_all only [ss_nil, Nx_nil, Arm_nil, sz_0, sz_1, sz_2, sz_3, sz_4, sz_5, sz_6, sz_7, sz_8, sz_9, sz_10, sz_11, sz_12, cp_2, cp_3, cp_4, cp_5, cp_6, cp_7, cp_12, cp_20, cp_30, cp_38, cp_39, cp_40]
      (first | rw [Nx_eq] | rw [Arm_eq] | skip); (try simp_all only [ss_nil, Nx_nil, Arm_nil, sz_0, sz_1, sz_2, sz_3, sz_4, sz_5, sz_6, sz_7, sz_8, sz_9, sz_10, sz_11, sz_12, cp_2, cp_3, cp_4, cp_5, cp_6, cp_7, cp_12, cp_20, cp_30, cp_38, cp_39, cp_40, e1])
      exact ⟨st, .rfl, h⟩
  · exact h.elim
end TK

set_option maxRecDepth 100000
set_option maxHeartbeats 4000000
namespace TK
open PySem PySem.Spec PyProof.Rows L2
/-! ### the law's own jobs and links, right ones and bad ones -/
theorem ite_K {c : Prop} [Decidable c] {K : Sl → Store → Prop} {τ1 τ2 : Sl} {st : Store} (J : Sl → Prop) (h1 : J τ1) (h2 : J τ2) (h : ∀ τ, J τ → K τ st) : if c then K τ1 st else K τ2 st := by
  split
  · exact h _ h1
  · exact h _ h2
theorem ite_K2 {c : Prop} [Decidable c] {K : Sl → Store → Prop} {τ1 : Sl} {st : Store} {B : Prop} (J : Sl → Prop) (h1 : J τ1) (h : ∀ τ, J τ → K τ st) (h2 : (∀ τ, J τ → K τ st) → B) : if c then K τ1 st else B := by
  split
  · exact h _ h1
  · exact h2 h
/-- a high one beyond the bounds is none -/
def clL (l : Lk) : Lk := ⟨l.x, l.y, l.low, match l.high with
  | some z => if -99 ≤ z ∧ z ≤ 99 then some z else none
  | none => none⟩
def sp__law_world : PSpec
  | [.ref p], st, Q, _ => st p = some .pool ∧ ∀ (js : List (Int × Int)) (ls : List Lk), WOk 99 js ls → Q (.tup [.tup (js.map jobV), .tup (ls.map lkV)]) st
  | _, _, _, _ => False
def b__law_world_2 : Ss :=
  (.cons (.asg (.name 9) (.idx (.var 7) (.int 3))) (.cons (.expr (.meth .append (.var 6) (.cons (.tup (.cons (.idx (.var 7) (.int 0)) (.cons (.idx (.var 7) (.int 1)) (.cons (.idx (.var 7) (.int 2)) (.cons (.ite (.bools .Or (.cons (.cmp .Is (.var 9) .non) (.cons (.chain .LtE .LtE (.neg (.int 99)) (.var 9) (.int 99)) .nil))) (.var 9) .non) .nil))))) .nil))) .nil))
def b__law_world_1 : Ss :=
  (.cons (.asg (.name 8) (.call "_law_draw" sp__law_draw (.cons (.var 0) (.cons (.bin .Add false (.var 1) (.int 1)) .nil)))) (.cons (.expr (.meth .append (.var 3) (.cons (.tup (.cons (.var 8) (.cons (.blt .min2 false (.cons (.int 99) (.cons (.bin .Add false (.var 8) (.call "_law_pick" sp__law_pick (.cons (.var 0) (.cons (.lst false (.cons (.int 0) (.cons (.int 0) (.cons (.int 1) (.cons (.int 2) (.cons (.int 3) (.cons (.int 40) .nil))))))) .nil)))) .nil))) .nil))) .nil))) .nil))
def b__law_world : Ss :=
  (.cons (.asg (.name 1) (.ite (.cmp .Eq (.call "_law_draw" sp__law_draw (.cons (.var 0) (.cons (.int 6) .nil))) (.int 0)) (.int 99) (.int 6))) (.cons (.asg (.name 2) (.ite (.cmp .Eq (.call "_law_draw" sp__law_draw (.cons (.var 0) (.cons (.int 10) .nil))) (.int 0)) (.int 8) (.call "_law_draw" sp__law_draw (.cons (.var 0) (.cons (.int 6) .nil))))) (.cons (.asg (.name 3) (.lst true .nil)) (.cons (.loop (.name 4) (.range1 (.var 2)) b__law_world_1) (.cons (.asg (.name 5) (.ite (.cmp .Eq (.call "_law_draw" sp__law_draw (.cons (.var 0) (.cons (.int 20) .nil))) (.int 0)) (.int 40) (.call "_law_draw" sp__law_draw (.cons (.var 0) (.cons (.int 8) .nil))))) (.cons (.asg (.name 6) (.lst true .nil)) (.cons (.loop (.name 7) (.val (.call "_law_links" sp__law_links (.cons (.var 0) (.cons (.var 3) (.cons (.var 5) (.cons (.var 1) .nil)))))) b__law_world_2) (.cons (.ret (.tup (.cons (.blt .tuple false (.cons (.var 3) .nil)) (.cons (.blt .tuple false (.cons (.var 6) .nil)) .nil)))) .nil))))))))
def n__law_world : List Str := ["pool", "most", "many", "jobs", "k", "links", "told", "link", "low", "high"]
theorem w__law_world : ∀ vs s Q X, vs.length = 1 → sp__law_world vs s Q X → wpFn n__law_world.length b__law_world vs s Q X := by
  intro vs s Q X hl h
  unfold sp__law_world at h
  split at h
  · rename_i p
    rw [fn_eq]
    unfold b__law_world n__law_world
    obtain ⟨hp, h⟩ := h
    have sz : 1000 ≤ sizeLine := by decide
    simp_all only [ss_nil, Nx_nil, Arm_nil, sz_0, sz_1, sz_2, sz_3, sz_4, sz_5, sz_6, sz_7, sz_8, sz_9, sz_10, sz_11, sz_12, cp_2, cp_3, cp_4, cp_5, cp_6, cp_7, cp_12, cp_20, cp_30, cp_38, cp_39, cp_40]
    refine callS_of ⟨hp, .of (by decide), fun a a0 a1 a2 => ?_⟩
    simp_all only [ss_nil, Nx_nil, Arm_nil, sz_0, sz_1, sz_2, sz_3, sz_4, sz_5, sz_6, sz_7, sz_8, sz_9, sz_10, sz_11, sz_12, cp_2, cp_3, cp_4, cp_5, cp_6, cp_7, cp_12, cp_20, cp_30, cp_38, cp_39, cp_40]
    refine ite_K (fun τ => ∃ most : Int, 6 ≤ most ∧ most ≤ 99 ∧ τ = [some (.ref p), some (.int most), none, none, none, none, none, none, none, none]) ⟨99, by decide, by decide, rfl⟩ ⟨6, by decide, by decide, rfl⟩ ?_
    rintro τ ⟨most, t0, t1, rfl⟩
    clear a2 a1 a0 a
    (first | rw [Nx_eq] | rw [Arm_eq] | skip); (try simp_all only [ss_nil, Nx_nil, Arm_nil, sz_0, sz_1, sz_2, sz_3, sz_4, sz_5, sz_6, sz_7, sz_8, sz_9, sz_10, sz_11, sz_12, cp_2, cp_3, cp_4, cp_5, cp_6, cp_7, cp_12, cp_20, cp_30, cp_38, cp_39, cp_40])
    refine callS_of ⟨hp, .of (by decide), fun a a0 a1 a2 => ?_⟩
    simp_all only [ss_nil, Nx_nil, Arm_nil, sz_0, sz_1, sz_2, sz_3, sz_4, sz_5, sz_6, sz_7, sz_8, sz_9, sz_10, sz_11, sz_12, cp_2, cp_3, cp_4, cp_5, cp_6, cp_7, cp_12, cp_20, cp_30, cp_38, cp_39, cp_40]
    refine ite_K2 (fun τ => ∃ many : Int, 0 ≤ many ∧ many ≤ 8 ∧ τ = [some (.ref p), some (.int most), some (.int many), none, none, none, none, none, none, none]) ⟨8, by decide, by decide, rfl⟩ ?_ fun K => ?_
    rotate_left
    · refine callS_of ⟨hp, .of (by decide), fun b b0 b1 _ => ?_⟩
      have b1 := b1 (by decide)
      simp_all only [ss_nil, Nx_nil, Arm_nil, sz_0, sz_1, sz_2, sz_3, sz_4, sz_5, sz_6, sz_7, sz_8, sz_9, sz_10, sz_11, sz_12, cp_2, cp_3, cp_4, cp_5, cp_6, cp_7, cp_12, cp_20, cp_30, cp_38, cp_39, cp_40]
      exact K _ ⟨b, b0, by omega, rfl⟩
    rintro τ ⟨many, m0, m1, rfl⟩
    clear a2 a1 a0 a
    (first | rw [Nx_eq] | rw [Arm_eq] | skip); (try simp_all only [ss_nil, Nx_nil, Arm_nil, sz_0, sz_1, sz_2, sz_3, sz_4, sz_5, sz_6, sz_7, sz_8, sz_9, sz_10, sz_11, sz_12, cp_2, cp_3, cp_4, cp_5, cp_6, cp_7, cp_12, cp_20, cp_30, cp_38, cp_39, cp_40])
    intro q hq
    have pq : p ≠ q := fun e => by rw [← e, hp] at hq; cases hq
    have hpu : ∀ c, up s q c p = some .pool := fun c => by rw [up_ne pq]; exact hp
    (first | rw [Nx_eq] | rw [Arm_eq] | skip); (try simp_all only [ss_nil, Nx_nil, Arm_nil, sz_0, sz_1, sz_2, sz_3, sz_4, sz_5, sz_6, sz_7, sz_8, sz_9, sz_10, sz_11, sz_12, cp_2, cp_3, cp_4, cp_5, cp_6, cp_7, cp_12, cp_20, cp_30, cp_38, cp_39, cp_40])
    refine ⟨by unfold R62; omega, ?_⟩
    refine for_at (fun i τ st => ∃ (o4 o8 : Option PV) (js : List (Int × Int)), τ = [some (.ref p), some (.int most), some (.int many), some (.ref q), o4, none, none, none, o8, none] ∧ st = up s q (some (.lst (js.map jobV))) ∧ js.length = i ∧ ∀ p ∈ js, 0 ≤ p.1 ∧ p.1 ≤ p.2 ∧ p.2 ≤ 99) ?_ ?_ ⟨_, _, [], rfl, rfl, rfl, fun _ h => (nomatch h)⟩
    · rintro i v τ st hi ⟨o4, o8, js, rfl, rfl, hlen, hb⟩
      obtain ⟨i1, rfl⟩ := rg_at hi
      refine ⟨trivial, ?_⟩
      unfold b__law_world_1
      simp_all only [ss_nil, Nx_nil, Arm_nil, sz_0, sz_1, sz_2, sz_3, sz_4, sz_5, sz_6, sz_7, sz_8, sz_9, sz_10, sz_11, sz_12, cp_2, cp_3, cp_4, cp_5, cp_6, cp_7, cp_12, cp_20, cp_30, cp_38, cp_39, cp_40]
      refine callS_of ⟨hpu _, .of (by omega), fun a a0 a1 a2 => ?_⟩
      have ha : a ≤ most := by rcases Int.lt_or_le (most + 1) 2 with h | h <;> omega
      simp_all only [ss_nil, Nx_nil, Arm_nil, sz_0, sz_1, sz_2, sz_3, sz_4, sz_5, sz_6, sz_7, sz_8, sz_9, sz_10, sz_11, sz_12, cp_2, cp_3, cp_4, cp_5, cp_6, cp_7, cp_12, cp_20, cp_30, cp_38, cp_39, cp_40]
      (first | rw [Nx_eq] | rw [Arm_eq] | skip); (try simp_all only [ss_nil, Nx_nil, Arm_nil, sz_0, sz_1, sz_2, sz_3, sz_4, sz_5, sz_6, sz_7, sz_8, sz_9, sz_10, sz_11, sz_12, cp_2, cp_3, cp_4, cp_5, cp_6, cp_7, cp_12, cp_20, cp_30, cp_38, cp_39, cp_40])
      refine callS_of ⟨hpu _, by simp, by simp only [List.length_cons, List.length_nil]; decide, fun j v hv => ?_⟩
      have hv' : ∃ z : Int, v = .int z ∧ 0 ≤ z := by
        have := mem_at' hv
        simp only [List.mem_cons, List.not_mem_nil, or_false] at this
        rcases this with e | e | e | e | e | e <;> exact ⟨_, e, by decide⟩
      obtain ⟨z, rfl, z0⟩ := hv'
      have hm : ∃ w : Int, (if a + z < 99 then a + z else 99) = w ∧ a ≤ w ∧ w ≤ 99 := by
        by_cases hlt : a + z < 99
        · exact ⟨a + z, if_pos hlt, by omega, by omega⟩
        · exact ⟨99, if_neg hlt, by omega, by omega⟩
      obtain ⟨w, hw, w0, w1⟩ := hm
      simp_all only [ss_nil, Nx_nil, Arm_nil, sz_0, sz_1, sz_2, sz_3, sz_4, sz_5, sz_6, sz_7, sz_8, sz_9, sz_10, sz_11, sz_12, cp_2, cp_3, cp_4, cp_5, cp_6, cp_7, cp_12, cp_20, cp_30, cp_38, cp_39, cp_40, up_up, List.length_map, hw]
      refine ⟨by omega, _, _, js ++ [(a, w)], rfl, by rw [List.map_append]; rfl, by rw [List.length_append, hlen]; rfl, fun u hu => ?_⟩
      rcases List.mem_append.mp hu with hu | hu
      · exact hb u hu
      · rw [List.mem_singleton.mp hu]; exact ⟨a0, w0, w1⟩
    · rintro τ st ⟨o4, o8, js, rfl, rfl, hlen, hb⟩
      refine ⟨trivial, ?_⟩
      rw [rg_ln] at hlen
      simp_all only [ss_nil, Nx_nil, Arm_nil, sz_0, sz_1, sz_2, sz_3, sz_4, sz_5, sz_6, sz_7, sz_8, sz_9, sz_10, sz_11, sz_12, cp_2, cp_3, cp_4, cp_5, cp_6, cp_7, cp_12, cp_20, cp_30, cp_38, cp_39, cp_40]
      (first | rw [Nx_eq] | rw [Arm_eq] | skip); (try simp_all only [ss_nil, Nx_nil, Arm_nil, sz_0, sz_1, sz_2, sz_3, sz_4, sz_5, sz_6, sz_7, sz_8, sz_9, sz_10, sz_11, sz_12, cp_2, cp_3, cp_4, cp_5, cp_6, cp_7, cp_12, cp_20, cp_30, cp_38, cp_39, cp_40])
      refine callS_of ⟨hpu _, .of (by decide), fun a a0 a1 a2 => ?_⟩
      simp_all only [ss_nil, Nx_nil, Arm_nil, sz_0, sz_1, sz_2, sz_3, sz_4, sz_5, sz_6, sz_7, sz_8, sz_9, sz_10, sz_11, sz_12, cp_2, cp_3, cp_4, cp_5, cp_6, cp_7, cp_12, cp_20, cp_30, cp_38, cp_39, cp_40]
      refine ite_K2 (fun τ => ∃ links : Int, 0 ≤ links ∧ links ≤ 40 ∧ τ = [some (.ref p), some (.int most), some (.int many), some (.ref q), o4, some (.int links), none, none, o8, none]) ⟨40, by decide, by decide, rfl⟩ ?_ fun K => ?_
      rotate_left
      · refine callS_of ⟨hpu _, .of (by decide), fun b b0 b1 _ => ?_⟩
        have b1 := b1 (by decide)
        simp_all only [ss_nil, Nx_nil, Arm_nil, sz_0, sz_1, sz_2, sz_3, sz_4, sz_5, sz_6, sz_7, sz_8, sz_9, sz_10, sz_11, sz_12, cp_2, cp_3, cp_4, cp_5, cp_6, cp_7, cp_12, cp_20, cp_30, cp_38, cp_39, cp_40]
        exact K _ ⟨b, b0, by omega, rfl⟩
      rintro τ ⟨links, l0, l1, rfl⟩
      clear a2 a1 a0 a
      (first | rw [Nx_eq] | rw [Arm_eq] | skip); (try simp_all only [ss_nil, Nx_nil, Arm_nil, sz_0, sz_1, sz_2, sz_3, sz_4, sz_5, sz_6, sz_7, sz_8, sz_9, sz_10, sz_11, sz_12, cp_2, cp_3, cp_4, cp_5, cp_6, cp_7, cp_12, cp_20, cp_30, cp_38, cp_39, cp_40])
      intro q2 hq2
      have qq : q ≠ q2 := fun e => by rw [← e, up_same] at hq2; cases hq2
      have pq2 : p ≠ q2 := fun e => by rw [← e, hpu] at hq2; cases hq2
      have hqu : ∀ c, up (up s q (some (.lst (js.map jobV)))) q2 c q = some (.lst (js.map jobV)) := fun c => by rw [up_ne qq, up_same]
      have hpu2 : ∀ c, up (up s q (some (.lst (js.map jobV)))) q2 c p = some .pool := fun c => by rw [up_ne pq2]; exact hpu _
      (first | rw [Nx_eq] | rw [Arm_eq] | skip); (try simp_all only [ss_nil, Nx_nil, Arm_nil, sz_0, sz_1, sz_2, sz_3, sz_4, sz_5, sz_6, sz_7, sz_8, sz_9, sz_10, sz_11, sz_12, cp_2, cp_3, cp_4, cp_5, cp_6, cp_7, cp_12, cp_20, cp_30, cp_38, cp_39, cp_40])
      refine callS_of ⟨hpu2 _, js.length, .inr ⟨_, _, rfl, hqu _, by rw [List.length_map]⟩, by omega, l0, l1, by omega, t1, fun ls hll hls => ?_⟩
      simp_all only [ss_nil, Nx_nil, Arm_nil, sz_0, sz_1, sz_2, sz_3, sz_4, sz_5, sz_6, sz_7, sz_8, sz_9, sz_10, sz_11, sz_12, cp_2, cp_3, cp_4, cp_5, cp_6, cp_7, cp_12, cp_20, cp_30, cp_38, cp_39, cp_40]
      refine for_at (fun i τ st => ∃ (o7 o9 : Option PV), τ = [some (.ref p), some (.int most), some (.int many), some (.ref q), o4, some (.int links), some (.ref q2), o7, o8, o9] ∧ st = up (up s q (some (.lst (js.map jobV)))) q2 (some (.lst (((ls.take i).map clL).map lkV)))) ?_ ?_ ⟨_, _, rfl, rfl⟩
      · rintro i v τ st hi ⟨o7, o9, rfl, rfl⟩
        obtain ⟨l, rfl, hl'⟩ := get_map' hi
        have hil := (List.getElem?_eq_some_iff.mp hl').1
        have lv : lkV l = .tup [.int l.x, .int l.y, .int l.low, oV l.high] := rfl
        have ln : (((ls.take i).map clL).map lkV).length ≤ 40 := by
          rw [List.length_map, List.length_map, List.length_take]; omega
        have sn : ((ls.take (i + 1)).map clL).map lkV = ((ls.take i).map clL).map lkV ++ [.tup [.int l.x, .int l.y, .int l.low, oV (clL l).high]] := by
          rw [take_1 hl', List.map_append, List.map_append]; rfl
        refine ⟨trivial, ?_⟩
        unfold b__law_world_2
        rw [sn]
        clear sn
        generalize ((ls.take i).map clL).map lkV = L at *
        cases hh : l.high with
        | none =>
          have ec : (clL l).high = none := by unfold clL; rw [hh]
          have on : oV none = .non := rfl
          rw [hh] at lv
          simp_all only [ss_nil, Nx_nil, Arm_nil, sz_0, sz_1, sz_2, sz_3, sz_4, sz_5, sz_6, sz_7, sz_8, sz_9, sz_10, sz_11, sz_12, cp_2, cp_3, cp_4, cp_5, cp_6, cp_7, cp_12, cp_20, cp_30, cp_38, cp_39, cp_40, lv, on, ec]
          (first | rw [Nx_eq] | rw [Arm_eq] | skip); (try simp_all only [ss_nil, Nx_nil, Arm_nil, sz_0, sz_1, sz_2, sz_3, sz_4, sz_5, sz_6, sz_7, sz_8, sz_9, sz_10, sz_11, sz_12, cp_2, cp_3, cp_4, cp_5, cp_6, cp_7, cp_12, cp_20, cp_30, cp_38, cp_39, cp_40, lv, on, up_up])
          exact ⟨by omega, _, _, rfl⟩
        | some z =>
          have os : ∀ z, oV (some z) = .int z := fun _ => rfl
          have on : oV none = .non := rfl
          rw [hh] at lv
          have ec0 : (clL l).high = if -99 ≤ z ∧ z ≤ 99 then some z else none := by unfold clL; rw [hh]
          by_cases h1 : -99 ≤ z
          · have e1 : (-99 ≤ z) = True := eq_true h1
            by_cases h2 : z ≤ 99
            · have e2 : (z ≤ 99) = True := eq_true h2
              have ec : (clL l).high = some z := by rw [ec0, if_pos ⟨h1, h2⟩]
              clear ec0
              simp_all only [ss_nil, Nx_nil, Arm_nil, sz_0, sz_1, sz_2, sz_3, sz_4, sz_5, sz_6, sz_7, sz_8, sz_9, sz_10, sz_11, sz_12, cp_2, cp_3, cp_4, cp_5, cp_6, cp_7, cp_12, cp_20, cp_30, cp_38, cp_39, cp_40, lv, os, ec]
              (first | rw [Nx_eq] | rw [Arm_eq] | skip); (try simp_all only [ss_nil, Nx_nil, Arm_nil, sz_0, sz_1, sz_2, sz_3, sz_4, sz_5, sz_6, sz_7, sz_8, sz_9, sz_10, sz_11, sz_12, cp_2, cp_3, cp_4, cp_5, cp_6, cp_7, cp_12, cp_20, cp_30, cp_38, cp_39, cp_40, lv, os, up_up, e1, e2])
              exact ⟨by omega, _, _, rfl⟩
            · have e2 : (z ≤ 99) = False := eq_false h2
              have ec : (clL l).high = none := by rw [ec0, if_neg fun z => h2 z.2]
              clear ec0
              simp_all only [ss_nil, Nx_nil, Arm_nil, sz_0, sz_1, sz_2, sz_3, sz_4, sz_5, sz_6, sz_7, sz_8, sz_9, sz_10, sz_11, sz_12, cp_2, cp_3, cp_4, cp_5, cp_6, cp_7, cp_12, cp_20, cp_30, cp_38, cp_39, cp_40, lv, os, on, ec]
              (first | rw [Nx_eq] | rw [Arm_eq] | skip); (try simp_all only [ss_nil, Nx_nil, Arm_nil, sz_0, sz_1, sz_2, sz_3, sz_4, sz_5, sz_6, sz_7, sz_8, sz_9, sz_10, sz_11, sz_12, cp_2, cp_3, cp_4, cp_5, cp_6, cp_7, cp_12, cp_20, cp_30, cp_38, cp_39, cp_40, lv, os, up_up, e1, e2])
              exact ⟨by omega, _, _, rfl⟩
          · have e1 : (-99 ≤ z) = False := eq_false h1
            have ec : (clL l).high = none := by rw [ec0, if_neg fun z => h1 z.1]
            clear ec0
            simp_all only [ss_nil, Nx_nil, Arm_nil, sz_0, sz_1, sz_2, sz_3, sz_4, sz_5, sz_6, sz_7, sz_8, sz_9, sz_10, sz_11, sz_12, cp_2, cp_3, cp_4, cp_5, cp_6, cp_7, cp_12, cp_20, cp_30, cp_38, cp_39, cp_40, lv, os, on, ec]
            (first | rw [Nx_eq] | rw [Arm_eq] | skip); (try simp_all only [ss_nil, Nx_nil, Arm_nil, sz_0, sz_1, sz_2, sz_3, sz_4, sz_5, sz_6, sz_7, sz_8, sz_9, sz_10, sz_11, sz_12, cp_2, cp_3, cp_4, cp_5, cp_6, cp_7, cp_12, cp_20, cp_30, cp_38, cp_39, cp_40, lv, os, up_up, e1])
            exact ⟨by omega, _, _, rfl⟩
      · rintro τ st ⟨o7, o9, rfl, rfl⟩
        refine ⟨trivial, ?_⟩
        rw [List.length_map, List.take_length]
        have fin := h js (ls.map clL) ⟨by omega, by rw [List.length_map]; omega, by decide, fun u hu => by have := hb u hu; omega, fun w hw => by
          obtain ⟨l, hl, rfl⟩ := List.mem_map.mp hw
          obtain ⟨x1, x2, x3, x4, _⟩ := hls l hl
          refine ⟨x1, x2, by show -99 ≤ l.low; omega, by show l.low ≤ 99; omega, by show l.low ≤ 99; omega, fun z hz => ?_⟩
          have hz : (match l.high with
            | some z => if -99 ≤ z ∧ z ≤ 99 then some z else none
            | none => none) = some z := hz
          split at hz
          · split at hz
            · cases hz; omega
            · cases hz
          · cases hz⟩
        simp_all only [ss_nil, Nx_nil, Arm_nil, sz_0, sz_1, sz_2, sz_3, sz_4, sz_5, sz_6, sz_7, sz_8, sz_9, sz_10, sz_11, sz_12, cp_2, cp_3, cp_4, cp_5, cp_6, cp_7, cp_12, cp_20, cp_30, cp_38, cp_39, cp_40]
        (first | rw [Nx_eq] | rw [Arm_eq] | skip); (try simp_all only [ss_nil, Nx_nil, Arm_nil, sz_0, sz_1, sz_2, sz_3, sz_4, sz_5, sz_6, sz_7, sz_8, sz_9, sz_10, sz_11, sz_12, cp_2, cp_3, cp_4, cp_5, cp_6, cp_7, cp_12, cp_20, cp_30, cp_38, cp_39, cp_40, hqu])
        exact ⟨s, fun x d e => by
          rw [up_ne (fun z => by rw [z] at e; rw [up_ne (fun y => qq y.symm)] at hq2; rw [hq2] at e; cases e), up_ne (fun z => by rw [z, hq] at e; cases e)]
          exact e, fin⟩
  · exact h.elim
/-! bad ones -/
def sp__law_bad_jobs : PSpec
  | [.ref p], st, Q, _ => st p = some .pool ∧ ∀ j, badJ j = true → Q j st
  | _, _, _, _ => False
def b__law_bad_jobs : Ss :=
  (.cons (.asg (.name 1) (.lst false (.cons (.tup (.cons (.tup (.cons (.int 3) (.cons (.int 2) .nil))) .nil)) (.cons (.tup (.cons (.tup (.cons (.int 0) (.cons (.int 100) .nil))) .nil)) (.cons (.tup (.cons (.tup (.cons (.neg (.int 1)) (.cons (.int 2) .nil))) .nil)) (.cons (.tup (.cons (.tup (.cons (.bl true) (.cons (.int 2) .nil))) .nil)) (.cons (.tup (.cons (.tup (.cons (.int 1) (.cons (.int 2) (.cons (.int 3) .nil)))) .nil)) .nil))))))) (.cons (.ret (.call "_law_pick" sp__law_pick (.cons (.var 0) (.cons (.bin .Add false (.var 1) (.lst false (.cons (.lst false (.cons (.tup (.cons (.int 1) (.cons (.int 2) .nil))) .nil)) (.cons .non (.cons (.bin .Mult false (.tup (.cons (.tup (.cons (.int 0) (.cons (.int 1) .nil))) .nil)) (.int 9)) .nil))))) .nil)))) .nil))
def n__law_bad_jobs : List Str := ["pool", "bad"]
theorem w__law_bad_jobs : ∀ vs s Q X, vs.length = 1 → sp__law_bad_jobs vs s Q X → wpFn n__law_bad_jobs.length b__law_bad_jobs vs s Q X := by
  intro vs s Q X hl h
  unfold sp__law_bad_jobs at h
  split at h
  · rename_i p
    rw [fn_eq]
    unfold b__law_bad_jobs n__law_bad_jobs
    obtain ⟨hp, h⟩ := h
    simp_all only [ss_nil, Nx_nil, Arm_nil, sz_0, sz_1, sz_2, sz_3, sz_4, sz_5, sz_6, sz_7, sz_8, sz_9, sz_10, sz_11, sz_12, cp_2, cp_3, cp_4, cp_5, cp_6, cp_7, cp_12, cp_20, cp_30, cp_38, cp_39, cp_40]
    (first | rw [Nx_eq] | rw [Arm_eq] | skip); (try simp_all only [ss_nil, Nx_nil, Arm_nil, sz_0, sz_1, sz_2, sz_3, sz_4, sz_5, sz_6, sz_7, sz_8, sz_9, sz_10, sz_11, sz_12, cp_2, cp_3, cp_4, cp_5, cp_6, cp_7, cp_12, cp_20, cp_30, cp_38, cp_39, cp_40])
    refine ⟨⟨by simp, by decide⟩, ?_⟩
    refine callS_of ⟨hp, by simp, by simp only [List.length_cons, List.length_nil]; decide, fun j v hv => ?_⟩
    have hv := mem_at' hv
    simp only [List.mem_cons, List.not_mem_nil, or_false] at hv
    have hb : badJ v = true := by
      rcases hv with e | e | e | e | e | e | e | e <;> (rw [e]; decide)
    exact ⟨s, .rfl, h v hb⟩
  · exact h.elim
theorem badL_of {n : Nat} {xs : List PV} (h : ∀ x ∈ xs, nr1 x = true) (hx : ∃ x ∈ xs, linkB n x = false) : badL n (.tup xs) = true := by
  obtain ⟨x, hx, e⟩ := hx
  have : xs.all (linkB n) = false := by
    refine Bool.eq_false_iff.mpr fun z => ?_
    rw [List.all_eq_true.mp z x hx] at e; cases e
  show (xs.all nr1 && !(decide (xs.length ≤ 40) && xs.all (linkB n))) = true
  rw [this, Bool.and_false, List.all_eq_true.mpr h]; rfl
def sp__law_bad_links : PSpec
  | [.ref p, .int events], st, Q, _ => st p = some .pool ∧ ∃ n : Nat, events = n ∧ ∀ l, badL n l = true → Q l st
  | _, _, _, _ => False
def b__law_bad_links : Ss :=
  (.cons (.asg (.name 2) (.lst false (.cons (.tup (.cons (.int 0) (.cons (.var 1) (.cons (.int 1) (.cons (.int 2) .nil))))) (.cons (.tup (.cons (.var 1) (.cons (.int 0) (.cons (.int 1) (.cons .non .nil))))) (.cons (.tup (.cons (.neg (.int 1)) (.cons (.int 0) (.cons (.int 1) (.cons (.int 2) .nil))))) (.cons (.tup (.cons (.int 0) (.cons (.int 0) (.cons (.int 100) (.cons .non .nil))))) (.cons (.tup (.cons (.int 0) (.cons (.int 0) (.cons (.neg (.int 100)) (.cons .non .nil))))) .nil))))))) (.cons (.asg (.name 2) (.bin .Add false (.var 2) (.lst false (.cons (.tup (.cons (.int 0) (.cons (.int 0) (.cons (.int 1) (.cons (.int 100) .nil))))) (.cons (.tup (.cons (.int 0) (.cons (.int 0) (.cons .non (.cons (.int 2) .nil))))) (.cons (.tup (.cons (.int 0) (.cons (.int 0) (.cons (.int 1) .nil)))) (.cons (.tup (.cons (.int 0) (.cons (.int 0) (.cons (.int 1) (.cons (.bl true) .nil))))) (.cons (.tup (.cons (.bl false) (.cons (.int 0) (.cons (.int 1) (.cons (.int 2) .nil))))) .nil)))))))) (.cons (.asg (.name 3) (.call "_law_pick" sp__law_pick (.cons (.var 0) (.cons (.var 2) .nil)))) (.cons (.ret (.call "_law_pick" sp__law_pick (.cons (.var 0) (.cons (.lst false (.cons (.tup (.cons (.var 3) .nil)) (.cons (.tup (.cons (.tup (.cons (.int 0) (.cons (.int 0) (.cons (.int 0) (.cons (.int 0) .nil))))) (.cons (.var 3) .nil))) (.cons (.tup (.cons (.var 3) (.cons (.tup (.cons (.int 0) (.cons (.int 0) (.cons (.int 0) (.cons (.int 0) .nil))))) .nil))) (.cons (.bin .Mult false (.tup (.cons (.tup (.cons (.int 0) (.cons (.int 0) (.cons (.int 0) (.cons (.int 0) .nil))))) .nil)) (.int 41)) (.cons (.lst false (.cons (.tup (.cons (.int 0) (.cons (.int 0) (.cons (.int 0) (.cons (.int 0) .nil))))) .nil)) .nil)))))) .nil)))) .nil))))
def n__law_bad_links : List Str := ["pool", "events", "bad", "told"]
theorem w__law_bad_links : ∀ vs s Q X, vs.length = 2 → sp__law_bad_links vs s Q X → wpFn n__law_bad_links.length b__law_bad_links vs s Q X := by
  intro vs s Q X hl h
  unfold sp__law_bad_links at h
  split at h
  · rename_i p events
    rw [fn_eq]
    unfold b__law_bad_links n__law_bad_links
    obtain ⟨hp, n, rfl, h⟩ := h
    simp_all only [ss_nil, Nx_nil, Arm_nil, sz_0, sz_1, sz_2, sz_3, sz_4, sz_5, sz_6, sz_7, sz_8, sz_9, sz_10, sz_11, sz_12, cp_2, cp_3, cp_4, cp_5, cp_6, cp_7, cp_12, cp_20, cp_30, cp_38, cp_39, cp_40]
    (first | rw [Nx_eq] | rw [Arm_eq] | skip); (try simp_all only [ss_nil, Nx_nil, Arm_nil, sz_0, sz_1, sz_2, sz_3, sz_4, sz_5, sz_6, sz_7, sz_8, sz_9, sz_10, sz_11, sz_12, cp_2, cp_3, cp_4, cp_5, cp_6, cp_7, cp_12, cp_20, cp_30, cp_38, cp_39, cp_40])
    (first | rw [Nx_eq] | rw [Arm_eq] | skip); (try simp_all only [ss_nil, Nx_nil, Arm_nil, sz_0, sz_1, sz_2, sz_3, sz_4, sz_5, sz_6, sz_7, sz_8, sz_9, sz_10, sz_11, sz_12, cp_2, cp_3, cp_4, cp_5, cp_6, cp_7, cp_12, cp_20, cp_30, cp_38, cp_39, cp_40])
    refine callS_of ⟨hp, by simp, by simp only [List.length_cons, List.length_nil]; decide, fun j v hv => ?_⟩
    have hv := mem_at' hv
    simp only [List.mem_cons, List.not_mem_nil, or_false] at hv
    have wn : wholeB (.int (n : Int)) 0 (.int ((n : Int) - 1)) = false := by
      show (decide ((0 : Int) ≤ n) && decide ((n : Int) ≤ (n : Int) - 1)) = false
      rw [decide_eq_false (show ¬ (n : Int) ≤ (n : Int) - 1 by omega), Bool.and_false]
    have hb : nr1 v = true ∧ linkB n v = false := by
      rcases hv with e | e | e | e | e | e | e | e | e | e <;> (rw [e]; refine ⟨rfl, ?_⟩; unfold linkB; first | rfl | (simp only [wn, Bool.and_false, Bool.false_and]; done) | simp [hiB, wholeB])
    clear hv wn
    simp_all only [ss_nil, Nx_nil, Arm_nil, sz_0, sz_1, sz_2, sz_3, sz_4, sz_5, sz_6, sz_7, sz_8, sz_9, sz_10, sz_11, sz_12, cp_2, cp_3, cp_4, cp_5, cp_6, cp_7, cp_12, cp_20, cp_30, cp_38, cp_39, cp_40]
    (first | rw [Nx_eq] | rw [Arm_eq] | skip); (try simp_all only [ss_nil, Nx_nil, Arm_nil, sz_0, sz_1, sz_2, sz_3, sz_4, sz_5, sz_6, sz_7, sz_8, sz_9, sz_10, sz_11, sz_12, cp_2, cp_3, cp_4, cp_5, cp_6, cp_7, cp_12, cp_20, cp_30, cp_38, cp_39, cp_40])
    refine ⟨⟨by simp, by decide⟩, ?_⟩
    refine callS_of ⟨hp, by simp, by simp only [List.length_cons, List.length_nil]; decide, fun j' l hl => ?_⟩
    have hl := mem_at' hl
    simp only [List.mem_cons, List.not_mem_nil, or_false] at hl
    refine ⟨s, .rfl, h l ?_⟩
    have z4 : nr1 (.tup [.int 0, .int 0, .int 0, .int 0]) = true := rfl
    rcases hl with rfl | rfl | rfl | rfl | rfl
    · exact badL_of (fun x hx => by rw [List.mem_singleton.mp hx]; exact hb.1) ⟨v, by simp, hb.2⟩
    · exact badL_of (fun x hx => by
        simp only [List.mem_cons, List.not_mem_nil, or_false] at hx
        rcases hx with rfl | rfl
        · exact z4
        · exact hb.1) ⟨v, by simp, hb.2⟩
    · exact badL_of (fun x hx => by
        simp only [List.mem_cons, List.not_mem_nil, or_false] at hx
        rcases hx with rfl | rfl
        · exact hb.1
        · exact z4) ⟨v, by simp, hb.2⟩
    · rfl
    · rfl
  · exact h.elim
end TK

set_option maxRecDepth 100000
set_option maxHeartbeats 4000000
namespace TK
open PySem PySem.Spec PyProof.Rows L2
/-! ### the law of hours and falls -/
def sp__law_answers : PSpec
  | [.tup xs, .tup ys], st, Q, _ => ∃ (js : List (Int × Int)) (ls : List Lk), xs = js.map jobV ∧ ys = ls.map lkV ∧ WOk 99 js ls ∧ Q (.bl true) st
  | _, _, _, _ => False
def b__law_answers : Ss :=
  (.cons (.asg (.name 2) (.call "_law_job_bounds" sp__law_job_bounds (.cons (.var 0) (.cons (.var 1) .nil)))) (.cons (.asg (.name 3) (.call "_law_lowest" sp__law_lowest (.cons (.bin .Add false (.bin .Mult false (.int 2) (.blt .len false (.cons (.var 0) .nil))) (.int 1)) (.cons (.var 2) .nil)))) (.cons (.asg (.name 4) (.call "hours_of" sp_hours_of (.cons (.var 0) (.cons (.var 1) .nil)))) (.cons (.asg (.name 5) (.call "job_fall" sp_job_fall (.cons (.var 0) (.cons (.var 1) .nil)))) (.cons (.ite (.cmp .Is (.var 3) .non) (.cons (.ret (.bools .And (.cons (.cmp .Is (.var 4) .non) (.cons (.cmp .Is (.call "least_end" sp_least_end (.cons (.var 0) (.cons (.var 1) .nil))) .non) (.cons (.call "_law_round_falls" sp__law_round_falls (.cons (.var 2) (.cons (.var 5) .nil))) .nil))))) .nil) .nil) (.cons (.ret (.bools .And (.cons (.cmp .Is (.var 5) .non) (.cons (.call "_law_same" sp__law_same (.cons (.var 4) (.cons (.blt .tuple false (.cons (.var 3) .nil)) .nil))) (.cons (.call "_law_same" sp__law_same (.cons (.call "least_end" sp_least_end (.cons (.var 0) (.cons (.var 1) .nil))) (.cons (.blt .max false (.cons (.var 3) .nil)) .nil))) .nil))))) .nil))))))
def n__law_answers : List Str := ["jobs", "links", "bounds", "due", "hours", "fall"]
theorem w__law_answers : ∀ vs s Q X, vs.length = 2 → sp__law_answers vs s Q X → wpFn n__law_answers.length b__law_answers vs s Q X := by
  intro vs s Q X hl h
  unfold sp__law_answers at h
  split at h
  · rw [fn_eq]
    unfold b__law_answers n__law_answers
    obtain ⟨js, ls, rfl, rfl, O, h⟩ := h
    have nj := O.nj
    have nl := O.nl
    simp_all only [ss_nil, Nx_nil, Arm_nil, sz_0, sz_1, sz_2, sz_3, sz_4, sz_5, sz_6, sz_7, sz_8, sz_9, sz_10, sz_11, sz_12, cp_2, cp_3, cp_4, cp_5, cp_6, cp_7, cp_12, cp_20, cp_30, cp_38, cp_39, cp_40]
    refine callS_of ⟨js, ls, rfl, rfl, O.nj, O.nl, ?_⟩
    simp_all only [ss_nil, Nx_nil, Arm_nil, sz_0, sz_1, sz_2, sz_3, sz_4, sz_5, sz_6, sz_7, sz_8, sz_9, sz_10, sz_11, sz_12, cp_2, cp_3, cp_4, cp_5, cp_6, cp_7, cp_12, cp_20, cp_30, cp_38, cp_39, cp_40]
    (first | rw [Nx_eq] | rw [Arm_eq] | skip); (try simp_all only [ss_nil, Nx_nil, Arm_nil, sz_0, sz_1, sz_2, sz_3, sz_4, sz_5, sz_6, sz_7, sz_8, sz_9, sz_10, sz_11, sz_12, cp_2, cp_3, cp_4, cp_5, cp_6, cp_7, cp_12, cp_20, cp_30, cp_38, cp_39, cp_40, List.length_map])
    refine ⟨CMul.ok (by unfold CMul; omega), callS_of ⟨2 * js.length + 1, sysE js ls, by omega, by omega, by omega, rfl, (sys_in O).1, ?_⟩⟩
    show KAsgN _ _ _ (ansV oV PV.lst (early js ls)) _
    have hours : ∀ (Z : PQ) (X : EQ), Z (ansV oV PV.tup (early js ls)) s → callS sp_hours_of [.tup (js.map jobV), .tup (ls.map lkV)] s X Z := fun Z X h => callS_of (.inr ⟨99, js, ls, rfl, O, .inl ⟨rfl, h⟩⟩)
    have fall : ∀ (Z : PQ) (X : EQ), (∀ r, FallR (sysE js ls) r → Z r s) → callS sp_job_fall [.tup (js.map jobV), .tup (ls.map lkV)] s X Z := fun Z X h => callS_of ⟨99, js, ls, rfl, rfl, O, h⟩
    cases e : early js ls with
    | none =>
      rw [e] at hours
      have ea : ansV oV PV.lst none = .non := rfl
      have eb : ansV oV PV.tup none = .non := rfl
      rw [ea]
      rw [eb] at hours
      clear ea eb
      simp_all only [ss_nil, Nx_nil, Arm_nil, sz_0, sz_1, sz_2, sz_3, sz_4, sz_5, sz_6, sz_7, sz_8, sz_9, sz_10, sz_11, sz_12, cp_2, cp_3, cp_4, cp_5, cp_6, cp_7, cp_12, cp_20, cp_30, cp_38, cp_39, cp_40]
      (first | rw [Nx_eq] | rw [Arm_eq] | skip); (try simp_all only [ss_nil, Nx_nil, Arm_nil, sz_0, sz_1, sz_2, sz_3, sz_4, sz_5, sz_6, sz_7, sz_8, sz_9, sz_10, sz_11, sz_12, cp_2, cp_3, cp_4, cp_5, cp_6, cp_7, cp_12, cp_20, cp_30, cp_38, cp_39, cp_40])
      refine hours _ _ ?_
      simp_all only [ss_nil, Nx_nil, Arm_nil, sz_0, sz_1, sz_2, sz_3, sz_4, sz_5, sz_6, sz_7, sz_8, sz_9, sz_10, sz_11, sz_12, cp_2, cp_3, cp_4, cp_5, cp_6, cp_7, cp_12, cp_20, cp_30, cp_38, cp_39, cp_40]
      (first | rw [Nx_eq] | rw [Arm_eq] | skip); (try simp_all only [ss_nil, Nx_nil, Arm_nil, sz_0, sz_1, sz_2, sz_3, sz_4, sz_5, sz_6, sz_7, sz_8, sz_9, sz_10, sz_11, sz_12, cp_2, cp_3, cp_4, cp_5, cp_6, cp_7, cp_12, cp_20, cp_30, cp_38, cp_39, cp_40])
      refine fall _ _ fun r hr => ?_
      rcases hr with ⟨rfl, v, hv⟩ | ⟨ns, rfl, F⟩
      · exact (plan_of O hv e).elim
      have least : ∀ (Z : PQ) (X : EQ), Z .non s → callS sp_least_end [.tup (js.map jobV), .tup (ls.map lkV)] s X Z := fun Z X h =>
        callS_of ⟨99, js, ls, rfl, rfl, O, fun _ => h, fun hs z => by rw [e] at z; cases z⟩
      clear e
      have len : (sysE js ls).length ≤ 1000 := by have := sys_len (js := js) (ls := ls); omega
      simp_all only [ss_nil, Nx_nil, Arm_nil, sz_0, sz_1, sz_2, sz_3, sz_4, sz_5, sz_6, sz_7, sz_8, sz_9, sz_10, sz_11, sz_12, cp_2, cp_3, cp_4, cp_5, cp_6, cp_7, cp_12, cp_20, cp_30, cp_38, cp_39, cp_40]
      (first | rw [Nx_eq] | rw [Arm_eq] | skip); (try simp_all only [ss_nil, Nx_nil, Arm_nil, sz_0, sz_1, sz_2, sz_3, sz_4, sz_5, sz_6, sz_7, sz_8, sz_9, sz_10, sz_11, sz_12, cp_2, cp_3, cp_4, cp_5, cp_6, cp_7, cp_12, cp_20, cp_30, cp_38, cp_39, cp_40])
      (first | rw [Nx_eq] | rw [Arm_eq] | skip); (try simp_all only [ss_nil, Nx_nil, Arm_nil, sz_0, sz_1, sz_2, sz_3, sz_4, sz_5, sz_6, sz_7, sz_8, sz_9, sz_10, sz_11, sz_12, cp_2, cp_3, cp_4, cp_5, cp_6, cp_7, cp_12, cp_20, cp_30, cp_38, cp_39, cp_40])
      refine least _ _ ?_
      simp_all only [ss_nil, Nx_nil, Arm_nil, sz_0, sz_1, sz_2, sz_3, sz_4, sz_5, sz_6, sz_7, sz_8, sz_9, sz_10, sz_11, sz_12, cp_2, cp_3, cp_4, cp_5, cp_6, cp_7, cp_12, cp_20, cp_30, cp_38, cp_39, cp_40]
      exact callS_of ⟨sysE js ls, ns, rfl, rfl, len, F, s, .rfl, h⟩
    | some r =>
      obtain ⟨hs, rfl, hlen, _, _, h0, _, hmax⟩ := early_some O e
      have ea : ansV oV PV.lst (some (hs.map some)) = .lst (hs.map PV.int) := by
        show PV.lst ((hs.map some).map oV) = _
        rw [List.map_map]; rfl
      have eb : ansV oV PV.tup (some (hs.map some)) = .tup (hs.map PV.int) := by
        show PV.tup ((hs.map some).map oV) = _
        rw [List.map_map]; rfl
      have hne : hs ≠ [] := fun z => by rw [z] at hlen; simp at hlen
      have hM : ∀ x ∈ hs, 0 ≤ x ∧ x ≤ 10 ^ 6 := fun x hx => ⟨h0 x hx, by
        refine Int.le_trans (hmax x hx) ?_
        have : ((3 * js.length + 2 * ls.length : Nat) : Int) * 99 ≤ 104 * 99 := by omega
        exact Int.le_trans (Int.mul_le_mul (show ((2 * js.length + 2 : Nat) : Int) ≤ 18 by omega) this (Int.mul_nonneg (by omega) (by decide)) (by decide)) (by decide)⟩
      have hm := hM _ (maxL_mem hne)
      clear hmax
      rw [e, eb] at hours
      rw [ea]
      clear ea eb
      simp_all only [ss_nil, Nx_nil, Arm_nil, sz_0, sz_1, sz_2, sz_3, sz_4, sz_5, sz_6, sz_7, sz_8, sz_9, sz_10, sz_11, sz_12, cp_2, cp_3, cp_4, cp_5, cp_6, cp_7, cp_12, cp_20, cp_30, cp_38, cp_39, cp_40]
      (first | rw [Nx_eq] | rw [Arm_eq] | skip); (try simp_all only [ss_nil, Nx_nil, Arm_nil, sz_0, sz_1, sz_2, sz_3, sz_4, sz_5, sz_6, sz_7, sz_8, sz_9, sz_10, sz_11, sz_12, cp_2, cp_3, cp_4, cp_5, cp_6, cp_7, cp_12, cp_20, cp_30, cp_38, cp_39, cp_40])
      refine hours _ _ ?_
      simp_all only [ss_nil, Nx_nil, Arm_nil, sz_0, sz_1, sz_2, sz_3, sz_4, sz_5, sz_6, sz_7, sz_8, sz_9, sz_10, sz_11, sz_12, cp_2, cp_3, cp_4, cp_5, cp_6, cp_7, cp_12, cp_20, cp_30, cp_38, cp_39, cp_40]
      (first | rw [Nx_eq] | rw [Arm_eq] | skip); (try simp_all only [ss_nil, Nx_nil, Arm_nil, sz_0, sz_1, sz_2, sz_3, sz_4, sz_5, sz_6, sz_7, sz_8, sz_9, sz_10, sz_11, sz_12, cp_2, cp_3, cp_4, cp_5, cp_6, cp_7, cp_12, cp_20, cp_30, cp_38, cp_39, cp_40])
      refine fall _ _ fun r hr => ?_
      rcases hr with ⟨rfl, v, hv⟩ | ⟨ns, rfl, F⟩
      · have least : ∀ (Z : PQ) (X : EQ), Z (.int (maxL hs)) s → callS sp_least_end [.tup (js.map jobV), .tup (ls.map lkV)] s X Z := fun Z X h =>
          callS_of ⟨99, js, ls, rfl, rfl, O, fun z => (by rw [e] at z; cases z), fun hs' z => by
            rw [e] at z
            have := some_inj (Option.some.inj z)
            subst this
            exact h⟩
        clear e
        simp_all only [ss_nil, Nx_nil, Arm_nil, sz_0, sz_1, sz_2, sz_3, sz_4, sz_5, sz_6, sz_7, sz_8, sz_9, sz_10, sz_11, sz_12, cp_2, cp_3, cp_4, cp_5, cp_6, cp_7, cp_12, cp_20, cp_30, cp_38, cp_39, cp_40]
        (first | rw [Nx_eq] | rw [Arm_eq] | skip); (try simp_all only [ss_nil, Nx_nil, Arm_nil, sz_0, sz_1, sz_2, sz_3, sz_4, sz_5, sz_6, sz_7, sz_8, sz_9, sz_10, sz_11, sz_12, cp_2, cp_3, cp_4, cp_5, cp_6, cp_7, cp_12, cp_20, cp_30, cp_38, cp_39, cp_40])
        (first | rw [Nx_eq] | rw [Arm_eq] | skip); (try simp_all only [ss_nil, Nx_nil, Arm_nil, sz_0, sz_1, sz_2, sz_3, sz_4, sz_5, sz_6, sz_7, sz_8, sz_9, sz_10, sz_11, sz_12, cp_2, cp_3, cp_4, cp_5, cp_6, cp_7, cp_12, cp_20, cp_30, cp_38, cp_39, cp_40])
        refine callS_of ⟨rfl, rfl, ints_show hM (by omega), ?_⟩
        simp_all only [ss_nil, Nx_nil, Arm_nil, sz_0, sz_1, sz_2, sz_3, sz_4, sz_5, sz_6, sz_7, sz_8, sz_9, sz_10, sz_11, sz_12, cp_2, cp_3, cp_4, cp_5, cp_6, cp_7, cp_12, cp_20, cp_30, cp_38, cp_39, cp_40]
        refine least _ _ ?_
        simp_all only [ss_nil, Nx_nil, Arm_nil, sz_0, sz_1, sz_2, sz_3, sz_4, sz_5, sz_6, sz_7, sz_8, sz_9, sz_10, sz_11, sz_12, cp_2, cp_3, cp_4, cp_5, cp_6, cp_7, cp_12, cp_20, cp_30, cp_38, cp_39, cp_40, ints_of]
        refine ⟨hne, callS_of ⟨rfl, rfl, showOk_of (by unfold shOk Pn; exact Nat.lt_of_le_of_lt (show (maxL hs).natAbs ≤ 10 ^ 6 by omega) (by decide)) (show (571 : Nat) ≤ sizeLine by decide), ?_⟩⟩
        exact ⟨s, .rfl, h⟩
      · rw [no_plan O F] at e; cases e
  · exact h.elim
theorem hand_what {w : Str} {τ : Sl} {st : Store} {N : Store → Prop} {R : PQ} {q : Addr} {xs : List PV} (h1 : getS τ 2 = some (.ref q)) (h2 : st q = some (.lst xs)) (h3 : xs.length < sizeLine) (h : N (up st q (some (.lst (xs ++ [.str w]))))) :
    wpXSs (.cons (.app 2 (.ite (.cons (.is "TicklessError") (.cons (.not (.is "TooMany")) .nil)) (.fld "what") (.str "other"))) .nil) (errW w) τ st N R := by
  have c1 : subC "BadValue" "TicklessError" = true := by decide
  have c2 : subC "BadValue" "TooMany" = false := by decide
  unfold wpXSs wpXS
  refine ⟨q, xs, h1, h2, h3, ?_⟩
  simp only [wpX, wpXt, errW, c1, c2, onBl_eq, Bool.not_false, ↓reduceIte]
  show oP (some (PV.str w)) _
  show wpXSs .nil (errW w) τ _ N R
  unfold wpXSs
  exact h
theorem strOk_of {s : Str} (h : s.cps.toList.all (fun x => decide (x < 0x110000)) = true) : PyData.strOk s = true := by
  unfold PyData.strOk
  rw [← Array.all_toList]; exact h
def w3 (w : Str) : PV := .lst [.str w, .str w, .str w]
def sp__law_what : PSpec
  | [j, l], st, Q, _ => (badJ j = true ∧ Q (w3 "jobs") st) ∨ ∃ (W : Int) (js : List (Int × Int)) (ls : List Lk), j = .tup (js.map jobV) ∧ WOk W js ls ∧ ((l = .tup (ls.map lkV) ∧ Q (w3 "") st) ∨ (badL (2 * js.length + 1) l = true ∧ Q (w3 "links") st))
  | _, _, _, _ => False
def b__law_what_1 : Ss :=
  (.cons (.tryH (.cons (.ite (.cmp .Eq (.var 3) (.int 0)) (.cons (.expr (.call "check_jobs" sp_check_jobs (.cons (.var 0) (.cons (.var 1) .nil)))) .nil) (.cons (.ite (.cmp .Eq (.var 3) (.int 1)) (.cons (.expr (.call "hours_of" sp_hours_of (.cons (.var 0) (.cons (.var 1) .nil)))) .nil) (.cons (.expr (.call "job_system" sp_job_system (.cons (.var 0) (.cons (.var 1) .nil)))) .nil)) .nil)) (.cons (.expr (.meth .append (.var 2) (.cons (.str "") .nil))) .nil)) "BadValue" 4 (.cons (.app 2 (.ite (.cons (.is "TicklessError") (.cons (.not (.is "TooMany")) .nil)) (.fld "what") (.str "other"))) .nil)) .nil)
def b__law_what : Ss :=
  (.cons (.asg (.name 2) (.lst true .nil)) (.cons (.loop (.name 3) (.range1 (.int 3)) b__law_what_1) (.cons (.ret (.fvar 2)) .nil)))
def n__law_what : List Str := ["jobs", "links", "told", "way", "e"]
theorem w__law_what : ∀ vs s Q X, vs.length = 2 → sp__law_what vs s Q X → wpFn n__law_what.length b__law_what vs s Q X := by
  intro vs s Q X hl h
  unfold sp__law_what at h
  split at h
  · rename_i j l
    rw [fn_eq]
    obtain ⟨w, h, c1, c2, c3⟩ : ∃ w : Str, Q (w3 w) s ∧ (∀ (st : Store) (Z : PQ) (X : EQ), (w = "" → ∀ v, Z v st) → (w ≠ "" → X (errW w) st) → callS sp_check_jobs [j, l] st X Z) ∧
        (∀ (st : Store) (Z : PQ) (X : EQ), (w = "" → ∀ v, Z v st) → (w ≠ "" → X (errW w) st) → callS sp_hours_of [j, l] st X Z) ∧
        (∀ (st : Store) (Z : PQ) (X : EQ), (w = "" → ∀ v, Z v st) → (w ≠ "" → X (errW w) st) → callS sp_job_system [j, l] st X Z) := by
      rcases h with ⟨hb, h⟩ | ⟨W, js, ls, rfl, O, ⟨rfl, h⟩ | ⟨hb, h⟩⟩
      · exact ⟨"jobs", h, fun st Z X _ b => callS_of (.inl ⟨hb, b (by decide)⟩), fun st Z X _ b => callS_of (.inl ⟨hb, b (by decide)⟩), fun st Z X _ b => callS_of (.inl ⟨hb, b (by decide)⟩)⟩
      · exact ⟨"", h, fun st Z X a _ => callS_of (.inr ⟨W, js, ls, rfl, O, .inl ⟨rfl, a rfl _⟩⟩), fun st Z X a _ => callS_of (.inr ⟨W, js, ls, rfl, O, .inl ⟨rfl, a rfl _⟩⟩), fun st Z X a _ => callS_of (.inr ⟨W, js, ls, rfl, O, .inl ⟨rfl, a rfl _⟩⟩)⟩
      · exact ⟨"links", h, fun st Z X _ b => callS_of (.inr ⟨W, js, ls, rfl, O, .inr ⟨hb, b (by decide)⟩⟩), fun st Z X _ b => callS_of (.inr ⟨W, js, ls, rfl, O, .inr ⟨hb, b (by decide)⟩⟩), fun st Z X _ b => callS_of (.inr ⟨W, js, ls, rfl, O, .inr ⟨hb, b (by decide)⟩⟩)⟩
    have sz : 1000 ≤ sizeLine := by decide
    unfold b__law_what n__law_what
    simp_all only [ss_nil, Nx_nil, Arm_nil, sz_0, sz_1, sz_2, sz_3, sz_4, sz_5, sz_6, sz_7, sz_8, sz_9, sz_10, sz_11, sz_12, cp_2, cp_3, cp_4, cp_5, cp_6, cp_7, cp_12, cp_20, cp_30, cp_38, cp_39, cp_40]
    intro q hq
    (first | rw [Nx_eq] | rw [Arm_eq] | skip); (try simp_all only [ss_nil, Nx_nil, Arm_nil, sz_0, sz_1, sz_2, sz_3, sz_4, sz_5, sz_6, sz_7, sz_8, sz_9, sz_10, sz_11, sz_12, cp_2, cp_3, cp_4, cp_5, cp_6, cp_7, cp_12, cp_20, cp_30, cp_38, cp_39, cp_40])
    refine ⟨by unfold R62; decide, ?_⟩
    refine for_at (fun i τ st => ∃ o3 : Option PV, τ = [some j, some l, some (.ref q), o3, none] ∧ st = up s q (some (.lst (List.replicate i (.str w))))) ?_ ?_ ⟨_, rfl, rfl⟩
    · rintro i v τ st hi ⟨o3, rfl, rfl⟩
      obtain ⟨i1, rfl⟩ := rg_at hi
      refine ⟨trivial, ?_⟩
      have ln : (List.replicate i (PV.str w)).length < sizeLine := by rw [List.length_replicate]; omega
      have rs : List.replicate (i + 1) (PV.str w) = List.replicate i (PV.str w) ++ [.str w] := by rw [List.replicate_succ']
      unfold b__law_what_1
      rw [rs]
      clear rs
      have hv : (i = 0 ∧ 0 + (i : Int) = 0) ∨ (i = 1 ∧ 0 + (i : Int) = 1) ∨ (i = 2 ∧ 0 + (i : Int) = 2) := by omega
      have z01 : ((1 : Int) = 0) = False := eq_false (by decide)
      have z20 : ((2 : Int) = 0) = False := eq_false (by decide)
      have z21 : ((2 : Int) = 1) = False := eq_false (by decide)
      rcases hv with ⟨_, hv⟩ | ⟨_, hv⟩ | ⟨_, hv⟩
      · rw [hv]
        generalize List.replicate i (PV.str w) = L at *
        simp_all only [ss_nil, Nx_nil, Arm_nil, sz_0, sz_1, sz_2, sz_3, sz_4, sz_5, sz_6, sz_7, sz_8, sz_9, sz_10, sz_11, sz_12, cp_2, cp_3, cp_4, cp_5, cp_6, cp_7, cp_12, cp_20, cp_30, cp_38, cp_39, cp_40]
        (first | rw [Nx_eq] | rw [Arm_eq] | skip); (try simp_all only [ss_nil, Nx_nil, Arm_nil, sz_0, sz_1, sz_2, sz_3, sz_4, sz_5, sz_6, sz_7, sz_8, sz_9, sz_10, sz_11, sz_12, cp_2, cp_3, cp_4, cp_5, cp_6, cp_7, cp_12, cp_20, cp_30, cp_38, cp_39, cp_40])
        (first | rw [Nx_eq] | rw [Arm_eq] | skip); (try simp_all only [ss_nil, Nx_nil, Arm_nil, sz_0, sz_1, sz_2, sz_3, sz_4, sz_5, sz_6, sz_7, sz_8, sz_9, sz_10, sz_11, sz_12, cp_2, cp_3, cp_4, cp_5, cp_6, cp_7, cp_12, cp_20, cp_30, cp_38, cp_39, cp_40])
        refine c1 _ _ _ (fun e v => ?_) fun ne => kex_trH (by show ("BadValue" : Str) ∈ excNames; decide) (by show subC "BadValue" "BadValue" = true; decide) rfl (by show 4 < 5; decide) (hand_what rfl up_same ln ?_)
        · subst e
          simp_all only [ss_nil, Nx_nil, Arm_nil, sz_0, sz_1, sz_2, sz_3, sz_4, sz_5, sz_6, sz_7, sz_8, sz_9, sz_10, sz_11, sz_12, cp_2, cp_3, cp_4, cp_5, cp_6, cp_7, cp_12, cp_20, cp_30, cp_38, cp_39, cp_40]
          (first | rw [Nx_eq] | rw [Arm_eq] | skip); (try simp_all only [ss_nil, Nx_nil, Arm_nil, sz_0, sz_1, sz_2, sz_3, sz_4, sz_5, sz_6, sz_7, sz_8, sz_9, sz_10, sz_11, sz_12, cp_2, cp_3, cp_4, cp_5, cp_6, cp_7, cp_12, cp_20, cp_30, cp_38, cp_39, cp_40, up_up])
          exact ⟨ln, _, rfl⟩
        · rw [up_up]
          simp_all only [ss_nil, Nx_nil, Arm_nil, sz_0, sz_1, sz_2, sz_3, sz_4, sz_5, sz_6, sz_7, sz_8, sz_9, sz_10, sz_11, sz_12, cp_2, cp_3, cp_4, cp_5, cp_6, cp_7, cp_12, cp_20, cp_30, cp_38, cp_39, cp_40]
          exact ⟨_, rfl⟩
      · rw [hv]
        generalize List.replicate i (PV.str w) = L at *
        simp_all only [ss_nil, Nx_nil, Arm_nil, sz_0, sz_1, sz_2, sz_3, sz_4, sz_5, sz_6, sz_7, sz_8, sz_9, sz_10, sz_11, sz_12, cp_2, cp_3, cp_4, cp_5, cp_6, cp_7, cp_12, cp_20, cp_30, cp_38, cp_39, cp_40]
        (first | rw [Nx_eq] | rw [Arm_eq] | skip); (try simp_all only [ss_nil, Nx_nil, Arm_nil, sz_0, sz_1, sz_2, sz_3, sz_4, sz_5, sz_6, sz_7, sz_8, sz_9, sz_10, sz_11, sz_12, cp_2, cp_3, cp_4, cp_5, cp_6, cp_7, cp_12, cp_20, cp_30, cp_38, cp_39, cp_40, z01])
        (first | rw [Nx_eq] | rw [Arm_eq] | skip); (try simp_all only [ss_nil, Nx_nil, Arm_nil, sz_0, sz_1, sz_2, sz_3, sz_4, sz_5, sz_6, sz_7, sz_8, sz_9, sz_10, sz_11, sz_12, cp_2, cp_3, cp_4, cp_5, cp_6, cp_7, cp_12, cp_20, cp_30, cp_38, cp_39, cp_40])
        (first | rw [Nx_eq] | rw [Arm_eq] | skip); (try simp_all only [ss_nil, Nx_nil, Arm_nil, sz_0, sz_1, sz_2, sz_3, sz_4, sz_5, sz_6, sz_7, sz_8, sz_9, sz_10, sz_11, sz_12, cp_2, cp_3, cp_4, cp_5, cp_6, cp_7, cp_12, cp_20, cp_30, cp_38, cp_39, cp_40])
        refine c2 _ _ _ (fun e v => ?_) fun ne => kex_trH (by show ("BadValue" : Str) ∈ excNames; decide) (by show subC "BadValue" "BadValue" = true; decide) rfl (by show 4 < 5; decide) (hand_what rfl up_same ln ?_)
        · subst e
          simp_all only [ss_nil, Nx_nil, Arm_nil, sz_0, sz_1, sz_2, sz_3, sz_4, sz_5, sz_6, sz_7, sz_8, sz_9, sz_10, sz_11, sz_12, cp_2, cp_3, cp_4, cp_5, cp_6, cp_7, cp_12, cp_20, cp_30, cp_38, cp_39, cp_40]
          (first | rw [Nx_eq] | rw [Arm_eq] | skip); (try simp_all only [ss_nil, Nx_nil, Arm_nil, sz_0, sz_1, sz_2, sz_3, sz_4, sz_5, sz_6, sz_7, sz_8, sz_9, sz_10, sz_11, sz_12, cp_2, cp_3, cp_4, cp_5, cp_6, cp_7, cp_12, cp_20, cp_30, cp_38, cp_39, cp_40, up_up])
          exact ⟨ln, _, rfl⟩
        · rw [up_up]
          simp_all only [ss_nil, Nx_nil, Arm_nil, sz_0, sz_1, sz_2, sz_3, sz_4, sz_5, sz_6, sz_7, sz_8, sz_9, sz_10, sz_11, sz_12, cp_2, cp_3, cp_4, cp_5, cp_6, cp_7, cp_12, cp_20, cp_30, cp_38, cp_39, cp_40]
          exact ⟨_, rfl⟩
      · rw [hv]
        generalize List.replicate i (PV.str w) = L at *
        simp_all only [ss_nil, Nx_nil, Arm_nil, sz_0, sz_1, sz_2, sz_3, sz_4, sz_5, sz_6, sz_7, sz_8, sz_9, sz_10, sz_11, sz_12, cp_2, cp_3, cp_4, cp_5, cp_6, cp_7, cp_12, cp_20, cp_30, cp_38, cp_39, cp_40]
        (first | rw [Nx_eq] | rw [Arm_eq] | skip); (try simp_all only [ss_nil, Nx_nil, Arm_nil, sz_0, sz_1, sz_2, sz_3, sz_4, sz_5, sz_6, sz_7, sz_8, sz_9, sz_10, sz_11, sz_12, cp_2, cp_3, cp_4, cp_5, cp_6, cp_7, cp_12, cp_20, cp_30, cp_38, cp_39, cp_40, z20])
        (first | rw [Nx_eq] | rw [Arm_eq] | skip); (try simp_all only [ss_nil, Nx_nil, Arm_nil, sz_0, sz_1, sz_2, sz_3, sz_4, sz_5, sz_6, sz_7, sz_8, sz_9, sz_10, sz_11, sz_12, cp_2, cp_3, cp_4, cp_5, cp_6, cp_7, cp_12, cp_20, cp_30, cp_38, cp_39, cp_40, z21])
        (first | rw [Nx_eq] | rw [Arm_eq] | skip); (try simp_all only [ss_nil, Nx_nil, Arm_nil, sz_0, sz_1, sz_2, sz_3, sz_4, sz_5, sz_6, sz_7, sz_8, sz_9, sz_10, sz_11, sz_12, cp_2, cp_3, cp_4, cp_5, cp_6, cp_7, cp_12, cp_20, cp_30, cp_38, cp_39, cp_40])
        refine c3 _ _ _ (fun e v => ?_) fun ne => kex_trH (by show ("BadValue" : Str) ∈ excNames; decide) (by show subC "BadValue" "BadValue" = true; decide) rfl (by show 4 < 5; decide) (hand_what rfl up_same ln ?_)
        · subst e
          simp_all only [ss_nil, Nx_nil, Arm_nil, sz_0, sz_1, sz_2, sz_3, sz_4, sz_5, sz_6, sz_7, sz_8, sz_9, sz_10, sz_11, sz_12, cp_2, cp_3, cp_4, cp_5, cp_6, cp_7, cp_12, cp_20, cp_30, cp_38, cp_39, cp_40]
          (first | rw [Nx_eq] | rw [Arm_eq] | skip); (try simp_all only [ss_nil, Nx_nil, Arm_nil, sz_0, sz_1, sz_2, sz_3, sz_4, sz_5, sz_6, sz_7, sz_8, sz_9, sz_10, sz_11, sz_12, cp_2, cp_3, cp_4, cp_5, cp_6, cp_7, cp_12, cp_20, cp_30, cp_38, cp_39, cp_40, up_up])
          exact ⟨ln, _, rfl⟩
        · rw [up_up]
          simp_all only [ss_nil, Nx_nil, Arm_nil, sz_0, sz_1, sz_2, sz_3, sz_4, sz_5, sz_6, sz_7, sz_8, sz_9, sz_10, sz_11, sz_12, cp_2, cp_3, cp_4, cp_5, cp_6, cp_7, cp_12, cp_20, cp_30, cp_38, cp_39, cp_40]
          exact ⟨_, rfl⟩
    · rintro τ st ⟨o3, rfl, rfl⟩
      refine ⟨trivial, ?_⟩
      simp_all only [ss_nil, Nx_nil, Arm_nil, sz_0, sz_1, sz_2, sz_3, sz_4, sz_5, sz_6, sz_7, sz_8, sz_9, sz_10, sz_11, sz_12, cp_2, cp_3, cp_4, cp_5, cp_6, cp_7, cp_12, cp_20, cp_30, cp_38, cp_39, cp_40]
      (first | rw [Nx_eq] | rw [Arm_eq] | skip); (try simp_all only [ss_nil, Nx_nil, Arm_nil, sz_0, sz_1, sz_2, sz_3, sz_4, sz_5, sz_6, sz_7, sz_8, sz_9, sz_10, sz_11, sz_12, cp_2, cp_3, cp_4, cp_5, cp_6, cp_7, cp_12, cp_20, cp_30, cp_38, cp_39, cp_40, up_up])
      rw [up_id hq]
      exact ⟨s, .rfl, h⟩
  · exact h.elim
theorem forms_show {es : List Ed} (h : ∀ e ∈ es, e.i ≤ 1000 ∧ e.j ≤ 1000 ∧ e.w.natAbs ≤ 1000) (hl : es.length ≤ 500) : ShowOk (.tup (es.map foV)) := by
  have sm : ∀ z : Int, z.natAbs ≤ 10 ^ 6 → Pn z := fun z hz => Nat.lt_of_le_of_lt hz (show (10 : Nat) ^ 6 < 10 ^ 570 by decide)
  have key : ∀ {es : List Ed}, (∀ e ∈ es, e.i ≤ 1000 ∧ e.j ≤ 1000 ∧ e.w.natAbs ≤ 1000) → shOks 59 (es.map foV) ∧ wgts (es.map foV) = 2297 * es.length := by
    intro es
    induction es with
    | nil => intro _; exact ⟨by unfold List.map shOks; trivial, rfl⟩
    | cons x r ih =>
      intro h
      obtain ⟨a, b⟩ := ih fun y hy => h y (List.mem_cons_of_mem _ hy)
      obtain ⟨h1, h2, h3⟩ := h x List.mem_cons_self
      refine ⟨?_, ?_⟩
      · rw [List.map_cons]
        unfold shOks
        refine ⟨?_, a⟩
        unfold foV shOk
        refine ⟨by decide, ?_⟩
        have p1 := sm x.i (by omega)
        have p2 := sm x.j (by omega)
        have p3 := sm (2 * x.w + 1) (by omega)
        have p4 := sm 0 (by decide)
        simp only [shOks, shOk, p1, p2, p3, p4, and_self]
      · rw [List.map_cons, List.length_cons]
        show (571 + 2 + (571 + 2 + (571 + 2 + (571 + 2 + 0)))) + 3 + 2 + wgts _ = _
        rw [b]; omega
  obtain ⟨a, b⟩ := key h
  refine showOk_of ?_ ?_
  · unfold shOk
    exact ⟨by decide, a⟩
  · show wgts (es.map foV) + 3 ≤ _
    rw [b]
    have sz : 2000000 ≤ sizeLine := by decide
    omega
theorem sys_small {W : Int} {js : List (Int × Int)} {ls : List Lk} (O : WOk W js ls) : ∀ e ∈ sysE js ls, e.i ≤ 1000 ∧ e.j ≤ 1000 ∧ e.w.natAbs ≤ 1000 := fun e he => by
  have nj := O.nj
  obtain ⟨a, b⟩ := (sys_in O).1 e he
  refine ⟨by omega, by omega, ?_⟩
  rcases sys_cases he with ⟨i, p, h1, h2⟩ | ⟨l, h1, h2⟩
  · have hp := O.jb p (List.mem_of_getElem? h1)
    simp only [jobE, List.mem_cons, List.not_mem_nil, or_false] at h2
    rcases h2 with rfl | rfl | rfl
    · show p.2.natAbs ≤ 1000; omega
    · show (-p.1).natAbs ≤ 1000; omega
    · show (0 : Int).natAbs ≤ 1000; decide
  · obtain ⟨_, _, c, d, _, f⟩ := O.lk l h1
    rcases mem_lk h2 with ⟨z, hz, rfl⟩ | rfl
    · have := f z hz
      show z.natAbs ≤ 1000; omega
    · show (-l.low).natAbs ≤ 1000; omega
def b_law : Ss :=
  (.cons (.asg (.name 1) (.call "_law_pool" sp__law_pool (.cons (.var 0) .nil))) (.cons (.asg (.name 2) (.call "_law_world" sp__law_world (.cons (.var 1) .nil))) (.cons (.asg (.name 3) (.idx (.var 2) (.int 0))) (.cons (.asg (.name 4) (.idx (.var 2) (.int 1))) (.cons (.asg (.name 5) (.call "_law_job_bounds" sp__law_job_bounds (.cons (.var 3) (.cons (.var 4) .nil)))) (.cons (.asg (.name 6) (.call "job_system" sp_job_system (.cons (.var 3) (.cons (.var 4) .nil)))) (.cons (.ite (.not (.val (.call "_law_same" sp__law_same (.cons (.var 6) (.cons (.blt .tuple false (.cons (.comp false [8] (.name 8) (.val (.var 5)) .nil (.tup (.cons (.idx (.var 8) (.int 0)) (.cons (.idx (.var 8) (.int 1)) (.cons (.bin .Add false (.bin .Mult false (.int 2) (.idx (.var 8) (.int 2))) (.int 1)) (.cons (.int 0) .nil)))))) .nil)) .nil))))) (.cons (.ret (.bl false)) .nil) .nil) (.cons (.ite (.bools .Or (.cons (.not (.val (.call "_law_answers" sp__law_answers (.cons (.var 3) (.cons (.var 4) .nil))))) (.cons (.cmp .IsNot (.call "check_jobs" sp_check_jobs (.cons (.var 3) (.cons (.var 4) .nil))) .non) .nil))) (.cons (.ret (.bl false)) .nil) .nil) (.cons (.ite (.bools .Or (.cons (.not (.val (.call "_law_answers" sp__law_answers (.cons (.tup .nil) (.cons (.tup .nil) .nil))))) (.cons (.not (.val (.call "_law_answers" sp__law_answers (.cons (.var 3) (.cons (.tup .nil) .nil))))) .nil))) (.cons (.ret (.bl false)) .nil) .nil) (.cons (.asg (.name 7) (.call "_law_bad_jobs" sp__law_bad_jobs (.cons (.var 1) .nil))) (.cons (.ite (.cmp .NotEq (.call "_law_what" sp__law_what (.cons (.var 7) (.cons .non .nil))) (.lst false (.cons (.str "jobs") (.cons (.str "jobs") (.cons (.str "jobs") .nil))))) (.cons (.ret (.bl false)) .nil) .nil) (.cons (.ite (.cmp .NotEq (.call "_law_what" sp__law_what (.cons (.var 3) (.cons (.call "_law_bad_links" sp__law_bad_links (.cons (.var 1) (.cons (.bin .Add false (.bin .Mult false (.int 2) (.blt .len false (.cons (.var 3) .nil))) (.int 1)) .nil))) .nil))) (.lst false (.cons (.str "links") (.cons (.str "links") (.cons (.str "links") .nil))))) (.cons (.ret (.bl false)) .nil) .nil) (.cons (.ret (.cmp .Eq (.call "_law_what" sp__law_what (.cons (.tup (.cons (.tup (.cons (.int 99) (.cons (.int 99) .nil))) (.cons (.tup (.cons (.int 0) (.cons (.int 0) .nil))) .nil))) (.cons (.tup (.cons (.tup (.cons (.int 0) (.cons (.int 4) (.cons (.neg (.int 99)) (.cons (.int 99) .nil))))) (.cons (.tup (.cons (.int 4) (.cons (.int 0) (.cons (.int 99) (.cons .non .nil))))) .nil))) .nil))) (.lst false (.cons (.str "") (.cons (.str "") (.cons (.str "") .nil)))))) .nil)))))))))))))
def n_law : List Str := ["script", "pool", "world", "jobs", "links", "bounds", "forms", "bad", "one"]
theorem w_law : ∀ vs s Q X, vs.length = 1 → lawSp vs s Q X → wpFn n_law.length b_law vs s Q X := by
  rintro vs s Q X hl ⟨ns, rfl, hns, h⟩
  rw [fn_eq]
  unfold b_law n_law
  have sz : 1000 ≤ sizeLine := by decide
  simp_all only [ss_nil, Nx_nil, Arm_nil, sz_0, sz_1, sz_2, sz_3, sz_4, sz_5, sz_6, sz_7, sz_8, sz_9, sz_10, sz_11, sz_12, cp_2, cp_3, cp_4, cp_5, cp_6, cp_7, cp_12, cp_20, cp_30, cp_38, cp_39, cp_40]
  refine callS_of fun p hp0 => ?_
  have hp : up s p (some .pool) p = some .pool := up_same
  revert hp
  generalize up s p (some .pool) = s1
  intro hp
  simp_all only [ss_nil, Nx_nil, Arm_nil, sz_0, sz_1, sz_2, sz_3, sz_4, sz_5, sz_6, sz_7, sz_8, sz_9, sz_10, sz_11, sz_12, cp_2, cp_3, cp_4, cp_5, cp_6, cp_7, cp_12, cp_20, cp_30, cp_38, cp_39, cp_40]
  (first | rw [Nx_eq] | rw [Arm_eq] | skip); (try simp_all only [ss_nil, Nx_nil, Arm_nil, sz_0, sz_1, sz_2, sz_3, sz_4, sz_5, sz_6, sz_7, sz_8, sz_9, sz_10, sz_11, sz_12, cp_2, cp_3, cp_4, cp_5, cp_6, cp_7, cp_12, cp_20, cp_30, cp_38, cp_39, cp_40])
  refine callS_of ⟨hp, fun js ls O => ?_⟩
  have nj := O.nj
  have nl := O.nl
  simp_all only [ss_nil, Nx_nil, Arm_nil, sz_0, sz_1, sz_2, sz_3, sz_4, sz_5, sz_6, sz_7, sz_8, sz_9, sz_10, sz_11, sz_12, cp_2, cp_3, cp_4, cp_5, cp_6, cp_7, cp_12, cp_20, cp_30, cp_38, cp_39, cp_40]
  (first | rw [Nx_eq] | rw [Arm_eq] | skip); (try simp_all only [ss_nil, Nx_nil, Arm_nil, sz_0, sz_1, sz_2, sz_3, sz_4, sz_5, sz_6, sz_7, sz_8, sz_9, sz_10, sz_11, sz_12, cp_2, cp_3, cp_4, cp_5, cp_6, cp_7, cp_12, cp_20, cp_30, cp_38, cp_39, cp_40])
  (first | rw [Nx_eq] | rw [Arm_eq] | skip); (try simp_all only [ss_nil, Nx_nil, Arm_nil, sz_0, sz_1, sz_2, sz_3, sz_4, sz_5, sz_6, sz_7, sz_8, sz_9, sz_10, sz_11, sz_12, cp_2, cp_3, cp_4, cp_5, cp_6, cp_7, cp_12, cp_20, cp_30, cp_38, cp_39, cp_40])
  (first | rw [Nx_eq] | rw [Arm_eq] | skip); (try simp_all only [ss_nil, Nx_nil, Arm_nil, sz_0, sz_1, sz_2, sz_3, sz_4, sz_5, sz_6, sz_7, sz_8, sz_9, sz_10, sz_11, sz_12, cp_2, cp_3, cp_4, cp_5, cp_6, cp_7, cp_12, cp_20, cp_30, cp_38, cp_39, cp_40])
  refine callS_of ⟨js, ls, rfl, rfl, O.nj, O.nl, ?_⟩
  simp_all only [ss_nil, Nx_nil, Arm_nil, sz_0, sz_1, sz_2, sz_3, sz_4, sz_5, sz_6, sz_7, sz_8, sz_9, sz_10, sz_11, sz_12, cp_2, cp_3, cp_4, cp_5, cp_6, cp_7, cp_12, cp_20, cp_30, cp_38, cp_39, cp_40]
  (first | rw [Nx_eq] | rw [Arm_eq] | skip); (try simp_all only [ss_nil, Nx_nil, Arm_nil, sz_0, sz_1, sz_2, sz_3, sz_4, sz_5, sz_6, sz_7, sz_8, sz_9, sz_10, sz_11, sz_12, cp_2, cp_3, cp_4, cp_5, cp_6, cp_7, cp_12, cp_20, cp_30, cp_38, cp_39, cp_40])
  refine callS_of (.inr ⟨99, js, ls, rfl, O, .inl ⟨rfl, ?_⟩⟩)
  simp_all only [ss_nil, Nx_nil, Arm_nil, sz_0, sz_1, sz_2, sz_3, sz_4, sz_5, sz_6, sz_7, sz_8, sz_9, sz_10, sz_11, sz_12, cp_2, cp_3, cp_4, cp_5, cp_6, cp_7, cp_12, cp_20, cp_30, cp_38, cp_39, cp_40]
  (first | rw [Nx_eq] | rw [Arm_eq] | skip); (try simp_all only [ss_nil, Nx_nil, Arm_nil, sz_0, sz_1, sz_2, sz_3, sz_4, sz_5, sz_6, sz_7, sz_8, sz_9, sz_10, sz_11, sz_12, cp_2, cp_3, cp_4, cp_5, cp_6, cp_7, cp_12, cp_20, cp_30, cp_38, cp_39, cp_40])
  refine lc_enc foV (sysE js ls) (fun τ1 st' Q q => by simp_all only [ss_nil, Nx_nil, Arm_nil, sz_0, sz_1, sz_2, sz_3, sz_4, sz_5, sz_6, sz_7, sz_8, sz_9, sz_10, sz_11, sz_12, cp_2, cp_3, cp_4, cp_5, cp_6, cp_7, cp_12, cp_20, cp_30, cp_38, cp_39, cp_40]; exact q) (fun e he => ⟨_, rfl, fun st' sub K hk => ?_⟩) ?_
  · have ev : edV e = .tup [.int e.i, .int e.j, .int e.w] := rfl
    have fv : foV e = .tup [.int e.i, .int e.j, .int (2 * e.w + 1), .int 0] := rfl
    rw [fv] at hk
    simp_all only [ss_nil, Nx_nil, Arm_nil, sz_0, sz_1, sz_2, sz_3, sz_4, sz_5, sz_6, sz_7, sz_8, sz_9, sz_10, sz_11, sz_12, cp_2, cp_3, cp_4, cp_5, cp_6, cp_7, cp_12, cp_20, cp_30, cp_38, cp_39, cp_40, ev]
    exact ⟨CMul.ok (by unfold CMul; omega), hk⟩
  have len : (sysE js ls).length ≤ 500 := by have := sys_len (js := js) (ls := ls); omega
  simp_all only [ss_nil, Nx_nil, Arm_nil, sz_0, sz_1, sz_2, sz_3, sz_4, sz_5, sz_6, sz_7, sz_8, sz_9, sz_10, sz_11, sz_12, cp_2, cp_3, cp_4, cp_5, cp_6, cp_7, cp_12, cp_20, cp_30, cp_38, cp_39, cp_40]
  refine callS_of ⟨rfl, rfl, forms_show (sys_small O) len, ?_⟩
  simp_all only [ss_nil, Nx_nil, Arm_nil, sz_0, sz_1, sz_2, sz_3, sz_4, sz_5, sz_6, sz_7, sz_8, sz_9, sz_10, sz_11, sz_12, cp_2, cp_3, cp_4, cp_5, cp_6, cp_7, cp_12, cp_20, cp_30, cp_38, cp_39, cp_40]
  (first | rw [Nx_eq] | rw [Arm_eq] | skip); (try simp_all only [ss_nil, Nx_nil, Arm_nil, sz_0, sz_1, sz_2, sz_3, sz_4, sz_5, sz_6, sz_7, sz_8, sz_9, sz_10, sz_11, sz_12, cp_2, cp_3, cp_4, cp_5, cp_6, cp_7, cp_12, cp_20, cp_30, cp_38, cp_39, cp_40])
  refine callS_of ⟨js, ls, rfl, rfl, O, ?_⟩
  simp_all only [ss_nil, Nx_nil, Arm_nil, sz_0, sz_1, sz_2, sz_3, sz_4, sz_5, sz_6, sz_7, sz_8, sz_9, sz_10, sz_11, sz_12, cp_2, cp_3, cp_4, cp_5, cp_6, cp_7, cp_12, cp_20, cp_30, cp_38, cp_39, cp_40]
  refine callS_of (.inr ⟨99, js, ls, rfl, O, .inl ⟨rfl, ?_⟩⟩)
  simp_all only [ss_nil, Nx_nil, Arm_nil, sz_0, sz_1, sz_2, sz_3, sz_4, sz_5, sz_6, sz_7, sz_8, sz_9, sz_10, sz_11, sz_12, cp_2, cp_3, cp_4, cp_5, cp_6, cp_7, cp_12, cp_20, cp_30, cp_38, cp_39, cp_40]
  (first | rw [Nx_eq] | rw [Arm_eq] | skip); (try simp_all only [ss_nil, Nx_nil, Arm_nil, sz_0, sz_1, sz_2, sz_3, sz_4, sz_5, sz_6, sz_7, sz_8, sz_9, sz_10, sz_11, sz_12, cp_2, cp_3, cp_4, cp_5, cp_6, cp_7, cp_12, cp_20, cp_30, cp_38, cp_39, cp_40])
  refine callS_of ⟨[], [], rfl, rfl, ⟨by decide, by decide, by decide, fun _ h => (nomatch h), fun _ h => (nomatch h)⟩, ?_⟩
  simp_all only [ss_nil, Nx_nil, Arm_nil, sz_0, sz_1, sz_2, sz_3, sz_4, sz_5, sz_6, sz_7, sz_8, sz_9, sz_10, sz_11, sz_12, cp_2, cp_3, cp_4, cp_5, cp_6, cp_7, cp_12, cp_20, cp_30, cp_38, cp_39, cp_40]
  refine callS_of ⟨js, [], rfl, rfl, ⟨O.nj, by decide, by decide, O.jb, fun _ h => (nomatch h)⟩, ?_⟩
  simp_all only [ss_nil, Nx_nil, Arm_nil, sz_0, sz_1, sz_2, sz_3, sz_4, sz_5, sz_6, sz_7, sz_8, sz_9, sz_10, sz_11, sz_12, cp_2, cp_3, cp_4, cp_5, cp_6, cp_7, cp_12, cp_20, cp_30, cp_38, cp_39, cp_40]
  (first | rw [Nx_eq] | rw [Arm_eq] | skip); (try simp_all only [ss_nil, Nx_nil, Arm_nil, sz_0, sz_1, sz_2, sz_3, sz_4, sz_5, sz_6, sz_7, sz_8, sz_9, sz_10, sz_11, sz_12, cp_2, cp_3, cp_4, cp_5, cp_6, cp_7, cp_12, cp_20, cp_30, cp_38, cp_39, cp_40])
  refine callS_of ⟨hp, fun bj hbj => ?_⟩
  simp_all only [ss_nil, Nx_nil, Arm_nil, sz_0, sz_1, sz_2, sz_3, sz_4, sz_5, sz_6, sz_7, sz_8, sz_9, sz_10, sz_11, sz_12, cp_2, cp_3, cp_4, cp_5, cp_6, cp_7, cp_12, cp_20, cp_30, cp_38, cp_39, cp_40]
  (first | rw [Nx_eq] | rw [Arm_eq] | skip); (try simp_all only [ss_nil, Nx_nil, Arm_nil, sz_0, sz_1, sz_2, sz_3, sz_4, sz_5, sz_6, sz_7, sz_8, sz_9, sz_10, sz_11, sz_12, cp_2, cp_3, cp_4, cp_5, cp_6, cp_7, cp_12, cp_20, cp_30, cp_38, cp_39, cp_40])
  refine callS_of (.inl ⟨hbj, ?_⟩)
  have eq3 : ∀ (st : Store) (w : Str), eqv (res st (w3 w)) (res st (.lst [.str w, .str w, .str w])) = true := fun st w => by
    show eqv (.lst [.str w, .str w, .str w]) (.lst [.str w, .str w, .str w]) = true
    simp [eqv, eqvs]
  have ok3 : ∀ (st : Store) (w : Str), PyData.strOk w = true → eqOk st (w3 w) (.lst [.str w, .str w, .str w]) := fun st w hw => by
    have : flat 60 (.lst [.str w, .str w, .str w]) = true := by simp [flat, flats, hw]
    exact .inr ⟨this, this⟩
  simp_all only [ss_nil, Nx_nil, Arm_nil, sz_0, sz_1, sz_2, sz_3, sz_4, sz_5, sz_6, sz_7, sz_8, sz_9, sz_10, sz_11, sz_12, cp_2, cp_3, cp_4, cp_5, cp_6, cp_7, cp_12, cp_20, cp_30, cp_38, cp_39, cp_40]
  refine ⟨ok3 _ _ (strOk_of (by decide)), ?_⟩
  rw [eq3]
  simp_all only [ss_nil, Nx_nil, Arm_nil, sz_0, sz_1, sz_2, sz_3, sz_4, sz_5, sz_6, sz_7, sz_8, sz_9, sz_10, sz_11, sz_12, cp_2, cp_3, cp_4, cp_5, cp_6, cp_7, cp_12, cp_20, cp_30, cp_38, cp_39, cp_40]
  (first | rw [Nx_eq] | rw [Arm_eq] | skip); (try simp_all only [ss_nil, Nx_nil, Arm_nil, sz_0, sz_1, sz_2, sz_3, sz_4, sz_5, sz_6, sz_7, sz_8, sz_9, sz_10, sz_11, sz_12, cp_2, cp_3, cp_4, cp_5, cp_6, cp_7, cp_12, cp_20, cp_30, cp_38, cp_39, cp_40, List.length_map])
  refine ⟨CMul.ok (by unfold CMul; omega), callS_of ⟨hp, 2 * js.length + 1, by omega, fun bl hbl => ?_⟩⟩
  simp_all only [ss_nil, Nx_nil, Arm_nil, sz_0, sz_1, sz_2, sz_3, sz_4, sz_5, sz_6, sz_7, sz_8, sz_9, sz_10, sz_11, sz_12, cp_2, cp_3, cp_4, cp_5, cp_6, cp_7, cp_12, cp_20, cp_30, cp_38, cp_39, cp_40]
  refine callS_of (.inr ⟨99, js, ls, rfl, O, .inr ⟨hbl, ?_⟩⟩)
  simp_all only [ss_nil, Nx_nil, Arm_nil, sz_0, sz_1, sz_2, sz_3, sz_4, sz_5, sz_6, sz_7, sz_8, sz_9, sz_10, sz_11, sz_12, cp_2, cp_3, cp_4, cp_5, cp_6, cp_7, cp_12, cp_20, cp_30, cp_38, cp_39, cp_40]
  refine ⟨ok3 _ _ (strOk_of (by decide)), ?_⟩
  rw [eq3]
  simp_all only [ss_nil, Nx_nil, Arm_nil, sz_0, sz_1, sz_2, sz_3, sz_4, sz_5, sz_6, sz_7, sz_8, sz_9, sz_10, sz_11, sz_12, cp_2, cp_3, cp_4, cp_5, cp_6, cp_7, cp_12, cp_20, cp_30, cp_38, cp_39, cp_40]
  (first | rw [Nx_eq] | rw [Arm_eq] | skip); (try simp_all only [ss_nil, Nx_nil, Arm_nil, sz_0, sz_1, sz_2, sz_3, sz_4, sz_5, sz_6, sz_7, sz_8, sz_9, sz_10, sz_11, sz_12, cp_2, cp_3, cp_4, cp_5, cp_6, cp_7, cp_12, cp_20, cp_30, cp_38, cp_39, cp_40])
  refine callS_of (.inr ⟨99, [(99, 99), (0, 0)], [⟨0, 4, -99, some 99⟩, ⟨4, 0, 99, none⟩], rfl, ⟨by decide, by decide, by decide, fun x hx => ?_, fun x hx => ?_⟩, .inl ⟨rfl, ?_⟩⟩)
  · simp only [List.mem_cons, List.not_mem_nil, or_false] at hx
    rcases hx with rfl | rfl <;> decide
  · simp only [List.mem_cons, List.not_mem_nil, or_false] at hx
    rcases hx with rfl | rfl
    · exact ⟨by decide, by decide, by decide, by decide, by decide, fun z hz => by cases hz; decide⟩
    · exact ⟨by decide, by decide, by decide, by decide, by decide, fun z hz => by cases hz⟩
  simp_all only [ss_nil, Nx_nil, Arm_nil, sz_0, sz_1, sz_2, sz_3, sz_4, sz_5, sz_6, sz_7, sz_8, sz_9, sz_10, sz_11, sz_12, cp_2, cp_3, cp_4, cp_5, cp_6, cp_7, cp_12, cp_20, cp_30, cp_38, cp_39, cp_40]
  refine ⟨ok3 _ _ (strOk_of (by decide)), ?_⟩
  rw [eq3]
  exact ⟨s1, .rfl, h s1⟩
end TK

namespace TK
open PySem PySem.Spec PyProof.Rows L2
/-! ### the linked text: its defs -/
def topS (i : Nat) : Stmt := PySem.Challenge.pw_tickless_k86_hours_of_jobs.main.body.getD i (.Pass ⟨0, 0, 0, 0⟩)
abbrev s_is_int : Stmt := topS 5
theorem sc_is_int : FnScope n_is_int ["value"] (defScope s_is_int) := ⟨rfl, rfl, rfl, by decide +kernel, rfl, by decide +kernel, by decide +kernel⟩
theorem ck_is_int : chkSs b_is_int ⟨n_is_int, defScope s_is_int, defScope s_is_int⟩ (defBody s_is_int) = true := by decide +kernel
abbrev s_is_whole : Stmt := topS 7
theorem sc_is_whole : FnScope n_is_whole ["value", "low", "high"] (defScope s_is_whole) := ⟨rfl, rfl, rfl, by decide +kernel, rfl, by decide +kernel, by decide +kernel⟩
theorem ck_is_whole : chkSs b_is_whole ⟨n_is_whole, defScope s_is_whole, defScope s_is_whole⟩ (defBody s_is_whole) = true := by decide +kernel
abbrev s_at_most : Stmt := topS 9
theorem sc_at_most : FnScope n_at_most ["n"] (defScope s_at_most) := ⟨rfl, rfl, rfl, by decide +kernel, rfl, by decide +kernel, by decide +kernel⟩
theorem ck_at_most : chkSs b_at_most ⟨n_at_most, defScope s_at_most, defScope s_at_most⟩ (defBody s_at_most) = true := by decide +kernel
abbrev s_relaxed : Stmt := topS 11
theorem sc_relaxed : FnScope n_relaxed ["size", "weights"] (defScope s_relaxed) := ⟨rfl, rfl, rfl, by decide +kernel, rfl, by decide +kernel, by decide +kernel⟩
theorem ck_relaxed : chkSs b_relaxed ⟨n_relaxed, defScope s_relaxed, defScope s_relaxed⟩ (defBody s_relaxed) = true := by decide +kernel
abbrev s_falling_round : Stmt := topS 12
theorem sc_falling_round : FnScope n_falling_round ["size", "weights"] (defScope s_falling_round) := ⟨rfl, rfl, rfl, by decide +kernel, rfl, by decide +kernel, by decide +kernel⟩
theorem ck_falling_round : chkSs b_falling_round ⟨n_falling_round, defScope s_falling_round, defScope s_falling_round⟩ (defBody s_falling_round) = true := by decide +kernel
abbrev s_lowest : Stmt := topS 13
theorem sc_lowest : FnScope n_lowest ["size", "weights"] (defScope s_lowest) := ⟨rfl, rfl, rfl, by decide +kernel, rfl, by decide +kernel, by decide +kernel⟩
theorem ck_lowest : chkSs b_lowest ⟨n_lowest, defScope s_lowest, defScope s_lowest⟩ (defBody s_lowest) = true := by decide +kernel
abbrev s_is_job : Stmt := topS 18
theorem sc_is_job : FnScope n_is_job ["job"] (defScope s_is_job) := ⟨rfl, rfl, rfl, by decide +kernel, rfl, by decide +kernel, by decide +kernel⟩
theorem ck_is_job : chkSs b_is_job ⟨n_is_job, defScope s_is_job, defScope s_is_job⟩ (defBody s_is_job) = true := by decide +kernel
abbrev s_is_link : Stmt := topS 19
theorem sc_is_link : FnScope n_is_link ["link", "events"] (defScope s_is_link) := ⟨rfl, rfl, rfl, by decide +kernel, rfl, by decide +kernel, by decide +kernel⟩
theorem ck_is_link : chkSs b_is_link ⟨n_is_link, defScope s_is_link, defScope s_is_link⟩ (defBody s_is_link) = true := by decide +kernel
abbrev s_check_jobs : Stmt := topS 20
theorem sc_check_jobs : FnScope n_check_jobs ["jobs", "links"] (defScope s_check_jobs) := ⟨rfl, rfl, rfl, by decide +kernel, rfl, by decide +kernel, by decide +kernel⟩
theorem ck_check_jobs : chkSs b_check_jobs ⟨n_check_jobs, defScope s_check_jobs, defScope s_check_jobs⟩ (defBody s_check_jobs) = true := by decide +kernel
abbrev s_begin_of : Stmt := topS 21
theorem sc_begin_of : FnScope n_begin_of ["job"] (defScope s_begin_of) := ⟨rfl, rfl, rfl, by decide +kernel, rfl, by decide +kernel, by decide +kernel⟩
theorem ck_begin_of : chkSs b_begin_of ⟨n_begin_of, defScope s_begin_of, defScope s_begin_of⟩ (defBody s_begin_of) = true := by decide +kernel
abbrev s_end_event : Stmt := topS 22
theorem sc_end_event : FnScope n_end_event ["job"] (defScope s_end_event) := ⟨rfl, rfl, rfl, by decide +kernel, rfl, by decide +kernel, by decide +kernel⟩
theorem ck_end_event : chkSs b_end_event ⟨n_end_event, defScope s_end_event, defScope s_end_event⟩ (defBody s_end_event) = true := by decide +kernel
abbrev s_link_forms : Stmt := topS 23
theorem sc_link_forms : FnScope n_link_forms ["links"] (defScope s_link_forms) := ⟨rfl, rfl, rfl, by decide +kernel, rfl, by decide +kernel, by decide +kernel⟩
theorem ck_link_forms : chkSs b_link_forms ⟨n_link_forms, defScope s_link_forms, defScope s_link_forms⟩ (defBody s_link_forms) = true := by decide +kernel
abbrev s_made_job_system : Stmt := topS 24
theorem sc_made_job_system : FnScope n_made_job_system ["jobs", "links"] (defScope s_made_job_system) := ⟨rfl, rfl, rfl, by decide +kernel, rfl, by decide +kernel, by decide +kernel⟩
theorem ck_made_job_system : chkSs b_made_job_system ⟨n_made_job_system, defScope s_made_job_system, defScope s_made_job_system⟩ (defBody s_made_job_system) = true := by decide +kernel
abbrev s_job_system : Stmt := topS 25
theorem sc_job_system : FnScope n_job_system ["jobs", "links"] (defScope s_job_system) := ⟨rfl, rfl, rfl, by decide +kernel, rfl, by decide +kernel, by decide +kernel⟩
theorem ck_job_system : chkSs b_job_system ⟨n_job_system, defScope s_job_system, defScope s_job_system⟩ (defBody s_job_system) = true := by decide +kernel
abbrev s_whole_weights : Stmt := topS 26
theorem sc_whole_weights : FnScope n_whole_weights ["forms"] (defScope s_whole_weights) := ⟨rfl, rfl, rfl, by decide +kernel, rfl, by decide +kernel, by decide +kernel⟩
theorem ck_whole_weights : chkSs b_whole_weights ⟨n_whole_weights, defScope s_whole_weights, defScope s_whole_weights⟩ (defBody s_whole_weights) = true := by decide +kernel
abbrev s_lowest_hours : Stmt := topS 27
theorem sc_lowest_hours : FnScope n_lowest_hours ["size", "forms"] (defScope s_lowest_hours) := ⟨rfl, rfl, rfl, by decide +kernel, rfl, by decide +kernel, by decide +kernel⟩
theorem ck_lowest_hours : chkSs b_lowest_hours ⟨n_lowest_hours, defScope s_lowest_hours, defScope s_lowest_hours⟩ (defBody s_lowest_hours) = true := by decide +kernel
abbrev s_hours_of : Stmt := topS 28
theorem sc_hours_of : FnScope n_hours_of ["jobs", "links"] (defScope s_hours_of) := ⟨rfl, rfl, rfl, by decide +kernel, rfl, by decide +kernel, by decide +kernel⟩
theorem ck_hours_of : chkSs b_hours_of ⟨n_hours_of, defScope s_hours_of, defScope s_hours_of⟩ (defBody s_hours_of) = true := by decide +kernel
abbrev s_job_fall : Stmt := topS 29
theorem sc_job_fall : FnScope n_job_fall ["jobs", "links"] (defScope s_job_fall) := ⟨rfl, rfl, rfl, by decide +kernel, rfl, by decide +kernel, by decide +kernel⟩
theorem ck_job_fall : chkSs b_job_fall ⟨n_job_fall, defScope s_job_fall, defScope s_job_fall⟩ (defBody s_job_fall) = true := by decide +kernel
abbrev s_least_end : Stmt := topS 30
theorem sc_least_end : FnScope n_least_end ["jobs", "links"] (defScope s_least_end) := ⟨rfl, rfl, rfl, by decide +kernel, rfl, by decide +kernel, by decide +kernel⟩
theorem ck_least_end : chkSs b_least_end ⟨n_least_end, defScope s_least_end, defScope s_least_end⟩ (defBody s_least_end) = true := by decide +kernel
abbrev s__law_pool : Stmt := topS 32
theorem sc__law_pool : FnScope n__law_pool ["script"] (defScope s__law_pool) := ⟨rfl, rfl, rfl, by decide +kernel, rfl, by decide +kernel, by decide +kernel⟩
theorem ck__law_pool : chkSs b__law_pool ⟨n__law_pool, defScope s__law_pool, defScope s__law_pool⟩ (defBody s__law_pool) = true := by decide +kernel
abbrev s__law_mix : Stmt := topS 33
theorem sc__law_mix : FnScope n__law_mix ["pool"] (defScope s__law_mix) := ⟨rfl, rfl, rfl, by decide +kernel, rfl, by decide +kernel, by decide +kernel⟩
theorem ck__law_mix : chkSs b__law_mix ⟨n__law_mix, defScope s__law_mix, defScope s__law_mix⟩ (defBody s__law_mix) = true := by decide +kernel
abbrev s__law_draw : Stmt := topS 34
theorem sc__law_draw : FnScope n__law_draw ["pool", "many"] (defScope s__law_draw) := ⟨rfl, rfl, rfl, by decide +kernel, rfl, by decide +kernel, by decide +kernel⟩
theorem ck__law_draw : chkSs b__law_draw ⟨n__law_draw, defScope s__law_draw, defScope s__law_draw⟩ (defBody s__law_draw) = true := by decide +kernel
abbrev s__law_pick : Stmt := topS 35
theorem sc__law_pick : FnScope n__law_pick ["pool", "menu"] (defScope s__law_pick) := ⟨rfl, rfl, rfl, by decide +kernel, rfl, by decide +kernel, by decide +kernel⟩
theorem ck__law_pick : chkSs b__law_pick ⟨n__law_pick, defScope s__law_pick, defScope s__law_pick⟩ (defBody s__law_pick) = true := by decide +kernel
abbrev s__law_int : Stmt := topS 36
theorem sc__law_int : FnScope n__law_int ["value"] (defScope s__law_int) := ⟨rfl, rfl, rfl, by decide +kernel, rfl, by decide +kernel, by decide +kernel⟩
theorem ck__law_int : chkSs b__law_int ⟨n__law_int, defScope s__law_int, defScope s__law_int⟩ (defBody s__law_int) = true := by decide +kernel
abbrev s__law_same : Stmt := topS 37
theorem sc__law_same : FnScope n__law_same ["value", "due"] (defScope s__law_same) := ⟨rfl, rfl, rfl, by decide +kernel, rfl, by decide +kernel, by decide +kernel⟩
theorem ck__law_same : chkSs b__law_same ⟨n__law_same, defScope s__law_same, defScope s__law_same⟩ (defBody s__law_same) = true := by decide +kernel
abbrev s__law_lowest : Stmt := topS 38
theorem sc__law_lowest : FnScope n__law_lowest ["size", "weights"] (defScope s__law_lowest) := ⟨rfl, rfl, rfl, by decide +kernel, rfl, by decide +kernel, by decide +kernel⟩
theorem ck__law_lowest : chkSs b__law_lowest ⟨n__law_lowest, defScope s__law_lowest, defScope s__law_lowest⟩ (defBody s__law_lowest) = true := by decide +kernel
abbrev s__law_numbers : Stmt := topS 39
theorem sc__law_numbers : FnScope n__law_numbers ["value", "many"] (defScope s__law_numbers) := ⟨rfl, rfl, rfl, by decide +kernel, rfl, by decide +kernel, by decide +kernel⟩
theorem ck__law_numbers : chkSs b__law_numbers ⟨n__law_numbers, defScope s__law_numbers, defScope s__law_numbers⟩ (defBody s__law_numbers) = true := by decide +kernel
abbrev s__law_links : Stmt := topS 40
theorem sc__law_links : FnScope n__law_links ["pool", "jobs", "many", "most"] (defScope s__law_links) := ⟨rfl, rfl, rfl, by decide +kernel, rfl, by decide +kernel, by decide +kernel⟩
theorem ck__law_links : chkSs b__law_links ⟨n__law_links, defScope s__law_links, defScope s__law_links⟩ (defBody s__law_links) = true := by decide +kernel
abbrev s__law_job_bounds : Stmt := topS 41
theorem sc__law_job_bounds : FnScope n__law_job_bounds ["jobs", "links"] (defScope s__law_job_bounds) := ⟨rfl, rfl, rfl, by decide +kernel, rfl, by decide +kernel, by decide +kernel⟩
theorem ck__law_job_bounds : chkSs b__law_job_bounds ⟨n__law_job_bounds, defScope s__law_job_bounds, defScope s__law_job_bounds⟩ (defBody s__law_job_bounds) = true := by decide +kernel
abbrev s__law_round_falls : Stmt := topS 42
theorem sc__law_round_falls : FnScope n__law_round_falls ["bounds", "numbers"] (defScope s__law_round_falls) := ⟨rfl, rfl, rfl, by decide +kernel, rfl, by decide +kernel, by decide +kernel⟩
theorem ck__law_round_falls : chkSs b__law_round_falls ⟨n__law_round_falls, defScope s__law_round_falls, defScope s__law_round_falls⟩ (defBody s__law_round_falls) = true := by decide +kernel
abbrev s__law_world : Stmt := topS 43
theorem sc__law_world : FnScope n__law_world ["pool"] (defScope s__law_world) := ⟨rfl, rfl, rfl, by decide +kernel, rfl, by decide +kernel, by decide +kernel⟩
theorem ck__law_world : chkSs b__law_world ⟨n__law_world, defScope s__law_world, defScope s__law_world⟩ (defBody s__law_world) = true := by decide +kernel
abbrev s__law_answers : Stmt := topS 44
theorem sc__law_answers : FnScope n__law_answers ["jobs", "links"] (defScope s__law_answers) := ⟨rfl, rfl, rfl, by decide +kernel, rfl, by decide +kernel, by decide +kernel⟩
theorem ck__law_answers : chkSs b__law_answers ⟨n__law_answers, defScope s__law_answers, defScope s__law_answers⟩ (defBody s__law_answers) = true := by decide +kernel
abbrev s__law_what : Stmt := topS 45
theorem sc__law_what : FnScope n__law_what ["jobs", "links"] (defScope s__law_what) := ⟨rfl, rfl, rfl, by decide +kernel, rfl, by decide +kernel, by decide +kernel⟩
theorem ck__law_what : chkSs b__law_what ⟨n__law_what, defScope s__law_what, defScope s__law_what⟩ (defBody s__law_what) = true := by decide +kernel
abbrev s__law_bad_jobs : Stmt := topS 46
theorem sc__law_bad_jobs : FnScope n__law_bad_jobs ["pool"] (defScope s__law_bad_jobs) := ⟨rfl, rfl, rfl, by decide +kernel, rfl, by decide +kernel, by decide +kernel⟩
theorem ck__law_bad_jobs : chkSs b__law_bad_jobs ⟨n__law_bad_jobs, defScope s__law_bad_jobs, defScope s__law_bad_jobs⟩ (defBody s__law_bad_jobs) = true := by decide +kernel
abbrev s__law_bad_links : Stmt := topS 47
theorem sc__law_bad_links : FnScope n__law_bad_links ["pool", "events"] (defScope s__law_bad_links) := ⟨rfl, rfl, rfl, by decide +kernel, rfl, by decide +kernel, by decide +kernel⟩
theorem ck__law_bad_links : chkSs b__law_bad_links ⟨n__law_bad_links, defScope s__law_bad_links, defScope s__law_bad_links⟩ (defBody s__law_bad_links) = true := by decide +kernel
abbrev s_law : Stmt := topS 48
theorem sc_law : FnScope n_law ["script"] (defScope s_law) := ⟨rfl, rfl, rfl, by decide +kernel, rfl, by decide +kernel, by decide +kernel⟩
theorem ck_law : chkSs b_law ⟨n_law, defScope s_law, defScope s_law⟩ (defBody s_law) = true := by decide +kernel
/-- a def behind the top -/
def Known (K : PySem.W.Frag) (mg : Str → Option Value) (x : Str) (st : Stmt) (ps : List Str) : Prop := ∃ f fd, L2.Fun K x x st f fd ∧ mg x = some (.ref f) ∧ Binds K fd ps []
def KnownD (K : PySem.W.Frag) (mg : Str → Option Value) (x : Str) (st : Stmt) (dvs : List V) : Prop := ∃ f fd, FunW K x x st dvs f fd ∧ mg x = some (.ref f)
abbrev i_BadValue : Stmt := inClass (topS 2) 0
theorem isc_BadValue : IniSc (sf "what") (sf "what") (defScope i_BadValue) := ⟨rfl, rfl, rfl, by decide, rfl, by decide +kernel, by decide +kernel, by decide +kernel, rfl, rfl⟩
theorem iok_BadValue {P : Program} {w : World} {K : PySem.W.Frag} {mg : Str → Option Value} {base : Heap} {D fI : Addr} {fd : FuncData} (I : IniF P K "__init__" "BadValue.__init__" i_BadValue D fI fd) (hmg : mg "super" = none) :
    FnOk P w K mg base (L2.CX P w) 1 fI fd (sf (fldOf "BadValue")) (iniSp1 K D (fldOf "BadValue") (okV "BadValue")) := by
  rw [fld_bv]
  exact init_fn1 (k := 0) I isc_BadValue hmg rfl rfl rfl (pl := fun env => (do return (← importBound (.Call (.Name "super" _) [] [] _) env).getD true)) (fun env => rfl) (fun env => rfl) (by decide) (by decide) (fun X hN hs hm hc hu => msg_what isc_BadValue (by decide) X hN hs rfl)
structure Facts (P : Program) (w : World) (K : PySem.W.Frag) (mg : Str → Option Value) : Prop where
  blt : ∀ x ∈ bltNames, mg x = none
  g_MOST_JOBS : ∃ t, mg "MOST_JOBS" = some (.int 8 t)
  g_MOST_LINKS : ∃ t, mg "MOST_LINKS" = some (.int 40 t)
  g_MOST_SPAN : ∃ t, mg "MOST_SPAN" = some (.int 99 t)
  f_is_int : Known K mg "is_int" s_is_int ["value"]
  f_is_whole : Known K mg "is_whole" s_is_whole ["value", "low", "high"]
  f_at_most : Known K mg "at_most" s_at_most ["n"]
  f_relaxed : Known K mg "relaxed" s_relaxed ["size", "weights"]
  f_falling_round : Known K mg "falling_round" s_falling_round ["size", "weights"]
  f_lowest : Known K mg "lowest" s_lowest ["size", "weights"]
  f_is_job : Known K mg "is_job" s_is_job ["job"]
  f_is_link : Known K mg "is_link" s_is_link ["link", "events"]
  f_check_jobs : Known K mg "check_jobs" s_check_jobs ["jobs", "links"]
  f_begin_of : Known K mg "begin_of" s_begin_of ["job"]
  f_end_event : Known K mg "end_event" s_end_event ["job"]
  f_link_forms : Known K mg "link_forms" s_link_forms ["links"]
  f_made_job_system : Known K mg "made_job_system" s_made_job_system ["jobs", "links"]
  f_job_system : Known K mg "job_system" s_job_system ["jobs", "links"]
  f_whole_weights : Known K mg "whole_weights" s_whole_weights ["forms"]
  f_lowest_hours : Known K mg "lowest_hours" s_lowest_hours ["size", "forms"]
  f_hours_of : Known K mg "hours_of" s_hours_of ["jobs", "links"]
  f_job_fall : Known K mg "job_fall" s_job_fall ["jobs", "links"]
  f_least_end : Known K mg "least_end" s_least_end ["jobs", "links"]
  f__law_pool : Known K mg "_law_pool" s__law_pool ["script"]
  f__law_mix : Known K mg "_law_mix" s__law_mix ["pool"]
  f__law_draw : Known K mg "_law_draw" s__law_draw ["pool", "many"]
  f__law_pick : Known K mg "_law_pick" s__law_pick ["pool", "menu"]
  f__law_int : Known K mg "_law_int" s__law_int ["value"]
  f__law_same : Known K mg "_law_same" s__law_same ["value", "due"]
  f__law_lowest : Known K mg "_law_lowest" s__law_lowest ["size", "weights"]
  f__law_numbers : Known K mg "_law_numbers" s__law_numbers ["value", "many"]
  f__law_links : Known K mg "_law_links" s__law_links ["pool", "jobs", "many", "most"]
  f__law_job_bounds : Known K mg "_law_job_bounds" s__law_job_bounds ["jobs", "links"]
  f__law_round_falls : Known K mg "_law_round_falls" s__law_round_falls ["bounds", "numbers"]
  f__law_world : Known K mg "_law_world" s__law_world ["pool"]
  f__law_answers : Known K mg "_law_answers" s__law_answers ["jobs", "links"]
  f__law_what : Known K mg "_law_what" s__law_what ["jobs", "links"]
  f__law_bad_jobs : Known K mg "_law_bad_jobs" s__law_bad_jobs ["pool"]
  f__law_bad_links : Known K mg "_law_bad_links" s__law_bad_links ["pool", "events"]
  x0_BadValue : ∀ (base : Heap) (k : Nat), 2 ≤ k → HasX ⟨P, w, K, mg, base⟩ k 0 "BadValue"
  x1_BadValue : ∀ (base : Heap) (k : Nat), HasX ⟨P, w, K, mg, base⟩ k 1 "BadValue"
  x2_TicklessError : ∀ (base : Heap) (k : Nat), HasX ⟨P, w, K, mg, base⟩ k 2 "TicklessError"
  x2_TooMany : ∀ (base : Heap) (k : Nat), HasX ⟨P, w, K, mg, base⟩ k 2 "TooMany"
section
variable {P : Program} {w : World} {K : PySem.W.Frag} {mg : Str → Option Value} {base : Heap}
theorem ok_is_int (L : Facts P w K mg) : HasFn (⟨P, w, K, mg, base⟩ : Wd) 1 "is_int" sp_is_int 1 := by
  obtain ⟨f, fd, F, hm, b⟩ := L.f_is_int
  exact hasFn_of (sp := sp_is_int) F hm b sc_is_int L.blt rfl ck_is_int (by simp only [b_is_int, needSs, needS, needE, needEs, needO, needT, needTs, needI, needX, needXs, needXS, needXSs, Es.len, Nat.zero_add, Nat.reduceAdd, and_true, true_and, and_self]) w_is_int
theorem ok_at_most (L : Facts P w K mg) : HasFn (⟨P, w, K, mg, base⟩ : Wd) 1 "at_most" sp_at_most 1 := by
  obtain ⟨f, fd, F, hm, b⟩ := L.f_at_most
  exact hasFn_of (sp := sp_at_most) F hm b sc_at_most L.blt rfl ck_at_most (by simp only [b_at_most, needSs, needS, needE, needEs, needO, needT, needTs, needI, needX, needXs, needXS, needXSs, Es.len, Nat.zero_add, Nat.reduceAdd, and_true, true_and, and_self]) w_at_most
theorem ok_relaxed (L : Facts P w K mg) : HasFn (⟨P, w, K, mg, base⟩ : Wd) 1 "relaxed" sp_relaxed 2 := by
  obtain ⟨f, fd, F, hm, b⟩ := L.f_relaxed
  exact hasFn_of (sp := sp_relaxed) F hm b sc_relaxed L.blt rfl ck_relaxed (by simp only [b_relaxed, b_relaxed_1, b_relaxed_2, needSs, needS, needE, needEs, needO, needT, needTs, needI, needX, needXs, needXS, needXSs, Es.len, Nat.zero_add, Nat.reduceAdd, and_true, true_and, and_self]) w_relaxed
theorem ok_lowest (L : Facts P w K mg) : HasFn (⟨P, w, K, mg, base⟩ : Wd) 1 "lowest" sp_lowest 2 := by
  obtain ⟨f, fd, F, hm, b⟩ := L.f_lowest
  exact hasFn_of (sp := sp_lowest) F hm b sc_lowest L.blt rfl ck_lowest (by simp only [b_lowest, b_lowest_1, b_lowest_2, needSs, needS, needE, needEs, needO, needT, needTs, needI, needX, needXs, needXS, needXSs, Es.len, Nat.zero_add, Nat.reduceAdd, and_true, true_and, and_self]) w_lowest
theorem ok_begin_of (L : Facts P w K mg) : HasFn (⟨P, w, K, mg, base⟩ : Wd) 1 "begin_of" sp_begin_of 1 := by
  obtain ⟨f, fd, F, hm, b⟩ := L.f_begin_of
  exact hasFn_of (sp := sp_begin_of) F hm b sc_begin_of L.blt rfl ck_begin_of (by simp only [b_begin_of, needSs, needS, needE, needEs, needO, needT, needTs, needI, needX, needXs, needXS, needXSs, Es.len, Nat.zero_add, Nat.reduceAdd, and_true, true_and, and_self]) w_begin_of
theorem ok_end_event (L : Facts P w K mg) : HasFn (⟨P, w, K, mg, base⟩ : Wd) 1 "end_event" sp_end_event 1 := by
  obtain ⟨f, fd, F, hm, b⟩ := L.f_end_event
  exact hasFn_of (sp := sp_end_event) F hm b sc_end_event L.blt rfl ck_end_event (by simp only [b_end_event, needSs, needS, needE, needEs, needO, needT, needTs, needI, needX, needXs, needXS, needXSs, Es.len, Nat.zero_add, Nat.reduceAdd, and_true, true_and, and_self]) w_end_event
theorem ok_whole_weights (L : Facts P w K mg) : HasFn (⟨P, w, K, mg, base⟩ : Wd) 1 "whole_weights" sp_whole_weights 1 := by
  obtain ⟨f, fd, F, hm, b⟩ := L.f_whole_weights
  exact hasFn_of (sp := sp_whole_weights) F hm b sc_whole_weights L.blt rfl ck_whole_weights (by simp only [b_whole_weights, needSs, needS, needE, needEs, needO, needT, needTs, needI, needX, needXs, needXS, needXSs, Es.len, Nat.zero_add, Nat.reduceAdd, and_true, true_and, and_self]) w_whole_weights
theorem ok__law_pool (L : Facts P w K mg) : HasFn (⟨P, w, K, mg, base⟩ : Wd) 1 "_law_pool" sp__law_pool 1 := by
  obtain ⟨f, fd, F, hm, b⟩ := L.f__law_pool
  exact pool_view (hasFn_of (sp := sl__law_pool) F hm b sc__law_pool L.blt rfl ck__law_pool (by simp only [b__law_pool, needSs, needS, needE, needEs, needO, needT, needTs, needI, needX, needXs, needXS, needXSs, Es.len, Nat.zero_add, Nat.reduceAdd, and_true, true_and, and_self]) w__law_pool)
theorem ok__law_mix (L : Facts P w K mg) : HasFn (⟨P, w, K, mg, base⟩ : Wd) 1 "_law_mix" sp__law_mix 1 := by
  obtain ⟨f, fd, F, hm, b⟩ := L.f__law_mix
  exact hasFn_of (sp := sp__law_mix) F hm b sc__law_mix L.blt rfl ck__law_mix (by simp only [b__law_mix, needSs, needS, needE, needEs, needO, needT, needTs, needI, needX, needXs, needXS, needXSs, Es.len, Nat.zero_add, Nat.reduceAdd, and_true, true_and, and_self]) w__law_mix
theorem ok__law_int (L : Facts P w K mg) : HasFn (⟨P, w, K, mg, base⟩ : Wd) 1 "_law_int" sp__law_int 1 := by
  obtain ⟨f, fd, F, hm, b⟩ := L.f__law_int
  exact hasFn_of (sp := sp__law_int) F hm b sc__law_int L.blt rfl ck__law_int (by simp only [b__law_int, needSs, needS, needE, needEs, needO, needT, needTs, needI, needX, needXs, needXS, needXSs, Es.len, Nat.zero_add, Nat.reduceAdd, and_true, true_and, and_self]) w__law_int
theorem ok__law_same (L : Facts P w K mg) : HasFn (⟨P, w, K, mg, base⟩ : Wd) 1 "_law_same" sp__law_same 2 := by
  obtain ⟨f, fd, F, hm, b⟩ := L.f__law_same
  exact hasFn_of (sp := sp__law_same) F hm b sc__law_same L.blt rfl ck__law_same (by simp only [b__law_same, needSs, needS, needE, needEs, needO, needT, needTs, needI, needX, needXs, needXS, needXSs, Es.len, Nat.zero_add, Nat.reduceAdd, and_true, true_and, and_self]) w__law_same
theorem ok__law_lowest (L : Facts P w K mg) : HasFn (⟨P, w, K, mg, base⟩ : Wd) 1 "_law_lowest" sp__law_lowest 2 := by
  obtain ⟨f, fd, F, hm, b⟩ := L.f__law_lowest
  exact hasFn_of (sp := sp__law_lowest) F hm b sc__law_lowest L.blt rfl ck__law_lowest (by simp only [b__law_lowest, b__law_lowest_1, b__law_lowest_2, needSs, needS, needE, needEs, needO, needT, needTs, needI, needX, needXs, needXS, needXSs, Es.len, Nat.zero_add, Nat.reduceAdd, and_true, true_and, and_self]) w__law_lowest
theorem ok__law_job_bounds (L : Facts P w K mg) : HasFn (⟨P, w, K, mg, base⟩ : Wd) 1 "_law_job_bounds" sp__law_job_bounds 2 := by
  obtain ⟨f, fd, F, hm, b⟩ := L.f__law_job_bounds
  exact hasFn_of (sp := sp__law_job_bounds) F hm b sc__law_job_bounds L.blt rfl ck__law_job_bounds (by simp only [b__law_job_bounds, b__law_job_bounds_1, b__law_job_bounds_2, needSs, needS, needE, needEs, needO, needT, needTs, needI, needX, needXs, needXS, needXSs, Es.len, Nat.zero_add, Nat.reduceAdd, and_true, true_and, and_self]) w__law_job_bounds
theorem ok_is_whole (L : Facts P w K mg) : HasFn (⟨P, w, K, mg, base⟩ : Wd) 2 "is_whole" sp_is_whole 3 := by
  obtain ⟨f, fd, F, hm, b⟩ := L.f_is_whole
  have h_is_int := (ok_is_int (P := P) (w := w) (base := base) L).mono (show 1 ≤ 1 by decide)
  exact hasFn_of (sp := sp_is_whole) F hm b sc_is_whole L.blt rfl ck_is_whole (by simp only [b_is_whole, needSs, needS, needE, needEs, needO, needT, needTs, needI, needX, needXs, needXS, needXSs, Es.len, Nat.zero_add, Nat.reduceAdd, and_true, true_and, and_self, h_is_int]) w_is_whole
theorem ok_falling_round (L : Facts P w K mg) : HasFn (⟨P, w, K, mg, base⟩ : Wd) 2 "falling_round" sp_falling_round 2 := by
  obtain ⟨f, fd, F, hm, b⟩ := L.f_falling_round
  have h_relaxed := (ok_relaxed (P := P) (w := w) (base := base) L).mono (show 1 ≤ 1 by decide)
  exact hasFn_of (sp := sp_falling_round) F hm b sc_falling_round L.blt rfl ck_falling_round (by simp only [b_falling_round, b_falling_round_1, b_falling_round_2, needSs, needS, needE, needEs, needO, needT, needTs, needI, needX, needXs, needXS, needXSs, Es.len, Nat.zero_add, Nat.reduceAdd, and_true, true_and, and_self, h_relaxed]) w_falling_round
theorem ok_link_forms (L : Facts P w K mg) : HasFn (⟨P, w, K, mg, base⟩ : Wd) 2 "link_forms" sp_link_forms 1 := by
  obtain ⟨f, fd, F, hm, b⟩ := L.f_link_forms
  have h_at_most := (ok_at_most (P := P) (w := w) (base := base) L).mono (show 1 ≤ 1 by decide)
  exact hasFn_of (sp := sp_link_forms) F hm b sc_link_forms L.blt rfl ck_link_forms (by simp only [b_link_forms, b_link_forms_1, needSs, needS, needE, needEs, needO, needT, needTs, needI, needX, needXs, needXS, needXSs, Es.len, Nat.zero_add, Nat.reduceAdd, and_true, true_and, and_self, h_at_most]) w_link_forms
theorem ok_lowest_hours (L : Facts P w K mg) : HasFn (⟨P, w, K, mg, base⟩ : Wd) 2 "lowest_hours" sp_lowest_hours 2 := by
  obtain ⟨f, fd, F, hm, b⟩ := L.f_lowest_hours
  have h_lowest := (ok_lowest (P := P) (w := w) (base := base) L).mono (show 1 ≤ 1 by decide)
  have h_whole_weights := (ok_whole_weights (P := P) (w := w) (base := base) L).mono (show 1 ≤ 1 by decide)
  exact hasFn_of (sp := sp_lowest_hours) F hm b sc_lowest_hours L.blt rfl ck_lowest_hours (by simp only [b_lowest_hours, needSs, needS, needE, needEs, needO, needT, needTs, needI, needX, needXs, needXS, needXSs, Es.len, Nat.zero_add, Nat.reduceAdd, and_true, true_and, and_self, h_lowest, h_whole_weights]) w_lowest_hours
theorem ok__law_draw (L : Facts P w K mg) : HasFn (⟨P, w, K, mg, base⟩ : Wd) 2 "_law_draw" sp__law_draw 2 := by
  obtain ⟨f, fd, F, hm, b⟩ := L.f__law_draw
  have h__law_mix := (ok__law_mix (P := P) (w := w) (base := base) L).mono (show 1 ≤ 1 by decide)
  exact draw_view (hasFn_of (sp := sl__law_draw) F hm b sc__law_draw L.blt rfl ck__law_draw (by simp only [b__law_draw, needSs, needS, needE, needEs, needO, needT, needTs, needI, needX, needXs, needXS, needXSs, Es.len, Nat.zero_add, Nat.reduceAdd, and_true, true_and, and_self, h__law_mix]) w__law_draw)
theorem ok__law_numbers (L : Facts P w K mg) : HasFn (⟨P, w, K, mg, base⟩ : Wd) 2 "_law_numbers" sp__law_numbers 2 := by
  obtain ⟨f, fd, F, hm, b⟩ := L.f__law_numbers
  have h__law_int := (ok__law_int (P := P) (w := w) (base := base) L).mono (show 1 ≤ 1 by decide)
  exact hasFn_of (sp := sp__law_numbers) F hm b sc__law_numbers L.blt rfl ck__law_numbers (by simp only [b__law_numbers, b__law_numbers_1, needSs, needS, needE, needEs, needO, needT, needTs, needI, needX, needXs, needXS, needXSs, Es.len, Nat.zero_add, Nat.reduceAdd, and_true, true_and, and_self, h__law_int]) w__law_numbers
theorem ok_is_job (L : Facts P w K mg) : HasFn (⟨P, w, K, mg, base⟩ : Wd) 3 "is_job" sp_is_job 1 := by
  obtain ⟨f, fd, F, hm, b⟩ := L.f_is_job
  have h_is_whole := (ok_is_whole (P := P) (w := w) (base := base) L).mono (show 2 ≤ 2 by decide)
  have c_MOST_SPAN : HasGl (⟨P, w, K, mg, base⟩ : Wd) "MOST_SPAN" (.int 99) := let ⟨_, e⟩ := L.g_MOST_SPAN; .int e
  exact hasFn_of (sp := sp_is_job) F hm b sc_is_job L.blt rfl ck_is_job (by simp only [b_is_job, needSs, needS, needE, needEs, needO, needT, needTs, needI, needX, needXs, needXS, needXSs, Es.len, Nat.zero_add, Nat.reduceAdd, and_true, true_and, and_self, h_is_whole, c_MOST_SPAN]) w_is_job
theorem ok_is_link (L : Facts P w K mg) : HasFn (⟨P, w, K, mg, base⟩ : Wd) 3 "is_link" sp_is_link 2 := by
  obtain ⟨f, fd, F, hm, b⟩ := L.f_is_link
  have h_is_whole := (ok_is_whole (P := P) (w := w) (base := base) L).mono (show 2 ≤ 2 by decide)
  have c_MOST_SPAN : HasGl (⟨P, w, K, mg, base⟩ : Wd) "MOST_SPAN" (.int 99) := let ⟨_, e⟩ := L.g_MOST_SPAN; .int e
  exact hasFn_of (sp := sp_is_link) F hm b sc_is_link L.blt rfl ck_is_link (by simp only [b_is_link, needSs, needS, needE, needEs, needO, needT, needTs, needI, needX, needXs, needXS, needXSs, Es.len, Nat.zero_add, Nat.reduceAdd, and_true, true_and, and_self, h_is_whole, c_MOST_SPAN]) w_is_link
theorem ok_made_job_system (L : Facts P w K mg) : HasFn (⟨P, w, K, mg, base⟩ : Wd) 3 "made_job_system" sp_made_job_system 2 := by
  obtain ⟨f, fd, F, hm, b⟩ := L.f_made_job_system
  have h_at_most := (ok_at_most (P := P) (w := w) (base := base) L).mono (show 1 ≤ 2 by decide)
  have h_begin_of := (ok_begin_of (P := P) (w := w) (base := base) L).mono (show 1 ≤ 2 by decide)
  have h_end_event := (ok_end_event (P := P) (w := w) (base := base) L).mono (show 1 ≤ 2 by decide)
  have h_link_forms := (ok_link_forms (P := P) (w := w) (base := base) L).mono (show 2 ≤ 2 by decide)
  exact hasFn_of (sp := sp_made_job_system) F hm b sc_made_job_system L.blt rfl ck_made_job_system (by simp only [b_made_job_system, b_made_job_system_1, needSs, needS, needE, needEs, needO, needT, needTs, needI, needX, needXs, needXS, needXSs, Es.len, Nat.zero_add, Nat.reduceAdd, and_true, true_and, and_self, h_at_most, h_begin_of, h_end_event, h_link_forms]) w_made_job_system
theorem ok__law_pick (L : Facts P w K mg) : HasFn (⟨P, w, K, mg, base⟩ : Wd) 3 "_law_pick" sp__law_pick 2 := by
  obtain ⟨f, fd, F, hm, b⟩ := L.f__law_pick
  have h__law_draw := (ok__law_draw (P := P) (w := w) (base := base) L).mono (show 2 ≤ 2 by decide)
  exact hasFn_of (sp := sp__law_pick) F hm b sc__law_pick L.blt rfl ck__law_pick (by simp only [b__law_pick, needSs, needS, needE, needEs, needO, needT, needTs, needI, needX, needXs, needXS, needXSs, Es.len, Nat.zero_add, Nat.reduceAdd, and_true, true_and, and_self, h__law_draw]) w__law_pick
theorem ok__law_round_falls (L : Facts P w K mg) : HasFn (⟨P, w, K, mg, base⟩ : Wd) 3 "_law_round_falls" sp__law_round_falls 2 := by
  obtain ⟨f, fd, F, hm, b⟩ := L.f__law_round_falls
  have h__law_numbers := (ok__law_numbers (P := P) (w := w) (base := base) L).mono (show 2 ≤ 2 by decide)
  exact hasFn_of (sp := sp__law_round_falls) F hm b sc__law_round_falls L.blt rfl ck__law_round_falls (by simp only [b__law_round_falls, b__law_round_falls_1, needSs, needS, needE, needEs, needO, needT, needTs, needI, needX, needXs, needXS, needXSs, Es.len, Nat.zero_add, Nat.reduceAdd, and_true, true_and, and_self, h__law_numbers]) w__law_round_falls
theorem ok_check_jobs (L : Facts P w K mg) : HasFn (⟨P, w, K, mg, base⟩ : Wd) 4 "check_jobs" sp_check_jobs 2 := by
  obtain ⟨f, fd, F, hm, b⟩ := L.f_check_jobs
  have h_is_job := (ok_is_job (P := P) (w := w) (base := base) L).mono (show 3 ≤ 3 by decide)
  have h_is_link := (ok_is_link (P := P) (w := w) (base := base) L).mono (show 3 ≤ 3 by decide)
  have x0_BadValue := L.x0_BadValue base 3 (by decide)
  have c_MOST_JOBS : HasGl (⟨P, w, K, mg, base⟩ : Wd) "MOST_JOBS" (.int 8) := let ⟨_, e⟩ := L.g_MOST_JOBS; .int e
  have c_MOST_LINKS : HasGl (⟨P, w, K, mg, base⟩ : Wd) "MOST_LINKS" (.int 40) := let ⟨_, e⟩ := L.g_MOST_LINKS; .int e
  exact hasFn_of (sp := sp_check_jobs) F hm b sc_check_jobs L.blt rfl ck_check_jobs (by simp only [b_check_jobs, needSs, needS, needE, needEs, needO, needT, needTs, needI, needX, needXs, needXS, needXSs, Es.len, Nat.zero_add, Nat.reduceAdd, and_true, true_and, and_self, h_is_job, h_is_link, x0_BadValue, c_MOST_JOBS, c_MOST_LINKS]) w_check_jobs
theorem ok__law_links (L : Facts P w K mg) : HasFn (⟨P, w, K, mg, base⟩ : Wd) 4 "_law_links" sp__law_links 4 := by
  obtain ⟨f, fd, F, hm, b⟩ := L.f__law_links
  have h__law_draw := (ok__law_draw (P := P) (w := w) (base := base) L).mono (show 2 ≤ 3 by decide)
  have h__law_pick := (ok__law_pick (P := P) (w := w) (base := base) L).mono (show 3 ≤ 3 by decide)
  exact hasFn_of (sp := sp__law_links) F hm b sc__law_links L.blt rfl ck__law_links (by simp only [b__law_links, b__law_links_1, needSs, needS, needE, needEs, needO, needT, needTs, needI, needX, needXs, needXS, needXSs, Es.len, Nat.zero_add, Nat.reduceAdd, and_true, true_and, and_self, h__law_draw, h__law_pick]) w__law_links
theorem ok__law_bad_jobs (L : Facts P w K mg) : HasFn (⟨P, w, K, mg, base⟩ : Wd) 4 "_law_bad_jobs" sp__law_bad_jobs 1 := by
  obtain ⟨f, fd, F, hm, b⟩ := L.f__law_bad_jobs
  have h__law_pick := (ok__law_pick (P := P) (w := w) (base := base) L).mono (show 3 ≤ 3 by decide)
  exact hasFn_of (sp := sp__law_bad_jobs) F hm b sc__law_bad_jobs L.blt rfl ck__law_bad_jobs (by simp only [b__law_bad_jobs, needSs, needS, needE, needEs, needO, needT, needTs, needI, needX, needXs, needXS, needXSs, Es.len, Nat.zero_add, Nat.reduceAdd, and_true, true_and, and_self, h__law_pick]) w__law_bad_jobs
theorem ok__law_bad_links (L : Facts P w K mg) : HasFn (⟨P, w, K, mg, base⟩ : Wd) 4 "_law_bad_links" sp__law_bad_links 2 := by
  obtain ⟨f, fd, F, hm, b⟩ := L.f__law_bad_links
  have h__law_pick := (ok__law_pick (P := P) (w := w) (base := base) L).mono (show 3 ≤ 3 by decide)
  exact hasFn_of (sp := sp__law_bad_links) F hm b sc__law_bad_links L.blt rfl ck__law_bad_links (by simp only [b__law_bad_links, needSs, needS, needE, needEs, needO, needT, needTs, needI, needX, needXs, needXS, needXSs, Es.len, Nat.zero_add, Nat.reduceAdd, and_true, true_and, and_self, h__law_pick]) w__law_bad_links
theorem ok_job_system (L : Facts P w K mg) : HasFn (⟨P, w, K, mg, base⟩ : Wd) 5 "job_system" sp_job_system 2 := by
  obtain ⟨f, fd, F, hm, b⟩ := L.f_job_system
  have h_check_jobs := (ok_check_jobs (P := P) (w := w) (base := base) L).mono (show 4 ≤ 4 by decide)
  have h_made_job_system := (ok_made_job_system (P := P) (w := w) (base := base) L).mono (show 3 ≤ 4 by decide)
  exact hasFn_of (sp := sp_job_system) F hm b sc_job_system L.blt rfl ck_job_system (by simp only [b_job_system, needSs, needS, needE, needEs, needO, needT, needTs, needI, needX, needXs, needXS, needXSs, Es.len, Nat.zero_add, Nat.reduceAdd, and_true, true_and, and_self, h_check_jobs, h_made_job_system]) w_job_system
theorem ok_hours_of (L : Facts P w K mg) : HasFn (⟨P, w, K, mg, base⟩ : Wd) 5 "hours_of" sp_hours_of 2 := by
  obtain ⟨f, fd, F, hm, b⟩ := L.f_hours_of
  have h_check_jobs := (ok_check_jobs (P := P) (w := w) (base := base) L).mono (show 4 ≤ 4 by decide)
  have h_lowest_hours := (ok_lowest_hours (P := P) (w := w) (base := base) L).mono (show 2 ≤ 4 by decide)
  have h_made_job_system := (ok_made_job_system (P := P) (w := w) (base := base) L).mono (show 3 ≤ 4 by decide)
  exact hasFn_of (sp := sp_hours_of) F hm b sc_hours_of L.blt rfl ck_hours_of (by simp only [b_hours_of, needSs, needS, needE, needEs, needO, needT, needTs, needI, needX, needXs, needXS, needXSs, Es.len, Nat.zero_add, Nat.reduceAdd, and_true, true_and, and_self, h_check_jobs, h_lowest_hours, h_made_job_system]) w_hours_of
theorem ok_job_fall (L : Facts P w K mg) : HasFn (⟨P, w, K, mg, base⟩ : Wd) 5 "job_fall" sp_job_fall 2 := by
  obtain ⟨f, fd, F, hm, b⟩ := L.f_job_fall
  have h_check_jobs := (ok_check_jobs (P := P) (w := w) (base := base) L).mono (show 4 ≤ 4 by decide)
  have h_falling_round := (ok_falling_round (P := P) (w := w) (base := base) L).mono (show 2 ≤ 4 by decide)
  have h_whole_weights := (ok_whole_weights (P := P) (w := w) (base := base) L).mono (show 1 ≤ 4 by decide)
  have h_made_job_system := (ok_made_job_system (P := P) (w := w) (base := base) L).mono (show 3 ≤ 4 by decide)
  exact hasFn_of (sp := sp_job_fall) F hm b sc_job_fall L.blt rfl ck_job_fall (by simp only [b_job_fall, needSs, needS, needE, needEs, needO, needT, needTs, needI, needX, needXs, needXS, needXSs, Es.len, Nat.zero_add, Nat.reduceAdd, and_true, true_and, and_self, h_check_jobs, h_falling_round, h_whole_weights, h_made_job_system]) w_job_fall
theorem ok__law_world (L : Facts P w K mg) : HasFn (⟨P, w, K, mg, base⟩ : Wd) 5 "_law_world" sp__law_world 1 := by
  obtain ⟨f, fd, F, hm, b⟩ := L.f__law_world
  have h__law_draw := (ok__law_draw (P := P) (w := w) (base := base) L).mono (show 2 ≤ 4 by decide)
  have h__law_pick := (ok__law_pick (P := P) (w := w) (base := base) L).mono (show 3 ≤ 4 by decide)
  have h__law_links := (ok__law_links (P := P) (w := w) (base := base) L).mono (show 4 ≤ 4 by decide)
  exact hasFn_of (sp := sp__law_world) F hm b sc__law_world L.blt rfl ck__law_world (by simp only [b__law_world, b__law_world_1, b__law_world_2, needSs, needS, needE, needEs, needO, needT, needTs, needI, needX, needXs, needXS, needXSs, Es.len, Nat.zero_add, Nat.reduceAdd, and_true, true_and, and_self, h__law_draw, h__law_pick, h__law_links]) w__law_world
theorem ok_least_end (L : Facts P w K mg) : HasFn (⟨P, w, K, mg, base⟩ : Wd) 6 "least_end" sp_least_end 2 := by
  obtain ⟨f, fd, F, hm, b⟩ := L.f_least_end
  have h_hours_of := (ok_hours_of (P := P) (w := w) (base := base) L).mono (show 5 ≤ 5 by decide)
  exact hasFn_of (sp := sp_least_end) F hm b sc_least_end L.blt rfl ck_least_end (by simp only [b_least_end, needSs, needS, needE, needEs, needO, needT, needTs, needI, needX, needXs, needXS, needXSs, Es.len, Nat.zero_add, Nat.reduceAdd, and_true, true_and, and_self, h_hours_of]) w_least_end
theorem ok__law_what (L : Facts P w K mg) : HasFn (⟨P, w, K, mg, base⟩ : Wd) 6 "_law_what" sp__law_what 2 := by
  obtain ⟨f, fd, F, hm, b⟩ := L.f__law_what
  have h_check_jobs := (ok_check_jobs (P := P) (w := w) (base := base) L).mono (show 4 ≤ 5 by decide)
  have h_hours_of := (ok_hours_of (P := P) (w := w) (base := base) L).mono (show 5 ≤ 5 by decide)
  have h_job_system := (ok_job_system (P := P) (w := w) (base := base) L).mono (show 5 ≤ 5 by decide)
  have x1_BadValue := L.x1_BadValue base 5
  have x2_TooMany := L.x2_TooMany base 5
  have x2_TicklessError := L.x2_TicklessError base 5
  exact hasFn_of (sp := sp__law_what) F hm b sc__law_what L.blt rfl ck__law_what (by simp only [b__law_what, b__law_what_1, needSs, needS, needE, needEs, needO, needT, needTs, needI, needX, needXs, needXS, needXSs, Es.len, Nat.zero_add, Nat.reduceAdd, and_true, true_and, and_self, h_check_jobs, h_hours_of, h_job_system, x1_BadValue, x2_TooMany, x2_TicklessError]) w__law_what
theorem ok__law_answers (L : Facts P w K mg) : HasFn (⟨P, w, K, mg, base⟩ : Wd) 7 "_law_answers" sp__law_answers 2 := by
  obtain ⟨f, fd, F, hm, b⟩ := L.f__law_answers
  have h__law_job_bounds := (ok__law_job_bounds (P := P) (w := w) (base := base) L).mono (show 1 ≤ 6 by decide)
  have h__law_lowest := (ok__law_lowest (P := P) (w := w) (base := base) L).mono (show 1 ≤ 6 by decide)
  have h_hours_of := (ok_hours_of (P := P) (w := w) (base := base) L).mono (show 5 ≤ 6 by decide)
  have h_job_fall := (ok_job_fall (P := P) (w := w) (base := base) L).mono (show 5 ≤ 6 by decide)
  have h__law_round_falls := (ok__law_round_falls (P := P) (w := w) (base := base) L).mono (show 3 ≤ 6 by decide)
  have h_least_end := (ok_least_end (P := P) (w := w) (base := base) L).mono (show 6 ≤ 6 by decide)
  have h__law_same := (ok__law_same (P := P) (w := w) (base := base) L).mono (show 1 ≤ 6 by decide)
  exact hasFn_of (sp := sp__law_answers) F hm b sc__law_answers L.blt rfl ck__law_answers (by simp only [b__law_answers, needSs, needS, needE, needEs, needO, needT, needTs, needI, needX, needXs, needXS, needXSs, Es.len, Nat.zero_add, Nat.reduceAdd, and_true, true_and, and_self, h__law_job_bounds, h__law_lowest, h_hours_of, h_job_fall, h__law_round_falls, h_least_end, h__law_same]) w__law_answers
theorem ok_law (L : Facts P w K mg) {f : Addr} {fd : FuncData} (F : L2.Fun K "law" "law" s_law f fd) : FnG P w K mg base 8 f fd ["script"] (liftSp K mg 1 lawSp) := by
  have h__law_pool := (ok__law_pool (P := P) (w := w) (base := base) L).mono (show 1 ≤ 7 by decide)
  have h__law_world := (ok__law_world (P := P) (w := w) (base := base) L).mono (show 5 ≤ 7 by decide)
  have h__law_job_bounds := (ok__law_job_bounds (P := P) (w := w) (base := base) L).mono (show 1 ≤ 7 by decide)
  have h_job_system := (ok_job_system (P := P) (w := w) (base := base) L).mono (show 5 ≤ 7 by decide)
  have h__law_same := (ok__law_same (P := P) (w := w) (base := base) L).mono (show 1 ≤ 7 by decide)
  have h_check_jobs := (ok_check_jobs (P := P) (w := w) (base := base) L).mono (show 4 ≤ 7 by decide)
  have h__law_answers := (ok__law_answers (P := P) (w := w) (base := base) L).mono (show 7 ≤ 7 by decide)
  have h__law_bad_jobs := (ok__law_bad_jobs (P := P) (w := w) (base := base) L).mono (show 4 ≤ 7 by decide)
  have h__law_what := (ok__law_what (P := P) (w := w) (base := base) L).mono (show 6 ≤ 7 by decide)
  have h__law_bad_links := (ok__law_bad_links (P := P) (w := w) (base := base) L).mono (show 4 ≤ 7 by decide)
  exact fnG_of (funW_of F) sc_law L.blt rfl ck_law (by simp only [b_law, needSs, needS, needE, needEs, needO, needT, needTs, needI, needX, needXs, needXS, needXSs, Es.len, Nat.zero_add, Nat.reduceAdd, and_true, true_and, and_self, h__law_pool, h__law_world, h__law_job_bounds, h_job_system, h__law_same, h_check_jobs, h__law_answers, h__law_bad_jobs, h__law_what, h__law_bad_links]) w_law
end
theorem all_mk {l : PySem.W.OpenLaw} {w : World} {K : PySem.W.Frag} {h : Heap} {mg : Str → Option Value} {fa : Addr} (X : K.In h) (G : h.Ns mainGlobals mg) (hfa : mg "law" = some (.ref fa))
    {f0 : Addr} {od0 an0 : Option Addr} {sl0 : Array (Option Value)} {oc0 kV0 dc0 pm0 cd0 ct0 : Value}
    {f1 : Addr} {od1 an1 : Option Addr} {sl1 : Array (Option Value)} {oc1 kV1 dc1 pm1 cd1 ct1 : Value}
    {f2 : Addr} {od2 an2 : Option Addr} {sl2 : Array (Option Value)} {oc2 kV2 dc2 pm2 cd2 ct2 : Value}
    {f3 : Addr} {od3 an3 : Option Addr} {sl3 : Array (Option Value)} {oc3 kV3 dc3 pm3 cd3 ct3 : Value}
    {f4 : Addr} {od4 an4 : Option Addr} {sl4 : Array (Option Value)} {oc4 kV4 dc4 pm4 cd4 ct4 : Value}
    {f5 : Addr} {od5 an5 : Option Addr} {sl5 : Array (Option Value)} {oc5 kV5 dc5 pm5 cd5 ct5 : Value}
    {f6 : Addr} {od6 an6 : Option Addr} {sl6 : Array (Option Value)} {oc6 kV6 dc6 pm6 cd6 ct6 : Value}
    {f7 : Addr} {od7 an7 : Option Addr} {sl7 : Array (Option Value)} {oc7 kV7 dc7 pm7 cd7 ct7 : Value}
    {f8 : Addr} {od8 an8 : Option Addr} {sl8 : Array (Option Value)} {oc8 kV8 dc8 pm8 cd8 ct8 : Value}
    {f9 : Addr} {od9 an9 : Option Addr} {sl9 : Array (Option Value)} {oc9 kV9 dc9 pm9 cd9 ct9 : Value}
    {f10 : Addr} {od10 an10 : Option Addr} {sl10 : Array (Option Value)} {oc10 kV10 dc10 pm10 cd10 ct10 : Value}
    {f11 : Addr} {od11 an11 : Option Addr} {sl11 : Array (Option Value)} {oc11 kV11 dc11 pm11 cd11 ct11 : Value}
    {f12 : Addr} {od12 an12 : Option Addr} {sl12 : Array (Option Value)} {oc12 kV12 dc12 pm12 cd12 ct12 : Value}
    {f13 : Addr} {od13 an13 : Option Addr} {sl13 : Array (Option Value)} {oc13 kV13 dc13 pm13 cd13 ct13 : Value}
    {f14 : Addr} {od14 an14 : Option Addr} {sl14 : Array (Option Value)} {oc14 kV14 dc14 pm14 cd14 ct14 : Value}
    {f15 : Addr} {od15 an15 : Option Addr} {sl15 : Array (Option Value)} {oc15 kV15 dc15 pm15 cd15 ct15 : Value}
    {f16 : Addr} {od16 an16 : Option Addr} {sl16 : Array (Option Value)} {oc16 kV16 dc16 pm16 cd16 ct16 : Value}
    {f17 : Addr} {od17 an17 : Option Addr} {sl17 : Array (Option Value)} {oc17 kV17 dc17 pm17 cd17 ct17 : Value}
    {f18 : Addr} {od18 an18 : Option Addr} {sl18 : Array (Option Value)} {oc18 kV18 dc18 pm18 cd18 ct18 : Value}
    {f19 : Addr} {od19 an19 : Option Addr} {sl19 : Array (Option Value)} {oc19 kV19 dc19 pm19 cd19 ct19 : Value}
    {f20 : Addr} {od20 an20 : Option Addr} {sl20 : Array (Option Value)} {oc20 kV20 dc20 pm20 cd20 ct20 : Value}
    {f21 : Addr} {od21 an21 : Option Addr} {sl21 : Array (Option Value)} {oc21 kV21 dc21 pm21 cd21 ct21 : Value}
    {f22 : Addr} {od22 an22 : Option Addr} {sl22 : Array (Option Value)} {oc22 kV22 dc22 pm22 cd22 ct22 : Value}
    {f23 : Addr} {od23 an23 : Option Addr} {sl23 : Array (Option Value)} {oc23 kV23 dc23 pm23 cd23 ct23 : Value}
    {f24 : Addr} {od24 an24 : Option Addr} {sl24 : Array (Option Value)} {oc24 kV24 dc24 pm24 cd24 ct24 : Value}
    {f25 : Addr} {od25 an25 : Option Addr} {sl25 : Array (Option Value)} {oc25 kV25 dc25 pm25 cd25 ct25 : Value}
    {f26 : Addr} {od26 an26 : Option Addr} {sl26 : Array (Option Value)} {oc26 kV26 dc26 pm26 cd26 ct26 : Value}
    {f27 : Addr} {od27 an27 : Option Addr} {sl27 : Array (Option Value)} {oc27 kV27 dc27 pm27 cd27 ct27 : Value}
    {f28 : Addr} {od28 an28 : Option Addr} {sl28 : Array (Option Value)} {oc28 kV28 dc28 pm28 cd28 ct28 : Value}
    {f29 : Addr} {od29 an29 : Option Addr} {sl29 : Array (Option Value)} {oc29 kV29 dc29 pm29 cd29 ct29 : Value}
    {f30 : Addr} {od30 an30 : Option Addr} {sl30 : Array (Option Value)} {oc30 kV30 dc30 pm30 cd30 ct30 : Value}
    {f31 : Addr} {od31 an31 : Option Addr} {sl31 : Array (Option Value)} {oc31 kV31 dc31 pm31 cd31 ct31 : Value}
    {f32 : Addr} {od32 an32 : Option Addr} {sl32 : Array (Option Value)} {oc32 kV32 dc32 pm32 cd32 ct32 : Value}
    {f33 : Addr} {od33 an33 : Option Addr} {sl33 : Array (Option Value)} {oc33 kV33 dc33 pm33 cd33 ct33 : Value}
    {f34 : Addr} {od34 an34 : Option Addr} {sl34 : Array (Option Value)} {oc34 kV34 dc34 pm34 cd34 ct34 : Value}
    {f35 : Addr} {od35 an35 : Option Addr} {sl35 : Array (Option Value)} {oc35 kV35 dc35 pm35 cd35 ct35 : Value}
    {t0 : Tok}
    {t1 : Tok}
    {t2 : Tok}
    {C_TicklessError : Addr}
    {C_BadValue : Addr}
    {C_TooMany : Addr}
    {nm_BadValue q_BadValue : Str} {N_BadValue : Addr} {bs_BadValue : List Value} {sn_BadValue : List Str} {sub_BadValue : List Value} {ab_BadValue : Bool} {col_BadValue : Option Bool} {dd_BadValue : Option Addr} {ma_BadValue mb_BadValue mc_BadValue md_BadValue me_BadValue : Option Value}
    {fI_BadValue cda_BadValue cc_BadValue : Addr} {ioc_BadValue : Value} {iod_BadValue ian_BadValue : Option Addr} {iosl_BadValue : Array (Option Value)} {ikV_BadValue idoc_BadValue ipm_BadValue ict_BadValue icl_BadValue iccl_BadValue : Value} {icld_BadValue icdd_BadValue : Option Addr} {icsl_BadValue iccs_BadValue : Array (Option Value)} {ivs_BadValue : Array Value} {ifile_BadValue : Str} {itf_BadValue : Tok}
    (a0 : PySem.W.nsIn K mainGlobals "is_int" = some (some (.ref f0)))
    (l0 : K.lookup f0 = some ⟨oc0, od0, .func (PySem.W.fnOf "is_int" "is_int" (defArgs s_is_int) (defBody s_is_int) (defScope s_is_int) .none kV0 dc0 pm0 an0 cd0 ct0), sl0⟩)
    (c0 : PySem.W.codeIn K cd0 "is_int" = true)
    (k0 : PySem.W.keepIn K (.ref f0) = true)
    (a1 : PySem.W.nsIn K mainGlobals "is_whole" = some (some (.ref f1)))
    (l1 : K.lookup f1 = some ⟨oc1, od1, .func (PySem.W.fnOf "is_whole" "is_whole" (defArgs s_is_whole) (defBody s_is_whole) (defScope s_is_whole) .none kV1 dc1 pm1 an1 cd1 ct1), sl1⟩)
    (c1 : PySem.W.codeIn K cd1 "is_whole" = true)
    (k1 : PySem.W.keepIn K (.ref f1) = true)
    (a2 : PySem.W.nsIn K mainGlobals "at_most" = some (some (.ref f2)))
    (l2 : K.lookup f2 = some ⟨oc2, od2, .func (PySem.W.fnOf "at_most" "at_most" (defArgs s_at_most) (defBody s_at_most) (defScope s_at_most) .none kV2 dc2 pm2 an2 cd2 ct2), sl2⟩)
    (c2 : PySem.W.codeIn K cd2 "at_most" = true)
    (k2 : PySem.W.keepIn K (.ref f2) = true)
    (a3 : PySem.W.nsIn K mainGlobals "relaxed" = some (some (.ref f3)))
    (l3 : K.lookup f3 = some ⟨oc3, od3, .func (PySem.W.fnOf "relaxed" "relaxed" (defArgs s_relaxed) (defBody s_relaxed) (defScope s_relaxed) .none kV3 dc3 pm3 an3 cd3 ct3), sl3⟩)
    (c3 : PySem.W.codeIn K cd3 "relaxed" = true)
    (k3 : PySem.W.keepIn K (.ref f3) = true)
    (a4 : PySem.W.nsIn K mainGlobals "falling_round" = some (some (.ref f4)))
    (l4 : K.lookup f4 = some ⟨oc4, od4, .func (PySem.W.fnOf "falling_round" "falling_round" (defArgs s_falling_round) (defBody s_falling_round) (defScope s_falling_round) .none kV4 dc4 pm4 an4 cd4 ct4), sl4⟩)
    (c4 : PySem.W.codeIn K cd4 "falling_round" = true)
    (k4 : PySem.W.keepIn K (.ref f4) = true)
    (a5 : PySem.W.nsIn K mainGlobals "lowest" = some (some (.ref f5)))
    (l5 : K.lookup f5 = some ⟨oc5, od5, .func (PySem.W.fnOf "lowest" "lowest" (defArgs s_lowest) (defBody s_lowest) (defScope s_lowest) .none kV5 dc5 pm5 an5 cd5 ct5), sl5⟩)
    (c5 : PySem.W.codeIn K cd5 "lowest" = true)
    (k5 : PySem.W.keepIn K (.ref f5) = true)
    (a6 : PySem.W.nsIn K mainGlobals "is_job" = some (some (.ref f6)))
    (l6 : K.lookup f6 = some ⟨oc6, od6, .func (PySem.W.fnOf "is_job" "is_job" (defArgs s_is_job) (defBody s_is_job) (defScope s_is_job) .none kV6 dc6 pm6 an6 cd6 ct6), sl6⟩)
    (c6 : PySem.W.codeIn K cd6 "is_job" = true)
    (k6 : PySem.W.keepIn K (.ref f6) = true)
    (a7 : PySem.W.nsIn K mainGlobals "is_link" = some (some (.ref f7)))
    (l7 : K.lookup f7 = some ⟨oc7, od7, .func (PySem.W.fnOf "is_link" "is_link" (defArgs s_is_link) (defBody s_is_link) (defScope s_is_link) .none kV7 dc7 pm7 an7 cd7 ct7), sl7⟩)
    (c7 : PySem.W.codeIn K cd7 "is_link" = true)
    (k7 : PySem.W.keepIn K (.ref f7) = true)
    (a8 : PySem.W.nsIn K mainGlobals "check_jobs" = some (some (.ref f8)))
    (l8 : K.lookup f8 = some ⟨oc8, od8, .func (PySem.W.fnOf "check_jobs" "check_jobs" (defArgs s_check_jobs) (defBody s_check_jobs) (defScope s_check_jobs) .none kV8 dc8 pm8 an8 cd8 ct8), sl8⟩)
    (c8 : PySem.W.codeIn K cd8 "check_jobs" = true)
    (k8 : PySem.W.keepIn K (.ref f8) = true)
    (a9 : PySem.W.nsIn K mainGlobals "begin_of" = some (some (.ref f9)))
    (l9 : K.lookup f9 = some ⟨oc9, od9, .func (PySem.W.fnOf "begin_of" "begin_of" (defArgs s_begin_of) (defBody s_begin_of) (defScope s_begin_of) .none kV9 dc9 pm9 an9 cd9 ct9), sl9⟩)
    (c9 : PySem.W.codeIn K cd9 "begin_of" = true)
    (k9 : PySem.W.keepIn K (.ref f9) = true)
    (a10 : PySem.W.nsIn K mainGlobals "end_event" = some (some (.ref f10)))
    (l10 : K.lookup f10 = some ⟨oc10, od10, .func (PySem.W.fnOf "end_event" "end_event" (defArgs s_end_event) (defBody s_end_event) (defScope s_end_event) .none kV10 dc10 pm10 an10 cd10 ct10), sl10⟩)
    (c10 : PySem.W.codeIn K cd10 "end_event" = true)
    (k10 : PySem.W.keepIn K (.ref f10) = true)
    (a11 : PySem.W.nsIn K mainGlobals "link_forms" = some (some (.ref f11)))
    (l11 : K.lookup f11 = some ⟨oc11, od11, .func (PySem.W.fnOf "link_forms" "link_forms" (defArgs s_link_forms) (defBody s_link_forms) (defScope s_link_forms) .none kV11 dc11 pm11 an11 cd11 ct11), sl11⟩)
    (c11 : PySem.W.codeIn K cd11 "link_forms" = true)
    (k11 : PySem.W.keepIn K (.ref f11) = true)
    (a12 : PySem.W.nsIn K mainGlobals "made_job_system" = some (some (.ref f12)))
    (l12 : K.lookup f12 = some ⟨oc12, od12, .func (PySem.W.fnOf "made_job_system" "made_job_system" (defArgs s_made_job_system) (defBody s_made_job_system) (defScope s_made_job_system) .none kV12 dc12 pm12 an12 cd12 ct12), sl12⟩)
    (c12 : PySem.W.codeIn K cd12 "made_job_system" = true)
    (k12 : PySem.W.keepIn K (.ref f12) = true)
    (a13 : PySem.W.nsIn K mainGlobals "job_system" = some (some (.ref f13)))
    (l13 : K.lookup f13 = some ⟨oc13, od13, .func (PySem.W.fnOf "job_system" "job_system" (defArgs s_job_system) (defBody s_job_system) (defScope s_job_system) .none kV13 dc13 pm13 an13 cd13 ct13), sl13⟩)
    (c13 : PySem.W.codeIn K cd13 "job_system" = true)
    (k13 : PySem.W.keepIn K (.ref f13) = true)
    (a14 : PySem.W.nsIn K mainGlobals "whole_weights" = some (some (.ref f14)))
    (l14 : K.lookup f14 = some ⟨oc14, od14, .func (PySem.W.fnOf "whole_weights" "whole_weights" (defArgs s_whole_weights) (defBody s_whole_weights) (defScope s_whole_weights) .none kV14 dc14 pm14 an14 cd14 ct14), sl14⟩)
    (c14 : PySem.W.codeIn K cd14 "whole_weights" = true)
    (k14 : PySem.W.keepIn K (.ref f14) = true)
    (a15 : PySem.W.nsIn K mainGlobals "lowest_hours" = some (some (.ref f15)))
    (l15 : K.lookup f15 = some ⟨oc15, od15, .func (PySem.W.fnOf "lowest_hours" "lowest_hours" (defArgs s_lowest_hours) (defBody s_lowest_hours) (defScope s_lowest_hours) .none kV15 dc15 pm15 an15 cd15 ct15), sl15⟩)
    (c15 : PySem.W.codeIn K cd15 "lowest_hours" = true)
    (k15 : PySem.W.keepIn K (.ref f15) = true)
    (a16 : PySem.W.nsIn K mainGlobals "hours_of" = some (some (.ref f16)))
    (l16 : K.lookup f16 = some ⟨oc16, od16, .func (PySem.W.fnOf "hours_of" "hours_of" (defArgs s_hours_of) (defBody s_hours_of) (defScope s_hours_of) .none kV16 dc16 pm16 an16 cd16 ct16), sl16⟩)
    (c16 : PySem.W.codeIn K cd16 "hours_of" = true)
    (k16 : PySem.W.keepIn K (.ref f16) = true)
    (a17 : PySem.W.nsIn K mainGlobals "job_fall" = some (some (.ref f17)))
    (l17 : K.lookup f17 = some ⟨oc17, od17, .func (PySem.W.fnOf "job_fall" "job_fall" (defArgs s_job_fall) (defBody s_job_fall) (defScope s_job_fall) .none kV17 dc17 pm17 an17 cd17 ct17), sl17⟩)
    (c17 : PySem.W.codeIn K cd17 "job_fall" = true)
    (k17 : PySem.W.keepIn K (.ref f17) = true)
    (a18 : PySem.W.nsIn K mainGlobals "least_end" = some (some (.ref f18)))
    (l18 : K.lookup f18 = some ⟨oc18, od18, .func (PySem.W.fnOf "least_end" "least_end" (defArgs s_least_end) (defBody s_least_end) (defScope s_least_end) .none kV18 dc18 pm18 an18 cd18 ct18), sl18⟩)
    (c18 : PySem.W.codeIn K cd18 "least_end" = true)
    (k18 : PySem.W.keepIn K (.ref f18) = true)
    (a19 : PySem.W.nsIn K mainGlobals "_law_pool" = some (some (.ref f19)))
    (l19 : K.lookup f19 = some ⟨oc19, od19, .func (PySem.W.fnOf "_law_pool" "_law_pool" (defArgs s__law_pool) (defBody s__law_pool) (defScope s__law_pool) .none kV19 dc19 pm19 an19 cd19 ct19), sl19⟩)
    (c19 : PySem.W.codeIn K cd19 "_law_pool" = true)
    (k19 : PySem.W.keepIn K (.ref f19) = true)
    (a20 : PySem.W.nsIn K mainGlobals "_law_mix" = some (some (.ref f20)))
    (l20 : K.lookup f20 = some ⟨oc20, od20, .func (PySem.W.fnOf "_law_mix" "_law_mix" (defArgs s__law_mix) (defBody s__law_mix) (defScope s__law_mix) .none kV20 dc20 pm20 an20 cd20 ct20), sl20⟩)
    (c20 : PySem.W.codeIn K cd20 "_law_mix" = true)
    (k20 : PySem.W.keepIn K (.ref f20) = true)
    (a21 : PySem.W.nsIn K mainGlobals "_law_draw" = some (some (.ref f21)))
    (l21 : K.lookup f21 = some ⟨oc21, od21, .func (PySem.W.fnOf "_law_draw" "_law_draw" (defArgs s__law_draw) (defBody s__law_draw) (defScope s__law_draw) .none kV21 dc21 pm21 an21 cd21 ct21), sl21⟩)
    (c21 : PySem.W.codeIn K cd21 "_law_draw" = true)
    (k21 : PySem.W.keepIn K (.ref f21) = true)
    (a22 : PySem.W.nsIn K mainGlobals "_law_pick" = some (some (.ref f22)))
    (l22 : K.lookup f22 = some ⟨oc22, od22, .func (PySem.W.fnOf "_law_pick" "_law_pick" (defArgs s__law_pick) (defBody s__law_pick) (defScope s__law_pick) .none kV22 dc22 pm22 an22 cd22 ct22), sl22⟩)
    (c22 : PySem.W.codeIn K cd22 "_law_pick" = true)
    (k22 : PySem.W.keepIn K (.ref f22) = true)
    (a23 : PySem.W.nsIn K mainGlobals "_law_int" = some (some (.ref f23)))
    (l23 : K.lookup f23 = some ⟨oc23, od23, .func (PySem.W.fnOf "_law_int" "_law_int" (defArgs s__law_int) (defBody s__law_int) (defScope s__law_int) .none kV23 dc23 pm23 an23 cd23 ct23), sl23⟩)
    (c23 : PySem.W.codeIn K cd23 "_law_int" = true)
    (k23 : PySem.W.keepIn K (.ref f23) = true)
    (a24 : PySem.W.nsIn K mainGlobals "_law_same" = some (some (.ref f24)))
    (l24 : K.lookup f24 = some ⟨oc24, od24, .func (PySem.W.fnOf "_law_same" "_law_same" (defArgs s__law_same) (defBody s__law_same) (defScope s__law_same) .none kV24 dc24 pm24 an24 cd24 ct24), sl24⟩)
    (c24 : PySem.W.codeIn K cd24 "_law_same" = true)
    (k24 : PySem.W.keepIn K (.ref f24) = true)
    (a25 : PySem.W.nsIn K mainGlobals "_law_lowest" = some (some (.ref f25)))
    (l25 : K.lookup f25 = some ⟨oc25, od25, .func (PySem.W.fnOf "_law_lowest" "_law_lowest" (defArgs s__law_lowest) (defBody s__law_lowest) (defScope s__law_lowest) .none kV25 dc25 pm25 an25 cd25 ct25), sl25⟩)
    (c25 : PySem.W.codeIn K cd25 "_law_lowest" = true)
    (k25 : PySem.W.keepIn K (.ref f25) = true)
    (a26 : PySem.W.nsIn K mainGlobals "_law_numbers" = some (some (.ref f26)))
    (l26 : K.lookup f26 = some ⟨oc26, od26, .func (PySem.W.fnOf "_law_numbers" "_law_numbers" (defArgs s__law_numbers) (defBody s__law_numbers) (defScope s__law_numbers) .none kV26 dc26 pm26 an26 cd26 ct26), sl26⟩)
    (c26 : PySem.W.codeIn K cd26 "_law_numbers" = true)
    (k26 : PySem.W.keepIn K (.ref f26) = true)
    (a27 : PySem.W.nsIn K mainGlobals "_law_links" = some (some (.ref f27)))
    (l27 : K.lookup f27 = some ⟨oc27, od27, .func (PySem.W.fnOf "_law_links" "_law_links" (defArgs s__law_links) (defBody s__law_links) (defScope s__law_links) .none kV27 dc27 pm27 an27 cd27 ct27), sl27⟩)
    (c27 : PySem.W.codeIn K cd27 "_law_links" = true)
    (k27 : PySem.W.keepIn K (.ref f27) = true)
    (a28 : PySem.W.nsIn K mainGlobals "_law_job_bounds" = some (some (.ref f28)))
    (l28 : K.lookup f28 = some ⟨oc28, od28, .func (PySem.W.fnOf "_law_job_bounds" "_law_job_bounds" (defArgs s__law_job_bounds) (defBody s__law_job_bounds) (defScope s__law_job_bounds) .none kV28 dc28 pm28 an28 cd28 ct28), sl28⟩)
    (c28 : PySem.W.codeIn K cd28 "_law_job_bounds" = true)
    (k28 : PySem.W.keepIn K (.ref f28) = true)
    (a29 : PySem.W.nsIn K mainGlobals "_law_round_falls" = some (some (.ref f29)))
    (l29 : K.lookup f29 = some ⟨oc29, od29, .func (PySem.W.fnOf "_law_round_falls" "_law_round_falls" (defArgs s__law_round_falls) (defBody s__law_round_falls) (defScope s__law_round_falls) .none kV29 dc29 pm29 an29 cd29 ct29), sl29⟩)
    (c29 : PySem.W.codeIn K cd29 "_law_round_falls" = true)
    (k29 : PySem.W.keepIn K (.ref f29) = true)
    (a30 : PySem.W.nsIn K mainGlobals "_law_world" = some (some (.ref f30)))
    (l30 : K.lookup f30 = some ⟨oc30, od30, .func (PySem.W.fnOf "_law_world" "_law_world" (defArgs s__law_world) (defBody s__law_world) (defScope s__law_world) .none kV30 dc30 pm30 an30 cd30 ct30), sl30⟩)
    (c30 : PySem.W.codeIn K cd30 "_law_world" = true)
    (k30 : PySem.W.keepIn K (.ref f30) = true)
    (a31 : PySem.W.nsIn K mainGlobals "_law_answers" = some (some (.ref f31)))
    (l31 : K.lookup f31 = some ⟨oc31, od31, .func (PySem.W.fnOf "_law_answers" "_law_answers" (defArgs s__law_answers) (defBody s__law_answers) (defScope s__law_answers) .none kV31 dc31 pm31 an31 cd31 ct31), sl31⟩)
    (c31 : PySem.W.codeIn K cd31 "_law_answers" = true)
    (k31 : PySem.W.keepIn K (.ref f31) = true)
    (a32 : PySem.W.nsIn K mainGlobals "_law_what" = some (some (.ref f32)))
    (l32 : K.lookup f32 = some ⟨oc32, od32, .func (PySem.W.fnOf "_law_what" "_law_what" (defArgs s__law_what) (defBody s__law_what) (defScope s__law_what) .none kV32 dc32 pm32 an32 cd32 ct32), sl32⟩)
    (c32 : PySem.W.codeIn K cd32 "_law_what" = true)
    (k32 : PySem.W.keepIn K (.ref f32) = true)
    (a33 : PySem.W.nsIn K mainGlobals "_law_bad_jobs" = some (some (.ref f33)))
    (l33 : K.lookup f33 = some ⟨oc33, od33, .func (PySem.W.fnOf "_law_bad_jobs" "_law_bad_jobs" (defArgs s__law_bad_jobs) (defBody s__law_bad_jobs) (defScope s__law_bad_jobs) .none kV33 dc33 pm33 an33 cd33 ct33), sl33⟩)
    (c33 : PySem.W.codeIn K cd33 "_law_bad_jobs" = true)
    (k33 : PySem.W.keepIn K (.ref f33) = true)
    (a34 : PySem.W.nsIn K mainGlobals "_law_bad_links" = some (some (.ref f34)))
    (l34 : K.lookup f34 = some ⟨oc34, od34, .func (PySem.W.fnOf "_law_bad_links" "_law_bad_links" (defArgs s__law_bad_links) (defBody s__law_bad_links) (defScope s__law_bad_links) .none kV34 dc34 pm34 an34 cd34 ct34), sl34⟩)
    (c34 : PySem.W.codeIn K cd34 "_law_bad_links" = true)
    (k34 : PySem.W.keepIn K (.ref f34) = true)
    (a35 : PySem.W.nsIn K mainGlobals "law" = some (some (.ref f35)))
    (l35 : K.lookup f35 = some ⟨oc35, od35, .func (PySem.W.fnOf "law" "law" (defArgs s_law) (defBody s_law) (defScope s_law) .none kV35 dc35 pm35 an35 cd35 ct35), sl35⟩)
    (c35 : PySem.W.codeIn K cd35 "law" = true)
    (k35 : PySem.W.keepIn K (.ref f35) = true)
    (z0 : PySem.W.nsIn K mainGlobals "len" = some none)
    (z1 : PySem.W.nsIn K mainGlobals "int" = some none)
    (z2 : PySem.W.nsIn K mainGlobals "abs" = some none)
    (z3 : PySem.W.nsIn K mainGlobals "tuple" = some none)
    (z4 : PySem.W.nsIn K mainGlobals "list" = some none)
    (z5 : PySem.W.nsIn K mainGlobals "all" = some none)
    (z6 : PySem.W.nsIn K mainGlobals "any" = some none)
    (z7 : PySem.W.nsIn K mainGlobals "sum" = some none)
    (z8 : PySem.W.nsIn K mainGlobals "min" = some none)
    (z9 : PySem.W.nsIn K mainGlobals "max" = some none)
    (z10 : PySem.W.nsIn K mainGlobals "repr" = some none)
    (z11 : PySem.W.nsIn K mainGlobals "isinstance" = some none)
    (z12 : PySem.W.nsIn K mainGlobals "range" = some none)
    (z13 : PySem.W.nsIn K mainGlobals "enumerate" = some none)
    (z14 : PySem.W.nsIn K mainGlobals "zip" = some none)
    (z15 : PySem.W.nsIn K mainGlobals "bool" = some none)
    (z16 : PySem.W.nsIn K mainGlobals "str" = some none)
    (z17 : PySem.W.nsIn K mainGlobals "super" = some none)
    (y0 : PySem.W.nsIn K mainGlobals "MOST_JOBS" = some (some (.int 8 t0)))
    (y1 : PySem.W.nsIn K mainGlobals "MOST_LINKS" = some (some (.int 40 t1)))
    (y2 : PySem.W.nsIn K mainGlobals "MOST_SPAN" = some (some (.int 99 t2)))
    (ec_TicklessError : PySem.W.nsIn K mainGlobals "TicklessError" = some (some (.ref C_TicklessError)))
    (ec_BadValue : PySem.W.nsIn K mainGlobals "BadValue" = some (some (.ref C_BadValue)))
    (ec_TooMany : PySem.W.nsIn K mainGlobals "TooMany" = some (some (.ref C_TooMany)))
    (ez_BadText : PySem.W.nsIn K mainGlobals "BadText" = some none)
    (ez_BadMachine : PySem.W.nsIn K mainGlobals "BadMachine" = some none)
    (ez_OpenEnd : PySem.W.nsIn K mainGlobals "OpenEnd" = some none)
    (ez_NotClear : PySem.W.nsIn K mainGlobals "NotClear" = some none)
    (ez_NothingToUndo : PySem.W.nsIn K mainGlobals "NothingToUndo" = some none)
    (ehn : PySem.W.specialIn K (.builtin "object.__class__") "__get__" = some (some (.builtin "getset_descriptor.__get__")))
    (eht : PySem.W.takesIn K (.builtin "object.__class__") = some true)
    (eop : PySem.W.nsIn K PySem.cStatics "thirdparty.any" = some none)
    (eeC_TicklessError : PySem.W.subIn K (.ref C_TicklessError) (.type "BaseException") = some true)
    (ehd_TicklessError : PySem.W.hasDictIn K C_TicklessError = true)
    (etC_TicklessError : PySem.W.typeIn K (.ref C_TicklessError) = some (.type "type"))
    (eeC_BadValue : PySem.W.subIn K (.ref C_BadValue) (.type "BaseException") = some true)
    (ehd_BadValue : PySem.W.hasDictIn K C_BadValue = true)
    (etC_BadValue : PySem.W.typeIn K (.ref C_BadValue) = some (.type "type"))
    (eeC_TooMany : PySem.W.subIn K (.ref C_TooMany) (.type "BaseException") = some true)
    (ehd_TooMany : PySem.W.hasDictIn K C_TooMany = true)
    (etC_TooMany : PySem.W.typeIn K (.ref C_TooMany) = some (.type "type"))
    (ega_BadValue : PySem.W.findIn K (.ref C_BadValue) "__getattribute__" = some (some (.builtin "BaseException.__getattribute__")))
    (egg_BadValue : PySem.W.findIn K (.ref C_BadValue) "__getattr__" = some none)
    (eha_BadValue : PySem.W.findIn K (.ref C_BadValue) "__class__" = some (some (.builtin "object.__class__")))
    (ehm_BadValue : PySem.W.mroIn K C_BadValue (.type "object") = some true)
    (en0_BadValue : PySem.W.findIn K (.ref C_BadValue) "what" = some none)
    (en1_BadValue : PySem.W.findIn K (.ref C_BadValue) "limit" = some none)
    (en2_BadValue : PySem.W.findIn K (.ref C_BadValue) "line" = some none)
    (en3_BadValue : PySem.W.findIn K (.ref C_BadValue) "reason" = some none)
    (en4_BadValue : PySem.W.findIn K (.ref C_BadValue) "at" = some none)
    (en5_BadValue : PySem.W.findIn K (.ref C_BadValue) "kind" = some none)
    (en6_BadValue : PySem.W.findIn K (.ref C_BadValue) "first" = some none)
    (en7_BadValue : PySem.W.findIn K (.ref C_BadValue) "second" = some none)
    (es_BadValue_BadValue : PySem.W.subIn K (.ref C_BadValue) (.ref C_BadValue) = some true)
    (es_BadValue_TicklessError : PySem.W.subIn K (.ref C_BadValue) (.ref C_TicklessError) = some true)
    (es_BadValue_TooMany : PySem.W.subIn K (.ref C_BadValue) (.ref C_TooMany) = some false)
    (ene_BadValue_TooMany : C_BadValue ≠ C_TooMany)
    (exL_BadValue : K.lookup C_BadValue = some (excClassObj nm_BadValue q_BadValue C_BadValue N_BadValue bs_BadValue [.ref C_TicklessError, .type "ValueError", .type "Exception", .type "BaseException", .type "object"] true sn_BadValue sub_BadValue ab_BadValue col_BadValue dd_BadValue ma_BadValue mb_BadValue mc_BadValue md_BadValue me_BadValue "ValueError.__new__"))
    (esa_BadValue : PySem.W.findIn K (.ref C_BadValue) "__setattr__" = some (some (.builtin "object.__setattr__")))
    (ekC_BadValue : PySem.W.keepIn K (.ref C_BadValue) = true)
    (eiI_BadValue : PySem.W.findIn K (.ref C_BadValue) "__init__" = some (some (.ref fI_BadValue)))
    (etI_BadValue : PySem.W.typeIn K (.ref fI_BadValue) = some (.type "function"))
    (elI_BadValue : K.lookup fI_BadValue = some ⟨ioc_BadValue, iod_BadValue, .func (PySem.W.ksFn "__init__" "BadValue.__init__" (defArgs i_BadValue) (defBody i_BadValue) (defScope i_BadValue) .none ikV_BadValue idoc_BadValue ipm_BadValue ian_BadValue (.ref cda_BadValue) ict_BadValue cc_BadValue), iosl_BadValue⟩)
    (ecI_BadValue : PySem.W.codeIn K (.ref cda_BadValue) "BadValue.__init__" = true)
    (elc_BadValue : K.lookup cc_BadValue = some ⟨icl_BadValue, icld_BadValue, .cell (some (.ref C_BadValue)), icsl_BadValue⟩)
    (eld_BadValue : K.lookup cda_BadValue = some ⟨iccl_BadValue, icdd_BadValue, .fields ivs_BadValue, iccs_BadValue⟩)
    (ehv_BadValue : ivs_BadValue[2]? = some (.str ifile_BadValue itf_BadValue))
    (ehf_BadValue : ((l.prog.main.file : Str) == ifile_BadValue) = true)
    (esup_BadValue : PySem.W.ks_superIn K C_BadValue C_BadValue "__init__" = some (some (.builtin "ValueError.__init__")))
    (esub_BadValue : PySem.W.subIn K (.ref C_BadValue) (.type "ValueError") = some true)
    (emro_BadValue : PySem.W.mroIn K C_BadValue (.ref C_BadValue) = some true)
    (ega_TooMany : PySem.W.findIn K (.ref C_TooMany) "__getattribute__" = some (some (.builtin "BaseException.__getattribute__")))
    (egg_TooMany : PySem.W.findIn K (.ref C_TooMany) "__getattr__" = some none)
    (eha_TooMany : PySem.W.findIn K (.ref C_TooMany) "__class__" = some (some (.builtin "object.__class__")))
    (ehm_TooMany : PySem.W.mroIn K C_TooMany (.type "object") = some true)
    (en0_TooMany : PySem.W.findIn K (.ref C_TooMany) "what" = some none)
    (en1_TooMany : PySem.W.findIn K (.ref C_TooMany) "limit" = some none)
    (en2_TooMany : PySem.W.findIn K (.ref C_TooMany) "line" = some none)
    (en3_TooMany : PySem.W.findIn K (.ref C_TooMany) "reason" = some none)
    (en4_TooMany : PySem.W.findIn K (.ref C_TooMany) "at" = some none)
    (en5_TooMany : PySem.W.findIn K (.ref C_TooMany) "kind" = some none)
    (en6_TooMany : PySem.W.findIn K (.ref C_TooMany) "first" = some none)
    (en7_TooMany : PySem.W.findIn K (.ref C_TooMany) "second" = some none)
    (es_TooMany_BadValue : PySem.W.subIn K (.ref C_TooMany) (.ref C_BadValue) = some false)
    (ene_TooMany_BadValue : C_TooMany ≠ C_BadValue)
    (es_TooMany_TicklessError : PySem.W.subIn K (.ref C_TooMany) (.ref C_TicklessError) = some true)
    (es_TooMany_TooMany : PySem.W.subIn K (.ref C_TooMany) (.ref C_TooMany) = some true)
    (etop : (l.prog.main.scope.names.lookup ("super" : Str)).isSome = false) :
    ∃ fd : FuncData, (∀ (s : Shared) (v : Value), BindsTo s fd ⟨[v], []⟩ [("script", v)]) ∧ ∀ base : Heap, K.In base → base.Ns mainGlobals mg → FnG l.prog w K mg base 8 fa fd ["script"] (liftSp K mg 1 lawSp) := by
  have e := hfa.symm.trans (PySem.W.mg_of X G a35)
  cases e
  have hb : ∀ x ∈ bltNames, mg x = none := by
    intro x hx
    simp only [bltNames, List.mem_cons, List.not_mem_nil, or_false] at hx
    rcases hx with rfl | rfl | rfl | rfl | rfl | rfl | rfl | rfl | rfl | rfl | rfl | rfl | rfl | rfl | rfl | rfl | rfl | rfl
    · exact PySem.W.mg_none_of X G z0
    · exact PySem.W.mg_none_of X G z1
    · exact PySem.W.mg_none_of X G z2
    · exact PySem.W.mg_none_of X G z3
    · exact PySem.W.mg_none_of X G z4
    · exact PySem.W.mg_none_of X G z5
    · exact PySem.W.mg_none_of X G z6
    · exact PySem.W.mg_none_of X G z7
    · exact PySem.W.mg_none_of X G z8
    · exact PySem.W.mg_none_of X G z9
    · exact PySem.W.mg_none_of X G z10
    · exact PySem.W.mg_none_of X G z11
    · exact PySem.W.mg_none_of X G z12
    · exact PySem.W.mg_none_of X G z13
    · exact PySem.W.mg_none_of X G z14
    · exact PySem.W.mg_none_of X G z15
    · exact PySem.W.mg_none_of X G z16
    · exact PySem.W.mg_none_of X G z17
  have cl_BadValue : ClsRd K C_BadValue := cls_mk ega_BadValue egg_BadValue eeC_BadValue ehd_BadValue eha_BadValue ehn eht ehm_BadValue en0_BadValue en1_BadValue en2_BadValue en3_BadValue en4_BadValue en5_BadValue en6_BadValue en7_BadValue
  have cl_TooMany : ClsRd K C_TooMany := cls_mk ega_TooMany egg_TooMany eeC_TooMany ehd_TooMany eha_TooMany ehn eht ehm_TooMany en0_TooMany en1_TooMany en2_TooMany en3_TooMany en4_TooMany en5_TooMany en6_TooMany en7_TooMany
  have L : Facts (l.prog) w K mg :=
    { blt := hb
      g_MOST_JOBS := ⟨_, PySem.W.mg_of X G y0⟩
      g_MOST_LINKS := ⟨_, PySem.W.mg_of X G y1⟩
      g_MOST_SPAN := ⟨_, PySem.W.mg_of X G y2⟩
      f_is_int := ⟨f0, _, fun_mk (st := s_is_int) l0 c0 k0, PySem.W.mg_of X G a0, (fun_mk (st := s_is_int) l0 c0 k0).binds fun _ _ _ _ _ _ us hl => match us, hl with | [_], _ => rfl⟩
      f_is_whole := ⟨f1, _, fun_mk (st := s_is_whole) l1 c1 k1, PySem.W.mg_of X G a1, (fun_mk (st := s_is_whole) l1 c1 k1).binds fun _ _ _ _ _ _ us hl => match us, hl with | [_, _, _], _ => rfl⟩
      f_at_most := ⟨f2, _, fun_mk (st := s_at_most) l2 c2 k2, PySem.W.mg_of X G a2, (fun_mk (st := s_at_most) l2 c2 k2).binds fun _ _ _ _ _ _ us hl => match us, hl with | [_], _ => rfl⟩
      f_relaxed := ⟨f3, _, fun_mk (st := s_relaxed) l3 c3 k3, PySem.W.mg_of X G a3, (fun_mk (st := s_relaxed) l3 c3 k3).binds fun _ _ _ _ _ _ us hl => match us, hl with | [_, _], _ => rfl⟩
      f_falling_round := ⟨f4, _, fun_mk (st := s_falling_round) l4 c4 k4, PySem.W.mg_of X G a4, (fun_mk (st := s_falling_round) l4 c4 k4).binds fun _ _ _ _ _ _ us hl => match us, hl with | [_, _], _ => rfl⟩
      f_lowest := ⟨f5, _, fun_mk (st := s_lowest) l5 c5 k5, PySem.W.mg_of X G a5, (fun_mk (st := s_lowest) l5 c5 k5).binds fun _ _ _ _ _ _ us hl => match us, hl with | [_, _], _ => rfl⟩
      f_is_job := ⟨f6, _, fun_mk (st := s_is_job) l6 c6 k6, PySem.W.mg_of X G a6, (fun_mk (st := s_is_job) l6 c6 k6).binds fun _ _ _ _ _ _ us hl => match us, hl with | [_], _ => rfl⟩
      f_is_link := ⟨f7, _, fun_mk (st := s_is_link) l7 c7 k7, PySem.W.mg_of X G a7, (fun_mk (st := s_is_link) l7 c7 k7).binds fun _ _ _ _ _ _ us hl => match us, hl with | [_, _], _ => rfl⟩
      f_check_jobs := ⟨f8, _, fun_mk (st := s_check_jobs) l8 c8 k8, PySem.W.mg_of X G a8, (fun_mk (st := s_check_jobs) l8 c8 k8).binds fun _ _ _ _ _ _ us hl => match us, hl with | [_, _], _ => rfl⟩
      f_begin_of := ⟨f9, _, fun_mk (st := s_begin_of) l9 c9 k9, PySem.W.mg_of X G a9, (fun_mk (st := s_begin_of) l9 c9 k9).binds fun _ _ _ _ _ _ us hl => match us, hl with | [_], _ => rfl⟩
      f_end_event := ⟨f10, _, fun_mk (st := s_end_event) l10 c10 k10, PySem.W.mg_of X G a10, (fun_mk (st := s_end_event) l10 c10 k10).binds fun _ _ _ _ _ _ us hl => match us, hl with | [_], _ => rfl⟩
      f_link_forms := ⟨f11, _, fun_mk (st := s_link_forms) l11 c11 k11, PySem.W.mg_of X G a11, (fun_mk (st := s_link_forms) l11 c11 k11).binds fun _ _ _ _ _ _ us hl => match us, hl with | [_], _ => rfl⟩
      f_made_job_system := ⟨f12, _, fun_mk (st := s_made_job_system) l12 c12 k12, PySem.W.mg_of X G a12, (fun_mk (st := s_made_job_system) l12 c12 k12).binds fun _ _ _ _ _ _ us hl => match us, hl with | [_, _], _ => rfl⟩
      f_job_system := ⟨f13, _, fun_mk (st := s_job_system) l13 c13 k13, PySem.W.mg_of X G a13, (fun_mk (st := s_job_system) l13 c13 k13).binds fun _ _ _ _ _ _ us hl => match us, hl with | [_, _], _ => rfl⟩
      f_whole_weights := ⟨f14, _, fun_mk (st := s_whole_weights) l14 c14 k14, PySem.W.mg_of X G a14, (fun_mk (st := s_whole_weights) l14 c14 k14).binds fun _ _ _ _ _ _ us hl => match us, hl with | [_], _ => rfl⟩
      f_lowest_hours := ⟨f15, _, fun_mk (st := s_lowest_hours) l15 c15 k15, PySem.W.mg_of X G a15, (fun_mk (st := s_lowest_hours) l15 c15 k15).binds fun _ _ _ _ _ _ us hl => match us, hl with | [_, _], _ => rfl⟩
      f_hours_of := ⟨f16, _, fun_mk (st := s_hours_of) l16 c16 k16, PySem.W.mg_of X G a16, (fun_mk (st := s_hours_of) l16 c16 k16).binds fun _ _ _ _ _ _ us hl => match us, hl with | [_, _], _ => rfl⟩
      f_job_fall := ⟨f17, _, fun_mk (st := s_job_fall) l17 c17 k17, PySem.W.mg_of X G a17, (fun_mk (st := s_job_fall) l17 c17 k17).binds fun _ _ _ _ _ _ us hl => match us, hl with | [_, _], _ => rfl⟩
      f_least_end := ⟨f18, _, fun_mk (st := s_least_end) l18 c18 k18, PySem.W.mg_of X G a18, (fun_mk (st := s_least_end) l18 c18 k18).binds fun _ _ _ _ _ _ us hl => match us, hl with | [_, _], _ => rfl⟩
      f__law_pool := ⟨f19, _, fun_mk (st := s__law_pool) l19 c19 k19, PySem.W.mg_of X G a19, (fun_mk (st := s__law_pool) l19 c19 k19).binds fun _ _ _ _ _ _ us hl => match us, hl with | [_], _ => rfl⟩
      f__law_mix := ⟨f20, _, fun_mk (st := s__law_mix) l20 c20 k20, PySem.W.mg_of X G a20, (fun_mk (st := s__law_mix) l20 c20 k20).binds fun _ _ _ _ _ _ us hl => match us, hl with | [_], _ => rfl⟩
      f__law_draw := ⟨f21, _, fun_mk (st := s__law_draw) l21 c21 k21, PySem.W.mg_of X G a21, (fun_mk (st := s__law_draw) l21 c21 k21).binds fun _ _ _ _ _ _ us hl => match us, hl with | [_, _], _ => rfl⟩
      f__law_pick := ⟨f22, _, fun_mk (st := s__law_pick) l22 c22 k22, PySem.W.mg_of X G a22, (fun_mk (st := s__law_pick) l22 c22 k22).binds fun _ _ _ _ _ _ us hl => match us, hl with | [_, _], _ => rfl⟩
      f__law_int := ⟨f23, _, fun_mk (st := s__law_int) l23 c23 k23, PySem.W.mg_of X G a23, (fun_mk (st := s__law_int) l23 c23 k23).binds fun _ _ _ _ _ _ us hl => match us, hl with | [_], _ => rfl⟩
      f__law_same := ⟨f24, _, fun_mk (st := s__law_same) l24 c24 k24, PySem.W.mg_of X G a24, (fun_mk (st := s__law_same) l24 c24 k24).binds fun _ _ _ _ _ _ us hl => match us, hl with | [_, _], _ => rfl⟩
      f__law_lowest := ⟨f25, _, fun_mk (st := s__law_lowest) l25 c25 k25, PySem.W.mg_of X G a25, (fun_mk (st := s__law_lowest) l25 c25 k25).binds fun _ _ _ _ _ _ us hl => match us, hl with | [_, _], _ => rfl⟩
      f__law_numbers := ⟨f26, _, fun_mk (st := s__law_numbers) l26 c26 k26, PySem.W.mg_of X G a26, (fun_mk (st := s__law_numbers) l26 c26 k26).binds fun _ _ _ _ _ _ us hl => match us, hl with | [_, _], _ => rfl⟩
      f__law_links := ⟨f27, _, fun_mk (st := s__law_links) l27 c27 k27, PySem.W.mg_of X G a27, (fun_mk (st := s__law_links) l27 c27 k27).binds fun _ _ _ _ _ _ us hl => match us, hl with | [_, _, _, _], _ => rfl⟩
      f__law_job_bounds := ⟨f28, _, fun_mk (st := s__law_job_bounds) l28 c28 k28, PySem.W.mg_of X G a28, (fun_mk (st := s__law_job_bounds) l28 c28 k28).binds fun _ _ _ _ _ _ us hl => match us, hl with | [_, _], _ => rfl⟩
      f__law_round_falls := ⟨f29, _, fun_mk (st := s__law_round_falls) l29 c29 k29, PySem.W.mg_of X G a29, (fun_mk (st := s__law_round_falls) l29 c29 k29).binds fun _ _ _ _ _ _ us hl => match us, hl with | [_, _], _ => rfl⟩
      f__law_world := ⟨f30, _, fun_mk (st := s__law_world) l30 c30 k30, PySem.W.mg_of X G a30, (fun_mk (st := s__law_world) l30 c30 k30).binds fun _ _ _ _ _ _ us hl => match us, hl with | [_], _ => rfl⟩
      f__law_answers := ⟨f31, _, fun_mk (st := s__law_answers) l31 c31 k31, PySem.W.mg_of X G a31, (fun_mk (st := s__law_answers) l31 c31 k31).binds fun _ _ _ _ _ _ us hl => match us, hl with | [_, _], _ => rfl⟩
      f__law_what := ⟨f32, _, fun_mk (st := s__law_what) l32 c32 k32, PySem.W.mg_of X G a32, (fun_mk (st := s__law_what) l32 c32 k32).binds fun _ _ _ _ _ _ us hl => match us, hl with | [_, _], _ => rfl⟩
      f__law_bad_jobs := ⟨f33, _, fun_mk (st := s__law_bad_jobs) l33 c33 k33, PySem.W.mg_of X G a33, (fun_mk (st := s__law_bad_jobs) l33 c33 k33).binds fun _ _ _ _ _ _ us hl => match us, hl with | [_], _ => rfl⟩
      f__law_bad_links := ⟨f34, _, fun_mk (st := s__law_bad_links) l34 c34 k34, PySem.W.mg_of X G a34, (fun_mk (st := s__law_bad_links) l34 c34 k34).binds fun _ _ _ _ _ _ us hl => match us, hl with | [_, _], _ => rfl⟩
      x0_BadValue := fun base k hk => has_raise hk (PySem.W.mg_of X G ec_BadValue) (oex_mk exL_BadValue rfl esa_BadValue eeC_BadValue etC_BadValue ekC_BadValue) eiI_BadValue etI_BadValue (.all fun us hl => match us, hl with | [_, _], _ => rfl) (by rw [fld_bv]; exact cl_BadValue.no _ (by decide)) (iok_BadValue (ini_mk elI_BadValue ecI_BadValue elc_BadValue eld_BadValue ehv_BadValue ehf_BadValue esup_BadValue esub_BadValue emro_BadValue eop etop) (hb _ (by decide +kernel)))
      x1_BadValue := fun base k => has_exc (PySem.W.mg_of X G ec_BadValue) (exc_all (exc7 (.inl (PySem.W.mg_none_of X G ez_BadText)) (.inl (PySem.W.mg_none_of X G ez_BadMachine)) (.inr ⟨C_BadValue, PySem.W.mg_of X G ec_BadValue, ⟨(PySem.W.exm_ref eeC_BadValue ehd_BadValue etC_BadValue es_BadValue_BadValue).trans (by decide), cl_BadValue⟩⟩) (.inr ⟨C_TooMany, PySem.W.mg_of X G ec_TooMany, ⟨(PySem.W.exm_ref eeC_BadValue ehd_BadValue etC_BadValue es_TooMany_BadValue).trans (by decide), cl_TooMany⟩⟩) (.inl (PySem.W.mg_none_of X G ez_OpenEnd)) (.inl (PySem.W.mg_none_of X G ez_NotClear)) (.inl (PySem.W.mg_none_of X G ez_NothingToUndo))))
      x2_TicklessError := fun base k => has_is (PySem.W.mg_of X G ec_TicklessError) (exc_all (exc7 (.inl (PySem.W.mg_none_of X G ez_BadText)) (.inl (PySem.W.mg_none_of X G ez_BadMachine)) (.inr ⟨C_BadValue, PySem.W.mg_of X G ec_BadValue, (kit_ref ehd_TicklessError etC_TicklessError es_BadValue_TicklessError).trans (by decide)⟩) (.inr ⟨C_TooMany, PySem.W.mg_of X G ec_TooMany, (kit_ref ehd_TicklessError etC_TicklessError es_TooMany_TicklessError).trans (by decide)⟩) (.inl (PySem.W.mg_none_of X G ez_OpenEnd)) (.inl (PySem.W.mg_none_of X G ez_NotClear)) (.inl (PySem.W.mg_none_of X G ez_NothingToUndo))))
      x2_TooMany := fun base k => has_is (PySem.W.mg_of X G ec_TooMany) (exc_all (exc7 (.inl (PySem.W.mg_none_of X G ez_BadText)) (.inl (PySem.W.mg_none_of X G ez_BadMachine)) (.inr ⟨C_BadValue, PySem.W.mg_of X G ec_BadValue, (kit_no ene_BadValue_TooMany ehd_TooMany etC_TooMany es_BadValue_TooMany).trans (by decide)⟩) (.inr ⟨C_TooMany, PySem.W.mg_of X G ec_TooMany, kit_self.trans (by decide)⟩) (.inl (PySem.W.mg_none_of X G ez_OpenEnd)) (.inl (PySem.W.mg_none_of X G ez_NotClear)) (.inl (PySem.W.mg_none_of X G ez_NothingToUndo)))) }
  exact ⟨_, fun s v => .of_eq rfl, fun base _ _ => ok_law L (fun_mk (st := s_law) l35 c35 k35)⟩
end TK
open PySem PySem.W PyProof.Rows
set_option maxHeartbeats 0 in
theorem PySem.Challenge.cw_tickless_k86_hours_of_jobs_holds : PySem.Challenge.rw_tickless_k86_hours_of_jobs.Holds := by
  w_on; o_law; k_head; (case hw => w_witness2)
  k_fill
  refine TK.walk_of (l := PySem.Challenge.rw_tickless_k86_hours_of_jobs) (k := 8) (x := "script") rfl rfl ⟨rfl, by decide, by decide⟩ (fun w h Y => PySem.W.kIn_of Y) ?F
  case F =>
    intro w mg fa h KX G hmg
    refine' TK.all_mk KX G hmg ?a0 ?l0 ?c0 ?k0 ?a1 ?l1 ?c1 ?k1 ?a2 ?l2 ?c2 ?k2 ?a3 ?l3 ?c3 ?k3 ?a4 ?l4 ?c4 ?k4 ?a5 ?l5 ?c5 ?k5 ?a6 ?l6 ?c6 ?k6 ?a7 ?l7 ?c7 ?k7 ?a8 ?l8 ?c8 ?k8 ?a9 ?l9 ?c9 ?k9 ?a10 ?l10 ?c10 ?k10 ?a11 ?l11 ?c11 ?k11 ?a12 ?l12 ?c12 ?k12 ?a13 ?l13 ?c13 ?k13 ?a14 ?l14 ?c14 ?k14 ?a15 ?l15 ?c15 ?k15 ?a16 ?l16 ?c16 ?k16 ?a17 ?l17 ?c17 ?k17 ?a18 ?l18 ?c18 ?k18 ?a19 ?l19 ?c19 ?k19 ?a20 ?l20 ?c20 ?k20 ?a21 ?l21 ?c21 ?k21 ?a22 ?l22 ?c22 ?k22 ?a23 ?l23 ?c23 ?k23 ?a24 ?l24 ?c24 ?k24 ?a25 ?l25 ?c25 ?k25 ?a26 ?l26 ?c26 ?k26 ?a27 ?l27 ?c27 ?k27 ?a28 ?l28 ?c28 ?k28 ?a29 ?l29 ?c29 ?k29 ?a30 ?l30 ?c30 ?k30 ?a31 ?l31 ?c31 ?k31 ?a32 ?l32 ?c32 ?k32 ?a33 ?l33 ?c33 ?k33 ?a34 ?l34 ?c34 ?k34 ?a35 ?l35 ?c35 ?k35 ?z0 ?z1 ?z2 ?z3 ?z4 ?z5 ?z6 ?z7 ?z8 ?z9 ?z10 ?z11 ?z12 ?z13 ?z14 ?z15 ?z16 ?z17 ?y0 ?y1 ?y2 ?ec_TicklessError ?ec_BadValue ?ec_TooMany ?ez_BadText ?ez_BadMachine ?ez_OpenEnd ?ez_NotClear ?ez_NothingToUndo ?ehn ?eht ?eop ?eeC_TicklessError ?ehd_TicklessError ?etC_TicklessError ?eeC_BadValue ?ehd_BadValue ?etC_BadValue ?eeC_TooMany ?ehd_TooMany ?etC_TooMany ?ega_BadValue ?egg_BadValue ?eha_BadValue ?ehm_BadValue ?en0_BadValue ?en1_BadValue ?en2_BadValue ?en3_BadValue ?en4_BadValue ?en5_BadValue ?en6_BadValue ?en7_BadValue ?es_BadValue_BadValue ?es_BadValue_TicklessError ?es_BadValue_TooMany ?ene_BadValue_TooMany ?exL_BadValue ?esa_BadValue ?ekC_BadValue ?eiI_BadValue ?etI_BadValue ?elI_BadValue ?ecI_BadValue ?elc_BadValue ?eld_BadValue ?ehv_BadValue ?ehf_BadValue ?esup_BadValue ?esub_BadValue ?emro_BadValue ?ega_TooMany ?egg_TooMany ?eha_TooMany ?ehm_TooMany ?en0_TooMany ?en1_TooMany ?en2_TooMany ?en3_TooMany ?en4_TooMany ?en5_TooMany ?en6_TooMany ?en7_TooMany ?es_TooMany_BadValue ?ene_TooMany_BadValue ?es_TooMany_TicklessError ?es_TooMany_TooMany ?etop
    (case a0 => k_is); (case l0 => k_is); (case c0 => k_is); (case k0 => k_is); (case a1 => k_is); (case l1 => k_is); (case c1 => k_is); (case k1 => k_is); (case a2 => k_is); (case l2 => k_is); (case c2 => k_is); (case k2 => k_is); (case a3 => k_is); (case l3 => k_is); (case c3 => k_is); (case k3 => k_is); (case a4 => k_is); (case l4 => k_is); (case c4 => k_is); (case k4 => k_is); (case a5 => k_is); (case l5 => k_is); (case c5 => k_is); (case k5 => k_is); (case a6 => k_is); (case l6 => k_is); (case c6 => k_is); (case k6 => k_is); (case a7 => k_is); (case l7 => k_is); (case c7 => k_is); (case k7 => k_is); (case a8 => k_is); (case l8 => k_is); (case c8 => k_is); (case k8 => k_is); (case a9 => k_is); (case l9 => k_is); (case c9 => k_is); (case k9 => k_is); (case a10 => k_is); (case l10 => k_is); (case c10 => k_is); (case k10 => k_is); (case a11 => k_is); (case l11 => k_is); (case c11 => k_is); (case k11 => k_is); (case a12 => k_is); (case l12 => k_is); (case c12 => k_is); (case k12 => k_is); (case a13 => k_is); (case l13 => k_is); (case c13 => k_is); (case k13 => k_is); (case a14 => k_is); (case l14 => k_is); (case c14 => k_is); (case k14 => k_is); (case a15 => k_is); (case l15 => k_is); (case c15 => k_is); (case k15 => k_is); (case a16 => k_is); (case l16 => k_is); (case c16 => k_is); (case k16 => k_is); (case a17 => k_is); (case l17 => k_is); (case c17 => k_is); (case k17 => k_is); (case a18 => k_is); (case l18 => k_is); (case c18 => k_is); (case k18 => k_is); (case a19 => k_is); (case l19 => k_is); (case c19 => k_is); (case k19 => k_is); (case a20 => k_is); (case l20 => k_is); (case c20 => k_is); (case k20 => k_is); (case a21 => k_is); (case l21 => k_is); (case c21 => k_is); (case k21 => k_is); (case a22 => k_is); (case l22 => k_is); (case c22 => k_is); (case k22 => k_is); (case a23 => k_is); (case l23 => k_is); (case c23 => k_is); (case k23 => k_is); (case a24 => k_is); (case l24 => k_is); (case c24 => k_is); (case k24 => k_is); (case a25 => k_is); (case l25 => k_is); (case c25 => k_is); (case k25 => k_is); (case a26 => k_is); (case l26 => k_is); (case c26 => k_is); (case k26 => k_is); (case a27 => k_is); (case l27 => k_is); (case c27 => k_is); (case k27 => k_is); (case a28 => k_is); (case l28 => k_is); (case c28 => k_is); (case k28 => k_is); (case a29 => k_is); (case l29 => k_is); (case c29 => k_is); (case k29 => k_is); (case a30 => k_is); (case l30 => k_is); (case c30 => k_is); (case k30 => k_is); (case a31 => k_is); (case l31 => k_is); (case c31 => k_is); (case k31 => k_is); (case a32 => k_is); (case l32 => k_is); (case c32 => k_is); (case k32 => k_is); (case a33 => k_is); (case l33 => k_is); (case c33 => k_is); (case k33 => k_is); (case a34 => k_is); (case l34 => k_is); (case c34 => k_is); (case k34 => k_is); (case a35 => k_is); (case l35 => k_is); (case c35 => k_is); (case k35 => k_is); (case z0 => k_is); (case z1 => k_is); (case z2 => k_is); (case z3 => k_is); (case z4 => k_is); (case z5 => k_is); (case z6 => k_is); (case z7 => k_is); (case z8 => k_is); (case z9 => k_is); (case z10 => k_is); (case z11 => k_is); (case z12 => k_is); (case z13 => k_is); (case z14 => k_is); (case z15 => k_is); (case z16 => k_is); (case z17 => k_is); (case y0 => k_is); (case y1 => k_is); (case y2 => k_is); (case ec_TicklessError => k_is); (case ec_BadValue => k_is); (case ec_TooMany => k_is); (case ez_BadText => k_is); (case ez_BadMachine => k_is); (case ez_OpenEnd => k_is); (case ez_NotClear => k_is); (case ez_NothingToUndo => k_is); (case ehn => k_is); (case eht => k_is); (case eop => k_is); (case eeC_TicklessError => k_is); (case ehd_TicklessError => k_is); (case etC_TicklessError => k_is); (case eeC_BadValue => k_is); (case ehd_BadValue => k_is); (case etC_BadValue => k_is); (case eeC_TooMany => k_is); (case ehd_TooMany => k_is); (case etC_TooMany => k_is); (case ega_BadValue => k_is); (case egg_BadValue => k_is); (case eha_BadValue => k_is); (case ehm_BadValue => k_is); (case en0_BadValue => k_is); (case en1_BadValue => k_is); (case en2_BadValue => k_is); (case en3_BadValue => k_is); (case en4_BadValue => k_is); (case en5_BadValue => k_is); (case en6_BadValue => k_is); (case en7_BadValue => k_is); (case es_BadValue_BadValue => k_is); (case es_BadValue_TicklessError => k_is); (case es_BadValue_TooMany => k_is); (case ene_BadValue_TooMany => decide); (case exL_BadValue => k_is); (case esa_BadValue => k_is); (case ekC_BadValue => k_is); (case eiI_BadValue => k_is); (case etI_BadValue => k_is); (case elI_BadValue => k_is); (case ecI_BadValue => k_is); (case elc_BadValue => k_is); (case eld_BadValue => k_is); (case ehv_BadValue => rfl); (case ehf_BadValue => first | rfl | decide +kernel); (case esup_BadValue => ks_is); (case esub_BadValue => k_is); (case emro_BadValue => k_is); (case ega_TooMany => k_is); (case egg_TooMany => k_is); (case eha_TooMany => k_is); (case ehm_TooMany => k_is); (case en0_TooMany => k_is); (case en1_TooMany => k_is); (case en2_TooMany => k_is); (case en3_TooMany => k_is); (case en4_TooMany => k_is); (case en5_TooMany => k_is); (case en6_TooMany => k_is); (case en7_TooMany => k_is); (case es_TooMany_BadValue => k_is); (case ene_TooMany_BadValue => decide); (case es_TooMany_TicklessError => k_is); (case es_TooMany_TooMany => k_is); (case etop => first | rfl | decide +kernel)
