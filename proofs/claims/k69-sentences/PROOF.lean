import PyProof.Rows.All
import Wide.All
import OpenK.AllK
import Wide.FinOn
import HandS.ForExc
import HandS.ForMost
import HandS.Wide
import HandS.Walk
import HandS.IsInst
import HandS.Zip
import HandS.TupAny
import HandS.Style
import HandS.Iter
import PyProof.Draws
import PyProof.EnumMake
import KE.GoesMore
import HandS.Deep
import PyProof.AutoSeq1
import KE.DataMinMax
import HandS.SortKw
import HandS.Words
import HandS.Ends
import HandS.ExcInit
import HandS.ExcCtx
import HandS.ExcIs
import HandS.ExcField
import HandS.HotCalls
import HandS.Defaults
import KE.KExcLine
import KE.RegKSuper
import HandS.TupMul
import HandS.TupLe
import PyProof.StrOps2
import PySem.Challenge.RW_tickless_k69_plain_meaning_of_sentences
set_option Elab.async false
set_option linter.all false
set_option maxRecDepth 100000
set_option maxHeartbeats 8000000
set_option maxRecDepth 100000
namespace TK
open PySem PySem.Spec PyProof.Rows L2

/-! ### values without a heap -/
/-- a value: tuples and frozen lists are their items; a list that is still written is its address -/
inductive PV where
  | non | bl (b : Bool) | int (i : Int) | str (x : Str) | tup (xs : List PV) | lst (xs : List PV) | ref (a : Nat) | scr (ns : List Int)
instance : Inhabited PV := ⟨.non⟩

abbrev Sl := List (Option PV)
def getS : Sl → Nat → Option PV
  | [], _ => none
  | x :: _, 0 => x
  | _ :: r, n + 1 => getS r n
def setS : Sl → Nat → Option PV → Sl
  | [], _, _ => []
  | _ :: r, 0, y => y :: r
  | x :: r, n + 1, y => x :: setS r n y
theorem setS_length : ∀ (τ : Sl) (i : Nat) (y : Option PV), (setS τ i y).length = τ.length
  | [], _, _ => rfl
  | _ :: _, 0, _ => rfl
  | _ :: r, n + 1, y => congrArg (· + 1) (setS_length r n y)
theorem getS_setS_same : ∀ {τ : Sl} {i : Nat} {y : Option PV}, i < τ.length → getS (setS τ i y) i = y
  | [], _, _, h => absurd h (Nat.not_lt_zero _)
  | _ :: _, 0, _, _ => rfl
  | _ :: r, n + 1, _, h => getS_setS_same (τ := r) (Nat.lt_of_succ_lt_succ h)
theorem getS_setS_ne : ∀ {τ : Sl} {i j : Nat} {y : Option PV}, j ≠ i → getS (setS τ i y) j = getS τ j
  | [], _, _, _, _ => rfl
  | _ :: _, 0, 0, _, h => absurd rfl h
  | _ :: _, 0, _ + 1, _, _ => rfl
  | _ :: _, _ + 1, 0, _, _ => rfl
  | _ :: r, i + 1, j + 1, _, h => getS_setS_ne (τ := r) (fun e => h (congrArg (· + 1) e))
theorem getS_lt : ∀ {τ : Sl} {i : Nat} {v : PV}, getS τ i = some v → i < τ.length
  | [], _, _, h => nomatch h
  | _ :: _, 0, _, _ => Nat.succ_pos _
  | _ :: r, n + 1, _, h => Nat.succ_lt_succ (getS_lt (τ := r) h)
def wipeS (τ : Sl) : List Nat → Sl
  | [] => τ
  | v :: vs => setS (wipeS τ vs) v none
theorem wipeS_length (τ : Sl) : ∀ vs, (wipeS τ vs).length = τ.length
  | [] => rfl
  | v :: vs => by show (setS (wipeS τ vs) v none).length = _; rw [setS_length, wipeS_length τ vs]
theorem wipeS_some {τ : Sl} {i : Nat} {x : PV} : ∀ {vs : List Nat}, getS (wipeS τ vs) i = some x → getS τ i = some x ∧ i ∉ vs
  | [], h => ⟨h, List.not_mem_nil⟩
  | v :: vs, h => by
    have h' : getS (setS (wipeS τ vs) v none) i = some x := h
    by_cases e : i = v
    · subst e
      have := getS_lt h'
      rw [setS_length] at this
      rw [getS_setS_same this] at h'; cases h'
    · rw [getS_setS_ne e] at h'
      obtain ⟨a, b⟩ := wipeS_some h'
      exact ⟨a, fun hm => (List.mem_cons.mp hm).elim e b⟩

/-- what the proofs follow of the heap: lists that are still written; the law's own pool of draws -/
inductive Cell where
  | lst (xs : List PV)
  | pool
abbrev Store := Nat → Option Cell
def up (st : Store) (a : Nat) (c : Option Cell) : Store := fun b => if b = a then c else st b
theorem up_same {st : Store} {a : Nat} {c : Option Cell} : up st a c a = c := if_pos rfl
theorem up_ne {st : Store} {a b : Nat} {c : Option Cell} (h : b ≠ a) : up st a c b = st b := if_neg h

/-- an exception: its class's name, its attributes -/
abbrev Exn := Str × List (Str × PV)

/-! ### how they lie in the layer's heap -/
abbrev FS := Addr → Prop
def Imm : HO → Prop
  | .tup _ => True
  | .xd _ => True
  | .frz _ _ => True
  | _ => False
def Kp (H : Hp) (F : FS) (H' : Hp) : Prop := ∀ a u, H a = some u → F a ∨ Imm u → H' a = some u
structure Ext (F : FS) (H : Hp) (F' : FS) (H' : Hp) : Prop where
  le : ∀ a, F a → F' a
  kp : Kp H F H'
theorem Ext.refl {F : FS} {H : Hp} : Ext F H F H := ⟨fun _ h => h, fun _ _ h _ => h⟩
theorem Ext.trans {F F1 F2 : FS} {H H1 H2 : Hp} (a : Ext F H F1 H1) (b : Ext F1 H1 F2 H2) : Ext F H F2 H2 :=
  ⟨fun x h => b.le x (a.le x h), fun x u h i => b.kp x u (a.kp x u h i) (i.imp (a.le x) id)⟩

/-- the law's script, known for good -/
def ScrL (K : PySem.W.Frag) (H : Hp) (a : Addr) (ys : List V) : Prop :=
  (∃ o, H a = some (.frz o (.lst ys))) ∨ SqL K (fun _ => none) a ys
theorem sqk {K : PySem.W.Frag} {H : Hp} {a : Addr} {ys : List V} (h : SqL K (fun _ => none) a ys) : SqL K H a ys := by
  rcases h with (h | ⟨_, h⟩) | h
  · cases h
  · cases h
  · exact .inr h
theorem ScrL.sq {K : PySem.W.Frag} {H : Hp} {a : Addr} {ys : List V} (h : ScrL K H a ys) : SqL K H a ys := by
  rcases h with ⟨o, h⟩ | h
  · exact .inl (.inr ⟨o, h⟩)
  · exact sqk h
theorem ScrL.ext {K : PySem.W.Frag} {H H' : Hp} {F F' : FS} {a : Addr} {ys : List V} (x : Ext F H F' H') (h : ScrL K H a ys) : ScrL K H' a ys := by
  rcases h with ⟨o, h⟩ | h
  · exact .inl ⟨o, x.kp _ _ h (.inr trivial)⟩
  · exact .inr h
theorem sqText {K : PySem.W.Frag} {H H' : Hp} {F F' : FS} {a : Addr} {ys : List V} (x : Ext F H F' H') (h : SqT K H a ys) : SqT K H' a ys := by
  rcases h with (h | ⟨o, h⟩) | h
  · exact .inl (.inl (x.kp _ _ h (.inr trivial)))
  · exact .inl (.inr ⟨o, x.kp _ _ h (.inr trivial)⟩)
  · exact .inr h

mutual
inductive DV (K : PySem.W.Frag) (H : Hp) (F : FS) : PV → V → Prop
  | non : DV K H F .non .non
  | bl (b : Bool) : DV K H F (.bl b) (.bl b)
  | int (i : Int) : DV K H F (.int i) (.int i)
  | str (x : Str) : DV K H F (.str x) (.str x)
  | tup {a : Addr} {xs : List PV} {ys : List V} : SqT K H a ys → DVs K H F xs ys → DV K H F (.tup xs) (.ref a)
  | lst {a : Addr} {xs : List PV} {ys : List V} : F a → H a = some (.lst ys) → DVs K H F xs ys → DV K H F (.lst xs) (.ref a)
  | ref (a : Addr) : DV K H F (.ref a) (.ref a)
  | scr {a : Addr} {ns : List Int} : ScrL K H a (ns.map V.int) → DV K H F (.scr ns) (.ref a)
inductive DVs (K : PySem.W.Frag) (H : Hp) (F : FS) : List PV → List V → Prop
  | nil : DVs K H F [] []
  | cons {v : PV} {x : V} {vs : List PV} {xs : List V} : DV K H F v x → DVs K H F vs xs → DVs K H F (v :: vs) (x :: xs)
end
section
variable {K : PySem.W.Frag} {H H' : Hp} {F F' : FS}
mutual
theorem DV.ext (x : Ext F H F' H') : ∀ {v : PV} {y : V}, DV K H F v y → DV K H' F' v y
  | _, _, .non => .non
  | _, _, .bl b => .bl b
  | _, _, .int i => .int i
  | _, _, .str z => .str z
  | _, _, .tup h hs => .tup (sqText x h) (DVs.ext x hs)
  | _, _, .lst f h hs => .lst (x.le _ f) (x.kp _ _ h (.inl f)) (DVs.ext x hs)
  | _, _, .ref a => .ref a
  | _, _, .scr h => .scr (h.ext x)
theorem DVs.ext (x : Ext F H F' H') : ∀ {vs : List PV} {ys : List V}, DVs K H F vs ys → DVs K H' F' vs ys
  | _, _, .nil => .nil
  | _, _, .cons h hs => .cons (DV.ext x h) (DVs.ext x hs)
end
theorem DVs.app1 : ∀ {vs ws : List PV} {ys zs : List V}, DVs K H F vs ys → DVs K H F ws zs → DVs K H F (vs ++ ws) (ys ++ zs)
  | _, _, _, _, .nil, h => h
  | _, _, _, _, .cons a b, h => .cons a (b.app1 h)
theorem DVs.reverse : ∀ {vs : List PV} {ys : List V}, DVs K H F vs ys → DVs K H F vs.reverse ys.reverse
  | _, _, .nil => .nil
  | _, _, .cons a b => by
    rw [List.reverse_cons, List.reverse_cons]
    exact DVs.app1 b.reverse (.cons a .nil)
theorem DVs.length : ∀ {vs : List PV} {ys : List V}, DVs K H F vs ys → vs.length = ys.length
  | _, _, .nil => rfl
  | _, _, .cons _ hs => congrArg (· + 1) hs.length
theorem DVs.get : ∀ {vs : List PV} {ys : List V} {i : Nat} {v : PV}, DVs K H F vs ys → vs[i]? = some v → ∃ y, ys[i]? = some y ∧ DV K H F v y
  | _, _, _, _, .nil, e => by simp at e
  | _, _, 0, _, .cons h _, e => by simp at e; subst e; exact ⟨_, rfl, h⟩
  | _, _, i + 1, _, .cons _ hs, e => by simpa using hs.get (i := i) (by simpa using e)
theorem DVs.get' : ∀ {vs : List PV} {ys : List V} {i : Nat} {y : V}, DVs K H F vs ys → ys[i]? = some y → ∃ v, vs[i]? = some v ∧ DV K H F v y
  | _, _, _, _, .nil, e => by simp at e
  | _, _, 0, _, .cons h _, e => by simp at e; subst e; exact ⟨_, rfl, h⟩
  | _, _, i + 1, _, .cons _ hs, e => by simpa using hs.get' (i := i) (by simpa using e)
theorem DVs.append : ∀ {vs ws : List PV} {ys zs : List V}, DVs K H F vs ys → DVs K H F ws zs → DVs K H F (vs ++ ws) (ys ++ zs)
  | _, _, _, _, .nil, h => h
  | _, _, _, _, .cons a b, h => .cons a (b.append h)
theorem DVs.take : ∀ {vs : List PV} {ys : List V} (n : Nat), DVs K H F vs ys → DVs K H F (vs.take n) (ys.take n)
  | _, _, 0, _ => .nil
  | _, _, _ + 1, .nil => .nil
  | _, _, n + 1, .cons a b => .cons a (b.take n)
theorem DVs.drop : ∀ {vs : List PV} {ys : List V} (n : Nat), DVs K H F vs ys → DVs K H F (vs.drop n) (ys.drop n)
  | _, _, 0, h => h
  | _, _, _ + 1, .nil => .nil
  | _, _, n + 1, .cons _ b => b.drop n
theorem DVs.set {v : PV} {y : V} (h : DV K H F v y) : ∀ {vs : List PV} {ys : List V} (i : Nat), DVs K H F vs ys → DVs K H F (vs.set i v) (ys.set i y)
  | _, _, _, .nil => .nil
  | _, _, 0, .cons _ b => .cons h b
  | _, _, i + 1, .cons a b => .cons a (b.set h i)
theorem DVs.dropLast : ∀ {vs : List PV} {ys : List V}, DVs K H F vs ys → DVs K H F vs.dropLast ys.dropLast
  | _, _, .nil => .nil
  | _, _, .cons a .nil => .nil
  | _, _, .cons a (.cons b c) => .cons a (DVs.dropLast (.cons b c))
theorem DVs.flat {vs : List PV} {ys : List V} (h : DVs K H F vs ys) : ∀ k : Nat, DVs K H F (List.replicate k vs).flatten (List.replicate k ys).flatten
  | 0 => .nil
  | k + 1 => h.append (h.flat k)
theorem DVs.ints : ∀ (ns : List Int), DVs K H F (ns.map PV.int) (ns.map V.int)
  | [] => .nil
  | n :: r => .cons (.int n) (DVs.ints r)
theorem DVs.of_ints : ∀ {ns : List Int} {ys : List V}, DVs K H F (ns.map PV.int) ys → ys = ns.map V.int
  | [], _, .nil => rfl
  | n :: r, _, .cons h hs => by cases h; rw [hs.of_ints]; rfl
end

/-- the pool at a: the script's copy, and four numbers -/
def PoolH (H : Hp) (F : FS) (a : Addr) : Prop :=
  ∃ (q : Addr) (ns : List Int) (x b c d : Int), H a = some (.lst [.ref q, .int x, .int b, .int c, .int d]) ∧ F q ∧ H q = some (.lst (ns.map V.int)) ∧ 0 ≤ x
structure RS (K : PySem.W.Frag) (H : Hp) (F : FS) (st : Store) : Prop where
  lst : ∀ a xs, st a = some (.lst xs) → ¬ F a ∧ ∃ ys, H a = some (.lst ys) ∧ DVs K H F xs ys
  pool : ∀ a, st a = some .pool → ¬ F a ∧ PoolH H F a
  fz : ∀ a, F a → ∃ ys, H a = some (.lst ys)
def RSl (K : PySem.W.Frag) (H : Hp) (F : FS) (τ : Sl) (σ : L2.St) : Prop :=
  τ.length = σ.length ∧ ∀ i v, getS τ i = some v → ∃ x, σ[i]? = some (some x) ∧ DV K H F v x
section
variable {K : PySem.W.Frag} {H H' : Hp} {F F' : FS} {τ : Sl} {σ : L2.St} {st : Store}
theorem RSl.ext (x : Ext F H F' H') (h : RSl K H F τ σ) : RSl K H' F' τ σ :=
  ⟨h.1, fun i v e => let ⟨y, e', d⟩ := h.2 i v e; ⟨y, e', d.ext x⟩⟩
theorem RSl.set {v : PV} {y : V} (h : RSl K H F τ σ) (d : DV K H F v y) (i : Nat) : RSl K H F (setS τ i (some v)) (σ.set i (some y)) := by
  refine ⟨by rw [setS_length, List.length_set]; exact h.1, fun j w e => ?_⟩
  by_cases hj : j = i
  · subst hj
    have hl := getS_lt e
    rw [setS_length] at hl
    rw [getS_setS_same hl] at e
    cases e
    exact ⟨y, by rw [List.getElem?_set_self (by rw [← h.1]; exact hl)], d⟩
  · rw [getS_setS_ne hj] at e
    obtain ⟨z, e', d'⟩ := h.2 j w e
    exact ⟨z, by rw [List.getElem?_set_ne (Ne.symm hj)]; exact e', d'⟩
theorem RSl.wipe (h : RSl K H F τ σ) (vs : List Nat) : RSl K H F (wipeS τ vs) (L2.wipe σ vs) := by
  refine ⟨by rw [wipeS_length, L2.wipe_length]; exact h.1, fun j w e => ?_⟩
  obtain ⟨e1, hn⟩ := wipeS_some e
  obtain ⟨z, e', d'⟩ := h.2 j w e1
  refine ⟨z, ?_, d'⟩
  induction vs with
  | nil => exact e'
  | cons v vs ih =>
    show ((L2.wipe σ vs).set v none)[j]? = _
    have hv : v ≠ j := fun e => hn (e ▸ List.mem_cons_self)
    rw [List.getElem?_set_ne hv]
    exact ih (by
      have e2 : getS (setS (wipeS τ vs) v none) j = some w := e
      rwa [getS_setS_ne (Ne.symm hv)] at e2) (fun hm => hn (List.mem_cons_of_mem _ hm))
theorem RSl.none (h : RSl K H F τ σ) (i : Nat) (y : Option V) (hn : True) : RSl K H F (setS τ i Option.none) (σ.set i y) := by
  refine ⟨by rw [setS_length, List.length_set]; exact h.1, fun j w e => ?_⟩
  by_cases hj : j = i
  · subst hj
    have hl := getS_lt e
    rw [setS_length] at hl
    rw [getS_setS_same hl] at e
    cases e
  · rw [getS_setS_ne hj] at e
    obtain ⟨z, e', d'⟩ := h.2 j w e
    exact ⟨z, by rw [List.getElem?_set_ne (Ne.symm hj)]; exact e', d'⟩

/-- a new object that nothing follows -/
theorem Ext.new {p : Addr} {o : HO} (hp : H p = none) : Ext F H F (upd H p o) := by
  refine ⟨fun _ h => h, fun a u e _ => ?_⟩
  rw [upd_ne (fun z => by rw [z, hp] at e; cases e)]; exact e
theorem RS.nof (r : RS K H F st) {p : Addr} (hp : H p = none) : ¬ F p := fun f => by
  obtain ⟨ys, e⟩ := r.fz p f
  rw [hp] at e; cases e
theorem RS.no {p : Addr} (r : RS K H F st) (hp : H p = none) : st p = Option.none := by
  cases e : st p with
  | none => rfl
  | some c =>
    cases c with
    | lst xs => obtain ⟨_, ys, h, _⟩ := r.lst p xs e; rw [hp] at h; cases h
    | pool => obtain ⟨_, q, ns, x, b, c, d, h, _⟩ := r.pool p e; rw [hp] at h; cases h
theorem PoolH.ext (x : Ext F H F' H') {a : Addr} (h : PoolH H F a) (e : H' a = H a) : PoolH H' F' a := by
  obtain ⟨q, ns, y, b, c, d, h1, h2, h3, h4⟩ := h
  exact ⟨q, ns, y, b, c, d, e.trans h1, x.le _ h2, x.kp _ _ h3 (.inl h2), h4⟩
/-- the followed objects stand; what is frozen stands -/
theorem RS.keep (r : RS K H F st) (x : Ext F H F H') (hs : ∀ a, st a ≠ Option.none → H' a = H a) : RS K H' F st := by
  refine ⟨fun a xs e => ?_, fun a e => ?_, fun a f => ?_⟩
  · obtain ⟨nf, ys, h, d⟩ := r.lst a xs e
    exact ⟨nf, ys, (hs a (by rw [e]; exact fun z => nomatch z)).trans h, d.ext x⟩
  · obtain ⟨nf, h⟩ := r.pool a e
    exact ⟨nf, h.ext x (hs a (by rw [e]; exact fun z => nomatch z))⟩
  · obtain ⟨ys, h⟩ := r.fz a f
    exact ⟨ys, x.kp _ _ h (.inl f)⟩
theorem RS.there (r : RS K H F st) {a : Addr} (h : st a ≠ Option.none) : H a ≠ Option.none := fun e => h (r.no e)
theorem RS.new {p : Addr} {o : HO} (r : RS K H F st) (hp : H p = none) : RS K (upd H p o) F st :=
  r.keep (.new hp) fun a h => upd_ne (fun z => r.there h (z ▸ hp))
/-- a new list, frozen at once -/
theorem Ext.newF {p : Addr} {o : HO} (hp : H p = none) : Ext F H (fun a => F a ∨ a = p) (upd H p o) :=
  ⟨fun _ h => .inl h, (Ext.new (F := F) hp).kp⟩
theorem RS.newF {p : Addr} {ys : List V} (r : RS K H F st) (hp : H p = none) : RS K (upd H p (.lst ys)) (fun a => F a ∨ a = p) st := by
  have x : Ext F H (fun a => F a ∨ a = p) (upd H p (.lst ys)) := .newF hp
  have ne : ∀ a, st a ≠ Option.none → a ≠ p := fun a h z => r.there h (z ▸ hp)
  refine ⟨fun a xs e => ?_, fun a e => ?_, fun a f => ?_⟩
  · obtain ⟨nf, ys, h, d⟩ := r.lst a xs e
    have n := ne a (by rw [e]; exact fun z => nomatch z)
    exact ⟨fun f => f.elim nf n, ys, (upd_ne n).trans h, d.ext x⟩
  · obtain ⟨nf, h⟩ := r.pool a e
    have n := ne a (by rw [e]; exact fun z => nomatch z)
    exact ⟨fun f => f.elim nf n, h.ext x (upd_ne n)⟩
  · rcases f with f | rfl
    · obtain ⟨ys, h⟩ := r.fz a f
      exact ⟨ys, x.kp _ _ h (.inl f)⟩
    · exact ⟨_, upd_same⟩
/-- a followed list takes other items, or a new one is followed -/
theorem Ext.put {p : Addr} {ys : List V} (hF : ¬ F p) (hp : ∀ u, H p = some u → ¬ Imm u) : Ext F H F (upd H p (.lst ys)) := by
  refine ⟨fun _ h => h, fun a u e i => ?_⟩
  have n : a ≠ p := fun z => by
    subst z
    exact i.elim hF (hp u e)
  rw [upd_ne n]; exact e
theorem RS.put {p : Addr} {xs : List PV} {ys : List V} (r : RS K H F st) (hF : ¬ F p) (hp : ∀ u, H p = some u → ¬ Imm u) (d : DVs K H F xs ys) : RS K (upd H p (.lst ys)) F (up st p (some (.lst xs))) := by
  have x : Ext F H F (upd H p (.lst ys)) := .put hF hp
  refine ⟨fun a zs e => ?_, fun a e => ?_, fun a f => ?_⟩
  · by_cases n : a = p
    · subst n
      rw [up_same] at e; cases e
      exact ⟨hF, ys, upd_same, d.ext x⟩
    · rw [up_ne n] at e
      obtain ⟨nf, ys, h, d⟩ := r.lst a zs e
      exact ⟨nf, ys, (upd_ne n).trans h, d.ext x⟩
  · by_cases n : a = p
    · subst n
      rw [up_same] at e; cases e
    · rw [up_ne n] at e
      obtain ⟨nf, h⟩ := r.pool a e
      exact ⟨nf, h.ext x (upd_ne n)⟩
  · obtain ⟨ys, h⟩ := r.fz a f
    exact ⟨ys, x.kp _ _ h (.inl f)⟩
theorem RS.putNew {p : Addr} {xs : List PV} {ys : List V} (r : RS K H F st) (hp : H p = none) (d : DVs K H F xs ys) : RS K (upd H p (.lst ys)) F (up st p (some (.lst xs))) :=
  r.put (r.nof hp) (fun u e => by rw [hp] at e; cases e) d
/-- a followed list is frozen -/
theorem RS.freeze {p : Addr} {xs : List PV} (r : RS K H F st) (e : st p = some (.lst xs)) :
    Ext F H (fun a => F a ∨ a = p) H ∧ RS K H (fun a => F a ∨ a = p) (up st p Option.none) ∧ DV K H (fun a => F a ∨ a = p) (.lst xs) (.ref p) := by
  have x : Ext F H (fun a => F a ∨ a = p) H := ⟨fun _ h => .inl h, fun _ _ h _ => h⟩
  obtain ⟨nf, ys, h, d⟩ := r.lst p xs e
  refine ⟨x, ⟨fun a zs q => ?_, fun a q => ?_, fun a f => ?_⟩, .lst (.inr rfl) h (d.ext x)⟩
  · by_cases n : a = p
    · subst n; rw [up_same] at q; cases q
    · rw [up_ne n] at q
      obtain ⟨nf, ys, h, d⟩ := r.lst a zs q
      exact ⟨fun f => f.elim nf n, ys, h, d.ext x⟩
  · by_cases n : a = p
    · subst n; rw [up_same] at q; cases q
    · rw [up_ne n] at q
      obtain ⟨nf, h⟩ := r.pool a q
      exact ⟨fun f => f.elim nf n, h.ext x rfl⟩
  · rcases f with f | rfl
    · exact r.fz a f
    · exact ⟨ys, h⟩
/-- less may be followed -/
theorem RS.less {st' : Store} (r : RS K H F st) (h : ∀ a c, st' a = some c → st a = some c) : RS K H F st' :=
  ⟨fun a xs e => r.lst a xs (h a _ e), fun a e => r.pool a (h a _ e), r.fz⟩
end

/-- an exception of a class of the program -/
def ExRep (K : PySem.W.Frag) (mg : Str → Option Value) (H : Hp) (F : FS) (e : Exn) (cls : Value) (d : Option Addr) : Prop :=
  ∃ C, cls = .ref C ∧ mg e.1 = some (.ref C) ∧ ∃ (dx : Addr) (fs : List (Str × V)), d = some dx ∧ H dx = some (.xd fs) ∧ ∀ n v, e.2.lookup n = some v → ∃ x, fs.lookup n = some x ∧ DV K H F v x
end TK

set_option maxRecDepth 100000
namespace TK
open PySem PySem.Spec PyProof.Rows L2

/-! ### the small language: a def's body as a term -/
/-- a def's promise: arguments, store, the wanted end, the wanted exception -/
abbrev PSpec := List PV → Store → (PV → Store → Prop) → (Exn → Store → Prop) → Prop

mutual
inductive TG where
  | name (i : Nat)
  | tup (ts : TGs)
inductive TGs where
  | nil
  | cons (t : TG) (ts : TGs)
end
mutual
def TG.slots : TG → List Nat
  | .name i => [i]
  | .tup ts => ts.slots
def TGs.slots : TGs → List Nat
  | .nil => []
  | .cons t ts => t.slots ++ ts.slots
end
mutual
def TG.asg : TG → PV → Sl → Option Sl
  | .name i, v, τ => some (setS τ i (some v))
  | .tup ts, v, τ => match v with
    | .tup xs => ts.asg xs τ
    | _ => none
def TGs.asg : TGs → List PV → Sl → Option Sl
  | .nil, xs, τ => match xs with
    | [] => some τ
    | _ :: _ => none
  | .cons t ts, xs, τ => match xs with
    | [] => none
    | x :: r => (t.asg x τ).bind (ts.asg r)
end

/-- built-in functions -/
inductive BF where
  | len | int | abs | tuple | list | all | any | sum | min2 | max2 | min | max | repr | str
/-- forms of one part: t[::-1] of a tuple; max(.., default=0) -/
inductive UF where
  | revT | maxD
def maxD0 : List Int → Int
  | [] => 0
  | x :: r => r.foldl max x
/-- methods -/
inductive MF where
  | append | extend | pop | index

mutual
inductive E where
  | var (i : Nat)
  | fvar (i : Nat)
  | int (n : Int)
  | bl (b : Bool)
  | non
  | str (x : Str)
  | glob (x : Str) (v : PV)
  | bin (o : Operator) (m : Bool) (a b : E)
  | neg (a : E)
  | not (a : E)
  | un (f : UF) (a : E)
  | cmp (o : CmpOp) (a b : E)
  | chain (o o' : CmpOp) (a b c : E)
  | bools (o : BoolOp) (es : Es)
  | ite (t : T) (a b : E)
  | tup (es : Es)
  | lst (m : Bool) (es : Es)
  | idx (a i : E)
  | slice (m : Bool) (a : E) (lo hi : OE)
  | call (f : Str) (sp : PSpec) (es : Es)
  | callK (f ks : Str) (sp : PSpec) (es : Es) (ek : E)
  | blt (f : BF) (m : Bool) (es : Es)
  | isi (e : E) (ty : Str)
  | meth (f : MF) (o : E) (es : Es)
  | comp (m : Bool) (vs : List Nat) (tg : TG) (it : I) (ts : Ts) (elt : E)
inductive Es where
  | nil
  | cons (e : E) (es : Es)
inductive OE where
  | no
  | yes (e : E)
inductive T where
  | val (e : E)
  | cmp (o : CmpOp) (a b : E)
  | chain (o o' : CmpOp) (a b c : E)
  | not (t : T)
  | bools (o : BoolOp) (ts : Ts)
  | ite (t a b : T)
inductive Ts where
  | nil
  | cons (t : T) (ts : Ts)
inductive I where
  | val (e : E)
  | range1 (a : E)
  | range2 (a b : E)
  | enum (e : E)
  | zip (a b : E)
end

def Es.len : Es → Nat
  | .nil => 0
  | .cons _ es => es.len + 1
/-! ### what operations do -/
abbrev PQ := PV → Store → Prop
abbrev EQ := Exn → Store → Prop
def oP {α : Type} (o : Option α) (k : α → Prop) : Prop :=
  match o with
  | some a => k a
  | none => False
def onBl (v : PV) (k : Bool → Prop) : Prop :=
  match v with
  | .bl b => k b
  | _ => False
def onInt (v : PV) (k : Int → Prop) : Prop :=
  match v with
  | .int b => k b
  | _ => False
def seqOf (st : Store) : PV → Option (List PV)
  | .tup xs => some xs
  | .lst xs => some xs
  | .ref a => match st a with
    | some (.lst xs) => some xs
    | _ => none
  | _ => none
/-- a list's items; the script's too -/
def lstOf (st : Store) : PV → Option (List PV)
  | .lst xs => some xs
  | .ref a => match st a with
    | some (.lst xs) => some xs
    | _ => none
  | _ => none
/-- what a list may be extended by: a list, a tuple -/
def extOf (st : Store) : PV → Option (List PV)
  | .tup xs => some xs
  | v => lstOf st v
/-- a text some times over; one text within another; a text's signs -/
def repS (n : Nat) (x : Str) : Str := ⟨(List.replicate n x.cps).foldl (· ++ ·) #[]⟩
def strIn (x y : Str) : Bool := !(Builtin.Str.occurrences y x 0 y.length 1).isEmpty
def chrs (z : Str) : List PV := z.cps.toList.map fun c => .str ⟨#[c]⟩
def onStr (v : PV) (k : Str → Prop) : Prop :=
  match v with
  | .str b => k b
  | _ => False
def newList (m : Bool) (xs : List PV) (st : Store) (Q : PQ) : Prop :=
  match m with
  | true => ∀ p, st p = none → Q (.ref p) (up st p (some (.lst xs)))
  | false => Q (.lst xs) st
def DivOk (j : Int) : Prop := j ≠ 0 ∧ j.natAbs.log2 < 9000
def binV (o : Operator) (m : Bool) (v w : PV) (st : Store) (Q : PQ) : Prop :=
  match o, v, w with
  | .Add, .int i, .int j => Q (.int (i + j)) st
  | .Add, .str x, .str y => x.length + y.length ≤ sizeLine ∧ Q (.str (x ++ y)) st
  | .Add, .tup xs, .tup ys => xs.length + ys.length ≤ sizeLine ∧ Q (.tup (xs ++ ys)) st
  | .Add, .lst xs, .lst ys => xs.length + ys.length ≤ sizeLine ∧ newList m (xs ++ ys) st Q
  | .Add, .ref a, .lst ys => ∃ xs, st a = some (.lst xs) ∧ xs.length + ys.length ≤ sizeLine ∧ newList m (xs ++ ys) st Q
  | .Add, .lst xs, .ref b => ∃ ys, st b = some (.lst ys) ∧ xs.length + ys.length ≤ sizeLine ∧ newList m (xs ++ ys) st Q
  | .Add, .ref a, .ref b => ∃ xs ys, st a = some (.lst xs) ∧ st b = some (.lst ys) ∧ xs.length + ys.length ≤ sizeLine ∧ newList m (xs ++ ys) st Q
  | .Sub, .int i, .int j => Q (.int (i - j)) st
  | .Mult, .int i, .int j => IntMulOk i j ∧ Q (.int (i * j)) st
  | .Mult, .lst xs, .int k => -(2 ^ 63) ≤ k ∧ k < 2 ^ 63 ∧ xs.length * k.toNat ≤ sizeLine ∧ newList m (List.replicate k.toNat xs).flatten st Q
  | .Mult, .tup xs, .int k => (xs ≠ [] ∧ 2 ≤ k ∧ k ≤ 1000 ∧ xs.length ≤ 1000) ∧ Q (.tup (List.replicate k.toNat xs).flatten) st
  | .Mult, .str x, .int k => (0 < x.length ∧ x.length ≤ 1000 ∧ 2 ≤ k ∧ k ≤ 1000) ∧ Q (.str (repS k.toNat x)) st
  | .FloorDiv, .int i, .int j => DivOk j ∧ Q (.int (i.fdiv j)) st
  | .Mod, .int i, .int j => j ≠ 0 ∧ Q (.int (i.fmod j)) st
  | .Pow, .int i, .int j => CPow i j ∧ Q (.int (i ^ j.toNat)) st
  | .BitAnd, .int i, .int j => Q (.int (Builtin.bitAnd i j)) st
  | .BitOr, .int i, .int j => Q (.int (Builtin.bitOr i j)) st
  | _, _, _ => False
def negV (v : PV) (st : Store) (Q : PQ) : Prop :=
  match v with
  | .int i => Q (.int (-i)) st
  | _ => False

/-- data as Python compares and prints it -/
def res (st : Store) : PV → PV
  | .ref a => match st a with
    | some (.lst xs) => .lst xs
    | _ => .ref a
  | v => v
mutual
def toD : PV → PyData
  | .non => .none
  | .bl b => .bool b
  | .int i => .int i
  | .str x => .str x
  | .tup xs => .tuple (toDs xs)
  | .lst xs => .list (toDs xs)
  | .ref _ => .none
  | .scr _ => .none
def toDs : List PV → List PyData
  | [] => []
  | x :: r => toD x :: toDs r
end
mutual
/-- no address within, n levels at most -/
def flat : Nat → PV → Bool
  | n, .tup xs => n != 0 && flats (n - 1) xs
  | n, .lst xs => n != 0 && flats (n - 1) xs
  | _, .ref _ => false
  | _, .scr _ => false
  | _, .str x => PyData.strOk x
  | _, .non => true
  | _, .bl _ => true
  | _, .int _ => true
def flats : Nat → List PV → Bool
  | _, [] => true
  | n, x :: r => flat n x && flats n r
end
mutual
def eqv : PV → PV → Bool
  | .non, w => match w with
    | .non => true
    | _ => false
  | .bl a, w => match w with
    | .bl b => a == b
    | .int j => (if a then 1 else 0) == j
    | _ => false
  | .int i, w => match w with
    | .int j => decide (i = j)
    | .bl b => i == (if b then 1 else 0)
    | _ => false
  | .str x, w => match w with
    | .str y => decide (x = y)
    | _ => false
  | .tup xs, w => match w with
    | .tup ys => eqvs xs ys
    | _ => false
  | .lst xs, w => match w with
    | .lst ys => eqvs xs ys
    | _ => false
  | .ref _, _ => false
  | .scr _, _ => false
def eqvs : List PV → List PV → Bool
  | [], ys => match ys with
    | [] => true
    | _ => false
  | x :: xs, ys => match ys with
    | [] => false
    | y :: ys => eqv x y && eqvs xs ys
end
def isNon : PV → Bool
  | .non => true
  | _ => false
def isSc : PV → Bool
  | .non => true
  | .bl _ => true
  | .int _ => true
  | .str _ => true
  | _ => false
def scP : PV → PV → Bool
  | .non, .non => true | .non, .int _ => true | .int _, .non => true | .non, .bl _ => true | .bl _, .non => true | .non, .str _ => true | .str _, .non => true
  | .int _, .int _ => true | .bl _, .bl _ => true | .str _, .str _ => true
  | .int _, .str _ => true | .str _, .int _ => true | .bl _, .str _ => true | .str _, .bl _ => true
  | _, _ => false
def eqOk (st : Store) (v w : PV) : Prop := scP v w = true ∨ (flat 60 (res st v) = true ∧ flat 60 (res st w) = true)
def inOk (st : Store) (v w : PV) (xs : List PV) : Prop := (isSc v = true ∧ xs.all isSc = true) ∨ (flat 30 v = true ∧ flat 60 (res st w) = true)
def cmpV (o : CmpOp) (v w : PV) (st : Store) (Q : PQ) : Prop :=
  match o with
  | .Eq => eqOk st v w ∧ Q (.bl (eqv (res st v) (res st w))) st
  | .NotEq => eqOk st v w ∧ Q (.bl (!eqv (res st v) (res st w))) st
  | .Lt => match v, w with
    | .int i, .int j => Q (.bl (decide (i < j))) st
    | _, _ => False
  | .LtE => match v, w with
    | .int i, .int j => Q (.bl (decide (i ≤ j))) st
    | _, _ => False
  | .Gt => match v, w with
    | .int i, .int j => Q (.bl (decide (j < i))) st
    | _, _ => False
  | .GtE => match v, w with
    | .int i, .int j => Q (.bl (decide (j ≤ i))) st
    | _, _ => False
  | .Is => match w with
    | .non => Q (.bl (isNon v)) st
    | .bl b => onBl v fun a => Q (.bl (decide (a = b))) st
    | _ => False
  | .IsNot => match w with
    | .non => Q (.bl (!isNon v)) st
    | .bl b => onBl v fun a => Q (.bl (!decide (a = b))) st
    | _ => False
  | .In => match w with
    | .str y => onStr v fun x => Q (.bl (strIn x y)) st
    | w => oP (seqOf st w) fun xs => inOk st v w xs ∧ Q (.bl (xs.any fun y => eqv y v)) st
  | .NotIn => match w with
    | .str y => onStr v fun x => Q (.bl (!strIn x y)) st
    | w => oP (seqOf st w) fun xs => inOk st v w xs ∧ Q (.bl (!xs.any fun y => eqv y v)) st
def itemV (i : Int) (v : PV) (st : Store) (Q : PQ) : Prop :=
  match v with
  | .str z => z.length ≤ sizeLine ∧ oP (atI z.cps.toList i) fun c => Q (.str ⟨#[c]⟩) st
  | .tup xs => oP (atI xs i) fun y => Q y st
  | .lst xs => oP (atI xs i) fun y => Q y st
  | .ref a => oP (lstOf st (.ref a)) fun xs => oP (atI xs i) fun y => Q y st
  | _ => False
def idxV (v w : PV) (st : Store) (Q : PQ) : Prop := onInt w fun i => itemV i v st Q
def cutP {α : Type} (xs : List α) (lo hi : Option Int) : List α := (xs.drop (HT.sIx xs.length 0 lo)).take (HT.sIx xs.length xs.length hi - HT.sIx xs.length 0 lo)
def sliceV (m : Bool) (v : PV) (lo hi : Option Int) (st : Store) (Q : PQ) : Prop :=
  match v with
  | .tup xs => Q (.tup (cutP xs lo hi)) st
  | .lst xs => newList m (cutP xs lo hi) st Q
  | .ref a => ∃ xs, st a = some (.lst xs) ∧ newList m (cutP xs lo hi) st Q
  | _ => False
def blsOf : List PV → Option (List Bool)
  | [] => some []
  | .bl b :: r => (blsOf r).map (b :: ·)
  | _ => none
def intsOf : List PV → Option (List Int)
  | [] => some []
  | .int b :: r => (intsOf r).map (b :: ·)
  | _ => none
def maxL : List Int → Int
  | [] => 0
  | x :: r => r.foldl (fun m y => if y > m then y else m) x
def minL : List Int → Int
  | [] => 0
  | x :: r => r.foldl (fun m y => if y < m then y else m) x
def unV (f : UF) (v : PV) (st : Store) (Q : PQ) : Prop :=
  match f, v with
  | .revT, .tup xs => Q (.tup xs.reverse) st
  | .maxD, v => oP (lstOf st v) fun xs => oP (intsOf xs) fun ns => Q (.int (maxD0 ns)) st
  | _, _ => False
/-- what may be printed: numbers below 2 ^ 1900, not too much of it -/
def ShowOk (v : PV) : Prop := (toD v).showable = true ∧ (toD v).shown.length ≤ sizeLine ∧ flat 60 v = true
def bltV (f : BF) (m : Bool) (vs : List PV) (st : Store) (Q : PQ) : Prop :=
  match f, vs with
  | .len, [.str z] => z.length ≤ sizeLine ∧ Q (.int z.length) st
  | .len, [.tup xs] => Q (.int xs.length) st
  | .len, [.lst xs] => Q (.int xs.length) st
  | .len, [.ref a] => oP (lstOf st (.ref a)) fun xs => Q (.int xs.length) st
  | .int, [.int i] => Q (.int i) st
  | .int, [.bl b] => Q (.int (if b then 1 else 0)) st
  | .abs, [.int i] => Q (.int (if i < 0 then -i else i)) st
  | .tuple, [v] => oP (seqOf st v) fun xs => Q (.tup xs) st
  | .list, [.scr ns] => newList m (ns.map PV.int) st Q
  | .list, [.tup xs] => newList m xs st Q
  | .list, [.lst xs] => newList m xs st Q
  | .list, [.ref a] => oP (lstOf st (.ref a)) fun xs => newList m xs st Q
  | .all, [v] => oP (lstOf st v) fun xs => oP (blsOf xs) fun bs => Q (.bl (bs.all id)) st
  | .any, [v] => oP (lstOf st v) fun xs => oP (blsOf xs) fun bs => Q (.bl (bs.any id)) st
  | .sum, [v] => oP (lstOf st v) fun xs => oP (intsOf xs) fun ns => Q (.int ns.sum) st
  | .max, [v] => oP (extOf st v) fun xs => oP (intsOf xs) fun ns => ns ≠ [] ∧ Q (.int (maxL ns)) st
  | .min, [v] => oP (lstOf st v) fun xs => oP (intsOf xs) fun ns => ns ≠ [] ∧ Q (.int (minL ns)) st
  | .max2, [.int i, .int j] => Q (.int (if j > i then j else i)) st
  | .min2, [.int i, .int j] => Q (.int (if j < i then j else i)) st
  | .str, [.int i] => i.natAbs.log2 < 1920 ∧ Q (.str (toString i)) st
  | .repr, [v] => ShowOk (res st v) ∧ Q (.str (toD (res st v)).shown) st
  | _, _ => False
def isiV (ty : Str) : PV → Option Bool
  | .non => some false
  | .bl _ => some (ty == ("int" : Str) || ty == ("bool" : Str))
  | .int _ => some (ty == ("int" : Str))
  | .str _ => some (ty == ("str" : Str))
  | .tup _ => some (ty == ("tuple" : Str))
  | .lst _ => some (ty == ("list" : Str))
  | _ => none
def tyOk (ty : Str) : Bool := ty == ("int" : Str) || ty == ("bool" : Str) || ty == ("str" : Str) || ty == ("tuple" : Str) || ty == ("list" : Str)
def methV (f : MF) (o : PV) (vs : List PV) (st : Store) (Q : PQ) : Prop :=
  match f, o, vs with
  | .append, .ref a, [v] => ∃ xs, st a = some (.lst xs) ∧ xs.length < sizeLine ∧ Q .non (up st a (some (.lst (xs ++ [v]))))
  | .extend, .ref a, [v] => ∃ xs ys, st a = some (.lst xs) ∧ extOf st v = some ys ∧ xs.length + ys.length ≤ sizeLine ∧ Q .non (up st a (some (.lst (xs ++ ys))))
  | .pop, .ref a, [] => ∃ xs y, st a = some (.lst xs) ∧ xs[xs.length - 1]? = some y ∧ Q y (up st a (some (.lst xs.dropLast)))
  | .index, v, [w] => ∃ xs j z, lstOf st v = some xs ∧ isSc w = true ∧ xs.all isSc = true ∧ xs[j]? = some z ∧ eqv z w = true ∧ (∀ (k : Nat) z', k < j → xs[k]? = some z' → eqv z' w = false) ∧ Q (.int j) st
  | _, _, _ => False
/-- a def's call; the wish may be stronger than needed -/
def callS (sp : PSpec) (vs : List PV) (st : Store) (X : EQ) (Q : PQ) : Prop :=
  ∃ (Q0 : PQ) (X0 : EQ), sp vs st Q0 X0 ∧ (∀ v s, Q0 v s → Q v s) ∧ ∀ e s, X0 e s → X e s
def truV (v : PV) (st : Store) (Q : Bool → Store → Prop) : Prop :=
  match v with
  | .bl b => Q b st
  | .non => Q false st
  | .int i => Q (i != 0) st
  | .tup xs => Q (!xs.isEmpty) st
  | .lst xs => Q (!xs.isEmpty) st
  | .ref a => ∃ xs, st a = some (.lst xs) ∧ Q (!xs.isEmpty) st
  | _ => False
def rngL (lo : Int) (n : Nat) : List PV := (List.range n).map fun (k : Nat) => .int (lo + (k : Int))
def enumL : Nat → List PV → List PV
  | _, [] => []
  | k, x :: r => .tup [.int (k : Int), x] :: enumL (k + 1) r
def zipL : List PV → List PV → List PV
  | x :: r, y :: s => .tup [x, y] :: zipL r s
  | _, _ => []
def R62 (j : Int) : Prop := -(2 ^ 62) ≤ j ∧ j < 2 ^ 62
def itV (f : List PV → List PV) (v : PV) (st : Store) (K : List PV → (Store → Prop) → Store → Prop) : Prop :=
  match v with
  | .tup xs => K (f xs) (fun _ => True) st
  | .lst xs => K (f xs) (fun _ => True) st
  | .ref a => oP (lstOf st (.ref a)) fun xs => K (f xs) (fun s => s a = some (.lst xs)) st
  | _ => False
/-- .. a text too -/
def itV0 (v : PV) (st : Store) (K : List PV → (Store → Prop) → Store → Prop) : Prop :=
  match v with
  | .str z => z.length ≤ sizeLine ∧ K (chrs z) (fun _ => True) st
  | v => itV id v st K
def itVL (f : List PV → List PV) (v : PV) (st : Store) (K : List PV → (Store → Prop) → Store → Prop) : Prop :=
  match v with
  | .lst xs => K (f xs) (fun _ => True) st
  | .ref a => oP (lstOf st (.ref a)) fun xs => K (f xs) (fun s => s a = some (.lst xs)) st
  | _ => False
def zipV (v w : PV) (st : Store) (K : List PV → (Store → Prop) → Store → Prop) : Prop :=
  match v, w with
  | .tup xs, .tup ys => K (zipL xs ys) (fun _ => True) st
  | .lst xs, .lst ys => K (zipL xs ys) (fun _ => True) st
  | _, _ => False
def frzV (v : PV) (st : Store) (Q : PQ) : Prop :=
  match v with
  | .ref a => oP (lstOf st (.ref a)) fun xs => Q (.lst xs) (up st a none)
  | v => Q v st
/-- more is followed -/
def Sub (s t : Store) : Prop := ∀ a c, s a = some c → t a = some c
/-- an element of a comprehension: the store stands, or the element is a new list -/
def lcS (st st' : Store) (y : PV) (st2 : Store) (C : Store → Prop) : Prop :=
  (st2 = st' ∧ C st) ∨ ∃ p xs, st' p = none ∧ y = .ref p ∧ st2 = up st' p (some (.lst xs)) ∧ C (up st p (some (.lst xs)))
/-- a comprehension over items: its tests leave the store as it is, whatever else is followed -/
def lcL (tg : TG) (t : Sl → Store → (Bool → Store → Prop) → Prop) (e : Sl → Store → PQ → Prop) (τ : Sl) (K : List PV → Store → Prop) : List PV → Store → List PV → Prop
  | [], st, acc => K acc st
  | x :: r, st, acc => oP (tg.asg x τ) fun τ1 => ∀ st', Sub st st' → t τ1 st' fun b st1 => st1 = st' ∧ if b = true then e τ1 st' fun y st2 => lcS st st' y st2 fun stn => lcL tg t e τ K r stn (acc ++ [y]) else lcL tg t e τ K r st acc
def I.isR : I → Bool
  | .val _ => false
  | _ => true
def isLst (st : Store) (v : PV) : Prop := oP (lstOf st v) fun _ => True

mutual
def wpE : E → EQ → Sl → Store → PQ → Prop
  | .var i, _, τ, st, Q => oP (getS τ i) fun v => Q v st
  | .fvar i, _, τ, st, Q => oP (getS τ i) fun v => frzV v st Q
  | .int n, _, _, st, Q => Q (.int n) st
  | .bl b, _, _, st, Q => Q (.bl b) st
  | .non, _, _, st, Q => Q .non st
  | .str x, _, _, st, Q => Q (.str x) st
  | .glob _ v, _, _, st, Q => Q v st
  | .bin o m a b, X, τ, st, Q => wpE a X τ st fun v st1 => wpE b X τ st1 fun w st2 => binV o m v w st2 Q
  | .neg a, X, τ, st, Q => wpE a X τ st fun v st1 => negV v st1 Q
  | .not a, X, τ, st, Q => wpE a X τ st fun v st1 => onBl v fun b => Q (.bl (!b)) st1
  | .un f a, X, τ, st, Q => wpE a X τ st fun v st1 => unV f v st1 Q
  | .cmp o a b, X, τ, st, Q => wpE a X τ st fun v st1 => wpE b X τ st1 fun w st2 => cmpV o v w st2 Q
  | .chain o o' a b c, X, τ, st, Q => wpE a X τ st fun v st1 => wpE b X τ st1 fun w st2 => cmpV o v w st2 fun z st3 => onBl z fun k =>
      if k = true then wpE c X τ st3 fun u st4 => cmpV o' w u st4 Q else Q (.bl false) st3
  | .bools o es, X, τ, st, Q => wpBs o es X τ st Q
  | .ite t a b, X, τ, st, Q => wpT t X τ st fun k st1 => if k = true then wpE a X τ st1 Q else wpE b X τ st1 Q
  | .tup es, X, τ, st, Q => wpEs es X τ st fun vs st1 => vs.length ≤ sizeLine ∧ Q (.tup vs) st1
  | .lst m es, X, τ, st, Q => wpEs es X τ st fun vs st1 => vs.length ≤ sizeLine ∧ newList m vs st1 Q
  | .idx a i, X, τ, st, Q => wpE a X τ st fun v st1 => wpE i X τ st1 fun w st2 => idxV v w st2 Q
  | .slice m a lo hi, X, τ, st, Q => wpE a X τ st fun v st1 => wpO lo X τ st1 fun l st2 => wpO hi X τ st2 fun u st3 => sliceV m v l u st3 Q
  | .call _ sp es, X, τ, st, Q => wpEs es X τ st fun vs st1 => callS sp vs st1 X Q
  | .callK _ _ sp es ek, X, τ, st, Q => wpEs es X τ st fun vs st1 => wpE ek X τ st1 fun v st2 => callS sp (vs ++ [v]) st2 X Q
  | .blt f m es, X, τ, st, Q => wpEs es X τ st fun vs st1 => bltV f m vs st1 Q
  | .isi e ty, X, τ, st, Q => wpE e X τ st fun v st1 => oP (isiV ty v) fun b => Q (.bl b) st1
  | .meth f o es, X, τ, st, Q => wpE o X τ st fun v st1 => isLst st1 v ∧ wpEs es X τ st1 fun vs st2 => methV f v vs st2 Q
  | .comp m vs tg it ts elt, X, τ, st, Q => wpI it X τ st fun xs ok st1 => (it.isR = true → xs.length ≤ sizeLine) ∧ ok st1 ∧
      lcL tg (wpTs .And ts fun _ _ => False) (wpE elt fun _ _ => False) (wipeS τ vs) (fun acc st2 => newList m acc st2 Q) xs st1 []
def wpEs : Es → EQ → Sl → Store → (List PV → Store → Prop) → Prop
  | .nil, _, _, st, Q => Q [] st
  | .cons e es, X, τ, st, Q => wpE e X τ st fun v st1 => wpEs es X τ st1 fun vs st2 => Q (v :: vs) st2
def wpBs : BoolOp → Es → EQ → Sl → Store → PQ → Prop
  | _, .nil, _, _, _, _ => False
  | o, .cons e es, X, τ, st, Q => match es with
    | .nil => wpE e X τ st Q
    | .cons _ _ => wpE e X τ st fun v st1 => onBl v fun b => match o with
      | .And => if b = true then wpBs o es X τ st1 Q else Q (.bl false) st1
      | .Or => if b = true then Q (.bl true) st1 else wpBs o es X τ st1 Q
def wpO : OE → EQ → Sl → Store → (Option Int → Store → Prop) → Prop
  | .no, _, _, st, Q => Q none st
  | .yes e, X, τ, st, Q => wpE e X τ st fun v st1 => onInt v fun i => Q (some i) st1
def wpT : T → EQ → Sl → Store → (Bool → Store → Prop) → Prop
  | .val e, X, τ, st, Q => wpE e X τ st fun v st1 => truV v st1 Q
  | .cmp o a b, X, τ, st, Q => wpE a X τ st fun v st1 => wpE b X τ st1 fun w st2 => cmpV o v w st2 fun z st3 => onBl z fun k => Q k st3
  | .chain o o' a b c, X, τ, st, Q => wpE a X τ st fun v st1 => wpE b X τ st1 fun w st2 => cmpV o v w st2 fun z st3 => onBl z fun k =>
      if k = true then wpE c X τ st3 fun u st4 => cmpV o' w u st4 fun y st5 => onBl y fun k' => Q k' st5 else Q false st3
  | .not t, X, τ, st, Q => wpT t X τ st fun k st1 => Q (!k) st1
  | .bools o ts, X, τ, st, Q => wpTs o ts X τ st Q
  | .ite t a b, X, τ, st, Q => wpT t X τ st fun k st1 => if k = true then wpT a X τ st1 Q else wpT b X τ st1 Q
def wpTs : BoolOp → Ts → EQ → Sl → Store → (Bool → Store → Prop) → Prop
  | o, .nil, _, _, st, Q => match o with
    | .And => Q true st
    | .Or => Q false st
  | o, .cons t ts, X, τ, st, Q => wpT t X τ st fun k st1 => match o with
    | .And => if k = true then wpTs o ts X τ st1 Q else Q false st1
    | .Or => if k = true then Q true st1 else wpTs o ts X τ st1 Q
def wpI : I → EQ → Sl → Store → (List PV → (Store → Prop) → Store → Prop) → Prop
  | .val e, X, τ, st, K => wpE e X τ st fun v st1 => itV0 v st1 K
  | .range1 a, X, τ, st, K => wpE a X τ st fun v st1 => onInt v fun j => R62 j ∧ K (rngL 0 j.toNat) (fun _ => True) st1
  | .range2 a b, X, τ, st, K => wpE a X τ st fun v st1 => wpE b X τ st1 fun w st2 => onInt v fun i => onInt w fun j => R62 i ∧ R62 j ∧ K (rngL i (j - i).toNat) (fun _ => True) st2
  | .enum e, X, τ, st, K => wpE e X τ st fun v st1 => itV (enumL 0) v st1 K
  | .zip a b, X, τ, st, K => wpE a X τ st fun v st1 => wpE b X τ st1 fun w st2 => zipV v w st2 K
end

/-! ### exceptions -/
def excNames : List Str := ["BadText", "BadMachine", "BadValue", "TooMany", "OpenEnd", "NotClear", "NothingToUndo"]
/-- whether an error of the class c is one of the class d -/
def subC (c d : Str) : Bool := decide (c = d) || decide (d = ("TicklessError" : Str)) || decide (d = ("ValueError" : Str))
/-- an error's one attribute, and what it may be -/
def fldOf (c : Str) : Str := if c = ("BadValue" : Str) then "what" else if c = ("TooMany" : Str) then "limit" else "line"
def fldNames : List Str := ["what", "limit", "line", "reason", "at", "kind", "first", "second"]
def raiseOk (c : Str) (v : PV) : Prop := match v with
  | .str x => c = ("BadValue" : Str) ∧ x.length ≤ 1000
  | _ => False
mutual
inductive XE where
  | fld (f : Str) | is (d : Str) | str (x : Str) | int (n : Int) | bl (b : Bool) | non | var (i : Nat) | neg (a : XE) | not (a : XE) | ands (xs : XEs) | ite (ts : XEs) (a b : XE) | tup (xs : XEs) | same (g : Str) (a b : XE)
inductive XEs where
  | nil | cons (x : XE) (xs : XEs)
end
def sameOk (v w : PV) : Prop := match v, w with
  | .str x, .str y => x = y ∧ (reprText x).length ≤ sizeLine
  | .int i, .int j => i = j ∧ i.natAbs.log2 < 1920
  | _, _ => False
def onNeg (v : PV) (Q : PV → Prop) : Prop := match v with
  | .int i => Q (.int (-i))
  | _ => False
mutual
def wpX : XE → Exn → Sl → (PV → Prop) → Prop
  | .fld f, e, _, Q => oP (e.2.lookup f) Q
  | .is d, e, _, Q => Q (.bl (subC e.1 d))
  | .str x, _, _, Q => Q (.str x)
  | .int n, _, _, Q => Q (.int n)
  | .bl b, _, _, Q => Q (.bl b)
  | .non, _, _, Q => Q .non
  | .var i, _, τ, Q => oP (getS τ i) Q
  | .neg a, e, τ, Q => wpX a e τ fun v => onNeg v Q
  | .not a, e, τ, Q => wpX a e τ fun v => onBl v fun b => Q (.bl (!b))
  | .ands xs, e, τ, Q => wpXa xs e τ Q
  | .ite ts a b, e, τ, Q => wpXt ts e τ fun k => if k = true then wpX a e τ Q else wpX b e τ Q
  | .tup xs, e, τ, Q => wpXs xs e τ fun vs => vs.length ≤ sizeLine ∧ Q (.tup vs)
  | .same _ a b, e, τ, Q => wpX a e τ fun v => wpX b e τ fun w => sameOk v w ∧ Q (.bl true)
def wpXs : XEs → Exn → Sl → (List PV → Prop) → Prop
  | .nil, _, _, Q => Q []
  | .cons x xs, e, τ, Q => wpX x e τ fun v => wpXs xs e τ fun vs => Q (v :: vs)
def wpXt : XEs → Exn → Sl → (Bool → Prop) → Prop
  | .nil, _, _, Q => Q true
  | .cons x xs, e, τ, Q => wpX x e τ fun v => onBl v fun b => if b = true then wpXt xs e τ Q else Q false
def wpXa : XEs → Exn → Sl → (PV → Prop) → Prop
  | .nil, _, _, _ => False
  | .cons x xs, e, τ, Q => match xs with
    | .nil => wpX x e τ Q
    | .cons _ _ => wpX x e τ fun v => onBl v fun b => if b = true then wpXa xs e τ Q else Q (.bl false)
end
/-! ### statements -/
structure PEnds where
  nx : Sl → Store → Prop
  rt : PQ
  bk : Sl → Store → Prop
  ct : Sl → Store → Prop
  ex : Exn → Sl → Store → Prop
mutual
inductive S where
  | asg (tg : TG) (e : E)
  | asgLc (i : Nat) (e : E)
  | setIx (o i e : E)
  | aug (i : Nat) (o : Operator) (e : E)
  | expr (e : E)
  | ret (e : E)
  | retN
  | ite (t : T) (a b : Ss)
  | loop (tg : TG) (it : I) (b : Ss)
  | while (t : T) (b : Ss)
  | pass
  | brk
  | cont
  | never
  | raise (c : Str) (es : Es)
  | tryX (b : Ss) (c : Str) (i : Nat) (h : XE)
inductive Ss where
  | nil
  | cons (s : S) (ss : Ss)
end
def setIxV (o i v : PV) (st : Store) (Q : Store → Prop) : Prop :=
  match o, i with
  | .ref a, .int k => ∃ xs j, st a = some (.lst xs) ∧ ixN xs.length k = some j ∧ Q (up st a (some (.lst (xs.set j v))))
  | _, _ => False
def augV (o : Operator) (v w : PV) (st : Store) (Q : PQ) : Prop :=
  match o, v, w with
  | .Add, .int i, .int j => Q (.int (i + j)) st
  | .Sub, .int i, .int j => Q (.int (i - j)) st
  | _, _, _ => False
def forL (tg : TG) (b : PEnds → Sl → Store → Prop) (ok : Store → Prop) : List PV → PEnds → Sl → Store → Prop
  | [], D, τ, st => ok st ∧ D.nx τ st
  | x :: r, D, τ, st => ok st ∧ oP (tg.asg x τ) fun τ1 => b { D with nx := forL tg b ok r D, ct := forL tg b ok r D, bk := D.nx } τ1 st
def whileL (t : Sl → Store → (Bool → Store → Prop) → Prop) (b : PEnds → Sl → Store → Prop) (D : PEnds) (τ : Sl) (st : Store) : Prop :=
  ∃ W : Nat → Sl → Store → Prop, (∃ n, W n τ st) ∧ ∀ n τ st, W n τ st → t τ st fun k st1 => if k = true then
    b { D with nx := fun τ' st' => ∃ m, m < n ∧ W m τ' st', ct := fun τ' st' => ∃ m, m < n ∧ W m τ' st', bk := D.nx } τ st1 else D.nx τ st1
mutual
def wpS : S → PEnds → Sl → Store → Prop
  | .asg tg e, D, τ, st => wpE e (fun x s => D.ex x τ s) τ st fun v st1 => oP (tg.asg v τ) fun τ' => D.nx τ' st1
  | .asgLc i e, D, τ, st => wpE e (fun x s => D.ex x τ s) τ st fun v st1 => D.nx (setS τ i (some v)) st1
  | .setIx o i e, D, τ, st => wpE e (fun x s => D.ex x τ s) τ st fun v st1 => wpE o (fun x s => D.ex x τ s) τ st1 fun ov st2 => wpE i (fun x s => D.ex x τ s) τ st2 fun iv st3 => setIxV ov iv v st3 fun st4 => D.nx τ st4
  | .aug i o e, D, τ, st => oP (getS τ i) fun v => wpE e (fun x s => D.ex x τ s) τ st fun w st1 => augV o v w st1 fun z st2 => D.nx (setS τ i (some z)) st2
  | .expr e, D, τ, st => wpE e (fun x s => D.ex x τ s) τ st fun _ st1 => D.nx τ st1
  | .ret e, D, τ, st => wpE e (fun x s => D.ex x τ s) τ st D.rt
  | .retN, D, _, st => D.rt .non st
  | .ite t a b, D, τ, st => wpT t (fun x s => D.ex x τ s) τ st fun k st1 => if k = true then wpSs a D τ st1 else wpSs b D τ st1
  | .loop tg it b, D, τ, st => wpI it (fun x s => D.ex x τ s) τ st fun xs ok st1 => forL tg (wpSs b) ok xs D τ st1
  | .while t b, D, τ, st => whileL (fun τ st Q => wpT t (fun x s => D.ex x τ s) τ st Q) (wpSs b) D τ st
  | .pass, D, τ, st => D.nx τ st
  | .brk, D, τ, st => D.bk τ st
  | .cont, D, τ, st => D.ct τ st
  | .never, _, _, _ => False
  | .raise c es, D, τ, st => wpEs es (fun x s => D.ex x τ s) τ st fun vs st1 => ∃ v, vs = [v] ∧ raiseOk c v ∧ D.ex (c, [(fldOf c, v)]) τ st1
  | .tryX b c i h, D, τ, st => wpSs b { D with ex := fun e τ' st' => e.1 ∈ excNames ∧ if subC e.1 c = true then getS τ' i = none ∧ i < τ'.length ∧ wpX h e τ' (fun v => D.rt v st') else D.ex e τ' st' } τ st
def wpSs : Ss → PEnds → Sl → Store → Prop
  | .nil, D, τ, st => D.nx τ st
  | .cons s ss, D, τ, st => wpS s { D with nx := wpSs ss D } τ st
end
def initS (n : Nat) (vs : List PV) : Sl := vs.map some ++ List.replicate (n - vs.length) none
/-- a def's body: what it leaves behind may be forgotten -/
def wpFn (n : Nat) (b : Ss) (vs : List PV) (st : Store) (Q : PQ) (X : EQ) : Prop :=
  wpSs b ⟨fun _ s => ∃ s0, Sub s0 s ∧ Q .non s0, fun v s => ∃ s0, Sub s0 s ∧ Q v s0, fun _ _ => False, fun _ _ => False, fun e _ s => ∃ s0, Sub s0 s ∧ X e s0⟩ (initS n vs) st
end TK

set_option maxRecDepth 100000
set_option maxHeartbeats 1000000
namespace TK
open PySem PySem.Spec PyProof.Rows L2
/-! ### a weaker wish -/
theorem oP_mono {α : Type} {o : Option α} {k k' : α → Prop} (hk : ∀ a, k a → k' a) (h : oP o k) : oP o k' := by
  cases o with
  | none => exact h
  | some a => exact hk a h
theorem onBl_mono {v : PV} {k k' : Bool → Prop} (hk : ∀ a, k a → k' a) (h : onBl v k) : onBl v k' := by
  cases v with
  | bl b => exact hk b h
  | _ => exact h
theorem onInt_mono {v : PV} {k k' : Int → Prop} (hk : ∀ a, k a → k' a) (h : onInt v k) : onInt v k' := by
  cases v with
  | int b => exact hk b h
  | _ => exact h
section
variable {Q Q' : PQ} {st : Store}
theorem newList_mono {m : Bool} {xs : List PV} (hq : ∀ v s, Q v s → Q' v s) (h : newList m xs st Q) : newList m xs st Q' := by
  cases m with
  | true => exact fun p hp => hq _ _ (h p hp)
  | false => exact hq _ _ h
theorem onStr_mono {v : PV} {k k' : Str → Prop} (hq : ∀ b, k b → k' b) (h : onStr v k) : onStr v k' := by
  unfold onStr at h ⊢
  split at h
  · exact hq _ h
  · exact h.elim
theorem binV_mono {o : Operator} {m : Bool} {v w : PV} (hq : ∀ v s, Q v s → Q' v s) (h : binV o m v w st Q) : binV o m v w st Q' := by
  unfold binV at h
  split at h <;> first
    | exact h.elim
    | exact hq _ _ h
    | exact ⟨h.1, hq _ _ h.2⟩
    | exact ⟨h.1, newList_mono hq h.2⟩
    | (obtain ⟨a, b, c, d⟩ := h; exact ⟨a, b, c, newList_mono hq d⟩)
    | (obtain ⟨a, b, c⟩ := h; exact ⟨a, b, newList_mono hq c⟩)
    | (obtain ⟨a, b, c, d, e, f⟩ := h; exact ⟨a, b, c, d, e, newList_mono hq f⟩)
    | (obtain ⟨a, b, c, d, e⟩ := h; exact ⟨a, b, c, d, newList_mono hq e⟩)
theorem unV_mono {f : UF} {v : PV} (hq : ∀ v s, Q v s → Q' v s) (h : unV f v st Q) : unV f v st Q' := by
  unfold unV at h
  split at h
  · exact hq _ _ h
  · unfold unV
    exact oP_mono (fun _ h => oP_mono (fun _ h => hq _ _ h) h) h
  · exact h.elim
theorem negV_mono {v : PV} (hq : ∀ v s, Q v s → Q' v s) (h : negV v st Q) : negV v st Q' := by
  unfold negV at h
  split at h
  · exact hq _ _ h
  · exact h.elim
theorem cmpV_mono {o : CmpOp} {v w : PV} (hq : ∀ v s, Q v s → Q' v s) (h : cmpV o v w st Q) : cmpV o v w st Q' := by
  unfold cmpV at h ⊢
  cases o <;> dsimp only at h ⊢
  all_goals first
    | exact ⟨h.1, hq _ _ h.2⟩
    | exact oP_mono (fun xs h => ⟨h.1, hq _ _ h.2⟩) h
    | (split at h <;> first | exact h.elim | exact hq _ _ h | exact onBl_mono (fun _ h => hq _ _ h) h | exact onStr_mono (fun _ h => hq _ _ h) h | exact oP_mono (fun xs h => ⟨h.1, hq _ _ h.2⟩) h)
theorem idxV_mono {v w : PV} (hq : ∀ v s, Q v s → Q' v s) (h : idxV v w st Q) : idxV v w st Q' := by
  unfold idxV at h ⊢
  refine onInt_mono (fun i h => ?_) h
  unfold itemV at h ⊢
  split at h
  · exact ⟨h.1, oP_mono (fun _ h => hq _ _ h) h.2⟩
  · exact oP_mono (fun _ h => hq _ _ h) h
  · exact oP_mono (fun _ h => hq _ _ h) h
  · exact oP_mono (fun _ h => oP_mono (fun _ h => hq _ _ h) h) h
  · exact h.elim
theorem sliceV_mono {m : Bool} {v : PV} {lo hi : Option Int} (hq : ∀ v s, Q v s → Q' v s) (h : sliceV m v lo hi st Q) : sliceV m v lo hi st Q' := by
  unfold sliceV at h
  split at h
  · exact hq _ _ h
  · exact newList_mono hq h
  · obtain ⟨xs, e, h⟩ := h
    exact ⟨xs, e, newList_mono hq h⟩
  · exact h.elim
theorem bltV_mono {f : BF} {m : Bool} {vs : List PV} (hq : ∀ v s, Q v s → Q' v s) (h : bltV f m vs st Q) : bltV f m vs st Q' := by
  unfold bltV at h
  split at h <;> first
    | exact h.elim
    | exact hq _ _ h
    | exact newList_mono hq h
    | exact ⟨h.1, hq _ _ h.2⟩
    | exact oP_mono (fun _ h => hq _ _ h) h
    | exact oP_mono (fun _ h => newList_mono hq h) h
    | exact oP_mono (fun _ h => oP_mono (fun _ h => hq _ _ h) h) h
    | exact oP_mono (fun _ h => oP_mono (fun _ h => ⟨h.1, hq _ _ h.2⟩) h) h
theorem methV_mono {f : MF} {o : PV} {vs : List PV} (hq : ∀ v s, Q v s → Q' v s) (h : methV f o vs st Q) : methV f o vs st Q' := by
  unfold methV at h
  split at h
  · obtain ⟨a, b, c, d⟩ := h; exact ⟨a, b, c, hq _ _ d⟩
  · obtain ⟨a, b, c, d, e, f⟩ := h; exact ⟨a, b, c, d, e, hq _ _ f⟩
  · obtain ⟨a, b, c, d, e⟩ := h; exact ⟨a, b, c, d, hq _ _ e⟩
  · obtain ⟨a, b, z, c, d, e, f, g, i, j⟩ := h; exact ⟨a, b, z, c, d, e, f, g, i, hq _ _ j⟩
  · exact h.elim
theorem augV_mono {o : Operator} {v w : PV} (hq : ∀ v s, Q v s → Q' v s) (h : augV o v w st Q) : augV o v w st Q' := by
  unfold augV at h
  split at h <;> first | exact h.elim | exact hq _ _ h
theorem truV_mono {v : PV} {P P' : Bool → Store → Prop} (hq : ∀ v s, P v s → P' v s) (h : truV v st P) : truV v st P' := by
  unfold truV at h
  split at h <;> first
    | exact hq _ _ h
    | (obtain ⟨xs, e, h⟩ := h; exact ⟨xs, e, hq _ _ h⟩)
    | exact h.elim
theorem callS_mono {sp : PSpec} {vs : List PV} {X X' : EQ} (hx : ∀ e s, X e s → X' e s) (hq : ∀ v s, Q v s → Q' v s) (h : callS sp vs st X Q) : callS sp vs st X' Q' := by
  obtain ⟨Q0, X0, h, a, b⟩ := h
  exact ⟨Q0, X0, h, fun v s q => hq _ _ (a v s q), fun e s q => hx _ _ (b e s q)⟩
theorem setIxV_mono {o i v : PV} {P P' : Store → Prop} (hq : ∀ s, P s → P' s) (h : setIxV o i v st P) : setIxV o i v st P' := by
  unfold setIxV at h
  split at h
  · obtain ⟨xs, j, a, b, c⟩ := h
    exact ⟨xs, j, a, b, hq _ c⟩
  · exact h.elim
theorem frzV_mono {v : PV} (hq : ∀ v s, Q v s → Q' v s) (h : frzV v st Q) : frzV v st Q' := by
  unfold frzV at h ⊢
  split at h
  · exact oP_mono (fun _ h => hq _ _ h) h
  · exact hq _ _ h
theorem itV_mono {f : List PV → List PV} {v : PV} {K K' : List PV → (Store → Prop) → Store → Prop} (hq : ∀ v o s, K v o s → K' v o s) (h : itV f v st K) : itV f v st K' := by
  unfold itV at h ⊢
  split at h <;> first
    | exact hq _ _ _ h
    | exact oP_mono (fun _ h => hq _ _ _ h) h
    | exact h.elim
theorem itV0_mono {v : PV} {K K' : List PV → (Store → Prop) → Store → Prop} (hq : ∀ v o s, K v o s → K' v o s) (h : itV0 v st K) : itV0 v st K' := by
  unfold itV0 at h ⊢
  split at h
  · exact ⟨h.1, hq _ _ _ h.2⟩
  · exact itV_mono hq h
theorem itVL_mono {f : List PV → List PV} {v : PV} {K K' : List PV → (Store → Prop) → Store → Prop} (hq : ∀ v o s, K v o s → K' v o s) (h : itVL f v st K) : itVL f v st K' := by
  unfold itVL at h ⊢
  split at h <;> first
    | exact hq _ _ _ h
    | exact oP_mono (fun _ h => hq _ _ _ h) h
    | exact h.elim
theorem zipV_mono {v w : PV} {K K' : List PV → (Store → Prop) → Store → Prop} (hq : ∀ v o s, K v o s → K' v o s) (h : zipV v w st K) : zipV v w st K' := by
  unfold zipV at h ⊢
  split at h <;> first
    | exact hq _ _ _ h
    | exact h.elim
end
theorem ite_mono {c : Bool} {P P' R R' : Prop} (h1 : P → P') (h2 : R → R') (h : if c = true then P else R) : if c = true then P' else R' := by
  cases c with
  | true => exact h1 h
  | false => exact h2 h
theorem lcS_mono {st st' : Store} {y : PV} {st2 : Store} {C C' : Store → Prop} (h : ∀ s, C s → C' s) (k : lcS st st' y st2 C) : lcS st st' y st2 C' := by
  rcases k with ⟨a, b⟩ | ⟨p, xs, a, b, c, d⟩
  · exact .inl ⟨a, h _ b⟩
  · exact .inr ⟨p, xs, a, b, c, h _ d⟩
theorem lcL_mono {tg : TG} {t : Sl → Store → (Bool → Store → Prop) → Prop} {e : Sl → Store → PQ → Prop} {τ : Sl}
    (ht : ∀ τ st (P P' : Bool → Store → Prop), (∀ v s, P v s → P' v s) → t τ st P → t τ st P') (he : ∀ τ st (P P' : PQ), (∀ v s, P v s → P' v s) → e τ st P → e τ st P')
    {K K' : List PV → Store → Prop} (hk : ∀ v s, K v s → K' v s) : ∀ {xs : List PV} {st : Store} {acc : List PV}, lcL tg t e τ K xs st acc → lcL tg t e τ K' xs st acc
  | [], _, _, h => hk _ _ h
  | x :: r, st, acc, h => by
    refine oP_mono (fun τ1 h => ?_) h
    intro st' hs
    refine ht _ _ _ _ (fun b s hb => ⟨hb.1, ?_⟩) (h st' hs)
    exact ite_mono (fun hb => he _ _ _ _ (fun y s2 hy => lcS_mono (fun _ h => lcL_mono ht he hk h) hy) hb) (fun hb => lcL_mono ht he hk hb) hb.2
mutual
theorem wpE_mono : ∀ (e : E) {X X' : EQ} {τ : Sl} {st : Store} {Q Q' : PQ}, (∀ e s, X e s → X' e s) → (∀ v s, Q v s → Q' v s) → wpE e X τ st Q → wpE e X' τ st Q'
  | .var i, X, X', τ, st, Q, Q', hx, hq, h => oP_mono (fun _ h => hq _ _ h) h
  | .fvar i, X, X', τ, st, Q, Q', hx, hq, h => oP_mono (fun _ h => frzV_mono hq h) h
  | .int n, X, X', τ, st, Q, Q', hx, hq, h => hq _ _ h
  | .bl n, X, X', τ, st, Q, Q', hx, hq, h => hq _ _ h
  | .non, X, X', τ, st, Q, Q', hx, hq, h => hq _ _ h
  | .str n, X, X', τ, st, Q, Q', hx, hq, h => hq _ _ h
  | .glob x v, X, X', τ, st, Q, Q', hx, hq, h => hq _ _ h
  | .bin o m a b, X, X', τ, st, Q, Q', hx, hq, h => by
    unfold wpE at h ⊢
    exact wpE_mono a hx (fun v s h => wpE_mono b hx (fun w s h => binV_mono hq h) h) h
  | .neg a, X, X', τ, st, Q, Q', hx, hq, h => by
    unfold wpE at h ⊢
    exact wpE_mono a hx (fun v s h => negV_mono hq h) h
  | .un f a, X, X', τ, st, Q, Q', hx, hq, h => by
    unfold wpE at h ⊢
    exact wpE_mono a hx (fun v s h => unV_mono hq h) h
  | .not a, X, X', τ, st, Q, Q', hx, hq, h => by
    unfold wpE at h ⊢
    exact wpE_mono a hx (fun v s h => onBl_mono (fun _ h => hq _ _ h) h) h
  | .cmp o a b, X, X', τ, st, Q, Q', hx, hq, h => by
    unfold wpE at h ⊢
    exact wpE_mono a hx (fun v s h => wpE_mono b hx (fun w s h => cmpV_mono hq h) h) h
  | .chain o o' a b c, X, X', τ, st, Q, Q', hx, hq, h => by
    unfold wpE at h ⊢
    refine wpE_mono a hx (fun v s h => wpE_mono b hx (fun w s h => cmpV_mono (fun z s h => onBl_mono (fun k h => ?_) h) h) h) h
    exact ite_mono (fun h => wpE_mono c hx (fun u s h => cmpV_mono hq h) h) (fun h => hq _ _ h) h
  | .bools o es, X, X', τ, st, Q, Q', hx, hq, h => by
    unfold wpE at h ⊢
    exact wpBs_mono es hx hq h
  | .ite t a b, X, X', τ, st, Q, Q', hx, hq, h => by
    unfold wpE at h ⊢
    exact wpT_mono t hx (fun k s h => ite_mono (fun h => wpE_mono a hx hq h) (fun h => wpE_mono b hx hq h) h) h
  | .tup es, X, X', τ, st, Q, Q', hx, hq, h => by
    unfold wpE at h ⊢
    exact wpEs_mono es hx (fun vs s h => ⟨h.1, hq _ _ h.2⟩) h
  | .lst m es, X, X', τ, st, Q, Q', hx, hq, h => by
    unfold wpE at h ⊢
    exact wpEs_mono es hx (fun vs s h => ⟨h.1, newList_mono hq h.2⟩) h
  | .idx a i, X, X', τ, st, Q, Q', hx, hq, h => by
    unfold wpE at h ⊢
    exact wpE_mono a hx (fun v s h => wpE_mono i hx (fun w s h => idxV_mono hq h) h) h
  | .slice m a lo hi, X, X', τ, st, Q, Q', hx, hq, h => by
    unfold wpE at h ⊢
    exact wpE_mono a hx (fun v s h => wpO_mono lo hx (fun l s h => wpO_mono hi hx (fun u s h => sliceV_mono hq h) h) h) h
  | .call f sp es, X, X', τ, st, Q, Q', hx, hq, h => by
    unfold wpE at h ⊢
    exact wpEs_mono es hx (fun vs s h => callS_mono hx hq h) h
  | .callK f ks sp es ek, X, X', τ, st, Q, Q', hx, hq, h => by
    unfold wpE at h ⊢
    exact wpEs_mono es hx (fun vs s h => wpE_mono ek hx (fun v s h => callS_mono hx hq h) h) h
  | .blt f m es, X, X', τ, st, Q, Q', hx, hq, h => by
    unfold wpE at h ⊢
    exact wpEs_mono es hx (fun vs s h => bltV_mono hq h) h
  | .isi e ty, X, X', τ, st, Q, Q', hx, hq, h => by
    unfold wpE at h ⊢
    exact wpE_mono e hx (fun v s h => oP_mono (fun _ h => hq _ _ h) h) h
  | .meth f o es, X, X', τ, st, Q, Q', hx, hq, h => by
    unfold wpE at h ⊢
    exact wpE_mono o hx (fun v s h => ⟨h.1, wpEs_mono es hx (fun vs s h => methV_mono hq h) h.2⟩) h
  | .comp m vs tg it ts elt, X, X', τ, st, Q, Q', hx, hq, h => by
    unfold wpE at h ⊢
    refine wpI_mono it hx (fun xs ok s h => ⟨h.1, h.2.1, ?_⟩) h
    refine lcL_mono ?_ ?_ (fun acc s h => newList_mono hq h) h.2.2
    · exact fun τ st P P' hp h => wpTs_mono ts (fun _ _ z => z) hp h
    · exact fun τ st P P' hp h => wpE_mono elt (fun _ _ z => z) hp h
theorem wpEs_mono : ∀ (e : Es) {X X' : EQ} {τ : Sl} {st : Store} {Q Q' : List PV → Store → Prop}, (∀ e s, X e s → X' e s) → (∀ v s, Q v s → Q' v s) → wpEs e X τ st Q → wpEs e X' τ st Q'
  | .nil, X, X', τ, st, Q, Q', hx, hq, h => hq _ _ h
  | .cons e es, X, X', τ, st, Q, Q', hx, hq, h => by
    unfold wpEs at h ⊢
    exact wpE_mono e hx (fun v s h => wpEs_mono es hx (fun vs s h => hq _ _ h) h) h
theorem wpBs_mono : ∀ (e : Es) {o : BoolOp} {X X' : EQ} {τ : Sl} {st : Store} {Q Q' : PQ}, (∀ e s, X e s → X' e s) → (∀ v s, Q v s → Q' v s) → wpBs o e X τ st Q → wpBs o e X' τ st Q'
  | .nil, o, X, X', τ, st, Q, Q', hx, hq, h => h
  | .cons e .nil, o, X, X', τ, st, Q, Q', hx, hq, h => by
    unfold wpBs at h ⊢
    exact wpE_mono e hx hq h
  | .cons e (.cons e' es), o, X, X', τ, st, Q, Q', hx, hq, h => by
    unfold wpBs at h ⊢
    dsimp only at h ⊢
    refine wpE_mono e hx (fun v s h => onBl_mono (fun b h => ?_) h) h
    cases o with
    | And => exact ite_mono (fun h => wpBs_mono (.cons e' es) hx hq h) (fun h => hq _ _ h) h
    | Or => exact ite_mono (fun h => hq _ _ h) (fun h => wpBs_mono (.cons e' es) hx hq h) h
theorem wpO_mono : ∀ (e : OE) {X X' : EQ} {τ : Sl} {st : Store} {Q Q' : Option Int → Store → Prop}, (∀ e s, X e s → X' e s) → (∀ v s, Q v s → Q' v s) → wpO e X τ st Q → wpO e X' τ st Q'
  | .no, X, X', τ, st, Q, Q', hx, hq, h => hq _ _ h
  | .yes e, X, X', τ, st, Q, Q', hx, hq, h => by
    unfold wpO at h ⊢
    exact wpE_mono e hx (fun v s h => onInt_mono (fun _ h => hq _ _ h) h) h
theorem wpT_mono : ∀ (e : T) {X X' : EQ} {τ : Sl} {st : Store} {Q Q' : Bool → Store → Prop}, (∀ e s, X e s → X' e s) → (∀ v s, Q v s → Q' v s) → wpT e X τ st Q → wpT e X' τ st Q'
  | .val e, X, X', τ, st, Q, Q', hx, hq, h => by
    unfold wpT at h ⊢
    exact wpE_mono e hx (fun v s h => truV_mono hq h) h
  | .cmp o a b, X, X', τ, st, Q, Q', hx, hq, h => by
    unfold wpT at h ⊢
    exact wpE_mono a hx (fun v s h => wpE_mono b hx (fun w s h => cmpV_mono (fun z s h => onBl_mono (fun _ h => hq _ _ h) h) h) h) h
  | .chain o o' a b c, X, X', τ, st, Q, Q', hx, hq, h => by
    unfold wpT at h ⊢
    refine wpE_mono a hx (fun v s h => wpE_mono b hx (fun w s h => cmpV_mono (fun z s h => onBl_mono (fun k h => ?_) h) h) h) h
    exact ite_mono (fun h => wpE_mono c hx (fun u s h => cmpV_mono (fun z s h => onBl_mono (fun _ h => hq _ _ h) h) h) h) (fun h => hq _ _ h) h
  | .not t, X, X', τ, st, Q, Q', hx, hq, h => by
    unfold wpT at h ⊢
    exact wpT_mono t hx (fun k s h => hq _ _ h) h
  | .bools o ts, X, X', τ, st, Q, Q', hx, hq, h => by
    unfold wpT at h ⊢
    exact wpTs_mono ts hx hq h
  | .ite t a b, X, X', τ, st, Q, Q', hx, hq, h => by
    unfold wpT at h ⊢
    exact wpT_mono t hx (fun k s h => ite_mono (fun h => wpT_mono a hx hq h) (fun h => wpT_mono b hx hq h) h) h
theorem wpTs_mono : ∀ (e : Ts) {o : BoolOp} {X X' : EQ} {τ : Sl} {st : Store} {Q Q' : Bool → Store → Prop}, (∀ e s, X e s → X' e s) → (∀ v s, Q v s → Q' v s) → wpTs o e X τ st Q → wpTs o e X' τ st Q'
  | .nil, o, X, X', τ, st, Q, Q', hx, hq, h => by
    unfold wpTs at h ⊢
    cases o <;> exact hq _ _ h
  | .cons t ts, o, X, X', τ, st, Q, Q', hx, hq, h => by
    unfold wpTs at h ⊢
    refine wpT_mono t hx (fun k s h => ?_) h
    cases o with
    | And => exact ite_mono (fun h => wpTs_mono ts hx hq h) (fun h => hq _ _ h) h
    | Or => exact ite_mono (fun h => hq _ _ h) (fun h => wpTs_mono ts hx hq h) h
theorem wpI_mono : ∀ (e : I) {X X' : EQ} {τ : Sl} {st : Store} {Q Q' : List PV → (Store → Prop) → Store → Prop}, (∀ e s, X e s → X' e s) → (∀ v o s, Q v o s → Q' v o s) → wpI e X τ st Q → wpI e X' τ st Q'
  | .val e, X, X', τ, st, Q, Q', hx, hq, h => by
    unfold wpI at h ⊢
    exact wpE_mono e hx (fun v s h => itV0_mono hq h) h
  | .range1 a, X, X', τ, st, Q, Q', hx, hq, h => by
    unfold wpI at h ⊢
    exact wpE_mono a hx (fun v s h => onInt_mono (fun j h => ⟨h.1, hq _ _ _ h.2⟩) h) h
  | .range2 a b, X, X', τ, st, Q, Q', hx, hq, h => by
    unfold wpI at h ⊢
    exact wpE_mono a hx (fun v s h => wpE_mono b hx (fun w s h => onInt_mono (fun i h => onInt_mono (fun j h => ⟨h.1, h.2.1, hq _ _ _ h.2.2⟩) h) h) h) h
  | .enum e, X, X', τ, st, Q, Q', hx, hq, h => by
    unfold wpI at h ⊢
    exact wpE_mono e hx (fun v s h => itV_mono hq h) h
  | .zip a b, X, X', τ, st, Q, Q', hx, hq, h => by
    unfold wpI at h ⊢
    exact wpE_mono a hx (fun v s h => wpE_mono b hx (fun w s h => zipV_mono hq h) h) h
end
structure PEnds.Le (D D' : PEnds) : Prop where
  nx : ∀ τ s, D.nx τ s → D'.nx τ s
  rt : ∀ v s, D.rt v s → D'.rt v s
  bk : ∀ τ s, D.bk τ s → D'.bk τ s
  ct : ∀ τ s, D.ct τ s → D'.ct τ s
  ex : ∀ e τ s, D.ex e τ s → D'.ex e τ s
theorem forL_mono {tg : TG} {b : PEnds → Sl → Store → Prop} {ok : Store → Prop} (hb : ∀ (D D' : PEnds) τ st, D.Le D' → b D τ st → b D' τ st) :
    ∀ {xs : List PV} {D D' : PEnds} {τ : Sl} {st : Store}, D.Le D' → forL tg b ok xs D τ st → forL tg b ok xs D' τ st
  | [], _, _, _, _, hd, h => ⟨h.1, hd.nx _ _ h.2⟩
  | x :: r, D, D', τ, st, hd, h => by
    refine ⟨h.1, oP_mono (fun τ1 h => ?_) h.2⟩
    refine hb _ _ _ _ ?_ h
    exact ⟨fun _ _ h => forL_mono hb hd h, hd.rt, fun _ _ h => hd.nx _ _ h, fun _ _ h => forL_mono hb hd h, hd.ex⟩
theorem onNeg_mono {v : PV} {Q Q' : PV → Prop} (hq : ∀ v, Q v → Q' v) (h : onNeg v Q) : onNeg v Q' := by
  cases v <;> first | exact hq _ h | exact h
mutual
theorem wpX_mono : ∀ (x : XE) {e : Exn} {τ : Sl} {Q Q' : PV → Prop}, (∀ v, Q v → Q' v) → wpX x e τ Q → wpX x e τ Q'
  | .fld f, e, τ, Q, Q', hq, h => oP_mono hq h
  | .is d, e, τ, Q, Q', hq, h => hq _ h
  | .str x, e, τ, Q, Q', hq, h => hq _ h
  | .int n, e, τ, Q, Q', hq, h => hq _ h
  | .bl b, e, τ, Q, Q', hq, h => hq _ h
  | .non, e, τ, Q, Q', hq, h => hq _ h
  | .var i, e, τ, Q, Q', hq, h => oP_mono hq h
  | .neg a, e, τ, Q, Q', hq, h => by
    unfold wpX at h ⊢
    exact wpX_mono a (fun v h => onNeg_mono hq h) h
  | .not a, e, τ, Q, Q', hq, h => by
    unfold wpX at h ⊢
    exact wpX_mono a (fun v h => onBl_mono (fun b h => hq _ h) h) h
  | .ands xs, e, τ, Q, Q', hq, h => by
    unfold wpX at h ⊢
    exact wpXa_mono xs hq h
  | .ite t a b, e, τ, Q, Q', hq, h => by
    unfold wpX at h ⊢
    exact wpXt_mono t (fun k h => ite_mono (fun h => wpX_mono a hq h) (fun h => wpX_mono b hq h) h) h
  | .tup xs, e, τ, Q, Q', hq, h => by
    unfold wpX at h ⊢
    exact wpXs_mono xs (fun vs h => ⟨h.1, hq _ h.2⟩) h
  | .same g a b, e, τ, Q, Q', hq, h => by
    unfold wpX at h ⊢
    exact wpX_mono a (fun v h => wpX_mono b (fun w h => ⟨h.1, hq _ h.2⟩) h) h
theorem wpXs_mono : ∀ (xs : XEs) {e : Exn} {τ : Sl} {Q Q' : List PV → Prop}, (∀ v, Q v → Q' v) → wpXs xs e τ Q → wpXs xs e τ Q'
  | .nil, e, τ, Q, Q', hq, h => hq _ h
  | .cons x xs, e, τ, Q, Q', hq, h => by
    unfold wpXs at h ⊢
    exact wpX_mono x (fun v h => wpXs_mono xs (fun vs h => hq _ h) h) h
theorem wpXt_mono : ∀ (xs : XEs) {e : Exn} {τ : Sl} {Q Q' : Bool → Prop}, (∀ v, Q v → Q' v) → wpXt xs e τ Q → wpXt xs e τ Q'
  | .nil, e, τ, Q, Q', hq, h => hq _ h
  | .cons x xs, e, τ, Q, Q', hq, h => by
    unfold wpXt at h ⊢
    exact wpX_mono x (fun v h => onBl_mono (fun b h => ite_mono (fun h => wpXt_mono xs hq h) (fun h => hq _ h) h) h) h
theorem wpXa_mono : ∀ (xs : XEs) {e : Exn} {τ : Sl} {Q Q' : PV → Prop}, (∀ v, Q v → Q' v) → wpXa xs e τ Q → wpXa xs e τ Q'
  | .nil, e, τ, Q, Q', hq, h => by
    unfold wpXa at h
    exact h.elim
  | .cons x .nil, e, τ, Q, Q', hq, h => by
    unfold wpXa at h ⊢
    exact wpX_mono x hq h
  | .cons x (.cons y ys), e, τ, Q, Q', hq, h => by
    unfold wpXa at h ⊢
    exact wpX_mono x (fun v h => onBl_mono (fun b h => ite_mono (fun h => wpXa_mono (.cons y ys) hq h) (fun h => hq _ h) h) h) h
end
mutual
theorem wpS_mono : ∀ (s : S) {D D' : PEnds} {τ : Sl} {st : Store}, D.Le D' → wpS s D τ st → wpS s D' τ st
  | .asg tg e, D, D', τ, st, hd, h => by
    unfold wpS at h ⊢
    exact wpE_mono e (fun x s h => hd.ex _ _ _ h) (fun v s h => oP_mono (fun _ h => hd.nx _ _ h) h) h
  | .asgLc i e, D, D', τ, st, hd, h => by
    unfold wpS at h ⊢
    exact wpE_mono e (fun x s h => hd.ex _ _ _ h) (fun v s h => hd.nx _ _ h) h
  | .setIx o i e, D, D', τ, st, hd, h => by
    unfold wpS at h ⊢
    exact wpE_mono e (fun x s h => hd.ex _ _ _ h) (fun v s h => wpE_mono o (fun x s h => hd.ex _ _ _ h) (fun v s h => wpE_mono i (fun x s h => hd.ex _ _ _ h) (fun v s h => setIxV_mono (fun s h => hd.nx _ _ h) h) h) h) h
  | .aug i o e, D, D', τ, st, hd, h => by
    unfold wpS at h ⊢
    exact oP_mono (fun v h => wpE_mono e (fun x s h => hd.ex _ _ _ h) (fun v s h => augV_mono (fun v s h => hd.nx _ _ h) h) h) h
  | .expr e, D, D', τ, st, hd, h => by
    unfold wpS at h ⊢
    exact wpE_mono e (fun x s h => hd.ex _ _ _ h) (fun v s h => hd.nx _ _ h) h
  | .ret e, D, D', τ, st, hd, h => by
    unfold wpS at h ⊢
    exact wpE_mono e (fun x s h => hd.ex _ _ _ h) (fun v s h => hd.rt _ _ h) h
  | .retN, D, D', τ, st, hd, h => hd.rt _ _ h
  | .ite t a b, D, D', τ, st, hd, h => by
    unfold wpS at h ⊢
    exact wpT_mono t (fun x s h => hd.ex _ _ _ h) (fun k s h => ite_mono (fun h => wpSs_mono a hd h) (fun h => wpSs_mono b hd h) h) h
  | .loop tg it b, D, D', τ, st, hd, h => by
    unfold wpS at h ⊢
    refine wpI_mono it (fun x s h => hd.ex _ _ _ h) (fun xs ok s h => ?_) h
    refine forL_mono ?_ hd h
    exact fun D D' τ st hd h => wpSs_mono b hd h
  | .while t b, D, D', τ, st, hd, h => by
    unfold wpS at h ⊢
    obtain ⟨W, w0, h⟩ := h
    refine ⟨W, w0, fun n τ st w => wpT_mono t (fun x s h => hd.ex _ _ _ h) (fun k s h => ?_) (h n τ st w)⟩
    refine ite_mono (fun h => ?_) (fun h => hd.nx _ _ h) h
    refine wpSs_mono b ?_ h
    exact ⟨fun _ _ h => h, hd.rt, fun _ _ h => hd.nx _ _ h, fun _ _ h => h, hd.ex⟩
  | .pass, D, D', τ, st, hd, h => hd.nx _ _ h
  | .brk, D, D', τ, st, hd, h => hd.bk _ _ h
  | .cont, D, D', τ, st, hd, h => hd.ct _ _ h
  | .never, D, D', τ, st, hd, h => h
  | .raise c es, D, D', τ, st, hd, h => by
    unfold wpS at h ⊢
    exact wpEs_mono es (fun x s h => hd.ex _ _ _ h) (fun vs s ⟨v, a, b, h⟩ => ⟨v, a, b, hd.ex _ _ _ h⟩) h
  | .tryX b c i x, D, D', τ, st, hd, h => by
    unfold wpS at h ⊢
    refine wpSs_mono b ?_ h
    refine ⟨hd.nx, hd.rt, hd.bk, hd.ct, fun e τ' s h => ⟨h.1, ?_⟩⟩
    exact ite_mono (fun h => ⟨h.1, h.2.1, wpX_mono x (fun v h => hd.rt _ _ h) h.2.2⟩) (fun h => hd.ex _ _ _ h) h.2
theorem wpSs_mono : ∀ (s : Ss) {D D' : PEnds} {τ : Sl} {st : Store}, D.Le D' → wpSs s D τ st → wpSs s D' τ st
  | .nil, D, D', τ, st, hd, h => hd.nx _ _ h
  | .cons s ss, D, D', τ, st, hd, h => by
    unfold wpSs at h ⊢
    refine wpS_mono s ?_ h
    exact ⟨fun _ _ h => wpSs_mono ss hd h, hd.rt, hd.bk, hd.ct, hd.ex⟩
end
end TK

set_option maxRecDepth 100000
set_option maxHeartbeats 1000000
namespace TK
open PySem PySem.Spec PyProof.Rows L2

/-! ### is a term the term of this syntax? -/
/-- where one stands: the def's names by slot, the scope, the scope whose names may be stored -/
structure SC where
  N : List Str
  sc : Scope
  tsc : Scope
def visB (sc : Scope) (x : Str) : Bool := match sc.names.lookup x with
  | some .local => true
  | some .cell => true
  | some .free => true
  | _ => false
def locB (sc : Scope) (x : Str) : Bool := match sc.names.lookup x with
  | some .local => true
  | some .cell => true
  | _ => false
def glB (sc : Scope) (x : Str) : Bool := match sc.names.lookup x with
  | some .globalImplicit => !(x == ("__debug__" : Str))
  | _ => false
def notStar : Expr → Bool
  | .Starred _ _ => false
  | _ => true
def notComp : Expr → Bool
  | .ListComp _ _ _ _ => false
  | .SetComp _ _ _ _ => false
  | .DictComp _ _ _ _ _ => false
  | _ => true
def notSet : Expr → Bool
  | .Set _ _ _ => false
  | _ => true
def notTup : Expr → Bool
  | .Tuple _ _ _ => false
  | .List _ _ => false
  | _ => true
def plainT : Expr → Bool
  | .UnaryOp .Not _ _ => false
  | .BoolOp _ _ _ => false
  | .IfExp _ _ _ _ => false
  | .Compare _ _ _ _ => false
  | _ => true
def notCall : Expr → Bool
  | .Call _ _ _ _ => false
  | _ => true
def notSlice : Expr → Bool
  | .Slice _ _ _ _ => false
  | _ => true
def BF.name : BF → Str
  | .len => "len" | .int => "int" | .abs => "abs" | .tuple => "tuple" | .list => "list" | .all => "all" | .any => "any" | .sum => "sum"
  | .min2 => "min" | .max2 => "max" | .min => "min" | .max => "max" | .repr => "repr" | .str => "str"
def MF.name : MF → Str
  | .append => "append" | .extend => "extend" | .pop => "pop" | .index => "index"
/-- the part of such a form -/
def unSh (C : SC) : UF → Expr → Option Expr
  | .revT, .Subscript x (.Slice none none (some (.UnaryOp .USub (.Constant (.int 1) _ _) _)) _) _ => some x
  | .maxD, .Call (.Name x _) [y] [⟨some k, .Constant (.int 0) _ _, _⟩] _ => if x = ("max" : Str) ∧ k = ("default" : Str) ∧ glB C.sc x = true ∧ notStar y = true then some y else none
  | _, _ => none
def nmB (C : SC) (i : Nat) (x : Str) : Bool := decide (C.N[i]? = some x) && visB C.sc x && !(x == ("__debug__" : Str)) && !(x == ("__classdict__" : Str))
mutual
def chkG (C : SC) : TG → Expr → Bool
  | .name i, e => match e with
    | .Name x _ => decide (C.N[i]? = some x) && locB C.tsc x
    | _ => false
  | .tup ts, e => match e with
    | .Tuple es _ _ => chkGs C ts es
    | _ => false
def chkGs (C : SC) : TGs → List Expr → Bool
  | .nil, es => match es with
    | [] => true
    | _ :: _ => false
  | .cons t ts, es => match es with
    | [] => false
    | e :: r => notStar e && chkG C t e && chkGs C ts r
end
def ownOf (N : List Str) (vs : List Nat) : List (Str × Nat) := vs.filterMap fun v => N[v]?.map fun x => (x, v)
mutual
def chkE : E → SC → Expr → Bool
  | .var i, C, e => match e with
    | .Name x _ => nmB C i x
    | _ => false
  | .fvar i, C, e => match e with
    | .Name x _ => nmB C i x
    | _ => false
  | .int n, _, e => match e with
    | .Constant (.int m) _ _ => decide (n = m)
    | _ => false
  | .bl n, _, e => match e with
    | .Constant (.bool m) _ _ => n == m
    | _ => false
  | .non, _, e => match e with
    | .Constant .none _ _ => true
    | _ => false
  | .str n, _, e => match e with
    | .Constant (.str m) _ _ => decide (n = m)
    | _ => false
  | .glob n _, C, e => match e with
    | .Name x _ => decide (n = x) && glB C.sc x
    | _ => false
  | .bin o _ a b, C, e => match e with
    | .BinOp x o' y _ => decide (o = o') && chkE a C x && chkE b C y
    | _ => false
  | .neg a, C, e => match e with
    | .UnaryOp .USub x _ => chkE a C x
    | _ => false
  | .not a, C, e => match e with
    | .UnaryOp .Not x _ => chkE a C x
    | _ => false
  | .un f a, C, e => match unSh C f e with
    | some x => chkE a C x
    | none => false
  | .cmp o a b, C, e => match e with
    | .Compare x [o'] [y] _ => decide (o = o') && chkE a C x && notSet y && chkE b C y
    | _ => false
  | .chain o p a b c, C, e => match e with
    | .Compare x [o', p'] [y, z] _ => decide (o = o') && decide (p = p') && chkE a C x && chkE b C y && notSet z && chkE c C z
    | _ => false
  | .bools o es, C, e => match e with
    | .BoolOp o' xs _ => decide (o = o') && chkEs es C xs
    | _ => false
  | .ite t a b, C, e => match e with
    | .IfExp x y z _ => chkT t C x && chkE a C y && chkE b C z
    | _ => false
  | .tup es, C, e => match e with
    | .Tuple xs _ _ => chkEs es C xs
    | _ => false
  | .lst _ es, C, e => match e with
    | .List xs _ => chkEs es C xs
    | _ => false
  | .idx a i, C, e => match e with
    | .Subscript x y _ => chkE a C x && notSlice y && chkE i C y
    | _ => false
  | .slice _ a lo hi, C, e => match e with
    | .Subscript x (.Slice l u none _) _ => chkE a C x && chkO lo C l && chkO hi C u
    | _ => false
  | .call f _ es, C, e => match e with
    | .Call (.Name x _) xs [] _ => decide (f = x) && glB C.sc x && chkEs es C xs
    | _ => false
  | .callK f ks _ es ek, C, e => match e with
    | .Call (.Name y _) (x :: xs) [⟨some z, w, _⟩] _ => decide (f = y) && glB C.sc y && chkEs es C (x :: xs) && decide (ks = z) && chkE ek C w
    | _ => false
  | .blt f _ es, C, e => match e with
    | .Call (.Name x _) xs [] _ => decide (f.name = x) && glB C.sc x && !xs.isEmpty && chkEs es C xs
    | _ => false
  | .isi a ty, C, e => match e with
    | .Call (.Name x _) [y, .Name z _] [] _ => decide (x = ("isinstance" : Str)) && glB C.sc x && notStar y && chkE a C y && decide (z = ty) && tyOk ty && glB C.sc z
    | _ => false
  | .meth f o es, C, e => match e with
    | .Call (.Attribute x y ap) xs [] cp => decide (y = f.name) && (ap.endLine == cp.line) && notCall x && decide (xs.length < 30) && chkE o C x && chkEs es C xs
    | _ => false
  | .comp _ vs tg it ts elt, C, e => match e with
    | .ListComp x [⟨g, y, ifs, k⟩] scope _ => k == 0 && decide ((ownOf C.N vs).map (·.2) = vs) && blkC C.N C.sc scope (ownOf C.N vs) && tg.slots.all (fun i => decide (i ∈ vs)) && notSet y && chkI it C g y &&
        chkG ⟨C.N, relS scope C.sc, scope⟩ tg g && chkTs ts ⟨C.N, relS scope C.sc, scope⟩ ifs && decide (ifs.length ≤ 1) && chkE elt ⟨C.N, relS scope C.sc, scope⟩ x
    | _ => false
def chkEs : Es → SC → List Expr → Bool
  | .nil, _, es => match es with
    | [] => true
    | _ :: _ => false
  | .cons a as, C, es => match es with
    | [] => false
    | e :: r => notStar e && chkE a C e && chkEs as C r
def chkO : OE → SC → Option Expr → Bool
  | .no, _, e => match e with
    | none => true
    | some _ => false
  | .yes a, C, e => match e with
    | none => false
    | some x => chkE a C x
def chkT : T → SC → Expr → Bool
  | .val a, C, e => plainT e && chkE a C e
  | .cmp o a b, C, e => match e with
    | .Compare x [o'] [y] _ => decide (o = o') && chkE a C x && notSet y && chkE b C y
    | _ => false
  | .chain o p a b c, C, e => match e with
    | .Compare x [o', p'] [y, z] _ => decide (o = o') && decide (p = p') && chkE a C x && chkE b C y && notSet z && chkE c C z
    | _ => false
  | .not t, C, e => match e with
    | .UnaryOp .Not x _ => chkT t C x
    | _ => false
  | .bools o ts, C, e => match e with
    | .BoolOp o' xs _ => decide (o = o') && !xs.isEmpty && chkTs ts C xs
    | _ => false
  | .ite _ _ _, _, _ => false
def chkTs : Ts → SC → List Expr → Bool
  | .nil, _, es => match es with
    | [] => true
    | _ :: _ => false
  | .cons a as, C, es => match es with
    | [] => false
    | e :: r => chkT a C e && chkTs as C r
def chkI : I → SC → Expr → Expr → Bool
  | .val a, C, _, e => chkE a C e
  | .range1 a, C, _, e => match e with
    | .Call (.Name x _) [y] [] _ => decide (x = ("range" : Str)) && glB C.sc x && notStar y && chkE a C y
    | _ => false
  | .range2 a b, C, _, e => match e with
    | .Call (.Name x _) [y, z] [] _ => decide (x = ("range" : Str)) && glB C.sc x && notStar y && chkE a C y && notStar z && chkE b C z
    | _ => false
  | .enum a, C, g, e => match g, e with
    | .Tuple _ _ _, .Call (.Name x _) [y] [] _ => decide (x = ("enumerate" : Str)) && glB C.sc x && notStar y && chkE a C y
    | _, _ => false
  | .zip a b, C, g, e => match g, e with
    | .Tuple _ _ _, .Call (.Name x _) [y, z] [] _ => decide (x = ("zip" : Str)) && glB C.sc x && notStar y && chkE a C y && notStar z && chkE b C z
    | _, _ => false
end
/-! ### a suite's answer -/
mutual
def chkX : XE → SC → Str → Expr → Bool
  | .fld f, _, n, e => match e with
    | .Attribute (.Name x _) g _ => decide (x = n) && decide (g = f) && decide (f ∈ fldNames) && !(n == ("__debug__" : Str)) && !(n == ("__classdict__" : Str))
    | _ => false
  | .is d, C, n, e => match e with
    | .Call (.Name x _) [.Name y _, .Name z _] [] _ => decide (x = ("isinstance" : Str)) && glB C.sc x && decide (y = n) && !(n == ("__debug__" : Str)) && !(n == ("__classdict__" : Str)) && decide (z = d) && glB C.sc z
    | _ => false
  | .str x, _, _, e => match e with
    | .Constant (.str m) _ _ => decide (x = m)
    | _ => false
  | .int x, _, _, e => match e with
    | .Constant (.int m) _ _ => decide (x = m)
    | _ => false
  | .bl x, C, _, e => chkE (.bl x) C e
  | .non, C, _, e => chkE .non C e
  | .var i, C, _, e => chkE (.var i) C e
  | .neg a, C, n, e => match e with
    | .UnaryOp .USub x _ => chkX a C n x
    | _ => false
  | .not a, C, n, e => match e with
    | .UnaryOp .Not x _ => chkX a C n x
    | _ => false
  | .ands xs, C, n, e => match e with
    | .BoolOp .And ys _ => chkXs xs C n ys
    | _ => false
  | .ite t a b, C, n, e => match e with
    | .IfExp x y z _ => (match t with
        | .nil => false
        | .cons u .nil => plainT x && chkX u C n x
        | .cons _ (.cons _ _) => match x with
          | .BoolOp .And ws _ => chkXt t C n ws
          | _ => false) && chkX a C n y && chkX b C n z
    | _ => false
  | .tup xs, C, n, e => match e with
    | .Tuple ys _ _ => chkXs xs C n ys
    | _ => false
  | .same g a b, C, n, e => match e with
    | .Call (.Name x _) [y, z] [] _ => decide (g = x) && glB C.sc x && notStar y && notStar z && chkX a C n y && chkX b C n z
    | _ => false
def chkXt : XEs → SC → Str → List Expr → Bool
  | .nil, _, _, es => match es with
    | [] => true
    | _ :: _ => false
  | .cons x xs, C, n, es => match es with
    | [] => false
    | y :: ys => plainT y && chkX x C n y && chkXt xs C n ys
def chkXs : XEs → SC → Str → List Expr → Bool
  | .nil, _, _, es => match es with
    | [] => true
    | _ :: _ => false
  | .cons x xs, C, n, es => match es with
    | [] => false
    | y :: ys => notStar y && chkX x C n y && chkXs xs C n ys
end
mutual
def chkS : S → SC → Stmt → Bool
  | .asg tg a, C, s => match s with
    | .Assign [g] e _ => chkG C tg g && notComp e && (notTup g || notTup e) && chkE a C e
    | _ => false
  | .asgLc i a, C, s => match s with
    | .Assign [.Name x p] (.ListComp elt gs scope pos) _ => decide (C.N[i]? = some x) && decide (C.sc.names.lookup x = some .local) && (p.line == pos.line) &&
        !(scope.names.any fun (n, k) => n == x && (k == .local || k == .cell)) && (match a with | .comp _ _ _ _ _ _ => true | _ => false) && chkE a C (.ListComp elt gs scope pos)
    | _ => false
  | .setIx o i a, C, s => match s with
    | .Assign [.Subscript x y _] e _ => notSlice y && chkE o C x && chkE i C y && chkE a C e
    | _ => false
  | .aug i o a, C, s => match s with
    | .AugAssign (.Name x _) o' e _ => decide (C.N[i]? = some x) && locB C.tsc x && decide (o = o') && chkE a C e
    | _ => false
  | .expr a, C, s => match s with
    | .Expr e _ => notComp e && chkE a C e
    | _ => false
  | .ret a, C, s => match s with
    | .Return (some e) _ => chkE a C e
    | _ => false
  | .retN, _, s => match s with
    | .Return none _ => true
    | _ => false
  | .ite t a b, C, s => match s with
    | .If c x y _ => chkT t C c && chkSs a C x && chkSs b C y
    | _ => false
  | .loop tg it b, C, s => match s with
    | .For g e x [] _ => chkG C tg g && notSet e && chkI it C g e && chkSs b C x
    | _ => false
  | .while t b, C, s => match s with
    | .While c x [] _ => chkT t C c && chkSs b C x
    | _ => false
  | .pass, _, s => match s with
    | .Pass _ => true
    | _ => false
  | .brk, _, s => match s with
    | .Break _ => true
    | _ => false
  | .cont, _, s => match s with
    | .Continue _ => true
    | _ => false
  | .never, _, _ => true
  | .raise c es, C, s => match s with
    | .Raise (some (.Call (.Name y _) (x :: xs) [] _)) none _ => decide (c = y) && glB C.sc y && chkEs es C (x :: xs)
    | _ => false
  | .tryX b c i h, C, s => match s with
    | .Try x [.ExceptHandler (some (.Name y _)) (some n) [.Return (some z) _] _] [] [] _ => chkSs b C x && decide (c = y) && glB C.sc y && decide (C.N[i]? = some n) && decide (C.sc.names.lookup n = some .local) && chkX h C n z
    | _ => false
def chkSs : Ss → SC → List Stmt → Bool
  | .nil, _, ss => match ss with
    | [] => true
    | _ :: _ => false
  | .cons a as, C, ss => match ss with
    | [] => false
    | s :: r => chkS a C s && chkSs as C r
end

/-! ### what a term asks of the program around it -/
mutual
def needE (pf : Str → PSpec → Nat → Prop) (pk : Str → Str → PSpec → Nat → Prop) (pg : Str → PV → Prop) : E → Prop
  | .var _ => True
  | .fvar _ => True
  | .int _ => True
  | .bl _ => True
  | .non => True
  | .str _ => True
  | .glob x v => pg x v
  | .bin _ _ a b => needE pf pk pg a ∧ needE pf pk pg b
  | .neg a => needE pf pk pg a
  | .not a => needE pf pk pg a
  | .un _ a => needE pf pk pg a
  | .cmp _ a b => needE pf pk pg a ∧ needE pf pk pg b
  | .chain _ _ a b c => needE pf pk pg a ∧ needE pf pk pg b ∧ needE pf pk pg c
  | .bools _ es => needEs pf pk pg es
  | .ite t a b => needT pf pk pg t ∧ needE pf pk pg a ∧ needE pf pk pg b
  | .tup es => needEs pf pk pg es
  | .lst _ es => needEs pf pk pg es
  | .idx a i => needE pf pk pg a ∧ needE pf pk pg i
  | .slice _ a lo hi => needE pf pk pg a ∧ needO pf pk pg lo ∧ needO pf pk pg hi
  | .call f sp es => pf f sp es.len ∧ needEs pf pk pg es
  | .callK f ks sp es ek => pk f ks sp es.len ∧ needEs pf pk pg es ∧ needE pf pk pg ek
  | .blt _ _ es => needEs pf pk pg es
  | .isi e _ => needE pf pk pg e
  | .meth _ o es => needE pf pk pg o ∧ needEs pf pk pg es
  | .comp _ _ _ it ts elt => needI pf pk pg it ∧ needTs pf pk pg ts ∧ needE pf pk pg elt
def needEs (pf : Str → PSpec → Nat → Prop) (pk : Str → Str → PSpec → Nat → Prop) (pg : Str → PV → Prop) : Es → Prop
  | .nil => True
  | .cons e es => needE pf pk pg e ∧ needEs pf pk pg es
def needO (pf : Str → PSpec → Nat → Prop) (pk : Str → Str → PSpec → Nat → Prop) (pg : Str → PV → Prop) : OE → Prop
  | .no => True
  | .yes e => needE pf pk pg e
def needT (pf : Str → PSpec → Nat → Prop) (pk : Str → Str → PSpec → Nat → Prop) (pg : Str → PV → Prop) : T → Prop
  | .val e => needE pf pk pg e
  | .cmp _ a b => needE pf pk pg a ∧ needE pf pk pg b
  | .chain _ _ a b c => needE pf pk pg a ∧ needE pf pk pg b ∧ needE pf pk pg c
  | .not t => needT pf pk pg t
  | .bools _ ts => needTs pf pk pg ts
  | .ite t a b => needT pf pk pg t ∧ needT pf pk pg a ∧ needT pf pk pg b
def needTs (pf : Str → PSpec → Nat → Prop) (pk : Str → Str → PSpec → Nat → Prop) (pg : Str → PV → Prop) : Ts → Prop
  | .nil => True
  | .cons t ts => needT pf pk pg t ∧ needTs pf pk pg ts
def needI (pf : Str → PSpec → Nat → Prop) (pk : Str → Str → PSpec → Nat → Prop) (pg : Str → PV → Prop) : I → Prop
  | .val e => needE pf pk pg e
  | .range1 a => needE pf pk pg a
  | .range2 a b => needE pf pk pg a ∧ needE pf pk pg b
  | .enum e => needE pf pk pg e
  | .zip a b => needE pf pk pg a ∧ needE pf pk pg b
end
mutual
def needX (px : Nat → Str → Prop) : XE → Prop
  | .is d => px 2 d
  | .neg a => needX px a
  | .not a => needX px a
  | .ands xs => needXs px xs
  | .ite t a b => needXs px t ∧ needX px a ∧ needX px b
  | .tup xs => needXs px xs
  | .same g a b => px 3 g ∧ needX px a ∧ needX px b
  | .fld _ => True
  | .str _ => True
  | .int _ => True
  | .bl _ => True
  | .non => True
  | .var _ => True
def needXs (px : Nat → Str → Prop) : XEs → Prop
  | .nil => True
  | .cons x xs => needX px x ∧ needXs px xs
end
mutual
def needS (pf : Str → PSpec → Nat → Prop) (pk : Str → Str → PSpec → Nat → Prop) (pg : Str → PV → Prop) (px : Nat → Str → Prop) : S → Prop
  | .asg _ e => needE pf pk pg e
  | .asgLc _ e => needE pf pk pg e
  | .setIx o i e => needE pf pk pg o ∧ needE pf pk pg i ∧ needE pf pk pg e
  | .aug _ _ e => needE pf pk pg e
  | .expr e => needE pf pk pg e
  | .ret e => needE pf pk pg e
  | .retN => True
  | .ite t a b => needT pf pk pg t ∧ needSs pf pk pg px a ∧ needSs pf pk pg px b
  | .loop _ it b => needI pf pk pg it ∧ needSs pf pk pg px b
  | .while t b => needT pf pk pg t ∧ needSs pf pk pg px b
  | .pass => True
  | .brk => True
  | .cont => True
  | .never => True
  | .raise c es => px 0 c ∧ needEs pf pk pg es
  | .tryX b c _ h => px 1 c ∧ needX px h ∧ needSs pf pk pg px b
def needSs (pf : Str → PSpec → Nat → Prop) (pk : Str → Str → PSpec → Nat → Prop) (pg : Str → PV → Prop) (px : Nat → Str → Prop) : Ss → Prop
  | .nil => True
  | .cons s ss => needS pf pk pg px s ∧ needSs pf pk pg px ss
end
end TK

set_option maxRecDepth 100000
set_option maxHeartbeats 2000000
namespace TK
open PySem PySem.Spec PyProof.Rows L2

/-! ### wishes over the layer's heap -/
def LQ (K : PySem.W.Frag) (F : FS) (H : Hp) (Q : VK) : PQ := fun z st' => ∀ F' H' y, Ext F H F' H' → RS K H' F' st' → DV K H' F' z y → Q y H'
section
variable {K : PySem.W.Frag} {F F' : FS} {H H' : Hp} {Q : VK} {st : Store}
theorem LQ.ext (x : Ext F H F' H') : ∀ v s, LQ K F H Q v s → LQ K F' H' Q v s := fun v s h F2 H2 y x2 r d => h F2 H2 y (x.trans x2) r d
theorem LQ.now {z : PV} {y : V} (h : LQ K F H Q z st) (r : RS K H F st) (d : DV K H F z y) : Q y H := h F H y .refl r d
theorem newList_ok {m : Bool} {xs : List PV} {ys : List V} (h : newList m xs st (LQ K F H Q)) (r : RS K H F st) (d : DVs K H F xs ys) : ∀ p, H p = none → Q (.ref p) (upd H p (.lst ys)) := by
  intro p hp
  cases m with
  | true => exact h p (r.no hp) F _ _ (.new hp) (r.putNew hp d) (.ref p)
  | false => exact h (fun a => F a ∨ a = p) _ _ (.newF hp) (r.newF hp) (.lst (.inr rfl) upd_same (d.ext (.newF hp)))
theorem newTup_ok {xs : List PV} {ys : List V} (h : LQ K F H Q (.tup xs) st) (r : RS K H F st) (d : DVs K H F xs ys) : ∀ p, H p = none → Q (.ref p) (upd H p (.tup ys)) := by
  intro p hp
  exact h F _ _ (.new hp) (r.new hp) (.tup (.of upd_same) (d.ext (.new hp)))
theorem lstOf_ok {v : PV} {xs : List PV} {x : V} (r : RS K H F st) (e : lstOf st v = some xs) (d : DV K H F v x) : ∃ a ys, x = .ref a ∧ H a = some (.lst ys) ∧ DVs K H F xs ys := by
  cases d with
  | lst f h hs =>
    have e' : xs = _ := (Option.some.inj e).symm
    subst e'
    exact ⟨_, _, rfl, h, hs⟩
  | ref a =>
    have e' : (match st a with | some (.lst xs) => some xs | _ => none) = some xs := e
    cases q : st a with
    | none => rw [q] at e'; cases e'
    | some c =>
      cases c with
      | lst zs =>
        rw [q] at e'; cases e'
        obtain ⟨_, ys, h, hs⟩ := r.lst a _ q
        exact ⟨a, ys, rfl, h, hs⟩
      | pool => rw [q] at e'; cases e'
  | non => cases e
  | bl _ => cases e
  | int _ => cases e
  | str _ => cases e
  | tup _ _ => cases e
  | scr _ => cases e
theorem seqOf_ok {v : PV} {xs : List PV} {x : V} (r : RS K H F st) (e : seqOf st v = some xs) (d : DV K H F v x) : ∃ a ys, x = .ref a ∧ (SqL K H a ys ∨ SqT K H a ys) ∧ DVs K H F xs ys := by
  cases d with
  | tup h hs =>
    have e' : xs = _ := (Option.some.inj e).symm
    subst e'
    exact ⟨_, _, rfl, .inr h, hs⟩
  | lst f h hs =>
    obtain ⟨a, ys, e1, e2, e3⟩ := lstOf_ok r (show lstOf st (.lst _) = some xs from e) (.lst f h hs)
    exact ⟨a, ys, e1, .inl (.of e2), e3⟩
  | ref a =>
    obtain ⟨a, ys, e1, e2, e3⟩ := lstOf_ok r (show lstOf st (.ref a) = some xs from e) (.ref a)
    exact ⟨a, ys, e1, .inl (.of e2), e3⟩
  | non => cases e
  | bl _ => cases e
  | int _ => cases e
  | str _ => cases e
  | scr _ => cases e
end

/-! ### operators -/
section
variable {X : Cx}
theorem op_mulT : OpR X (binaryOp .Mult) (rI IntMulOk fun i j => .int (i * j)) := opI fun _ _ _ _ _ _ _ hc q => mul_int q hc
theorem op_fdivT : OpR X (binaryOp .FloorDiv) (rI (fun _ j => DivOk j) fun i j => .int (i.fdiv j)) := opI fun _ _ _ _ _ _ _ hc q => floordiv_int hc.1 q (.inl (PyProof.noPylong_of_log2 hc.2))
/-- t + u of tuples, any -/
theorem op_catTT : OpR X (binaryOp .Add) (fun x y H Q => ∃ a b xs ys, x = .ref a ∧ y = .ref b ∧ SqT X.K H a xs ∧ SqT X.K H b ys ∧ xs.length + ys.length ≤ sizeLine ∧
    (xs = [] → Q (.ref b) H) ∧ (xs ≠ [] → ys = [] → Q (.ref a) H) ∧ (xs ≠ [] → ys ≠ [] → ∀ p, H p = none → Q (.ref p) (upd H p (.tup (xs ++ ys))))) := by
  intro pins s σ H x y v u Q I rx ry h
  obtain ⟨a, b, xs, ys, rfl, rfl, ha, hb, hz, q0, q1, q2⟩ := h
  by_cases hx : xs = []
  · subst hx
    cases rx
    cases ry
    obtain ⟨its, r1, ⟨⟨c1, d1, t1, s1⟩, o1, k1, n1, e1⟩, _⟩ := I.tuple ha
    obtain ⟨its2, r2, ⟨⟨c2, d2, t2, s2⟩, o2, k2, n2, e2⟩, _⟩ := I.tuple hb
    simp only at k1 e1 k2 e2
    subst k1 e1 k2 e2
    have hn : its.toArray.isEmpty = true := by cases r1; rfl
    exact concat_meets ⟨_, o1, rfl⟩ ⟨_, o2, rfl⟩ noFill_tuple_add seq_tuple_add PySem.F.slot_tuple_add PySem.F.entry_tuple_add (PySem.F.args_tuple_add_2 _ _)
      (tuple_addW0 a b its.toArray its2.toArray n1 n2 d1 d2 s1 s2 hn) ⟨o1, o2, ⟨.ref b, H, I, rfl, q0 rfl⟩⟩
  · exact op_catT pins s σ H _ _ v u Q I rx ry ⟨a, b, xs, ys, rfl, rfl, ha, hb, hx, hz, q1 hx, fun hy => q2 hx hy⟩
theorem rep_size (a : Array Nat) : ∀ (n : Nat) (acc : Array Nat), ((List.replicate n a).foldl (· ++ ·) acc).size = acc.size + n * a.size
  | 0, acc => by simp
  | n + 1, acc => by
    rw [List.replicate_succ, List.foldl_cons, rep_size a n, Array.size_append, Nat.add_mul]
    omega
theorem repS_len (n : Nat) (x : Str) : (repS n x).length = n * x.length := by
  show ((List.replicate n x.cps).foldl (· ++ ·) #[]).size = _
  rw [rep_size]
  show 0 + n * x.cps.size = n * x.cps.size
  omega
theorem op_mulS : OpR X (binaryOp .Mult) (fun x y H Q => ∃ z k, x = .str z ∧ y = .int k ∧ (0 < z.length ∧ z.length ≤ 1000 ∧ 2 ≤ k ∧ k ≤ 1000) ∧ Q (.str (repS k.toNat z)) H) := by
  intro pins s σ H x y v u Q I rx ry h
  obtain ⟨z, k, rfl, rfl, ⟨z0, z1, k0, k1⟩, q⟩ := h
  obtain ⟨t, rfl⟩ := rx
  obtain ⟨t', rfl⟩ := ry
  have sz : 1000000 ≤ sizeLine := by decide
  have hm : z.length * k.toNat ≤ 1000000 := Nat.mul_le_mul z1 (show k.toNat ≤ 1000 by omega)
  refine PySem.P.mul_str (by rw [decide_eq_false (by omega), decide_eq_false (by omega)]; rfl) (fun _ _ => ?_) (fun _ _ => ?_) ?_
  · have : (1000 : Int) ≤ (2 ^ 63 - 1) / k := Int.le_ediv_of_mul_le (by omega) (by omega)
    omega
  · unfold Builtin.Str.tooLong
    exact decide_eq_false (by omega)
  · rw [if_neg (by omega), if_neg (by
      rw [Bool.or_eq_true, beq_iff_eq, beq_iff_eq]
      omega)]
    refine ⟨?_, .str _, H, I.tok _, ⟨_, rfl⟩, q⟩
    show (repS k.toNat z).length ≤ sizeLine
    rw [repS_len, Nat.mul_comm]
    omega
abbrev rB (K : PySem.W.Frag) (f : PV → PV → Store → PQ → Prop) : R2 := fun x y H Q => ∃ F st v w, RS K H F st ∧ DV K H F v x ∧ DV K H F w y ∧ f v w st (LQ K F H Q)
theorem bin_ok {o : Operator} {m : Bool} : OpR X (binaryOp o) (rB X.K (binV o m)) := by
  intro pins s σ H x y vv uu Q I rx ry ⟨F, st, v, w, rs, dv, dw, h⟩
  unfold binV at h
  split at h
  · cases dv; cases dw
    exact op_add pins s σ H _ _ _ _ Q I rx ry ⟨_, _, rfl, rfl, h.now rs (.int _)⟩
  · cases dv; cases dw
    exact op_add_str pins s σ H _ _ _ _ Q I rx ry ⟨_, _, rfl, rfl, h.1, h.2.now rs (.str _)⟩
  · cases dv with
    | tup h1 hs1 =>
      cases dw with
      | tup h2 hs2 =>
        refine op_catTT pins s σ H _ _ _ _ Q I rx ry ⟨_, _, _, _, rfl, rfl, h1, h2, by rw [← hs1.length, ← hs2.length]; exact h.1, fun e => ?_, fun _ e => ?_, fun _ _ => newTup_ok h.2 rs (hs1.append hs2)⟩
        · subst e
          cases hs1
          exact h.2.now rs (.tup h2 hs2)
        · subst e
          cases hs2
          exact h.2.now rs (by rw [List.append_nil]; exact .tup h1 hs1)
  · cases dv with
    | lst f1 h1 hs1 =>
      cases dw with
      | lst f2 h2 hs2 => exact op_cat pins s σ H _ _ _ _ Q I rx ry ⟨_, _, _, _, rfl, rfl, h1, h2, by rw [← hs1.length, ← hs2.length]; exact h.1, newList_ok h.2 rs (hs1.append hs2)⟩
  · obtain ⟨xs, e, hz, h⟩ := h
    cases dv
    obtain ⟨_, zs, h1, hs1⟩ := rs.lst _ _ e
    cases dw with
    | lst f2 h2 hs2 => exact op_cat pins s σ H _ _ _ _ Q I rx ry ⟨_, _, _, _, rfl, rfl, h1, h2, by rw [← hs1.length, ← hs2.length]; exact hz, newList_ok h rs (hs1.append hs2)⟩
  · obtain ⟨ys, e, hz, h⟩ := h
    cases dw
    obtain ⟨_, zs, h2, hs2⟩ := rs.lst _ _ e
    cases dv with
    | lst f1 h1 hs1 => exact op_cat pins s σ H _ _ _ _ Q I rx ry ⟨_, _, _, _, rfl, rfl, h1, h2, by rw [← hs1.length, ← hs2.length]; exact hz, newList_ok h rs (hs1.append hs2)⟩
  · obtain ⟨xs, ys, e, e', hz, h⟩ := h
    cases dv
    cases dw
    obtain ⟨_, zs, h1, hs1⟩ := rs.lst _ _ e
    obtain ⟨_, zs', h2, hs2⟩ := rs.lst _ _ e'
    exact op_cat pins s σ H _ _ _ _ Q I rx ry ⟨_, _, _, _, rfl, rfl, h1, h2, by rw [← hs1.length, ← hs2.length]; exact hz, newList_ok h rs (hs1.append hs2)⟩
  · cases dv; cases dw
    exact op_sub pins s σ H _ _ _ _ Q I rx ry ⟨_, _, rfl, rfl, h.now rs (.int _)⟩
  · cases dv; cases dw
    exact op_mulT pins s σ H _ _ _ _ Q I rx ry ⟨_, _, rfl, rfl, h.1, h.2.now rs (.int _)⟩
  · obtain ⟨h1, h2, h3, h4⟩ := h
    cases dw
    cases dv with
    | lst f1 g1 hs1 => exact op_rep pins s σ H _ _ _ _ Q I rx ry ⟨_, _, _, rfl, rfl, g1, h1, h2, by rw [← hs1.length]; exact h3, newList_ok h4 rs (hs1.flat _)⟩
  · obtain ⟨⟨h1, h2, h3, h4⟩, h⟩ := h
    cases dw
    cases dv with
    | tup g1 hs1 =>
      exact op_repT pins s σ H _ _ _ _ Q I rx ry ⟨_, _, _, rfl, rfl, g1, fun z => h1 (by subst z; cases hs1; rfl), h2, h3, by rw [← hs1.length]; exact h4, newTup_ok h rs (hs1.flat _)⟩
  · obtain ⟨hc, h⟩ := h
    cases dv; cases dw
    exact op_mulS pins s σ H _ _ _ _ Q I rx ry ⟨_, _, rfl, rfl, hc, h.now rs (.str _)⟩
  · cases dv; cases dw
    exact op_fdivT pins s σ H _ _ _ _ Q I rx ry ⟨_, _, rfl, rfl, h.1, h.2.now rs (.int _)⟩
  · cases dv; cases dw
    exact op_modN pins s σ H _ _ _ _ Q I rx ry ⟨_, _, rfl, rfl, h.1, h.2.now rs (.int _)⟩
  · cases dv; cases dw
    exact op_pow pins s σ H _ _ _ _ Q I rx ry ⟨_, _, rfl, rfl, h.1, h.2.now rs (.int _)⟩
  · cases dv; cases dw
    exact op_and pins s σ H _ _ _ _ Q I rx ry ⟨_, _, rfl, rfl, h.now rs (.int _)⟩
  · cases dv; cases dw
    exact op_or pins s σ H _ _ _ _ Q I rx ry ⟨_, _, rfl, rfl, h.now rs (.int _)⟩
  · exact h.elim

/-! ### comparisons -/
mutual
theorem toD_dp {K : PySem.W.Frag} {H : Hp} {F : FS} : ∀ {n : Nat} {v : PV} {x : V}, flat n v = true → DV K H F v x → Dp K H x (toD v)
  | _, .non, _, _, .non => .non
  | _, .bl _, _, _, .bl b => .bl b
  | _, .int _, _, _, .int b => .int b
  | _, .str _, _, _, .str b => .str b
  | n, .tup xs, _, h, .tup h1 hs => .tup h1 (toD_dps (by have h' : (n != 0 && flats (n - 1) xs) = true := h; exact (Bool.and_eq_true_iff.mp h').2) hs)
  | n, .lst xs, _, h, .lst f h1 hs => .lst (.of h1) (toD_dps (by have h' : (n != 0 && flats (n - 1) xs) = true := h; exact (Bool.and_eq_true_iff.mp h').2) hs)
theorem toD_dps {K : PySem.W.Frag} {H : Hp} {F : FS} : ∀ {n : Nat} {v : List PV} {x : List V}, flats n v = true → DVs K H F v x → DpAll K H x (toDs v)
  | _, [], _, _, .nil => .nil
  | n, x :: r, _, h, .cons d ds => by
    have h' : (flat n x && flats n r) = true := h
    exact .cons (toD_dp (Bool.and_eq_true_iff.mp h').1 d) (toD_dps (Bool.and_eq_true_iff.mp h').2 ds)
end
mutual
theorem toD_lay : ∀ {n : Nat} {v : PV}, flat n v = true → (toD v).canLay0 = true ∧ (toD v).depth ≤ n
  | _, .non, _ => ⟨by simp [toD, PyData.canLay0], by simp [toD, PyData.depth]⟩
  | _, .bl _, _ => ⟨by simp [toD, PyData.canLay0], by simp [toD, PyData.depth]⟩
  | _, .int _, _ => ⟨by simp [toD, PyData.canLay0], by simp [toD, PyData.depth]⟩
  | _, .str x, h => ⟨by have h' : PyData.strOk x = true := h; simpa [toD, PyData.canLay0] using h', by simp [toD, PyData.depth]⟩
  | n, .tup xs, h => by
    have h' : (n != 0 && flats (n - 1) xs) = true := h
    obtain ⟨h1, h2⟩ := Bool.and_eq_true_iff.mp h'
    obtain ⟨a, b⟩ := toD_lays h2
    have h3 : n ≠ 0 := by simpa using h1
    exact ⟨by simpa [toD, PyData.canLay0] using a, by simp only [toD, PyData.depth]; omega⟩
  | n, .lst xs, h => by
    have h' : (n != 0 && flats (n - 1) xs) = true := h
    obtain ⟨h1, h2⟩ := Bool.and_eq_true_iff.mp h'
    obtain ⟨a, b⟩ := toD_lays h2
    have h3 : n ≠ 0 := by simpa using h1
    exact ⟨by simpa [toD, PyData.canLay0] using a, by simp only [toD, PyData.depth]; omega⟩
  | _, .ref _, h => nomatch h
  | _, .scr _, h => nomatch h
theorem toD_lays : ∀ {n : Nat} {v : List PV}, flats n v = true → PyData.canLayAll0 (toDs v) = true ∧ PyData.depthAll (toDs v) ≤ n
  | _, [], _ => ⟨by simp [toDs, PyData.canLayAll0], by simp [toDs, PyData.depthAll]⟩
  | n, x :: r, h => by
    have h' : (flat n x && flats n r) = true := h
    obtain ⟨h1, h2⟩ := Bool.and_eq_true_iff.mp h'
    obtain ⟨a, b⟩ := toD_lay h1
    obtain ⟨c, d⟩ := toD_lays h2
    exact ⟨by simp [toDs, PyData.canLayAll0, a, c], by simp only [toDs, PyData.depthAll]; omega⟩
end
theorem toD_shaped {v : PV} (h : flat 60 v = true) : SeqAt.shaped (toD v) = true := by
  obtain ⟨a, b⟩ := toD_lay h
  unfold SeqAt.shaped
  rw [a, Bool.true_and]
  exact decide_eq_true (by omega)
theorem beq_dec {i j : Int} : (i == j) = decide (i = j) := by
  by_cases e : i = j <;> simp [e]
mutual
theorem toD_eqv : ∀ {n m : Nat} {v w : PV}, flat n v = true → flat m w = true → PyData.eqv (toD v) (toD w) = eqv v w
  | _, _, .non, w, _, hw => by cases w <;> first | (simp [toD, PyData.eqv, eqv]; done) | cases hw
  | _, _, .bl _, w, _, hw => by cases w <;> first | (simp [toD, PyData.eqv, eqv]; done) | cases hw
  | _, _, .int _, w, _, hw => by cases w <;> first | (simp [toD, PyData.eqv, eqv, beq_dec]; done) | cases hw
  | _, _, .str a, w, _, hw => by
    cases w with
    | str b => simp only [toD, PyData.eqv, eqv]; by_cases e : a = b <;> simp [e]
    | ref _ => cases hw
    | scr _ => cases hw
    | _ => simp [toD, PyData.eqv, eqv]
  | n, m, .tup xs, w, h, hw => by
    have h' : (n != 0 && flats (n - 1) xs) = true := h
    cases w with
    | tup ys =>
      have hw' : (m != 0 && flats (m - 1) ys) = true := hw
      simp only [toD, PyData.eqv, eqv]
      exact toD_eqvs (Bool.and_eq_true_iff.mp h').2 (Bool.and_eq_true_iff.mp hw').2
    | ref _ => cases hw
    | scr _ => cases hw
    | _ => simp [toD, PyData.eqv, eqv]
  | n, m, .lst xs, w, h, hw => by
    have h' : (n != 0 && flats (n - 1) xs) = true := h
    cases w with
    | lst ys =>
      have hw' : (m != 0 && flats (m - 1) ys) = true := hw
      simp only [toD, PyData.eqv, eqv]
      exact toD_eqvs (Bool.and_eq_true_iff.mp h').2 (Bool.and_eq_true_iff.mp hw').2
    | ref _ => cases hw
    | scr _ => cases hw
    | _ => simp [toD, PyData.eqv, eqv]
  | _, _, .ref _, _, h, _ => nomatch h
  | _, _, .scr _, _, h, _ => nomatch h
theorem toD_eqvs : ∀ {n m : Nat} {v w : List PV}, flats n v = true → flats m w = true → PyData.eqvAll (toDs v) (toDs w) = eqvs v w
  | _, _, [], w, _, _ => by cases w <;> simp [toDs, PyData.eqvAll, eqvs]
  | n, m, x :: r, w, h, hw => by
    have h' : (flat n x && flats n r) = true := h
    cases w with
    | nil => simp [toDs, PyData.eqvAll, eqvs]
    | cons y s =>
      have hw' : (flat m y && flats m s) = true := hw
      simp only [toDs, PyData.eqvAll, eqvs]
      rw [toD_eqv (Bool.and_eq_true_iff.mp h').1 (Bool.and_eq_true_iff.mp hw').1, toD_eqvs (Bool.and_eq_true_iff.mp h').2 (Bool.and_eq_true_iff.mp hw').2]
end
theorem res_ok {K : PySem.W.Frag} {H : Hp} {F : FS} {st : Store} {v : PV} {x : V} {n : Nat} (r : RS K H F st) (d : DV K H F v x) (h : flat n (res st v) = true) : Dp K H x (toD (res st v)) := by
  cases v with
  | ref a =>
    cases q : st a with
    | none =>
      have e : res st (.ref a) = .ref a := by simp only [res, q]
      rw [e] at h; cases h
    | some c =>
      cases c with
      | pool =>
        have e : res st (.ref a) = .ref a := by simp only [res, q]
        rw [e] at h; cases h
      | lst xs =>
        have e : res st (.ref a) = .lst xs := by simp only [res, q]
        rw [e] at h ⊢
        obtain ⟨_, ys, h1, hs⟩ := r.lst a xs q
        cases d
        have h' : (n != 0 && flats (n - 1) xs) = true := h
        exact .lst (.of h1) (toD_dps (Bool.and_eq_true_iff.mp h').2 hs)
  | non => exact toD_dp h d
  | bl _ => exact toD_dp h d
  | int _ => exact toD_dp h d
  | str _ => exact toD_dp h d
  | tup _ => exact toD_dp h d
  | lst _ => exact toD_dp h d
  | scr _ => cases h
theorem scP_ok {K : PySem.W.Frag} {H : Hp} {F : FS} {st : Store} {v w : PV} {x y : V} (h : scP v w = true) (dv : DV K H F v x) (dw : DV K H F w y) : scal x y = true ∧ decide (x = y) = eqv (res st v) (res st w) := by
  cases dv <;> cases dw <;> first
    | (refine ⟨rfl, ?_⟩; simp [res, eqv]; done)
    | (refine ⟨rfl, ?_⟩; simp only [res, eqv]; rename_i a b; cases a <;> cases b <;> rfl)
    | cases h
theorem sc_flat {v : PV} (h : isSc v = true) {K : PySem.W.Frag} {H : Hp} {F : FS} {x : V} (d : DV K H F v x) : flatV x = true := by
  cases d <;> first | rfl | cases h
theorem sc_flats : ∀ {vs : List PV} {xs : List V}, vs.all isSc = true → ∀ {K : PySem.W.Frag} {H : Hp} {F : FS}, DVs K H F vs xs → xs.all flatV = true
  | [], _, _, _, _, _, .nil => rfl
  | v :: r, _, h, _, _, _, .cons d ds => by
    rw [List.all_cons, Bool.and_eq_true] at h ⊢
    exact ⟨sc_flat h.1 d, sc_flats h.2 ds⟩
theorem sc_eqV {v w : PV} (hv : isSc v = true) (hw : isSc w = true) {K : PySem.W.Frag} {H : Hp} {F : FS} {x y : V} (d : DV K H F v x) (d' : DV K H F w y) : eqV x y = eqv v w := by
  cases d <;> cases d' <;> first
    | exact absurd hv Bool.false_ne_true
    | exact absurd hw Bool.false_ne_true
    | (simp [eqV, eqv, beq_dec]; done)
    | (simp only [eqV, eqv]; rename_i a b; cases a <;> rfl)
    | (simp only [eqV, eqv]; rename_i a b; cases b <;> rfl)
    | (simp only [eqV, eqv]; rename_i a b; by_cases e : a = b <;> simp [e])
theorem sc_any {w : PV} (hw : isSc w = true) {K : PySem.W.Frag} {H : Hp} {F : FS} {y : V} (d' : DV K H F w y) : ∀ {vs : List PV} {xs : List V}, vs.all isSc = true → DVs K H F vs xs → inV y xs = vs.any fun z => eqv z w
  | [], _, _, .nil => rfl
  | v :: r, _, h, .cons d ds => by
    rw [List.all_cons, Bool.and_eq_true] at h
    have ih := sc_any hw d' h.2 ds
    unfold inV at ih ⊢
    rw [List.any_cons, List.any_cons, ih, sc_eqV h.1 hw d d']
theorem isNon_ok {K : PySem.W.Frag} {H : Hp} {F : FS} {v : PV} {x : V} (d : DV K H F v x) : decide (x = .non) = isNon v := by
  cases d <;> simp [isNon]
theorem toD_any {n m : Nat} {v : PV} (hv : flat n v = true) : ∀ {xs : List PV}, flats m xs = true → ((toDs xs).any fun z => PyData.eqv z (toD v)) = xs.any fun y => eqv y v
  | [], _ => by simp [toDs]
  | x :: r, h => by
    have h' : (flat m x && flats m r) = true := h
    obtain ⟨h1, h2⟩ := Bool.and_eq_true_iff.mp h'
    have ih := toD_any hv h2
    simp only [toDs, List.any_cons]
    rw [ih, toD_eqv h1 hv]
def rInT (K : PySem.W.Frag) (neg : Bool) : R2 := fun x y H Q => ∃ d ds, Dp K H x d ∧ (Dp K H y (.list ds) ∨ Dp K H y (.tuple ds)) ∧ d.canLay0 = true ∧ PyData.canLayAll0 ds = true ∧ d.depth ≤ 30 ∧ Q (.bl (if neg = true then !(ds.any fun z => PyData.eqv z d) else ds.any fun z => PyData.eqv z d)) H
theorem op_inT (hu : X.A.units + 64 < cLine) : OpR X (compareOp .In) (rInT X.K false) := by
  intro pins s σ H x y v u Q I rx ry h
  obtain ⟨d, ds, hd, he, sd, se, hdep, q⟩ := h
  obtain ⟨as, r1⟩ := Dp.reads I d x v hd rx
  rcases he with he | he
  · obtain ⟨bs, r2⟩ := Dp.reads I _ y u he ry
    exact SeqAt.in_list_reads r2 r1 se sd (by omega) ⟨.bl _, H, I, rfl, q⟩
  · obtain ⟨bs, r2⟩ := Dp.reads I _ y u he ry
    exact SeqAt.in_tuple_reads r2 r1 se sd (by omega) ⟨.bl _, H, I, rfl, q⟩
theorem op_notInT (hu : X.A.units + 64 < cLine) : OpR X (compareOp .NotIn) (rInT X.K true) := by
  intro pins s σ H x y v u Q I rx ry h
  obtain ⟨d, ds, hd, he, sd, se, hdep, q⟩ := h
  obtain ⟨as, r1⟩ := Dp.reads I d x v hd rx
  rcases he with he | he
  · obtain ⟨bs, r2⟩ := Dp.reads I _ y u he ry
    exact SeqAt.notIn_list_reads r2 r1 se sd (by omega) ⟨.bl _, H, I, rfl, q⟩
  · obtain ⟨bs, r2⟩ := Dp.reads I _ y u he ry
    exact SeqAt.notIn_tuple_reads r2 r1 se sd (by omega) ⟨.bl _, H, I, rfl, q⟩
theorem inT_of {K : PySem.W.Frag} {H : Hp} {F : FS} {st : Store} {v w : PV} {x y : V} {xs : List PV} (rs : RS K H F st) (dv : DV K H F v x) (dw : DV K H F w y) (q : seqOf st w = some xs) (f1 : flat 30 v = true) (f2 : flat 60 (res st w) = true) :
    Dp K H x (toD v) ∧ (Dp K H y (.list (toDs xs)) ∨ Dp K H y (.tuple (toDs xs))) ∧ (toD v).canLay0 = true ∧ PyData.canLayAll0 (toDs xs) = true ∧ (toD v).depth ≤ 30 ∧ ((toDs xs).any fun z => PyData.eqv z (toD v)) = xs.any fun y => eqv y v := by
  obtain ⟨l1, l2⟩ := toD_lay f1
  have key : ∀ zs : List PV, (res st w = .tup zs ∨ res st w = .lst zs) → zs = xs → (Dp K H y (.list (toDs xs)) ∨ Dp K H y (.tuple (toDs xs))) ∧ PyData.canLayAll0 (toDs xs) = true ∧ ((toDs xs).any fun z => PyData.eqv z (toD v)) = xs.any fun y => eqv y v := by
    intro zs hz e
    subst e
    have dr := res_ok rs dw f2
    rcases hz with hz | hz
    · rw [hz] at dr f2
      have h' : (60 != 0 && flats (60 - 1) zs) = true := f2
      have h2 := (Bool.and_eq_true_iff.mp h').2
      exact ⟨.inr dr, (toD_lays h2).1, toD_any f1 h2⟩
    · rw [hz] at dr f2
      have h' : (60 != 0 && flats (60 - 1) zs) = true := f2
      have h2 := (Bool.and_eq_true_iff.mp h').2
      exact ⟨.inl dr, (toD_lays h2).1, toD_any f1 h2⟩
  have hk : ∃ zs : List PV, (res st w = .tup zs ∨ res st w = .lst zs) ∧ zs = xs := by
    cases w with
    | tup zs => exact ⟨zs, .inl rfl, Option.some.inj q⟩
    | lst zs => exact ⟨zs, .inr rfl, Option.some.inj q⟩
    | ref a =>
      cases e : st a with
      | none =>
        have q' : (match st a with | some (.lst xs) => some xs | _ => none) = some xs := q
        rw [e] at q'; cases q'
      | some c =>
        have q' : (match st a with | some (.lst xs) => some xs | _ => none) = some xs := q
        rw [e] at q'
        cases c with
        | pool => cases q'
        | lst zs => exact ⟨zs, .inr (by simp only [res, e]), Option.some.inj q'⟩
    | _ => cases q
  obtain ⟨zs, hz, e⟩ := hk
  obtain ⟨a, b, c⟩ := key zs hz e
  exact ⟨toD_dp f1 dv, a, l1, b, l2, c⟩
theorem cmp_ok {o : CmpOp} (hu : X.A.units + 64 < cLine) : OpR X (compareOp o) (rB X.K (cmpV o)) := by
  intro pins s σ H x y vv uu Q I rx ry ⟨F, st, v, w, rs, dv, dw, h⟩
  unfold cmpV at h
  cases o with
  | Eq =>
    obtain ⟨ok, h⟩ := h
    rcases ok with ok | ⟨f1, f2⟩
    · obtain ⟨e1, e2⟩ := scP_ok (st := st) ok dv dw
      exact op_eq pins s σ H _ _ _ _ Q I rx ry ⟨e1, by rw [e2]; exact h.now rs (.bl _)⟩
    · exact op_eqD hu pins s σ H _ _ _ _ Q I rx ry ⟨_, _, res_ok rs dv f1, res_ok rs dw f2, toD_shaped f1, toD_shaped f2, by rw [toD_eqv f1 f2]; exact h.now rs (.bl _)⟩
  | NotEq =>
    obtain ⟨ok, h⟩ := h
    rcases ok with ok | ⟨f1, f2⟩
    · obtain ⟨e1, e2⟩ := scP_ok (st := st) ok dv dw
      exact op_ne pins s σ H _ _ _ _ Q I rx ry ⟨e1, by rw [e2]; exact h.now rs (.bl _)⟩
    · exact op_neD hu pins s σ H _ _ _ _ Q I rx ry ⟨_, _, res_ok rs dv f1, res_ok rs dw f2, toD_shaped f1, toD_shaped f2, by rw [toD_eqv f1 f2]; exact h.now rs (.bl _)⟩
  | Lt =>
    dsimp only at h
    split at h
    · cases dv; cases dw; exact op_lt pins s σ H _ _ _ _ Q I rx ry ⟨_, _, rfl, rfl, h.now rs (.bl _)⟩
    · exact h.elim
  | LtE =>
    dsimp only at h
    split at h
    · cases dv; cases dw; exact op_le pins s σ H _ _ _ _ Q I rx ry ⟨_, _, rfl, rfl, h.now rs (.bl _)⟩
    · exact h.elim
  | Gt =>
    dsimp only at h
    split at h
    · cases dv; cases dw; exact op_gt pins s σ H _ _ _ _ Q I rx ry ⟨_, _, rfl, rfl, h.now rs (.bl _)⟩
    · exact h.elim
  | GtE =>
    dsimp only at h
    split at h
    · cases dv; cases dw; exact op_ge pins s σ H _ _ _ _ Q I rx ry ⟨_, _, rfl, rfl, h.now rs (.bl _)⟩
    · exact h.elim
  | Is =>
    dsimp only at h
    split at h
    · cases dw; exact op_isN pins s σ H _ _ _ _ Q I rx ry ⟨rfl, by rw [isNon_ok dv]; exact h.now rs (.bl _)⟩
    · unfold onBl at h
      split at h
      · cases dv; cases dw
        exact op_is_bl pins s σ H _ _ _ _ Q I rx ry ⟨_, _, rfl, rfl, h.now rs (.bl _)⟩
      · exact h.elim
    · exact h.elim
  | IsNot =>
    dsimp only at h
    split at h
    · cases dw; exact op_notN pins s σ H _ _ _ _ Q I rx ry ⟨rfl, by rw [isNon_ok dv]; exact h.now rs (.bl _)⟩
    · unfold onBl at h
      split at h
      · cases dv; cases dw
        exact op_isnot_bl pins s σ H _ _ _ _ Q I rx ry ⟨_, _, rfl, rfl, h.now rs (.bl _)⟩
      · exact h.elim
    · exact h.elim
  | In =>
    dsimp only at h
    split at h
    · unfold onStr at h
      split at h
      · cases dv; cases dw
        exact op_in_str pins s σ H _ _ _ _ Q I rx ry ⟨_, _, rfl, rfl, h.now rs (.bl _)⟩
      · exact h.elim
    cases q : seqOf st w with
    | none => rw [q] at h; exact h.elim
    | some xs =>
      rw [q] at h
      obtain ⟨hok, h⟩ := h
      rcases hok with ⟨h1, h2⟩ | ⟨f1, f2⟩
      · obtain ⟨a, ys, rfl, hs, ds⟩ := seqOf_ok rs q dw
        exact op_in_seq pins s σ H _ _ _ _ Q I rx ry ⟨a, ys, rfl, hs, sc_flat h1 dv, sc_flats h2 ds, by rw [if_neg Bool.false_ne_true, sc_any h1 dv h2 ds]; exact h.now rs (.bl _)⟩
      · obtain ⟨k1, k2, k3, k4, k5, k6⟩ := inT_of rs dv dw q f1 f2
        exact op_inT hu pins s σ H _ _ _ _ Q I rx ry ⟨_, _, k1, k2, k3, k4, k5, by rw [if_neg Bool.false_ne_true, k6]; exact h.now rs (.bl _)⟩
  | NotIn =>
    dsimp only at h
    split at h
    · unfold onStr at h
      split at h
      · cases dv; cases dw
        exact op_notIn_str pins s σ H _ _ _ _ Q I rx ry ⟨_, _, rfl, rfl, h.now rs (.bl _)⟩
      · exact h.elim
    cases q : seqOf st w with
    | none => rw [q] at h; exact h.elim
    | some xs =>
      rw [q] at h
      obtain ⟨hok, h⟩ := h
      rcases hok with ⟨h1, h2⟩ | ⟨f1, f2⟩
      · obtain ⟨a, ys, rfl, hs, ds⟩ := seqOf_ok rs q dw
        exact op_notIn_seq pins s σ H _ _ _ _ Q I rx ry ⟨a, ys, rfl, hs, sc_flat h1 dv, sc_flats h2 ds, by rw [if_pos rfl, sc_any h1 dv h2 ds]; exact h.now rs (.bl _)⟩
      · obtain ⟨k1, k2, k3, k4, k5, k6⟩ := inT_of rs dv dw q f1 f2
        exact op_notInT hu pins s σ H _ _ _ _ Q I rx ry ⟨_, _, k1, k2, k3, k4, k5, by rw [if_pos rfl, k6]; exact h.now rs (.bl _)⟩
end
end TK
namespace PySem.AutoSeq1
theorem tk_ext_tup (l : Addr) (items : Array Value) (n : Nat) (b : Addr) (items2 : Array Value) (n2 : Nat) (dd : Option Addr) (sl : Array (Option Value)) (hs0 : ¬(!items.isEmpty && Builtin.List.listTooLong (items.size + items2.size)) = true) (hs1 : items.size ≤ sizeLine) (hs2 : items.size + items2.size ≤ sizeLine + 1) :
    Meets (Builtin.«list.extend» ⟨[.ref l, .ref b], []⟩) (fun _ R s => s.heap.get? l = some { cls := .type "list", dict := none, data := .seq items n, slots := #[] } ∧ s.heap.get? b = some { cls := .type "tuple", dict := dd, data := .seq items2 n2, slots := sl } ∧ R (.ok (.ret Value.none)) { s with heap := s.heap.update l (Obj.mapSeq fun x => x ++ items2), toks := s.toks }) :=
  .of_wp fun prog w A R s h => by
    obtain ⟨hp, g, d, tk, os⟩ := s; obtain ⟨hl, hb, h⟩ := h; have f1 := idx_int; have f2 := sub_tuple_tuple; have f3 := sub_list_list; have f4 := sub_tuple_list; have f5 := sub_list_tuple;
    have hz' : (items ++ items2).size ≤ sizeLine + 1 := by rw [Array.size_append]; exact hs2
    wp_walk using (wpAny_updateSeq hl rfl (hz := hs1) (_hz' := hz')), wpAny_loadPart' hl, wpAny_loadPart' hb; exact ⟨_, rfl, h⟩
end PySem.AutoSeq1
namespace TK
open PySem PySem.Spec PyProof.Rows L2
section
variable {X : Cx}
def rExtT (K : PySem.W.Frag) : V → List V → Hp → VK → Prop := fun x vs H Q => ∃ l b xs zs, x = .ref l ∧ vs = [.ref b] ∧ H l = some (.lst xs) ∧ SqT K H b zs ∧ xs.length + zs.length ≤ sizeLine ∧ Q .non (upd H l (.lst (xs ++ zs)))
theorem mt_extT : MtM X "list.extend" (rExtT X.K) := by
  intro pins s σ H x vs v us Q I rx rv h
  obtain ⟨l, b, xs, zs, rfl, rfl, hH, hB, hz, q⟩ := h
  cases rx
  obtain ⟨u, rfl, ru⟩ := rv.one
  cases ru
  obtain ⟨z, its, n, r, hl, e⟩ := I.lstM hH
  obtain ⟨its2, r2, ⟨⟨cls, dd, data, sl⟩, e2, hc, n2, hd⟩, hl2⟩ := I.tuple hB
  simp only at hc hd
  subst hc hd
  have hr1 := r.length
  have hr2 := r2.length
  have hsz : its.toArray.size + its2.toArray.size ≤ sizeLine := by rw [List.size_toArray, List.size_toArray]; omega
  have hlong : ¬ (!its.toArray.isEmpty && Builtin.List.listTooLong (its.toArray.size + its2.toArray.size)) = true := by
    rw [notLongL hsz, Bool.and_false]
    exact Bool.false_ne_true
  refine call_meets F.slot_list_extend ⟨_, e, rfl⟩ F.entry_list_extend (F.args_list_extend_2 _ _)
    (AutoSeq1.tk_ext_tup l its.toArray n b its2.toArray n2 dd sl hlong (by rw [List.size_toArray]; omega) (by omega)) ⟨e, e2, ?_⟩
  refine ⟨.non, _, I.lset (its' := its ++ its2) hH e (by simp) (r.append r2) ?_, rfl, q⟩
  rw [List.length_append]
  omega
end
end TK

set_option maxRecDepth 100000
set_option maxHeartbeats 2000000
namespace TK
open PySem PySem.Spec PyProof.Rows L2
/-! ### built-in functions -/
theorem bls_ok {K : PySem.W.Frag} {H : Hp} {F : FS} : ∀ {xs : List PV} {bs : List Bool} {ys : List V}, blsOf xs = some bs → DVs K H F xs ys → ys = bs.map V.bl
  | [], bs, _, e, .nil => by cases (Option.some.inj e); rfl
  | .bl b :: r, bs, _, e, .cons d ds => by
    have e' : (blsOf r).map (b :: ·) = some bs := e
    cases q : blsOf r with
    | none => rw [q] at e'; cases e'
    | some cs =>
      rw [q] at e'; cases e'
      cases d
      rw [bls_ok q ds]
      rfl
  | .non :: _, _, _, e, _ => nomatch e
  | .int _ :: _, _, _, e, _ => nomatch e
  | .str _ :: _, _, _, e, _ => nomatch e
  | .tup _ :: _, _, _, e, _ => nomatch e
  | .lst _ :: _, _, _, e, _ => nomatch e
  | .ref _ :: _, _, _, e, _ => nomatch e
  | .scr _ :: _, _, _, e, _ => nomatch e
theorem ints_ok {K : PySem.W.Frag} {H : Hp} {F : FS} : ∀ {xs : List PV} {bs : List Int} {ys : List V}, intsOf xs = some bs → DVs K H F xs ys → ys = bs.map V.int
  | [], bs, _, e, .nil => by cases (Option.some.inj e); rfl
  | .int b :: r, bs, _, e, .cons d ds => by
    have e' : (intsOf r).map (b :: ·) = some bs := e
    cases q : intsOf r with
    | none => rw [q] at e'; cases e'
    | some cs =>
      rw [q] at e'; cases e'
      cases d
      rw [ints_ok q ds]
      rfl
  | .non :: _, _, _, e, _ => nomatch e
  | .bl _ :: _, _, _, e, _ => nomatch e
  | .str _ :: _, _, _, e, _ => nomatch e
  | .tup _ :: _, _, _, e, _ => nomatch e
  | .lst _ :: _, _, _, e, _ => nomatch e
  | .ref _ :: _, _, _, e, _ => nomatch e
  | .scr _ :: _, _, _, e, _ => nomatch e
theorem max_fold : ∀ (r : List Int) (x : Int), (r.foldl (fun m y => if y > m then y else m) x ∈ x :: r) ∧ ∀ y ∈ x :: r, y ≤ r.foldl (fun m y => if y > m then y else m) x
  | [], x => ⟨List.mem_singleton.mpr rfl, fun y hy => by rw [List.mem_singleton.mp hy]; exact Int.le_refl _⟩
  | z :: r, x => by
    obtain ⟨a, b⟩ := max_fold r (if z > x then z else x)
    rw [List.foldl_cons]
    have hm : (if z > x then z else x) = z ∨ (if z > x then z else x) = x := by split <;> simp
    have h1 : z ≤ (if z > x then z else x) := by split <;> omega
    have h2 : x ≤ (if z > x then z else x) := by split <;> omega
    have h0 := b _ List.mem_cons_self
    refine ⟨?_, fun y hy => ?_⟩
    · rcases List.mem_cons.mp a with e | e
      · rcases hm with h | h <;> rw [e, h] <;> simp
      · exact List.mem_cons_of_mem _ (List.mem_cons_of_mem _ e)
    · rcases List.mem_cons.mp hy with rfl | hy
      · exact Int.le_trans h2 h0
      · rcases List.mem_cons.mp hy with rfl | hy
        · exact Int.le_trans h1 h0
        · exact b y (List.mem_cons_of_mem _ hy)
theorem min_fold : ∀ (r : List Int) (x : Int), (r.foldl (fun m y => if y < m then y else m) x ∈ x :: r) ∧ ∀ y ∈ x :: r, r.foldl (fun m y => if y < m then y else m) x ≤ y
  | [], x => ⟨List.mem_singleton.mpr rfl, fun y hy => by rw [List.mem_singleton.mp hy]; exact Int.le_refl _⟩
  | z :: r, x => by
    obtain ⟨a, b⟩ := min_fold r (if z < x then z else x)
    rw [List.foldl_cons]
    have hm : (if z < x then z else x) = z ∨ (if z < x then z else x) = x := by split <;> simp
    have h1 : (if z < x then z else x) ≤ z := by split <;> omega
    have h2 : (if z < x then z else x) ≤ x := by split <;> omega
    have h0 := b _ List.mem_cons_self
    refine ⟨?_, fun y hy => ?_⟩
    · rcases List.mem_cons.mp a with e | e
      · rcases hm with h | h <;> rw [e, h] <;> simp
      · exact List.mem_cons_of_mem _ (List.mem_cons_of_mem _ e)
    · rcases List.mem_cons.mp hy with rfl | hy
      · exact Int.le_trans h0 h2
      · rcases List.mem_cons.mp hy with rfl | hy
        · exact Int.le_trans h0 h1
        · exact b y (List.mem_cons_of_mem _ hy)
theorem maxL_mem {ns : List Int} (h : ns ≠ []) : maxL ns ∈ ns := by
  cases ns with
  | nil => exact absurd rfl h
  | cons x r => exact (max_fold r x).1
theorem maxL_ge {ns : List Int} : ∀ y ∈ ns, y ≤ maxL ns := by
  cases ns with
  | nil => exact fun _ h => nomatch h
  | cons x r => exact (max_fold r x).2
theorem minL_mem {ns : List Int} (h : ns ≠ []) : minL ns ∈ ns := by
  cases ns with
  | nil => exact absurd rfl h
  | cons x r => exact (min_fold r x).1
theorem minL_le {ns : List Int} : ∀ y ∈ ns, minL ns ≤ y := by
  cases ns with
  | nil => exact fun _ h => nomatch h
  | cons x r => exact (min_fold r x).2
theorem len_pos {ns : List Int} (h : ns ≠ []) : 0 < ns.length := by
  cases ns with
  | nil => exact absurd rfl h
  | cons x r => exact Nat.succ_pos _
mutual
theorem toD_nodict : ∀ v : PV, (toD v).hasDict = false
  | .non => by simp [toD, PyData.hasDict]
  | .bl _ => by simp [toD, PyData.hasDict]
  | .int _ => by simp [toD, PyData.hasDict]
  | .str _ => by simp [toD, PyData.hasDict]
  | .tup xs => by simp only [toD, PyData.hasDict]; exact toD_nodicts xs
  | .lst xs => by simp only [toD, PyData.hasDict]; exact toD_nodicts xs
  | .ref _ => by simp [toD, PyData.hasDict]
  | .scr _ => by simp [toD, PyData.hasDict]
theorem toD_nodicts : ∀ v : List PV, PyData.hasDictAll (toDs v) = false
  | [] => by simp [toDs, PyData.hasDictAll]
  | x :: r => by simp only [toDs, PyData.hasDictAll]; rw [toD_nodict x, toD_nodicts r]; rfl
end
theorem ints_all (h : Heap) : ∀ {vs : List Value} {xs : List Int}, IntsAre vs xs → ReadsAll h vs (xs.map PyData.int) []
  | _, _, .nil => .nil
  | _, _, .cons n t r => .cons (.int n t) (ints_all h r)
theorem depth_ints : ∀ ns : List Int, PyData.depthAll (ns.map PyData.int) ≤ 1
  | [] => by decide
  | n :: r => by
    have := depth_ints r
    show max (PyData.depth (.int n)) (PyData.depthAll (r.map PyData.int)) ≤ 1
    have e : PyData.depth (.int n) ≤ 1 := by simp [PyData.depth]
    omega
theorem alike_ints (ns : List Int) : PySem.W.AlikeAll (ns.map PyData.int) := by
  refine ⟨fun x hx y hy => ?_, fun x hx => ?_⟩
  · obtain ⟨a, _, rfl⟩ := List.mem_map.mp hx
    obtain ⟨b, _, rfl⟩ := List.mem_map.mp hy
    rfl
  · obtain ⟨a, _, rfl⟩ := List.mem_map.mp hx
    exact fun e => nomatch e
theorem max_ints (n : Int) (r : List Int) : r.foldl max n = maxL (n :: r) := by
  show _ = r.foldl (fun m y => if y > m then y else m) n
  induction r generalizing n with
  | nil => rfl
  | cons k r ih =>
    rw [List.foldl_cons, List.foldl_cons, ih]
    congr 1
    show max n k = _
    by_cases h : k > n
    · rw [if_pos h]; omega
    · rw [if_neg h]; omega
theorem call_maxT {X : Cx} (hc : X.calm = true) (hu : X.A.units + 64 < cLine) : CallR X (.builtin "max") (fun xs H Q => ∃ (a : Addr) (ns : List Int), xs = [V.ref a] ∧ ns ≠ [] ∧ SqT X.K H a (ns.map V.int) ∧ Q (.int (maxL ns)) H) := by
  intro pins s σ H xs us Q I r h
  obtain ⟨a, ns, rfl, hne, hs, q⟩ := h
  obtain ⟨its, rv, hl, _⟩ := I.tuple hs
  rw [Vals.ref1 r]
  have hd := depth_ints ns
  cases ns with
  | nil => exact absurd rfl hne
  | cons n r =>
    refine PySem.W.max_tuple_data (x := .int n) (xs := r.map PyData.int) (I.ok.hd hc) hl (ints_all _ rv.ints) (alike_ints (n :: r)) (by rw [List.map_cons] at hd; omega) fun i v h' tk bs hv hr k => ?_
    rw [PySem.W.maxD_ints, max_ints] at hr
    cases hr with
    | int i t => exact ⟨.int _, H, I.kept k, ⟨_, rfl⟩, q⟩
section
variable {X : Cx}
abbrev rC (K : PySem.W.Frag) (f : List PV → Store → PQ → Prop) : List V → Hp → VK → Prop := fun xs H Q => ∃ F st vs, RS K H F st ∧ DVs K H F vs xs ∧ f vs st (LQ K F H Q)
theorem call_repr (hg : X.A.guards = some []) (hu : X.A.units + 64 < cLine) : CallR X (.builtin "repr") (fun xs H Q => ∃ v d, xs = [v] ∧ Dp X.K H v d ∧ d.hasDict = false ∧ d.showable = true ∧ d.shown.length ≤ sizeLine ∧ d.depth ≤ 60 ∧ Q (.str d.shown) H) := by
  intro pins s σ H xs us Q I r h
  obtain ⟨v, d, rfl, dp, nd, sh, sz, dd, q⟩ := h
  obtain ⟨u, rfl, ru⟩ := vals1 r
  obtain ⟨as, rd⟩ := Dp.reads I d v u dp ru
  cases dp with
  | non =>
    cases ru
    refine PySem.P.repr_of_none ⟨.str "None", H, I.tok _, ⟨_, rfl⟩, ?_⟩
    simpa [PyData.shown] using q
  | bl b =>
    cases ru
    refine PySem.P.repr_of_bool ⟨.str (if b then "True" else "False"), H, I.tok _, ⟨_, rfl⟩, ?_⟩
    simpa [PyData.shown] using q
  | int i =>
    obtain ⟨t, rfl⟩ := ru
    refine PySem.P.repr_of_int (by simpa [PyData.showable] using sh) ⟨.str (toString i), H, I.tok _, ⟨_, rfl⟩, ?_⟩
    simpa [PyData.shown] using q
  | str x =>
    obtain ⟨t, rfl⟩ := ru
    refine PySem.P.repr_of_str (hsz := by simpa [PyData.shown] using sz) ⟨.str (reprText x), H, I.tok _, ⟨_, rfl⟩, ?_⟩
    simpa [PyData.shown] using q
  | lst h1 h2 =>
    cases ru
    exact repr_of_reads' rd sh (fun z => by rw [nd] at z; cases z) hg (by omega) (fun _ _ e => e) (fun h' u tk hk => ⟨.str _, H, I.kept (t' := tk) hk, ⟨u, rfl⟩, q⟩) sz
  | tup h1 h2 =>
    cases ru
    exact repr_of_reads' rd sh (fun z => by rw [nd] at z; cases z) hg (by omega) (fun _ _ e => e) (fun h' u tk hk => ⟨.str _, H, I.kept (t' := tk) hk, ⟨u, rfl⟩, q⟩) sz
/-- which built-in it is -/
def BF.isTy : BF → Bool
  | .int => true
  | .str => true
  | .tuple => true
  | .list => true
  | _ => false
def BF.id : BF → String
  | .len => "len" | .int => "int" | .abs => "abs" | .tuple => "tuple" | .list => "list" | .all => "all" | .any => "any" | .sum => "sum"
  | .min2 => "min" | .max2 => "max" | .min => "min" | .max => "max" | .repr => "repr" | .str => "str"
def BF.val (f : BF) : Value := if f.isTy then .type f.id else .builtin f.id
theorem blt_ok {f : BF} {m : Bool} (hc : X.calm = true) (hg : X.A.guards = some []) (hu : X.A.units + 64 < cLine) : CallR X f.val (rC X.K (bltV f m)) := by
  intro pins s σ H xs us Q I r ⟨F, st, vs, rs, ds, h⟩
  have one : ∀ {v : PV} {xs : List V}, DVs X.K H F [v] xs → ∃ x, xs = [x] ∧ DV X.K H F v x := fun ds => by
    cases ds with
    | cons d ds => cases ds; exact ⟨_, rfl, d⟩
  have two : ∀ {v w : PV} {xs : List V}, DVs X.K H F [v, w] xs → ∃ x y, xs = [x, y] ∧ DV X.K H F v x ∧ DV X.K H F w y := fun ds => by
    cases ds with
    | cons d ds => cases ds with
      | cons d' ds => cases ds; exact ⟨_, _, rfl, d, d'⟩
  unfold bltV at h
  split at h
  · obtain ⟨x, rfl, d⟩ := one ds
    cases d
    exact call_len_str pins s σ H _ us Q I r ⟨_, rfl, h.1, h.2.now rs (.int _)⟩
  · obtain ⟨x, rfl, d⟩ := one ds
    cases d with
    | tup h1 hs => exact call_len_seq pins s σ H _ us Q I r ⟨_, _, rfl, .inr h1, by rw [← hs.length]; exact h.now rs (.int _)⟩
  · obtain ⟨x, rfl, d⟩ := one ds
    cases d with
    | lst f1 h1 hs => exact call_len_seq pins s σ H _ us Q I r ⟨_, _, rfl, .inl (.of h1), by rw [← hs.length]; exact h.now rs (.int _)⟩
  · obtain ⟨x, rfl, d⟩ := one ds
    rename_i a
    cases q : lstOf st (.ref a) with
    | none => rw [q] at h; exact h.elim
    | some zs =>
      rw [q] at h
      obtain ⟨b, ys, rfl, h1, hs⟩ := lstOf_ok rs q d
      exact call_len_seq pins s σ H _ us Q I r ⟨_, _, rfl, .inl (.of h1), by rw [← hs.length]; exact LQ.now h rs (.int _)⟩
  · obtain ⟨x, rfl, d⟩ := one ds
    cases d
    exact call_int1 pins s σ H _ us Q I r (.inl ⟨_, rfl, h.now rs (.int _)⟩)
  · obtain ⟨x, rfl, d⟩ := one ds
    cases d
    exact call_int1 pins s σ H _ us Q I r (.inr ⟨_, rfl, h.now rs (.int _)⟩)
  · obtain ⟨x, rfl, d⟩ := one ds
    cases d
    exact call_abs pins s σ H _ us Q I r ⟨_, rfl, h.now rs (.int _)⟩
  · obtain ⟨x, rfl, d⟩ := one ds
    rename_i v
    cases q : seqOf st v with
    | none => rw [q] at h; exact h.elim
    | some zs =>
      rw [q] at h
      cases d with
      | tup h1 hs =>
        cases (Option.some.inj q)
        exact call_tuple_of pins s σ H _ us Q I r ⟨_, _, rfl, .inr ⟨h1, LQ.now h rs (.tup h1 hs)⟩⟩
      | lst f1 h1 hs =>
        cases (Option.some.inj q)
        exact call_tuple_of pins s σ H _ us Q I r ⟨_, _, rfl, .inl ⟨.of h1, newTup_ok h rs hs⟩⟩
      | ref a =>
        obtain ⟨b, ys, e, h1, hs⟩ := lstOf_ok rs (show lstOf st (.ref a) = some zs from q) (.ref a)
        cases e
        exact call_tuple_of pins s σ H _ us Q I r ⟨_, _, rfl, .inl ⟨.of h1, newTup_ok h rs hs⟩⟩
      | non => cases q
      | bl _ => cases q
      | int _ => cases q
      | str _ => cases q
      | scr _ => cases q
  · obtain ⟨x, rfl, d⟩ := one ds
    cases d with
    | scr h1 => exact call_list_of pins s σ H _ us Q I r ⟨_, _, rfl, .inl h1.sq, newList_ok h rs (DVs.ints _)⟩
  · obtain ⟨x, rfl, d⟩ := one ds
    cases d with
    | tup h1 hs => exact call_list_of pins s σ H _ us Q I r ⟨_, _, rfl, .inr h1, newList_ok h rs hs⟩
  · obtain ⟨x, rfl, d⟩ := one ds
    cases d with
    | lst f1 h1 hs => exact call_list_of pins s σ H _ us Q I r ⟨_, _, rfl, .inl (.of h1), newList_ok h rs hs⟩
  · obtain ⟨x, rfl, d⟩ := one ds
    rename_i a
    cases q : lstOf st (.ref a) with
    | none => rw [q] at h; exact h.elim
    | some zs =>
      rw [q] at h
      obtain ⟨b, ys, rfl, h1, hs⟩ := lstOf_ok rs q d
      exact call_list_of pins s σ H _ us Q I r ⟨_, _, rfl, .inl (.of h1), newList_ok h rs hs⟩
  · obtain ⟨x, rfl, d⟩ := one ds
    rename_i v
    cases q : lstOf st v with
    | none => rw [q] at h; exact h.elim
    | some zs =>
      rw [q] at h
      have h : oP (blsOf zs) _ := h
      cases q2 : blsOf zs with
      | none => rw [q2] at h; exact h.elim
      | some bs =>
        rw [q2] at h
        obtain ⟨b, ys, rfl, h1, hs⟩ := lstOf_ok rs q d
        rw [bls_ok q2 hs] at h1
        exact cr_all hc pins s σ H _ us Q I r ⟨_, bs, rfl, .of h1, LQ.now h rs (.bl _)⟩
  · obtain ⟨x, rfl, d⟩ := one ds
    rename_i v
    cases q : lstOf st v with
    | none => rw [q] at h; exact h.elim
    | some zs =>
      rw [q] at h
      have h : oP (blsOf zs) _ := h
      cases q2 : blsOf zs with
      | none => rw [q2] at h; exact h.elim
      | some bs =>
        rw [q2] at h
        obtain ⟨b, ys, rfl, h1, hs⟩ := lstOf_ok rs q d
        rw [bls_ok q2 hs] at h1
        exact cr_any hc pins s σ H _ us Q I r ⟨_, bs, rfl, .of h1, LQ.now h rs (.bl _)⟩
  · obtain ⟨x, rfl, d⟩ := one ds
    rename_i v
    cases q : lstOf st v with
    | none => rw [q] at h; exact h.elim
    | some zs =>
      rw [q] at h
      have h : oP (intsOf zs) _ := h
      cases q2 : intsOf zs with
      | none => rw [q2] at h; exact h.elim
      | some bs =>
        rw [q2] at h
        obtain ⟨b, ys, rfl, h1, hs⟩ := lstOf_ok rs q d
        rw [ints_ok q2 hs] at h1
        exact cr_sum hc pins s σ H _ us Q I r ⟨_, bs, rfl, .of h1, LQ.now h rs (.int _)⟩
  · obtain ⟨x, rfl, d⟩ := one ds
    rename_i v
    cases q : extOf st v with
    | none => rw [q] at h; exact h.elim
    | some zs =>
      rw [q] at h
      have h : oP (intsOf zs) _ := h
      cases q2 : intsOf zs with
      | none => rw [q2] at h; exact h.elim
      | some bs =>
        rw [q2] at h
        obtain ⟨ne, h⟩ := h
        by_cases ht : ∃ ts, v = .tup ts
        · obtain ⟨ts, rfl⟩ := ht
          cases (Option.some.inj q)
          cases d with
          | tup h1 hs =>
            rw [ints_ok q2 hs] at h1
            exact call_maxT hc hu pins s σ H _ us Q I r ⟨_, bs, rfl, ne, h1, LQ.now h rs (.int _)⟩
        have q : lstOf st v = some zs := by
          cases v <;> first | exact q | exact absurd ⟨_, rfl⟩ ht
        obtain ⟨b, ys, rfl, h1, hs⟩ := lstOf_ok rs q d
        rw [ints_ok q2 hs] at h1
        refine cr_max hc pins s σ H _ us Q I r ⟨_, bs, rfl, .of h1, len_pos ne, fun k hk hge => ?_⟩
        have e : k = maxL bs := Int.le_antisymm (maxL_ge k hk) (hge _ (maxL_mem ne))
        rw [e]
        exact LQ.now h rs (.int _)
  · obtain ⟨x, rfl, d⟩ := one ds
    rename_i v
    cases q : lstOf st v with
    | none => rw [q] at h; exact h.elim
    | some zs =>
      rw [q] at h
      have h : oP (intsOf zs) _ := h
      cases q2 : intsOf zs with
      | none => rw [q2] at h; exact h.elim
      | some bs =>
        rw [q2] at h
        obtain ⟨ne, h⟩ := h
        obtain ⟨b, ys, rfl, h1, hs⟩ := lstOf_ok rs q d
        rw [ints_ok q2 hs] at h1
        refine cr_min hc pins s σ H _ us Q I r ⟨_, bs, rfl, .of h1, len_pos ne, fun k hk hge => ?_⟩
        have e : k = minL bs := Int.le_antisymm (hge _ (minL_mem ne)) (minL_le k hk)
        rw [e]
        exact LQ.now h rs (.int _)
  · obtain ⟨x, y, rfl, d, d'⟩ := two ds
    cases d; cases d'
    exact call_max2 hc pins s σ H _ us Q I r ⟨_, _, rfl, h.now rs (.int _)⟩
  · obtain ⟨x, y, rfl, d, d'⟩ := two ds
    cases d; cases d'
    exact call_min2 hc pins s σ H _ us Q I r ⟨_, _, rfl, h.now rs (.int _)⟩
  · obtain ⟨x, rfl, d⟩ := one ds
    cases d
    exact call_str_int pins s σ H _ us Q I r ⟨_, rfl, h.1, h.2.now rs (.str _)⟩
  · obtain ⟨x, rfl, d⟩ := one ds
    obtain ⟨⟨h1, h2, h3⟩, h⟩ := h
    exact call_repr hg hu pins s σ H _ us Q I r ⟨_, _, rfl, res_ok rs d h3, toD_nodict _, h1, h2, (toD_lay h3).2, h.now rs (.str _)⟩
  · exact h.elim

/-! ### isinstance -/
def tyName : PV → String
  | .non => "NoneType" | .bl _ => "bool" | .int _ => "int" | .str _ => "str" | .tup _ => "tuple" | _ => "list"
theorem kit_table : (["NoneType", "bool", "int", "str", "tuple", "list"].all fun t => ["int", "bool", "str", "tuple", "list"].all fun c =>
    decide (kitB t c = some (t == c || (t == "bool" && c == "int")))) = true := by decide +kernel
theorem kit_ok {t c : String} (ht : t ∈ ["NoneType", "bool", "int", "str", "tuple", "list"]) (hc : c ∈ ["int", "bool", "str", "tuple", "list"]) : kitB t c = some (t == c || (t == "bool" && c == "int")) := by
  have h := List.all_eq_true.mp (List.all_eq_true.mp kit_table t ht) c hc
  exact of_decide_eq_true h
def tyStr (ty : Str) : Option String := if ty = ("int" : Str) then some "int" else if ty = ("bool" : Str) then some "bool" else if ty = ("str" : Str) then some "str" else if ty = ("tuple" : Str) then some "tuple" else if ty = ("list" : Str) then some "list" else none
theorem tyStr_ok {ty : Str} (h : tyOk ty = true) : ∃ c : String, c ∈ ["int", "bool", "str", "tuple", "list"] ∧ ty = Str.ofString c ∧ bootBuiltins ty = some (.type c) := by
  unfold tyOk at h
  simp only [Bool.or_eq_true, beq_iff_eq] at h
  rcases h with (((h | h) | h) | h) | h <;> subst h
  · exact ⟨"int", by decide, rfl, by decide +kernel⟩
  · exact ⟨"bool", by decide, rfl, by decide +kernel⟩
  · exact ⟨"str", by decide, rfl, by decide +kernel⟩
  · exact ⟨"tuple", by decide, rfl, by decide +kernel⟩
  · exact ⟨"list", by decide, rfl, by decide +kernel⟩
theorem TyX_ok {K : PySem.W.Frag} {H : Hp} {F : FS} {v : PV} {x : V} (d : DV K H F v x) (hv : ∀ a, v ≠ .ref a) (hs : ∀ a, v ≠ .scr a) : TyX K H x (.type (tyName v)) ∧ tyName v ∈ ["NoneType", "bool", "int", "str", "tuple", "list"] := by
  cases d with
  | non => exact ⟨.base .non, by decide⟩
  | bl b => exact ⟨.base (.bl b), by simp [tyName]⟩
  | int b => exact ⟨.base (.int b), by simp [tyName]⟩
  | str b => exact ⟨.base (.str b), by simp [tyName]⟩
  | tup h hs =>
    refine ⟨?_, by simp [tyName]⟩
    rcases h with (h | ⟨o, h⟩) | ⟨o, its, n, h, hc, _⟩
    · exact .base (.tup h)
    · exact .fTuple h
    · exact .kTuple h hc
  | lst f h hs => exact ⟨.base (.lst h), by simp [tyName]⟩
  | ref a => exact absurd rfl (hv a)
  | scr h => exact absurd rfl (hs _)
theorem isi_val {ty : Str} {c : String} (hc : c ∈ ["int", "bool", "str", "tuple", "list"]) (e : ty = Str.ofString c) {v : PV} {b : Bool} (h : isiV ty v = some b) :
    (∀ a, v ≠ .ref a) ∧ (∀ a, v ≠ .scr a) ∧ (tyName v == c || (tyName v == "bool" && c == "int")) = b := by
  subst e
  simp only [List.mem_cons, List.not_mem_nil, or_false] at hc
  cases v with
  | ref a => cases h
  | scr a => cases h
  | non =>
    have h' : some false = some b := h
    cases h'
    refine ⟨(fun a z => by cases z), (fun a z => by cases z), ?_⟩
    rcases hc with rfl | rfl | rfl | rfl | rfl <;> decide
  | bl _ =>
    have h' : some _ = some b := h
    cases h'
    refine ⟨(fun a z => by cases z), (fun a z => by cases z), ?_⟩
    rcases hc with rfl | rfl | rfl | rfl | rfl <;> (simp only [tyName]; decide +kernel)
  | int _ =>
    have h' : some _ = some b := h
    cases h'
    refine ⟨(fun a z => by cases z), (fun a z => by cases z), ?_⟩
    rcases hc with rfl | rfl | rfl | rfl | rfl <;> (simp only [tyName]; decide +kernel)
  | str _ =>
    have h' : some _ = some b := h
    cases h'
    refine ⟨(fun a z => by cases z), (fun a z => by cases z), ?_⟩
    rcases hc with rfl | rfl | rfl | rfl | rfl <;> (simp only [tyName]; decide +kernel)
  | tup _ =>
    have h' : some _ = some b := h
    cases h'
    refine ⟨(fun a z => by cases z), (fun a z => by cases z), ?_⟩
    rcases hc with rfl | rfl | rfl | rfl | rfl <;> (simp only [tyName]; decide +kernel)
  | lst _ =>
    have h' : some _ = some b := h
    cases h'
    refine ⟨(fun a z => by cases z), (fun a z => by cases z), ?_⟩
    rcases hc with rfl | rfl | rfl | rfl | rfl <;> (simp only [tyName]; decide +kernel)

/-! ### items, slices -/
theorem atI_map {K : PySem.W.Frag} {H : Hp} {F : FS} {xs : List PV} {ys : List V} {i : Int} {v : PV} (ds : DVs K H F xs ys) (e : atI xs i = some v) : ∃ y, atI ys i = some y ∧ DV K H F v y := by
  unfold atI at e ⊢
  rw [← ds.length]
  cases q : ixN xs.length i with
  | none => rw [q] at e; cases e
  | some j =>
    rw [q] at e
    exact ds.get e
theorem ix_ok : IxR X (rB X.K idxV) := by
  intro value slice pins s σ H x y vv uu Q I rx ry ⟨F, st, v, w, rs, dv, dw, h⟩ hs
  unfold idxV at h
  cases dw with
  | int i =>
    replace h : itemV i v st (LQ X.K F H Q) := h
    unfold itemV at h
    split at h
    · cases dv
      rename_i z
      cases q : atI z.cps.toList i with
      | none => rw [q] at h; exact h.2.elim
      | some c =>
        rw [q] at h
        exact ix_str value slice pins s σ H _ _ _ _ Q I rx ry ⟨z, i, c, rfl, rfl, h.1, q, LQ.now h.2 rs (.str _)⟩ hs
    · rename_i xs
      cases q : atI xs i with
      | none => rw [q] at h; exact h.elim
      | some c =>
        rw [q] at h
        cases dv with
        | tup h1 ds =>
          obtain ⟨y, e, d⟩ := atI_map ds q
          exact ix_tup value slice pins s σ H _ _ _ _ Q I rx ry ⟨_, _, i, y, rfl, rfl, h1, e, LQ.now h rs d⟩ hs
    · rename_i xs
      cases q : atI xs i with
      | none => rw [q] at h; exact h.elim
      | some c =>
        rw [q] at h
        cases dv with
        | lst f1 h1 ds =>
          obtain ⟨y, e, d⟩ := atI_map ds q
          exact ix_list value slice pins s σ H _ _ _ _ Q I rx ry ⟨_, _, i, y, rfl, rfl, .of h1, e, LQ.now h rs d⟩ hs
    · rename_i a
      cases q : lstOf st (.ref a) with
      | none => rw [q] at h; exact h.elim
      | some zs =>
        rw [q] at h
        have h : oP (atI zs i) _ := h
        cases q2 : atI zs i with
        | none => rw [q2] at h; exact h.elim
        | some c =>
          rw [q2] at h
          obtain ⟨b, ys, rfl, h1, ds⟩ := lstOf_ok rs q dv
          obtain ⟨y, e, d⟩ := atI_map ds q2
          exact ix_list value slice pins s σ H _ _ _ _ Q I rx ry ⟨_, _, i, y, rfl, rfl, .of h1, e, LQ.now h rs d⟩ hs
    · exact h.elim
  | _ => exact h.elim
theorem cut_ok {K : PySem.W.Frag} {H : Hp} {F : FS} {xs : List PV} {ys : List V} (ds : DVs K H F xs ys) (lo hi : Option Int) : DVs K H F (cutP xs lo hi) (cutV ys lo hi) := by
  unfold cutP cutV
  rw [ds.length]
  exact (ds.drop _).take _
theorem sl_ok {m : Bool} : SlR X (fun x lo hi H Q => ∃ F st v, RS X.K H F st ∧ DV X.K H F v x ∧ sliceV m v lo hi st (LQ X.K F H Q)) := by
  intro pins s σ H x v' vl vu lo hi sl Q I rx hs pl pu ⟨F, st, v, rs, dv, h⟩
  unfold sliceV at h
  split at h
  · cases dv with
    | tup h1 ds =>
      refine sl_tupA pins s σ H _ v' vl vu lo hi sl Q I rx hs pl pu ⟨_, _, rfl, h1, fun hw => ?_, fun _ => newTup_ok h rs (cut_ok ds lo hi)⟩
      refine LQ.now h rs ?_
      rw [← ds.length] at hw
      unfold cutP
      rw [hw.1, hw.2, List.drop_zero, Nat.sub_zero, List.take_length]
      exact .tup h1 ds
  · cases dv with
    | lst f1 h1 ds => exact sl_list pins s σ H _ v' vl vu lo hi sl Q I rx hs pl pu ⟨_, _, rfl, .of h1, newList_ok h rs (cut_ok ds lo hi)⟩
  · obtain ⟨xs, e, h⟩ := h
    cases dv
    obtain ⟨_, ys, h1, ds⟩ := rs.lst _ _ e
    exact sl_list pins s σ H _ v' vl vu lo hi sl Q I rx hs pl pu ⟨_, _, rfl, .of h1, newList_ok h rs (cut_ok ds lo hi)⟩
  · exact h.elim

/-! ### methods of lists -/
def MF.id : MF → String
  | .append => "list.append" | .extend => "list.extend" | .pop => "list.pop" | .index => "list.index"
theorem put_ok {K : PySem.W.Frag} {F : FS} {H : Hp} {Q : VK} {st : Store} {a : Addr} {xs : List PV} {ys ws : List V} {z : PV} {y : V} (h : LQ K F H Q z (up st a (some (.lst xs)))) (r : RS K H F st) (nf : ¬ F a) (ha : H a = some (.lst ws)) (ds : DVs K H F xs ys) (d : DV K H F z y) :
    Q y (upd H a (.lst ys)) := by
  have ni : ∀ u, H a = some u → ¬ Imm u := fun u e => by
    rw [ha] at e; cases e; exact fun z => z
  exact h F _ _ (.put nf ni) (r.put nf ni ds) (d.ext (.put nf ni))
theorem meth_ok {f : MF} : MtR X f.id (fun x xs H Q => ∃ F st v vs, RS X.K H F st ∧ DV X.K H F v x ∧ DVs X.K H F vs xs ∧ methV f v vs st (LQ X.K F H Q)) := by
  intro pins s σ H x xs v' us Q I rx r ⟨F, st, v, vs, rs, dv, ds, h⟩
  unfold methV at h
  split at h
  · obtain ⟨zs, e, hz, h⟩ := h
    cases dv
    cases ds with
    | cons d ds =>
      cases ds
      obtain ⟨nf, ys, h1, dz⟩ := rs.lst _ _ e
      exact mt_append pins s σ H _ _ v' us Q I rx r ⟨_, ys, _, rfl, rfl, h1, by rw [← dz.length]; exact hz, put_ok h rs nf h1 (dz.append (.cons d .nil)) .non⟩
  · obtain ⟨zs, ws, e, e', hz, h⟩ := h
    cases dv
    cases ds with
    | cons d ds =>
      cases ds
      obtain ⟨nf, ys, h1, dz⟩ := rs.lst _ _ e
      cases d with
      | tup hs dw =>
        cases (Option.some.inj e')
        exact mt_extT pins s σ H _ _ v' us Q I rx r ⟨_, _, ys, _, rfl, rfl, h1, hs, by rw [← dz.length, ← dw.length]; exact hz, put_ok h rs nf h1 (dz.append dw) .non⟩
      | lst f hf dw =>
        obtain ⟨b, us', eb, h2, dw⟩ := lstOf_ok rs (show lstOf _ (.lst _) = some ws from e') (.lst f hf dw)
        cases eb
        exact mt_extend pins s σ H _ _ v' us Q I rx r ⟨_, _, ys, us', rfl, rfl, h1, h2, by rw [← dz.length, ← dw.length]; exact hz, put_ok h rs nf h1 (dz.append dw) .non⟩
      | ref a' =>
        obtain ⟨b, us', eb, h2, dw⟩ := lstOf_ok rs (show lstOf _ (.ref a') = some ws from e') (.ref a')
        cases eb
        exact mt_extend pins s σ H _ _ v' us Q I rx r ⟨_, _, ys, us', rfl, rfl, h1, h2, by rw [← dz.length, ← dw.length]; exact hz, put_ok h rs nf h1 (dz.append dw) .non⟩
      | _ => cases e'
  · obtain ⟨zs, y, e, e', h⟩ := h
    cases dv
    cases ds
    obtain ⟨nf, ys, h1, dz⟩ := rs.lst _ _ e
    rw [dz.length] at e'
    obtain ⟨y', e2, dy⟩ := dz.get e'
    exact mt_pop pins s σ H _ _ v' us Q I rx r ⟨_, ys, y', rfl, rfl, h1, e2, put_ok h rs nf h1 dz.dropLast dy⟩
  · rename_i w
    obtain ⟨zs, j, z, e, hw, hall, hz, he, hno, h⟩ := h
    cases ds with
    | cons d ds =>
      cases ds
      obtain ⟨b, ys, rfl, h1, dz⟩ := lstOf_ok rs e dv
      obtain ⟨z', e2, dzz⟩ := dz.get hz
      have sc : ∀ {k : Nat} {q : PV}, zs[k]? = some q → isSc q = true := fun hq => List.all_eq_true.mp hall _ (List.mem_of_getElem? hq)
      refine mt_index pins s σ H _ _ v' us Q I rx r ⟨b, ys, _, j, z', rfl, rfl, .of h1, sc_flat hw d, sc_flats hall dz, e2, by rw [sc_eqV (sc hz) hw dzz d]; exact he, fun k q hk hq => ?_, h.now rs (.int _)⟩
      obtain ⟨q', e3, dq⟩ := dz.get' hq
      rw [sc_eqV (sc e3) hw dq d]
      exact hno k q' hk e3
  · exact h.elim
theorem set_ok : PSet X (fun o i v H Q => ∃ F st ov iv vv, RS X.K H F st ∧ DV X.K H F ov o ∧ DV X.K H F iv i ∧ DV X.K H F vv v ∧ setIxV ov iv vv st (fun st' => ∀ F' H', Ext F H F' H' → RS X.K H' F' st' → Q H')) := by
  intro pins s σ H o i v ov iv u Q I ro ri rv ⟨F, st, o', i', v', rs, d1, d2, d3, h⟩
  unfold setIxV at h
  split at h
  · obtain ⟨xs, j, e, e2, h⟩ := h
    cases d1; cases d2
    obtain ⟨nf, ys, h1, dz⟩ := rs.lst _ _ e
    have ni : ∀ u, H _ = some u → ¬ Imm u := fun u e => by
      rw [h1] at e; cases e; exact fun z => z
    exact set_list pins s σ H _ _ _ ov iv u Q I ro ri rv ⟨_, ys, _, j, rfl, rfl, h1, by rw [← dz.length]; exact e2, h F _ (.put nf ni) (rs.put nf ni (dz.set d3 j))⟩
  · exact h.elim
end
end TK

set_option maxRecDepth 100000
set_option maxHeartbeats 2000000
namespace TK
open PySem PySem.Spec PyProof.Rows L2

/-! ### readings by the small language -/
def LE (K : PySem.W.Frag) (mg : Str → Option Value) (F : FS) (H : Hp) (E : XK) : EQ := fun e st' => ∀ F' H' cls d, Ext F H F' H' → RS K H' F' st' → ExRep K mg H' F' e cls d → E cls d H'
abbrev LX (X : Cx) (W : WX) (σ : L2.St) (F : FS) (H : Hp) : EQ := LE X.K X.mg F H (fun cls d H' => W cls d σ H')
theorem LE.ext {K : PySem.W.Frag} {mg : Str → Option Value} {F F' : FS} {H H' : Hp} {E : XK} (x : Ext F H F' H') : ∀ e s, LE K mg F H E e s → LE K mg F' H' E e s := fun e s h F2 H2 cls d x2 r q => h F2 H2 cls d (x.trans x2) r q
def tl (X : Cx) (W : WX) (w : EQ → Sl → Store → PQ → Prop) : TE := fun σ H Q => ∃ F τ st, RS X.K H F st ∧ RSl X.K H F τ σ ∧ w (LX X W σ F H) τ st (LQ X.K F H Q)
def tlA (X : Cx) (W : WX) (w : EQ → Sl → Store → (List PV → Store → Prop) → Prop) : TA := fun σ H Q => ∃ F τ st, RS X.K H F st ∧ RSl X.K H F τ σ ∧
  w (LX X W σ F H) τ st fun vs st' => ∀ F' H' ys, Ext F H F' H' → RS X.K H' F' st' → DVs X.K H' F' vs ys → Q ys H'
def tlT (X : Cx) (W : WX) (w : EQ → Sl → Store → (Bool → Store → Prop) → Prop) : TT := fun σ H Q => ∃ F τ st, RS X.K H F st ∧ RSl X.K H F τ σ ∧
  w (LX X W σ F H) τ st fun b st' => ∀ F' H', Ext F H F' H' → RS X.K H' F' st' → Q b H'
def tlO (X : Cx) (W : WX) (w : EQ → Sl → Store → (Option Int → Store → Prop) → Prop) : TO := fun σ H Q => ∃ F τ st, RS X.K H F st ∧ RSl X.K H F τ σ ∧
  w (LX X W σ F H) τ st fun b st' => ∀ F' H', Ext F H F' H' → RS X.K H' F' st' → Q b H'
/-- a walk over items -/
structure WP (K : PySem.W.Frag) (J : It) (F0 : FS) (H0 : Hp) (xs : List PV) (ok : Store → Prop) : Prop where
  mono : ∀ s t, Sub s t → ok s → ok t
  go : ∀ i F H st, i < xs.length → Ext F0 H0 F H → RS K H F st → ok st → J.go i H
  stop : ∀ F H st, Ext F0 H0 F H → RS K H F st → ok st → J.stop xs.length H
  yld : ∀ i F H st x H', i < xs.length → Ext F0 H0 F H → RS K H F st → ok st → J.yld i H x H' → Ext F H F H' ∧ RS K H' F st ∧ ∃ v, xs[i]? = some v ∧ DV K H' F v x
def tlI (X : Cx) (W : WX) (r : Bool) (w : EQ → Sl → Store → (List PV → (Store → Prop) → Store → Prop) → Prop) : TI := fun σ H R => ∃ F τ st, RS X.K H F st ∧ RSl X.K H F τ σ ∧
  w (LX X W σ F H) τ st fun xs ok st' => ∀ F' H' J, Ext F H F' H' → RS X.K H' F' st' → WP X.K J F' H' xs ok → (r = false → xs.length ≤ sizeLine) → R J H'

theorem impE {X : Cx} {e : Expr} {t t' : TE} (h : PE X e t) (i : ∀ σ H Q, t' σ H Q → t σ H Q) : PE X e t' := ⟨fun pins s σ H Q I q => h.run pins s σ H Q I (i σ H Q q)⟩
theorem impT {X : Cx} {e : Expr} {t t' : TT} (h : PT X e t) (i : ∀ σ H Q, t' σ H Q → t σ H Q) : PT X e t' := ⟨fun pins s σ H Q I q => h.run pins s σ H Q I (i σ H Q q)⟩
theorem impW {X : Cx} {e : Expr} {t t' : TT} (h : PW X e t) (i : ∀ σ H Q, t' σ H Q → t σ H Q) : PW X e t' := ⟨fun wh pins s σ H Q I q => h.run wh pins s σ H Q I (i σ H Q q)⟩
theorem impA {X : Cx} {e : List Expr} {t t' : TA} (h : PA X e t) (i : ∀ σ H Q, t' σ H Q → t σ H Q) : PA X e t' := ⟨fun pos pins s σ H Q I q => h.run pos pins s σ H Q I (i σ H Q q)⟩
theorem impO {X : Cx} {e : Option Expr} {t t' : TO} (h : PO X e t) (i : ∀ σ H Q, t' σ H Q → t σ H Q) : PO X e t' := ⟨fun pins s σ H Q I q => h.run pins s σ H Q I (i σ H Q q)⟩
theorem impI {X : Cx} {g e : Expr} {t t' : TI} (h : PI X g e t) (i : ∀ σ H Q, t' σ H Q → t σ H Q) : PI X g e t' := ⟨fun pins s σ H Q I q => h.run pins s σ H Q I (i σ H Q q)⟩
theorem impTs {X : Cx} {e : List Expr} {t t' : TT} (h : PTs X e t) (i : ∀ σ H Q, t' σ H Q → t σ H Q) : PTs X e t' := ⟨fun pins s σ H Q I q => h.run pins s σ H Q I (i σ H Q q)⟩
theorem impS {X : Cx} {e : Stmt} {t t' : TS} (h : PS X e t) (i : ∀ D σ H, t' D σ H → t D σ H) : PS X e t' := ⟨fun pins s σ H D I q => h.run pins s σ H D I (i D σ H q)⟩
theorem impSs {X : Cx} {e : List Stmt} {t t' : TS} (h : PSs X e t) (i : ∀ D σ H, t' D σ H → t D σ H) : PSs X e t' := ⟨fun pins s σ H D I q => h.run pins s σ H D I (i D σ H q)⟩
theorem impG {X : Cx} {e : Expr} {t t' : L2.TG} (h : PG X e t) (i : ∀ v σ H Q, t' v σ H Q → t v σ H Q) : PG X e t' := ⟨fun pins s σ H v u Q I r q => h.run pins s σ H v u Q I r (i v σ H Q q)⟩

section
variable {X : Cx} {W : WX} {σ : L2.St} {F0 F : FS} {H0 H : Hp} {τ : Sl} {st : Store}
theorem tl_go {wa : EQ → Sl → Store → PQ → Prop} {K0 : PQ} {Q1 : VK} (m : ∀ {X X' : EQ} {τ st} {Q Q' : PQ}, (∀ e s, X e s → X' e s) → (∀ v s, Q v s → Q' v s) → wa X τ st Q → wa X' τ st Q')
    (e0 : Ext F0 H0 F H) (rs : RS X.K H F st) (sl : RSl X.K H F τ σ) (h : wa (LX X W σ F0 H0) τ st K0)
    (n : ∀ F1 H1 x v st1, Ext F H F1 H1 → RS X.K H1 F1 st1 → RSl X.K H1 F1 τ σ → DV X.K H1 F1 v x → K0 v st1 → Q1 x H1) : tl X W wa σ H Q1 :=
  ⟨F, τ, st, rs, sl, m (LE.ext e0) (fun v st1 hk F1 H1 x e1 rs1 d => n F1 H1 x v st1 e1 rs1 (sl.ext e1) d hk) h⟩
theorem tlA_go {wa : EQ → Sl → Store → (List PV → Store → Prop) → Prop} {K0 : List PV → Store → Prop} {Q1 : List V → Hp → Prop} (m : ∀ {X X' : EQ} {τ st} {Q Q' : List PV → Store → Prop}, (∀ e s, X e s → X' e s) → (∀ v s, Q v s → Q' v s) → wa X τ st Q → wa X' τ st Q')
    (e0 : Ext F0 H0 F H) (rs : RS X.K H F st) (sl : RSl X.K H F τ σ) (h : wa (LX X W σ F0 H0) τ st K0)
    (n : ∀ F1 H1 x v st1, Ext F H F1 H1 → RS X.K H1 F1 st1 → RSl X.K H1 F1 τ σ → DVs X.K H1 F1 v x → K0 v st1 → Q1 x H1) : tlA X W wa σ H Q1 :=
  ⟨F, τ, st, rs, sl, m (LE.ext e0) (fun v st1 hk F1 H1 x e1 rs1 d => n F1 H1 x v st1 e1 rs1 (sl.ext e1) d hk) h⟩
theorem tlT_go {wa : EQ → Sl → Store → (Bool → Store → Prop) → Prop} {K0 : Bool → Store → Prop} {Q1 : Bool → Hp → Prop} (m : ∀ {X X' : EQ} {τ st} {Q Q' : Bool → Store → Prop}, (∀ e s, X e s → X' e s) → (∀ v s, Q v s → Q' v s) → wa X τ st Q → wa X' τ st Q')
    (e0 : Ext F0 H0 F H) (rs : RS X.K H F st) (sl : RSl X.K H F τ σ) (h : wa (LX X W σ F0 H0) τ st K0)
    (n : ∀ F1 H1 v st1, Ext F H F1 H1 → RS X.K H1 F1 st1 → RSl X.K H1 F1 τ σ → K0 v st1 → Q1 v H1) : tlT X W wa σ H Q1 :=
  ⟨F, τ, st, rs, sl, m (LE.ext e0) (fun v st1 hk F1 H1 e1 rs1 => n F1 H1 v st1 e1 rs1 (sl.ext e1) hk) h⟩
theorem tlO_go {wa : EQ → Sl → Store → (Option Int → Store → Prop) → Prop} {K0 : Option Int → Store → Prop} {Q1 : Option Int → Hp → Prop} (m : ∀ {X X' : EQ} {τ st} {Q Q' : Option Int → Store → Prop}, (∀ e s, X e s → X' e s) → (∀ v s, Q v s → Q' v s) → wa X τ st Q → wa X' τ st Q')
    (e0 : Ext F0 H0 F H) (rs : RS X.K H F st) (sl : RSl X.K H F τ σ) (h : wa (LX X W σ F0 H0) τ st K0)
    (n : ∀ F1 H1 v st1, Ext F H F1 H1 → RS X.K H1 F1 st1 → RSl X.K H1 F1 τ σ → K0 v st1 → Q1 v H1) : tlO X W wa σ H Q1 :=
  ⟨F, τ, st, rs, sl, m (LE.ext e0) (fun v st1 hk F1 H1 e1 rs1 => n F1 H1 v st1 e1 rs1 (sl.ext e1) hk) h⟩
theorem tlI_go {r : Bool} {wa : EQ → Sl → Store → (List PV → (Store → Prop) → Store → Prop) → Prop} {K0 : List PV → (Store → Prop) → Store → Prop} {Q1 : It → Hp → Prop} (m : ∀ {X X' : EQ} {τ st} {Q Q' : List PV → (Store → Prop) → Store → Prop}, (∀ e s, X e s → X' e s) → (∀ v o s, Q v o s → Q' v o s) → wa X τ st Q → wa X' τ st Q')
    (e0 : Ext F0 H0 F H) (rs : RS X.K H F st) (sl : RSl X.K H F τ σ) (h : wa (LX X W σ F0 H0) τ st K0)
    (n : ∀ F1 H1 J xs ok st1, Ext F H F1 H1 → RS X.K H1 F1 st1 → RSl X.K H1 F1 τ σ → WP X.K J F1 H1 xs ok → (r = false → xs.length ≤ sizeLine) → K0 xs ok st1 → Q1 J H1) : tlI X W r wa σ H Q1 :=
  ⟨F, τ, st, rs, sl, m (LE.ext e0) (fun xs ok st1 hk F1 H1 J e1 rs1 wp hz => n F1 H1 J xs ok st1 e1 rs1 (sl.ext e1) wp hz hk) h⟩
end

/-! ### a def, called -/
/-- a def's promise, laid into the layer's heap -/
def liftSp (K : PySem.W.Frag) (mg : Str → Option Value) (n : Nat) (sp : PSpec) : Sp := fun vs H Q E => ∃ F st pvs, RS K H F st ∧ DVs K H F pvs vs ∧ vs.length = n ∧ callS sp pvs st (LE K mg F H E) (LQ K F H Q)
structure FnG (P : Program) (w : World) (K : PySem.W.Frag) (mg : Str → Option Value) (base : Heap) (k : Nat) (f : Addr) (fd : FuncData) (ps : List Str) (sp : Sp) : Prop where
  len : ∀ vs H Q E, sp vs H Q E → vs.length = ps.length
  run : ∀ (A : Around) (outer : List Env) (s : Shared) (H : Hp) (args : Args) (us : List Value) (vs : List V) (Q : VK) (E : XK), A.guards = some [] → Room k A →
    Env0 P w K mg base A outer s H → BindsTo s fd args (ps.zip us) → Vals vs us → sp vs H Q E →
    codeAny (model P w) A (.call (.ref f) args) (CR (L2.CX P w) outer P w H s Q E) s
theorem FnG.mono {P : Program} {w : World} {K : PySem.W.Frag} {mg : Str → Option Value} {base : Heap} {j k : Nat} {f : Addr} {fd : FuncData} {ps : List Str} {sp : Sp} (F : FnG P w K mg base j f fd ps sp) (h : j ≤ k) : FnG P w K mg base k f fd ps sp :=
  ⟨F.len, fun A outer s H args us vs Q E hg hr => F.run A outer s H args us vs Q E hg (hr.mono h)⟩
/-- the program around a body: what runs, what the module's names hold -/
structure Wd where
  P : Program
  w : World
  K : PySem.W.Frag
  mg : Str → Option Value
  base : Heap
def HasFn (Γ : Wd) (k : Nat) (f : Str) (sp : PSpec) (n : Nat) : Prop := ∃ (fa : Addr) (fd : FuncData) (ps : List Str) (ds : List Value) (dv : List V) (pv : List PV) (sp' : PSpec), Γ.mg f = some (.ref fa) ∧ PySem.W.keepIn Γ.K (.ref fa) = true ∧ Binds Γ.K fd ps ds ∧
  Vals dv ds ∧ (∀ H F, DVs Γ.K H F pv dv) ∧ ps.length = n + pv.length ∧ (∀ vs st Q X, sp vs st Q X → sp' (vs ++ pv) st Q X) ∧ FnG Γ.P Γ.w Γ.K Γ.mg Γ.base k fa fd ps (liftSp Γ.K Γ.mg (n + pv.length) sp')
theorem HasFn.mono {Γ : Wd} {j k : Nat} {f : Str} {sp : PSpec} {n : Nat} (h : HasFn Γ j f sp n) (hk : j ≤ k) : HasFn Γ k f sp n := by
  obtain ⟨fa, fd, ps, ds, dv, pv, sp', a, b, c, d, e, g, i, h⟩ := h
  exact ⟨fa, fd, ps, ds, dv, pv, sp', a, b, c, d, e, g, i, h.mono hk⟩
/-- a def whose last parameter is given by its name -/
def HasFnK (Γ : Wd) (k : Nat) (f ks : Str) (sp : PSpec) (n : Nat) : Prop := ∃ (fa : Addr) (fd : FuncData) (ps : List Str), Γ.mg f = some (.ref fa) ∧ PySem.W.keepIn Γ.K (.ref fa) = true ∧
  (∀ (s : Shared) (us : List Value) (w : Value), Γ.K.In s.heap → us.length = n → BindsTo s fd ⟨us, [(ks, w)]⟩ (ps.zip (us ++ [w]))) ∧ ps.length = n + 1 ∧ FnG Γ.P Γ.w Γ.K Γ.mg Γ.base k fa fd ps (liftSp Γ.K Γ.mg (n + 1) sp)
theorem HasFnK.mono {Γ : Wd} {j k : Nat} {f ks : Str} {sp : PSpec} {n : Nat} (h : HasFnK Γ j f ks sp n) (hk : j ≤ k) : HasFnK Γ k f ks sp n := by
  obtain ⟨fa, fd, ps, a, b, c, d, e⟩ := h
  exact ⟨fa, fd, ps, a, b, c, d, e.mono hk⟩
def HasGl (Γ : Wd) (x : Str) (v : PV) : Prop := ∃ (u : Value) (y : V), Γ.mg x = some u ∧ L2.RelV y u ∧ ∀ H F, DV Γ.K H F v y
abbrev wdX (X : Cx) : Wd := ⟨X.prog, X.w, X.K, X.mg, X.base⟩
section
variable {X : Cx} {pins : List (Addr × Obj)} {σ : L2.St} {H : Hp} {s : Shared} {W : WX}
theorem run_gd {k : Nat} {f : Addr} {fd : FuncData} {ps : List Str} {sp : Sp} {Q : VK} {E : XK} {us ws : List Value} {kw : List (Str × Value)} {vs : List V} (F : FnG X.prog X.w X.K X.mg X.base k f fd ps sp) (hg : X.A.guards = some []) (hr : Room k X.A)
    (hb : BindsTo s fd ⟨us, kw⟩ (ps.zip ws)) (hx : PassesAt (L2.CX X.prog X.w) X σ E) (I : L2.Inv X pins σ H s) (r : Vals vs ws) (h : sp vs H Q E) : wpAny (model X.prog X.w) X.A (call (.ref f) us kw) (EP X pins σ Q) X.xe s := by
  refine wpAny_call (codeAny_mono (F.run X.A X.stack s H ⟨us, kw⟩ ws vs Q E hg hr I.env0 hb r h) fun q s' hq => ?_)
  cases q with
  | error e => exact hx pins H s e s' I hq
  | ok fl =>
    cases fl with
    | ret u => exact I.after hq
    | _ => exact hq.elim
end

/-! ### where a term is read -/
def bltNames : List Str := ["len", "int", "abs", "tuple", "list", "all", "any", "sum", "min", "max", "repr", "isinstance", "range", "enumerate", "zip", "bool", "str", "super"]
structure CxOk (X : Cx) (C : SC) (k : Nat) (W : WX) : Prop where
  hN : X.N = C.N
  nd : C.N.Nodup
  hsc : X.env.scope = C.sc
  calm : X.calm = true
  kindF : C.sc.kind = .function
  room : Room k X.A
  gds : X.A.guards = some []
  tk : L2.Takes X W
  po : PassesOwn (model X.prog X.w) X.A X.env X.xe
  tg : ∀ x, locB C.tsc x = true → Loc C.sc x ∧ (X.fn x = true ∨ C.sc.names.lookup x = some .local)
  blt : ∀ x ∈ bltNames, X.mg x = none
section
variable {X : Cx} {C : SC} {k : Nat} {W : WX}
theorem CxOk.vis (ok : CxOk X C k W) {x : Str} (h : visB C.sc x = true) : Vis X.env.scope x := by
  rw [ok.hsc]
  unfold visB at h
  split at h <;> first | exact .inl ‹_› | exact .inr (.inl ‹_›) | exact .inr (.inr ‹_›) | cases h
theorem CxOk.gl (ok : CxOk X C k W) {x : Str} (h : glB C.sc x = true) : Gl X x ∧ (x == ("__debug__" : Str)) = false := by
  unfold glB at h
  split at h
  · rename_i e
    refine ⟨?_, by simpa using h⟩
    show X.env.scope.names.lookup x = _
    rw [ok.hsc]; exact e
  · cases h
theorem CxOk.bn (ok : CxOk X C k W) (f : BF) : X.mg f.name = none := by
  refine ok.blt _ ?_
  cases f <;> decide +kernel
theorem boot_bf (f : BF) : bootBuiltins f.name = some f.val ∧ f.name ≠ "__name__" := by
  cases f <;> exact ⟨by decide +kernel, by decide +kernel⟩
theorem nm_ok (ok : CxOk X C k W) {i : Nat} {x : Str} {pos : Pos} (h : nmB C i x = true) : PE X (.Name x pos) (tVar i) := by
  unfold nmB at h
  simp only [Bool.and_eq_true, decide_eq_true_eq, Bool.not_eq_true'] at h
  obtain ⟨⟨⟨h1, h2⟩, h3⟩, h4⟩ := h
  exact pe_var (by rw [ok.hN]; exact h1) (ok.vis h2) h3 h4
theorem star_cons {e : Expr} {es : List Expr} {env : Env} (h : notStar e = true) : starEach (e :: es) env = (false, eval e env) :: starEach es env := by
  cases e <;> first | rfl | cases h
theorem chkEs_star : ∀ {as : Es} {C : SC} {es : List Expr}, chkEs as C es = true → ∀ env : Env, (starEach es env).all (fun x => !x.1) = true
  | .nil, C, es, h, env => by
    cases es with
    | nil => rfl
    | cons e r => cases h
  | .cons a as, C, es, h, env => by
    cases es with
    | nil => cases h
    | cons e r =>
      have h' : (notStar e && chkE a C e && chkEs as C r) = true := h
      simp only [Bool.and_eq_true] at h'
      rw [star_cons h'.1.1, List.all_cons, chkEs_star h'.2 env]
      rfl
theorem backTo_any {l : List (Bool × Sem Value)} {pos : Pos} (h : l.all (fun x => !x.1) = true) : (backTo pos l).any (·.1) = false := by
  unfold backTo
  rw [List.any_map, List.any_eq_false]
  intro x hx
  have := List.all_eq_true.mp h x hx
  simpa using this
theorem backTo_all {l : List (Bool × Sem Value)} {pos : Pos} (h : l.all (fun x => !x.1) = true) : (backTo pos l).all (fun x => !x.1) = true := by
  unfold backTo
  rw [List.all_map, List.all_eq_true]
  intro x hx
  exact List.all_eq_true.mp h x hx
end
theorem chkEs_len : ∀ {as : Es} {C : SC} {es : List Expr}, chkEs as C es = true → es.length = as.len
  | .nil, C, es, h => by
    cases es with
    | nil => rfl
    | cons e r => cases h
  | .cons a as, C, es, h => by
    cases es with
    | nil => cases h
    | cons e r =>
      have h' : (notStar e && chkE a C e && chkEs as C r) = true := h
      simp only [Bool.and_eq_true] at h'
      exact congrArg (· + 1) (chkEs_len h'.2)
theorem wpEs_len : ∀ (es : Es) {X : EQ} {τ : Sl} {st : Store} {Q : List PV → Store → Prop}, wpEs es X τ st Q → wpEs es X τ st fun vs s => vs.length = es.len ∧ Q vs s
  | .nil, _, _, _, _, h => ⟨rfl, h⟩
  | .cons e es, X, τ, st, Q, h => by
    unfold wpEs at h ⊢
    exact wpE_mono e (fun _ _ h => h) (fun v s h => wpEs_mono es (fun _ _ h => h) (fun vs s h => ⟨congrArg (· + 1) h.1, h.2⟩) (wpEs_len es h)) h
end TK

set_option maxRecDepth 100000
set_option maxHeartbeats 4000000
namespace TK
open PySem PySem.Spec PyProof.Rows L2
open PySem.AutoSeq1 (wpAny_loadPart')
/-! ### enumerate over a tuple -/
theorem meets_enumT (l : Addr) (items : Array Value) (n : Nat) (dct : Option Addr) (sl : Array (Option Value)) :
    Meets (Builtin.«enumerate.__new__» ⟨[.type "enumerate", .ref l], []⟩) (fun _ R s => s.heap.get? l = some { cls := .type "tuple", dict := dct, data := .seq items n, slots := sl } ∧
      R (.ok (.ret (.ref (s.heap.push { cls := .type "tuple_iterator", data := .fields #[.ref l, .int 0 0] }).objs.size)))
        { s with heap := (s.heap.push { cls := .type "tuple_iterator", data := .fields #[.ref l, .int 0 0] }).push { cls := .type "enumerate", data := .fields #[.none, .bool false, .ref s.heap.objs.size, rawInt 0, .none, .none] } }) :=
  .of_wp fun prog w A R s h => by
    obtain ⟨hp, g, d, tk, os⟩ := s; obtain ⟨hl, h⟩ := h
    have hsub := sub_enumerate
    have hL : Heap.IsTuple (Shared.heap ⟨hp, g, d, tk, os⟩) l items := ⟨_, hl, rfl, n, rfl⟩
    wp_walk using wpAny_loadPart' hl
    refine wpAny_stack_any fun st => wpAny_pure ?_
    split
    · rename_i c _ _ _ _ _
      cases (c == Value.type "enumerate")
      · wp_walk using wpAny_loadPart' hl, wpAny_pyIter_tuple hL
        exact ⟨_, rfl, h⟩
      · wp_walk using wpAny_loadPart' hl, wpAny_pyIter_tuple hL
        exact ⟨_, rfl, h⟩
    · wp_walk using wpAny_loadPart' hl, wpAny_pyIter_tuple hL
      exact ⟨_, rfl, h⟩
theorem call_enumT {prog : Program} {w : World} {A : Around} {E : Value → Shared → Prop} {s : Shared} {l : Addr} {items : Array Value} {Q : Value → Shared → Prop} (hL : s.heap.IsTuple l items)
    (h : ∀ h', IsEnum h' (s.heap.objs.size + 1) s.heap.objs.size 0 .none → h'.IsTupleIter s.heap.objs.size l 0 → h'.objs.size = s.heap.objs.size + 2 →
      (∀ b o, s.heap.get? b = some o → h'.get? b = some o) → Q (.ref (s.heap.objs.size + 1)) { s with heap := h' }) :
    wpAny (model prog w) A (call (.type "enumerate") [.ref l]) Q E s := by
  obtain ⟨⟨c, dct, dt, sl⟩, hl, hc, n, hd⟩ := hL
  replace hc : c = .type "tuple" := hc
  replace hd : dt = .seq items n := hd
  subst hc hd
  refine callType_new F.called_enumerate (by decide) (F.typeCall_enumerate_1 _) (F.newCall_enumerate_1 _) (fun obj => F.args_object_init_2 obj _) F.entry_enumerate_new
    (meets_enumT l items n dct sl) ⟨hl, ?_⟩
  have hz : (s.heap.push { cls := .type "tuple_iterator", data := .fields #[.ref l, .int 0 0] }).objs.size = s.heap.objs.size + 1 := Heap.size_push ..
  show _ ∧ _
  rw [hz]
  have he : IsEnum ((s.heap.push { cls := .type "tuple_iterator", data := .fields #[.ref l, .int 0 0] }).push
      { cls := .type "enumerate", data := .fields #[.none, .bool false, .ref s.heap.objs.size, rawInt 0, .none, .none] }) (s.heap.objs.size + 1) s.heap.objs.size 0 .none := by
    have := Heap.get?_push_size (s.heap.push { cls := .type "tuple_iterator", data := .fields #[.ref l, .int 0 0] })
      (o := { cls := .type "enumerate", data := .fields #[.none, .bool false, .ref s.heap.objs.size, rawInt 0, .none, .none] }) rfl
    rw [hz] at this; exact this
  refine ⟨⟨_, he, rfl⟩, h _ he ⟨_, Heap.get?_push_of_some _ (Heap.get?_push_size _ rfl), rfl, rfl⟩ (by rw [Heap.size_push, hz]) fun b o x => Heap.get?_push_of_some _ (Heap.get?_push_of_some _ x)⟩

def IteT (K : PySem.W.Frag) (a : Addr) : It :=
  ⟨fun i H => ∃ (xs : List V) (x : V), SqT K H a xs ∧ xs[i]? = some x, fun i H v H' => ∃ T x, v = .ref T ∧ H T = none ∧ H' = upd H T (.tup [.int (i : Nat), x]) ∧ ∀ xs, SqT K H a xs → xs[i]? = some x, fun i H => ∃ xs : List V, SqT K H a xs ∧ xs.length ≤ i⟩
theorem turn_enumT {P : Program} {w : World} {K : PySem.W.Frag} {elts : List Expr} {kk : Nat} {tpos : Pos} (a e it : Addr) :
    Turn P w K (.Tuple elts kk tpos) (IteT K a) [e, it] e (fun i h => (∃ old, IsEnum h e it ((i : Nat) : Int) old) ∧ h.IsTupleIter it a i ∧ e ≠ it) where
  mem := by simp
  obj := fun i h st b hb => by
    obtain ⟨⟨old, he⟩, ⟨o, ho, hc, hd⟩, _⟩ := st
    have e' : b = e ∨ b = it := by simpa using hb
    rcases e' with z | z
    · rw [z]; exact ⟨_, he, fun v q => nomatch q⟩
    · rw [z]; exact ⟨o, ho, fun v q => by rw [hd] at q; cases q⟩
  keep := fun i h h' st k => let ⟨⟨old, he⟩, hi, hne⟩ := st; ⟨⟨old, k e (by simp) _ he⟩, hi.at fun o q => k it (by simp) o q, hne⟩
  item := by
    intro X hP hw hK hc i pins s σ H E I hf st hg
    subst hP hw hK
    obtain ⟨⟨old, he⟩, hit, hne⟩ := st
    obtain ⟨xs, x, hq, hx⟩ := hg
    obtain ⟨its, rv, p, hz⟩ := I.tuple hq
    obtain ⟨u, hu, ru⟩ := rv.get hx
    have hel : e < s.heap.objs.size := Heap.lt_size he
    have hil : it < s.heap.objs.size := by obtain ⟨_, q, _⟩ := hit; exact Heap.lt_size q
    have pT : s.heap.IsTuple a its.toArray := p
    have hai : a ≠ it := fun z => by
      obtain ⟨o, h1, h2, _⟩ := hit
      obtain ⟨o2, h3, h4, _⟩ := pT
      rw [z, h1] at h3
      cases h3
      rw [h2] at h4
      exact absurd h4 (by decide)
    have hae : a ≠ e := fun z => by
      obtain ⟨o2, h3, h4, _⟩ := pT
      rw [z, he] at h3
      cases h3
      have h5 : Value.type "enumerate" = Value.type "tuple" := h4
      exact absurd h5 (by decide)
    have hh : X.A.in1.handled = none := I.ok.hd hc
    have hltI : i < its.toArray.size := by
      have := (List.getElem?_eq_some_iff.mp hu).1
      simpa using this
    refine wpAny_pyNext_enum_itemD (Draws.tuple hh it a hai its.toArray) he ⟨hit, pT⟩ hltI hne (by simp [hne, Ne.symm hae]) fun y h' tk hy ho hst hT hsz hk => ?_
    have ey : y = u := by
      have hy' : its.toArray[i]? = some y := hy
      rw [List.getElem?_toArray, hu] at hy'
      exact (Option.some.inj hy').symm
    subst ey
    refine ⟨_, rfl, wpAny_letOwnedTupleGo_enum (s := { s with heap := h', toks := tk + 1 }) ho fun h'' he' sb => ?_⟩
    have hT2 : h''.get? s.heap.objs.size = some { cls := .type "tuple", data := .seq #[.int i tk, y] } := (sb.2 _ (Nat.ne_of_gt hel)).trans hT
    have new : ObjOk X.prog X.w (upd H s.heap.objs.size (.tup [.int (i : Nat), x])) h'' s.heap.objs.size (.tup [.int (i : Nat), x]) :=
      ⟨by show 2 ≤ sizeLine; decide, [.int i tk, y], .cons ⟨_, rfl⟩ (.cons ru .nil), ⟨_, hT2, rfl, _, rfl⟩⟩
    have I1 : Inv X pins σ (upd H s.heap.objs.size (.tup [.int (i : Nat), x])) { s with heap := h'', toks := tk + 1 } :=
      I.turnedNew (ch := [e, it]) (fun b ob hb q => (sb.2 b (fun z => hb (by simp [z]))).trans (hk b ob (fun z => hb (by simp [z])) (fun z => hb (by simp [z])) q)) hf (Nat.le_refl _) new
    refine ⟨.ref s.heap.objs.size, _, I1, rfl, ⟨_, x, rfl, I.hok.fresh (Nat.le_refl _), rfl, fun ys hy => by rw [I.tuple_inj hy hq]; exact hx⟩, ⟨⟨y, ?_⟩, hst.1.at fun o q => (sb.2 it (Ne.symm hne)).trans q, hne⟩, fun b hb => ?_⟩
    · have e1 : ((i + 1 : Nat) : Int) = (i : Int) + 1 := by omega
      rw [e1]; exact he'
    · have hb' : b < s.heap.objs.size := by
        have e' : b = e ∨ b = it := by simpa using hb
        rcases e' with z | z
        · rw [z]; exact hel
        · rw [z]; exact hil
      rw [upd_ne (Nat.ne_of_lt hb')]
      exact (hf b hb).1
  done := by
    intro X hP hw hK hc i pins s σ H E I hf st hg
    subst hP hw hK
    obtain ⟨⟨old, he⟩, hit, hne⟩ := st
    obtain ⟨xs, hq, hx⟩ := hg
    obtain ⟨its, rv, p, hz⟩ := I.tuple hq
    obtain ⟨f0, f1, f2, f3, f4, f5⟩ := hf it (by simp)
    have hl := rv.length
    have pT : s.heap.IsTuple a its.toArray := p
    have hh : X.A.in1.handled = none := I.ok.hd hc
    have hno : its.toArray[i]? = none := by
      rw [List.getElem?_toArray]
      exact List.getElem?_eq_none (by omega)
    have hai : a ≠ it := fun z => by
      obtain ⟨o, h1, h2, _⟩ := hit
      obtain ⟨o2, h3, h4, _⟩ := pT
      rw [z, h1] at h3
      cases h3
      rw [h2] at h4
      exact absurd h4 (by decide)
    have D : Draws X.prog X.w X.A.in1 it [it, a] i (fun _ _ => False) (fun j h => j = i ∧ h.IsTupleIter it a i ∧ h.IsTuple a its.toArray) :=
      { live := fun _ _ st => let ⟨o, ho, _⟩ := st.2.1; ⟨o, ho⟩
        frame := fun _ _ _ st hk => ⟨st.1, st.2.1.at fun o e => hk it (by simp) o e, st.2.2.at fun o e => hk a (by simp) o e⟩
        item := fun j s Q E hj st hQ => absurd st.1 (Nat.ne_of_lt hj)
        done := fun s Q E st hE => wpAny_nextOf_tuple_end hh st.2.1 st.2.2 hno hE }
    exact wpAny_pyNext_enum_endD D he ⟨rfl, hit, pT⟩ fun h' eb => ⟨rfl, I.turned (t' := s.toks) (fun b o hb q => eb b o hb q) f0 f1 f3 f4 f5⟩
  self := fun A i s Q E st h => let ⟨⟨_, he⟩, _⟩ := st; wpAny_pyIter_enum he h

/-- enumerate over a list or a tuple -/
def iEnumA (K : PySem.W.Frag) (ta : TA) : TI := fun σ H R => ta σ H fun vs H1 => ∃ a xs, vs = [.ref a] ∧ ((SqL K H1 a xs ∧ R (Ite K a) H1) ∨ (SqT K H1 a xs ∧ R (IteT K a) H1))
theorem pi_enumA {X : Cx} {e : Expr} {ta : TA} {p pos tpos : Pos} {elts : List Expr} {kk : Nat} (hg : Gl X "enumerate") (hm : X.mg "enumerate" = none) (ha : PA X [e] ta) (hs : starEach [e] X.env = [(false, eval e X.env)] := by rfl) :
    PI X (.Tuple elts kk tpos) (.Call (.Name "enumerate" p) [e] [] pos) (iEnumA X.K ta) := by
  refine ⟨fun pins s σ H R I h => ?_⟩
  refine Call_ (ld_blt I hg hm boot_enumerate (PyProof.Rows.callWith_type1 (thn (ha.run pos pins s σ H _ I h) fun us s1 ⟨vs, H1, I1, r1, q1⟩ => ?_) hs rfl))
  obtain ⟨a, xs, ex, q⟩ := q1
  subst ex
  cases r1 with
  | cons r rr =>
    cases rr
    cases r
    have fpk : ∀ b, b ∈ [s1.heap.objs.size + 1, s1.heap.objs.size] → s1.heap.objs.size ≤ b := fun b hb => by
      have e' : b = s1.heap.objs.size + 1 ∨ b = s1.heap.objs.size := by simpa using hb
      rcases e' with z | z
      · rw [z]; exact Nat.le_add_right _ _
      · rw [z]; exact Nat.le_refl _
    rcases q with ⟨hq, q⟩ | ⟨hq, q⟩
    · obtain ⟨its, rv, p', hz⟩ := I1.list hq
      refine call_enumerate_list p'.isList fun h' he hit hsz hk => wpAny_pyIter_enum he ?_
      have I2 : Inv X pins σ H1 { s1 with heap := h' } := I1.kept (t' := s1.toks) hk
      refine ⟨s1.heap.objs.size + 1, [s1.heap.objs.size + 1, s1.heap.objs.size], _, _, H1, rfl, I2, turn_enum a (s1.heap.objs.size + 1) s1.heap.objs.size, ⟨⟨.none, he⟩, hit, Nat.succ_ne_self _⟩, fun b hb => ?_, q⟩
      exact I1.fpOk (fpk b hb) (I1.hok.fresh (fpk b hb))
    · obtain ⟨its, rv, p', hz⟩ := I1.tuple hq
      refine call_enumT (show s1.heap.IsTuple a its.toArray from p') fun h' he hit hsz hk => wpAny_pyIter_enum he ?_
      have I2 : Inv X pins σ H1 { s1 with heap := h' } := I1.kept (t' := s1.toks) hk
      refine ⟨s1.heap.objs.size + 1, [s1.heap.objs.size + 1, s1.heap.objs.size], _, _, H1, rfl, I2, turn_enumT a (s1.heap.objs.size + 1) s1.heap.objs.size, ⟨⟨.none, he⟩, hit, Nat.succ_ne_self _⟩, fun b hb => ?_, q⟩
      exact I1.fpOk (fpk b hb) (I1.hok.fresh (fpk b hb))
end TK
namespace TK
open PySem PySem.Spec PyProof.Rows L2 HT
section
variable {prog : Program} {w : World} {A : Around} {E : Value → Shared → Prop} {s : Shared}
theorem sliceApplied_rev {sl : Addr} {vs : Value} {n : Nat} {Q : Int × Int × Nat → Shared → Prop} (hs : s.heap.IsSliceOf sl .none .none vs) (ps : IsPart vs (some (-1)))
    (h : Q ((n : Int) - 1, -1, n) s) : wpAny (model prog w) A (Builtin.Slice.sliceApplied (.ref sl) (pure (n : Int))) Q E s := by
  obtain ⟨os, hos, hcs, hds⟩ := id hs
  unfold Builtin.Slice.sliceApplied Builtin.Slice.sliceFields
  refine wpAny_bind (wpAny_bind (wpAny_field hos hds (x := .none) rfl (wpAny_bind (wpAny_field hos hds (x := .none) rfl (wpAny_bind (wpAny_field hos hds (x := vs) rfl (wpAny_pure ?_)))))))
  refine wpAny_bind (slicePart_ ps ?_)
  show wpAny _ _ (if ((-1 : Int) == 0) = true then _ else _) _ _ s
  rw [if_neg (by decide)]
  refine wpAny_bind (slicePart_none (wpAny_bind (slicePart_none (wpAny_bind (wpAny_pure ?_)))))
  show wpAny _ _ (match Builtin.Slice.sliceAdjust none none (-1) (n : Int) with | (lo, hi) => pure (lo, (-1 : Int), Builtin.Slice.slicePlaces lo hi (-1))) _ _ s
  have e1 : Builtin.Slice.sliceAdjust none none (-1) (n : Int) = ((n : Int) - 1, -1) := rfl
  rw [e1]
  show wpAny _ _ (pure ((n : Int) - 1, (-1 : Int), Builtin.Slice.slicePlaces ((n : Int) - 1) (-1) (-1))) _ _ s
  have e2 : Builtin.Slice.slicePlaces ((n : Int) - 1) (-1) (-1) = n := by
    unfold Builtin.Slice.slicePlaces
    have h1 : ¬ ((-1 : Int) > 0) := by decide
    simp only [h1, if_false]
    have h3 : (-(-1 : Int)) = 1 := by decide
    rw [h3, Int.ediv_one]
    split <;> omega
  rw [e2]
  exact wpAny_pure h
theorem pick_rev (xs : Array Value) : ((List.range xs.size).filterMap fun (m : Nat) => xs[(((xs.size : Int) - 1) + (m : Int) * (-1)).toNat]?).toArray = xs.toList.reverse.toArray := by
  have e : (List.range xs.size).filterMap (fun (m : Nat) => xs[(((xs.size : Int) - 1) + (m : Int) * (-1)).toNat]?) = ((List.range xs.size).map fun k => xs.size - 1 - k).filterMap (xs[·]?) := by
    rw [List.filterMap_map]
    have gen : ∀ l : List Nat, (∀ m ∈ l, m < xs.size) → l.filterMap (fun (m : Nat) => xs[(((xs.size : Int) - 1) + (m : Int) * (-1)).toNat]?) = l.filterMap ((fun x => xs[x]?) ∘ fun k => xs.size - 1 - k) := by
      intro l
      induction l with
      | nil => intro _; rfl
      | cons m r ih =>
        intro h
        have := h m List.mem_cons_self
        have e : (((xs.size : Int) - 1) + (m : Int) * (-1)).toNat = xs.size - 1 - m := by omega
        rw [List.filterMap_cons, List.filterMap_cons, ih fun y hy => h y (List.mem_cons_of_mem _ hy), e]
        rfl
    exact gen _ fun m hm => List.mem_range.mp hm
  rw [e, PySem.W.krv_range, List.filterMap_reverse, PySem.W.krv_all]
theorem getItem_tuple_rev {t sl : Addr} {items : Array Value} {vs : Value} {Q : Value → Shared → Prop} (ht : IsTup s.heap t items) (hs : s.heap.IsSliceOf sl .none .none vs) (ps : IsPart vs (some (-1)))
    (h : Q (.ref s.heap.objs.size) { s with heap := s.heap.push { cls := .type "tuple", data := .seq items.toList.reverse.toArray } })
    (hsz : items.size ≤ sizeLine) : wpAny (model prog w) A (getItem (.ref t) (.ref sl)) Q E s := by
  have htake : sizeOk (.seq items.toList.reverse.toArray) := by
    show items.toList.reverse.toArray.size ≤ sizeLine
    rw [List.size_toArray, List.length_reverse, Array.length_toList]
    exact hsz
  obtain ⟨os, hos, hcs, hds⟩ := id hs
  have hTs : s.TypeIs (.ref sl) "slice" := ⟨os, hos, hcs⟩
  unfold getItem
  try with_reducible refine wpAny_holding ?_
  first | refine wpAny_bind (wpAny_pure ?_) | skip
  refine wpAny_bind (wpAny_sequenceKey ht.typeIs (by decide) ?_)
  refine wpAny_bind (wpAny_callSpecial?_slot (name := Str.ofString "__getitem__") ht.typeIs PyProof.Rows.slot_tuple_getitem
    (wpAny_call_entry PyProof.Rows.slot_tuple_getitem ht.typeIs entry_tuple_getitem ?_ (args_tuple_getitem _ _)))
  show wpAny _ _ (Builtin.Tuple.tupleItemsOf (.ref t) >>= _) _ _ s
  refine wpAny_bind (tupleItemsOf_ ht ?_)
  refine wpAny_bind (wpAny_typeOf hTs ?_)
  rw [if_pos (by decide)]
  refine wpAny_bind (sliceApplied_rev hs ps ?_)
  have hno : ¬ ((((items.size : Int) - 1) == 0 && (-1 : Int) == 1 && items.size == items.size) = true) := by
    intro q
    rw [Bool.and_eq_true, Bool.and_eq_true] at q
    have q1 : (-1 : Int) = 1 := eq_of_beq q.1.2
    omega
  show wpAny _ _ (if (((items.size : Int) - 1) == 0 && (-1 : Int) == 1 && items.size == items.size) = true then _ else _) _ _ s
  rw [if_neg hno, pick_rev]
  first
    | exact wpAny_bind (m := Builtin.Tuple.tupleExact _) (wpAny_newObj_type (wpAny_pure ⟨_, rfl, wpAny_pure h⟩) htake)
    | exact wpAny_bind (m := Builtin.Tuple.tupleExact _) (wpAny_newObj_type (wpAny_bind (wpAny_pure (wpAny_pure ⟨_, rfl, wpAny_pure h⟩))) htake)
    | exact wpAny_bind (wpAny_bind (m := Builtin.Tuple.tupleExact _) (wpAny_newObj_type (wpAny_pure (wpAny_pure ⟨_, rfl, wpAny_pure h⟩)) htake))
    | exact wpAny_bind (wpAny_bind (m := Builtin.Tuple.tupleExact _) (wpAny_newObj_type (wpAny_pure ⟨_, rfl, wpAny_pure h⟩) htake))
end
section
variable {X : Cx}
/-- t[::-1] of a tuple -/
def tRevT (K : PySem.W.Frag) (te : TE) : TE := fun σ H Q => te σ H fun x H1 => ∃ a xs, x = .ref a ∧ SqT K H1 a xs ∧ ∀ p, H1 p = none → Q (.ref p) (upd H1 p (.tup xs.reverse))
theorem pe_revT {e : Expr} {te : TE} {k : Nat} {p1 p2 p3 pos : Pos} (he : PE X e te) : PE X (.Subscript e (.Slice none none (some (.UnaryOp .USub (.Constant (.int 1) k p1) p2)) p3) pos) (tRevT X.K te) := by
  refine ⟨fun pins s σ H Q I h => ?_⟩
  refine Subscript_ (thn (he.run pins s σ H _ I h) fun v s1 ⟨x, H1, I1, r1, q1⟩ => ?_)
  obtain ⟨a, xs, ex, hx, q⟩ := q1
  subst ex
  cases r1
  have hst : PO X (some (.UnaryOp .USub (.Constant (.int 1) k p1) p2)) (tPart (tUn (rU fun i => .int (-i)) (tC (.int 1)))) := po_some (pe_un un_neg pe_int)
  refine wpAny_Slice (thn (po_none.run pins s1 σ H1 (fun o H2 => o = none ∧ H2 = H1) I1 ⟨rfl, rfl⟩) fun vl s2 ⟨l, H2, I2, pl, el, e2⟩ => ?_)
  subst el e2
  refine thn (po_none.run pins s2 σ H2 (fun o H3 => o = none ∧ H3 = H2) I2 ⟨rfl, rfl⟩) fun vu s3 ⟨u, H3, I3, pu, eu, e3⟩ => ?_
  subst eu e3
  refine thn (hst.run pins s3 σ H3 (fun o H4 => o = some (-1) ∧ H4 = H3) I3 ⟨1, rfl, -1, rfl, rfl, rfl⟩) fun vs s4 ⟨o, H4, I4, ps, eo, e4⟩ => ?_
  subst eo e4
  cases pl
  cases pu
  have I5 : Inv X pins σ H4 { s4 with heap := s4.heap.push { cls := .type "slice", data := .fields #[.none, .none, vs] } } := I4.kept (t' := s4.toks) fun b ob q => Heap.get?_push_of_some _ q
  obtain ⟨its, r, ht, hz⟩ := I5.tuple hx
  have hlen := r.length
  show wpAny (model X.prog X.w) X.A (subscriptTail e (.Slice none none (some (.UnaryOp .USub (.Constant (.int 1) k p1) p2)) p3) (.ref a) (.ref s4.heap.objs.size)) (EP X pins σ Q) X.xe { s4 with heap := s4.heap.push { cls := .type "slice", data := .fields #[.none, .none, vs] } }
  refine tail_any (ops := [.ref a, .ref s4.heap.objs.size]) ht.typeIs (PyProof.Rows.slot_tuple_getitem.lookup) ?_ (by with_unfolding_all rfl)
  refine getItem_tuple_rev ht (Heap.IsSliceOf.new _ .none .none vs) ps ?_ (by rw [List.size_toArray]; omega)
  refine ⟨.ref _, _, I5.laid (t' := s4.toks) (o := .tup xs.reverse) (fun b ob q => Heap.get?_push_of_some _ q) (Nat.le_refl _) ?_, rfl, q _ (I5.hok.fresh (Nat.le_refl _))⟩
  exact ⟨by rw [List.length_reverse]; exact hz, _, r.reverse, IsTup.new _ _⟩
end
end TK
namespace TK
open PySem PySem.Spec PyProof.Rows L2 HT
section
variable {X : Cx}
def rMaxD0 (K : PySem.W.Frag) : List V → List V → Hp → VK → Prop := fun vs zs H Q => ∃ (a : Addr) (ns : List Int), vs = [V.ref a] ∧ zs = [.int 0] ∧ SqL K H a (ns.map V.int) ∧ Q (.int (maxD0 ns)) H
theorem call_maxD (hc : X.calm = true) (hu : X.A.units + 64 < cLine) : CallRK X (.builtin "max") ["default"] (rMaxD0 X.K) := by
  intro pins s σ H xs zs us ws Q I rx rz h
  obtain ⟨a, ns, rfl, rfl, hs, q⟩ := h
  obtain ⟨its, rv, hl, _⟩ := I.list hs
  rw [Vals.ref1 rx]
  cases rz with
  | cons r0 rz =>
    cases rz
    obtain ⟨t0, rfl⟩ := r0
    have hd := depth_ints ns
    refine PySem.W.max_list_default (I.ok.hd hc) hl.isList (ints_all _ rv.ints) (alike_ints ns) (by omega) (fun e h' tk k => ?_) fun y ys i v h' tk bs e hv hr k => ?_
    · cases ns with
      | nil => exact ⟨.int 0, H, I.kept k, ⟨_, rfl⟩, q⟩
      | cons n r => cases e
    · cases ns with
      | nil => cases e
      | cons n r =>
        rw [List.map_cons] at e
        cases e
        rw [PySem.W.maxD_ints] at hr
        cases hr with
        | int i t => exact ⟨.int _, H, I.kept k, ⟨_, rfl⟩, q⟩
theorem pe_maxD {y : Expr} {te : TE} {p q pos kpos : Pos} {k : Nat} (hc : X.calm = true) (hu : X.A.units + 64 < cLine) (hg : Gl X "max") (hm : X.mg "max" = none) (ha : PE X y te) (hst : ∀ env, starEach [y] env = (false, eval y env) :: starEach [] env) :
    PE X (.Call (.Name "max" p) [y] [⟨some "default", .Constant (.int 0) k q, kpos⟩] pos) (tCKw (rMaxD0 X.K) (tCons te tNil) (tCons (tC (.int 0)) tNil)) := by
  have e0 := hst X.env
  refine pe_callBK (call_maxD hc hu) hg hm PyProof.Rows.Boot.«max» (pa_cons ha pa_nil e0) (pk_cons pe_int pk_nil) (by decide) (by decide) (by rw [e0]; rfl) (by rw [e0]; rfl)
end
end TK

set_option maxRecDepth 100000
set_option maxHeartbeats 4000000
namespace TK
open PySem PySem.Spec PyProof.Rows L2

/-! ### what is walked -/
section
variable {X : Cx} {pins : List (Addr × Obj)} {σ : L2.St} {H1 : Hp} {s1 : Shared} {a : Addr} {ys : List V} {tg : Expr} {R : It → Hp → Prop}
theorem iter_l (J : L2.Inv X pins σ H1 s1) (hq : SqL X.K H1 a ys) (q : R (Itl X.K a) H1) : wpAny (model X.prog X.w) X.A (pyIter (.ref a)) (PIE X pins σ tg R) X.xe s1 := by
  obtain ⟨its, rv, p, hz⟩ := J.list hq
  refine wpAny_pyIter_list p.isList ?_
  refine ⟨s1.heap.objs.size, [s1.heap.objs.size], _, _, H1, rfl, ?_, turn_list a _, ⟨_, Heap.get?_push_size _ rfl, rfl, rfl⟩, fun b hb => ?_, q⟩
  · exact J.kept (t' := s1.toks) fun c o e => Heap.get?_push_of_some _ e
  · rw [List.mem_singleton.mp hb]
    exact J.fpOk (Nat.le_refl _) (J.hok.fresh (Nat.le_refl _))
theorem iter_t (J : L2.Inv X pins σ H1 s1) (hq : SqT X.K H1 a ys) (q : R (Itt X.K a) H1) : wpAny (model X.prog X.w) X.A (pyIter (.ref a)) (PIE X pins σ tg R) X.xe s1 := by
  obtain ⟨its, rv, p, hz⟩ := J.tuple hq
  refine wpAny_pyIter_tuple (show s1.heap.IsTuple a its.toArray from p) ?_
  refine ⟨s1.heap.objs.size, [s1.heap.objs.size], _, _, H1, rfl, ?_, turn_tuple a _, ⟨_, Heap.get?_push_size _ rfl, rfl, rfl⟩, fun b hb => ?_, q⟩
  · exact J.kept (t' := s1.toks) fun c o e => Heap.get?_push_of_some _ e
  · rw [List.mem_singleton.mp hb]
    exact J.fpOk (Nat.le_refl _) (J.hok.fresh (Nat.le_refl _))
end
section
variable {K : PySem.W.Frag} {F0 : FS} {H0 : Hp} {a b : Addr} {xs zs : List PV} {ys ws : List V}
theorem wp_list (f : F0 a) (h : H0 a = some (.lst ys)) (ds : DVs K H0 F0 xs ys) : WP K (Itl K a) F0 H0 xs (fun _ => True) := by
  have at_ : ∀ {F H}, Ext F0 H0 F H → SqL K H a ys := fun e => .of (e.kp _ _ h (.inl f))
  refine ⟨fun _ _ _ h => h, fun i F H st hi e r _ => ?_, fun F H st e r _ => ⟨ys, at_ e, by rw [ds.length]; exact Nat.le_refl _⟩, fun i F H st x H' hi e r _ y => ?_⟩
  · rw [ds.length] at hi
    exact ⟨ys, ys[i], at_ e, by simp [hi]⟩
  · obtain ⟨rfl, y⟩ := y
    obtain ⟨v, hv, dv⟩ := ds.get' (y ys (at_ e))
    exact ⟨.refl, r, v, hv, dv.ext e⟩
theorem wp_ref (xs : List PV) : WP K (Itl K a) F0 H0 xs (fun s => s a = some (.lst xs)) := by
  refine ⟨fun _ _ hs h => hs _ _ h, fun i F H st hi e r o => ?_, fun F H st e r o => ?_, fun i F H st x H' hi e r o y => ?_⟩
  · obtain ⟨_, ys, h, ds⟩ := r.lst a xs o
    rw [ds.length] at hi
    exact ⟨ys, ys[i], .of h, by simp [hi]⟩
  · obtain ⟨_, ys, h, ds⟩ := r.lst a xs o
    exact ⟨ys, .of h, by rw [ds.length]; exact Nat.le_refl _⟩
  · obtain ⟨rfl, y⟩ := y
    obtain ⟨_, ys, h, ds⟩ := r.lst a xs o
    obtain ⟨v, hv, dv⟩ := ds.get' (y ys (.of h))
    exact ⟨.refl, r, v, hv, dv⟩
theorem wp_tup (h : SqT K H0 a ys) (ds : DVs K H0 F0 xs ys) : WP K (Itt K a) F0 H0 xs (fun _ => True) := by
  refine ⟨fun _ _ _ h => h, fun i F H st hi e r _ => ?_, fun F H st e r _ => ⟨ys, sqText e h, by rw [ds.length]; exact Nat.le_refl _⟩, fun i F H st x H' hi e r _ y => ?_⟩
  · rw [ds.length] at hi
    exact ⟨ys, ys[i], sqText e h, by simp [hi]⟩
  · obtain ⟨rfl, y⟩ := y
    obtain ⟨v, hv, dv⟩ := ds.get' (y ys (sqText e h))
    exact ⟨.refl, r, v, hv, dv.ext e⟩
theorem chrs_len (z : Str) : (chrs z).length = z.cps.size := by unfold chrs; rw [List.length_map, Array.length_toList]
theorem wp_str (z : Str) : WP K (Its z) F0 H0 (chrs z) (fun _ => True) := by
  refine ⟨fun _ _ _ h => h, fun i F H st hi e r _ => by rw [chrs_len] at hi; exact hi, fun F H st e r _ => by rw [chrs_len]; exact Nat.le_refl z.cps.size, fun i F H st x H' hi e r _ y => ?_⟩
  obtain ⟨rfl, c, hc, rfl⟩ := y
  refine ⟨.refl, r, .str ⟨#[c]⟩, ?_, .str _⟩
  unfold chrs
  rw [List.getElem?_map, Array.getElem?_toList, hc]; rfl
theorem rngL_len (lo : Int) (n : Nat) : (rngL lo n).length = n := by unfold rngL; rw [List.length_map, List.length_range]
theorem rngL_get {lo : Int} {n i : Nat} (h : i < n) : (rngL lo n)[i]? = some (.int (lo + i)) := by
  unfold rngL
  rw [List.getElem?_map, List.getElem?_range h]; rfl
theorem wp_rng (lo : Int) (n : Nat) : WP K (Itr lo n) F0 H0 (rngL lo n) (fun _ => True) := by
  refine ⟨fun _ _ _ h => h, fun i F H st hi e r _ => ?_, fun F H st e r _ => ?_, fun i F H st x H' hi e r _ y => ?_⟩
  · rw [rngL_len] at hi; exact hi
  · rw [rngL_len]; exact Nat.le_refl n
  · obtain ⟨rfl, rfl⟩ := y
    rw [rngL_len] at hi
    exact ⟨.refl, r, _, rngL_get hi, .int _⟩
theorem enumL_len : ∀ (k : Nat) (xs : List PV), (enumL k xs).length = xs.length
  | _, [] => rfl
  | k, _ :: r => congrArg (· + 1) (enumL_len (k + 1) r)
theorem enumL_get : ∀ {k i : Nat} {xs : List PV} {v : PV}, xs[i]? = some v → (enumL k xs)[i]? = some (.tup [.int ((k + i : Nat) : Int), v])
  | _, _, [], _, h => by simp at h
  | k, 0, x :: r, v, h => by simp at h; subst h; rfl
  | k, i + 1, x :: r, v, h => by
    have := enumL_get (k := k + 1) (i := i) (xs := r) (v := v) (by simpa using h)
    show (enumL (k + 1) r)[i]? = _
    rw [this]
    have e : k + 1 + i = k + (i + 1) := by omega
    rw [e]
theorem pair_ok {F : FS} {H : Hp} {st : Store} {T : Addr} {v w : PV} {x y : V} (r : RS K H F st) (hT : H T = none) (d : DV K H F v x) (d' : DV K H F w y) :
    Ext F H F (upd H T (.tup [x, y])) ∧ RS K (upd H T (.tup [x, y])) F st ∧ DV K (upd H T (.tup [x, y])) F (.tup [v, w]) (.ref T) :=
  ⟨.new hT, r.new hT, .tup (.of upd_same) (.cons (d.ext (.new hT)) (.cons (d'.ext (.new hT)) .nil))⟩
theorem wp_enumL (f : F0 a) (h : H0 a = some (.lst ys)) (ds : DVs K H0 F0 xs ys) : WP K (Ite K a) F0 H0 (enumL 0 xs) (fun _ => True) := by
  have at_ : ∀ {F H}, Ext F0 H0 F H → SqL K H a ys := fun e => .of (e.kp _ _ h (.inl f))
  refine ⟨fun _ _ _ h => h, fun i F H st hi e r _ => ?_, fun F H st e r _ => ⟨ys, at_ e, by rw [enumL_len, ds.length]; exact Nat.le_refl _⟩, fun i F H st x H' hi e r _ y => ?_⟩
  · rw [enumL_len, ds.length] at hi
    exact ⟨ys, ys[i], at_ e, by simp [hi]⟩
  · obtain ⟨T, z, rfl, hT, rfl, y⟩ := y
    obtain ⟨v, hv, dv⟩ := ds.get' (y ys (at_ e))
    obtain ⟨p1, p2, p3⟩ := pair_ok r hT (.int (i : Nat)) (dv.ext e)
    refine ⟨p1, p2, _, enumL_get hv, ?_⟩
    rw [Nat.zero_add]; exact p3
theorem wp_enumR (xs : List PV) : WP K (Ite K a) F0 H0 (enumL 0 xs) (fun s => s a = some (.lst xs)) := by
  refine ⟨fun _ _ hs h => hs _ _ h, fun i F H st hi e r o => ?_, fun F H st e r o => ?_, fun i F H st x H' hi e r o y => ?_⟩
  · obtain ⟨_, ys, h, ds⟩ := r.lst a xs o
    rw [enumL_len, ds.length] at hi
    exact ⟨ys, ys[i], .of h, by simp [hi]⟩
  · obtain ⟨_, ys, h, ds⟩ := r.lst a xs o
    exact ⟨ys, .of h, by rw [enumL_len, ds.length]; exact Nat.le_refl _⟩
  · obtain ⟨T, z, rfl, hT, rfl, y⟩ := y
    obtain ⟨_, ys, h, ds⟩ := r.lst a xs o
    obtain ⟨v, hv, dv⟩ := ds.get' (y ys (.of h))
    obtain ⟨p1, p2, p3⟩ := pair_ok r hT (.int (i : Nat)) dv
    refine ⟨p1, p2, _, enumL_get hv, ?_⟩
    rw [Nat.zero_add]; exact p3
theorem wp_enumT (h : SqT K H0 a ys) (ds : DVs K H0 F0 xs ys) : WP K (IteT K a) F0 H0 (enumL 0 xs) (fun _ => True) := by
  refine ⟨fun _ _ _ h => h, fun i F H st hi e r _ => ?_, fun F H st e r _ => ⟨ys, sqText e h, by rw [enumL_len, ds.length]; exact Nat.le_refl _⟩, fun i F H st x H' hi e r _ y => ?_⟩
  · rw [enumL_len, ds.length] at hi
    exact ⟨ys, ys[i], sqText e h, by simp [hi]⟩
  · obtain ⟨T, z, rfl, hT, rfl, y⟩ := y
    obtain ⟨v, hv, dv⟩ := ds.get' (y ys (sqText e h))
    obtain ⟨p1, p2, p3⟩ := pair_ok r hT (.int (i : Nat)) (dv.ext e)
    refine ⟨p1, p2, _, enumL_get hv, ?_⟩
    rw [Nat.zero_add]; exact p3
theorem zipL_len : ∀ (xs zs : List PV), (zipL xs zs).length = min xs.length zs.length
  | [], _ => by simp [zipL]
  | _ :: _, [] => by simp [zipL]
  | x :: r, y :: s => by show (zipL r s).length + 1 = _; rw [zipL_len r s, List.length_cons, List.length_cons]; omega
theorem zipL_get : ∀ {i : Nat} {xs zs : List PV} {v w : PV}, xs[i]? = some v → zs[i]? = some w → (zipL xs zs)[i]? = some (.tup [v, w])
  | _, [], _, _, _, h, _ => by simp at h
  | _, _ :: _, [], _, _, _, h => by simp at h
  | 0, x :: r, y :: s, v, w, h, h' => by simp at h h'; subst h h'; rfl
  | i + 1, x :: r, y :: s, v, w, h, h' => zipL_get (i := i) (xs := r) (zs := s) (by simpa using h) (by simpa using h')
theorem wp_zipL (f : F0 a) (h : H0 a = some (.lst ys)) (ds : DVs K H0 F0 xs ys) (f' : F0 b) (h' : H0 b = some (.lst ws)) (ds' : DVs K H0 F0 zs ws) : WP K (Itz K a b) F0 H0 (zipL xs zs) (fun _ => True) := by
  have at_ : ∀ {F H}, Ext F0 H0 F H → SqL K H a ys ∧ SqL K H b ws := fun e => ⟨.of (e.kp _ _ h (.inl f)), .of (e.kp _ _ h' (.inl f'))⟩
  refine ⟨fun _ _ _ h => h, fun i F H st hi e r _ => ?_, fun F H st e r _ => ⟨ys, ws, (at_ e).1, (at_ e).2, by rw [zipL_len, ds.length, ds'.length]; omega⟩, fun i F H st x H' hi e r _ y => ?_⟩
  · rw [zipL_len, ds.length, ds'.length] at hi
    have h1 : i < ys.length := by omega
    have h2 : i < ws.length := by omega
    exact ⟨ys, ws, ys[i], ws[i], (at_ e).1, (at_ e).2, by simp [h1], by simp [h2]⟩
  · obtain ⟨T, z, z', rfl, hT, rfl, y, y'⟩ := y
    obtain ⟨v, hv, dv⟩ := ds.get' (y ys (at_ e).1)
    obtain ⟨v', hv', dv'⟩ := ds'.get' (y' ws (at_ e).2)
    obtain ⟨p1, p2, p3⟩ := pair_ok r hT (dv.ext e) (dv'.ext e)
    exact ⟨p1, p2, _, zipL_get hv hv', p3⟩
theorem wp_zipT (h : SqT K H0 a ys) (ds : DVs K H0 F0 xs ys) (h' : SqT K H0 b ws) (ds' : DVs K H0 F0 zs ws) : WP K (RZ.ItzT K a b) F0 H0 (zipL xs zs) (fun _ => True) := by
  have at_ : ∀ {F H}, Ext F0 H0 F H → SqT K H a ys ∧ SqT K H b ws := fun e => ⟨sqText e h, sqText e h'⟩
  refine ⟨fun _ _ _ h => h, fun i F H st hi e r _ => ?_, fun F H st e r _ => ⟨ys, ws, (at_ e).1, (at_ e).2, by rw [zipL_len, ds.length, ds'.length]; omega⟩, fun i F H st x H' hi e r _ y => ?_⟩
  · rw [zipL_len, ds.length, ds'.length] at hi
    have h1 : i < ys.length := by omega
    have h2 : i < ws.length := by omega
    exact ⟨ys, ws, ys[i], ws[i], (at_ e).1, (at_ e).2, by simp [h1], by simp [h2]⟩
  · obtain ⟨T, z, z', rfl, hT, rfl, y, y'⟩ := y
    obtain ⟨v, hv, dv⟩ := ds.get' (y ys (at_ e).1)
    obtain ⟨v', hv', dv'⟩ := ds'.get' (y' ws (at_ e).2)
    obtain ⟨p1, p2, p3⟩ := pair_ok r hT (dv.ext e) (dv'.ext e)
    exact ⟨p1, p2, _, zipL_get hv hv', p3⟩
end

/-! ### targets -/
section
variable {X : Cx} {C : SC} {k : Nat} {W : WX}
/-- a target's reading -/
def tlG (K : PySem.W.Frag) (tg : TG) : L2.TG := fun v σ H Q => ∃ F τ τ' pv, RSl K H F τ σ ∧ DV K H F pv v ∧ tg.asg pv τ = some τ' ∧
  ∀ σ' : L2.St, RSl K H F τ' σ' → (∀ j, j ∉ tg.slots → σ'[j]? = σ[j]?) → Q σ' H
def tlGs (K : PySem.W.Frag) (tg : TGs) : L2.TGs := fun vs σ H Q => ∃ F τ τ' pvs, RSl K H F τ σ ∧ DVs K H F pvs vs ∧ tg.asg pvs τ = some τ' ∧
  ∀ σ' : L2.St, RSl K H F τ' σ' → (∀ j, j ∉ tg.slots → σ'[j]? = σ[j]?) → Q σ' H
theorem chkGs_star : ∀ {ts : TGs} {es : List Expr}, chkGs C ts es = true → ∀ env : Env, (assignEach es env).findIdx? (·.1) = none
  | .nil, es, h, env => by
    cases es with
    | nil => rfl
    | cons e r => cases h
  | .cons t ts, es, h, env => by
    cases es with
    | nil => cases h
    | cons e r =>
      have h' : (notStar e && chkG C t e && chkGs C ts r) = true := h
      simp only [Bool.and_eq_true] at h'
      have e1 : assignEach (e :: r) env = (false, assign e env) :: assignEach r env := by
        have := h'.1.1
        cases e <;> first | rfl | cases this
      rw [e1, List.findIdx?_cons, chkGs_star h'.2 env]
      rfl
theorem chkGs_len : ∀ {ts : TGs} {es : List Expr}, chkGs C ts es = true → ∀ (env : Env) {pvs : List PV} {τ τ' : Sl}, ts.asg pvs τ = some τ' → pvs.length = (assignEach es env).length
  | .nil, es, h, env, pvs, τ, τ', q => by
    cases es with
    | nil =>
      cases pvs with
      | nil => rfl
      | cons _ _ => cases q
    | cons e r => cases h
  | .cons t ts, es, h, env, pvs, τ, τ', q => by
    cases es with
    | nil => cases h
    | cons e r =>
      have h' : (notStar e && chkG C t e && chkGs C ts r) = true := h
      simp only [Bool.and_eq_true] at h'
      have e1 : assignEach (e :: r) env = (false, assign e env) :: assignEach r env := by
        have := h'.1.1
        cases e <;> first | rfl | cases this
      rw [e1]
      cases pvs with
      | nil => cases q
      | cons v vs =>
        have q' : (t.asg v τ).bind (ts.asg vs) = some τ' := q
        cases q1 : t.asg v τ with
        | none => rw [q1] at q'; cases q'
        | some τ1 =>
          rw [q1] at q'
          exact congrArg (· + 1) (chkGs_len h'.2 env (show ts.asg vs τ1 = some τ' from q'))
mutual
theorem sG : ∀ (tg : TG) {g : Expr}, CxOk X C k W → chkG C tg g = true → PG X g (tlG X.K tg)
  | .name i, g, ok, h => by
    unfold chkG at h
    split at h
    · simp only [Bool.and_eq_true, decide_eq_true_eq] at h
      obtain ⟨l1, l2⟩ := ok.tg _ h.2
      refine impG (pg_name (i := i) (by rw [ok.hN]; exact ok.nd) (by rw [ok.hN]; exact h.1) (by rw [ok.hsc]; exact l1) (by rw [ok.hsc]; exact l2)) fun v σ H Q q => ?_
      obtain ⟨F, τ, τ', pv, sl, d, e, q⟩ := q
      cases (Option.some.inj e)
      exact q _ (sl.set d i) fun j hj => List.getElem?_set_ne (fun z => hj (List.mem_singleton.mpr z.symm))
    · cases h
  | .tup ts, g, ok, h => by
    unfold chkG at h
    split at h
    · refine impG (pg_tup ok.calm (sGs ts ok h) rfl (chkGs_star h _)) fun v σ H Q q => ?_
      obtain ⟨F, τ, τ', pv, sl, d, e, q⟩ := q
      cases d with
      | tup h1 ds =>
        have e' : ts.asg _ τ = some τ' := e
        exact ⟨_, _, rfl, h1, by rw [← ds.length]; exact chkGs_len h _ e', F, τ, τ', _, sl, ds, e', q⟩
      | _ => cases e
    · cases h
theorem sGs : ∀ (tg : TGs) {gs : List Expr}, CxOk X C k W → chkGs C tg gs = true → PGs X gs (tlGs X.K tg)
  | .nil, gs, ok, h => by
    cases gs with
    | nil =>
      refine ⟨fun pins s σ H vs us Q I r q => ?_⟩
      obtain ⟨F, τ, τ', pvs, sl, ds, e, q⟩ := q
      cases ds with
      | nil =>
        cases (Option.some.inj e)
        exact pgs_nil.run pins s σ H _ us Q I r ⟨rfl, q _ sl fun _ _ => rfl⟩
      | cons _ _ => cases e
    | cons e r => cases h
  | .cons t ts, gs, ok, h => by
    cases gs with
    | nil => cases h
    | cons g r =>
      have h' : (notStar g && chkG C t g && chkGs C ts r) = true := h
      simp only [Bool.and_eq_true] at h'
      have e1 : (assignEach (g :: r) X.env).map (·.2) = assign g X.env :: (assignEach r X.env).map (·.2) := by
        have := h'.1.1
        cases g <;> first | rfl | cases this
      refine ⟨fun pins s σ H vs us Q I rr q => ?_⟩
      obtain ⟨F, τ, τ', pvs, sl, ds, e, q⟩ := q
      cases ds with
      | nil => cases e
      | @cons pv v pvs vs d ds =>
        have e' : (t.asg pv τ).bind (ts.asg pvs) = some τ' := e
        cases q1 : t.asg pv τ with
        | none => rw [q1] at e'; cases e'
        | some τ1 =>
          rw [q1] at e'
          refine (pgs_cons (sG t ok h'.1.2) (sGs ts ok h'.2) e1).run pins s σ H _ us Q I rr ⟨v, vs, rfl, F, τ, τ1, pv, sl, d, q1, fun σ1 sl1 k1 => ?_⟩
          refine ⟨F, τ1, τ', pvs, sl1, ds, e', fun σ2 sl2 k2 => q σ2 sl2 fun j hj => ?_⟩
          have hj' : j ∉ t.slots ++ ts.slots := hj
          rw [List.mem_append, not_or] at hj'
          exact (k2 j hj'.2).trans (k1 j hj'.1)
end
end
end TK

set_option maxRecDepth 100000
set_option maxHeartbeats 8000000
namespace TK
open PySem PySem.Spec PyProof.Rows L2
section
variable {X : Cx} {C : SC} {k : Nat} {W : WX}
theorem nobeh {o : CmpOp} {e : Expr} (h : notSet e = true) : behindInMarks o e = false := by
  cases e <;> first | rfl | cases h
theorem lastm {o p : CmpOp} {a b : Expr} (h : notSet b = true) : lastMarks [o, p] [a, b] = false := by
  show behindInMarks p b = false
  exact nobeh h
theorem plainIx {e : Expr} (h : notSlice e = true) : PlainIx e := by
  intro o i
  cases e <;> first | rfl | cases h
theorem attr_whole {e : Expr} (h : notCall e = true) (a : Str) (env : Env) (t : Sem Value) : attributeBase e a env t = t := by
  cases e <;> first | rfl | cases h
theorem plain_isTrue {e : Expr} (h : plainT e = true) (env : Env) : ∀ whole, isTrue e env whole = (do let v ← whole; standAt e.pos; holding [v] (truthy v)) := by
  intro whole
  cases e with
  | UnaryOp o x p => cases o <;> first | (with_unfolding_all rfl) | cases h
  | BoolOp _ _ _ => cases h
  | IfExp _ _ _ _ => cases h
  | Compare _ _ _ _ => cases h
  | _ => with_unfolding_all rfl
theorem folded {e : Expr} (h : notSet e = true) (env : Env) : ∀ x, foldedSetIterable e env x = pure x := by
  intro x
  cases e <;> first | rfl | cases h
theorem tru_lift {F : FS} {H : Hp} {st : Store} {v : PV} {x : V} {P : Bool → Store → Prop} (rs : RS X.K H F st) (d : DV X.K H F v x) (h : truV v st P) : ∃ b, TruV X.K x H b ∧ P b st := by
  unfold truV at h
  split at h
  · cases d; exact ⟨_, rfl, h⟩
  · cases d; exact ⟨_, rfl, h⟩
  · cases d; exact ⟨_, rfl, h⟩
  · cases d with
    | tup h1 ds => exact ⟨_, .inr (.inl ⟨_, h1, rfl⟩), by cases ds <;> exact h⟩
  · cases d with
    | lst f h1 ds => exact ⟨_, .inl ⟨_, .of h1, rfl⟩, by cases ds <;> exact h⟩
  · obtain ⟨xs, e, h⟩ := h
    cases d
    obtain ⟨_, ys, h1, ds⟩ := rs.lst _ _ e
    exact ⟨_, .inl ⟨_, .of h1, rfl⟩, by cases ds <;> exact h⟩
  · exact h.elim
abbrev pfX (X : Cx) (k : Nat) : Str → PSpec → Nat → Prop := HasFn (wdX X) k
abbrev pkX (X : Cx) (k : Nat) : Str → Str → PSpec → Nat → Prop := HasFnK (wdX X) k
abbrev pgX (X : Cx) : Str → PV → Prop := HasGl (wdX X)
/-- the context of a comprehension's block -/
theorem CxOk.blk {vs : List Nat} {scope : Scope} (ok : CxOk X C k W) (hblk0 : blkC C.N C.sc scope (ownOf C.N vs) = true) (s : Shared) (H : Hp) (a : Addr) (cl : List (Str × Addr)) (fp : List Addr) :
    CxOk (X.blk s H scope (compEnvC scope cl a X.env) fp) ⟨C.N, relS scope C.sc, scope⟩ k (fun _ _ _ _ => False) where
  hN := ok.hN
  nd := ok.nd
  hsc := by
    show relS scope X.env.scope = _
    rw [ok.hsc]
  calm := ok.calm
  kindF := by
    have := (blkOk_by hblk0).kind
    exact this
  room := ok.room
  gds := ok.gds
  tk := fun u s' ⟨_, _, _, _, _, _, _, _, _, _, _, _, _, _, _, _, w⟩ => w
  po := PassesOwn.never
  tg := fun x hx => by
    have hx' : locB scope x = true := hx
    unfold locB at hx'
    have key : ∀ kd, kd ≠ NameKind.free → scope.names.lookup x = some kd → (relS scope C.sc).names.lookup x = some kd := fun kd h1 h2 => lookup_relS_keep h1 h2
    split at hx'
    · rename_i e
      have := key _ (by decide) e
      exact ⟨.inl this, .inr this⟩
    · rename_i e
      refine ⟨.inr (key _ (by decide) e), .inl ?_⟩
      show (scope.names.lookup x == some NameKind.cell) = true
      rw [e]; rfl
    · cases hx'
  blt := ok.blt
theorem tyStr_more (ok : CxOk X C k W) {ty : Str} {c : String} (hc : c ∈ ["int", "bool", "str", "tuple", "list"]) (e : ty = Str.ofString c) : X.mg ty = none ∧ ty ≠ ("__name__" : Str) := by
  simp only [List.mem_cons, List.not_mem_nil, or_false] at hc
  subst e
  rcases hc with rfl | rfl | rfl | rfl | rfl <;> exact ⟨ok.blt _ (by decide +kernel), by decide +kernel⟩
theorem needTs_one {pf : Str → PSpec → Nat → Prop} {pk : Str → Str → PSpec → Nat → Prop} {pg : Str → PV → Prop} {t : T} (h : needTs pf pk pg (.cons t .nil)) : needT pf pk pg t := h.1

mutual
theorem asg_length : ∀ {tg : TG} {v : PV} {τ τ1 : Sl}, tg.asg v τ = some τ1 → τ1.length = τ.length
  | .name i, v, τ, τ1, h => by
    cases (Option.some.inj h)
    exact setS_length _ _ _
  | .tup ts, v, τ, τ1, h => by
    cases v with
    | tup xs => exact asgs_length (show ts.asg xs τ = some τ1 from h)
    | _ => cases h
theorem asgs_length : ∀ {tg : TGs} {v : List PV} {τ τ1 : Sl}, tg.asg v τ = some τ1 → τ1.length = τ.length
  | .nil, v, τ, τ1, h => by
    cases v with
    | nil => cases (Option.some.inj h); rfl
    | cons _ _ => cases h
  | .cons t ts, v, τ, τ1, h => by
    cases v with
    | nil => cases h
    | cons x r =>
      have h' : (t.asg x τ).bind (ts.asg r) = some τ1 := h
      cases q : t.asg x τ with
      | none => rw [q] at h'; cases h'
      | some τ2 =>
        rw [q] at h'
        exact (asgs_length (show ts.asg r τ2 = some τ1 from h')).trans (asg_length q)
end
theorem wipe_get (σ : L2.St) (j : Nat) : ∀ vs : List Nat, (L2.wipe σ vs)[j]? = if j ∈ vs then σ[j]?.map (fun _ => none) else σ[j]?
  | [] => by simp [L2.wipe]
  | v :: vs => by
    show ((L2.wipe σ vs).set v none)[j]? = _
    by_cases e : v = j
    · subst e
      by_cases hv : v < (L2.wipe σ vs).length
      · rw [List.getElem?_set_self hv, if_pos List.mem_cons_self]
        rw [L2.wipe_length] at hv
        rw [List.getElem?_eq_getElem hv]; rfl
      · rw [List.getElem?_eq_none (by rw [List.length_set]; omega), if_pos List.mem_cons_self]
        rw [L2.wipe_length] at hv
        rw [List.getElem?_eq_none (by omega)]; rfl
    · rw [List.getElem?_set_ne e, wipe_get σ j vs]
      by_cases hm : j ∈ vs
      · rw [if_pos hm, if_pos (List.mem_cons_of_mem _ hm)]
      · rw [if_neg hm, if_neg (fun z => (List.mem_cons.mp z).elim (fun z => e z.symm) hm)]
theorem wipe_same {σ σ2 : L2.St} {vs : List Nat} (hl : σ2.length = σ.length) (h : ∀ j, j ∉ vs → σ2[j]? = (L2.wipe σ vs)[j]?) : L2.wipe σ2 vs = L2.wipe σ vs := by
  apply List.ext_getElem?
  intro j
  rw [wipe_get, wipe_get]
  by_cases hm : j ∈ vs
  · rw [if_pos hm, if_pos hm]
    by_cases hj : j < σ.length
    · rw [List.getElem?_eq_getElem hj, List.getElem?_eq_getElem (by omega)]; rfl
    · rw [List.getElem?_eq_none (by omega), List.getElem?_eq_none (by omega)]
  · rw [if_neg hm, if_neg hm, h j hm, wipe_get, if_neg hm]
theorem lc_sound {F1 : FS} {H1 : Hp} {st1 : Store} {τ : Sl} {σ : L2.St} {vs : List Nat} {tg : TG} {t : EQ → Sl → Store → (Bool → Store → Prop) → Prop} {e : EQ → Sl → Store → PQ → Prop} {J : It} {xs : List PV} {oks : Store → Prop} {m : Bool} {Q : VK} {Q0 : PQ}
    {tt : TT} {te : TE} (hsl : tg.slots.all (fun i => decide (i ∈ vs)) = true) (rs1 : RS X.K H1 F1 st1) (sl1 : RSl X.K H1 F1 τ σ) (wp : WP X.K J F1 H1 xs oks) (hok : oks st1) (hlen : xs.length ≤ sizeLine)
    (hq : ∀ {ys : List PV} {s : Store}, newList m ys s Q0 → newList m ys s (LQ X.K F1 H1 Q))
    (h : lcL tg (t fun _ _ => False) (e fun _ _ => False) (wipeS τ vs) (fun acc s => newList m acc s Q0) xs st1 [])
    (ht : ∀ σ H P, (∃ F τ st, RS X.K H F st ∧ RSl X.K H F τ σ ∧ t (fun _ _ => False) τ st fun b st' => ∀ F' H', Ext F H F' H' → RS X.K H' F' st' → P b H') → tt σ H P)
    (he : ∀ σ H P, (∃ F τ st, RS X.K H F st ∧ RSl X.K H F τ σ ∧ e (fun _ _ => False) τ st (LQ X.K F H P)) → te σ H P)
    (mt : ∀ {τ st} {P P' : Bool → Store → Prop}, (∀ v s, P v s → P' v s) → t (fun _ _ => False) τ st P → t (fun _ _ => False) τ st P')
    (me : ∀ {τ st} {P P' : PQ}, (∀ v s, P v s → P' v s) → e (fun _ _ => False) τ st P → e (fun _ _ => False) τ st P') :
    ∀ D, H1 D = none → ∃ Wv : Nat → Nat → Hp → Prop, (∃ m, Wv 0 m (upd H1 D (.lst []))) ∧ ∀ i m H, Wv i m H →
      (J.stop i H ∧ Q (.ref D) H) ∨ (J.go i H ∧ ∃ Nx : Hp → Prop, (∀ H', Nx H' → ∃ m', m' < m ∧ Wv (i + 1) m' H') ∧ ∀ x H', J.yld i H x H' → tlG X.K tg x (L2.wipe σ vs) H' fun σ2 H2 => L2.wipe σ2 vs = L2.wipe σ vs ∧ tt σ2 H2 fun b H3 =>
        if b = true then te σ2 H3 fun y H4 => ∃ acc, H4 D = some (.lst acc) ∧ acc.length < sizeLine ∧ Nx (upd H4 D (.lst (acc ++ [y]))) else Nx H3) := by
  intro D hD
  have stD := rs1.no hD
  refine ⟨fun i n H => n = xs.length - i ∧ i ≤ xs.length ∧ ∃ F2 stb acc, Sub st1 stb ∧ stb D = none ∧ Ext F1 H1 F2 H ∧ RS X.K H F2 (up stb D (some (.lst acc))) ∧ acc.length ≤ i ∧ lcL tg (t fun _ _ => False) (e fun _ _ => False) (wipeS τ vs) (fun acc s => newList m acc s Q0) (xs.drop i) stb acc,
    ⟨xs.length, rfl, Nat.zero_le _, F1, st1, [], fun _ _ h => h, stD, .new hD, rs1.putNew hD .nil, Nat.zero_le _, h⟩, ?_⟩
  rintro i n H ⟨rfl, hi, F2, stb, acc, sb, sbD, x2, r2, hl, h2⟩
  have subb : Sub stb (up stb D (some (.lst acc))) := fun a c ha => by
    have n : a ≠ D := fun z => by rw [z, sbD] at ha; cases ha
    rw [up_ne n]; exact ha
  have sub : Sub st1 (up stb D (some (.lst acc))) := fun a c ha => subb a c (sb a c ha)
  by_cases hlt : i < xs.length
  · refine .inr ⟨wp.go i F2 H _ hlt x2 r2 (wp.mono _ _ sub hok), fun H' => ∃ F3 stn acc', Sub st1 stn ∧ stn D = none ∧ Ext F1 H1 F3 H' ∧ RS X.K H' F3 (up stn D (some (.lst acc'))) ∧ acc'.length ≤ i + 1 ∧ lcL tg (t fun _ _ => False) (e fun _ _ => False) (wipeS τ vs) (fun acc s => newList m acc s Q0) (xs.drop (i + 1)) stn acc',
      fun H' ⟨F3, stn, acc', a1, a2, a3, a4, a5, a6⟩ => ⟨xs.length - (i + 1), by omega, rfl, hlt, F3, stn, acc', a1, a2, a3, a4, a5, a6⟩, fun x H' y => ?_⟩
    obtain ⟨x3, r3, v, hv, dv⟩ := wp.yld i F2 H _ x H' hlt x2 r2 (wp.mono _ _ sub hok) y
    have hd : xs.drop i = v :: xs.drop (i + 1) := by
      rw [List.drop_eq_getElem_cons hlt]
      rw [List.getElem?_eq_getElem hlt] at hv
      rw [Option.some.inj hv]
    rw [hd] at h2
    have x13 := x2.trans x3
    cases ea : tg.asg v (wipeS τ vs) with
    | none =>
      have h3 : oP (tg.asg v (wipeS τ vs)) _ := h2
      rw [ea] at h3; exact h3.elim
    | some τ1 =>
      have h3 : oP (tg.asg v (wipeS τ vs)) _ := h2
      rw [ea] at h3
      refine ⟨F2, wipeS τ vs, τ1, v, (sl1.ext x13).wipe vs, dv, ea, fun σ2 sl2 k2 => ⟨?_, ?_⟩⟩
      · refine wipe_same ?_ fun j hj => k2 j fun z => hj (of_decide_eq_true (List.all_eq_true.mp hsl j z))
        have l1 := sl2.1
        have l2 := (sl1.wipe vs).1
        have l3 := L2.wipe_length σ vs
        have l4 : τ1.length = (wipeS τ vs).length := asg_length ea
        omega
      · refine ht _ _ _ ⟨F2, τ1, _, r3, sl2, mt (fun b s hb => ?_) (h3 _ subb)⟩
        obtain ⟨es, hb⟩ := hb
        subst es
        intro F4 H4 x4 r4
        cases b with
        | true =>
          refine he _ _ _ ⟨F4, τ1, _, r4, sl2.ext x4, me (fun y s hy => ?_) hb⟩
          intro F5 H5 y' x5 r5 d5
          have hy' : ∃ stn, Sub st1 stn ∧ stn D = none ∧ s = up stn D (some (.lst acc)) ∧ lcL tg (t fun _ _ => False) (e fun _ _ => False) (wipeS τ vs) (fun acc s => newList m acc s Q0) (xs.drop (i + 1)) stn (acc ++ [y]) := by
            rcases hy with ⟨es, hy⟩ | ⟨p, zs, hp, ey, es, hy⟩
            · exact ⟨stb, sb, sbD, es, hy⟩
            · have pD : p ≠ D := fun z => by rw [z, up_same] at hp; cases hp
              rw [up_ne pD] at hp
              refine ⟨up stb p (some (.lst zs)), fun a c ha => ?_, by rw [up_ne (Ne.symm pD)]; exact sbD, ?_, hy⟩
              · have hb := sb a c ha
                have n : a ≠ p := fun z => by rw [z, hp] at hb; cases hb
                rw [up_ne n]; exact hb
              · rw [es]
                funext b
                by_cases n : b = D
                · subst n; rw [up_ne (Ne.symm pD), up_same, up_same]
                · by_cases n2 : b = p
                  · subst n2; rw [up_same, up_ne n, up_same]
                  · rw [up_ne n2, up_ne n, up_ne n, up_ne n2]
          obtain ⟨stn, sn, snD, es, hzz⟩ := hy'
          subst es
          obtain ⟨nf, ys, hH, ds⟩ := r5.lst D acc up_same
          have ni : ∀ u, H5 D = some u → ¬ Imm u := fun u e => by
            rw [hH] at e; cases e; exact fun z => z
          refine ⟨ys, hH, by rw [← ds.length]; omega, F5, stn, acc ++ [y], sn, snD, ?_, ?_, by rw [List.length_append]; exact Nat.succ_le_succ hl, hzz⟩
          · exact ((x13.trans x4).trans x5).trans (.put nf ni)
          · have := r5.put nf ni (ds.append (.cons d5 .nil))
            have eup : up (up stn D (some (.lst acc))) D (some (.lst (acc ++ [y]))) = up stn D (some (.lst (acc ++ [y]))) := by
              funext b; unfold up; split <;> rfl
            rw [eup] at this
            exact this
        | false => exact ⟨F4, stb, acc, sb, sbD, x13.trans x4, r4, Nat.le_succ_of_le hl, hb⟩
  · have e : i = xs.length := by omega
    subst e
    refine .inl ⟨wp.stop F2 H _ x2 r2 (wp.mono _ _ sub hok), ?_⟩
    rw [List.drop_length] at h2
    have h3 := hq h2
    have stl : up stb D (some (.lst acc)) D = some (.lst acc) := up_same
    have edn : up (up stb D (some (.lst acc))) D Option.none = stb := by
      funext b
      by_cases n : b = D
      · subst n; rw [up_same, sbD]
      · rw [up_ne n, up_ne n]
    cases m with
    | true => exact h3 D sbD F2 H _ x2 r2 (.ref D)
    | false =>
      obtain ⟨x4, r4, d4⟩ := r2.freeze stl
      rw [edn] at r4
      exact h3 _ H _ (x2.trans x4) r4 d4

mutual
theorem sE : ∀ (e : E) {X : Cx} {C : SC} {k : Nat} {W : WX} {x : Expr}, CxOk X C k W → chkE e C x = true → needE (pfX X k) (pkX X k) (pgX X) e → PE X x (tl X W (wpE e))
  | .var i, X, C, k, W, x, ok, hc, hn => by
    unfold chkE at hc
    split at hc
    · refine impE (nm_ok ok hc) fun σ H Q q => ?_
      obtain ⟨F, τ, st, rs, sl, h⟩ := q
      unfold wpE at h
      cases e : getS τ i with
      | none => rw [e] at h; exact h.elim
      | some v =>
        rw [e] at h
        obtain ⟨y, e', d⟩ := sl.2 i v e
        exact ⟨y, e', LQ.now h rs d⟩
    · cases hc
  | .fvar i, X, C, k, W, x, ok, hc, hn => by
    unfold chkE at hc
    split at hc
    · refine impE (nm_ok ok hc) fun σ H Q q => ?_
      obtain ⟨F, τ, st, rs, sl, h⟩ := q
      unfold wpE at h
      cases e : getS τ i with
      | none => rw [e] at h; exact h.elim
      | some v =>
        rw [e] at h
        replace h : frzV v st (LQ X.K F H Q) := h
        obtain ⟨y, e', d⟩ := sl.2 i v e
        refine ⟨y, e', ?_⟩
        unfold frzV at h
        split at h
        · rename_i a
          cases q : st a with
          | none =>
            have e2 : lstOf st (.ref a) = none := by simp only [lstOf, q]
            rw [e2] at h; exact h.elim
          | some c =>
            cases c with
            | pool =>
              have e2 : lstOf st (.ref a) = none := by simp only [lstOf, q]
              rw [e2] at h; exact h.elim
            | lst xs =>
              have e2 : lstOf st (.ref a) = some xs := by simp only [lstOf, q]
              rw [e2] at h
              obtain ⟨x1, r1, d1⟩ := rs.freeze q
              cases d
              exact h _ _ _ x1 r1 d1
        · exact LQ.now h rs d
    · cases hc
  | .int n, X, C, k, W, x, ok, hc, hn => by
    unfold chkE at hc
    split at hc
    · have e := of_decide_eq_true hc
      subst e
      refine impE pe_int fun σ H Q q => ?_
      obtain ⟨F, τ, st, rs, sl, h⟩ := q
      exact LQ.now h rs (.int n)
    · cases hc
  | .bl n, X, C, k, W, x, ok, hc, hn => by
    unfold chkE at hc
    split at hc
    · have e := eq_of_beq hc
      subst e
      refine impE pe_bl fun σ H Q q => ?_
      obtain ⟨F, τ, st, rs, sl, h⟩ := q
      exact LQ.now h rs (.bl n)
    · cases hc
  | .non, X, C, k, W, x, ok, hc, hn => by
    unfold chkE at hc
    split at hc
    · refine impE pe_non fun σ H Q q => ?_
      obtain ⟨F, τ, st, rs, sl, h⟩ := q
      exact LQ.now h rs .non
    · cases hc
  | .str n, X, C, k, W, x, ok, hc, hn => by
    unfold chkE at hc
    split at hc
    · have e := of_decide_eq_true hc
      subst e
      refine impE pe_str fun σ H Q q => ?_
      obtain ⟨F, τ, st, rs, sl, h⟩ := q
      exact LQ.now h rs (.str n)
    · cases hc
  | .glob n v, X, C, k, W, x, ok, hc, hn => by
    unfold chkE at hc
    split at hc
    · simp only [Bool.and_eq_true, decide_eq_true_eq] at hc
      obtain ⟨e, hg⟩ := hc
      subst e
      obtain ⟨g1, g2⟩ := ok.gl hg
      obtain ⟨u, y, h1, h2, h3⟩ := hn
      refine impE (pe_glob g1 h1 h2 g2) fun σ H Q q => ?_
      obtain ⟨F, τ, st, rs, sl, h⟩ := q
      exact LQ.now h rs (h3 H F)
    · cases hc
  | .bin o m a b, X, C, k, W, x, ok, hc, hn => by
    unfold chkE at hc
    split at hc
    · simp only [Bool.and_eq_true, decide_eq_true_eq] at hc
      obtain ⟨⟨e, h1⟩, h2⟩ := hc
      subst e
      refine impE (pe_op (bin_ok (m := m)) (sE a ok h1 hn.1) (sE b ok h2 hn.2)) fun σ H Q q => ?_
      obtain ⟨F, τ, st, rs, sl, h⟩ := q
      unfold wpE at h
      refine tl_go (wpE_mono a) .refl rs sl h fun F1 H1 y v st1 e1 rs1 sl1 d1 h1 => ?_
      refine tl_go (wpE_mono b) e1 rs1 sl1 h1 fun F2 H2 z w st2 e2 rs2 sl2 d2 h2 => ?_
      exact ⟨F2, st2, v, w, rs2, d1.ext e2, d2, binV_mono (LQ.ext (e1.trans e2)) h2⟩
    · cases hc
  | .neg a, X, C, k, W, x, ok, hc, hn => by
    unfold chkE at hc
    split at hc
    · refine impE (pe_un un_neg (sE a ok hc hn)) fun σ H Q q => ?_
      obtain ⟨F, τ, st, rs, sl, h⟩ := q
      unfold wpE at h
      refine tl_go (wpE_mono a) .refl rs sl h fun F1 H1 y v st1 e1 rs1 sl1 d1 h1 => ?_
      unfold negV at h1
      split at h1
      · cases d1; exact ⟨_, rfl, h1 F1 H1 _ e1 rs1 (.int _)⟩
      · exact h1.elim
    · cases hc
  | .un f a, X, C, k, W, x, ok, hc, hn => by
    unfold chkE at hc
    split at hc
    · rename_i y hy
      unfold unSh at hy
      split at hy
      · cases hy
        refine impE (pe_revT (sE a ok hc hn)) fun σ H Q q => ?_
        obtain ⟨F, τ, st, rs, sl, h⟩ := q
        unfold wpE at h
        refine tl_go (wpE_mono a) .refl rs sl h fun F1 H1 y v st1 e1 rs1 sl1 d1 h1 => ?_
        cases d1 with
        | tup hs ds => exact ⟨_, _, rfl, hs, fun p hp => h1 F1 _ _ (e1.trans (.new hp)) (rs1.new hp) (.tup (.inl (.inl upd_same)) ((ds.ext (.new hp)).reverse))⟩
        | _ => exact False.elim h1
      · split at hy
        · rename_i hcond
          cases hy
          obtain ⟨rfl, rfl, hg, hst⟩ := hcond
          refine impE (pe_maxD ok.calm ok.room.units (ok.gl hg).1 (ok.blt _ (by decide +kernel)) (sE a ok hc hn) (fun env => star_cons hst)) fun σ H Q q => ?_
          obtain ⟨F, τ, st, rs, sl, h⟩ := q
          unfold wpE at h
          refine tl_go (wpE_mono a) .refl rs sl h fun F1 H1 y v st1 e1 rs1 sl1 d1 h1 => ?_
          have h1 : oP (lstOf st1 v) fun xs => oP (intsOf xs) fun ns => LQ X.K F H Q (.int (maxD0 ns)) st1 := h1
          cases q : lstOf st1 v with
          | none => rw [q] at h1; exact h1.elim
          | some zs =>
            rw [q] at h1
            have h1 : oP (intsOf zs) _ := h1
            cases q2 : intsOf zs with
            | none => rw [q2] at h1; exact h1.elim
            | some bs =>
              rw [q2] at h1
              obtain ⟨b, ys, rfl, h2, hs⟩ := lstOf_ok rs1 q d1
              rw [ints_ok q2 hs] at h2
              exact ⟨_, bs, rfl, rfl, .of h2, h1 F1 H1 _ e1 rs1 (.int _)⟩
        · cases hy
      · cases hy
    · cases hc
  | .not a, X, C, k, W, x, ok, hc, hn => by
    unfold chkE at hc
    split at hc
    · refine impE (pe_not (sE a ok hc hn)) fun σ H Q q => ?_
      obtain ⟨F, τ, st, rs, sl, h⟩ := q
      unfold wpE at h
      refine tl_go (wpE_mono a) .refl rs sl h fun F1 H1 y v st1 e1 rs1 sl1 d1 h1 => ?_
      cases d1 with
      | bl b => exact ⟨_, rfl, h1 F1 H1 _ e1 rs1 (.bl _)⟩
      | _ => exact h1.elim
    · cases hc
  | .cmp o a b, X, C, k, W, x, ok, hc, hn => by
    unfold chkE at hc
    split at hc
    · simp only [Bool.and_eq_true, decide_eq_true_eq] at hc
      obtain ⟨⟨⟨e, h1⟩, h3⟩, h2⟩ := hc
      subst e
      refine impE (pe_cmpR (cmp_ok ok.room.units) (sE a ok h1 hn.1) (sE b ok h2 hn.2) (nobeh h3)) fun σ H Q q => ?_
      obtain ⟨F, τ, st, rs, sl, h⟩ := q
      unfold wpE at h
      refine tl_go (wpE_mono a) .refl rs sl h fun F1 H1 y v st1 e1 rs1 sl1 d1 h1 => ?_
      refine tl_go (wpE_mono b) e1 rs1 sl1 h1 fun F2 H2 z w st2 e2 rs2 sl2 d2 h2 => ?_
      exact ⟨F2, st2, v, w, rs2, d1.ext e2, d2, cmpV_mono (LQ.ext (e1.trans e2)) h2⟩
    · cases hc
  | .chain o o' a b c, X, C, k, W, x, ok, hc, hn => by
    unfold chkE at hc
    split at hc
    · simp only [Bool.and_eq_true, decide_eq_true_eq] at hc
      obtain ⟨⟨⟨⟨⟨e, e'⟩, h1⟩, h2⟩, h4⟩, h3⟩ := hc
      subst e e'
      refine impE (pe_chain (cmp_ok ok.room.units) (cmp_ok ok.room.units) (sE a ok h1 hn.1) (sE b ok h2 hn.2.1) (sE c ok h3 hn.2.2) (lastm h4)) fun σ H Q q => ?_
      obtain ⟨F, τ, st, rs, sl, h⟩ := q
      unfold wpE at h
      refine tl_go (wpE_mono a) .refl rs sl h fun F1 H1 y v st1 e1 rs1 sl1 d1 h1 => ?_
      refine tl_go (wpE_mono b) e1 rs1 sl1 h1 fun F2 H2 z w st2 e2 rs2 sl2 d2 h2 => ?_
      refine ⟨F2, st2, v, w, rs2, d1.ext e2, d2, cmpV_mono (fun r st3 h3 => ?_) h2⟩
      intro F3 H3 u e3 rs3 d3
      have e13 := (e1.trans e2).trans e3
      cases d3 with
      | bl b =>
        refine ⟨b, rfl, ?_⟩
        have h3 : (if b = true then wpE c (LX X W σ F H) τ st3 fun u st4 => cmpV o' w u st4 (LQ X.K F H Q) else LQ X.K F H Q (.bl false) st3) := h3
        cases b with
        | false => exact h3 F3 H3 _ e13 rs3 (.bl _)
        | true =>
          refine tl_go (wpE_mono c) e13 rs3 (sl2.ext e3) h3 fun F4 H4 z4 w4 st4 e4 rs4 sl4 d4 h4 => ?_
          exact ⟨F4, st4, w, w4, rs4, d2.ext (e3.trans e4), d4, cmpV_mono (LQ.ext (e13.trans e4)) h4⟩
      | _ => exact h3.elim
    · cases hc
  | .bools o es, X, C, k, W, x, ok, hc, hn => by
    unfold chkE at hc
    split at hc
    · simp only [Bool.and_eq_true, decide_eq_true_eq] at hc
      obtain ⟨e, h1⟩ := hc
      subst e
      refine impE (sBs es ok h1 hn) fun σ H Q q => ?_
      obtain ⟨F, τ, st, rs, sl, h⟩ := q
      unfold wpE at h
      exact ⟨F, τ, st, rs, sl, h⟩
    · cases hc
  | .ite t a b, X, C, k, W, x, ok, hc, hn => by
    unfold chkE at hc
    split at hc
    · simp only [Bool.and_eq_true] at hc
      obtain ⟨⟨h1, h2⟩, h3⟩ := hc
      refine impE (pe_ifExp (sT t ok h1 hn.1) (sE a ok h2 hn.2.1) (sE b ok h3 hn.2.2)) fun σ H Q q => ?_
      obtain ⟨F, τ, st, rs, sl, h⟩ := q
      unfold wpE at h
      refine tlT_go (wpT_mono t) .refl rs sl h fun F1 H1 c st1 e1 rs1 sl1 h1 => ?_
      cases c with
      | true => exact tl_go (wpE_mono a) e1 rs1 sl1 h1 fun F2 H2 z w st2 e2 rs2 sl2 d2 h2 => h2 F2 H2 z (e1.trans e2) rs2 d2
      | false => exact tl_go (wpE_mono b) e1 rs1 sl1 h1 fun F2 H2 z w st2 e2 rs2 sl2 d2 h2 => h2 F2 H2 z (e1.trans e2) rs2 d2
    · cases hc
  | .tup es, X, C, k, W, x, ok, hc, hn => by
    unfold chkE at hc
    split at hc
    · refine impE (pe_tup (sA es ok hc hn)) fun σ H Q q => ?_
      obtain ⟨F, τ, st, rs, sl, h⟩ := q
      unfold wpE at h
      refine tlA_go (wpEs_mono es) .refl rs sl h fun F1 H1 y v st1 e1 rs1 sl1 d1 h1 => ?_
      exact ⟨by rw [← d1.length]; exact h1.1, newTup_ok (LQ.ext e1 _ _ h1.2) rs1 d1⟩
    · cases hc
  | .lst m es, X, C, k, W, x, ok, hc, hn => by
    unfold chkE at hc
    split at hc
    · refine impE (pe_lst (sA es ok hc hn)) fun σ H Q q => ?_
      obtain ⟨F, τ, st, rs, sl, h⟩ := q
      unfold wpE at h
      refine tlA_go (wpEs_mono es) .refl rs sl h fun F1 H1 y v st1 e1 rs1 sl1 d1 h1 => ?_
      exact ⟨by rw [← d1.length]; exact h1.1, newList_ok (newList_mono (LQ.ext e1) h1.2) rs1 d1⟩
    · cases hc
  | .idx a i, X, C, k, W, x, ok, hc, hn => by
    unfold chkE at hc
    split at hc
    · simp only [Bool.and_eq_true] at hc
      obtain ⟨⟨h1, h2⟩, h3⟩ := hc
      refine impE (pe_ix ix_ok (sE a ok h1 hn.1) (sE i ok h3 hn.2) (plainIx h2)) fun σ H Q q => ?_
      obtain ⟨F, τ, st, rs, sl, h⟩ := q
      unfold wpE at h
      refine tl_go (wpE_mono a) .refl rs sl h fun F1 H1 y v st1 e1 rs1 sl1 d1 h1 => ?_
      refine tl_go (wpE_mono i) e1 rs1 sl1 h1 fun F2 H2 z w st2 e2 rs2 sl2 d2 h2 => ?_
      exact ⟨F2, st2, v, w, rs2, d1.ext e2, d2, idxV_mono (LQ.ext (e1.trans e2)) h2⟩
    · cases hc
  | .slice m a lo hi, X, C, k, W, x, ok, hc, hn => by
    unfold chkE at hc
    split at hc
    · simp only [Bool.and_eq_true] at hc
      obtain ⟨⟨h1, h2⟩, h3⟩ := hc
      refine impE (pe_slice (sl_ok (m := m)) (sE a ok h1 hn.1) (sO lo ok h2 hn.2.1) (sO hi ok h3 hn.2.2)) fun σ H Q q => ?_
      obtain ⟨F, τ, st, rs, sl, h⟩ := q
      unfold wpE at h
      refine tl_go (wpE_mono a) .refl rs sl h fun F1 H1 y v st1 e1 rs1 sl1 d1 h1 => ?_
      refine tlO_go (wpO_mono lo) e1 rs1 sl1 h1 fun F2 H2 l st2 e2 rs2 sl2 h2 => ?_
      refine tlO_go (wpO_mono hi) (e1.trans e2) rs2 sl2 h2 fun F3 H3 u st3 e3 rs3 sl3 h3 => ?_
      exact ⟨F3, st3, v, rs3, d1.ext (e2.trans e3), sliceV_mono (LQ.ext ((e1.trans e2).trans e3)) h3⟩
    · cases hc
  | .call f sp es, X, C, k, W, x, ok, hc, hn => by
    unfold chkE at hc
    split at hc
    · rename_i p xs pos
      simp only [Bool.and_eq_true, decide_eq_true_eq] at hc
      obtain ⟨⟨e, hg⟩, h1⟩ := hc
      subst e
      obtain ⟨g1, g2⟩ := ok.gl hg
      obtain ⟨⟨fa, fd, ps, ds, dv, pv, sp', m1, m2, m3, m4, m5, m6, m7, m8⟩, hn2⟩ := hn
      have ha := sA es ok h1 hn2
      refine ⟨fun pins s σ H Q I q => ?_⟩
      obtain ⟨F, τ, st, rs, sl, h⟩ := q
      unfold wpE at h
      have hA : tlA X W (wpEs es) σ H (fun ys H1 => liftSp X.K X.mg (es.len + pv.length) sp' (ys ++ dv) H1 Q (WE W σ)) := by
        refine tlA_go (wpEs_mono es) .refl rs sl (wpEs_len es h) fun F1 H1 y v st1 e1 rs1 sl1 d1 h1 => ?_
        obtain ⟨hl, Q0, X0, c1, c2, c3⟩ := h1
        exact ⟨F1, st1, v ++ pv, rs1, d1.append (m5 H1 F1), by rw [List.length_append, ← d1.length, hl, (m5 H1 F1).length], Q0, X0, m7 _ _ _ _ c1, fun v s h => LQ.ext e1 _ _ (c2 v s h), fun e s h => LE.ext e1 _ _ (c3 e s h)⟩
      have fin : ∀ (us : List Value) (vs : List V) (s1 : Shared) (H1 : Hp), Inv X pins σ H1 s1 → Vals vs us → liftSp X.K X.mg (es.len + pv.length) sp' (vs ++ dv) H1 Q (WE W σ) → wpAny (model X.prog X.w) X.A (call (.ref fa) us) (EP X pins σ Q) X.xe s1 := by
        intro us vs s1 H1 I1 r q
        have hl := m8.len _ _ _ _ q
        refine run_gd (ws := us ++ ds) m8 ok.gds ok.room (m3 s1 us I1.kIn ?_) (passAt ok.tk σ) I1 (r.append m4) q
        rw [← hl, List.length_append, List.length_append, r.length, m4.length]
      refine wpAny_Call_Name_kw (ld_glob I g1 m1 ?_ g2)
      cases xs with
      | nil =>
        have hnil : es = .nil := by
          cases es with
          | nil => rfl
          | cons _ _ => cases h1
        subst hnil
        refine PySem.W.callWith_K0 I.kIn m2 (fin [] [] s H I .nil ?_)
        obtain ⟨F1, τ1, st1, rs1, sl1, h1⟩ := hA
        exact h1 F1 H [] .refl rs1 .nil
      | cons x0 xr =>
        have hst : notStar x0 = true := by
          cases es with
          | nil => cases h1
          | cons a as =>
            have h' : (notStar x0 && chkE a C x0 && chkEs as C xr) = true := h1
            simp only [Bool.and_eq_true] at h'
            exact h'.1.1
        have hall := chkEs_star h1 X.env
        rw [star_cons hst, List.all_cons, Bool.and_eq_true] at hall
        exact PySem.W.callWith_K (h₀ := X.base) I.ok.mod.kin m2 (thn (ha.run pos pins s σ H _ I hA) fun us s1 ⟨vs, H1, I1, r, q⟩ => ⟨I1.kIn, fin us vs s1 H1 I1 r q⟩) (star_cons hst) (backTo_any hall.2)
    · cases hc
  | .callK f ks sp es ek, X, C, k, W, x, ok, hc, hn => by
    unfold chkE at hc
    split at hc
    · rename_i y p x0 xr z w kp pos
      simp only [Bool.and_eq_true, decide_eq_true_eq] at hc
      obtain ⟨⟨⟨⟨e, hg⟩, h1⟩, e2⟩, h2⟩ := hc
      subst e e2
      obtain ⟨g1, g2⟩ := ok.gl hg
      obtain ⟨⟨fa, fd, ps, m1, m2, m3, m4, m5⟩, hn2, hn3⟩ := hn
      have ha := sA es ok h1 hn2
      have hk := pk_cons (nm := some ks) (kpos := kp) (sE ek ok h2 hn3) pk_nil
      refine ⟨fun pins s σ H Q I q => ?_⟩
      obtain ⟨F, τ, st, rs, sl, h⟩ := q
      unfold wpE at h
      have hA : tlA X W (wpEs es) σ H (fun ys H1 => tCons (tl X W (wpE ek)) tNil σ H1 fun zs H2 => ∃ z, zs = [z] ∧ ys.length = es.len ∧ liftSp X.K X.mg (es.len + 1) sp (ys ++ [z]) H2 Q (WE W σ)) := by
        refine tlA_go (wpEs_mono es) .refl rs sl (wpEs_len es h) fun F1 H1 y v st1 e1 rs1 sl1 d1 h1 => ?_
        refine tl_go (wpE_mono ek) e1 rs1 sl1 h1.2 fun F2 H2 z w st2 e2 rs2 sl2 d2 h2 => ?_
        have ly : y.length = es.len := by rw [← d1.length]; exact h1.1
        obtain ⟨Q0, X0, c1, c2, c3⟩ := h2
        exact ⟨z, rfl, ly, F2, st2, v ++ [w], rs2, (d1.ext e2).append (.cons d2 .nil), by rw [List.length_append, ly]; rfl, Q0, X0, c1, fun v s h => LQ.ext (e1.trans e2) _ _ (c2 v s h), fun e s h => LE.ext (e1.trans e2) _ _ (c3 e s h)⟩
      have hst : notStar x0 = true := by
        cases es with
        | nil => cases h1
        | cons a as =>
          have h' : (notStar x0 && chkE a C x0 && chkEs as C xr) = true := h1
          simp only [Bool.and_eq_true] at h'
          exact h'.1.1
      have hall := chkEs_star h1 X.env
      rw [star_cons hst, List.all_cons, Bool.and_eq_true] at hall
      refine wpAny_Call_Name_kw (ld_glob I g1 m1 ?_ g2)
      refine PySem.W.callWith_KW (h₀ := X.base) I.ok.mod.kin m2 (by rfl) (thn (ha.run pos pins s σ H _ I hA) fun us s1 ⟨vs, H1, I1, r, q⟩ => ?_) ?_ (star_cons hst)
      · refine thn (hk.run pos pins s1 σ H1 _ I1 q) fun ws s2 ⟨zs, H2, I2, rz, z, ez, ly, q2⟩ => ⟨I2.kIn, ?_⟩
        subst ez
        obtain ⟨u, rfl, ru⟩ := vals1 rz
        show wpAny _ _ (call (.ref fa) us [(ks, u)]) _ _ _
        exact run_gd (ws := us ++ [u]) m5 ok.gds ok.room (m3 s2 us u I2.kIn (by rw [← r.length]; exact ly)) (passAt ok.tk σ) I2 (r.append (.cons ru .nil)) q2
      · have := backTo_any (pos := pos) hall.2
        show ((backTo pos (starEach (x0 :: xr) X.env)).any (·.1) || false) = false
        rw [star_cons hst, Bool.or_false]
        exact this
    · cases hc
  | .blt f m es, X, C, k, W, x, ok, hc, hn => by
    unfold chkE at hc
    split at hc
    · rename_i p xs pos
      simp only [Bool.and_eq_true, decide_eq_true_eq] at hc
      obtain ⟨⟨⟨e, hg⟩, hne⟩, h1⟩ := hc
      subst e
      obtain ⟨g1, g2⟩ := ok.gl hg
      obtain ⟨b1, b2⟩ := boot_bf f
      have ha := sA es ok h1 hn
      cases xs with
      | nil => cases hne
      | cons x0 xr =>
        have hst : notStar x0 = true := by
          cases es with
          | nil => cases h1
          | cons a as =>
            have h' : (notStar x0 && chkE a C x0 && chkEs as C xr) = true := h1
            simp only [Bool.and_eq_true] at h'
            exact h'.1.1
        have hall := chkEs_star h1 X.env
        rw [star_cons hst, List.all_cons, Bool.and_eq_true] at hall
        have fin : ∀ σ H Q, tl X W (wpE (.blt f m es)) σ H Q → tCB (rC X.K (bltV f m)) (tlA X W (wpEs es)) σ H Q := fun σ H Q q => by
          obtain ⟨F, τ, st, rs, sl, h⟩ := q
          unfold wpE at h
          refine tlA_go (wpEs_mono es) .refl rs sl h fun F1 H1 y v st1 e1 rs1 sl1 d1 h1 => ?_
          exact ⟨F1, st1, v, rs1, d1, bltV_mono (LQ.ext e1) h1⟩
        have hb := blt_ok (X := X) (f := f) (m := m) ok.calm ok.gds ok.room.units
        cases ht : f.isTy with
        | true =>
          have ev : f.val = .type f.id := by unfold BF.val; rw [ht]; rfl
          rw [ev] at hb b1
          exact impE (pe_callTy hb g1 (ok.bn f) b1 ha b2 g2 (star_cons hst) (backTo_any hall.2)) fin
        | false =>
          have ev : f.val = .builtin f.id := by unfold BF.val; rw [ht]; rfl
          rw [ev] at hb b1
          exact impE (pe_callB hb g1 (ok.bn f) b1 ha b2 g2 (star_cons hst) (backTo_any hall.2)) fin
    · cases hc
  | .isi a ty, X, C, k, W, x, ok, hc, hn => by
    unfold chkE at hc
    split at hc
    · simp only [Bool.and_eq_true, decide_eq_true_eq] at hc
      obtain ⟨⟨⟨⟨⟨⟨e, hg⟩, hst⟩, h1⟩, e2⟩, ht⟩, hg2⟩ := hc
      subst e e2
      obtain ⟨g1, g2⟩ := ok.gl hg
      obtain ⟨g3, g4⟩ := ok.gl hg2
      obtain ⟨c, hcm, ec, bc⟩ := tyStr_ok ht
      have m1 : X.mg ("isinstance" : Str) = none := ok.blt _ (by decide +kernel)
      obtain ⟨m2, ne⟩ := tyStr_more ok hcm ec
      refine impE (pe_callB call_isi g1 m1 (by decide +kernel) (pa_cons (sE a ok h1 hn) (pa_cons (pe_bltn g3 m2 bc (v := .ty c) rfl ne g4) pa_nil rfl) (star_cons hst)) (by decide) g2 (star_cons hst) rfl) fun σ H Q q => ?_
      obtain ⟨F, τ, st, rs, sl, h⟩ := q
      unfold wpE at h
      refine tl_go (wpE_mono a) .refl rs sl h fun F1 H1 y v st1 e1 rs1 sl1 d1 h1 => ?_
      cases e : isiV _ v with
      | none => rw [e] at h1; exact h1.elim
      | some b =>
        rw [e] at h1
        obtain ⟨n1, n2, n3⟩ := isi_val hcm ec e
        obtain ⟨t1, t2⟩ := TyX_ok d1 n1 n2
        exact ⟨y, .ty c, _, _, b, rfl, .ty c, t1, by rw [kit_ty (kit_ok t2 hcm), n3], h1 F1 H1 _ e1 rs1 (.bl b)⟩
    · cases hc
  | .meth f o es, X, C, k, W, x, ok, hc, hn => by
    unfold chkE at hc
    split at hc
    · rename_i xs cp
      simp only [Bool.and_eq_true, decide_eq_true_eq] at hc
      obtain ⟨⟨⟨⟨⟨e, hl⟩, hno⟩, h30⟩, h1⟩, h2⟩ := hc
      subst e
      have ho := sE o ok h1 hn.1
      have ha := sA es ok h2 hn.2
      have slot : Slot "list" f.name f.id := by
        cases f
        · exact PySem.F.slot_list_append
        · exact PySem.F.slot_list_extend
        · exact PySem.F.slot_list_pop
        · exact PySem.F.slot_list_index
      have hty : typeOf (.builtin f.id) = pure (.type "method_descriptor") := by
        cases f
        · exact PySem.F.type_list_append
        · exact PySem.F.type_list_extend
        · exact PySem.F.type_list_pop
        · exact PySem.F.type_list_index
      have ty : ∀ {F H st v x}, RS X.K H F st → DV X.K H F v x → isLst st v → tyV X.K "list" x H := fun {F H st v x} rs d h => by
        unfold isLst at h
        cases e : lstOf st v with
        | none => rw [e] at h; exact h.elim
        | some xs =>
          obtain ⟨a, ys, rfl, h1, _⟩ := lstOf_ok rs e d
          exact .inl ⟨rfl, ys, .of h1⟩
      cases xs with
      | nil =>
        have hnil : es = .nil := by
          cases es with
          | nil => rfl
          | cons _ _ => cases h2
        subst hnil
        refine impE (pe_bm0 PySem.F.plainAttrs_list slot hty meth_ok ho (attr_whole hno _ _ _) hl) fun σ H Q q => ?_
        obtain ⟨F, τ, st, rs, sl, h⟩ := q
        unfold wpE at h
        refine tl_go (wpE_mono o) .refl rs sl h fun F1 H1 y v st1 e1 rs1 sl1 d1 h1 => ?_
        have h2 : methV f v [] st1 (LQ X.K F H Q) := h1.2
        exact ⟨ty rs1 d1 h1.1, F1, st1, v, [], rs1, d1, .nil, methV_mono (LQ.ext e1) h2⟩
      | cons x0 xr =>
        have hst : notStar x0 = true := by
          cases es with
          | nil => cases h2
          | cons a as =>
            have h' : (notStar x0 && chkE a C x0 && chkEs as C xr) = true := h2
            simp only [Bool.and_eq_true] at h'
            exact h'.1.1
        have hall := chkEs_star h2 X.env
        have hall' := hall
        rw [star_cons hst, List.all_cons, Bool.and_eq_true] at hall'
        have hfew : ((backTo cp (starEach (x0 :: xr) X.env)).all (fun x => !x.1) && (backToKw cp (keywordEach [] X.env)).all (fun x => x.1.isSome)
            && decide ((x0 :: xr).length + ([] : List Keyword).length + (if ([] : List Keyword).isEmpty then 0 else 1) < 30)) = true := by
          rw [backTo_all hall]
          show (true && true && decide ((x0 :: xr).length + 0 + 0 < 30)) = true
          rw [Bool.true_and, Bool.true_and]
          exact decide_eq_true h30
        refine impE (pe_bm PySem.F.plainAttrs_list slot hty meth_ok ho ha (attr_whole hno _ _ _) hfew hl (star_cons hst) (backTo_any hall'.2)) fun σ H Q q => ?_
        obtain ⟨F, τ, st, rs, sl, h⟩ := q
        unfold wpE at h
        refine tl_go (wpE_mono o) .refl rs sl h fun F1 H1 y v st1 e1 rs1 sl1 d1 h1 => ?_
        refine ⟨ty rs1 d1 h1.1, tlA_go (wpEs_mono es) e1 rs1 sl1 h1.2 fun F2 H2 z w st2 e2 rs2 sl2 d2 h2 => ?_⟩
        exact ⟨F2, st2, v, w, rs2, d1.ext e2, d2, methV_mono (LQ.ext (e1.trans e2)) h2⟩
    · cases hc
  | .comp m vs tg it ts elt, X, C, k, W, x, ok, hc, hn => by
    unfold chkE at hc
    split at hc
    · rename_i x0 g y ifs kz scope pos
      simp only [Bool.and_eq_true, decide_eq_true_eq] at hc
      obtain ⟨⟨⟨⟨⟨⟨⟨⟨⟨hk, hown⟩, hblk⟩, hsl⟩, hset⟩, h1⟩, h2⟩, h3⟩, h4⟩, h5⟩ := hc
      have ek := eq_of_beq hk
      subst ek
      have hb := fun s H a cl fp => ok.blk (vs := vs) (scope := scope) hblk s H a cl fp
      have hbk : BlkOk X.N X.env.scope scope (ownOf C.N vs) := by rw [ok.hN, ok.hsc]; exact blkOk_by hblk
      have := pe_lc (X := X) (elt := x0) (tg := g) (iter := y) (ifs := ifs) (scope := scope) (own := ownOf C.N vs) (pos := pos) (g := tlG X.K tg) (tt := tlT X (fun _ _ _ _ => False) (wpTs .And ts)) (te := tl X (fun _ _ _ _ => False) (wpE elt)) ok.calm (by rw [ok.hN]; exact ok.nd) (sI it ok h1 hn.1) hbk
        (fun s H a cl fp => sG tg (hb s H a cl fp) h2)
        (fun s H a cl fp => sPTs ts (hb s H a cl fp) h3 h4 hn.2.1)
        (fun s H a cl fp => sE elt (hb s H a cl fp) h5 hn.2.2) (folded hset _)
      rw [hown] at this
      refine impE this fun σ H Q q => ?_
      obtain ⟨F, τ, st, rs, sl, h⟩ := q
      unfold wpE at h
      refine tlI_go (wpI_mono it) .refl rs sl h fun F1 H1 J xs oks st1 e1 rs1 sl1 wp hz h6 => ?_
      obtain ⟨h7, h8, h9⟩ := h6
      have hlen : xs.length ≤ sizeLine := by
        cases hr : it.isR with
        | true => exact h7 hr
        | false => exact hz hr
      have hlc := lc_sound (X := X) (tt := tlT X (fun _ _ _ _ => False) (wpTs .And ts)) (te := tl X (fun _ _ _ _ => False) (wpE elt)) hsl rs1 sl1 wp h8 hlen (newList_mono (LQ.ext e1)) h9
        (fun σ H P q => let ⟨F, τ, st, rs, sl, h⟩ := q; ⟨F, τ, st, rs, sl, wpTs_mono ts (fun _ _ z => z.elim) (fun _ _ h => h) h⟩)
        (fun σ H P q => let ⟨F, τ, st, rs, sl, h⟩ := q; ⟨F, τ, st, rs, sl, wpE_mono elt (fun _ _ z => z.elim) (fun _ _ h => h) h⟩) (fun hp h => wpTs_mono ts (fun _ _ z => z) hp h) (fun hp h => wpE_mono elt (fun _ _ z => z) hp h)
      exact hlc
    · cases hc
theorem sA : ∀ (e : Es) {X : Cx} {C : SC} {k : Nat} {W : WX} {x : List Expr}, CxOk X C k W → chkEs e C x = true → needEs (pfX X k) (pkX X k) (pgX X) e → PA X x (tlA X W (wpEs e))
  | .nil, X, C, k, W, xs, ok, hc, hn => by
    cases xs with
    | nil =>
      refine impA pa_nil fun σ H Q q => ?_
      obtain ⟨F, τ, st, rs, sl, h⟩ := q
      exact h F H [] .refl rs .nil
    | cons _ _ => cases hc
  | .cons a as, X, C, k, W, xs, ok, hc, hn => by
    cases xs with
    | nil => cases hc
    | cons x r =>
      have h' : (notStar x && chkE a C x && chkEs as C r) = true := hc
      simp only [Bool.and_eq_true] at h'
      refine impA (pa_cons (sE a ok h'.1.2 hn.1) (sA as ok h'.2 hn.2) (star_cons h'.1.1)) fun σ H Q q => ?_
      obtain ⟨F, τ, st, rs, sl, h⟩ := q
      unfold wpEs at h
      refine tl_go (wpE_mono a) .refl rs sl h fun F1 H1 y v st1 e1 rs1 sl1 d1 h1 => ?_
      refine tlA_go (wpEs_mono as) e1 rs1 sl1 h1 fun F2 H2 z w st2 e2 rs2 sl2 d2 h2 => ?_
      exact h2 F2 H2 _ (e1.trans e2) rs2 (.cons (d1.ext e2) d2)
theorem sBs : ∀ (e : Es) {o : BoolOp} {X : Cx} {C : SC} {k : Nat} {W : WX} {x : List Expr} {pos : Pos}, CxOk X C k W → chkEs e C x = true → needEs (pfX X k) (pkX X k) (pgX X) e → PE X (.BoolOp o x pos) (tl X W (wpBs o e))
  | .nil, o, X, C, k, W, xs, pos, ok, hc, hn => ⟨fun pins s σ H Q I ⟨F, τ, st, rs, sl, h⟩ => h.elim⟩
  | .cons a .nil, o, X, C, k, W, xs, pos, ok, hc, hn => by
    cases xs with
    | nil => cases hc
    | cons x r =>
      have h' : (notStar x && chkE a C x && chkEs .nil C r) = true := hc
      simp only [Bool.and_eq_true] at h'
      cases r with
      | cons _ _ => cases h'.2
      | nil =>
        refine impE (pe_one (sE a ok h'.1.2 hn.1)) fun σ H Q q => ?_
        obtain ⟨F, τ, st, rs, sl, h⟩ := q
        unfold wpBs at h
        exact ⟨F, τ, st, rs, sl, h⟩
  | .cons a (.cons b bs), o, X, C, k, W, xs, pos, ok, hc, hn => by
    cases xs with
    | nil => cases hc
    | cons x r =>
      have h' : (notStar x && chkE a C x && chkEs (.cons b bs) C r) = true := hc
      simp only [Bool.and_eq_true] at h'
      cases r with
      | nil => cases h'.2
      | cons y r =>
        have ih := sBs (.cons b bs) (o := o) (pos := pos) ok h'.2 hn.2
        cases o with
        | And =>
          refine impE (pe_and (sE a ok h'.1.2 hn.1) ih) fun σ H Q q => ?_
          obtain ⟨F, τ, st, rs, sl, h⟩ := q
          unfold wpBs at h
          dsimp only at h
          refine tl_go (wpE_mono a) .refl rs sl h fun F1 H1 y v st1 e1 rs1 sl1 d1 h1 => ?_
          cases d1 with
          | bl c =>
            refine ⟨c, rfl, ?_⟩
            cases c with
            | true => exact tl_go (wpBs_mono (.cons b bs)) e1 rs1 sl1 h1 fun F2 H2 z w st2 e2 rs2 sl2 d2 h2 => h2 F2 H2 z (e1.trans e2) rs2 d2
            | false => exact h1 F1 H1 _ e1 rs1 (.bl _)
          | _ => exact h1.elim
        | Or =>
          refine impE (pe_or (sE a ok h'.1.2 hn.1) ih) fun σ H Q q => ?_
          obtain ⟨F, τ, st, rs, sl, h⟩ := q
          unfold wpBs at h
          dsimp only at h
          refine tl_go (wpE_mono a) .refl rs sl h fun F1 H1 y v st1 e1 rs1 sl1 d1 h1 => ?_
          cases d1 with
          | bl c =>
            refine ⟨c, rfl, ?_⟩
            cases c with
            | false => exact tl_go (wpBs_mono (.cons b bs)) e1 rs1 sl1 h1 fun F2 H2 z w st2 e2 rs2 sl2 d2 h2 => h2 F2 H2 z (e1.trans e2) rs2 d2
            | true => exact h1 F1 H1 _ e1 rs1 (.bl _)
          | _ => exact h1.elim
theorem sO : ∀ (e : OE) {X : Cx} {C : SC} {k : Nat} {W : WX} {x : Option Expr}, CxOk X C k W → chkO e C x = true → needO (pfX X k) (pkX X k) (pgX X) e → PO X x (tlO X W (wpO e))
  | .no, X, C, k, W, x, ok, hc, hn => by
    cases x with
    | some _ => cases hc
    | none =>
      refine impO po_none fun σ H Q q => ?_
      obtain ⟨F, τ, st, rs, sl, h⟩ := q
      exact h F H .refl rs
  | .yes a, X, C, k, W, x, ok, hc, hn => by
    cases x with
    | none => cases hc
    | some x =>
      refine impO (po_some (sE a ok hc hn)) fun σ H Q q => ?_
      obtain ⟨F, τ, st, rs, sl, h⟩ := q
      unfold wpO at h
      refine tl_go (wpE_mono a) .refl rs sl h fun F1 H1 y v st1 e1 rs1 sl1 d1 h1 => ?_
      cases d1 with
      | int i => exact ⟨i, rfl, h1 F1 H1 e1 rs1⟩
      | _ => exact h1.elim
theorem sT : ∀ (e : T) {X : Cx} {C : SC} {k : Nat} {W : WX} {x : Expr}, CxOk X C k W → chkT e C x = true → needT (pfX X k) (pkX X k) (pgX X) e → PT X x (tlT X W (wpT e))
  | .val a, X, C, k, W, x, ok, hc, hn => by
    have hc' : (plainT x && chkE a C x) = true := hc
    simp only [Bool.and_eq_true] at hc'
    refine impT (pt_truth (sE a ok hc'.2 hn) (plain_isTrue hc'.1 _)) fun σ H Q q => ?_
    obtain ⟨F, τ, st, rs, sl, h⟩ := q
    unfold wpT at h
    refine tl_go (wpE_mono a) .refl rs sl h fun F1 H1 y v st1 e1 rs1 sl1 d1 h1 => ?_
    obtain ⟨b, h2, h3⟩ := tru_lift rs1 d1 h1
    exact ⟨b, h2, h3 F1 H1 e1 rs1⟩
  | .cmp o a b, X, C, k, W, x, ok, hc, hn => by
    unfold chkT at hc
    split at hc
    · simp only [Bool.and_eq_true, decide_eq_true_eq] at hc
      obtain ⟨⟨⟨e, h1⟩, h3⟩, h2⟩ := hc
      subst e
      refine impT (pt_cmpR (cmp_ok ok.room.units) (sE a ok h1 hn.1) (sE b ok h2 hn.2) (nobeh h3)) fun σ H Q q => ?_
      obtain ⟨F, τ, st, rs, sl, h⟩ := q
      unfold wpT at h
      refine tl_go (wpE_mono a) .refl rs sl h fun F1 H1 y v st1 e1 rs1 sl1 d1 h1 => ?_
      refine tl_go (wpE_mono b) e1 rs1 sl1 h1 fun F2 H2 z w st2 e2 rs2 sl2 d2 h2 => ?_
      refine ⟨F2, st2, v, w, rs2, d1.ext e2, d2, cmpV_mono (fun r st3 h3 => ?_) h2⟩
      intro F3 H3 u e3 rs3 d3
      cases d3 with
      | bl c => exact ⟨c, rfl, h3 F3 H3 ((e1.trans e2).trans e3) rs3⟩
      | _ => exact h3.elim
    · cases hc
  | .chain o o' a b c, X, C, k, W, x, ok, hc, hn => by
    unfold chkT at hc
    split at hc
    · simp only [Bool.and_eq_true, decide_eq_true_eq] at hc
      obtain ⟨⟨⟨⟨⟨e, e'⟩, h1⟩, h2⟩, h4⟩, h3⟩ := hc
      subst e e'
      refine impT (pt_chain (cmp_ok ok.room.units) (cmp_ok ok.room.units) (sE a ok h1 hn.1) (sE b ok h2 hn.2.1) (sE c ok h3 hn.2.2) (lastm h4)) fun σ H Q q => ?_
      obtain ⟨F, τ, st, rs, sl, h⟩ := q
      unfold wpT at h
      refine tl_go (wpE_mono a) .refl rs sl h fun F1 H1 y v st1 e1 rs1 sl1 d1 h1 => ?_
      refine tl_go (wpE_mono b) e1 rs1 sl1 h1 fun F2 H2 z w st2 e2 rs2 sl2 d2 h2 => ?_
      refine ⟨F2, st2, v, w, rs2, d1.ext e2, d2, cmpV_mono (fun r st3 h3 => ?_) h2⟩
      intro F3 H3 u e3 rs3 d3
      have e13 := (e1.trans e2).trans e3
      cases d3 with
      | bl b =>
        refine ⟨b, rfl, ?_⟩
        cases b with
        | false => exact ⟨false, rfl, h3 F3 H3 e13 rs3⟩
        | true =>
          refine tl_go (wpE_mono c) e13 rs3 (sl2.ext e3) h3 fun F4 H4 z4 w4 st4 e4 rs4 sl4 d4 h4 => ?_
          refine ⟨F4, st4, w, w4, rs4, d2.ext (e3.trans e4), d4, cmpV_mono (fun r st5 h5 => ?_) h4⟩
          intro F5 H5 u5 e5 rs5 d5
          cases d5 with
          | bl c => exact ⟨c, rfl, h5 F5 H5 ((e13.trans e4).trans e5) rs5⟩
          | _ => exact h5.elim
      | _ => exact h3.elim
    · cases hc
  | .not t, X, C, k, W, x, ok, hc, hn => by
    unfold chkT at hc
    split at hc
    · refine impT (pt_not (sT t ok hc hn)) fun σ H Q q => ?_
      obtain ⟨F, τ, st, rs, sl, h⟩ := q
      unfold wpT at h
      exact tlT_go (wpT_mono t) .refl rs sl h fun F1 H1 c st1 e1 rs1 sl1 h1 => h1 F1 H1 e1 rs1
    · cases hc
  | .bools o ts, X, C, k, W, x, ok, hc, hn => by
    unfold chkT at hc
    split at hc
    · rename_i o' xs pos
      simp only [Bool.and_eq_true, decide_eq_true_eq] at hc
      obtain ⟨⟨e, hne⟩, h1⟩ := hc
      subst e
      have hne' : xs ≠ [] := by
        intro z; subst z; cases hne
      refine impT (PW.pt (sTs ts (o := o) ok h1 hne' hn)) fun σ H Q q => ?_
      obtain ⟨F, τ, st, rs, sl, h⟩ := q
      unfold wpT at h
      exact ⟨F, τ, st, rs, sl, h⟩
    · cases hc
  | .ite _ _ _, X, C, k, W, x, ok, hc, hn => by
    unfold chkT at hc
    cases hc
theorem sTs : ∀ (e : Ts) {o : BoolOp} {X : Cx} {C : SC} {k : Nat} {W : WX} {x : List Expr} {pos : Pos}, CxOk X C k W → chkTs e C x = true → x ≠ [] → needTs (pfX X k) (pkX X k) (pgX X) e → PW X (.BoolOp o x pos) (tlT X W (wpTs o e))
  | .nil, o, X, C, k, W, xs, pos, ok, hc, hne, hn => by
    cases xs with
    | nil => exact absurd rfl hne
    | cons _ _ => cases hc
  | .cons t .nil, o, X, C, k, W, xs, pos, ok, hc, hne, hn => by
    cases xs with
    | nil => cases hc
    | cons x r =>
      have h' : (chkT t C x && chkTs .nil C r) = true := hc
      simp only [Bool.and_eq_true] at h'
      cases r with
      | cons _ _ => cases h'.2
      | nil =>
        cases o with
        | And =>
          refine impW (pw_and1 (sT t ok h'.1 hn.1)) fun σ H Q q => ?_
          obtain ⟨F, τ, st, rs, sl, h⟩ := q
          unfold wpTs at h
          refine tlT_go (wpT_mono t) .refl rs sl h fun F1 H1 c st1 e1 rs1 sl1 h1 => ?_
          cases c with
          | true => exact h1 F1 H1 e1 rs1
          | false => exact h1 F1 H1 e1 rs1
        | Or =>
          refine impW (pw_or1 (sT t ok h'.1 hn.1)) fun σ H Q q => ?_
          obtain ⟨F, τ, st, rs, sl, h⟩ := q
          unfold wpTs at h
          refine tlT_go (wpT_mono t) .refl rs sl h fun F1 H1 c st1 e1 rs1 sl1 h1 => ?_
          cases c with
          | true => exact h1 F1 H1 e1 rs1
          | false => exact h1 F1 H1 e1 rs1
  | .cons t (.cons u us), o, X, C, k, W, xs, pos, ok, hc, hne, hn => by
    cases xs with
    | nil => cases hc
    | cons x r =>
      have h' : (chkT t C x && chkTs (.cons u us) C r) = true := hc
      simp only [Bool.and_eq_true] at h'
      cases r with
      | nil => cases h'.2
      | cons y r =>
        have ih := sTs (.cons u us) (o := o) (pos := pos) ok h'.2 (fun z => nomatch z) hn.2
        cases o with
        | And =>
          refine impW (pw_and (sT t ok h'.1 hn.1) ih) fun σ H Q q => ?_
          obtain ⟨F, τ, st, rs, sl, h⟩ := q
          have h : wpT t (LX X W σ F H) τ st fun k st1 => if k = true then wpTs .And (.cons u us) (LX X W σ F H) τ st1 _ else _ := h
          refine tlT_go (wpT_mono t) .refl rs sl h fun F1 H1 c st1 e1 rs1 sl1 h1 => ?_
          cases c with
          | true => exact tlT_go (wpTs_mono (.cons u us)) e1 rs1 sl1 h1 fun F2 H2 c st2 e2 rs2 sl2 h2 => h2 F2 H2 (e1.trans e2) rs2
          | false => exact h1 F1 H1 e1 rs1
        | Or =>
          refine impW (pw_or (sT t ok h'.1 hn.1) ih) fun σ H Q q => ?_
          obtain ⟨F, τ, st, rs, sl, h⟩ := q
          have h : wpT t (LX X W σ F H) τ st fun k st1 => if k = true then _ else wpTs .Or (.cons u us) (LX X W σ F H) τ st1 _ := h
          refine tlT_go (wpT_mono t) .refl rs sl h fun F1 H1 c st1 e1 rs1 sl1 h1 => ?_
          cases c with
          | false => exact tlT_go (wpTs_mono (.cons u us)) e1 rs1 sl1 h1 fun F2 H2 c st2 e2 rs2 sl2 h2 => h2 F2 H2 (e1.trans e2) rs2
          | true => exact h1 F1 H1 e1 rs1
theorem sI : ∀ (e : I) {X : Cx} {C : SC} {k : Nat} {W : WX} {g x : Expr}, CxOk X C k W → chkI e C g x = true → needI (pfX X k) (pkX X k) (pgX X) e → PI X g x (tlI X W e.isR (wpI e))
  | .val a, X, C, k, W, g, x, ok, hc, hn => by
    refine ⟨fun pins s σ H R I q => ?_⟩
    obtain ⟨F, τ, st, rs, sl, h⟩ := q
    unfold wpI at h
    refine thn ((sE a ok hc hn).run pins s σ H (fun x H1 => (∃ z, x = .str z ∧ R (Its z) H1) ∨ ∃ b ys, x = .ref b ∧ ((SqL X.K H1 b ys ∧ (ys.length ≤ sizeLine → R (Itl X.K b) H1)) ∨ (SqT X.K H1 b ys ∧ (ys.length ≤ sizeLine → R (Itt X.K b) H1)))) I ?_) fun v s1 ⟨y, H1, I1, r1, q1⟩ => ?_
    · refine tl_go (wpE_mono a) .refl rs sl h fun F1 H1 y v st1 e1 rs1 sl1 d1 h1 => ?_
      unfold itV0 at h1
      split at h1
      · cases d1
        exact .inl ⟨_, rfl, h1.2 F1 H1 _ e1 rs1 (wp_str _) fun _ => by rw [chrs_len]; exact h1.1⟩
      refine .inr ?_
      unfold itV at h1
      split at h1
      · cases d1 with
        | tup hq ds => exact ⟨_, _, rfl, .inr ⟨hq, fun hz => h1 F1 H1 _ e1 rs1 (wp_tup hq ds) fun _ => Nat.le_trans (Nat.le_of_eq ds.length) hz⟩⟩
      · cases d1 with
        | lst f hq ds => exact ⟨_, _, rfl, .inl ⟨.of hq, fun hz => h1 F1 H1 _ e1 rs1 (wp_list f hq ds) fun _ => Nat.le_trans (Nat.le_of_eq ds.length) hz⟩⟩
      · rename_i a' hns
        cases e : lstOf st1 (.ref a') with
        | none => rw [e] at h1; exact h1.elim
        | some zs =>
          rw [e] at h1
          obtain ⟨b, ys, rfl, hq, ds⟩ := lstOf_ok rs1 e d1
          cases d1
          exact ⟨_, _, rfl, .inl ⟨.of hq, fun hz => h1 F1 H1 _ e1 rs1 (wp_ref zs) fun _ => Nat.le_trans (Nat.le_of_eq ds.length) hz⟩⟩
      · exact h1.elim
    · rcases q1 with ⟨z, rfl, q⟩ | ⟨b, ys, rfl, q⟩
      · obtain ⟨t, rfl⟩ := r1
        cases ha : z.cps.all (· < 128)
        · exact wpAny_pyIter_wide ha (pi_one (tk := s1.toks) I1 _ (turn_str _ z t "str_iterator" (.inr rfl)) ⟨_, Heap.get?_push_size _ rfl, rfl, rfl⟩ q)
        · exact wpAny_pyIter_ascii ha (pi_one (tk := s1.toks) I1 _ (turn_str _ z t "str_ascii_iterator" (.inl rfl)) ⟨_, Heap.get?_push_size _ rfl, rfl, rfl⟩ q)
      cases r1
      rcases q with ⟨hq, q⟩ | ⟨hq, q⟩
      · obtain ⟨_, _, _, hz⟩ := I1.list hq
        exact iter_l I1 hq (q hz)
      · obtain ⟨_, _, _, hz⟩ := I1.tuple hq
        exact iter_t I1 hq (q hz)
  | .range1 a, X, C, k, W, g, x, ok, hc, hn => by
    unfold chkI at hc
    split at hc
    · simp only [Bool.and_eq_true, decide_eq_true_eq] at hc
      obtain ⟨⟨⟨e, hg⟩, hst⟩, h1⟩ := hc
      subst e
      refine impI (pi_range1 (ok.gl hg).1 (ok.blt _ (by decide +kernel)) (pa_cons (sE a ok h1 hn) pa_nil (star_cons hst)) (star_cons hst)) fun σ H R q => ?_
      obtain ⟨F, τ, st, rs, sl, h⟩ := q
      unfold wpI at h
      refine tl_go (wpE_mono a) .refl rs sl h fun F1 H1 y v st1 e1 rs1 sl1 d1 h1 => ?_
      cases d1 with
      | int j => exact ⟨j, rfl, h1.1.1, h1.1.2, h1.2 F1 H1 _ e1 rs1 (wp_rng 0 _) (fun z => nomatch z)⟩
      | _ => exact h1.elim
    · cases hc
  | .range2 a b, X, C, k, W, g, x, ok, hc, hn => by
    unfold chkI at hc
    split at hc
    · simp only [Bool.and_eq_true, decide_eq_true_eq] at hc
      obtain ⟨⟨⟨⟨⟨e, hg⟩, hst⟩, h1⟩, hst2⟩, h2⟩ := hc
      subst e
      have hs2 : starEach [_, _] X.env = [(false, eval _ X.env), (false, eval _ X.env)] := (star_cons hst).trans (congrArg _ (star_cons hst2))
      refine impI (pi_range2 (ok.gl hg).1 (ok.blt _ (by decide +kernel)) (pa_cons (sE a ok h1 hn.1) (pa_cons (sE b ok h2 hn.2) pa_nil (star_cons hst2)) (star_cons hst)) hs2 (star_cons hst2)) fun σ H R q => ?_
      obtain ⟨F, τ, st, rs, sl, h⟩ := q
      unfold wpI at h
      refine tl_go (wpE_mono a) .refl rs sl h fun F1 H1 y v st1 e1 rs1 sl1 d1 h1 => ?_
      refine tl_go (wpE_mono b) e1 rs1 sl1 h1 fun F2 H2 z w st2 e2 rs2 sl2 d2 h2 => ?_
      cases d1 with
      | int i =>
        cases d2 with
        | int j => exact ⟨i, j, rfl, ⟨h2.1.1, h2.1.2, h2.2.1.1, h2.2.1.2⟩, h2.2.2 F2 H2 _ (e1.trans e2) rs2 (wp_rng i _) (fun z => nomatch z)⟩
        | _ => exact h2.elim
      | _ => exact h2.elim
    · cases hc
  | .enum a, X, C, k, W, g, x, ok, hc, hn => by
    unfold chkI at hc
    split at hc
    · simp only [Bool.and_eq_true, decide_eq_true_eq] at hc
      obtain ⟨⟨⟨e, hg⟩, hst⟩, h1⟩ := hc
      subst e
      refine impI (pi_enumA (ok.gl hg).1 (ok.blt _ (by decide +kernel)) (pa_cons (sE a ok h1 hn) pa_nil (star_cons hst)) (star_cons hst)) fun σ H R q => ?_
      obtain ⟨F, τ, st, rs, sl, h⟩ := q
      unfold wpI at h
      refine tl_go (wpE_mono a) .refl rs sl h fun F1 H1 y v st1 e1 rs1 sl1 d1 h1 => ?_
      unfold itV at h1
      split at h1
      · cases d1 with
        | tup hq ds => exact ⟨_, _, rfl, .inr ⟨hq, h1 F1 H1 _ e1 rs1 (wp_enumT hq ds) (fun z => nomatch z)⟩⟩
      · cases d1 with
        | lst f hq ds => exact ⟨_, _, rfl, .inl ⟨.of hq, h1 F1 H1 _ e1 rs1 (wp_enumL f hq ds) (fun z => nomatch z)⟩⟩
      · rename_i a'
        cases e : lstOf st1 (.ref a') with
        | none => rw [e] at h1; exact h1.elim
        | some zs =>
          rw [e] at h1
          obtain ⟨b, ys, rfl, hq, ds⟩ := lstOf_ok rs1 e d1
          cases d1
          exact ⟨_, _, rfl, .inl ⟨.of hq, h1 F1 H1 _ e1 rs1 (wp_enumR zs) (fun z => nomatch z)⟩⟩
      · exact h1.elim
    · cases hc
  | .zip a b, X, C, k, W, g, x, ok, hc, hn => by
    unfold chkI at hc
    split at hc
    · simp only [Bool.and_eq_true, decide_eq_true_eq] at hc
      obtain ⟨⟨⟨⟨⟨e, hg⟩, hst⟩, h1⟩, hst2⟩, h2⟩ := hc
      subst e
      have hs2 : starEach [_, _] X.env = [(false, eval _ X.env), (false, eval _ X.env)] := (star_cons hst).trans (congrArg _ (star_cons hst2))
      refine impI (RZ.pi_zipA (ok.gl hg).1 (ok.blt _ (by decide +kernel)) (pa_cons (sE a ok h1 hn.1) (pa_cons (sE b ok h2 hn.2) pa_nil (star_cons hst2)) (star_cons hst)) (star_cons hst) (by rw [star_cons hst2]; rfl)) fun σ H R q => ?_
      obtain ⟨F, τ, st, rs, sl, h⟩ := q
      unfold wpI at h
      refine tl_go (wpE_mono a) .refl rs sl h fun F1 H1 y v st1 e1 rs1 sl1 d1 h1 => ?_
      refine tl_go (wpE_mono b) e1 rs1 sl1 h1 fun F2 H2 z w st2 e2 rs2 sl2 d2 h2 => ?_
      unfold zipV at h2
      split at h2
      · cases d1 with
        | tup hq ds =>
          cases d2 with
          | tup hq' ds' =>
            have := sqText e2 hq
            exact ⟨_, _, _, _, rfl, .inr ⟨this, hq', h2 F2 H2 _ (e1.trans e2) rs2 (wp_zipT this (ds.ext e2) hq' ds') (fun z => nomatch z)⟩⟩
      · cases d1 with
        | lst f hq ds =>
          cases d2 with
          | lst f' hq' ds' =>
            have := e2.kp _ _ hq (.inl f)
            exact ⟨_, _, _, _, rfl, .inl ⟨.of this, .of hq', h2 F2 H2 _ (e1.trans e2) rs2 (wp_zipL (e2.le _ f) this (ds.ext e2) f' hq' ds') (fun z => nomatch z)⟩⟩
      · exact h2.elim
    · cases hc
theorem sPTs : ∀ (e : Ts) {X : Cx} {C : SC} {k : Nat} {W : WX} {x : List Expr}, CxOk X C k W → chkTs e C x = true → x.length ≤ 1 → needTs (pfX X k) (pkX X k) (pgX X) e → PTs X x (tlT X W (wpTs .And e))
  | .nil, X, C, k, W, xs, ok, hc, hl, hn => by
    cases xs with
    | cons _ _ => cases hc
    | nil =>
      refine impTs pts_nil fun σ H Q q => ?_
      obtain ⟨F, τ, st, rs, sl, h⟩ := q
      exact h F H .refl rs
  | .cons t .nil, X, C, k, W, xs, ok, hc, hl, hn => by
    cases xs with
    | nil => cases hc
    | cons x r =>
      have h' : (chkT t C x && chkTs .nil C r) = true := hc
      simp only [Bool.and_eq_true] at h'
      cases r with
      | cons _ _ => cases h'.2
      | nil =>
        refine impTs (pts_one (sT t ok h'.1 hn.1)) fun σ H Q q => ?_
        obtain ⟨F, τ, st, rs, sl, h⟩ := q
        unfold wpTs at h
        refine tlT_go (wpT_mono t) .refl rs sl h fun F1 H1 c st1 e1 rs1 sl1 h1 => ?_
        cases c with
        | true => exact h1 F1 H1 e1 rs1
        | false => exact h1 F1 H1 e1 rs1
  | .cons t (.cons u us), X, C, k, W, xs, ok, hc, hl, hn => by
    cases xs with
    | nil => cases hc
    | cons x r =>
      have h' : (chkT t C x && chkTs (.cons u us) C r) = true := hc
      simp only [Bool.and_eq_true] at h'
      cases r with
      | nil => cases h'.2
      | cons y r => exact absurd hl (by simp)
end
end
end TK

set_option maxRecDepth 100000
set_option maxHeartbeats 8000000
namespace TK
open PySem PySem.Spec PySem.W PyProof.Rows L2
/-! ### an own exception's __init__ that says super().__init__(..) -/
theorem call_sup {P : Program} {w : World} {A : Around} {E : Value → Shared → Prop} {K : PySem.W.Frag} {s : Shared} {D a u t0 : Addr} {us : List Value} {Q : Value → Shared → Prop} (T : OexC K D) (X : K.In s.heap)
    (he : s.heap.get? a = some ({ cls := .ref D, dict := none, data := .fields #[.ref t0, .none, .none, .none, .bool false, .none] } : Obj)) (hu : s.heap.get? u = some (kxs_mw "ValueError.__init__" a)) (hz : us.length ≤ sizeLine)
    (h : ∀ h' t1, (∀ b o, b ≠ a → s.heap.get? b = some o → h'.get? b = some o) → h'.get? a = some ({ cls := .ref D, dict := none, data := .fields #[.ref t1, .none, .none, .none, .bool false, .none] } : Obj) → Q .none { s with heap := h' }) :
    wpAny (model P w) A (call (.ref u) us) Q E s := by
  obtain ⟨nm, q, N, bs, bm, sn, sub, ab, col, dd, k0, k1, k2, k3, k5, hC, hbm⟩ := T.cls
  have hC := X _ _ hC
  have FB := F.excBase_ValueError
  obtain ⟨hh, g, d, tk, os⟩ := s
  refine wpAny_call (codeAny_of_tree ?_)
  show wpAny _ A.in1 (callAny (.ref u) ⟨us, []⟩) _ _ _
  simp only [callAny]
  refine wpAny_bind (wpAny_load hu ?_)
  simp only [kxs_mw, show (Value.type "method-wrapper" == Value.type "method" || Value.type "method-wrapper" == Value.type "builtin_function_or_method" || Value.type "method-wrapper" == Value.type "method-wrapper") = true by decide, if_true]
  refine KFB.if_so (by decide) ?_
  refine wpAny_bind (check_bound_init FB.toExcCallFacts hC he rfl ?_)
  refine wpAny_bind (wpAny_pure (wpAny_pure ?_))
  refine ⟨plainId_quiet FB.init.plain _, codeAny_builtin FB.initEntry ?_⟩
  exact exc_init_tree (cls := .ref D) (t0 := t0) (dv := none) (c2 := .none) (c3 := .none) (b4 := .bool false) he hz fun h' k e' _ => h h' _ k e'
/-- what the written part says of such an __init__ of the class D -/
structure IniF (P : Program) (K : PySem.W.Frag) (x qual : Str) (st : Stmt) (D fI : Addr) (fd : FuncData) : Prop where
  ex : ∃ (oc : Value) (od : Option Addr) (kV doc pm : Value) (an : Option Addr) (cda : Addr) (ct : Value) (osl : Array (Option Value)) (cc : Addr),
    fd = ksFn x qual (defArgs st) (defBody st) (defScope st) .none kV doc pm an (.ref cda) ct cc ∧ K.lookup fI = some ⟨oc, od, .func fd, osl⟩ ∧ PySem.W.codeIn K (.ref cda) qual = true ∧
    (∃ cl cld csl, K.lookup cc = some ⟨cl, cld, .cell (some (.ref D)), csl⟩) ∧
    ∃ (ccl : Value) (cdd : Option Addr) (vs : Array Value) (ccs : Array (Option Value)) (file : Str) (tf : Tok), K.lookup cda = some ⟨ccl, cdd, .fields vs, ccs⟩ ∧ vs[2]? = some (.str file tf) ∧ ((P.main.file : Str) == file) = true
  sup : PySem.W.ks_superIn K D D "__init__" = some (some (.builtin "ValueError.__init__"))
  sub : PySem.W.subIn K (.ref D) (.type "ValueError") = some true
  mro : PySem.W.mroIn K D (.ref D) = some true
  opq : PySem.W.nsIn K cStatics "thirdparty.any" = some none
  top : (P.main.scope.names.lookup ("super" : Str)).isSome = false
/-- its scope: the parameters, and the class -/
structure IniSc (N ps : List Str) (sc : Scope) : Prop where
  kind : sc.kind = .function
  co : sc.isCoroutine = false
  gen : sc.isGenerator = false
  nd : N.Nodup
  eqN : N = ps
  par : ∀ x ∈ ps, sc.names.lookup x = some .local
  free : ∀ y ∈ sc.names, y.2 = .free → y.1 = "__class__"
  nocell : ∀ y ∈ sc.names, y.2 ≠ .cell
  cls : sc.names.lookup ("__class__" : Str) = some .free
  sup : sc.names.lookup ("super" : Str) = some .globalImplicit
/-- the context of its body -/
def cxX (CX : CXT) (P : Program) (w : World) (K : PySem.W.Frag) (mg : Str → Option Value) (base : Heap) (N : List Str) (env : Env) (A : Around) (outer : List Env) (s : Shared) (H : Hp) (E : XK) : Cx where
  prog := P
  w := w
  K := K
  mg := mg
  base := base
  A := A.deeper env
  N := N
  s_0 := s
  H_0 := H
  env := env
  outer := outer
  stack := env :: outer
  ex := []
  calm := true
  fn := fun _ => false
  pn := []
  xe := fun e s' => wpAny (model P w) (A.deeper env) (leaving env e) (fun _ s'' => CX outer H s E e s'') (fun e' s'' => CX outer H s E e' s'') s'
theorem look_zip {y : Str} {u : Value} : ∀ {ps : List Str} {us : List Value} {i : Nat}, ps.Nodup → ps[i]? = some y → us[i]? = some u → (ps.zip us).reverse.lookup y = some u := by
  intro ps us i nd h1 h2
  have hm : (y, u) ∈ (ps.zip us).reverse := by
    rw [List.mem_reverse]
    exact List.mem_of_getElem? (i := i) (by rw [List.getElem?_zip_eq_some]; exact ⟨h1, h2⟩)
  have key : ∀ (l : List (Str × Value)), (∀ v, (y, v) ∈ l → v = u) → (y, u) ∈ l → l.lookup y = some u := by
    intro l
    induction l with
    | nil => intro _ h; cases h
    | cons p l ih =>
      obtain ⟨k, v⟩ := p
      intro hu h
      rw [List.lookup_cons]
      by_cases e : y = k
      · subst e
        rw [hu v List.mem_cons_self]; simp
      · have : (y == k) = false := by simpa using e
        rw [this]
        refine ih (fun v hv => hu v (List.mem_cons_of_mem _ hv)) ?_
        rcases List.mem_cons.mp h with h | h
        · cases h; exact absurd rfl e
        · exact h
  refine key _ (fun v hv => ?_) hm
  rw [List.mem_reverse] at hv
  obtain ⟨j, hj⟩ := List.mem_iff_getElem?.mp hv
  rw [List.getElem?_zip_eq_some] at hj
  have : j = i := by
    have a1 := (List.getElem?_eq_some_iff.mp hj.1).1
    have e : ps[j]? = ps[i]? := hj.1.trans h1.symm
    first
      | exact (List.getElem?_inj a1 nd).mp e
      | exact List.getElem?_inj a1 nd e
  subst this
  rw [h2] at hj
  exact (Option.some.inj hj.2).symm
theorem inv_startX {CX : CXT} {P : Program} {w : World} {K : PySem.W.Frag} {mg : Str → Option Value} {base : Heap} {N ps : List Str} {qual : Str} {scope : Scope} {f D cda cc : Addr} {A : Around} {outer : List Env} {s : Shared} {h1 : Heap} {tk : Nat} {H : Hp} {E : XK} {us : List Value} {vs : List V}
    (S : IniSc N ps scope) (hd : A.handled = none) (e0 : Env0 P w K mg base A outer s H) (hl : vs.length = ps.length) (r : Vals vs us) (hcc : ∃ cl cld csl, K.lookup cc = some ⟨cl, cld, .cell (some (.ref D)), csl⟩)
    (hns : h1.Ns s.heap.objs.size (fun x => (ps.zip us).reverse.lookup x)) (hk : ∀ b o, s.heap.get? b = some o → h1.get? b = some o) :
    Inv (cxX CX P w K mg base N (ksEnv qual scope s.heap.objs.size f (.ref cda) cc) A outer s H E) [] (L2.start N vs) H { s with heap := h1, toks := tk } := by
  obtain ⟨cl, cld, csl, hcc⟩ := hcc
  have noA : ∀ b : Addr, b ∉ (cxX CX P w K mg base N (ksEnv qual scope s.heap.objs.size f (.ref cda) cc) A outer s H E).ex := fun b z => absurd (show b ∈ ([] : List Addr) from z) (by simp)
  have cells : ∀ {y : Str} {c : Addr}, ([(("__class__" : Str), cc)] : List (Str × Addr)).lookup y = some c → y = "__class__" ∧ c = cc := fun {y c} h => by
    have := PySem.mem_of_lookup h
    rw [List.mem_singleton] at this
    cases this
    exact ⟨rfl, rfl⟩
  have ccb := e0.mod.kin _ _ hcc
  refine ⟨⟨e0.mod, S.kind, rfl, rfl, Nat.le_refl _, fun y z c h1 h2 => (cells h1).1.trans (cells h2).1.symm, fun y hy => ?_, fun y c h _ => (nomatch h), fun _ => hd, Around.frames_deeper e0.frames, .inr ⟨rfl, rfl⟩, fun b z => absurd z (noA b), e0.bs, e0.bsz, fun b _ _ => noA b, fun b z => absurd z (noA b), e0.funs, e0.frf⟩,
    rfl, e0.bare, Un.kept hk, ⟨_, hns, fun i y v h1 h2 h3 => ?_⟩, fun y c h => ?_, e0.hok.fresh (Nat.le_refl _), fun y c h => ?_, fun p hp => absurd (show p ∈ ([] : List (Addr × Obj)) from hp) (by simp), e0.hok.kept hk, ?_⟩
  · have hy : scope.names.lookup y = some .cell ∨ scope.names.lookup y = some .free := hy
    rcases hy with hy | hy
    · exact absurd rfl (S.nocell _ (PySem.mem_of_lookup hy))
    · have := S.free _ (PySem.mem_of_lookup hy) rfl
      have e : y = "__class__" := this
      subst e
      exact ⟨cc, by show ([(("__class__" : Str), cc)] : List (Str × Addr)).lookup ("__class__" : Str) = some cc; rw [List.lookup_cons]; simp⟩
  · have hi : i < vs.length := by
      unfold L2.start at h2
      by_cases hi : i < vs.length
      · exact hi
      · rw [List.getElem?_append_right (by simpa using hi)] at h2
        rw [List.getElem?_replicate] at h2
        split at h2 <;> cases h2
    have ha : vs[i]? = some v := by
      unfold L2.start at h2
      rw [List.getElem?_append_left (by simpa using hi), List.getElem?_map] at h2
      cases e : vs[i]? with
      | none => rw [e] at h2; cases h2
      | some a => rw [e] at h2; cases h2; rfl
    obtain ⟨u, hu, rv⟩ := r.get ha
    have hp : ps[i]? = some y := by rw [← S.eqN]; exact h1
    have ndP : ps.Nodup := by rw [← S.eqN]; exact S.nd
    exact ⟨u, rv, .inl ⟨S.par y (List.mem_of_getElem? hp), look_zip ndP hp hu⟩⟩
  · obtain ⟨_, rfl⟩ := cells h
    exact ⟨_, _, hk _ _ (e0.bs _ _ ccb).1, rfl⟩
  · obtain ⟨_, rfl⟩ := cells h
    exact (e0.bs _ _ ccb).2
  · unfold L2.start
    show _ = N.length
    rw [List.length_append, List.length_map, List.length_replicate, hl, S.eqN]
    omega
/-- the promise of such an __init__ with one field -/
def iniSp1 (K : PySem.W.Frag) (D : Addr) (f : Str) (okV : V → Prop) : Sp := fun vs H Q _ => ∃ (a : Addr) (y : V), vs = [.ref a, y] ∧ okV y ∧ OexC K D ∧ PySem.W.findIn K (.ref D) f = some none ∧ H a = some (exo a D none) ∧
  ∀ dx, H dx = none → dx ≠ a → Q .non (upd (upd H dx (exd dx [(f, y)])) a (exo a D (some dx)))
abbrev sf (f : Str) : List Str := [("self" : Str), f]
theorem init_fn1 {P : Program} {w : World} {K : PySem.W.Frag} {mg : Str → Option Value} {base : Heap} {k : Nat} {x qual f : Str} {st : Stmt} {D fI : Addr} {fd : FuncData} {msg : Expr} {p0 p1 p2 p3 p4 q1 q2 q3 q4 : Pos} {okV : V → Prop} {ar : Arg}
    (I : IniF P K x qual st D fI fd) (S : IniSc (sf f) (sf f) (defScope st)) (hmg : mg "super" = none)
    (hb : defBody st = [.Expr (.Call (.Attribute (.Call (.Name "super" p0) [] [] p1) "__init__" p2) [msg] [] p3) p4, .Assign [.Attribute (.Name "self" q1) f q2] (.Name f q3) q4])
    (hp : ((defArgs st).posonlyargs ++ (defArgs st).args).head? = some ar) (har : ar.arg = "self")
    {pl : Env → Sem Bool}
    (hcall : ∀ env : Env, eval (.Call (.Attribute (.Call (.Name "super" p0) [] [] p1) "__init__" p2) [msg] [] p3) env = (do
      let ov ← attributeBase (.Call (.Name "super" p0) [] [] p1) "__init__" env (eval (.Call (.Name "super" p0) [] [] p1) env)
      standAt p2.atName
      let (f, first) ← holding [ov] (getMethod ov "__init__" (pl env))
      callWith p3 f first (backTo p3 (starEach [msg] env)) []))
    (hstar : ∀ env : Env, starEach [msg] env = (false, eval msg env) :: starEach [] env)
    (hd1 : (f == ("__debug__" : Str)) = false) (hd2 : (f == ("__classdict__" : Str)) = false)
    (hmsg : ∀ (X : Cx), X.N = (sf f) → X.env.scope = defScope st → X.mg = mg → X.calm = true → (X.A.units + 64 < cLine) → ∃ ta, PA X [msg] ta ∧
      (backTo p3 (starEach [msg] X.env)).any (·.1) = false ∧
      ∀ (a : Addr) (y : V) (H : Hp) (Q : List V → Hp → Prop), okV y → (∀ us, us.length ≤ 1000 → Q us H) → ta (L2.start (sf f) [.ref a, y]) H Q) :
    FnOk P w K mg base (L2.CX P w) (k + 1) fI fd (sf f) (iniSp1 K D f okV) := by
  obtain ⟨oc, od, kV, doc, pm, an, cda, ct, osl, cc, rfl, lk, hcd, hcc, ccl, cdd, cvs, ccs, file, tf, lc, hvs, hfile⟩ := I.ex
  refine ⟨fun vs H Q E ⟨a, y, e, _⟩ => by rw [e]; rfl, fun A outer s H args us vs Q E hr e0 hbd r hsp => ?_⟩
  obtain ⟨a, y, rfl, oky, T, hno, ha, hq⟩ := hsp
  have KX : K.In s.heap := e0.mod.kin.keeps fun b o e => (e0.bs b o e).1
  have lim : s.heap.NoLimit := e0.mod.nolimit.keeps fun b o e => (e0.bs b o e).1
  refine ks_codeAny_call_defAt (body := defBody st) hr.depth (KX _ _ lk) rfl lim (PySem.W.codeRec_of KX hcd) rfl hbd S.nocell (fun z hz => S.par z.1 (List.of_mem_zip hz).1) (fun h₀ hns hk => ?_) S.co S.gen S.kind
  have J := inv_startX (CX := L2.CX P w) (qual := qual) (f := fI) (cda := cda) (tk := s.toks + ((sf f).zip us).length) (E := E) S hr.hd e0 (show ([V.ref a, y] : List V).length = (sf f).length from rfl) r hcc hns hk
  have KB : ∀ b o, K.lookup b = some o → s.heap.get? b = some o ∧ H b = none := fun b o e => e0.bs b o (e0.mod.kin b o e)
  have X0 : K.In h₀ := J.kIn
  obtain ⟨mb, hmb1, hmb2⟩ := e0.mod.blt
  have bk : ∀ b o, base.get? b = some o → h₀.get? b = some o := J.bk
  obtain ⟨cl, cld, csl, hcc⟩ := hcc
  have hr' : ∃ u1, us = [.ref a, u1] ∧ RelV y u1 := by
    cases r with
    | cons r1 r2 =>
      cases r2 with
      | cons r3 r4 =>
        cases r4
        cases r1
        exact ⟨_, rfl, r3⟩
  obtain ⟨u1, rfl, ry⟩ := hr'
  have hcls : ∃ oD cdD, K.lookup D = some oD ∧ oD.data = .cls cdD ∧ PySem.W.clsIn K D = some cdD := by
    obtain ⟨nm, q, N, bs, bm, sn, sub, ab, col, dd, k0, k1, k2, k3, k5, hC, hbm⟩ := T.cls
    exact ⟨_, _, hC, rfl, by unfold PySem.W.clsIn; rw [hC] <;> rfl⟩
  obtain ⟨oD, cdD, hD1, hD2, hD3⟩ := hcls
  obtain ⟨t1, hex⟩ := exo_at J.hok ha
  have naD : a ≠ D := fun z => by
    have := (KB _ _ hD1).2
    rw [← z, ha] at this
    cases this
  let env : Env := ksEnv qual (defScope st) s.heap.objs.size fI (.ref cda) cc
  show PySem.wpAt (model P w) (A.deeper env) (.func (defBody st) env) (execs (defBody st) env) _ _ _
  rw [hb]
  refine ks_wpAt_execs_cons (ks_wpAt_Expr_any (ks_wpAt_MethodCall (ks_wpAt_super_base (env := env) (ar := ar) S.sup S.cls (by decide) rfl (X0 _ _ lk) rfl hp rfl (X0 _ _ lc) rfl hvs hfile I.top ?_) (hcall env)) (hi := by unfold interactive; rw [show env.scope.kind = .function from S.kind]; rfl))
  refine ks_loadName_global S.kind S.sup (PySem.Calls.loadGlobal_builtin (env := env) (e0.mod.glob.keeps bk) hmg (hmb1.keeps bk) ((hmb2 _ (by decide +kernel)).trans (show bootBuiltins "super" = some (.type "super") by first | rfl | decide +kernel)) ⟨rfl, ?_⟩)
  refine wpAny_loadName_free S.kind S.cls (show env.cells.lookup ("__class__" : Str) = some cc by show ([(("__class__" : Str), cc)] : List (Str × Addr)).lookup ("__class__" : Str) = some cc; rw [List.lookup_cons]; simp) ⟨_, X0 _ _ hcc, rfl⟩ ?_
  refine wpAny_loadName_local S.kind (show env.kindOf ar.arg = some .local by rw [har]; exact S.par _ List.mem_cons_self) hns (show ((sf f).zip [Value.ref a, u1]).reverse.lookup ar.arg = some (.ref a) by rw [har]; exact look_zip (i := 0) S.nd rfl rfl) ?_
  refine ks_wpAny_isType_cls (X0 _ _ hD1) hD2 ⟨rfl, ?_⟩
  refine ks_wpAny_call_super (X0 _ _ hD1) hD2 hex rfl (fun c e => by cases e) (PySem.W.looks_mroIn X0 I.mro) (fun h' e k1 => ?_)
  have hsz : h'.get? h₀.objs.size = some (ks_superObj D a D) := e
  have X1 : K.In h' := X0.keeps k1
  refine wpAny_mono (Q := fun fx s' => fx = (.ref h'.objs.size, []) ∧ s' = ⟨h'.push (kxs_mw "ValueError.__init__" a), s.gens, s.drawn, s.toks + ((sf f).zip [Value.ref a, u1]).length + 1, s.os⟩) (E := fun _ _ => False)
    (kxs_getMethod kxs_ValueError hsz (looks_opaque X1 I.opq) (l₀ := cdD.mro) (fun A Q E s k q => wpAny_bind ((looks_clsIn X1 hD3) A _ E s k (wpAny_pure q))) rfl X1
      (show alongIn K "__init__" ((cdD.mro.dropWhile (· != .ref D)).drop 1) = some (some (.builtin "ValueError.__init__")) by
        have := I.sup
        unfold PySem.W.ks_superIn at this
        rw [hD3] at this
        exact this)
      (Looks.andThen (fun A Q E s k q => wpAny_typeOf_ref (k _ _ (k1 _ _ hex)) q) (looks_subIn X1 I.sub)) naD (by decide) ⟨rfl, rfl⟩) (fun fx s' hfx => ?_) fun _ _ z => z.elim
  obtain ⟨rfl, rfl⟩ := hfx
  have kk : ∀ b o, h₀.get? b = some o → (h'.push (kxs_mw "ValueError.__init__" a)).get? b = some o := fun b o q => Heap.get?_push_of_some _ (k1 b o q)
  have hu : (h'.push (kxs_mw "ValueError.__init__" a)).get? h'.objs.size = some (kxs_mw "ValueError.__init__" a) := Heap.get?_push_at rfl rfl
  have szu : h₀.objs.size ≤ h'.objs.size := Nat.le_of_lt (Nat.lt_of_le_of_lt (Nat.le_refl _) (Heap.lt_size hsz))
  have nu : H h'.objs.size = none := J.hok.fresh szu
  have J1 := J.un (h' := h'.push (kxs_mw "ValueError.__init__" a)) (t' := s.toks + ((sf f).zip [Value.ref a, u1]).length + 1) (Un.kept kk) (J.hok.kept kk)
  have J2 : Inv (cxX (L2.CX P w) P w K mg base (sf f) env A outer s H E) [(h'.objs.size, kxs_mw "ValueError.__init__" a)] (L2.start (sf f) [.ref a, y]) H ⟨h'.push (kxs_mw "ValueError.__init__" a), s.gens, s.drawn, s.toks + ((sf f).zip [Value.ref a, u1]).length + 1, s.os⟩ := by
    refine { J1 with pin := fun p hp => ?_ }
    have hp : p ∈ [(h'.objs.size, kxs_mw "ValueError.__init__" a)] := hp
    rw [List.mem_singleton] at hp
    subst hp
    exact ⟨hu, nu, Nat.ne_of_gt (Nat.lt_of_lt_of_le J.lt szu), J.nofs szu, fun v z => by cases z⟩
  obtain ⟨ta, hta, hpl, htr⟩ := hmsg (cxX (L2.CX P w) P w K mg base (sf f) env A outer s H E) rfl rfl rfl rfl (show (A.deeper env).units + 64 < cLine by have := hr.un; show A.units + 3 + 64 < cLine; omega)
  have hs := hstar env
  have hpl : (backTo p3 (starEach [msg] env)).any (·.1) = false := hpl
  show wpAny (model P w) (A.deeper env) (callWith p3 (.ref h'.objs.size) [] (backTo p3 (starEach [msg] env)) []) _ _ _
  have run := hta.run p3 [(h'.objs.size, kxs_mw "ValueError.__init__" a)] _ _ H (fun us H1 => us.length ≤ 1000 ∧ H1 = H) J2 (htr a y H _ oky fun us hz => ⟨hz, rfl⟩)
  have run : wpAny (model P w) (A.deeper env) (spliced (backTo p3 (starEach [msg] env))) _ _ _ := run
  rw [hs] at run hpl ⊢
  refine kxs_callWith (i := "ValueError.__init__") (x := a) hpl (PySem.Calls.evalArgs_plain (wpAny_mono run (fun us' s1 hx => ?_) fun _ _ z => z))
  obtain ⟨vs', H1, I1, r1, hz, rfl⟩ := hx
  have hu1 := (I1.pin (h'.objs.size, kxs_mw "ValueError.__init__" a) (List.mem_append.mpr (.inr List.mem_cons_self))).1
  refine ⟨hu1, ?_⟩
  obtain ⟨t2, he1⟩ := exo_at I1.hok ha
  have hz' : us'.length ≤ sizeLine := by rw [← Paired.length r1, sizeLine_eq]; omega
  show wpAny (model P w) (A.deeper env) (call (.ref h'.objs.size) us') _ _ _
  refine call_sup T I1.kIn he1 hu1 hz' fun h2 t3 k2 hx2 => ?_
  have J3 := I1.write (t' := s1.toks) (x := a) (e := a) (o := exo a D none) (by rw [ha]; exact True.intro) (.inl rfl) k2 ⟨_, hx2⟩ (exo_ok hx2)
  have eu : upd H1 a (exo a D none) = H1 := by
    funext b
    by_cases hb : b = a
    · rw [hb, upd_same, ha]
    · rw [upd_ne hb]
  rw [eu] at J3
  have J4 : Inv (cxX (L2.CX P w) P w K mg base (sf f) env A outer s H1 E) [] (L2.start (sf f) [.ref a, y]) H1 { s1 with heap := h2 } := { J3 with pin := fun p hp => absurd (show p ∈ ([] : List (Addr × Obj)) from hp) (by simp) }
  have vis0 : Vis (defScope st) ("self" : Str) := .inl (S.par _ List.mem_cons_self)
  have vis1 : Vis (defScope st) f := .inl (S.par _ (List.mem_cons_of_mem _ List.mem_cons_self))
  have ho : PE (cxX (L2.CX P w) P w K mg base (sf f) env A outer s H1 E) (.Name "self" q1) (tVar 0) := pe_var (X := cxX (L2.CX P w) P w K mg base (sf f) env A outer s H1 E) rfl vis0 (by decide) (by decide)
  have hv : PE (cxX (L2.CX P w) P w K mg base (sf f) env A outer s H1 E) (.Name f q3) (tVar 1) := pe_var (X := cxX (L2.CX P w) P w K mg base (sf f) env A outer s H1 E) rfl vis1 hd1 hd2
  have PS1 := pss_cons (ps_ost (f := f) (p' := q2) (pos := q4) ho hv) pss_nil
  refine wpAt_of_wpAny (wpAny_mono (PS1.run [] _ _ _ { nx := fun _ H' => Q .non H', rt := Q } J4 ?_) (fun fl s' hs => ?_) fun _ _ z => z)
  · refine ⟨y, rfl, .ref a, rfl, a, D, rfl, T, hno, .inl ⟨ha, fun dx n ne => hq dx n ne⟩⟩
  · have fin : ∀ {σ' : L2.St} {H' : Hp} {v : V} {u : Value}, Inv (cxX (L2.CX P w) P w K mg base (sf f) env A outer s H1 E) [] σ' H' s' → RelV v u → Q v H' → CE outer P w H1 s Q u s' :=
      fun {σ' H' v u} J rv q => ⟨v, H', J.os, J.bare, J.base, J.hok, rv, q⟩
    cases fl with
    | ret u =>
      obtain ⟨v, σ', H', J, rv, q⟩ := hs
      exact fin J rv q
    | next =>
      obtain ⟨σ', H', J, q⟩ := hs
      exact fin (v := V.non) (u := Value.none) J rfl q
    | brk =>
      obtain ⟨_, _, _, q⟩ := hs
      exact False.elim q
    | cont =>
      obtain ⟨_, _, _, q⟩ := hs
      exact False.elim q
end TK

set_option maxRecDepth 100000
set_option maxHeartbeats 8000000
namespace TK
open PySem PySem.Spec PySem.W PySem.Calls PyProof.Rows L2
/-! ### isinstance of a caught error that has fields -/
section
variable {prog : Program} {w : World} {A : Around} {E : Value → Shared → Prop} {s : Shared} {K : PySem.W.Frag} {x D : Addr} {ox : Obj} {od : Option Obj}
theorem exClass (T : ExcC K D) (X : K.In s.heap) (I : InstAt s.heap x ox D od) {Q : Option Value → Shared → Prop} (h : Q (some (.ref D)) { s with toks := s.toks + 1 }) : wpAny (model prog w) A (getAttr? (.ref x) "__class__") Q E s := by
  have hf : findObj K D od "__class__" = some (.bind (.builtin "getset_descriptor.__get__") (.builtin "object.__class__")) := by
    obtain ⟨cd, hc, _⟩ := any_some T.hd
    unfold findObj
    rw [hc, Option.bind_some, T.ha, Option.bind_some]
    simp [T.hn, T.ht]
  obtain ⟨hp, g, d, t, os⟩ := s
  have L0 := I.type (M := model prog w)
  have L1 := looks_findIn (M := model prog w) X T.hg
  have L2 := looks_findIn (M := model prog w) X T.hk
  have L3 := looks_find (M := model prog w) X I hf
  have sub : Looks (model prog w) hp (isInstance (.ref x) (.type "BaseException")) true := L0.andThen (looks_subIn X T.hs)
  have hx0 : (false && onTheHeap (Value.builtin "BaseException.__getattribute__")) = false := rfl
  have hx2 : (Value.builtin "BaseException.__getattribute__" == Value.builtin "object.__getattribute__") = false := by decide +kernel
  have hx1 : (onTheHeap (Value.ref D) && Value.builtin "BaseException.__getattribute__" == Value.builtin "object.__getattribute__") = false := by rw [hx2]; rfl
  unfold getAttr? getAttrBy? getAttrBy
  refine wpAny_bind (wpAny_mkText (wpAny_bind (wpAny_attempt (wpAny_holding (wpAny_bind (L0.at (wpAny_bind (L1.at ?_))))))))
  show wpAny _ _ (if (onTheHeap (Value.ref D) && Value.builtin "BaseException.__getattribute__" == Value.builtin "object.__getattribute__") = true then _ else _) _ _ _
  rw [hx1, if_neg Bool.false_ne_true]
  unfold getAttrByItsOwn hookBefore
  refine wpAny_bind ?_
  rw [if_pos (show onTheHeap (Value.ref D) = true from rfl)]
  refine L2.at ?_
  refine wpAny_bind (wpAny_attempt (wpAny_holding ?_))
  unfold callGetattribute
  rw [hx0, if_neg Bool.false_ne_true]
  unfold boundAndCalled
  rw [PySem.F.excAttr_ValueError.ga.bind (.ref x)]
  refine wpAny_bind (wpAny_pure ?_)
  show wpAny _ _ (call (.builtin "BaseException.__getattribute__") [.ref x, .str "__class__" t]) _ _ _
  refine wpAny_call (codeAny_call_builtin PySem.F.excAttr_ValueError.ga.plain PySem.F.entry_bexc_ga ?_)
  refine @check_slot (model prog w) _ _ ⟨hp, g, d, t + 1, os⟩ "BaseException.__getattribute__" "BaseException" "__getattribute__" (.ref x) [.str "__class__" t] [] _ (by decide +kernel) (by decide +kernel) sub (PySem.F.args_bexc_ga (.ref x) (.str "__class__" t)) ?_
  unfold Builtin.«object.__getattribute__»
  refine wpAny_bind (wpAny_of_eq (a := ((Value.ref x : Value), [Value.str "__class__" t])) (by first | rfl | (simp only [slotArgs]; rfl)) ?_)
  refine wpAny_bind (wpAny_pure (wpAny_bind (L0.at (wpAny_bind (L3.at ?_)))))
  show wpAny _ _ (holding [Value.builtin "object.__class__"] (call (.builtin "getset_descriptor.__get__") [.builtin "object.__class__", .ref x, .ref D]) >>= ret) _ _ _
  refine wpAny_bind (wpAny_holding (wpAny_call (class_get (s := ⟨hp, g, d, t + 1, os⟩) (ox := ox) (od := od) X I T.hm ?_)))
  refine wpAny_pure ?_
  show wpAny _ _ (handedOut (.ref D)) _ _ _
  rw [handedOut_of (v := .ref D) rfl]
  first
    | exact wpAny_pure (wpAny_pure h)
    | exact wpAny_pure h
    | exact wpAny_pure (wpAny_bind (wpAny_pure (wpAny_pure h)))
theorem exKit (T : ExcC K D) : KitX K (.ref x) (.ref D) (fun h => ∃ ox od, InstAt h x ox D od) where
  ty := fun _ _ _ ⟨_, _, I⟩ => I.type
  it := fun _ _ X _ => by
    obtain ⟨cdD, hcD, _⟩ := any_some T.hd
    unfold clsIn at hcD
    split at hcD
    · rename_i c' d' cd' sl' ho
      intro A' Q' E' s' k q
      unfold isType loadHead
      exact wpAny_bind (wpAny_loadPart (k _ _ (X _ _ ho)) (wpAny_pure q))
    · cases hcD
  ne := fun h tp dd its n sl X htp => by
    obtain ⟨cdD, hcD, _⟩ := any_some T.hd
    refine Bool.eq_false_iff.mpr fun q => ?_
    have e : D = tp := Value.ref.inj (beq_iff_eq.mp q)
    subst e
    unfold clsIn at hcD
    split at hcD
    · rename_i c' d' cd' sl' ho
      have z := (X _ _ ho).symm.trans htp
      cases z
    · cases hcD
  ca := fun X I k => by
    obtain ⟨_, _, I⟩ := I
    exact exClass T X I k
end
theorem call_isD {X : Cx} {a D dx : Addr} {oe : Obj} {pn : List (Addr × Obj)} (C : ExcC X.K D) (hz : Zc (.ref D) (some dx) oe) (hf : ∃ vs, oe.data = .fields vs) :
    CallR (X.suite a ((a, oe) :: pn)) (.builtin "isinstance") (fun xs H Q => (∃ fs, H dx = some (.xd fs)) ∧ rIsE X.K D a xs H Q) := by
  intro pins s σ H xs us Q I r ⟨⟨fs, hd⟩, h⟩
  obtain ⟨c, cv, b, rfl, hcv, e, q⟩ := h
  cases r with
  | cons rx rr =>
    cases rr with
    | cons rt rr =>
      cases rr
      cases rx
      have ec := hcv _ rt
      subst ec
      obtain ⟨hget, _⟩ := I.pin (a, oe) (List.mem_append.mpr (.inl List.mem_cons_self))
      obtain ⟨vs, hv⟩ := hf
      obtain ⟨u, hu⟩ := objOk_get (I.hok dx _ hd)
      have J : PySem.W.InstAt s.heap a oe D (some u) := by
        obtain ⟨oc, odd, oda, osl⟩ := oe
        obtain ⟨h1, h2⟩ := hz
        dsimp only at h1 h2 hv
        subst h1 h2 hv
        exact ⟨hget, rfl, rfl, hu⟩
      exact PySem.W.kia_one (exKit C) I.kIn ⟨_, _, J⟩ e (fun z => nomatch z) fun tk => ⟨.bl b, H, I.kept (t' := tk) fun _ _ z => z, rfl, q⟩
/-! ### _law_same asked of two alike ones within a suite -/
def sameSp : Sp := fun vs H Q _ => ∃ v, vs = [v, v] ∧ ((∃ x : Str, v = .str x ∧ (reprText x).length ≤ sizeLine) ∨ ∃ i : Int, v = .int i ∧ i.natAbs.log2 < 1920) ∧ Q (.bl true) H
theorem call_reprX {X : Cx} : CallR X (.builtin "repr") (fun xs H Q => ∃ v, xs = [v] ∧ ((∃ x : Str, v = .str x ∧ (reprText x).length ≤ sizeLine ∧ Q (.str (reprText x)) H) ∨ ∃ i : Int, v = .int i ∧ i.natAbs.log2 < 1920 ∧ Q (.str (toString i)) H)) := by
  intro pins s σ H xs us Q I r h
  obtain ⟨v, rfl, h⟩ := h
  obtain ⟨u, rfl, ru⟩ := vals1 r
  rcases h with ⟨x, rfl, hz, q⟩ | ⟨i, rfl, hz, q⟩
  · obtain ⟨t, rfl⟩ := ru
    exact PySem.P.repr_of_str (hsz := hz) ⟨.str _, H, I.tok _, ⟨_, rfl⟩, q⟩
  · obtain ⟨t, rfl⟩ := ru
    exact PySem.P.repr_of_int hz ⟨.str _, H, I.tok _, ⟨_, rfl⟩, q⟩
abbrev vd : List Str := ["value", "due"]
/-- a def that lets nothing out, run wherever an error may be handled -/
def FnA (P : Program) (w : World) (K : PySem.W.Frag) (mg : Str → Option Value) (base : Heap) (k : Nat) (f : Addr) (fd : FuncData) (ps : List Str) (sp : Sp) : Prop :=
  ∀ (A : Around) (outer : List Env) (s : Shared) (H : Hp) (args : Args) (us : List Value) (vs : List V) (Q : VK) (p : Addr × Obj), L2H.RoomH k A → L2H.PinOk outer H s p → Env0 P w K mg base A outer s H → BindsTo s fd args (ps.zip us) → Vals vs us → sp vs H Q E0 →
    codeAny (model P w) A (.call (.ref f) args) (CR CX0 outer P w H s Q E0) s
theorem same_A {P : Program} {w : World} {K : PySem.W.Frag} {mg : Str → Option Value} {base : Heap} {f : Addr} {fd : FuncData} {st : Stmt} (F : L2.Fun K "_law_same" "_law_same" st f fd) (S : FnScope vd vd (defScope st)) (hm : mg "repr" = none)
    (hb : ∃ p1 p2 p3 p4 p5 p6 p7 p8, defBody st = [.Return (some (.Compare (.Call (.Name "repr" p1) [.Name "value" p2] [] p3) [.Eq] [.Call (.Name "repr" p4) [.Name "due" p5] [] p6] p7)) p8])
    (hg : (defScope st).names.lookup ("repr" : Str) = some .globalImplicit) (l1 : (defScope st).names.lookup ("value" : Str) = some .local) (l2 : (defScope st).names.lookup ("due" : Str) = some .local) : FnA P w K mg base 1 f fd vd sameSp := by
  obtain ⟨oc, od, kV, doc, pm, an, cdv, ct, osl, rfl, lk, hcd⟩ := F.ex
  obtain ⟨p1, p2, p3, p4, p5, p6, p7, p8, hb⟩ := hb
  intro A outer s H args us vs Q p hr hpin e0 hbd r hsp
  obtain ⟨v, rfl, hv, q⟩ := hsp
  have KX : K.In s.heap := e0.mod.kin.keeps fun b o e => (e0.bs b o e).1
  have lim : s.heap.NoLimit := e0.mod.nolimit.keeps fun b o e => (e0.bs b o e).1
  have hkind : ∀ y ∈ vd.zip us, (defScope st).names.lookup y.1 = some .local ∨ ((defScope st).names.lookup y.1 = some .cell ∧ ((cellsFrom (s.heap.objs.size + 1) (defScope st).names []).lookup y.1).isSome = true) := fun ⟨n, v⟩ hy => by
    rcases S.par n (List.of_mem_zip hy).1 with q | q
    · exact .inl q
    · exact .inr ⟨q, PySem.W.cellsFrom_some _ _ _ (.inl q)⟩
  refine codeAny_call_function hr.depth (KX _ _ lk) rfl S.co S.gen rfl (PySem.W.codeRec_of KX hcd) (hbd _ _ _ _ ?_)
  refine wpAny_newFunctionEnv_cells S.kind hkind fun env he s1 x => ?_
  subst he
  refine ⟨lim.keeps x.toInCall.keep, codeAny_func ?_⟩
  rw [hb]
  let X := L2H.cxH CX0 P w K mg base vd "_law_same" (defScope st) f cdv A outer s H E0 p
  have Gr : Gl X "repr" := by
    first
      | exact hg
      | exact .inl hg
      | exact .inr hg
  have e1 : PE X (.Name "value" p2) (tVar 0) := pe_var (X := X) rfl (.inl l1) (by decide) (by decide)
  have e2 : PE X (.Name "due" p5) (tVar 1) := pe_var (X := X) rfl (.inl l2) (by decide) (by decide)
  have c1 := pe_callB (X := X) (p := p1) (pos := p3) call_reprX Gr hm (show bootBuiltins "repr" = some (.builtin "repr") by first | rfl | decide +kernel) (pa_cons e1 pa_nil)
  have c2 := pe_callB (X := X) (p := p4) (pos := p6) call_reprX Gr hm (show bootBuiltins "repr" = some (.builtin "repr") by first | rfl | decide +kernel) (pa_cons e2 pa_nil)
  have ht := pss_cons (ps_ret (pos := p8) (pe_cmpR (pos := p7) op_eq c1 c2 rfl)) pss_nil
  have I : Inv X [] (L2.start vd [v, v]) H s1 := L2H.inv_startH S hpin e0 rfl r x
  have fin1 : ∀ x : Str, rEq (.str x) (.str x) H Q := fun x => ⟨rfl, by simpa using q⟩
  refine wpAny_mono (ht.run [] s1 _ H { nx := fun _ H' => Q .non H', rt := Q } I ?_) (fun fl s' hs => ?_) fun e s' hs => hs
  · rcases hv with ⟨x, rfl, hz⟩ | ⟨i, rfl, hz⟩
    · exact ⟨_, rfl, .str x, rfl, .inl ⟨x, rfl, hz, _, rfl, .str x, rfl, .inl ⟨x, rfl, hz, fin1 _⟩⟩⟩
    · exact ⟨_, rfl, .int i, rfl, .inr ⟨i, rfl, hz, _, rfl, .int i, rfl, .inr ⟨i, rfl, hz, fin1 _⟩⟩⟩
  have fin : ∀ {σ' : L2.St} {H' : Hp} {v : V} {u : Value}, Inv X [] σ' H' s' → RelV v u → Q v H' → CE outer P w H s Q u s' :=
    fun {σ' H' v u} J rv q => ⟨v, H', J.os, J.bare, J.base, J.hok, rv, q⟩
  cases fl with
  | ret u =>
    obtain ⟨v, σ', H', J, rv, q⟩ := hs
    exact fin J rv q
  | next =>
    obtain ⟨σ', H', J, q⟩ := hs
    exact fin (v := V.non) (u := Value.none) J rfl q
  | brk =>
    obtain ⟨_, _, _, q⟩ := hs
    exact False.elim q
  | cont =>
    obtain ⟨_, _, _, q⟩ := hs
    exact False.elim q
/-- such a def called within a suite -/
theorem pe_callA {X : Cx} {k : Nat} {f a : Addr} {oe : Obj} {pn : List (Addr × Obj)} {fd : FuncData} {ps : List Str} {sp : Sp} {x : Str} {q pos : Pos} {e : Expr} {es : List Expr} {t : TA} (F : FnA X.prog X.w X.K X.mg X.base k f fd ps sp) (hr : L2H.RoomH k X.A)
    (hlen : ∀ vs H Q E, sp vs H Q E → vs.length = ps.length) (hg : Gl X x) (hm : X.mg x = some (.ref f)) (hk : PySem.W.keepIn X.K (.ref f) = true) (hb : Binds X.K fd ps [])
    (ha : PA (X.suite a ((a, oe) :: pn)) (e :: es) t) (hdb : (x == ("__debug__" : Str)) = false) (he : starEach (e :: es) X.env = (false, eval e X.env) :: starEach es X.env) (hpl : (backTo pos (starEach es X.env)).any (·.1) = false) :
    PE (X.suite a ((a, oe) :: pn)) (.Call (.Name x q) (e :: es) [] pos) (fun σ H Q => t σ H fun vs H1 => sp vs H1 Q E0) := by
  refine ⟨fun pins s σ H Q I h => ?_⟩
  refine wpAny_Call_Name_kw (ld_glob (X := X.suite a ((a, oe) :: pn)) I hg hm ?_ hdb)
  refine PySem.W.callWith_K (h₀ := X.base) I.ok.mod.kin hk (thn (ha.run pos pins s σ H _ I h) fun us s1 ⟨vs, H1, I1, r, q⟩ => ⟨I1.kIn, ?_⟩) he hpl
  have hl : us.length = ps.length := by rw [← r.length]; exact hlen _ _ _ _ q
  have b := hb s1 us I1.kIn (by rw [List.append_nil]; exact hl)
  rw [List.append_nil] at b
  have P1 := I1.pin (a, oe) (List.mem_append_left _ List.mem_cons_self)
  have hpin : L2H.PinOk X.stack H1 s1 (a, oe) := ⟨P1.1, P1.2.1, fun hm => (List.mem_cons.mp (I1.stkSub a hm)).elim P1.2.2.1 P1.2.2.2.1, P1.2.2.2.2⟩
  refine wpAny_call (codeAny_mono (F _ X.stack s1 H1 ⟨us, []⟩ us vs Q (a, oe) ⟨hr.dp, hr.un⟩ hpin I1.env0 b r q) fun r s' hq => ?_)
  cases r with
  | error e => exact (show False from hq).elim
  | ok fl =>
    cases fl with
    | ret u => exact I1.after hq
    | next => exact False.elim hq
    | brk => exact False.elim hq
    | cont => exact False.elim hq
end TK

set_option maxRecDepth 100000
set_option maxHeartbeats 8000000
namespace TK
open PySem PySem.Spec PyProof.Rows L2
/-! ### what a term asks of the errors' classes -/
structure ClsRd (K : PySem.W.Frag) (C : Addr) : Prop where
  xf : XfC K C
  ec : ExcC K C
  no : ∀ f ∈ fldNames, PySem.W.findIn K (.ref C) f = some none
def okV (c : Str) (y : V) : Prop := match y with
  | .str x => c = ("BadValue" : Str) ∧ x.length ≤ 1000
  | _ => False
def HasX (Γ : Wd) (k : Nat) : Nat → Str → Prop
  | 0, c => 2 ≤ k ∧ ∃ (C fI : Addr) (fd : FuncData), Γ.mg c = some (.ref C) ∧ OexC Γ.K C ∧ PySem.W.findIn Γ.K (.ref C) "__init__" = some (some (.ref fI)) ∧ PySem.W.typeIn Γ.K (.ref fI) = some (.type "function") ∧ Binds Γ.K fd (sf (fldOf c)) [] ∧
      PySem.W.findIn Γ.K (.ref C) (fldOf c) = some none ∧ FnOk Γ.P Γ.w Γ.K Γ.mg Γ.base (L2.CX Γ.P Γ.w) 1 fI fd (sf (fldOf c)) (iniSp1 Γ.K C (fldOf c) (okV c))
  | 1, d => ∃ D : Addr, Γ.mg d = some (.ref D) ∧ ∀ c ∈ excNames, ∀ C : Addr, Γ.mg c = some (.ref C) → PySem.W.exmOne Γ.K (.ref C) (.ref D) = some (subC c d) ∧ ClsRd Γ.K C
  | 2, d => ∃ (u : Value) (y : V), (Γ.mg d = some u ∨ (Γ.mg d = none ∧ bootBuiltins d = some u ∧ d ≠ "__name__")) ∧ RelV y u ∧ (∀ u', RelV y u' → u' = u) ∧
      ∀ c ∈ excNames, ∀ C : Addr, Γ.mg c = some (.ref C) → PySem.W.kitOne Γ.K (.ref C) u = some (subC c d)
  | 3, g => 1 ≤ k ∧ ∃ (fa : Addr) (fd : FuncData), Γ.mg g = some (.ref fa) ∧ PySem.W.keepIn Γ.K (.ref fa) = true ∧ Binds Γ.K fd vd [] ∧ FnA Γ.P Γ.w Γ.K Γ.mg Γ.base 1 fa fd vd sameSp
  | _, _ => False
theorem HasX.mono {Γ : Wd} {j k i : Nat} {c : Str} (h : HasX Γ j i c) (hk : j ≤ k) : HasX Γ k i c := by
  unfold HasX at h ⊢
  split at h
  · exact ⟨Nat.le_trans h.1 hk, h.2⟩
  · exact h
  · exact h
  · exact ⟨Nat.le_trans h.1 hk, h.2⟩
  · exact h
abbrev pxX (X : Cx) (k : Nat) : Nat → Str → Prop := HasX (wdX X) k
theorem ExRep.ext {K : PySem.W.Frag} {mg : Str → Option Value} {H H' : Hp} {F F' : FS} {e : Exn} {cls : Value} {d : Option Addr} (h : ExRep K mg H F e cls d) (x : Ext F H F' H') : ExRep K mg H' F' e cls d := by
  obtain ⟨C, h1, h2, dx, fs, h3, h4, h5⟩ := h
  exact ⟨C, h1, h2, dx, fs, h3, x.kp _ _ h4 (.inr trivial), fun n v e => let ⟨y, a, b⟩ := h5 n v e; ⟨y, a, b.ext x⟩⟩
/-- a suite's term, read: the error is that of slot i -/
structure SuR (K : PySem.W.Frag) (mg : Str → Option Value) (cls : Value) (d : Option Addr) (i : Nat) (a : Addr) (σ : L2.St) (H : Hp) (F : FS) (τ : Sl) (st : Store) (e : Exn) : Prop where
  rs : RS K H F st
  sl : RSl K H F τ σ
  at_ : σ[i]? = some (some (.ref a))
  mem : e.1 ∈ excNames
  rep : ExRep K mg H F e cls d
theorem SuR.ext {K : PySem.W.Frag} {mg : Str → Option Value} {cls : Value} {d : Option Addr} {i : Nat} {a : Addr} {σ : L2.St} {H H' : Hp} {F F' : FS} {τ : Sl} {st : Store} {e : Exn} (h : SuR K mg cls d i a σ H F τ st e) (x : Ext F H F' H') (rs : RS K H' F' st) : SuR K mg cls d i a σ H' F' τ st e :=
  ⟨rs, h.sl.ext x, h.at_, h.mem, h.rep.ext x⟩
def tlX (X : Cx) (cls : Value) (d : Option Addr) (i : Nat) (a : Addr) (w : Exn → Sl → (PV → Prop) → Prop) : TE := fun σ H Q => ∃ F τ st e, SuR X.K X.mg cls d i a σ H F τ st e ∧ w e τ fun v => LQ X.K F H Q v st
def tlXs (X : Cx) (cls : Value) (d : Option Addr) (i : Nat) (a : Addr) (w : Exn → Sl → (List PV → Prop) → Prop) : TA := fun σ H Q => ∃ F τ st e, SuR X.K X.mg cls d i a σ H F τ st e ∧ w e τ fun vs => ∀ F' H' ys, Ext F H F' H' → RS X.K H' F' st → DVs X.K H' F' vs ys → Q ys H'
def tlXt (X : Cx) (cls : Value) (d : Option Addr) (i : Nat) (a : Addr) (w : Exn → Sl → (Bool → Prop) → Prop) : TT := fun σ H Q => ∃ F τ st e, SuR X.K X.mg cls d i a σ H F τ st e ∧ w e τ fun b => ∀ F' H', Ext F H F' H' → RS X.K H' F' st → Q b H'
section
variable {X : Cx} {C : SC} {k i : Nat} {W : WX} {n : Str} {a Cc dx : Addr} {oe : Obj} {pn : List (Addr × Obj)}
theorem tlX_go {σ : L2.St} {H0 H : Hp} {F0 F : FS} {τ : Sl} {st : Store} {e : Exn} {Q1 : VK} {K0 : PV → Prop} (x : XE) (e0 : Ext F0 H0 F H) (su : SuR X.K X.mg (.ref Cc) (some dx) i a σ H F τ st e) (h : wpX x e τ K0)
    (nn : ∀ F1 H1 y v, Ext F H F1 H1 → SuR X.K X.mg (.ref Cc) (some dx) i a σ H1 F1 τ st e → DV X.K H1 F1 v y → K0 v → Q1 y H1) : tlX X (.ref Cc) (some dx) i a (wpX x) σ H Q1 :=
  ⟨F, τ, st, e, su, wpX_mono x (fun v hk F1 H1 y x1 rs1 d1 => nn F1 H1 y v x1 (su.ext x1 rs1) d1 hk) h⟩
/-- what the suite stands in -/
structure SuOk (X : Cx) (C : SC) (k : Nat) (W : WX) (n : Str) (i : Nat) (a Cc dx : Addr) (oe : Obj) (pn : List (Addr × Obj)) : Prop where
  ok : CxOk X C k W
  hi : C.N[i]? = some n
  hl : C.sc.names.lookup n = some .local
  zn : Zc (.ref Cc) (some dx) oe
  hf : ∃ vs, oe.data = .fields vs
  cls : ClsRd X.K Cc
theorem su_var (s : SuOk X C k W n i a Cc dx oe pn) {p : Pos} (h1 : (n == ("__debug__" : Str)) = false) (h2 : (n == ("__classdict__" : Str)) = false) : PE (X.suite a ((a, oe) :: pn)) (.Name n p) (tVar i) :=
  pe_var (X := X.suite a ((a, oe) :: pn)) (by show X.N[i]? = some n; rw [s.ok.hN]; exact s.hi) (by show Vis X.env.scope n; rw [s.ok.hsc]; exact .inl s.hl) h1 h2
theorem pe_nmX {X' : Cx} {d : Str} {u : Value} {y : V} {p : Pos} (hg : Gl X' d) (hd : (d == ("__debug__" : Str)) = false) (h : X'.mg d = some u ∨ (X'.mg d = none ∧ bootBuiltins d = some u ∧ d ≠ "__name__")) (r : RelV y u) : PE X' (.Name d p) (tC y) := by
  rcases h with h | ⟨h1, h2, h3⟩
  · exact pe_glob hg h r hd
  · exact pe_bltn hg h1 h2 r h3 hd
theorem SuOk.gl (s : SuOk X C k W n i a Cc dx oe pn) {x : Str} (h : glB C.sc x = true) : Gl (X.suite a ((a, oe) :: pn)) x ∧ (x == ("__debug__" : Str)) = false := s.ok.gl h
mutual
theorem sX : ∀ (x : XE) {X : Cx} {C : SC} {k i : Nat} {W : WX} {n : Str} {a Cc dx : Addr} {oe : Obj} {pn : List (Addr × Obj)} {y : Expr}, SuOk X C k W n i a Cc dx oe pn → chkX x C n y = true → needX (pxX X k) x → PE (X.suite a ((a, oe) :: pn)) y (tlX X (.ref Cc) (some dx) i a (wpX x))
  | .fld f, X, C, k, i, W, n, a, Cc, dx, oe, pn, y, s, hc, hn => by
    unfold chkX at hc
    split at hc
    · rename_i z p g pos
      simp only [Bool.and_eq_true, decide_eq_true_eq, Bool.not_eq_true'] at hc
      obtain ⟨⟨⟨⟨e1, e2⟩, hm⟩, h1⟩, h2⟩ := hc
      subst e1 e2
      refine impE (pe_xf s.cls.xf (s.cls.no _ hm) s.zn s.hf (su_var s h1 h2) (by rfl)) fun σ H Q q => ?_
      obtain ⟨F, τ, st, e, su, h⟩ := q
      unfold wpX at h
      obtain ⟨C', r1, r2, dx', fs, r3, r4, r5⟩ := su.rep
      cases el : e.2.lookup g with
      | none => rw [el] at h; exact h.elim
      | some v =>
        rw [el] at h
        obtain ⟨w, hw, dw⟩ := r5 _ _ el
        cases r3
        exact ⟨_, su.at_, rfl, rfl, _, fs, w, rfl, r4, hw, LQ.now h su.rs dw⟩
    · cases hc
  | .is d, X, C, k, i, W, n, a, Cc, dx, oe, pn, y, s, hc, hn => by
    unfold chkX at hc
    split at hc
    · rename_i x1 p1 y1 p2 z1 p3 pos
      simp only [Bool.and_eq_true, decide_eq_true_eq, Bool.not_eq_true'] at hc
      obtain ⟨⟨⟨⟨⟨⟨e1, g1⟩, e2⟩, h1⟩, h2⟩, e3⟩, g3⟩ := hc
      subst e1 e2 e3
      obtain ⟨u, yv, hu, ru, hun, hk⟩ := hn
      obtain ⟨g1, g1'⟩ := s.gl g1
      obtain ⟨g3, g3'⟩ := s.gl g3
      refine impE (pe_callB (call_isD s.cls.ec s.zn s.hf) g1 (s.ok.blt _ (by decide +kernel)) (show bootBuiltins "isinstance" = some (.builtin "isinstance") by first | rfl | decide +kernel) (pa_cons (su_var s h1 h2) (pa_cons (pe_nmX g3 g3' hu ru) pa_nil rfl) rfl) (by decide) g1' rfl rfl) fun σ H Q q => ?_
      obtain ⟨F, τ, st, e, su, h⟩ := q
      unfold wpX at h
      obtain ⟨C', r1, r2, dx', fs, r3, r4, r5⟩ := su.rep
      cases r1
      cases r3
      exact ⟨_, su.at_, ⟨fs, r4⟩, yv, u, _, rfl, hun, hk _ su.mem _ r2, LQ.now h su.rs (.bl _)⟩
    · cases hc
  | .str x, X, C, k, i, W, n, a, Cc, dx, oe, pn, y, s, hc, hn => by
    unfold chkX at hc
    split at hc
    · have e := of_decide_eq_true hc
      subst e
      refine impE pe_str fun σ H Q q => ?_
      obtain ⟨F, τ, st, e, su, h⟩ := q
      exact LQ.now h su.rs (.str _)
    · cases hc
  | .int x, X, C, k, i, W, n, a, Cc, dx, oe, pn, y, s, hc, hn => by
    unfold chkX at hc
    split at hc
    · have e := of_decide_eq_true hc
      subst e
      refine impE pe_int fun σ H Q q => ?_
      obtain ⟨F, τ, st, e, su, h⟩ := q
      exact LQ.now h su.rs (.int _)
    · cases hc
  | .bl x, X, C, k, i, W, n, a, Cc, dx, oe, pn, y, s, hc, hn => by
    have hc : chkE (.bl x) C y = true := by unfold chkX at hc; exact hc
    unfold chkE at hc
    split at hc
    · have e := eq_of_beq hc
      subst e
      refine impE pe_bl fun σ H Q q => ?_
      obtain ⟨F, τ, st, e, su, h⟩ := q
      exact LQ.now h su.rs (.bl _)
    · cases hc
  | .non, X, C, k, i, W, n, a, Cc, dx, oe, pn, y, s, hc, hn => by
    have hc : chkE .non C y = true := by unfold chkX at hc; exact hc
    unfold chkE at hc
    split at hc
    · refine impE pe_non fun σ H Q q => ?_
      obtain ⟨F, τ, st, e, su, h⟩ := q
      exact LQ.now h su.rs .non
    · cases hc
  | .var j, X, C, k, i, W, n, a, Cc, dx, oe, pn, y, s, hc, hn => by
    have hc : chkE (.var j) C y = true := by unfold chkX at hc; exact hc
    unfold chkE at hc
    split at hc
    · unfold nmB at hc
      simp only [Bool.and_eq_true, decide_eq_true_eq, Bool.not_eq_true'] at hc
      obtain ⟨⟨⟨h1, h2⟩, h3⟩, h4⟩ := hc
      refine impE (pe_var (X := X.suite a ((a, oe) :: pn)) (i := j) (by show X.N[j]? = _; rw [s.ok.hN]; exact h1) (s.ok.vis h2) h3 h4) fun σ H Q q => ?_
      obtain ⟨F, τ, st, e, su, h⟩ := q
      unfold wpX at h
      cases el : getS τ j with
      | none => rw [el] at h; exact h.elim
      | some v =>
        rw [el] at h
        obtain ⟨w, hw, dw⟩ := su.sl.2 j v el
        exact ⟨w, hw, LQ.now h su.rs dw⟩
    · cases hc
  | .neg x, X, C, k, i, W, n, a, Cc, dx, oe, pn, y, s, hc, hn => by
    unfold chkX at hc
    split at hc
    · refine impE (pe_un un_neg (sX x s hc hn)) fun σ H Q q => ?_
      obtain ⟨F, τ, st, e, su, h⟩ := q
      unfold wpX at h
      refine tlX_go x .refl su h fun F1 H1 y v x1 su1 d1 h1 => ?_
      cases d1 with
      | int m => exact ⟨_, rfl, LQ.ext x1 _ _ h1 |>.now su1.rs (.int _)⟩
      | _ => exact False.elim h1
    · cases hc
  | .not x, X, C, k, i, W, n, a, Cc, dx, oe, pn, y, s, hc, hn => by
    unfold chkX at hc
    split at hc
    · refine impE (pe_not (sX x s hc hn)) fun σ H Q q => ?_
      obtain ⟨F, τ, st, e, su, h⟩ := q
      unfold wpX at h
      refine tlX_go x .refl su h fun F1 H1 y v x1 su1 d1 h1 => ?_
      cases d1 with
      | bl m => exact ⟨_, rfl, LQ.ext x1 _ _ h1 |>.now su1.rs (.bl _)⟩
      | _ => exact False.elim h1
    · cases hc
  | .ands xs, X, C, k, i, W, n, a, Cc, dx, oe, pn, y, s, hc, hn => by
    unfold chkX at hc
    split at hc
    · refine impE (sXa xs s hc hn) fun σ H Q q => ?_
      obtain ⟨F, τ, st, e, su, h⟩ := q
      unfold wpX at h
      exact ⟨F, τ, st, e, su, h⟩
    · cases hc
  | .ite ts p q, X, C, k, i, W, n, a, Cc, dx, oe, pn, y, s, hc, hn => by
    unfold chkX at hc
    split at hc
    · rename_i y1 y2 y3 ypos
      simp only [Bool.and_eq_true] at hc
      obtain ⟨⟨h1, h2⟩, h3⟩ := hc
      have ht : PT (X.suite a ((a, oe) :: pn)) y1 (tlXt X (.ref Cc) (some dx) i a (wpXt ts)) := by
        cases ts with
        | nil => cases h1
        | cons u us =>
          cases us with
          | nil =>
            have h1 := Bool.and_eq_true_iff.mp h1
            refine impT (sXo u s h1.1 h1.2 hn.1.1) fun σ H Q q => ?_
            obtain ⟨F, τ, st, e, su, h⟩ := q
            unfold wpXt at h
            refine ⟨F, τ, st, e, su, wpX_mono u (fun v h => onBl_mono (fun b h => ?_) h) h⟩
            cases b with
            | true => exact h
            | false => exact h
          | cons v vs =>
            split at h1
            · cases h1
            · rename_i eq; cases eq
            · rename_i eq
              split at h1
              · exact (sXt (.cons u (.cons v vs)) s h1 (fun z => by cases z) hn.1).pt
              · cases h1
      refine impE (pe_ifExp ht (sX p s h2 hn.2.1) (sX q s h3 hn.2.2)) fun σ H Q qq => ?_
      obtain ⟨F, τ, st, e, su, h⟩ := qq
      unfold wpX at h
      refine ⟨F, τ, st, e, su, wpXt_mono ts (fun b hb F1 H1 x1 rs1 => ?_) h⟩
      have su1 := su.ext x1 rs1
      cases b with
      | true => exact tlX_go p x1 su1 hb fun F2 H2 z v x2 su2 d2 h2 => h2 F2 H2 z (x1.trans x2) su2.rs d2
      | false => exact tlX_go q x1 su1 hb fun F2 H2 z v x2 su2 d2 h2 => h2 F2 H2 z (x1.trans x2) su2.rs d2
    · cases hc
  | .tup xs, X, C, k, i, W, n, a, Cc, dx, oe, pn, y, s, hc, hn => by
    unfold chkX at hc
    split at hc
    · refine impE (pe_tup (sXs xs s hc hn)) fun σ H Q q => ?_
      obtain ⟨F, τ, st, e, su, h⟩ := q
      unfold wpX at h
      refine ⟨F, τ, st, e, su, wpXs_mono xs (fun vs h F1 H1 ys x1 rs1 d1 => ?_) h⟩
      exact ⟨by rw [← d1.length]; exact h.1, newTup_ok (LQ.ext x1 _ _ h.2) rs1 d1⟩
    · cases hc
  | .same g x z, X, C, k, i, W, n, a, Cc, dx, oe, pn, y, s, hc, hn => by
    unfold chkX at hc
    split at hc
    · rename_i w p y1 y2 pos
      simp only [Bool.and_eq_true, decide_eq_true_eq] at hc
      obtain ⟨⟨⟨⟨⟨e1, g1⟩, s1⟩, s2⟩, h1⟩, h2⟩ := hc
      subst e1
      obtain ⟨⟨hk, fa, fd, m1, m2, m3, m4⟩, hn1, hn2⟩ := hn
      obtain ⟨g1, g1'⟩ := s.gl g1
      refine impE (pe_callA m4 (L2H.roomH_of (s.ok.room.mono hk)) (fun vs H Q E ⟨v, e, _⟩ => by rw [e]; rfl) g1 m1 m2 m3 (pa_cons (sX x s h1 hn1) (pa_cons (sX z s h2 hn2) pa_nil (star_cons s2)) (star_cons s1)) g1' (star_cons s1) (by rw [star_cons s2]; rfl)) fun σ H Q q => ?_
      obtain ⟨F, τ, st, e, su, h⟩ := q
      unfold wpX at h
      refine tlX_go x .refl su h fun F1 H1 y v x1 su1 d1 h1 => ?_
      refine tlX_go z x1 su1 h1 fun F2 H2 y2 v2 x2 su2 d2 h2 => ?_
      obtain ⟨h2, h3⟩ := h2
      have fin := LQ.ext (x1.trans x2) _ _ h3 |>.now su2.rs (.bl _)
      have d1 := d1.ext x2
      cases d1 with
      | str t =>
        cases d2 with
        | str t2 =>
          obtain ⟨e, h2⟩ := h2
          subst e
          exact ⟨_, rfl, .inl ⟨_, rfl, h2⟩, fin⟩
        | _ => exact False.elim h2
      | int t =>
        cases d2 with
        | int t2 =>
          obtain ⟨e, h2⟩ := h2
          subst e
          exact ⟨_, rfl, .inr ⟨_, rfl, h2⟩, fin⟩
        | _ => exact False.elim h2
      | _ => exact False.elim h2
    · cases hc
theorem sXo : ∀ (x : XE) {X : Cx} {C : SC} {k i : Nat} {W : WX} {n : Str} {a Cc dx : Addr} {oe : Obj} {pn : List (Addr × Obj)} {y : Expr}, SuOk X C k W n i a Cc dx oe pn → plainT y = true → chkX x C n y = true → needX (pxX X k) x → PT (X.suite a ((a, oe) :: pn)) y (tlXt X (.ref Cc) (some dx) i a fun e τ Q => wpX x e τ fun v => onBl v Q)
  | x, X, C, k, i, W, n, a, Cc, dx, oe, pn, y, s, hp, hc, hn => by
    refine impT (pt_truth (sX x s hc hn) (plain_isTrue hp _)) fun σ H Q q => ?_
    obtain ⟨F, τ, st, e, su, h⟩ := q
    refine tlX_go x .refl su h fun F1 H1 y v x1 su1 d1 h1 => ?_
    cases d1 with
    | bl m => exact ⟨m, rfl, h1 F1 H1 x1 su1.rs⟩
    | _ => exact False.elim h1
theorem sXt : ∀ (xs : XEs) {X : Cx} {C : SC} {k i : Nat} {W : WX} {n : Str} {a Cc dx : Addr} {oe : Obj} {pn : List (Addr × Obj)} {ys : List Expr} {pos : Pos}, SuOk X C k W n i a Cc dx oe pn → chkXt xs C n ys = true → xs ≠ .nil → needXs (pxX X k) xs → PW (X.suite a ((a, oe) :: pn)) (.BoolOp .And ys pos) (tlXt X (.ref Cc) (some dx) i a (wpXt xs))
  | .nil, X, C, k, i, W, n, a, Cc, dx, oe, pn, ys, pos, s, hc, hne, hn => absurd rfl hne
  | .cons x .nil, X, C, k, i, W, n, a, Cc, dx, oe, pn, ys, pos, s, hc, hne, hn => by
    cases ys with
    | nil => cases hc
    | cons y r =>
      have h' : (plainT y && chkX x C n y && chkXt .nil C n r) = true := hc
      simp only [Bool.and_eq_true] at h'
      cases r with
      | cons _ _ => cases h'.2
      | nil =>
        refine impW (pw_and1 (sXo x s h'.1.1 h'.1.2 hn.1)) fun σ H Q q => ?_
        obtain ⟨F, τ, st, e, su, h⟩ := q
        unfold wpXt at h
        refine ⟨F, τ, st, e, su, wpX_mono x (fun v h => onBl_mono (fun b h => ?_) h) h⟩
        cases b with
        | true => exact h
        | false => exact h
  | .cons x (.cons z zs), X, C, k, i, W, n, a, Cc, dx, oe, pn, ys, pos, s, hc, hne, hn => by
    cases ys with
    | nil => cases hc
    | cons y r =>
      have h' : (plainT y && chkX x C n y && chkXt (.cons z zs) C n r) = true := hc
      simp only [Bool.and_eq_true] at h'
      cases r with
      | nil => cases h'.2
      | cons y2 r =>
        have ih := sXt (.cons z zs) (pos := pos) s h'.2 (fun q => by cases q) hn.2
        refine impW (pw_and (sXo x s h'.1.1 h'.1.2 hn.1) ih) fun σ H Q q => ?_
        obtain ⟨F, τ, st, e, su, h⟩ := q
        have h : wpX x e τ fun v => onBl v fun b => if b = true then wpXt (.cons z zs) e τ _ else _ := h
        refine ⟨F, τ, st, e, su, wpX_mono x (fun v h => onBl_mono (fun b h F1 H1 x1 rs1 => ?_) h) h⟩
        cases b with
        | true => exact ⟨F1, τ, st, e, su.ext x1 rs1, wpXt_mono (.cons z zs) (fun b h F2 H2 x2 rs2 => h F2 H2 (x1.trans x2) rs2) h⟩
        | false => exact h F1 H1 x1 rs1
theorem sXs : ∀ (xs : XEs) {X : Cx} {C : SC} {k i : Nat} {W : WX} {n : Str} {a Cc dx : Addr} {oe : Obj} {pn : List (Addr × Obj)} {ys : List Expr}, SuOk X C k W n i a Cc dx oe pn → chkXs xs C n ys = true → needXs (pxX X k) xs → PA (X.suite a ((a, oe) :: pn)) ys (tlXs X (.ref Cc) (some dx) i a (wpXs xs))
  | .nil, X, C, k, i, W, n, a, Cc, dx, oe, pn, ys, s, hc, hn => by
    cases ys with
    | cons _ _ => cases hc
    | nil =>
      refine impA pa_nil fun σ H Q q => ?_
      obtain ⟨F, τ, st, e, su, h⟩ := q
      exact h F H [] .refl su.rs .nil
  | .cons x xs, X, C, k, i, W, n, a, Cc, dx, oe, pn, ys, s, hc, hn => by
    cases ys with
    | nil => cases hc
    | cons y r =>
      have h' : (notStar y && chkX x C n y && chkXs xs C n r) = true := hc
      simp only [Bool.and_eq_true] at h'
      refine impA (pa_cons (sX x s h'.1.2 hn.1) (sXs xs s h'.2 hn.2) (star_cons h'.1.1)) fun σ H Q q => ?_
      obtain ⟨F, τ, st, e, su, h⟩ := q
      unfold wpXs at h
      refine tlX_go x .refl su h fun F1 H1 y v x1 su1 d1 h1 => ?_
      exact ⟨F1, τ, st, e, su1, wpXs_mono xs (fun vs h F2 H2 zs x2 rs2 d2 => h F2 H2 _ (x1.trans x2) rs2 (.cons (d1.ext x2) d2)) h1⟩
theorem sXa : ∀ (xs : XEs) {X : Cx} {C : SC} {k i : Nat} {W : WX} {n : Str} {a Cc dx : Addr} {oe : Obj} {pn : List (Addr × Obj)} {ys : List Expr} {pos : Pos}, SuOk X C k W n i a Cc dx oe pn → chkXs xs C n ys = true → needXs (pxX X k) xs → PE (X.suite a ((a, oe) :: pn)) (.BoolOp .And ys pos) (tlX X (.ref Cc) (some dx) i a (wpXa xs))
  | .nil, X, C, k, i, W, n, a, Cc, dx, oe, pn, ys, pos, s, hc, hn => ⟨fun pins s σ H Q I ⟨F, τ, st, e, su, h⟩ => by unfold wpXa at h; exact h.elim⟩
  | .cons x .nil, X, C, k, i, W, n, a, Cc, dx, oe, pn, ys, pos, s, hc, hn => by
    cases ys with
    | nil => cases hc
    | cons y r =>
      have h' : (notStar y && chkX x C n y && chkXs .nil C n r) = true := hc
      simp only [Bool.and_eq_true] at h'
      cases r with
      | cons _ _ => cases h'.2
      | nil =>
        refine impE (pe_one (sX x s h'.1.2 hn.1)) fun σ H Q q => ?_
        obtain ⟨F, τ, st, e, su, h⟩ := q
        unfold wpXa at h
        exact ⟨F, τ, st, e, su, h⟩
  | .cons x (.cons z zs), X, C, k, i, W, n, a, Cc, dx, oe, pn, ys, pos, s, hc, hn => by
    cases ys with
    | nil => cases hc
    | cons y r =>
      have h' : (notStar y && chkX x C n y && chkXs (.cons z zs) C n r) = true := hc
      simp only [Bool.and_eq_true] at h'
      cases r with
      | nil => cases h'.2
      | cons y2 r =>
        have ih := sXa (.cons z zs) (pos := pos) s h'.2 hn.2
        refine impE (pe_and (sX x s h'.1.2 hn.1) ih) fun σ H Q q => ?_
        obtain ⟨F, τ, st, e, su, h⟩ := q
        have h : wpX x e τ fun v => onBl v fun b => if b = true then wpXa (.cons z zs) e τ _ else _ := h
        refine tlX_go x .refl su h fun F1 H1 y v x1 su1 d1 h1 => ?_
        cases d1 with
        | bl c =>
          refine ⟨c, rfl, ?_⟩
          cases c with
          | true => exact ⟨F1, τ, st, e, su1, wpXa_mono (.cons z zs) (fun v h => LQ.ext x1 _ _ h) h1⟩
          | false => exact h1 F1 H1 _ x1 su1.rs (.bl _)
        | _ => exact False.elim h1
end
end
end TK

set_option maxRecDepth 100000
set_option maxHeartbeats 8000000
namespace TK
open PySem PySem.Spec PyProof.Rows L2
/-! ### the classes of errors, from what the written part says -/
section
variable {P : Program} {w : World} {K : PySem.W.Frag} {mg : Str → Option Value} {base : Heap} {C D : Addr}
theorem oex_mk {nm q : Str} {N : Addr} {bs bm : List Value} {sn : List Str} {sub : List Value} {ab : Bool} {col : Option Bool} {dd : Option Addr} {m0 m1 m2 m3 m5 : Option Value}
    (xL : K.lookup C = some (excClassObj nm q C N bs bm true sn sub ab col dd m0 m1 m2 m3 m5 "ValueError.__new__")) (hb : PySem.HandSPX.refsVE bm = true)
    (sa : PySem.W.findIn K (.ref C) "__setattr__" = some (some (.builtin "object.__setattr__"))) (eC : PySem.W.subIn K (.ref C) (.type "BaseException") = some true) (tC : PySem.W.typeIn K (.ref C) = some (.type "type")) (kC : PySem.W.keepIn K (.ref C) = true) : OexC K C :=
  ⟨⟨nm, q, N, bs, bm, sn, sub, ab, col, dd, m0, m1, m2, m3, m5, xL, hb⟩, sa, eC, tC, kC⟩
theorem cls_mk (ga : PySem.W.findIn K (.ref C) "__getattribute__" = some (some (.builtin "BaseException.__getattribute__"))) (gg : PySem.W.findIn K (.ref C) "__getattr__" = some none) (eC : PySem.W.subIn K (.ref C) (.type "BaseException") = some true)
    (hd : PySem.W.hasDictIn K C = true) (ha : PySem.W.findIn K (.ref C) "__class__" = some (some (.builtin "object.__class__"))) (hn : PySem.W.specialIn K (.builtin "object.__class__") "__get__" = some (some (.builtin "getset_descriptor.__get__")))
    (ht : PySem.W.takesIn K (.builtin "object.__class__") = some true) (hm : PySem.W.mroIn K C (.type "object") = some true)
    (n0 : PySem.W.findIn K (.ref C) "what" = some none) (n1 : PySem.W.findIn K (.ref C) "limit" = some none) (n2 : PySem.W.findIn K (.ref C) "line" = some none) (n3 : PySem.W.findIn K (.ref C) "reason" = some none)
    (n4 : PySem.W.findIn K (.ref C) "at" = some none) (n5 : PySem.W.findIn K (.ref C) "kind" = some none) (n6 : PySem.W.findIn K (.ref C) "first" = some none) (n7 : PySem.W.findIn K (.ref C) "second" = some none) : ClsRd K C := by
  refine ⟨⟨ga, gg, eC, hd⟩, ⟨ga, gg, eC, hd, ha, hn, ht, hm⟩, fun f hf => ?_⟩
  simp only [fldNames, List.mem_cons, List.not_mem_nil, or_false] at hf
  rcases hf with rfl | rfl | rfl | rfl | rfl | rfl | rfl | rfl <;> assumption
theorem ini_mk {x qual : Str} {st : Stmt} {fI cda cc : Addr} {oc : Value} {od an : Option Addr} {osl : Array (Option Value)} {kV doc pm ct cl ccl : Value} {cld cdd : Option Addr} {csl ccs : Array (Option Value)} {vs : Array Value} {file : Str} {tf : Tok}
    (l : K.lookup fI = some ⟨oc, od, .func (PySem.W.ksFn x qual (defArgs st) (defBody st) (defScope st) .none kV doc pm an (.ref cda) ct cc), osl⟩) (c : PySem.W.codeIn K (.ref cda) qual = true)
    (lc : K.lookup cc = some ⟨cl, cld, .cell (some (.ref C)), csl⟩) (ld : K.lookup cda = some ⟨ccl, cdd, .fields vs, ccs⟩) (hv : vs[2]? = some (.str file tf)) (hf : ((P.main.file : Str) == file) = true)
    (sup : PySem.W.ks_superIn K C C "__init__" = some (some (.builtin "ValueError.__init__"))) (sub : PySem.W.subIn K (.ref C) (.type "ValueError") = some true) (mro : PySem.W.mroIn K C (.ref C) = some true)
    (opq : PySem.W.nsIn K PySem.cStatics "thirdparty.any" = some none) (top : (P.main.scope.names.lookup ("super" : Str)).isSome = false) :
    IniF P K x qual st C fI (PySem.W.ksFn x qual (defArgs st) (defBody st) (defScope st) .none kV doc pm an (.ref cda) ct cc) :=
  ⟨⟨oc, od, kV, doc, pm, an, cda, ct, osl, cc, rfl, l, c, ⟨cl, cld, csl, lc⟩, ccl, cdd, vs, ccs, file, tf, ld, hv, hf⟩, sup, sub, mro, opq, top⟩
/-- super().__init__(a text + what) -/
theorem msg_what {m : Str} {j : Nat} {r1 r2 r3 p3 : Pos} {st : Stmt} (S : IniSc (sf "what") (sf "what") (defScope st)) (hm : m.length ≤ 100) (X : Cx) (hN : X.N = sf "what") (hs : X.env.scope = defScope st)
    (hst : starEach [Expr.BinOp (.Constant (.str m) j r1) .Add (.Name "what" r2) r3] X.env = (false, eval (Expr.BinOp (.Constant (.str m) j r1) .Add (.Name "what" r2) r3) X.env) :: starEach [] X.env) :
    ∃ ta, PA X [Expr.BinOp (.Constant (.str m) j r1) .Add (.Name "what" r2) r3] ta ∧ (backTo p3 (starEach [Expr.BinOp (.Constant (.str m) j r1) .Add (.Name "what" r2) r3] X.env)).any (·.1) = false ∧
      ∀ (a : Addr) (y : V) (H : Hp) (Q : List V → Hp → Prop), okV "BadValue" y → (∀ us, us.length ≤ 1000 → Q us H) → ta (L2.start (sf "what") [.ref a, y]) H Q := by
  have hv : PE X (.Name "what" r2) (tVar 1) := pe_var (by rw [hN]; rfl) (by rw [hs]; exact .inl (S.par _ (List.mem_cons_of_mem _ List.mem_cons_self)))
  refine ⟨_, pa_cons (pe_op op_add_str pe_str hv) pa_nil hst, ?_, fun a y H Q oky hq => ?_⟩
  · rw [hst]; rfl
  · cases y with
    | str x =>
      obtain ⟨_, hx⟩ := oky
      exact ⟨_, rfl, _, _, rfl, rfl, Nat.le_trans (Nat.add_le_add hm hx) (show 100 + 1000 ≤ sizeLine by decide), hq _ (show 1 ≤ 1000 by decide)⟩
    | _ => exact oky.elim
theorem has_raise {c : Str} {fI : Addr} {fd : FuncData} {k : Nat} (hk : 2 ≤ k) (hc : mg c = some (.ref C)) (T : OexC K C) (i1 : PySem.W.findIn K (.ref C) "__init__" = some (some (.ref fI))) (t1 : PySem.W.typeIn K (.ref fI) = some (.type "function"))
    (hb : Binds K fd (sf (fldOf c)) []) (hno : PySem.W.findIn K (.ref C) (fldOf c) = some none) (F : FnOk P w K mg base (L2.CX P w) 1 fI fd (sf (fldOf c)) (iniSp1 K C (fldOf c) (okV c))) : HasX ⟨P, w, K, mg, base⟩ k 0 c :=
  ⟨hk, C, fI, fd, hc, T, i1, t1, hb, hno, F⟩
theorem has_exc {d : Str} {k : Nat} (hd : mg d = some (.ref D)) (h : ∀ c ∈ excNames, ∀ C : Addr, mg c = some (.ref C) → PySem.W.exmOne K (.ref C) (.ref D) = some (subC c d) ∧ ClsRd K C) : HasX ⟨P, w, K, mg, base⟩ k 1 d := ⟨D, hd, h⟩
theorem has_is {d : Str} {k : Nat} (hd : mg d = some (.ref D)) (h : ∀ c ∈ excNames, ∀ C : Addr, mg c = some (.ref C) → PySem.W.kitOne K (.ref C) (.ref D) = some (subC c d)) : HasX ⟨P, w, K, mg, base⟩ k 2 d :=
  ⟨_, .ref D, .inl hd, rfl, fun _ e => e, h⟩
theorem has_isT {d : Str} {t : String} {k : Nat} (hd : mg d = none) (hb : bootBuiltins d = some (.type t)) (hn : d ≠ "__name__") (h : ∀ c ∈ excNames, ∀ C : Addr, mg c = some (.ref C) → PySem.W.kitOne K (.ref C) (.type t) = some (subC c d)) : HasX ⟨P, w, K, mg, base⟩ k 2 d :=
  ⟨_, .ty t, .inr ⟨hd, hb, hn⟩, rfl, fun _ e => e, h⟩
theorem has_same {g : Str} {k : Nat} {f : Addr} {fd : FuncData} (hk : 1 ≤ k) (hm : mg g = some (.ref f)) (kp : PySem.W.keepIn K (.ref f) = true) (b : Binds K fd vd []) (F : FnA P w K mg base 1 f fd vd sameSp) : HasX ⟨P, w, K, mg, base⟩ k 3 g :=
  ⟨hk, f, fd, hm, kp, b, F⟩
theorem kit_self : PySem.W.kitOne K (.ref C) (.ref C) = some true := by
  unfold PySem.W.kitOne
  rw [if_pos (beq_self_eq_true _)]
theorem kit_cls {b : Bool} (hd : PySem.W.hasDictIn K D = true) (ht : PySem.W.typeIn K (.ref D) = some (.type "type")) (h : PySem.W.subIn K (.ref C) (.ref D) = some b) : PySem.W.kitCls K (.ref C) (.ref D) = some b := by
  obtain ⟨cd, hc, _⟩ := PySem.W.any_some hd
  have e2 : ((PySem.W.clsIn K D).isSome && PySem.W.typeIn K (.ref D) == some (.type "type")) = true := by rw [hc, ht] <;> rfl
  show (if ((PySem.W.clsIn K D).isSome && PySem.W.typeIn K (.ref D) == some (.type "type")) = true then PySem.W.subIn K (.ref C) (.ref D) else none) = some b
  rw [if_pos e2]
  exact h
theorem kit_ref (hd : PySem.W.hasDictIn K D = true) (ht : PySem.W.typeIn K (.ref D) = some (.type "type")) (h : PySem.W.subIn K (.ref C) (.ref D) = some true) : PySem.W.kitOne K (.ref C) (.ref D) = some true := by
  unfold PySem.W.kitOne
  split
  · rfl
  · exact kit_cls hd ht h
theorem kit_no (hne : C ≠ D) (hd : PySem.W.hasDictIn K D = true) (ht : PySem.W.typeIn K (.ref D) = some (.type "type")) (h : PySem.W.subIn K (.ref C) (.ref D) = some false) : PySem.W.kitOne K (.ref C) (.ref D) = some false := by
  unfold PySem.W.kitOne
  split
  · rename_i e
    exact absurd (Value.ref.inj (beq_iff_eq.mp e)) hne
  · exact kit_cls hd ht h
theorem kit_ty {T : String} (hm : PySem.W.kitMeta T = true) (h : PySem.W.subIn K (.ref C) (.type T) = some true) : PySem.W.kitOne K (.ref C) (.type T) = some true := by
  unfold PySem.W.kitOne
  split
  · rfl
  · show (if PySem.W.kitMeta T = true then PySem.W.subIn K (.ref C) (.type T) else none) = some true
    rw [if_pos hm]
    exact h
/-- every class of errors that the text has -/
theorem exc_all {Pr : Str → Addr → Prop} (h : ∀ c ∈ excNames, mg c = none ∨ ∃ C, mg c = some (.ref C) ∧ Pr c C) : ∀ c ∈ excNames, ∀ C : Addr, mg c = some (.ref C) → Pr c C := by
  intro c hc C e
  rcases h c hc with z | ⟨C', z, p⟩
  · rw [z] at e; cases e
  · rw [z] at e; cases e; exact p
theorem exc7 {Pr : Str → Prop} (a : Pr "BadText") (b : Pr "BadMachine") (c : Pr "BadValue") (d : Pr "TooMany") (e : Pr "OpenEnd") (f : Pr "NotClear") (g : Pr "NothingToUndo") : ∀ c ∈ excNames, Pr c := by
  intro x hx
  simp only [excNames, List.mem_cons, List.not_mem_nil, or_false] at hx
  rcases hx with rfl | rfl | rfl | rfl | rfl | rfl | rfl <;> assumption
end
end TK

set_option maxRecDepth 100000
set_option maxHeartbeats 8000000
namespace TK
open PySem PySem.Spec PyProof.Rows L2
/-! ### statements -/
def PD (X : Cx) (W : WX) (D : Ends) (F : FS) (H : Hp) : PEnds where
  nx := fun τ' st' => ∀ F' H' σ', Ext F H F' H' → RS X.K H' F' st' → RSl X.K H' F' τ' σ' → D.nx σ' H'
  rt := LQ X.K F H D.rt
  bk := fun τ' st' => ∀ F' H' σ', Ext F H F' H' → RS X.K H' F' st' → RSl X.K H' F' τ' σ' → D.bk σ' H'
  ct := fun τ' st' => ∀ F' H' σ', Ext F H F' H' → RS X.K H' F' st' → RSl X.K H' F' τ' σ' → D.ct σ' H'
  ex := fun e τ' st' => ∀ F' H' σ' cls d, Ext F H F' H' → RS X.K H' F' st' → RSl X.K H' F' τ' σ' → ExRep X.K X.mg H' F' e cls d → W cls d σ' H'
theorem PD.ext {X : Cx} {W : WX} {D : Ends} {F F1 : FS} {H H1 : Hp} (x : Ext F H F1 H1) : (PD X W D F H).Le (PD X W D F1 H1) :=
  ⟨fun _ _ h F' H' σ' e => h F' H' σ' (x.trans e), fun _ _ h F' H' y e => h F' H' y (x.trans e), fun _ _ h F' H' σ' e => h F' H' σ' (x.trans e), fun _ _ h F' H' σ' e => h F' H' σ' (x.trans e), fun _ _ _ h F' H' σ' c d e => h F' H' σ' c d (x.trans e)⟩
theorem PD.lx {X : Cx} {W : WX} {D : Ends} {F : FS} {H : Hp} {τ : Sl} {σ : L2.St} (sl : RSl X.K H F τ σ) : ∀ e s, (PD X W D F H).ex e τ s → LX X W σ F H e s :=
  fun e s h F' H' c d x r q => h F' H' σ c d x r (sl.ext x) q
def tls (X : Cx) (W : WX) (w : PEnds → Sl → Store → Prop) : TS := fun D σ H => ∃ F τ st, RS X.K H F st ∧ RSl X.K H F τ σ ∧ w (PD X W D F H) τ st
section
variable {X : Cx} {C : SC} {k : Nat} {W : WX}
theorem notComp_swaps {e : Expr} (h : notComp e = true) (t : Option Expr) (n : Nat) (env : Env) : swapsWith e t n env = pure false := by
  cases e <;> first | rfl | cases h
theorem noswap {g e : Expr} {env : Env} (h : (notTup g || notTup e) = true) : swappedStores [g] e env = pure none := by
  rcases Bool.or_eq_true_iff.mp h with h | h
  · cases g <;> first | rfl | cases h
  · cases e with
    | Tuple _ _ _ => cases h
    | _ =>
      unfold swappedStores
      split
      · rename_i e1
        split at e1 <;> first | (rename_i hh; cases hh; done) | cases e1
      · rfl
theorem chkG_star {tg : TG} {g : Expr} (h : chkG C tg g = true) : notStar g = true := by
  cases g with
  | Starred _ _ => cases tg <;> cases h
  | _ => rfl
theorem assign_one {g : Expr} {env : Env} (h : notStar g = true) : (assignEach [g] env).map (·.2) = [assign g env] := by
  cases g <;> first | rfl | cases h
theorem aug_ok {o : Operator} : PIp X o (rB X.K (augV o)) := by
  intro pins s σ H x y vv uu Q I rx ry ⟨F, st, v, w, rs, dv, dw, h⟩
  unfold augV at h
  split at h
  · cases dv; cases dw
    exact iop_add pins s σ H _ _ _ _ Q I rx ry ⟨_, _, rfl, rfl, h.now rs (.int _)⟩
  · cases dv; cases dw
    exact iop_sub pins s σ H _ _ _ _ Q I rx ry ⟨_, _, rfl, rfl, h.now rs (.int _)⟩
  · exact h.elim
/-- an expression, then a target -/
theorem sS_asg {tg : TG} {a : E} {D : Ends} {σ : L2.St} {H : Hp} (q : tls X W (wpS (.asg tg a)) D σ H) : tAsg (tl X W (wpE a)) (tlG X.K tg) D σ H := by
  obtain ⟨F, τ, st, rs, sl, h⟩ := q
  unfold wpS at h
  refine tl_go (wpE_mono a) .refl rs sl (wpE_mono a (PD.lx sl) (fun _ _ h => h) h) fun F1 H1 y v st1 e1 rs1 sl1 d1 h1 => ?_
  cases e : tg.asg v τ with
  | none => rw [e] at h1; exact h1.elim
  | some τ' =>
    rw [e] at h1
    exact ⟨F1, τ, τ', v, sl1, d1, e, fun σ' sl' _ => h1 F1 H1 σ' e1 rs1 sl'⟩
/-- a def's own frame is the topmost one -/
abbrev StkOk (X : Cx) : Prop := X.stack = X.env :: X.outer ∧ X.env.frame = some X.env.locals
theorem lookup_cons_if {α : Type} (n f : Str) (v : α) : ([(f, v)] : List (Str × α)).lookup n = if n = f then some v else none := by
  rw [List.lookup_cons]
  by_cases h : n = f
  · subst h; simp
  · have e : (n == f) = false := by simpa using h
    rw [e, if_neg h]; rfl
mutual
theorem sS : ∀ (s : S) {X : Cx} {C : SC} {k : Nat} {W : WX} {x : Stmt}, CxOk X C k W → StkOk X → chkS s C x = true → needS (pfX X k) (pkX X k) (pgX X) (pxX X k) s → PS X x (tls X W (wpS s))
  | .asg tg a, X, C, k, W, x, ok, hs, hc, hn => by
    unfold chkS at hc
    split at hc
    · simp only [Bool.and_eq_true] at hc
      obtain ⟨⟨⟨h1, h2⟩, h3⟩, h4⟩ := hc
      exact impS (ps_asg (sE a ok h4 hn) (sG tg ok h1) (notComp_swaps h2 _ _ _) (noswap h3) (assign_one (chkG_star h1))) fun D σ H q => sS_asg q
    · cases hc
  | .asgLc i a, X, C, k, W, x, ok, hs, hc, hn => by
    unfold chkS at hc
    split at hc
    · rename_i y py elt gs scope pos spos
      simp only [Bool.and_eq_true, decide_eq_true_eq] at hc
      obtain ⟨⟨⟨⟨⟨g1, g2⟩, g3⟩, g4⟩, g5⟩, g6⟩ := hc
      cases a with
      | comp m vs tg it ts elt' =>
        unfold chkE at g6
        split at g6
        · rename_i x0 g y ifs kz scope' pos' e6
          cases e6
          simp only [Bool.and_eq_true, decide_eq_true_eq] at g6
          obtain ⟨⟨⟨⟨⟨⟨⟨⟨⟨hk, hown⟩, hblk⟩, hsl⟩, hset⟩, h1⟩, h2⟩, h3⟩, h4⟩, h5⟩ := g6
          have ek := eq_of_beq hk
          subst ek
          have hb := fun s H a cl fp => ok.blk (vs := vs) (scope := scope) hblk s H a cl fp
          have hbk : BlkOk X.N X.env.scope scope (ownOf C.N vs) := by rw [ok.hN, ok.hsc]; exact blkOk_by hblk
          have hsw := sw_true (elt := elt) (gs := [⟨g, y, ifs, 0⟩]) (pos := pos) (py := py) (l := spos.line) (env := X.env) (by rw [ok.hsc]; have := ok.kindF; exact this) (by rw [ok.hsc]; exact g2) g3 (scope := scope) (by simpa using g4)
          have := ps_setLc (X := X) (i := i) (py := py) (elt := elt) (tg := g) (iter := y) (ifs := ifs) (scope := scope) (own := ownOf C.N vs) (pos := pos) (spos := spos) (g := tlG X.K tg) (tt := tlT X (fun _ _ _ _ => False) (wpTs .And ts)) (te := tl X (fun _ _ _ _ => False) (wpE elt'))
            ok.calm (by rw [ok.hN]; exact ok.nd) (by rw [ok.hN]; exact g1) (by rw [ok.hsc]; exact g2) hsw (sI it ok h1 hn.1) hbk
            (fun s H a cl fp => sG tg (hb s H a cl fp) h2)
            (fun s H a cl fp => sPTs ts (hb s H a cl fp) h3 h4 hn.2.1)
            (fun s H a cl fp => sE elt' (hb s H a cl fp) h5 hn.2.2) (folded hset _)
          rw [hown] at this
          refine impS this fun D σ H q => ?_
          obtain ⟨F, τ, st, rs, sl, h⟩ := q
          unfold wpS at h
          have h := wpE_mono (.comp m vs tg it ts elt') (PD.lx sl) (fun _ _ h => h) h
          unfold wpE at h
          refine tlI_go (wpI_mono it) .refl rs sl h fun F1 H1 J xs oks st1 e1 rs1 sl1 wp hz h6 => ?_
          obtain ⟨h7, h8, h9⟩ := h6
          have hlen : xs.length ≤ sizeLine := by
            cases hr : it.isR with
            | true => exact h7 hr
            | false => exact hz hr
          have hlc := lc_sound (X := X) (Q := fun x H1 => gName i x σ H1 D.nx) (tt := tlT X (fun _ _ _ _ => False) (wpTs .And ts)) (te := tl X (fun _ _ _ _ => False) (wpE elt')) hsl rs1 sl1 wp h8 hlen
            (fun {ys s} h => newList_mono (fun v s h2 => (fun F2 H2 y x2 r2 d2 => h2 F2 H2 _ (e1.trans x2) r2 ((sl1.ext x2).set d2 i) : LQ X.K F1 H1 (fun x H1 => gName i x σ H1 D.nx) v s)) h) h9
            (fun σ H P q => let ⟨F, τ, st, rs, sl, h⟩ := q; ⟨F, τ, st, rs, sl, wpTs_mono ts (fun _ _ z => z.elim) (fun _ _ h => h) h⟩)
            (fun σ H P q => let ⟨F, τ, st, rs, sl, h⟩ := q; ⟨F, τ, st, rs, sl, wpE_mono elt' (fun _ _ z => z.elim) (fun _ _ h => h) h⟩) (fun hp h => wpTs_mono ts (fun _ _ z => z) hp h) (fun hp h => wpE_mono elt' (fun _ _ z => z) hp h)
          exact hlc
        · cases g6
      | _ => cases g5
    · cases hc
  | .setIx o i a, X, C, k, W, x, ok, hs, hc, hn => by
    unfold chkS at hc
    split at hc
    · rename_i y z ps e ps'
      simp only [Bool.and_eq_true] at hc
      obtain ⟨⟨⟨h1, h2⟩, h3⟩, h4⟩ := hc
      have hz : ∀ v, assign (.Subscript y z ps) X.env v = (do
          let ov ← holding [v] (eval y X.env)
          let iv ← holding [v, ov] (eval z X.env)
          standAt ps
          holding [v, ov, iv] (setItem ov iv v)
          release [v, ov, iv] []) := by
        intro v
        cases z <;> first | rfl | cases h1
      have hs : swapsWithSole [.Subscript y z ps] e ps'.line X.env = pure false := by
        show swapsWith e (some (.Subscript y z ps)) ps'.line X.env = pure false
        cases e <;> rfl
      refine impS (ps_asg (sE a ok h4 hn.2.2) (pg_sub (sE o ok h2 hn.1) (sE i ok h3 hn.2.1) set_ok hz) hs rfl rfl) fun D σ H q => ?_
      obtain ⟨F, τ, st, rs, sl, h⟩ := q
      unfold wpS at h
      refine tl_go (wpE_mono a) .refl rs sl (wpE_mono a (PD.lx sl) (fun _ _ h => h) h) fun F1 H1 y v st1 e1 rs1 sl1 d1 h1 => ?_
      refine tl_go (wpE_mono o) e1 rs1 sl1 (wpE_mono o (PD.lx sl) (fun _ _ h => h) h1) fun F2 H2 y2 v2 st2 e2 rs2 sl2 d2 h2 => ?_
      refine tl_go (wpE_mono i) (e1.trans e2) rs2 sl2 (wpE_mono i (PD.lx sl) (fun _ _ h => h) h2) fun F3 H3 y3 v3 st3 e3 rs3 sl3 d3 h3 => ?_
      refine ⟨F3, st3, v2, v3, v, rs3, d2.ext e3, d3, d1.ext (e2.trans e3), setIxV_mono (fun s4 h4 F4 H4 e4 rs4 => ?_) h3⟩
      exact h4 F4 H4 σ (((e1.trans e2).trans e3).trans e4) rs4 (sl3.ext e4)
    · cases hc
  | .aug i o a, X, C, k, W, x, ok, hs, hc, hn => by
    unfold chkS at hc
    split at hc
    · simp only [Bool.and_eq_true, decide_eq_true_eq] at hc
      obtain ⟨⟨⟨h1, h2⟩, h3⟩, h4⟩ := hc
      subst h3
      obtain ⟨l1, l2⟩ := ok.tg _ h2
      refine impS (ps_aug (i := i) (by rw [ok.hN]; exact ok.nd) (by rw [ok.hN]; exact h1) (by rw [ok.hsc]; exact l1) (sE a ok h4 hn) aug_ok (by rw [ok.hsc]; exact l2)) fun D σ H q => ?_
      obtain ⟨F, τ, st, rs, sl, h⟩ := q
      unfold wpS at h
      cases e : getS τ i with
      | none => rw [e] at h; exact h.elim
      | some v =>
        rw [e] at h
        obtain ⟨y, e', d⟩ := sl.2 i v e
        refine ⟨y, e', tl_go (wpE_mono a) .refl rs sl (wpE_mono a (PD.lx sl) (fun _ _ h => h) h) fun F1 H1 y1 v1 st1 e1 rs1 sl1 d1 h1 => ?_⟩
        refine ⟨F1, st1, v, v1, rs1, d.ext e1, d1, augV_mono (fun z s2 h2 F2 H2 y2 e2 rs2 d2 => ?_) h1⟩
        exact h2 F2 H2 _ (e1.trans e2) rs2 ((sl1.ext e2).set d2 i)
    · cases hc
  | .expr a, X, C, k, W, x, ok, hs, hc, hn => by
    unfold chkS at hc
    split at hc
    · simp only [Bool.and_eq_true] at hc
      refine impS (ps_expr (sE a ok hc.2 hn) (notComp_swaps hc.1 _ _ _)) fun D σ H q => ?_
      obtain ⟨F, τ, st, rs, sl, h⟩ := q
      unfold wpS at h
      exact tl_go (wpE_mono a) .refl rs sl (wpE_mono a (PD.lx sl) (fun _ _ h => h) h) fun F1 H1 y1 v1 st1 e1 rs1 sl1 d1 h1 => h1 F1 H1 σ e1 rs1 sl1
    · cases hc
  | .ret a, X, C, k, W, x, ok, hs, hc, hn => by
    unfold chkS at hc
    split at hc
    · refine impS (ps_ret (sE a ok hc hn)) fun D σ H q => ?_
      obtain ⟨F, τ, st, rs, sl, h⟩ := q
      unfold wpS at h
      exact ⟨F, τ, st, rs, sl, wpE_mono a (PD.lx sl) (fun _ _ h => h) h⟩
    · cases hc
  | .retN, X, C, k, W, x, ok, hs, hc, hn => by
    unfold chkS at hc
    split at hc
    · refine impS ps_retN fun D σ H q => ?_
      obtain ⟨F, τ, st, rs, sl, h⟩ := q
      exact h F H _ .refl rs .non
    · cases hc
  | .ite t a b, X, C, k, W, x, ok, hs, hc, hn => by
    unfold chkS at hc
    split at hc
    · simp only [Bool.and_eq_true] at hc
      obtain ⟨⟨h1, h2⟩, h3⟩ := hc
      refine impS (ps_if (sT t ok h1 hn.1) (sSs a ok hs h2 hn.2.1) (sSs b ok hs h3 hn.2.2)) fun D σ H q => ?_
      obtain ⟨F, τ, st, rs, sl, h⟩ := q
      unfold wpS at h
      refine tlT_go (wpT_mono t) .refl rs sl (wpT_mono t (PD.lx sl) (fun _ _ h => h) h) fun F1 H1 c st1 e1 rs1 sl1 h1 => ?_
      cases c with
      | true => exact ⟨F1, τ, st1, rs1, sl1, wpSs_mono a (PD.ext e1) h1⟩
      | false => exact ⟨F1, τ, st1, rs1, sl1, wpSs_mono b (PD.ext e1) h1⟩
    · cases hc
  | .loop tg it b, X, C, k, W, x, ok, hs, hc, hn => by
    unfold chkS at hc
    split at hc
    · simp only [Bool.and_eq_true] at hc
      obtain ⟨⟨⟨h1, h2⟩, h3⟩, h4⟩ := hc
      refine impS (ps_for ok.po ok.calm (sI it ok h3 hn.1) (sG tg ok h1) (sSs b ok hs h4 hn.2) (folded h2 _)) fun D σ H q => ?_
      obtain ⟨F, τ, st, rs, sl, h⟩ := q
      unfold wpS at h
      refine tlI_go (wpI_mono it) .refl rs sl (wpI_mono it (PD.lx sl) (fun _ _ _ h => h) h) fun F1 H1 J xs oks st1 e1 rs1 sl1 wp hz h6 => ?_
      refine ⟨fun i m σ H2 => m = xs.length - i ∧ i ≤ xs.length ∧ ∃ F2 τ2 st2, Ext F1 H1 F2 H2 ∧ RS X.K H2 F2 st2 ∧ RSl X.K H2 F2 τ2 σ ∧ forL tg (wpSs b) oks (xs.drop i) (PD X W D F H) τ2 st2,
        ⟨xs.length, rfl, Nat.zero_le _, F1, τ, st1, .refl, rs1, sl1, h6⟩, ?_⟩
      rintro i m σ2 H2 ⟨rfl, hi, F2, τ2, st2, x2, r2, sl2, hf⟩
      by_cases hlt : i < xs.length
      · have hd : xs.drop i = xs[i] :: xs.drop (i + 1) := List.drop_eq_getElem_cons hlt
        rw [hd] at hf
        have hf' : oks st2 ∧ oP (tg.asg xs[i] τ2) fun τ1 => wpSs b { PD X W D F H with nx := forL tg (wpSs b) oks (xs.drop (i + 1)) (PD X W D F H), ct := forL tg (wpSs b) oks (xs.drop (i + 1)) (PD X W D F H), bk := (PD X W D F H).nx } τ1 st2 := hf
        refine .inr ⟨wp.go i F2 H2 _ hlt x2 r2 hf'.1, fun σ' H' => ∃ F3 τ3 st3, Ext F1 H1 F3 H' ∧ RS X.K H' F3 st3 ∧ RSl X.K H' F3 τ3 σ' ∧ forL tg (wpSs b) oks (xs.drop (i + 1)) (PD X W D F H) τ3 st3,
          fun σ' H' ⟨F3, τ3, st3, a1, a2, a3, a4⟩ => ⟨xs.length - (i + 1), by omega, rfl, hlt, F3, τ3, st3, a1, a2, a3, a4⟩, fun x H' y => ?_⟩
        obtain ⟨x3, r3, v, hv, dv⟩ := wp.yld i F2 H2 _ x H' hlt x2 r2 hf'.1 y
        rw [List.getElem?_eq_getElem hlt] at hv
        cases (Option.some.inj hv)
        have h8 := hf'.2
        cases ea : tg.asg xs[i] τ2 with
        | none => rw [ea] at h8; exact h8.elim
        | some τ3 =>
          rw [ea] at h8
          refine ⟨F2, τ2, τ3, _, sl2.ext x3, dv, ea, fun σ3 sl3 _ => ⟨F2, τ3, st2, r3, sl3, wpSs_mono b ?_ h8⟩⟩
          have x13 := x2.trans x3
          have le := PD.ext (X := X) (W := W) (D := D) (e1.trans x13)
          exact ⟨fun τ' s' h F' H'' σ' x4 r4 sl4 => ⟨F', τ', s', x13.trans x4, r4, sl4, h⟩, le.rt, le.nx, fun τ' s' h F' H'' σ' x4 r4 sl4 => ⟨F', τ', s', x13.trans x4, r4, sl4, h⟩, le.ex⟩
      · have e : i = xs.length := by omega
        subst e
        rw [List.drop_length] at hf
        exact .inl ⟨wp.stop F2 H2 _ x2 r2 hf.1, hf.2 F2 H2 σ2 (e1.trans x2) r2 sl2⟩
    · cases hc
  | .while t b, X, C, k, W, x, ok, hs, hc, hn => by
    unfold chkS at hc
    split at hc
    · simp only [Bool.and_eq_true] at hc
      refine impS (ps_while ok.po (sT t ok hc.1 hn.1) (sSs b ok hs hc.2 hn.2)) fun D σ H q => ?_
      obtain ⟨F, τ, st, rs, sl, h⟩ := q
      unfold wpS at h
      obtain ⟨Wv, ⟨n0, w0⟩, h⟩ := h
      refine ⟨fun n σ2 H2 => ∃ F2 τ2 st2, Ext F H F2 H2 ∧ RS X.K H2 F2 st2 ∧ RSl X.K H2 F2 τ2 σ2 ∧ Wv n τ2 st2, ⟨n0, F, τ, st, .refl, rs, sl, w0⟩, ?_⟩
      rintro n σ2 H2 ⟨F2, τ2, st2, x2, r2, sl2, w2⟩
      have h2 := h n τ2 st2 w2
      refine ⟨F2, τ2, st2, r2, sl2, wpT_mono t (fun e s h => PD.lx sl2 e s ((PD.ext x2).ex _ _ _ h)) (fun c s hcs => ?_) h2⟩
      intro F3 H3 x3 r3
      have x13 := x2.trans x3
      have le := PD.ext (X := X) (W := W) (D := D) x13
      cases c with
      | true =>
        refine ⟨fun σ' H' => ∃ m, m < n ∧ ∃ F4 τ4 st4, Ext F H F4 H' ∧ RS X.K H' F4 st4 ∧ RSl X.K H' F4 τ4 σ' ∧ Wv m τ4 st4, fun σ' H' ⟨m, hm, q⟩ => ⟨m, hm, q⟩, F3, τ2, s, r3, sl2.ext x3, wpSs_mono b ?_ hcs⟩
        exact ⟨fun τ' s' ⟨m, hm, hw⟩ F' H'' σ' x4 r4 sl4 => ⟨m, hm, F', τ', s', x13.trans x4, r4, sl4, hw⟩, le.rt, le.nx, fun τ' s' ⟨m, hm, hw⟩ F' H'' σ' x4 r4 sl4 => ⟨m, hm, F', τ', s', x13.trans x4, r4, sl4, hw⟩, le.ex⟩
      | false => exact hcs F3 H3 σ2 x13 r3 (sl2.ext x3)
    · cases hc
  | .pass, X, C, k, W, x, ok, hs, hc, hn => by
    unfold chkS at hc
    split at hc
    · refine impS ps_pass fun D σ H q => ?_
      obtain ⟨F, τ, st, rs, sl, h⟩ := q
      exact h F H σ .refl rs sl
    · cases hc
  | .brk, X, C, k, W, x, ok, hs, hc, hn => by
    unfold chkS at hc
    split at hc
    · refine impS ps_break fun D σ H q => ?_
      obtain ⟨F, τ, st, rs, sl, h⟩ := q
      exact h F H σ .refl rs sl
    · cases hc
  | .cont, X, C, k, W, x, ok, hs, hc, hn => by
    unfold chkS at hc
    split at hc
    · refine impS ps_continue fun D σ H q => ?_
      obtain ⟨F, τ, st, rs, sl, h⟩ := q
      exact h F H σ .refl rs sl
    · cases hc
  | .never, X, C, k, W, x, ok, hs, hc, hn => by
    refine impS ps_never fun D σ H q => ?_
    obtain ⟨F, τ, st, rs, sl, h⟩ := q
    exact h
  | .raise c es, X, C, k, W, x, ok, hs, hc, hn => by
    unfold chkS at hc
    split at hc
    · rename_i y p x0 xr q pos
      simp only [Bool.and_eq_true, decide_eq_true_eq] at hc
      obtain ⟨⟨e, hg⟩, h1⟩ := hc
      subst e
      obtain ⟨⟨hk, Cc, fI, fd, m1, m2, m3, m4, m5, m6, m7⟩, hn2⟩ := hn
      obtain ⟨g1, g2⟩ := ok.gl hg
      have hst : notStar x0 = true := by
        cases es with
        | nil => cases h1
        | cons a as =>
          have h' : (notStar x0 && chkE a C x0 && chkEs as C xr) = true := h1
          simp only [Bool.and_eq_true] at h'
          exact h'.1.1
      have hall := chkEs_star h1 X.env
      rw [star_cons hst, List.all_cons, Bool.and_eq_true] at hall
      refine impS (ps_raise ok.calm ok.tk (pmk_oex (ds := []) (dvs := []) m2 m3 m4 m7 (ok.room.mono hk) m5 .nil (fun _ _ _ _ _ _ _ c => by obtain ⟨_, _, _, _, _, _, _, _, _, _, _, _, z⟩ := c; exact z.elim) g1 m1 (sA es ok h1 hn2) g2 (star_cons hst) (backTo_any hall.2))) fun D σ H qq => ?_
      obtain ⟨F, τ, st, rs, sl, h⟩ := qq
      unfold wpS at h
      refine tlA_go (wpEs_mono es) .refl rs sl (wpEs_mono es (PD.lx sl) (fun _ _ h => h) h) fun F1 H1 ys vs st1 e1 rs1 sl1 d1 h1 => ?_
      obtain ⟨v, rfl, hv, h2⟩ := h1
      cases d1 with
      | cons dv dn =>
        rename_i yv ys'
        cases dn
        refine ⟨show 1 ≤ 1000 by decide, fun a ha => ?_⟩
        have okv : okV c yv := by
          cases dv with
          | str t => exact hv
          | _ => exact False.elim hv
        refine ⟨a, yv, rfl, okv, m2, m6, upd_same, fun dx hdx hne => ⟨rfl, dx, [(fldOf c, yv)], upd_same, ?_, ?_, ?_⟩⟩
        · rw [upd_ne hne, upd_same]
        · rw [upd_ne hne] at hdx; exact hdx
        · have hd1 : H1 dx = none := by rw [upd_ne hne] at hdx; exact hdx
          have eH : upd (del (upd (upd (upd H1 a (exo a Cc none)) dx (exd dx [(fldOf c, yv)])) a (exo a Cc (some dx))) a) dx (.xd [(fldOf c, yv)]) = upd H1 dx (.xd [(fldOf c, yv)]) := by
            funext b
            by_cases hb : b = dx
            · rw [hb, upd_same, upd_same]
            · rw [upd_ne hb, upd_ne hb]
              by_cases hba : b = a
              · rw [hba, del_same, ha]
              · rw [del_ne hba, upd_ne hba, upd_ne hb, upd_ne hba]
          rw [eH]
          refine h2 F1 _ σ _ _ (e1.trans (.new hd1)) (rs1.new hd1) (sl1.ext (.new hd1)) ⟨Cc, rfl, m1, dx, _, rfl, upd_same, fun n v e => ?_⟩
          have e := (lookup_cons_if n (fldOf c) _).symm.trans e
          split at e
          · rename_i hn
            cases e
            exact ⟨yv, by rw [hn, lookup_cons_if, if_pos rfl], dv.ext (.new hd1)⟩
          · cases e
    · cases hc
  | .tryX b c i h, X, C, k, W, x, ok, hs, hc, hn => by
    unfold chkS at hc
    split at hc
    · rename_i xs y py n z pz ph pos
      simp only [Bool.and_eq_true, decide_eq_true_eq] at hc
      obtain ⟨⟨⟨⟨⟨h1, e⟩, hg⟩, hi⟩, hl⟩, hx⟩ := hc
      subst e
      obtain ⟨⟨D0, m1, m2⟩, hnx, hnb⟩ := hn
      obtain ⟨g1, g2⟩ := ok.gl hg
      let ts : Addr → Value → Option Addr → TS := fun a cls d D σ H => (∃ (e1 : Exn) (Cc dx : Addr), e1.1 ∈ excNames ∧ cls = .ref Cc ∧ X.mg e1.1 = some (.ref Cc) ∧ d = some dx) ∧ tlX X cls d i a (wpX h) σ H D.rt
      refine impS (ps_try_as (tb := fun W' => tls X W' (wpSs b)) (ts := ts) hs.1 hs.2 (by rw [ok.hN]; exact ok.nd) (by rw [ok.hN]; exact hi) (by show X.env.scope.names.lookup n = _; rw [ok.hsc]; exact hl) ⟨g1, g2, .inl m1⟩ ok.tk ?_ ?_) fun D σ H qq => ?_
      · intro W' pn xe tk' po'
        have ok' : CxOk (X.tr pn xe) C k W' := { hN := ok.hN, nd := ok.nd, hsc := ok.hsc, calm := ok.calm, kindF := ok.kindF, room := ok.room, gds := ok.gds, tk := tk', po := po', tg := ok.tg, blt := ok.blt }
        exact sSs b ok' hs h1 hnb
      · intro a oe cls d pn hz hf
        by_cases hgood : ∃ (e1 : Exn) (Cc dx : Addr), e1.1 ∈ excNames ∧ cls = .ref Cc ∧ X.mg e1.1 = some (.ref Cc) ∧ d = some dx
        · obtain ⟨e1, Cc, dx, hm, rfl, mc, rfl⟩ := hgood
          have S : SuOk X C k W n i a Cc dx oe pn := ⟨ok, hi, hl, hz, hf, (m2 _ hm _ mc).2⟩
          exact impSs (pss_cons (ps_ret (sX h S hx hnx)) pss_nil) fun D σ H q => q.2
        · exact ⟨fun pins s σ H D I q => absurd q.1 hgood⟩
      · obtain ⟨F, τ, st, rs, sl, hw⟩ := qq
        unfold wpS at hw
        refine ⟨F, τ, st, rs, sl, wpSs_mono b ?_ hw⟩
        refine ⟨fun _ _ h => h, fun _ _ h => h, fun _ _ h => h, fun _ _ h => h, fun e τ' s h F' H' σ' cls d x r sl' rep => ?_⟩
        obtain ⟨hm, h⟩ := h
        obtain ⟨Cc, e1, mc, dx, fs, e2, r4, r5⟩ := id rep
        subst e1 e2
        refine ⟨subC e.1 c, (m2 e.1 hm Cc mc).1, fun hb a ha => ?_, fun hb => ?_⟩
        · rw [hb] at h
          obtain ⟨hg0, hlt, hw⟩ := h
          refine ⟨⟨e, Cc, dx, hm, rfl, mc, rfl⟩, F', τ', s, e, ⟨r, ⟨by rw [List.length_set]; exact sl'.1, fun j v ej => ?_⟩, ?_, hm, rep⟩, wpX_mono _ (fun v h => LQ.ext x _ _ h) hw⟩
          · obtain ⟨y, e3, dy⟩ := sl'.2 j v ej
            refine ⟨y, ?_, dy⟩
            rw [List.getElem?_set_ne (fun z => by rw [← z, hg0] at ej; cases ej)]
            exact e3
          · rw [List.getElem?_set_self (by rw [← sl'.1]; exact hlt)]
        · rw [hb] at h
          exact h F' H' σ' _ _ x r sl' rep
    · cases hc
theorem sSs : ∀ (s : Ss) {X : Cx} {C : SC} {k : Nat} {W : WX} {x : List Stmt}, CxOk X C k W → StkOk X → chkSs s C x = true → needSs (pfX X k) (pkX X k) (pgX X) (pxX X k) s → PSs X x (tls X W (wpSs s))
  | .nil, X, C, k, W, xs, ok, hs, hc, hn => by
    cases xs with
    | cons _ _ => cases hc
    | nil =>
      refine impSs pss_nil fun D σ H q => ?_
      obtain ⟨F, τ, st, rs, sl, h⟩ := q
      exact h F H σ .refl rs sl
  | .cons s ss, X, C, k, W, xs, ok, hs, hc, hn => by
    cases xs with
    | nil => cases hc
    | cons x r =>
      have h' : (chkS s C x && chkSs ss C r) = true := hc
      simp only [Bool.and_eq_true] at h'
      refine impSs (pss_cons (sS s ok hs h'.1 hn.1) (sSs ss ok hs h'.2 hn.2)) fun D σ H q => ?_
      obtain ⟨F, τ, st, rs, sl, h⟩ := q
      unfold wpSs at h
      refine ⟨F, τ, st, rs, sl, wpS_mono s ?_ h⟩
      exact ⟨fun τ' s' h F' H' σ' e r sl => ⟨F', τ', s', r, sl, wpSs_mono ss (PD.ext e) h⟩, fun _ _ h => h, fun _ _ h => h, fun _ _ h => h, fun _ _ _ h => h⟩
end
end
end TK

set_option maxRecDepth 100000
set_option maxHeartbeats 4000000
namespace TK
open PySem PySem.Spec PyProof.Rows L2
/-! ### a def by its body -/
theorem getS_some : ∀ {τ : Sl} {i : Nat} {v : PV}, getS τ i = some v → τ[i]? = some (some v)
  | [], _, _, h => by cases h
  | _ :: _, 0, _, h => by
    have h' : _ = some _ := h
    rw [List.getElem?_cons_zero]; exact congrArg some h'
  | _ :: r, i + 1, v, h => by
    rw [List.getElem?_cons_succ]
    exact getS_some (τ := r) h
theorem start_init {K : PySem.W.Frag} {H : Hp} {F : FS} {N : List Str} {pvs : List PV} {vs : List V} (d : DVs K H F pvs vs) : RSl K H F (initS N.length pvs) (L2.start N vs) := by
  have hl := d.length
  refine ⟨by unfold initS L2.start; simp only [List.length_append, List.length_map, List.length_replicate]; omega, fun i v e => ?_⟩
  have hi : (initS N.length pvs)[i]? = some (some v) := getS_some e
  unfold initS at hi
  by_cases h : i < pvs.length
  · rw [List.getElem?_append_left (by simpa using h), List.getElem?_map] at hi
    cases e2 : pvs[i]? with
    | none => rw [e2] at hi; cases hi
    | some w =>
      rw [e2] at hi; cases hi
      obtain ⟨y, e3, dy⟩ := d.get e2
      refine ⟨y, ?_, dy⟩
      unfold L2.start
      rw [List.getElem?_append_left (by simpa [← hl] using h), List.getElem?_map, e3]; rfl
  · rw [List.getElem?_append_right (by simpa using h), List.getElem?_replicate] at hi
    split at hi <;> cases hi
/-- a def as it stands behind the top, dvs its defaults -/
abbrev FunW (K : PySem.W.Frag) (x qual : Str) (st : Stmt) (dvs : List V) (f : Addr) (fd : FuncData) : Prop := FunD K x qual (defArgs st) (defBody st) (defScope st) dvs [] f fd
theorem funW_of {K : PySem.W.Frag} {x qual : Str} {st : Stmt} {f : Addr} {fd : FuncData} (F : L2.Fun K x qual st f fd) : FunW K x qual st [] f fd := by
  obtain ⟨oc, od, kV, doc, pm, an, cdv, ct, osl, e, lk, hcd⟩ := F.ex
  exact ⟨⟨oc, od, .none, kV, doc, pm, an, cdv, ct, osl, e, lk, hcd, .inl ⟨rfl, rfl⟩, .inl rfl⟩, F.kp⟩
theorem funW_mk {K : PySem.W.Frag} {x qual : Str} {st : Stmt} {f T : Addr} {oc : Value} {od an : Option Addr} {osl : Array (Option Value)} {kV doc pm cdv ct : Value} {dvs : List V} {o : Obj} {its : List Value} {m : Nat}
    (l : K.lookup f = some ⟨oc, od, .func (PySem.W.fnOf x qual (defArgs st) (defBody st) (defScope st) (.ref T) kV doc pm an cdv ct), osl⟩) (c : PySem.W.codeIn K cdv qual = true) (k : PySem.W.keepIn K (.ref f) = true)
    (lT : K.lookup T = some o) (oT : o.data = .seq its.toArray m) (r : Vals dvs its) (hd : dvs ≠ []) : FunW K x qual st dvs f (PySem.W.fnOf x qual (defArgs st) (defBody st) (defScope st) (.ref T) kV doc pm an cdv ct) :=
  ⟨⟨oc, od, .ref T, kV, doc, pm, an, cdv, ct, osl, rfl, l, c, .inr ⟨hd, T, o, its, m, rfl, lT, oT, r⟩, .inl rfl⟩, k⟩
/-- how a call binds whose last argument is given by its name -/
theorem FunW.bindsK {K : PySem.W.Frag} {x qual ks : Str} {st : Stmt} {f : Addr} {fd : FuncData} {dvs : List V} {ps : List Str} (F : FunW K x qual st dvs f fd) (n : Nat) (hd : dvs ≠ [])
    (h : ∀ (T : Addr) (kV doc pm : Value) (an : Option Addr) (cdv ct : Value) (us its : List Value) (w : Value), us.length = n → its.length = dvs.length →
      ∃ k, bindArgs (PySem.W.fnOf x qual (defArgs st) (defBody st) (defScope st) (.ref T) kV doc pm an cdv ct) ⟨us, [(ks, w)]⟩ = seqItems? (.ref T) >>= k ∧ k (some its.toArray) = pure (ps.zip (us ++ [w])))
    (s : Shared) (us : List Value) (w : Value) (X : K.In s.heap) (hl : us.length = n) : BindsTo s fd ⟨us, [(ks, w)]⟩ (ps.zip (us ++ [w])) := by
  obtain ⟨oc, od, dV, kV, doc, pm, an, cdv, ct, osl, rfl, lk, hcd, hD, hK⟩ := F.ex
  rcases hD with ⟨e, _⟩ | ⟨_, T, o, its, m, rfl, lT, oT, rT⟩
  · exact absurd e hd
  · obtain ⟨k, e1, e2⟩ := h T kV doc pm an cdv ct us its w hl rT.length.symm
    refine BindsTo.of_looks fun M => ?_
    rw [e1]
    exact looks_items X lT oT (.of_pure e2)
theorem fnG_of {P : Program} {w : World} {K : PySem.W.Frag} {mg : Str → Option Value} {base : Heap} {k n : Nat} {f : Addr} {fd : FuncData} {x qual : Str} {st : Stmt} {N ps : List Str} {sp : PSpec} {body : Ss}
    {dvs : List V} (F : FunW K x qual st dvs f fd) (S : FnScope N ps (defScope st)) (hbl : ∀ x ∈ bltNames, mg x = none) (hpn : ps.length = n)
    (hc : chkSs body ⟨N, defScope st, defScope st⟩ (defBody st) = true) (hn : needSs (HasFn ⟨P, w, K, mg, base⟩ k) (HasFnK ⟨P, w, K, mg, base⟩ k) (HasGl ⟨P, w, K, mg, base⟩) (HasX ⟨P, w, K, mg, base⟩ k) body)
    (hs : ∀ vs s Q X, vs.length = n → sp vs s Q X → wpFn N.length body vs s Q X) : FnG P w K mg base (k + 1) f fd ps (liftSp K mg n sp) := by
  obtain ⟨oc, od, dV, kV, doc, pm, an, cdv, ct, osl, rfl, lk, hcd, _, _⟩ := F.ex
  refine ⟨fun vs H Q E ⟨_, _, _, _, _, h, _⟩ => h.trans hpn.symm, fun A outer s H args us vs Q E hg hr e0 hb r hsp => ?_⟩
  obtain ⟨F0, s0, pvs, rs, dvs, hl, Q0, X0, hsp0, hQ0, hX0⟩ := hsp
  have hl' : vs.length = ps.length := hl.trans hpn.symm
  have KX : K.In s.heap := e0.mod.kin.keeps fun b o e => (e0.bs b o e).1
  have lim : s.heap.NoLimit := e0.mod.nolimit.keeps fun b o e => (e0.bs b o e).1
  have hkind : ∀ y ∈ ps.zip us, (defScope st).names.lookup y.1 = some .local ∨ ((defScope st).names.lookup y.1 = some .cell ∧ ((cellsFrom (s.heap.objs.size + 1) (defScope st).names []).lookup y.1).isSome = true) := fun ⟨n, v⟩ hy => by
    rcases S.par n (List.of_mem_zip hy).1 with q | q
    · exact .inl q
    · exact .inr ⟨q, PySem.W.cellsFrom_some _ _ _ (.inl q)⟩
  refine codeAny_call_function hr.depth (KX _ _ lk) rfl S.co S.gen rfl (PySem.W.codeRec_of KX hcd) (hb _ _ _ _ ?_)
  refine wpAny_newFunctionEnv_cells S.kind hkind fun env he s1 x => ?_
  subst he
  refine ⟨lim.keeps x.toInCall.keep, codeAny_func ?_⟩
  have hroom := hr.deeper (envOfC qual (defScope st) s.heap.objs.size f cdv)
  have ok : CxOk (cxOf (L2.CX P w) P w K mg base N qual (defScope st) f cdv A outer s H E) ⟨N, defScope st, defScope st⟩ k (fun cls d _ H => E cls d H) :=
    { hN := rfl, nd := S.nd, hsc := rfl, calm := rfl, kindF := S.kind, room := hroom, gds := hg, tk := takes_of rfl rfl rfl rfl, po := passes_of rfl, blt := hbl
      tg := fun y hy => by
        unfold locB at hy
        refine ⟨?_, .inl rfl⟩
        split at hy
        · exact .inl ‹_›
        · exact .inr ‹_›
        · cases hy }
  have ht := sSs body ok ⟨rfl, rfl⟩ hc hn
  have hq : tls (cxOf (L2.CX P w) P w K mg base N qual (defScope st) f cdv A outer s H E) (fun cls d _ H => E cls d H) (wpSs body) { nx := fun _ H' => Q .non H', rt := Q } (L2.start N vs) H := by
    have hw := hs pvs s0 Q0 X0 (dvs.length.trans hl) hsp0
    unfold wpFn at hw
    refine ⟨F0, initS N.length pvs, s0, rs, start_init dvs, wpSs_mono body ⟨?_, ?_, ?_, ?_, ?_⟩ hw⟩
    · rintro τ' s' ⟨s2, sub, h⟩ F' H' σ' ex r' _
      exact hQ0 _ _ h F' H' _ ex (r'.less sub) .non
    · rintro v s' ⟨s2, sub, h⟩ F' H' y ex r' d'
      exact hQ0 _ _ h F' H' y ex (r'.less sub) d'
    · exact fun _ _ h => h.elim
    · exact fun _ _ h => h.elim
    · rintro e τ' s' ⟨s2, sub, h⟩ F' H' σ' cls d ex r' _ rep
      exact hX0 _ _ h F' H' cls d ex (r'.less sub) rep
  have I : Inv (cxOf (L2.CX P w) P w K mg base N qual (defScope st) f cdv A outer s H E) [] (L2.start N vs) H s1 := inv_start S hr.hd e0 hl' r x
  refine wpAny_mono (ht.run [] s1 (L2.start N vs) H _ I hq) (fun fl s' hs => ?_) fun e s' hs => hs
  have fin : ∀ {σ' : L2.St} {H' : Hp} {v : V} {u : Value}, Inv (cxOf (L2.CX P w) P w K mg base N qual (defScope st) f cdv A outer s H E) [] σ' H' s' → RelV v u → Q v H' → CE outer P w H s Q u s' :=
    fun {σ' H' v u} J rv q => ⟨v, H', J.os, J.bare, J.base, J.hok, rv, q⟩
  cases fl with
  | ret u =>
    obtain ⟨v, σ', H', J, rv, q⟩ := hs
    exact fin J rv q
  | next =>
    obtain ⟨σ', H', J, q⟩ := hs
    exact fin (v := V.non) (u := Value.none) J rfl q
  | brk =>
    obtain ⟨_, _, _, q⟩ := hs
    exact False.elim q
  | cont =>
    obtain ⟨_, _, _, q⟩ := hs
    exact False.elim q
theorem hasFn_full {P : Program} {w : World} {K : PySem.W.Frag} {mg : Str → Option Value} {base : Heap} {k n : Nat} {f : Addr} {fd : FuncData} {x : Str} {ps : List Str} {sp : PSpec}
    (hm : mg x = some (.ref f)) (kp : PySem.W.keepIn K (.ref f) = true) (b : Binds K fd ps []) (hpn : ps.length = n) (G : FnG P w K mg base k f fd ps (liftSp K mg n sp)) : HasFn ⟨P, w, K, mg, base⟩ k x sp n :=
  ⟨f, fd, ps, [], [], [], sp, hm, kp, b, .nil, fun _ _ => .nil, hpn, fun vs _ _ _ h => by rw [List.append_nil]; exact h, G⟩
/-- every parameter is given by position -/
theorem hasFn_of {P : Program} {w : World} {K : PySem.W.Frag} {mg : Str → Option Value} {base : Heap} {k n : Nat} {f : Addr} {fd : FuncData} {x : Str} {st : Stmt} {N ps : List Str} {sp : PSpec} {body : Ss}
    (F : L2.Fun K x x st f fd) (hm : mg x = some (.ref f)) (b : Binds K fd ps []) (S : FnScope N ps (defScope st)) (hbl : ∀ x ∈ bltNames, mg x = none) (hpn : ps.length = n)
    (hc : chkSs body ⟨N, defScope st, defScope st⟩ (defBody st) = true) (hn : needSs (HasFn ⟨P, w, K, mg, base⟩ k) (HasFnK ⟨P, w, K, mg, base⟩ k) (HasGl ⟨P, w, K, mg, base⟩) (HasX ⟨P, w, K, mg, base⟩ k) body)
    (hs : ∀ vs s Q X, vs.length = n → sp vs s Q X → wpFn N.length body vs s Q X) : HasFn ⟨P, w, K, mg, base⟩ (k + 1) x sp n :=
  hasFn_full hm F.kp b hpn (fnG_of (funW_of F) S hbl hpn hc hn hs)
/-- one whose last parameters have defaults -/
theorem hasFn_dfl {P : Program} {w : World} {K : PySem.W.Frag} {mg : Str → Option Value} {base : Heap} {k n : Nat} {f : Addr} {fd : FuncData} {x : Str} {ps : List Str} {sp sp1 : PSpec} {ds : List Value} {dv : List V} {pv : List PV}
    (hm : mg x = some (.ref f)) (kp : PySem.W.keepIn K (.ref f) = true) (b : Binds K fd ps ds) (hv : Vals dv ds) (hp : ∀ H F, DVs K H F pv dv) (hpn : ps.length = n + pv.length) (h1 : ∀ vs st Q X, sp1 vs st Q X → sp (vs ++ pv) st Q X)
    (G : FnG P w K mg base k f fd ps (liftSp K mg ps.length sp)) : HasFn ⟨P, w, K, mg, base⟩ k x sp1 n :=
  ⟨f, fd, ps, ds, dv, pv, sp, hm, kp, b, hv, hp, hpn, h1, by rw [← hpn]; exact G⟩
theorem HasGl.int {Γ : Wd} {x : Str} {n : Int} {t : Tok} (h : Γ.mg x = some (.int n t)) : HasGl Γ x (.int n) := ⟨_, .int n, h, ⟨t, rfl⟩, fun _ _ => .int n⟩
theorem HasGl.str {Γ : Wd} {x : Str} {n : Str} {t : Tok} (h : Γ.mg x = some (.str n t)) : HasGl Γ x (.str n) := ⟨_, .str n, h, ⟨t, rfl⟩, fun _ _ => .str n⟩

theorem HasGl.tup {Γ : Wd} {x : Str} {a : Addr} {xs : List PV} {ys : List V} {o : Obj} {its : Array Value} {n : Nat} (h : Γ.mg x = some (.ref a)) (hk : Γ.K.lookup a = some o) (hc : o.cls = .type "tuple") (hd : o.data = .seq its n) (hz : its.size ≤ sizeLine) (hv : Vals ys its.toList)
    (hx : ∀ H F, DVs Γ.K H F xs ys) : HasGl Γ x (.tup xs) := ⟨_, .ref a, h, rfl, fun H F => .tup (.inr ⟨o, its, n, hk, hc, hd, hz, hv⟩) (hx H F)⟩
/-- a tuple of two numbers, ZERO for one -/
theorem HasGl.two {Γ : Wd} {x : Str} {a : Addr} {i j : Int} {od : Option Addr} {t u : Tok} {n : Nat} {sl : Array (Option Value)} (h : Γ.mg x = some (.ref a)) (hk : Γ.K.lookup a = some ⟨.type "tuple", od, .seq #[.int i t, .int j u] n, sl⟩) :
    HasGl Γ x (.tup [.int i, .int j]) :=
  .tup (ys := [.int i, .int j]) h hk rfl rfl (show 2 ≤ sizeLine by decide) (.cons ⟨_, rfl⟩ (.cons ⟨_, rfl⟩ .nil)) fun _ _ => .cons (.int i) (.cons (.int j) .nil)

/-! ### the law's own head -/
/-- a law's promise: a short script, and it answers True -/
def lawSp : PSpec := fun vs st Q _ => ∃ ns : List Int, vs = [.scr ns] ∧ ns.length ≤ 63 ∧ ∀ s, Q (.bl true) s
theorem scr_of {K : PySem.W.Frag} {H : Hp} {a : Addr} {ys : List V} (hO : Only H) (h : SqL K H a ys) : ScrL K H a ys := by
  rcases h with (h | h) | h
  · rcases hO a with z | ⟨o, xs, z⟩
    · rw [z] at h; cases h
    · rw [z] at h; cases h
  · exact .inl h
  · exact .inr (.inr h)
theorem lawcall {P : Program} {w : World} {K : PySem.W.Frag} {mg mb : Str → Option Value} {k : Nat} {fa a : Addr} {fd : FuncData} {x : Str} {s₁ : Shared} {vs : List Value} {ns : List Int}
    (KX : K.In s₁.heap) (hns : s₁.heap.Ns mainGlobals mg) (hb : s₁.heap.Ns builtinsNs mb) (hbb : ∀ x : Str, x ≠ "__name__" → mb x = bootBuiltins x) (hlim : s₁.heap.NoLimit) (hg : s₁.gens = #[])
    (ha : s₁.heap.get? a = some { cls := .type "list", data := .seq vs.toArray }) (hi : IntsAre vs ns) (hl : ns.length ≤ 63) (hr : Room k callerA)
    (F : ∀ base : Heap, K.In base → base.Ns mainGlobals mg → FnG P w K mg base k fa fd [x] (liftSp K mg 1 lawSp)) (hbind : ∀ (s : Shared) (u : Value), BindsTo s fd ⟨[u], []⟩ [(x, u)]) :
    codeAny (model P w) callerA (.call (.ref fa) ⟨[.ref a], []⟩) (fun r s' => r = .ok (.ret (.bool true)) ∧ OldK s₁.heap s'.heap ∧ s'.os = s₁.os ∧ AllBare s'.gens) s₁ := by
  have rv := vals_ints hi
  have lenV := hi.length
  have hlz : ns.length ≤ sizeLine := Nat.le_trans hl (by decide)
  have core : ∀ H : Hp, Only H → SqL K H a (ns.map V.int) → HOk P w H s₁.heap → (∀ b, H b ≠ none → b = a) → (H a ≠ none → K.lookup a = none) →
      codeAny (model P w) callerA (.call (.ref fa) ⟨[.ref a], []⟩) (fun r s' => r = .ok (.ret (.bool true)) ∧ OldK s₁.heap s'.heap ∧ s'.os = s₁.os ∧ AllBare s'.gens) s₁ := by
    intro H hO hS hok hA hK
    have base_of : ∀ {b : Addr} {o : Obj}, s₁.heap.get? b = some o → H b = none → (hidT s₁.heap H).get? b = some o := fun e n => hidT_get e n
    have noA : ∀ {b : Addr} {o : Obj} {es : Array DictEntry} {ep : Nat}, s₁.heap.get? b = some o → o.data = .dict es ep → H b = none := fun {b o es ep} e d => by
      cases q : H b with
      | none => rfl
      | some u =>
        have e' : b = a := hA b (by rw [q]; simp)
        subst e'
        rw [ha] at e; cases e
        have d' : Data.seq vs.toArray _ = Data.dict es ep := d
        cases d'
    have nsK : ∀ {b : Addr} {m : Str → Option Value}, s₁.heap.Ns b m → (hidT s₁.heap H).Ns b m := fun {b m} ⟨o, es, ep, e, d, r⟩ => ⟨o, es, ep, base_of e (noA e d), d, r⟩
    have hKb : K.In (hidT s₁.heap H) := fun b o e => base_of (KX b o e) (by
      cases q : H b with
      | none => rfl
      | some u =>
        have e' : b = a := hA b (by rw [q]; simp)
        subst e'
        rw [hK (by rw [q]; simp)] at e; cases e)
    have hM : Mod K mg (hidT s₁.heap H) := ⟨hKb, nsK hns, ⟨mb, nsK hb, hbb⟩, let ⟨mc, h1, h2⟩ := hlim; ⟨mc, nsK h1, h2⟩⟩
    have e0 : Env0 P w K mg (hidT s₁.heap H) callerA [] s₁ H := ⟨rfl, hM, fun b o e => of_hidT e, Nat.le_of_eq (hidT_size _ _), trivial, fun b hb => absurd (show b ∈ ([] : List Addr) from hb) (by simp), hok, .of_eq hg⟩
    have hsp : liftSp K mg 1 lawSp [.ref a] H (fun v _ => v = .bl true) fun _ _ _ => False :=
      ⟨fun _ => False, fun _ => none, [.scr ns], ⟨fun _ _ e => (nomatch e), fun _ e => (nomatch e), fun _ f => f.elim⟩, .cons (.scr (scr_of hO hS)) .nil, rfl,
        fun v _ => v = .bl true, fun _ _ => False, ⟨ns, rfl, hl, fun _ => rfl⟩, fun v s e F' H' y _ _ d => by subst e; cases d; rfl, fun _ _ h => h.elim⟩
    refine codeAny_mono ((F _ hKb (nsK hns)).run callerA [] s₁ H ⟨[.ref a], []⟩ [.ref a] [.ref a] _ _ rfl hr e0 (hbind s₁ (.ref a)) (.cons rfl .nil) hsp) fun r s' h => ?_
    cases r with
    | error e => exact (by
        obtain ⟨_, _, _, _, _, _, _, _, _, _, _, _, h⟩ := h
        exact h.elim)
    | ok fl =>
      cases fl with
      | next => exact False.elim h
      | brk => exact False.elim h
      | cont => exact False.elim h
      | ret u =>
        obtain ⟨v, H', os, bare, un, hok', r', q⟩ := h
        have q' : v = .bl true := q
        subst q'
        obtain rfl : u = Value.bool true := r'
        refine ⟨rfl, OldK.of_keep fun b o e => ?_, os, bare⟩
        cases q : H b with
        | none => exact un.keep b o e q (by intro z; exact absurd (show b ∈ ([] : List Addr) from z) (by simp)) (by simp)
        | some u =>
          rcases hO b with z | ⟨ob, xs, z⟩
          · rw [q] at z; cases z
          · have z2 := un.frzs b ob _ z
            obtain ⟨e1, _⟩ := hok b _ z
            obtain ⟨e2, _⟩ := hok' b _ z2
            rw [e] at e1; cases e1
            exact e2
  cases hk : K.lookup a with
  | some o =>
    have e := KX a o hk
    rw [ha] at e
    cases e
    refine core (fun _ => none) (fun _ => .inl rfl) (.inr ⟨_, vs.toArray, _, hk, rfl, rfl, rfl, by rw [List.size_toArray, lenV]; exact hlz, by simpa using rv⟩) (fun b u z => by have z' : (none : Option HO) = some u := z; cases z') (fun b z => absurd rfl z) fun z => absurd rfl z
  | none =>
    refine core (fun b => if b = a then some (.frz { cls := .type "list", data := .seq vs.toArray } (.lst (ns.map V.int))) else none) (fun b => ?_) (.inl (.inr ⟨{ cls := .type "list", data := .seq vs.toArray }, if_pos rfl⟩)) (fun b u z => ?_) (fun b z => ?_) fun _ => hk
    · by_cases hb : b = a
      · exact .inr ⟨_, _, if_pos hb⟩
      · exact .inl (if_neg hb)
    · by_cases hb : b = a
      · have z' := (if_pos hb).symm.trans z
        cases z'
        subst hb
        exact ⟨ha, by rw [List.length_map]; exact hlz, vs, _, rv, ha⟩
      · have z' := (if_neg hb).symm.trans z
        cases z'
    · by_cases hb : b = a
      · exact hb
      · exact absurd (if_neg hb) z
/-- the goal that k_fill leaves, from the law's def -/
theorem walk_of {l : PySem.W.OpenLaw} {k : Nat} {q : Program} {loose : List Str} {XP : (Str → Option Value) → Heap → Prop} {YP : World → Heap → Prop} {d : DefRec} {K : Params → PySem.W.Frag} {x : Str}
    (hn : l.most = some 63) (hdf : d.params.defaults = []) (hr : Room k callerA)
    (hY : ∀ (w : World) (h : Heap), YP w h → (K w.params).In h)
    (F : ∀ (w : World) (mg : Str → Option Value) (fa : Addr) (h : Heap), (K w.params).In h → h.Ns mainGlobals mg → mg d.name = some (.ref fa) →
      ∃ fd : FuncData, (∀ (s : Shared) (u : Value), BindsTo s fd ⟨[u], []⟩ [(x, u)]) ∧
        ∀ base : Heap, (K w.params).In base → base.Ns mainGlobals mg → FnG l.prog w (K w.params) mg base k fa fd [x] (liftSp (K w.params) mg 1 lawSp)) :
    PySem.W.WalkO q loose XP YP l.row.toRowW d [] (fun f vs => PySem.call f vs) := by
  refine Att.attach_call hn hdf fun w s₀ s₁ mg mb fa o pm cd doc a vs ns G Y ho hd hcd hmg hobj hints hlen hg => ?_
  have KX := hY w _ Y
  obtain ⟨fd, hb, hF⟩ := F w mg fa _ KX G.T.g hmg
  exact lawcall KX G.T.g G.T.b G.T.builtins G.T.nolimit hg hobj hints hlen hr hF hb
end TK

set_option maxRecDepth 100000
set_option maxHeartbeats 4000000
namespace TK
open PySem PySem.Spec PyProof.Rows L2
/-! ### promises that bear weaker wishes -/
def Mono (sp : PSpec) : Prop := ∀ vs st (Q Q' : PQ) (X X' : EQ), (∀ v s, Q v s → Q' v s) → (∀ e s, X e s → X' e s) → sp vs st Q X → sp vs st Q' X'
theorem callS_eq {sp : PSpec} (m : Mono sp) {vs : List PV} {st : Store} {X : EQ} {Q : PQ} : callS sp vs st X Q = sp vs st Q X :=
  propext ⟨fun ⟨_, _, h, hq, hx⟩ => m _ _ _ _ _ _ hq hx h, fun h => ⟨Q, X, h, fun _ _ h => h, fun _ _ h => h⟩⟩
theorem callS_of {sp : PSpec} {vs : List PV} {st : Store} {X : EQ} {Q : PQ} (h : sp vs st Q X) : callS sp vs st X Q := ⟨Q, X, h, fun _ _ h => h, fun _ _ h => h⟩
/-! ### stepping -/
/-- the statements that are left -/
theorem wpSs_ex : Nonempty { f : Ss → PEnds → Sl → Store → Prop // f = wpSs } := ⟨⟨wpSs, rfl⟩⟩
/-- wpSs under a name that does not unfold -/
noncomputable def wpSsC : { f : Ss → PEnds → Sl → Store → Prop // f = wpSs } := Classical.choice wpSs_ex
noncomputable def Nx (ss : Ss) (D : PEnds) (τ : Sl) (st : Store) : Prop := wpSsC.1 ss D τ st
theorem Nx_eq {ss : Ss} {D : PEnds} {τ : Sl} {st : Store} : Nx ss D τ st = wpSs ss D τ st := congrFun (congrFun (congrFun (congrFun wpSsC.2 ss) D) τ) st
theorem Nx_fun {ss : Ss} {D : PEnds} : Nx ss D = wpSs ss D := by funext τ st; exact Nx_eq
theorem ss_nil {D : PEnds} {τ : Sl} {st : Store} : wpSs .nil D τ st = D.nx τ st := rfl
noncomputable def PEnds.nxt (D : PEnds) (ss : Ss) : PEnds := { D with nx := Nx ss D }
def PEnds.lp (D : PEnds) (J : Sl → Store → Prop) : PEnds := { D with nx := J, ct := J, bk := D.nx }
/-- the ends of a try's body -/
noncomputable def PEnds.tr (D : PEnds) (c : Str) (i : Nat) (h : XE) : PEnds := { D with ex := fun e τ' st' => e.1 ∈ excNames ∧ if subC e.1 c = true then getS τ' i = none ∧ i < τ'.length ∧ wpX h e τ' (fun v => D.rt v st') else D.ex e τ' st' }
theorem tr_nx {D : PEnds} {c : Str} {i : Nat} {h : XE} : (D.tr c i h).nx = D.nx := rfl
theorem tr_rt {D : PEnds} {c : Str} {i : Nat} {h : XE} : (D.tr c i h).rt = D.rt := rfl
theorem tr_bk {D : PEnds} {c : Str} {i : Nat} {h : XE} : (D.tr c i h).bk = D.bk := rfl
theorem tr_ct {D : PEnds} {c : Str} {i : Nat} {h : XE} : (D.tr c i h).ct = D.ct := rfl
theorem nxt_ex {D : PEnds} {ss : Ss} : (D.nxt ss).ex = D.ex := rfl
theorem lp_ex {D : PEnds} {J : Sl → Store → Prop} : (D.lp J).ex = D.ex := rfl
theorem ss_cons {s : S} {ss : Ss} {D : PEnds} {τ : Sl} {st : Store} : wpSs (.cons s ss) D τ st = wpS s (D.nxt ss) τ st := by
  unfold PEnds.nxt
  rw [Nx_fun]; rfl
theorem nxt_nx {D : PEnds} {ss : Ss} : (D.nxt ss).nx = Nx ss D := rfl
theorem nxt_rt {D : PEnds} {ss : Ss} : (D.nxt ss).rt = D.rt := rfl
theorem nxt_bk {D : PEnds} {ss : Ss} : (D.nxt ss).bk = D.bk := rfl
theorem nxt_ct {D : PEnds} {ss : Ss} : (D.nxt ss).ct = D.ct := rfl
theorem lp_nx {D : PEnds} {J : Sl → Store → Prop} : (D.lp J).nx = J := rfl
theorem lp_rt {D : PEnds} {J : Sl → Store → Prop} : (D.lp J).rt = D.rt := rfl
theorem lp_bk {D : PEnds} {J : Sl → Store → Prop} : (D.lp J).bk = D.nx := rfl
theorem lp_ct {D : PEnds} {J : Sl → Store → Prop} : (D.lp J).ct = J := rfl
theorem Nx_nil {D : PEnds} : Nx .nil D = D.nx := by funext τ st; exact Nx_eq
/-- an if: its arms are looked at later -/
noncomputable def Arm (ss : Ss) (D : PEnds) (τ : Sl) (st : Store) : Prop := wpSsC.1 ss D τ st
theorem Arm_eq {ss : Ss} {D : PEnds} {τ : Sl} {st : Store} : Arm ss D τ st = wpSs ss D τ st := congrFun (congrFun (congrFun (congrFun wpSsC.2 ss) D) τ) st
/-- the def's ends -/
def fnEnds (Q : PQ) (X : EQ) : PEnds := ⟨fun _ s => ∃ s0, Sub s0 s ∧ Q .non s0, fun v s => ∃ s0, Sub s0 s ∧ Q v s0, fun _ _ => False, fun _ _ => False, fun e _ s => ∃ s0, Sub s0 s ∧ X e s0⟩
theorem fn_eq {n : Nat} {b : Ss} {vs : List PV} {st : Store} {Q : PQ} {X : EQ} : wpFn n b vs st Q X = wpSs b (fnEnds Q X) (initS n vs) st := rfl
theorem fnRet {Q : PQ} {X : EQ} {v : PV} {s : Store} (s0 : Store) (hs : Sub s0 s) (h : Q v s0) : (fnEnds Q X).rt v s := ⟨s0, hs, h⟩
theorem Sub.rfl {s : Store} : Sub s s := fun _ _ h => h
theorem fnRet1 {Q : PQ} {X : EQ} {v : PV} {s : Store} (h : Q v s) : (fnEnds Q X).rt v s := ⟨s, .rfl, h⟩
theorem fnNx1 {Q : PQ} {X : EQ} {τ : Sl} {s : Store} (h : Q .non s) : (fnEnds Q X).nx τ s := ⟨s, .rfl, h⟩
theorem sub_new {s : Store} {p : Addr} {c : Option Cell} (h : s p = none) : Sub s (up s p c) := fun a d e => by
  by_cases n : a = p
  · subst n; rw [h] at e; cases e
  · rw [up_ne n]; exact e
theorem up_up {s : Store} {p : Addr} {c d : Option Cell} : up (up s p c) p d = up s p d := by
  funext a
  by_cases n : a = p
  · subst n; rw [up_same, up_same]
  · rw [up_ne n, up_ne n, up_ne n]
theorem up_id {s : Store} {p : Addr} {c : Option Cell} (h : s p = c) : up s p c = s := by
  funext a
  by_cases n : a = p
  · subst n; rw [up_same, h]
  · rw [up_ne n]
/-! ### loops -/
/-- a loop over items: what holds ahead of the rest -/
theorem for_ind {tg : TG} {b : Ss} {ok : Store → Prop} {D : PEnds} (J : List PV → Sl → Store → Prop)
    (hstep : ∀ x r τ st, J (x :: r) τ st → ok st ∧ oP (tg.asg x τ) fun τ1 => wpSs b (D.lp (J r)) τ1 st)
    (hend : ∀ τ st, J [] τ st → ok st ∧ D.nx τ st) : ∀ xs τ st, J xs τ st → forL tg (wpSs b) ok xs D τ st
  | [], τ, st, h => hend τ st h
  | x :: r, τ, st, h => by
    refine ⟨(hstep x r τ st h).1, ?_⟩
    have h2 := (hstep x r τ st h).2
    have ih := for_ind J hstep hend r
    cases e : tg.asg x τ with
    | none => rw [e] at h2; exact h2.elim
    | some τ1 =>
      rw [e] at h2
      refine wpSs_mono b ?_ h2
      exact ⟨fun _ _ h => ih _ _ h, fun _ _ h => h, fun _ _ h => h, fun _ _ h => ih _ _ h, fun _ _ _ h => h⟩
/-- .. by the number of items that are done -/
theorem for_at {tg : TG} {b : Ss} {ok : Store → Prop} {D : PEnds} {xs : List PV} (J : Nat → Sl → Store → Prop)
    (hstep : ∀ i x τ st, xs[i]? = some x → J i τ st → ok st ∧ oP (tg.asg x τ) fun τ1 => wpSs b (D.lp (J (i + 1))) τ1 st)
    (hend : ∀ τ st, J xs.length τ st → ok st ∧ D.nx τ st) {τ : Sl} {st : Store} (h : J 0 τ st) : forL tg (wpSs b) ok xs D τ st := by
  refine for_ind (fun r τ st => ∃ i, r = xs.drop i ∧ i ≤ xs.length ∧ J i τ st) ?_ ?_ xs τ st ⟨0, by simp, Nat.zero_le _, h⟩
  · rintro x r τ st ⟨i, e, hi, h⟩
    have hx : xs[i]? = some x := by
      have := congrArg (·[0]?) e
      simpa using this.symm
    obtain ⟨h1, h2⟩ := hstep i x τ st hx h
    refine ⟨h1, ?_⟩
    have hl : i < xs.length := by
      rcases Nat.lt_or_ge i xs.length with h | h
      · exact h
      · rw [List.getElem?_eq_none h] at hx; cases hx
    have er : r = xs.drop (i + 1) := by
      rw [List.drop_eq_getElem_cons hl] at e
      exact (List.cons.inj e).2
    cases e2 : tg.asg x τ with
    | none => rw [e2] at h2; exact h2.elim
    | some τ1 =>
      rw [e2] at h2
      refine wpSs_mono b ?_ h2
      exact ⟨fun _ _ h => ⟨i + 1, er, hl, h⟩, fun _ _ h => h, fun _ _ h => h, fun _ _ h => ⟨i + 1, er, hl, h⟩, fun _ _ _ h => h⟩
  · rintro τ st ⟨i, e, hi, h⟩
    have : i = xs.length := by
      have := congrArg List.length e
      simp only [List.length_nil, List.length_drop] at this
      omega
    subst this
    exact hend τ st h
/-! ### calls: another look at the same heap -/
theorem HasFn.view {Γ : Wd} {k n : Nat} {f : Str} {sp sp' : PSpec} (h : HasFn Γ k f sp n)
    (c : ∀ vs st Q X H F, RS Γ.K H F st → sp' vs st Q X → ∃ st2 Q2, RS Γ.K H F st2 ∧ sp vs st2 Q2 (fun _ _ => False) ∧ ∀ v s2 H' F', Ext F H F' H' → RS Γ.K H' F' s2 → Q2 v s2 → ∃ s, RS Γ.K H' F' s ∧ Q v s) :
    HasFn Γ k f sp' n := by
  obtain ⟨fa, fd, ps, ds, dv, pv, sp1, h1, h2, h3, h3a, h3b, h4, h5, hf⟩ := h
  refine ⟨fa, fd, ps, ds, dv, pv, fun ws st Q X => ∃ vs, ws = vs ++ pv ∧ sp' vs st Q X, h1, h2, h3, h3a, h3b, h4, fun vs st Q X h => ⟨vs, rfl, h⟩, ⟨fun vs H Q E ⟨_, _, _, _, _, h, _⟩ => h.trans h4.symm, fun A outer s H args us vs Q E hg hr e0 hb r hsp => ?_⟩⟩
  refine hf.run A outer s H args us vs Q E hg hr e0 hb r ?_
  obtain ⟨F, st, pvs, rs, d, hl, Q0, X0, ⟨ws, rfl, h0⟩, hq, hx⟩ := hsp
  obtain ⟨st2, Q2, rs2, hs2, hc⟩ := c ws st Q0 X0 H F rs h0
  refine ⟨F, st2, ws ++ pv, rs2, d, hl, Q2, fun _ _ => False, h5 _ _ _ _ hs2, fun v s2 h2 F' H' y ex r' dv => ?_, fun _ _ h => h.elim⟩
  obtain ⟨s, rs', hq'⟩ := hc v s2 H' F' ex r' h2
  exact hq v s hq' F' H' y ex rs' dv
end TK

namespace TK
open PySem PySem.Spec PyProof.Rows L2
/-! ### the same readings, what is still to come under a name -/
/-- a proposition that does not unfold by itself -/
theorem Blk_ex : Nonempty { f : Prop → Prop // f = id } := ⟨⟨id, rfl⟩⟩
noncomputable def BlkC : { f : Prop → Prop // f = id } := Classical.choice Blk_ex
noncomputable def Blk (p : Prop) : Prop := BlkC.1 p
theorem Blk_eq {p : Prop} : Blk p = p := congrFun BlkC.2 p
def KEx (D : PEnds) (τ : Sl) : EQ := fun x s => D.ex x τ s
theorem ex_nxt {D : PEnds} {ss : Ss} {τ : Sl} : KEx (D.nxt ss) τ = KEx D τ := rfl
theorem ex_lp {D : PEnds} {J : Sl → Store → Prop} {τ : Sl} : KEx (D.lp J) τ = KEx D τ := rfl
def KV (st : Store) (Q : PQ) (v : PV) : Prop := Q v st
noncomputable def KF (st : Store) (Q : PQ) (v : PV) : Prop := Blk (frzV v st Q)
theorem f_KF {st : Store} {Q : PQ} : KF st Q = fun v => frzV v st Q := by funext v; exact Blk_eq
noncomputable def KBin2 (o : Operator) (m : Bool) (v : PV) (Q : PQ) (w : PV) (st : Store) : Prop := Blk (binV o m v w st Q)
theorem f_KBin2 {o : Operator} {m : Bool} {v : PV} {Q : PQ} : KBin2 o m v Q = fun w st => binV o m v w st Q := by funext w st; exact Blk_eq
noncomputable def KBin1 (o : Operator) (m : Bool) (b : E) (X : EQ) (τ : Sl) (Q : PQ) (v : PV) (st : Store) : Prop := Blk (wpE b X τ st (KBin2 o m v Q))
theorem f_KBin1 {o : Operator} {m : Bool} {b : E} {X : EQ} {τ : Sl} {Q : PQ} : KBin1 o m b X τ Q = fun v st => wpE b X τ st (KBin2 o m v Q) := by funext v st; exact Blk_eq
noncomputable def KNeg (Q : PQ) (v : PV) (st : Store) : Prop := Blk (negV v st Q)
theorem f_KNeg {Q : PQ} : KNeg Q = fun v st => negV v st Q := by funext v st; exact Blk_eq
noncomputable def KUn (f : UF) (Q : PQ) (v : PV) (st : Store) : Prop := Blk (unV f v st Q)
theorem f_KUn {f : UF} {Q : PQ} : KUn f Q = fun v st => unV f v st Q := by funext v st; exact Blk_eq
noncomputable def KNot2 (Q : PQ) (st : Store) (b : Bool) : Prop := Blk (Q (.bl (!b)) st)
theorem f_KNot2 {Q : PQ} {st : Store} : KNot2 Q st = fun b => Q (.bl (!b)) st := by funext b; exact Blk_eq
noncomputable def KNot (Q : PQ) (v : PV) (st : Store) : Prop := Blk (onBl v (KNot2 Q st))
theorem f_KNot {Q : PQ} : KNot Q = fun v st => onBl v (KNot2 Q st) := by funext v st; exact Blk_eq
noncomputable def KCmp2 (o : CmpOp) (v : PV) (Q : PQ) (w : PV) (st : Store) : Prop := Blk (cmpV o v w st Q)
theorem f_KCmp2 {o : CmpOp} {v : PV} {Q : PQ} : KCmp2 o v Q = fun w st => cmpV o v w st Q := by funext w st; exact Blk_eq
noncomputable def KCmp1 (o : CmpOp) (b : E) (X : EQ) (τ : Sl) (Q : PQ) (v : PV) (st : Store) : Prop := Blk (wpE b X τ st (KCmp2 o v Q))
theorem f_KCmp1 {o : CmpOp} {b : E} {X : EQ} {τ : Sl} {Q : PQ} : KCmp1 o b X τ Q = fun v st => wpE b X τ st (KCmp2 o v Q) := by funext v st; exact Blk_eq
noncomputable def KCh4 (o : CmpOp) (c : E) (X : EQ) (τ : Sl) (w : PV) (Q : PQ) (st : Store) (k : Bool) : Prop := Blk (if k = true then wpE c X τ st (KCmp2 o w Q) else Q (.bl false) st)
theorem f_KCh4 {o : CmpOp} {c : E} {X : EQ} {τ : Sl} {w : PV} {Q : PQ} {st : Store} : KCh4 o c X τ w Q st = fun k => if k = true then wpE c X τ st (KCmp2 o w Q) else Q (.bl false) st := by funext k; exact Blk_eq
noncomputable def KCh3 (o : CmpOp) (c : E) (X : EQ) (τ : Sl) (w : PV) (Q : PQ) (z : PV) (st : Store) : Prop := Blk (onBl z (KCh4 o c X τ w Q st))
theorem f_KCh3 {o : CmpOp} {c : E} {X : EQ} {τ : Sl} {w : PV} {Q : PQ} : KCh3 o c X τ w Q = fun z st => onBl z (KCh4 o c X τ w Q st) := by funext z st; exact Blk_eq
noncomputable def KCh2 (o o' : CmpOp) (c : E) (X : EQ) (τ : Sl) (v : PV) (Q : PQ) (w : PV) (st : Store) : Prop := Blk (cmpV o v w st (KCh3 o' c X τ w Q))
theorem f_KCh2 {o : CmpOp} {o' : CmpOp} {c : E} {X : EQ} {τ : Sl} {v : PV} {Q : PQ} : KCh2 o o' c X τ v Q = fun w st => cmpV o v w st (KCh3 o' c X τ w Q) := by funext w st; exact Blk_eq
noncomputable def KCh1 (o o' : CmpOp) (b c : E) (X : EQ) (τ : Sl) (Q : PQ) (v : PV) (st : Store) : Prop := Blk (wpE b X τ st (KCh2 o o' c X τ v Q))
theorem f_KCh1 {o : CmpOp} {o' : CmpOp} {b : E} {c : E} {X : EQ} {τ : Sl} {Q : PQ} : KCh1 o o' b c X τ Q = fun v st => wpE b X τ st (KCh2 o o' c X τ v Q) := by funext v st; exact Blk_eq
noncomputable def KBs2 (o : BoolOp) (es : Es) (X : EQ) (τ : Sl) (Q : PQ) (st : Store) (b : Bool) : Prop := Blk (match o with | .And => if b = true then wpBs .And es X τ st Q else Q (.bl false) st | .Or => if b = true then Q (.bl true) st else wpBs .Or es X τ st Q)
theorem f_KBs2 {o : BoolOp} {es : Es} {X : EQ} {τ : Sl} {Q : PQ} {st : Store} : KBs2 o es X τ Q st = fun b => match o with | .And => if b = true then wpBs .And es X τ st Q else Q (.bl false) st | .Or => if b = true then Q (.bl true) st else wpBs .Or es X τ st Q := by funext b; exact Blk_eq
noncomputable def KBs (o : BoolOp) (es : Es) (X : EQ) (τ : Sl) (Q : PQ) (v : PV) (st : Store) : Prop := Blk (onBl v (KBs2 o es X τ Q st))
theorem f_KBs {o : BoolOp} {es : Es} {X : EQ} {τ : Sl} {Q : PQ} : KBs o es X τ Q = fun v st => onBl v (KBs2 o es X τ Q st) := by funext v st; exact Blk_eq
noncomputable def KIf (a b : E) (X : EQ) (τ : Sl) (Q : PQ) (k : Bool) (st : Store) : Prop := Blk (if k = true then wpE a X τ st Q else wpE b X τ st Q)
theorem f_KIf {a : E} {b : E} {X : EQ} {τ : Sl} {Q : PQ} : KIf a b X τ Q = fun k st => if k = true then wpE a X τ st Q else wpE b X τ st Q := by funext k st; exact Blk_eq
noncomputable def KTup (Q : PQ) (vs : List PV) (st : Store) : Prop := Blk (vs.length ≤ sizeLine ∧ Q (.tup vs) st)
theorem f_KTup {Q : PQ} : KTup Q = fun vs st => vs.length ≤ sizeLine ∧ Q (.tup vs) st := by funext vs st; exact Blk_eq
noncomputable def KLst (m : Bool) (Q : PQ) (vs : List PV) (st : Store) : Prop := Blk (vs.length ≤ sizeLine ∧ newList m vs st Q)
theorem f_KLst {m : Bool} {Q : PQ} : KLst m Q = fun vs st => vs.length ≤ sizeLine ∧ newList m vs st Q := by funext vs st; exact Blk_eq
noncomputable def KIdx2 (v : PV) (Q : PQ) (w : PV) (st : Store) : Prop := Blk (idxV v w st Q)
theorem f_KIdx2 {v : PV} {Q : PQ} : KIdx2 v Q = fun w st => idxV v w st Q := by funext w st; exact Blk_eq
noncomputable def KIdx1 (i : E) (X : EQ) (τ : Sl) (Q : PQ) (v : PV) (st : Store) : Prop := Blk (wpE i X τ st (KIdx2 v Q))
theorem f_KIdx1 {i : E} {X : EQ} {τ : Sl} {Q : PQ} : KIdx1 i X τ Q = fun v st => wpE i X τ st (KIdx2 v Q) := by funext v st; exact Blk_eq
noncomputable def KSl3 (m : Bool) (v : PV) (l : Option Int) (Q : PQ) (u : Option Int) (st : Store) : Prop := Blk (sliceV m v l u st Q)
theorem f_KSl3 {m : Bool} {v : PV} {l : Option Int} {Q : PQ} : KSl3 m v l Q = fun u st => sliceV m v l u st Q := by funext u st; exact Blk_eq
noncomputable def KSl2 (m : Bool) (hi : OE) (X : EQ) (τ : Sl) (v : PV) (Q : PQ) (l : Option Int) (st : Store) : Prop := Blk (wpO hi X τ st (KSl3 m v l Q))
theorem f_KSl2 {m : Bool} {hi : OE} {X : EQ} {τ : Sl} {v : PV} {Q : PQ} : KSl2 m hi X τ v Q = fun l st => wpO hi X τ st (KSl3 m v l Q) := by funext l st; exact Blk_eq
noncomputable def KSl1 (m : Bool) (lo hi : OE) (X : EQ) (τ : Sl) (Q : PQ) (v : PV) (st : Store) : Prop := Blk (wpO lo X τ st (KSl2 m hi X τ v Q))
theorem f_KSl1 {m : Bool} {lo : OE} {hi : OE} {X : EQ} {τ : Sl} {Q : PQ} : KSl1 m lo hi X τ Q = fun v st => wpO lo X τ st (KSl2 m hi X τ v Q) := by funext v st; exact Blk_eq
noncomputable def KCall (sp : PSpec) (X : EQ) (Q : PQ) (vs : List PV) (st : Store) : Prop := Blk (callS sp vs st X Q)
theorem f_KCall {sp : PSpec} {X : EQ} {Q : PQ} : KCall sp X Q = fun vs st => callS sp vs st X Q := by funext vs st; exact Blk_eq
noncomputable def KCk2 (vs : List PV) (sp : PSpec) (X : EQ) (Q : PQ) (v : PV) (st : Store) : Prop := Blk (callS sp (vs ++ [v]) st X Q)
theorem f_KCk2 {vs : List PV} {sp : PSpec} {X : EQ} {Q : PQ} : KCk2 vs sp X Q = fun v st => callS sp (vs ++ [v]) st X Q := by funext v st; exact Blk_eq
noncomputable def KCk1 (ek : E) (sp : PSpec) (X : EQ) (τ : Sl) (Q : PQ) (vs : List PV) (st : Store) : Prop := Blk (wpE ek X τ st (KCk2 vs sp X Q))
theorem f_KCk1 {ek : E} {sp : PSpec} {X : EQ} {τ : Sl} {Q : PQ} : KCk1 ek sp X τ Q = fun vs st => wpE ek X τ st (KCk2 vs sp X Q) := by funext vs st; exact Blk_eq
noncomputable def KRs (c : Str) (τ : Sl) (D : PEnds) (vs : List PV) (st : Store) : Prop := Blk (∃ v, vs = [v] ∧ raiseOk c v ∧ D.ex (c, [(fldOf c, v)]) τ st)
theorem f_KRs {c : Str} {τ : Sl} {D : PEnds} : KRs c τ D = fun vs st => ∃ v, vs = [v] ∧ raiseOk c v ∧ D.ex (c, [(fldOf c, v)]) τ st := by funext vs st; exact Blk_eq
theorem KRs_one {c : Str} {τ : Sl} {D : PEnds} {v : PV} {st : Store} : KRs c τ D [v] st = (raiseOk c v ∧ D.ex (c, [(fldOf c, v)]) τ st) := by
  unfold KRs
  rw [Blk_eq]
  exact propext ⟨fun ⟨w, e, h⟩ => by cases e; exact h, fun h => ⟨v, rfl, h⟩⟩
noncomputable def KBlt (f : BF) (m : Bool) (Q : PQ) (vs : List PV) (st : Store) : Prop := Blk (bltV f m vs st Q)
theorem f_KBlt {f : BF} {m : Bool} {Q : PQ} : KBlt f m Q = fun vs st => bltV f m vs st Q := by funext vs st; exact Blk_eq
noncomputable def KIsi2 (Q : PQ) (st : Store) (b : Bool) : Prop := Blk (Q (.bl b) st)
theorem f_KIsi2 {Q : PQ} {st : Store} : KIsi2 Q st = fun b => Q (.bl b) st := by funext b; exact Blk_eq
noncomputable def KIsi (ty : Str) (Q : PQ) (v : PV) (st : Store) : Prop := Blk (oP (isiV ty v) (KIsi2 Q st))
theorem f_KIsi {ty : Str} {Q : PQ} : KIsi ty Q = fun v st => oP (isiV ty v) (KIsi2 Q st) := by funext v st; exact Blk_eq
noncomputable def KMe2 (f : MF) (v : PV) (Q : PQ) (vs : List PV) (st : Store) : Prop := Blk (methV f v vs st Q)
theorem f_KMe2 {f : MF} {v : PV} {Q : PQ} : KMe2 f v Q = fun vs st => methV f v vs st Q := by funext vs st; exact Blk_eq
noncomputable def KMe1 (f : MF) (es : Es) (X : EQ) (τ : Sl) (Q : PQ) (v : PV) (st : Store) : Prop := Blk (isLst st v ∧ wpEs es X τ st (KMe2 f v Q))
theorem f_KMe1 {f : MF} {es : Es} {X : EQ} {τ : Sl} {Q : PQ} : KMe1 f es X τ Q = fun v st => isLst st v ∧ wpEs es X τ st (KMe2 f v Q) := by funext v st; exact Blk_eq
noncomputable def KComp2 (m : Bool) (Q : PQ) (acc : List PV) (st : Store) : Prop := Blk (newList m acc st Q)
theorem f_KComp2 {m : Bool} {Q : PQ} : KComp2 m Q = fun acc st => newList m acc st Q := by funext acc st; exact Blk_eq
noncomputable def KComp (m : Bool) (vs : List Nat) (tg : TG) (r : Bool) (ts : Ts) (elt : E) (τ : Sl) (Q : PQ) (xs : List PV) (ok : Store → Prop) (st : Store) : Prop := Blk ((r = true → xs.length ≤ sizeLine) ∧ ok st ∧ lcL tg (wpTs .And ts fun _ _ => False) (wpE elt fun _ _ => False) (wipeS τ vs) (KComp2 m Q) xs st [])
theorem f_KComp {m : Bool} {vs : List Nat} {tg : TG} {r : Bool} {ts : Ts} {elt : E} {τ : Sl} {Q : PQ} : KComp m vs tg r ts elt τ Q = fun xs ok st => (r = true → xs.length ≤ sizeLine) ∧ ok st ∧ lcL tg (wpTs .And ts fun _ _ => False) (wpE elt fun _ _ => False) (wipeS τ vs) (KComp2 m Q) xs st [] := by funext xs ok st; exact Blk_eq
noncomputable def KEs2 (v : PV) (Q : List PV → Store → Prop) (vs : List PV) (st : Store) : Prop := Blk (Q (v :: vs) st)
theorem f_KEs2 {v : PV} {Q : List PV → Store → Prop} : KEs2 v Q = fun vs st => Q (v :: vs) st := by funext vs st; exact Blk_eq
noncomputable def KEs1 (es : Es) (X : EQ) (τ : Sl) (Q : List PV → Store → Prop) (v : PV) (st : Store) : Prop := Blk (wpEs es X τ st (KEs2 v Q))
theorem f_KEs1 {es : Es} {X : EQ} {τ : Sl} {Q : List PV → Store → Prop} : KEs1 es X τ Q = fun v st => wpEs es X τ st (KEs2 v Q) := by funext v st; exact Blk_eq
noncomputable def KO2 (Q : Option Int → Store → Prop) (st : Store) (i : Int) : Prop := Blk (Q (some i) st)
theorem f_KO2 {Q : Option Int → Store → Prop} {st : Store} : KO2 Q st = fun i => Q (some i) st := by funext i; exact Blk_eq
noncomputable def KO (Q : Option Int → Store → Prop) (v : PV) (st : Store) : Prop := Blk (onInt v (KO2 Q st))
theorem f_KO {Q : Option Int → Store → Prop} : KO Q = fun v st => onInt v (KO2 Q st) := by funext v st; exact Blk_eq
noncomputable def KTv (Q : Bool → Store → Prop) (v : PV) (st : Store) : Prop := Blk (truV v st Q)
theorem f_KTv {Q : Bool → Store → Prop} : KTv Q = fun v st => truV v st Q := by funext v st; exact Blk_eq
noncomputable def KT4 (Q : Bool → Store → Prop) (st : Store) (k : Bool) : Prop := Blk (Q k st)
theorem f_KT4 {Q : Bool → Store → Prop} {st : Store} : KT4 Q st = fun k => Q k st := by funext k; exact Blk_eq
noncomputable def KT3 (Q : Bool → Store → Prop) (z : PV) (st : Store) : Prop := Blk (onBl z (KT4 Q st))
theorem f_KT3 {Q : Bool → Store → Prop} : KT3 Q = fun z st => onBl z (KT4 Q st) := by funext z st; exact Blk_eq
noncomputable def KT2 (o : CmpOp) (v : PV) (Q : Bool → Store → Prop) (w : PV) (st : Store) : Prop := Blk (cmpV o v w st (KT3 Q))
theorem f_KT2 {o : CmpOp} {v : PV} {Q : Bool → Store → Prop} : KT2 o v Q = fun w st => cmpV o v w st (KT3 Q) := by funext w st; exact Blk_eq
noncomputable def KT1 (o : CmpOp) (b : E) (X : EQ) (τ : Sl) (Q : Bool → Store → Prop) (v : PV) (st : Store) : Prop := Blk (wpE b X τ st (KT2 o v Q))
theorem f_KT1 {o : CmpOp} {b : E} {X : EQ} {τ : Sl} {Q : Bool → Store → Prop} : KT1 o b X τ Q = fun v st => wpE b X τ st (KT2 o v Q) := by funext v st; exact Blk_eq
noncomputable def KTc4 (o : CmpOp) (c : E) (X : EQ) (τ : Sl) (w : PV) (Q : Bool → Store → Prop) (st : Store) (k : Bool) : Prop := Blk (if k = true then wpE c X τ st (KT2 o w Q) else Q false st)
theorem f_KTc4 {o : CmpOp} {c : E} {X : EQ} {τ : Sl} {w : PV} {Q : Bool → Store → Prop} {st : Store} : KTc4 o c X τ w Q st = fun k => if k = true then wpE c X τ st (KT2 o w Q) else Q false st := by funext k; exact Blk_eq
noncomputable def KTc3 (o : CmpOp) (c : E) (X : EQ) (τ : Sl) (w : PV) (Q : Bool → Store → Prop) (z : PV) (st : Store) : Prop := Blk (onBl z (KTc4 o c X τ w Q st))
theorem f_KTc3 {o : CmpOp} {c : E} {X : EQ} {τ : Sl} {w : PV} {Q : Bool → Store → Prop} : KTc3 o c X τ w Q = fun z st => onBl z (KTc4 o c X τ w Q st) := by funext z st; exact Blk_eq
noncomputable def KTc2 (o o' : CmpOp) (c : E) (X : EQ) (τ : Sl) (v : PV) (Q : Bool → Store → Prop) (w : PV) (st : Store) : Prop := Blk (cmpV o v w st (KTc3 o' c X τ w Q))
theorem f_KTc2 {o : CmpOp} {o' : CmpOp} {c : E} {X : EQ} {τ : Sl} {v : PV} {Q : Bool → Store → Prop} : KTc2 o o' c X τ v Q = fun w st => cmpV o v w st (KTc3 o' c X τ w Q) := by funext w st; exact Blk_eq
noncomputable def KTc1 (o o' : CmpOp) (b c : E) (X : EQ) (τ : Sl) (Q : Bool → Store → Prop) (v : PV) (st : Store) : Prop := Blk (wpE b X τ st (KTc2 o o' c X τ v Q))
theorem f_KTc1 {o : CmpOp} {o' : CmpOp} {b : E} {c : E} {X : EQ} {τ : Sl} {Q : Bool → Store → Prop} : KTc1 o o' b c X τ Q = fun v st => wpE b X τ st (KTc2 o o' c X τ v Q) := by funext v st; exact Blk_eq
noncomputable def KTn (Q : Bool → Store → Prop) (k : Bool) (st : Store) : Prop := Blk (Q (!k) st)
theorem f_KTn {Q : Bool → Store → Prop} : KTn Q = fun k st => Q (!k) st := by funext k st; exact Blk_eq
noncomputable def KTs (o : BoolOp) (ts : Ts) (X : EQ) (τ : Sl) (Q : Bool → Store → Prop) (k : Bool) (st : Store) : Prop := Blk (match o with | .And => if k = true then wpTs .And ts X τ st Q else Q false st | .Or => if k = true then Q true st else wpTs .Or ts X τ st Q)
theorem f_KTs {o : BoolOp} {ts : Ts} {X : EQ} {τ : Sl} {Q : Bool → Store → Prop} : KTs o ts X τ Q = fun k st => match o with | .And => if k = true then wpTs .And ts X τ st Q else Q false st | .Or => if k = true then Q true st else wpTs .Or ts X τ st Q := by funext k st; exact Blk_eq
noncomputable def KTi (a b : T) (X : EQ) (τ : Sl) (Q : Bool → Store → Prop) (k : Bool) (st : Store) : Prop := Blk (if k = true then wpT a X τ st Q else wpT b X τ st Q)
theorem f_KTi {a : T} {b : T} {X : EQ} {τ : Sl} {Q : Bool → Store → Prop} : KTi a b X τ Q = fun k st => if k = true then wpT a X τ st Q else wpT b X τ st Q := by funext k st; exact Blk_eq
noncomputable def KI1 (Q : List PV → (Store → Prop) → Store → Prop) (v : PV) (st : Store) : Prop := Blk (itV0 v st Q)
theorem f_KI1 {Q : List PV → (Store → Prop) → Store → Prop} : KI1 Q = fun v st => itV0 v st Q := by funext v st; exact Blk_eq
noncomputable def KR12 (Q : List PV → (Store → Prop) → Store → Prop) (st : Store) (j : Int) : Prop := Blk (R62 j ∧ Q (rngL 0 j.toNat) (fun _ => True) st)
theorem f_KR12 {Q : List PV → (Store → Prop) → Store → Prop} {st : Store} : KR12 Q st = fun j => R62 j ∧ Q (rngL 0 j.toNat) (fun _ => True) st := by funext j; exact Blk_eq
noncomputable def KR1 (Q : List PV → (Store → Prop) → Store → Prop) (v : PV) (st : Store) : Prop := Blk (onInt v (KR12 Q st))
theorem f_KR1 {Q : List PV → (Store → Prop) → Store → Prop} : KR1 Q = fun v st => onInt v (KR12 Q st) := by funext v st; exact Blk_eq
noncomputable def KR2d (Q : List PV → (Store → Prop) → Store → Prop) (st : Store) (i j : Int) : Prop := Blk (R62 i ∧ R62 j ∧ Q (rngL i (j - i).toNat) (fun _ => True) st)
theorem f_KR2d {Q : List PV → (Store → Prop) → Store → Prop} {st : Store} {i : Int} : KR2d Q st i = fun j => R62 i ∧ R62 j ∧ Q (rngL i (j - i).toNat) (fun _ => True) st := by funext j; exact Blk_eq
noncomputable def KR2c (Q : List PV → (Store → Prop) → Store → Prop) (st : Store) (w : PV) (i : Int) : Prop := Blk (onInt w (KR2d Q st i))
theorem f_KR2c {Q : List PV → (Store → Prop) → Store → Prop} {st : Store} {w : PV} : KR2c Q st w = fun i => onInt w (KR2d Q st i) := by funext i; exact Blk_eq
noncomputable def KR2b (v : PV) (Q : List PV → (Store → Prop) → Store → Prop) (w : PV) (st : Store) : Prop := Blk (onInt v (KR2c Q st w))
theorem f_KR2b {v : PV} {Q : List PV → (Store → Prop) → Store → Prop} : KR2b v Q = fun w st => onInt v (KR2c Q st w) := by funext w st; exact Blk_eq
noncomputable def KR2a (b : E) (X : EQ) (τ : Sl) (Q : List PV → (Store → Prop) → Store → Prop) (v : PV) (st : Store) : Prop := Blk (wpE b X τ st (KR2b v Q))
theorem f_KR2a {b : E} {X : EQ} {τ : Sl} {Q : List PV → (Store → Prop) → Store → Prop} : KR2a b X τ Q = fun v st => wpE b X τ st (KR2b v Q) := by funext v st; exact Blk_eq
noncomputable def KEn (Q : List PV → (Store → Prop) → Store → Prop) (v : PV) (st : Store) : Prop := Blk (itV (enumL 0) v st Q)
theorem f_KEn {Q : List PV → (Store → Prop) → Store → Prop} : KEn Q = fun v st => itV (enumL 0) v st Q := by funext v st; exact Blk_eq
noncomputable def KZ2 (v : PV) (Q : List PV → (Store → Prop) → Store → Prop) (w : PV) (st : Store) : Prop := Blk (zipV v w st Q)
theorem f_KZ2 {v : PV} {Q : List PV → (Store → Prop) → Store → Prop} : KZ2 v Q = fun w st => zipV v w st Q := by funext w st; exact Blk_eq
noncomputable def KZ1 (b : E) (X : EQ) (τ : Sl) (Q : List PV → (Store → Prop) → Store → Prop) (v : PV) (st : Store) : Prop := Blk (wpE b X τ st (KZ2 v Q))
theorem f_KZ1 {b : E} {X : EQ} {τ : Sl} {Q : List PV → (Store → Prop) → Store → Prop} : KZ1 b X τ Q = fun v st => wpE b X τ st (KZ2 v Q) := by funext v st; exact Blk_eq
noncomputable def KNx (D : PEnds) (st : Store) (τ : Sl) : Prop := Blk (D.nx τ st)
theorem f_KNx {D : PEnds} {st : Store} : KNx D st = fun τ => D.nx τ st := by funext τ; exact Blk_eq
noncomputable def KAsg (tg : TG) (τ : Sl) (D : PEnds) (v : PV) (st : Store) : Prop := Blk (oP (tg.asg v τ) (KNx D st))
theorem f_KAsg {tg : TG} {τ : Sl} {D : PEnds} : KAsg tg τ D = fun v st => oP (tg.asg v τ) (KNx D st) := by funext v st; exact Blk_eq
noncomputable def KAsgN (i : Nat) (τ : Sl) (D : PEnds) (v : PV) (st : Store) : Prop := Blk (D.nx (setS τ i (some v)) st)
theorem f_KAsgN {i : Nat} {τ : Sl} {D : PEnds} : KAsgN i τ D = fun v st => D.nx (setS τ i (some v)) st := by funext v st; exact Blk_eq
noncomputable def KSx4 (τ : Sl) (D : PEnds) (st : Store) : Prop := Blk (D.nx τ st)
theorem f_KSx4 {τ : Sl} {D : PEnds} : KSx4 τ D = fun st => D.nx τ st := by funext st; exact Blk_eq
noncomputable def KSx3 (v ov : PV) (τ : Sl) (D : PEnds) (iv : PV) (st : Store) : Prop := Blk (setIxV ov iv v st (KSx4 τ D))
theorem f_KSx3 {v : PV} {ov : PV} {τ : Sl} {D : PEnds} : KSx3 v ov τ D = fun iv st => setIxV ov iv v st (KSx4 τ D) := by funext iv st; exact Blk_eq
noncomputable def KSx2 (v : PV) (i : E) (τ : Sl) (D : PEnds) (ov : PV) (st : Store) : Prop := Blk (wpE i (KEx D τ) τ st (KSx3 v ov τ D))
theorem f_KSx2 {v : PV} {i : E} {τ : Sl} {D : PEnds} : KSx2 v i τ D = fun ov st => wpE i (KEx D τ) τ st (KSx3 v ov τ D) := by funext ov st; exact Blk_eq
noncomputable def KSx1 (o i : E) (τ : Sl) (D : PEnds) (v : PV) (st : Store) : Prop := Blk (wpE o (KEx D τ) τ st (KSx2 v i τ D))
theorem f_KSx1 {o : E} {i : E} {τ : Sl} {D : PEnds} : KSx1 o i τ D = fun v st => wpE o (KEx D τ) τ st (KSx2 v i τ D) := by funext v st; exact Blk_eq
noncomputable def KAug2 (i : Nat) (o : Operator) (v : PV) (τ : Sl) (D : PEnds) (w : PV) (st : Store) : Prop := Blk (augV o v w st (KAsgN i τ D))
theorem f_KAug2 {i : Nat} {o : Operator} {v : PV} {τ : Sl} {D : PEnds} : KAug2 i o v τ D = fun w st => augV o v w st (KAsgN i τ D) := by funext w st; exact Blk_eq
noncomputable def KAug1 (i : Nat) (o : Operator) (e : E) (τ : Sl) (D : PEnds) (st : Store) (v : PV) : Prop := Blk (wpE e (KEx D τ) τ st (KAug2 i o v τ D))
theorem f_KAug1 {i : Nat} {o : Operator} {e : E} {τ : Sl} {D : PEnds} {st : Store} : KAug1 i o e τ D st = fun v => wpE e (KEx D τ) τ st (KAug2 i o v τ D) := by funext v; exact Blk_eq
noncomputable def KExpr (τ : Sl) (D : PEnds) (v : PV) (st : Store) : Prop := Blk (D.nx τ st)
theorem f_KExpr {τ : Sl} {D : PEnds} : KExpr τ D = fun v st => D.nx τ st := by funext v st; exact Blk_eq
noncomputable def KArm (a b : Ss) (τ : Sl) (D : PEnds) (k : Bool) (st : Store) : Prop := Blk (if k = true then Arm a D τ st else Arm b D τ st)
theorem f_KArm {a : Ss} {b : Ss} {τ : Sl} {D : PEnds} : KArm a b τ D = fun k st => if k = true then Arm a D τ st else Arm b D τ st := by funext k st; exact Blk_eq
noncomputable def KLoop (tg : TG) (b : Ss) (τ : Sl) (D : PEnds) (xs : List PV) (ok : Store → Prop) (st : Store) : Prop := Blk (forL tg (wpSs b) ok xs D τ st)
theorem f_KLoop {tg : TG} {b : Ss} {τ : Sl} {D : PEnds} : KLoop tg b τ D = fun xs ok st => forL tg (wpSs b) ok xs D τ st := by funext xs ok st; exact Blk_eq
noncomputable def KWt (t : T) (D : PEnds) (τ : Sl) (st : Store) (Q : Bool → Store → Prop) : Prop := Blk (wpT t (KEx D τ) τ st Q)
theorem f_KWt {t : T} {D : PEnds} : KWt t D = fun τ st Q => wpT t (KEx D τ) τ st Q := by funext τ st Q; exact Blk_eq
section
variable {X : EQ} {τ : Sl} {st : Store} {Q : PQ}
theorem e_var {i : Nat} : wpE (.var i) X τ st Q = oP (getS τ i) (KV st Q) := rfl
theorem e_fvar {i : Nat} : wpE (.fvar i) X τ st Q = oP (getS τ i) (KF st Q) := by first | (simp only [f_KF]; done) | (simp only [f_KF]; rfl)
theorem e_int {n : Int} : wpE (.int n) X τ st Q = Q (.int n) st := rfl
theorem e_bl {n : Bool} : wpE (.bl n) X τ st Q = Q (.bl n) st := rfl
theorem e_non  : wpE .non X τ st Q = Q .non st := rfl
theorem e_str {n : Str} : wpE (.str n) X τ st Q = Q (.str n) st := rfl
theorem e_glob {n : Str} {v : PV} : wpE (.glob n v) X τ st Q = Q v st := rfl
theorem e_bin {o : Operator} {m : Bool} {a b : E} : wpE (.bin o m a b) X τ st Q = wpE a X τ st (KBin1 o m b X τ Q) := by first | (simp only [f_KBin1, f_KBin2]; done) | (simp only [f_KBin1, f_KBin2]; rfl)
theorem e_neg {a : E} : wpE (.neg a) X τ st Q = wpE a X τ st (KNeg Q) := by first | (simp only [f_KNeg]; done) | (simp only [f_KNeg]; rfl)
theorem e_un {f : UF} {a : E} : wpE (.un f a) X τ st Q = wpE a X τ st (KUn f Q) := by first | (simp only [f_KUn]; done) | (simp only [f_KUn]; rfl)
theorem e_not {a : E} : wpE (.not a) X τ st Q = wpE a X τ st (KNot Q) := by first | (simp only [f_KNot, f_KNot2]; done) | (simp only [f_KNot, f_KNot2]; rfl)
theorem e_cmp {o : CmpOp} {a b : E} : wpE (.cmp o a b) X τ st Q = wpE a X τ st (KCmp1 o b X τ Q) := by first | (simp only [f_KCmp1, f_KCmp2]; done) | (simp only [f_KCmp1, f_KCmp2]; rfl)
theorem e_chain {o o' : CmpOp} {a b c : E} : wpE (.chain o o' a b c) X τ st Q = wpE a X τ st (KCh1 o o' b c X τ Q) := by first | (simp only [f_KCh1, f_KCh2, f_KCh3, f_KCh4, f_KCmp2]; done) | (simp only [f_KCh1, f_KCh2, f_KCh3, f_KCh4, f_KCmp2]; rfl)
theorem e_bools {o : BoolOp} {es : Es} : wpE (.bools o es) X τ st Q = wpBs o es X τ st Q := rfl
theorem e_ite {t : T} {a b : E} : wpE (.ite t a b) X τ st Q = wpT t X τ st (KIf a b X τ Q) := by first | (simp only [f_KIf]; done) | (simp only [f_KIf]; rfl)
theorem e_tup {es : Es} : wpE (.tup es) X τ st Q = wpEs es X τ st (KTup Q) := by first | (simp only [f_KTup]; done) | (simp only [f_KTup]; rfl)
theorem e_lst {m : Bool} {es : Es} : wpE (.lst m es) X τ st Q = wpEs es X τ st (KLst m Q) := by first | (simp only [f_KLst]; done) | (simp only [f_KLst]; rfl)
theorem e_idx {a i : E} : wpE (.idx a i) X τ st Q = wpE a X τ st (KIdx1 i X τ Q) := by first | (simp only [f_KIdx1, f_KIdx2]; done) | (simp only [f_KIdx1, f_KIdx2]; rfl)
theorem e_slice {m : Bool} {a : E} {lo hi : OE} : wpE (.slice m a lo hi) X τ st Q = wpE a X τ st (KSl1 m lo hi X τ Q) := by first | (simp only [f_KSl1, f_KSl2, f_KSl3]; done) | (simp only [f_KSl1, f_KSl2, f_KSl3]; rfl)
theorem e_call {f : Str} {sp : PSpec} {es : Es} : wpE (.call f sp es) X τ st Q = wpEs es X τ st (KCall sp X Q) := by first | (simp only [f_KCall]; done) | (simp only [f_KCall]; rfl)
theorem e_callK {f ks : Str} {sp : PSpec} {es : Es} {ek : E} : wpE (.callK f ks sp es ek) X τ st Q = wpEs es X τ st (KCk1 ek sp X τ Q) := by first | (simp only [f_KCk1, f_KCk2]; done) | (simp only [f_KCk1, f_KCk2]; rfl)
theorem e_blt {f : BF} {m : Bool} {es : Es} : wpE (.blt f m es) X τ st Q = wpEs es X τ st (KBlt f m Q) := by first | (simp only [f_KBlt]; done) | (simp only [f_KBlt]; rfl)
theorem e_isi {e : E} {ty : Str} : wpE (.isi e ty) X τ st Q = wpE e X τ st (KIsi ty Q) := by first | (simp only [f_KIsi, f_KIsi2]; done) | (simp only [f_KIsi, f_KIsi2]; rfl)
theorem e_meth {f : MF} {o : E} {es : Es} : wpE (.meth f o es) X τ st Q = wpE o X τ st (KMe1 f es X τ Q) := by first | (simp only [f_KMe1, f_KMe2]; done) | (simp only [f_KMe1, f_KMe2]; rfl)
theorem e_comp {m : Bool} {vs : List Nat} {tg : TG} {it : I} {ts : Ts} {elt : E} : wpE (.comp m vs tg it ts elt) X τ st Q = wpI it X τ st (KComp m vs tg it.isR ts elt τ Q) := by first | (simp only [f_KComp, f_KComp2]; done) | (simp only [f_KComp, f_KComp2]; rfl)
theorem es_nil {R : List PV → Store → Prop} : wpEs .nil X τ st R = R [] st := rfl
theorem es_cons {e : E} {es : Es} {R : List PV → Store → Prop} : wpEs (.cons e es) X τ st R = wpE e X τ st (KEs1 es X τ R) := by first | (simp only [f_KEs1, f_KEs2]; done) | (simp only [f_KEs1, f_KEs2]; rfl)
theorem bs_one {o : BoolOp} {e : E} : wpBs o (.cons e .nil) X τ st Q = wpE e X τ st Q := rfl
theorem bs_and {e e' : E} {es : Es} : wpBs .And (.cons e (.cons e' es)) X τ st Q = wpE e X τ st (KBs .And (.cons e' es) X τ Q) := by first | (simp only [f_KBs, f_KBs2]; done) | (simp only [f_KBs, f_KBs2]; rfl)
theorem bs_or {e e' : E} {es : Es} : wpBs .Or (.cons e (.cons e' es)) X τ st Q = wpE e X τ st (KBs .Or (.cons e' es) X τ Q) := by first | (simp only [f_KBs, f_KBs2]; done) | (simp only [f_KBs, f_KBs2]; rfl)
theorem o_no {R : Option Int → Store → Prop} : wpO .no X τ st R = R none st := rfl
theorem o_yes {e : E} {R : Option Int → Store → Prop} : wpO (.yes e) X τ st R = wpE e X τ st (KO R) := by first | (simp only [f_KO, f_KO2]; done) | (simp only [f_KO, f_KO2]; rfl)
theorem t_val {e : E} {R : Bool → Store → Prop} : wpT (.val e) X τ st R = wpE e X τ st (KTv R) := by first | (simp only [f_KTv]; done) | (simp only [f_KTv]; rfl)
theorem t_cmp {o : CmpOp} {a b : E} {R : Bool → Store → Prop} : wpT (.cmp o a b) X τ st R = wpE a X τ st (KT1 o b X τ R) := by first | (simp only [f_KT1, f_KT2, f_KT3, f_KT4]; done) | (simp only [f_KT1, f_KT2, f_KT3, f_KT4]; rfl)
theorem t_chain {o o' : CmpOp} {a b c : E} {R : Bool → Store → Prop} : wpT (.chain o o' a b c) X τ st R = wpE a X τ st (KTc1 o o' b c X τ R) := by first | (simp only [f_KT2, f_KT3, f_KT4, f_KTc1, f_KTc2, f_KTc3, f_KTc4]; done) | (simp only [f_KT2, f_KT3, f_KT4, f_KTc1, f_KTc2, f_KTc3, f_KTc4]; rfl)
theorem t_not {t : T} {R : Bool → Store → Prop} : wpT (.not t) X τ st R = wpT t X τ st (KTn R) := by first | (simp only [f_KTn]; done) | (simp only [f_KTn]; rfl)
theorem t_bools {o : BoolOp} {ts : Ts} {R : Bool → Store → Prop} : wpT (.bools o ts) X τ st R = wpTs o ts X τ st R := rfl
theorem t_ite {t a b : T} {R : Bool → Store → Prop} : wpT (.ite t a b) X τ st R = wpT t X τ st (KTi a b X τ R) := by first | (simp only [f_KTi]; done) | (simp only [f_KTi]; rfl)
theorem ts_nilA {R : Bool → Store → Prop} : wpTs .And .nil X τ st R = R true st := rfl
theorem ts_nilO {R : Bool → Store → Prop} : wpTs .Or .nil X τ st R = R false st := rfl
theorem ts_and {t : T} {ts : Ts} {R : Bool → Store → Prop} : wpTs .And (.cons t ts) X τ st R = wpT t X τ st (KTs .And ts X τ R) := by first | (simp only [f_KTs]; done) | (simp only [f_KTs]; rfl)
theorem ts_or {t : T} {ts : Ts} {R : Bool → Store → Prop} : wpTs .Or (.cons t ts) X τ st R = wpT t X τ st (KTs .Or ts X τ R) := by first | (simp only [f_KTs]; done) | (simp only [f_KTs]; rfl)
theorem i_val {e : E} {R : List PV → (Store → Prop) → Store → Prop} : wpI (.val e) X τ st R = wpE e X τ st (KI1 R) := by first | (simp only [f_KI1]; done) | (simp only [f_KI1]; rfl)
theorem i_r1 {e : E} {R : List PV → (Store → Prop) → Store → Prop} : wpI (.range1 e) X τ st R = wpE e X τ st (KR1 R) := by first | (simp only [f_KR1, f_KR12]; done) | (simp only [f_KR1, f_KR12]; rfl)
theorem i_r2 {a b : E} {R : List PV → (Store → Prop) → Store → Prop} : wpI (.range2 a b) X τ st R = wpE a X τ st (KR2a b X τ R) := by first | (simp only [f_KR2a, f_KR2b, f_KR2c, f_KR2d]; done) | (simp only [f_KR2a, f_KR2b, f_KR2c, f_KR2d]; rfl)
theorem i_en {e : E} {R : List PV → (Store → Prop) → Store → Prop} : wpI (.enum e) X τ st R = wpE e X τ st (KEn R) := by first | (simp only [f_KEn]; done) | (simp only [f_KEn]; rfl)
theorem i_zip {a b : E} {R : List PV → (Store → Prop) → Store → Prop} : wpI (.zip a b) X τ st R = wpE a X τ st (KZ1 b X τ R) := by first | (simp only [f_KZ1, f_KZ2]; done) | (simp only [f_KZ1, f_KZ2]; rfl)
end
section
variable {D : PEnds} {τ : Sl} {st : Store}
theorem s_asgN {i : Nat} {e : E} : wpS (.asg (.name i) e) D τ st = wpE e (KEx D τ) τ st (KAsgN i τ D) := by first | (simp only [f_KAsgN]; done) | (simp only [f_KAsgN]; rfl)
theorem s_asgT {ts : TGs} {e : E} : wpS (.asg (.tup ts) e) D τ st = wpE e (KEx D τ) τ st (KAsg (.tup ts) τ D) := by first | (simp only [f_KAsg, f_KNx]; done) | (simp only [f_KAsg, f_KNx]; rfl)
theorem s_asgLc {i : Nat} {e : E} : wpS (.asgLc i e) D τ st = wpE e (KEx D τ) τ st (KAsgN i τ D) := by first | (simp only [f_KAsgN]; done) | (simp only [f_KAsgN]; rfl)
theorem s_setIx {o i e : E} : wpS (.setIx o i e) D τ st = wpE e (KEx D τ) τ st (KSx1 o i τ D) := by first | (simp only [f_KSx1, f_KSx2, f_KSx3, f_KSx4]; done) | (simp only [f_KSx1, f_KSx2, f_KSx3, f_KSx4]; rfl)
theorem s_aug {i : Nat} {o : Operator} {e : E} : wpS (.aug i o e) D τ st = oP (getS τ i) (KAug1 i o e τ D st) := by first | (simp only [f_KAsgN, f_KAug1, f_KAug2]; done) | (simp only [f_KAsgN, f_KAug1, f_KAug2]; rfl)
theorem s_expr {e : E} : wpS (.expr e) D τ st = wpE e (KEx D τ) τ st (KExpr τ D) := by first | (simp only [f_KExpr]; done) | (simp only [f_KExpr]; rfl)
theorem s_ret {e : E} : wpS (.ret e) D τ st = wpE e (KEx D τ) τ st D.rt := rfl
theorem s_retN  : wpS .retN D τ st = D.rt .non st := rfl
theorem s_ite {t : T} {a b : Ss} : wpS (.ite t a b) D τ st = wpT t (KEx D τ) τ st (KArm a b τ D) := by
  have e : KArm a b τ D = fun k st1 => if k = true then wpSs a D τ st1 else wpSs b D τ st1 := by
    funext k st1; unfold KArm; rw [Blk_eq, Arm_eq, Arm_eq]
  rw [e]; rfl
theorem s_loop {tg : TG} {it : I} {b : Ss} : wpS (.loop tg it b) D τ st = wpI it (KEx D τ) τ st (KLoop tg b τ D) := by first | (simp only [f_KLoop]; done) | (simp only [f_KLoop]; rfl)
theorem s_while {t : T} {b : Ss} : wpS (.while t b) D τ st = whileL (KWt t D) (wpSs b) D τ st := by first | (simp only [f_KWt]; done) | (simp only [f_KWt]; rfl)
theorem s_raise {c : Str} {es : Es} : wpS (.raise c es) D τ st = wpEs es (KEx D τ) τ st (KRs c τ D) := by first | (simp only [f_KRs]; done) | (simp only [f_KRs]; rfl)
theorem s_try {b : Ss} {c : Str} {i : Nat} {h : XE} : wpS (.tryX b c i h) D τ st = Nx b (D.tr c i h) τ st := by rw [Nx_eq]; rfl
theorem s_pass  : wpS .pass D τ st = D.nx τ st := rfl
theorem s_brk  : wpS .brk D τ st = D.bk τ st := rfl
theorem s_cont  : wpS .cont D τ st = D.ct τ st := rfl
end
theorem ex_fn {Q : PQ} {X : EQ} {e : Exn} {τ : Sl} {s : Store} : (fnEnds Q X).ex e τ s = ∃ s0, Sub s0 s ∧ X e s0 := rfl
theorem kex_fn {Q : PQ} {X : EQ} {e : Exn} {τ : Sl} {s : Store} (h : X e s) : KEx (fnEnds Q X) τ e s := ⟨s, .rfl, h⟩
theorem kex_tr {D : PEnds} {c : Str} {i : Nat} {h : XE} {τ : Sl} {e : Exn} {st : Store} (hm : e.1 ∈ excNames) (hs : subC e.1 c = true) (hg : getS τ i = none) (hl : i < τ.length) (hw : wpX h e τ fun v => D.rt v st) : KEx (D.tr c i h) τ e st :=
  ⟨hm, by rw [hs]; exact ⟨hg, hl, hw⟩⟩
theorem rt_fn {Q : PQ} {X : EQ} {v : PV} {s : Store} : (fnEnds Q X).rt v s = ∃ s0, Sub s0 s ∧ Q v s0 := rfl
theorem nx_fn {Q : PQ} {X : EQ} {τ : Sl} {s : Store} : (fnEnds Q X).nx τ s = ∃ s0, Sub s0 s ∧ Q .non s0 := rfl
theorem oP_some {α : Type} {a : α} {k : α → Prop} : oP (some a) k = k a := rfl
theorem oP_none {α : Type} {k : α → Prop} : oP none k = False := rfl
theorem onBl_eq {b : Bool} {k : Bool → Prop} : onBl (.bl b) k = k b := rfl
theorem onInt_eq {b : Int} {k : Int → Prop} : onInt (.int b) k = k b := rfl
theorem natc0 : ((0 : Nat) : Int) = 0 := rfl
theorem natc1 : ((1 : Nat) : Int) = 1 := rfl
theorem natc2 : ((2 : Nat) : Int) = 2 := rfl
theorem natc3 : ((3 : Nat) : Int) = 3 := rfl
theorem natc4 : ((4 : Nat) : Int) = 4 := rfl
theorem natc5 : ((5 : Nat) : Int) = 5 := rfl
theorem natc6 : ((6 : Nat) : Int) = 6 := rfl
theorem natc7 : ((7 : Nat) : Int) = 7 := rfl
theorem natc8 : ((8 : Nat) : Int) = 8 := rfl
theorem isNon_non : isNon .non = true := rfl
theorem isNon_int {i : Int} : isNon (.int i) = false := rfl
theorem isNon_bl {i : Bool} : isNon (.bl i) = false := rfl
theorem isNon_str {i : Str} : isNon (.str i) = false := rfl
theorem isNon_tup {i : List PV} : isNon (.tup i) = false := rfl
theorem isNon_lst {i : List PV} : isNon (.lst i) = false := rfl
theorem isNon_ref {i : Nat} : isNon (.ref i) = false := rfl
theorem getS_0 {x : Option PV} {r : Sl} : getS (x :: r) 0 = x := rfl
theorem getS_s {x : Option PV} {r : Sl} {n : Nat} : getS (x :: r) (n + 1) = getS r n := rfl
/-- an item at a number of the text -/
theorem atI_nat {α : Type} {xs : List α} {n : Nat} : atI xs (n : Int) = xs[n]? := by
  unfold atI ixN
  rw [if_pos (by omega)]
  by_cases h : n < xs.length
  · rw [if_pos (by omega)]; simp
  · rw [if_neg (by omega)]
    simp only [Option.bind_none]
    exact (List.getElem?_eq_none (by omega)).symm
theorem atI_0 {α : Type} {x : α} {r : List α} : atI (x :: r) 0 = some x := atI_nat (n := 0)
theorem atI_1 {α : Type} {x y : α} {r : List α} : atI (x :: y :: r) 1 = some y := atI_nat (n := 1)
theorem atI_2 {α : Type} {x y z : α} {r : List α} : atI (x :: y :: z :: r) 2 = some z := atI_nat (n := 2)
theorem atI_3 {α : Type} {x y z u : α} {r : List α} : atI (x :: y :: z :: u :: r) 3 = some u := atI_nat (n := 3)
theorem atI_4 {α : Type} {x y z u v : α} {r : List α} : atI (x :: y :: z :: u :: v :: r) 4 = some v := atI_nat (n := 4)
theorem atI_of {α : Type} {xs : List α} {i : Int} (h0 : 0 ≤ i) (h : i < xs.length) : atI xs i = some (xs[i.toNat]'(by omega)) := by
  obtain ⟨n, rfl⟩ := Int.eq_ofNat_of_zero_le h0
  rw [atI_nat]
  exact List.getElem?_eq_getElem _
theorem atI_int {ns : List Int} {i : Int} (h0 : 0 ≤ i) (h : i < ns.length) : atI (ns.map PV.int) i = some (.int (ns[i.toNat]'(by omega))) := by
  rw [atI_of h0 (by simpa using h)]
  simp
theorem ixN_nat {n m : Nat} (h : m < n) : ixN n (m : Int) = some m := by
  unfold ixN
  rw [if_pos (by omega), if_pos (by omega)]; simp
theorem while_ind {t : T} {b : Ss} {D : PEnds} (W : Nat → Sl → Store → Prop)
    (h : ∀ n τ st, W n τ st → wpT t (KEx D τ) τ st fun k st1 => if k = true then wpSs b (D.lp fun τ' st' => ∃ m, m < n ∧ W m τ' st') τ st1 else D.nx τ st1)
    {τ : Sl} {st : Store} (n : Nat) (h0 : W n τ st) : whileL (KWt t D) (wpSs b) D τ st := by
  rw [f_KWt]
  exact ⟨W, ⟨n, h0⟩, h⟩

theorem Arm_nil {D : PEnds} : Arm .nil D = D.nx := by funext τ st; exact Arm_eq
theorem sz_0 : (0 ≤ sizeLine) = True := eq_true (by decide)
theorem sz_1 : (1 ≤ sizeLine) = True := eq_true (by decide)
theorem sz_2 : (2 ≤ sizeLine) = True := eq_true (by decide)
theorem sz_3 : (3 ≤ sizeLine) = True := eq_true (by decide)
theorem sz_4 : (4 ≤ sizeLine) = True := eq_true (by decide)
theorem sz_5 : (5 ≤ sizeLine) = True := eq_true (by decide)
theorem sz_6 : (6 ≤ sizeLine) = True := eq_true (by decide)
theorem sz_7 : (7 ≤ sizeLine) = True := eq_true (by decide)
theorem sz_8 : (8 ≤ sizeLine) = True := eq_true (by decide)
theorem sz_9 : (9 ≤ sizeLine) = True := eq_true (by decide)
theorem sz_10 : (10 ≤ sizeLine) = True := eq_true (by decide)
theorem sz_11 : (11 ≤ sizeLine) = True := eq_true (by decide)
theorem sz_12 : (12 ≤ sizeLine) = True := eq_true (by decide)
theorem cp_2 : CPow 10 2 = True := eq_true (by unfold CPow; decide)
theorem cp_3 : CPow 10 3 = True := eq_true (by unfold CPow; decide)
theorem cp_4 : CPow 10 4 = True := eq_true (by unfold CPow; decide)
theorem cp_5 : CPow 10 5 = True := eq_true (by unfold CPow; decide)
theorem cp_6 : CPow 10 6 = True := eq_true (by unfold CPow; decide)
theorem cp_7 : CPow 10 7 = True := eq_true (by unfold CPow; decide)
theorem cp_12 : CPow 10 12 = True := eq_true (by unfold CPow; decide)
theorem cp_20 : CPow 10 20 = True := eq_true (by unfold CPow; decide)
theorem cp_30 : CPow 10 30 = True := eq_true (by unfold CPow; decide)
theorem cp_38 : CPow 10 38 = True := eq_true (by unfold CPow; decide)
theorem cp_39 : CPow 10 39 = True := eq_true (by unfold CPow; decide)
theorem cp_40 : CPow 10 40 = True := eq_true (by unfold CPow; decide)
/-! ### operations on followed lists -/
def KSet2 (a : Nat) (v : PV) (st : Store) (Q : Store → Prop) (xs : List PV) (j : Nat) : Prop := Q (up st a (some (.lst (xs.set j v))))
def KSet1 (a : Nat) (k : Int) (v : PV) (st : Store) (Q : Store → Prop) (xs : List PV) : Prop := oP (ixN xs.length k) (KSet2 a v st Q xs)
def KApp (a : Nat) (v : PV) (st : Store) (Q : PQ) (xs : List PV) : Prop := xs.length < sizeLine ∧ Q .non (up st a (some (.lst (xs ++ [v]))))
def KExt (a : Nat) (w : PV) (st : Store) (Q : PQ) (xs : List PV) : Prop := oP (extOf st w) fun ys => xs.length + ys.length ≤ sizeLine ∧ Q .non (up st a (some (.lst (xs ++ ys))))
def KPop (a : Nat) (st : Store) (Q : PQ) (xs : List PV) : Prop := oP (xs[xs.length - 1]?) fun y => Q y (up st a (some (.lst xs.dropLast)))
def KAddL (m : Bool) (w : PV) (st : Store) (Q : PQ) (xs : List PV) : Prop := oP (lstOf st w) fun ys => xs.length + ys.length ≤ sizeLine ∧ newList m (xs ++ ys) st Q
def KCut (m : Bool) (lo hi : Option Int) (st : Store) (Q : PQ) (xs : List PV) : Prop := newList m (cutP xs lo hi) st Q
def KTru (st : Store) (Q : Bool → Store → Prop) (xs : List PV) : Prop := Q (!xs.isEmpty) st
theorem lstOf_ref {st : Store} {a : Nat} {xs : List PV} : lstOf st (.ref a) = some xs ↔ st a = some (.lst xs) := by
  show (match st a with
    | some (.lst xs) => some xs
    | _ => none) = some xs ↔ _
  cases h : st a with
  | none => simp
  | some c => cases c <;> simp
theorem oP_iff {α : Type} {o : Option α} {k : α → Prop} : oP o k ↔ ∃ a, o = some a ∧ k a := by
  cases o with
  | none => simp [oP]
  | some a => simp [oP]
theorem v_set {a : Nat} {k : Int} {v : PV} {st : Store} {Q : Store → Prop} : setIxV (.ref a) (.int k) v st Q = oP (lstOf st (.ref a)) (KSet1 a k v st Q) := by
  refine propext ⟨fun ⟨xs, j, h1, h2, h3⟩ => oP_iff.mpr ⟨xs, lstOf_ref.mpr h1, oP_iff.mpr ⟨j, h2, h3⟩⟩, fun h => ?_⟩
  obtain ⟨xs, h1, h2⟩ := oP_iff.mp h
  obtain ⟨j, h2, h3⟩ := oP_iff.mp h2
  exact ⟨xs, j, lstOf_ref.mp h1, h2, h3⟩
theorem v_app {a : Nat} {v : PV} {st : Store} {Q : PQ} : methV .append (.ref a) [v] st Q = oP (lstOf st (.ref a)) (KApp a v st Q) := by
  refine propext ⟨fun ⟨xs, h1, h2⟩ => oP_iff.mpr ⟨xs, lstOf_ref.mpr h1, h2⟩, fun h => ?_⟩
  obtain ⟨xs, h1, h2⟩ := oP_iff.mp h
  exact ⟨xs, lstOf_ref.mp h1, h2⟩
theorem v_ext {a : Nat} {w : PV} {st : Store} {Q : PQ} : methV .extend (.ref a) [w] st Q = oP (lstOf st (.ref a)) (KExt a w st Q) := by
  refine propext ⟨fun ⟨xs, ys, h1, h2, h3⟩ => oP_iff.mpr ⟨xs, lstOf_ref.mpr h1, oP_iff.mpr ⟨ys, h2, h3⟩⟩, fun h => ?_⟩
  obtain ⟨xs, h1, h2⟩ := oP_iff.mp h
  obtain ⟨ys, h2, h3⟩ := oP_iff.mp h2
  exact ⟨xs, ys, lstOf_ref.mp h1, h2, h3⟩
theorem v_pop {a : Nat} {st : Store} {Q : PQ} : methV .pop (.ref a) [] st Q = oP (lstOf st (.ref a)) (KPop a st Q) := by
  refine propext ⟨fun ⟨xs, ys, h1, h2, h3⟩ => oP_iff.mpr ⟨xs, lstOf_ref.mpr h1, oP_iff.mpr ⟨ys, h2, h3⟩⟩, fun h => ?_⟩
  obtain ⟨xs, h1, h2⟩ := oP_iff.mp h
  obtain ⟨ys, h2, h3⟩ := oP_iff.mp h2
  exact ⟨xs, ys, lstOf_ref.mp h1, h2, h3⟩
theorem v_addRL {m : Bool} {a : Nat} {ys : List PV} {st : Store} {Q : PQ} : binV .Add m (.ref a) (.lst ys) st Q = oP (lstOf st (.ref a)) (KAddL m (.lst ys) st Q) := by
  refine propext ⟨fun ⟨xs, h1, h2⟩ => oP_iff.mpr ⟨xs, lstOf_ref.mpr h1, h2⟩, fun h => ?_⟩
  obtain ⟨xs, h1, h2⟩ := oP_iff.mp h
  exact ⟨xs, lstOf_ref.mp h1, h2⟩
theorem v_addLR {m : Bool} {a : Nat} {xs : List PV} {st : Store} {Q : PQ} : binV .Add m (.lst xs) (.ref a) st Q = KAddL m (.ref a) st Q xs := by
  refine propext ⟨fun ⟨ys, h1, h2⟩ => oP_iff.mpr ⟨ys, lstOf_ref.mpr h1, h2⟩, fun h => ?_⟩
  obtain ⟨ys, h1, h2⟩ := oP_iff.mp h
  exact ⟨ys, lstOf_ref.mp h1, h2⟩
theorem v_addRR {m : Bool} {a b : Nat} {st : Store} {Q : PQ} : binV .Add m (.ref a) (.ref b) st Q = oP (lstOf st (.ref a)) (KAddL m (.ref b) st Q) := by
  refine propext ⟨fun ⟨xs, ys, h1, h2, h3⟩ => oP_iff.mpr ⟨xs, lstOf_ref.mpr h1, oP_iff.mpr ⟨ys, lstOf_ref.mpr h2, h3⟩⟩, fun h => ?_⟩
  obtain ⟨xs, h1, h2⟩ := oP_iff.mp h
  obtain ⟨ys, h2, h3⟩ := oP_iff.mp h2
  exact ⟨xs, ys, lstOf_ref.mp h1, lstOf_ref.mp h2, h3⟩
theorem v_cut {m : Bool} {a : Nat} {lo hi : Option Int} {st : Store} {Q : PQ} : sliceV m (.ref a) lo hi st Q = oP (lstOf st (.ref a)) (KCut m lo hi st Q) := by
  refine propext ⟨fun ⟨xs, h1, h2⟩ => oP_iff.mpr ⟨xs, lstOf_ref.mpr h1, h2⟩, fun h => ?_⟩
  obtain ⟨xs, h1, h2⟩ := oP_iff.mp h
  exact ⟨xs, lstOf_ref.mp h1, h2⟩
theorem v_tru {a : Nat} {st : Store} {Q : Bool → Store → Prop} : truV (.ref a) st Q = oP (lstOf st (.ref a)) (KTru st Q) := by
  refine propext ⟨fun ⟨xs, h1, h2⟩ => oP_iff.mpr ⟨xs, lstOf_ref.mpr h1, h2⟩, fun h => ?_⟩
  obtain ⟨xs, h1, h2⟩ := oP_iff.mp h
  exact ⟨xs, lstOf_ref.mp h1, h2⟩
theorem ix_50 : ixN 5 0 = some 0 := rfl
theorem ix_51 : ixN 5 1 = some 1 := rfl
theorem ix_52 : ixN 5 2 = some 2 := rfl
theorem ix_53 : ixN 5 3 = some 3 := rfl
theorem ix_54 : ixN 5 4 = some 4 := rfl
theorem inOk_sc {st : Store} {v w : PV} {xs : List PV} (h : isSc v = true) (k : xs.all isSc = true) : inOk st v w xs := .inl ⟨h, k⟩
/-! ### operations whose wish is looked at later -/
def KItL (i : Int) (st : Store) (Q : PQ) (xs : List PV) : Prop := oP (atI xs i) (KV st Q)
def KLen (st : Store) (Q : PQ) (xs : List PV) : Prop := Q (.int xs.length) st
def KTupB (st : Store) (Q : PQ) (xs : List PV) : Prop := Q (.tup xs) st
def KListB (m : Bool) (st : Store) (Q : PQ) (xs : List PV) : Prop := newList m xs st Q
def KAll2 (st : Store) (Q : PQ) (bs : List Bool) : Prop := Q (.bl (bs.all id)) st
def KAll (st : Store) (Q : PQ) (xs : List PV) : Prop := oP (blsOf xs) (KAll2 st Q)
def KAny2 (st : Store) (Q : PQ) (bs : List Bool) : Prop := Q (.bl (bs.any id)) st
def KAny (st : Store) (Q : PQ) (xs : List PV) : Prop := oP (blsOf xs) (KAny2 st Q)
def KSum2 (st : Store) (Q : PQ) (ns : List Int) : Prop := Q (.int ns.sum) st
def KSum (st : Store) (Q : PQ) (xs : List PV) : Prop := oP (intsOf xs) (KSum2 st Q)
def KMax2 (st : Store) (Q : PQ) (ns : List Int) : Prop := ns ≠ [] ∧ Q (.int (maxL ns)) st
def KMax (st : Store) (Q : PQ) (xs : List PV) : Prop := oP (intsOf xs) (KMax2 st Q)
def KMin2 (st : Store) (Q : PQ) (ns : List Int) : Prop := ns ≠ [] ∧ Q (.int (minL ns)) st
def KMin (st : Store) (Q : PQ) (xs : List PV) : Prop := oP (intsOf xs) (KMin2 st Q)
def KIn (v w : PV) (st : Store) (Q : PQ) (xs : List PV) : Prop := inOk st v w xs ∧ Q (.bl (xs.any fun y => eqv y v)) st
def KNotIn (v w : PV) (st : Store) (Q : PQ) (xs : List PV) : Prop := inOk st v w xs ∧ Q (.bl (!xs.any fun y => eqv y v)) st
def KItR (f : List PV → List PV) (a : Nat) (st : Store) (Q : List PV → (Store → Prop) → Store → Prop) (xs : List PV) : Prop := Q (f xs) (fun s => s a = some (.lst xs)) st
def KFrz (a : Nat) (st : Store) (Q : PQ) (xs : List PV) : Prop := Q (.lst xs) (up st a none)
section
variable {m : Bool} {st : Store} {Q : PQ} {v : PV} {a : Nat} {xs : List PV} {i : Int}
theorem v_itT  : itemV i (.tup xs) st Q = oP (atI xs i) (KV st Q) := rfl
theorem v_itL  : itemV i (.lst xs) st Q = oP (atI xs i) (KV st Q) := rfl
theorem v_itR  : itemV i (.ref a) st Q = oP (lstOf st (.ref a)) (KItL i st Q) := rfl
theorem v_lenR  : bltV .len m [.ref a] st Q = oP (lstOf st (.ref a)) (KLen st Q) := rfl
theorem v_tuple  : bltV .tuple m [v] st Q = oP (seqOf st v) (KTupB st Q) := rfl
theorem v_listR  : bltV .list m [.ref a] st Q = oP (lstOf st (.ref a)) (KListB m st Q) := rfl
theorem v_all  : bltV .all m [v] st Q = oP (lstOf st v) (KAll st Q) := rfl
theorem v_any  : bltV .any m [v] st Q = oP (lstOf st v) (KAny st Q) := rfl
theorem v_sum  : bltV .sum m [v] st Q = oP (lstOf st v) (KSum st Q) := rfl
theorem v_max  : bltV .max m [v] st Q = oP (extOf st v) (KMax st Q) := rfl
theorem v_min  : bltV .min m [v] st Q = oP (lstOf st v) (KMin st Q) := rfl
theorem v_inT {ys : List PV} : cmpV .In v (.tup ys) st Q = oP (seqOf st (.tup ys)) (KIn v (.tup ys) st Q) := rfl
theorem v_inL {ys : List PV} : cmpV .In v (.lst ys) st Q = oP (seqOf st (.lst ys)) (KIn v (.lst ys) st Q) := rfl
theorem v_inR : cmpV .In v (.ref a) st Q = oP (seqOf st (.ref a)) (KIn v (.ref a) st Q) := rfl
theorem onStr_eq {x : Str} {k : Str → Prop} : onStr (.str x) k = k x := rfl
theorem v_notInT {ys : List PV} : cmpV .NotIn v (.tup ys) st Q = oP (seqOf st (.tup ys)) (KNotIn v (.tup ys) st Q) := rfl
theorem v_notInL {ys : List PV} : cmpV .NotIn v (.lst ys) st Q = oP (seqOf st (.lst ys)) (KNotIn v (.lst ys) st Q) := rfl
theorem v_notInR : cmpV .NotIn v (.ref a) st Q = oP (seqOf st (.ref a)) (KNotIn v (.ref a) st Q) := rfl
theorem v_it {f : List PV → List PV} {K : List PV → (Store → Prop) → Store → Prop} : itV f (.ref a) st K = oP (lstOf st (.ref a)) (KItR f a st K) := rfl
theorem v_itL2 {f : List PV → List PV} {K : List PV → (Store → Prop) → Store → Prop} : itVL f (.ref a) st K = oP (lstOf st (.ref a)) (KItR f a st K) := rfl
theorem v_frz  : frzV (.ref a) st Q = oP (lstOf st (.ref a)) (KFrz a st Q) := rfl
end
section
variable {st : Store} {Q : PQ} {i j : Int} {a b : Bool}
theorem v_eqII : cmpV .Eq (.int i) (.int j) st Q = Q (.bl (decide (i = j))) st := by
  show (eqOk st (.int i) (.int j) ∧ Q (.bl (eqv (.int i) (.int j))) st) = _
  rw [show eqv (.int i) (.int j) = decide (i = j) by unfold eqv; rfl]
  exact propext ⟨fun h => h.2, fun h => ⟨.inl rfl, h⟩⟩
theorem v_neII : cmpV .NotEq (.int i) (.int j) st Q = Q (.bl (!decide (i = j))) st := by
  show (eqOk st (.int i) (.int j) ∧ Q (.bl (!eqv (.int i) (.int j))) st) = _
  rw [show eqv (.int i) (.int j) = decide (i = j) by unfold eqv; rfl]
  exact propext ⟨fun h => h.2, fun h => ⟨.inl rfl, h⟩⟩
theorem v_eqSS {x y : Str} : cmpV .Eq (.str x) (.str y) st Q = Q (.bl (decide (x = y))) st := by
  show (eqOk st (.str x) (.str y) ∧ Q (.bl (eqv (.str x) (.str y))) st) = _
  rw [show eqv (.str x) (.str y) = decide (x = y) by unfold eqv; rfl]
  exact propext ⟨fun h => h.2, fun h => ⟨.inl rfl, h⟩⟩
theorem v_eqBB : cmpV .Eq (.bl a) (.bl b) st Q = Q (.bl (a == b)) st := by
  show (eqOk st (.bl a) (.bl b) ∧ Q (.bl (eqv (.bl a) (.bl b))) st) = _
  rw [show eqv (.bl a) (.bl b) = (a == b) by unfold eqv; rfl]
  exact propext ⟨fun h => h.2, fun h => ⟨.inl rfl, h⟩⟩
theorem v_neBB : cmpV .NotEq (.bl a) (.bl b) st Q = Q (.bl (!(a == b))) st := by
  show (eqOk st (.bl a) (.bl b) ∧ Q (.bl (!eqv (.bl a) (.bl b))) st) = _
  rw [show eqv (.bl a) (.bl b) = (a == b) by unfold eqv; rfl]
  exact propext ⟨fun h => h.2, fun h => ⟨.inl rfl, h⟩⟩
end
end TK

set_option maxRecDepth 100000
set_option maxHeartbeats 4000000
namespace TK
open PySem PySem.Spec PyProof.Rows L2
/-! ### the drawing of numbers from the script -/
/-- a number one may divide by -/
def Sm (n : Int) : Prop := n.natAbs < 2 ^ 8000
theorem Sm.of {n : Int} (h : n.natAbs ≤ 10 ^ 100) : Sm n := Nat.lt_of_le_of_lt h (by decide)
theorem Sm.div {n : Int} (h : Sm n) (h0 : n ≠ 0) : DivOk n := ⟨h0, Nat.lt_of_lt_of_le ((Nat.log2_lt (by omega)).mpr h) (by decide)⟩
theorem Sm.lit {n : Nat} (h : n < 2 ^ 8000) : Sm (n : Int) := h
def poolC (ns : List Int) (x b c d : Int) : Cell := .lst [.lst (ns.map .int), .int x, .int b, .int c, .int d]
theorem unpool {K : PySem.W.Frag} {H : Hp} {F : FS} {st : Store} {p : Addr} (r : RS K H F st) (e : st p = some .pool) : ∃ ns x b c d, 0 ≤ x ∧ RS K H F (up st p (some (poolC ns x b c d))) := by
  obtain ⟨nf, q, ns, x, b, c, d, h1, h2, h3, h4⟩ := r.pool p e
  refine ⟨ns, x, b, c, d, h4, fun a xs z => ?_, fun a z => ?_, r.fz⟩
  · by_cases n : a = p
    · subst n
      rw [up_same] at z; cases z
      exact ⟨nf, _, h1, .cons (.lst h2 h3 (DVs.ints ns)) (.cons (.int _) (.cons (.int _) (.cons (.int _) (.cons (.int _) .nil))))⟩
    · rw [up_ne n] at z; exact r.lst a xs z
  · by_cases n : a = p
    · subst n; rw [up_same] at z; cases z
    · rw [up_ne n] at z; exact r.pool a z
theorem repool {K : PySem.W.Frag} {H : Hp} {F : FS} {st : Store} {p : Addr} {ns : List Int} {x b c d : Int} (r : RS K H F (up st p (some (poolC ns x b c d)))) (hx : 0 ≤ x) : RS K H F (up st p (some .pool)) := by
  refine ⟨fun a xs z => ?_, fun a z => ?_, r.fz⟩
  · by_cases n : a = p
    · subst n; rw [up_same] at z; cases z
    · rw [up_ne n] at z; exact r.lst a xs (by rw [up_ne n]; exact z)
  · by_cases n : a = p
    · subst n
      obtain ⟨nf, ys, h, d⟩ := r.lst a _ up_same
      refine ⟨nf, ?_⟩
      cases d with
      | cons d0 d =>
        cases d with
        | cons d1 d => cases d with
          | cons d2 d => cases d with
            | cons d3 d => cases d with
              | cons d4 d => cases d with
                | nil =>
                  cases d1; cases d2; cases d3; cases d4
                  cases d0 with
                  | lst f e dd => exact ⟨_, ns, _, _, _, _, h, f, e.trans (by rw [dd.of_ints]), hx⟩
    · rw [up_ne n] at z; exact r.pool a (by rw [up_ne n]; exact z)
/-- a list-level promise, told of the pool -/
def sl__law_pool : PSpec
  | [.scr ns], st, Q, _ => ∀ p, st p = none → Q (.ref p) (up st p (some (poolC ns 0 0 7 0)))
  | _, _, _, _ => False
def sp__law_pool : PSpec
  | [.scr _], st, Q, _ => ∀ p, st p = none → Q (.ref p) (up st p (some .pool))
  | _, _, _, _ => False
def sp__law_mix : PSpec
  | [.ref p], st, Q, _ => ∃ ns x b c d, st p = some (poolC ns x b c d) ∧ ∀ c' d', 0 ≤ c' → Q (.int c') (up st p (some (poolC ns x b c' d')))
  | _, _, _, _ => False
def sl__law_draw : PSpec
  | [.ref p, .int many], st, Q, _ => ∃ ns x b c d, st p = some (poolC ns x b c d) ∧ 0 ≤ x ∧ Sm many ∧ ∀ r x' b' c' d', 0 ≤ x' → 0 ≤ r → (2 ≤ many → r < many) → (many < 2 → r = 0) → Q (.int r) (up st p (some (poolC ns x' b' c' d')))
  | _, _, _, _ => False
def sp__law_draw : PSpec
  | [.ref p, .int many], st, Q, _ => st p = some .pool ∧ Sm many ∧ ∀ r, 0 ≤ r → (2 ≤ many → r < many) → (many < 2 → r = 0) → Q (.int r) st
  | _, _, _, _ => False
theorem pool_view {Γ : Wd} {k : Nat} (h : HasFn Γ k "_law_pool" sl__law_pool 1) : HasFn Γ k "_law_pool" sp__law_pool 1 := by
  refine h.view fun vs st Q X H F rs hs => ?_
  unfold sp__law_pool at hs
  split at hs
  · rename_i ns
    refine ⟨st, fun v s => ∃ p, st p = none ∧ v = .ref p ∧ s = up st p (some (poolC ns 0 0 7 0)), rs, fun p hp => ⟨p, hp, rfl, rfl⟩, ?_⟩
    rintro v s2 H' F' _ r2 ⟨p, hp, rfl, rfl⟩
    exact ⟨_, repool r2 (Int.le_refl 0), hs p hp⟩
  · exact hs.elim
theorem draw_view {Γ : Wd} {k : Nat} (h : HasFn Γ k "_law_draw" sl__law_draw 2) : HasFn Γ k "_law_draw" sp__law_draw 2 := by
  refine h.view fun vs st Q X H F rs hs => ?_
  unfold sp__law_draw at hs
  split at hs
  · rename_i p many
    obtain ⟨h1, h2, h3⟩ := hs
    obtain ⟨ns, x, b, c, d, hx, rs2⟩ := unpool rs h1
    refine ⟨_, fun v s => ∃ r x' b' c' d', v = .int r ∧ 0 ≤ x' ∧ 0 ≤ r ∧ (2 ≤ many → r < many) ∧ (many < 2 → r = 0) ∧ s = up (up st p (some (poolC ns x b c d))) p (some (poolC ns x' b' c' d')), rs2, ⟨ns, x, b, c, d, up_same, hx, h2, fun r x' b' c' d' a1 a2 a3 a4 => ⟨r, x', b', c', d', rfl, a1, a2, a3, a4, rfl⟩⟩, ?_⟩
    rintro v s2 H' F' _ r2 ⟨r, x', b', c', d', rfl, a1, a2, a3, a4, rfl⟩
    rw [up_up] at r2
    have r3 := repool r2 a1
    rw [up_id h1] at r3
    exact ⟨st, r3, h3 r a2 a3 a4⟩
  · exact hs.elim
end TK

set_option maxRecDepth 100000
set_option maxHeartbeats 4000000
namespace TK
open PySem PySem.Spec PyProof.Rows L2
/-! ### how long a value's text is, at most -/
def Pn (n : Int) : Prop := n.natAbs < 10 ^ 570
mutual
def shOk : Nat → PV → Prop
  | _, .non => True
  | _, .bl _ => True
  | _, .int i => Pn i
  | n, .tup xs => n ≠ 0 ∧ shOks (n - 1) xs
  | n, .lst xs => n ≠ 0 ∧ shOks (n - 1) xs
  | _, _ => False
def shOks : Nat → List PV → Prop
  | _, [] => True
  | n, x :: r => shOk n x ∧ shOks n r
end
mutual
def wgt : PV → Nat
  | .tup xs => wgts xs + 3
  | .lst xs => wgts xs + 3
  | _ => 571
def wgts : List PV → Nat
  | [] => 0
  | x :: r => wgt x + 2 + wgts r
end
theorem ten_pow (k : Nat) : ((10 : Int) ^ k) = ((10 ^ k : Nat) : Int) := by
  first
    | exact (Int.natCast_pow 10 k).symm
    | simp
theorem shown_int {i : Int} (h : Pn i) : (Str.ofString (toString i)).length ≤ 571 := by
  unfold Pn at h
  cases i with
  | ofNat m =>
    exact Nat.le_succ_of_le (toString_length_le (v := (m : Int)) (k := 570) (by omega) (by decide) (by rw [ten_pow]; exact Int.ofNat_lt.mpr h))
  | negSucc m =>
    have e : toString (Int.negSucc m) = "-" ++ toString (((m + 1 : Nat)) : Int) := rfl
    have h2 : (Str.ofString (toString (((m + 1 : Nat)) : Int))).length ≤ 570 := toString_length_le (v := ((m + 1 : Nat) : Int)) (k := 570) (by omega) (by decide) (by rw [ten_pow]; exact Int.ofNat_lt.mpr h)
    have l : ∀ s : String, (Str.ofString s).length = s.toList.length := fun s => by
      have := congrArg List.length (signs_ofString s)
      rw [List.length_map] at this
      exact this
    rw [e, l, String.toList_append, List.length_append, ← l, ← l]
    have : (Str.ofString "-").length = 1 := rfl
    omega
theorem piled_all : ∀ (ts : List Str), (listText ts).length ≤ piled ts + 2 ∧ (tupleText ts).length ≤ piled ts + 3
  | [] => ⟨by decide, by decide⟩
  | t :: r => by
    refine ⟨?_, ?_⟩
    · unfold listText
      rw [strLen_append]
      show (textFrom 1 (("[" : Str) ++ (if 0 > 0 then ", " else "" : String) ++ t) r).length + _ ≤ _
      rw [textFrom_length_pos _ _ _ (by decide), piled_cons, strLen_append, strLen_append]
      have e1 : (("[" : String) : Str).length = 1 := rfl
      have e2 : ((if 0 > 0 then ", " else "" : String) : Str).length = 0 := rfl
      have e3 : (("]" : String) : Str).length = 1 := rfl
      omega
    · unfold tupleText
      rw [strLen_append, strLen_append]
      have e1 : ((("(" : String) : Str)).length = 1 := rfl
      have e3 : (((if (t :: r).length == 1 then ",)" else ")" : String) : Str)).length ≤ 2 := by split <;> decide
      have := join_length_add (t :: r) (by simp)
      omega
mutual
theorem show_le : ∀ (n : Nat) (v : PV), n ≤ 60 → shOk n v → (toD v).showable = true ∧ (toD v).shown.length ≤ wgt v ∧ flat n v = true
  | _, .non, _, _ => ⟨rfl, by decide, by simp only [flat]⟩
  | _, .bl b, _, _ => ⟨rfl, by cases b <;> decide, by simp only [flat]⟩
  | _, .int i, _, h => by
    unfold shOk at h
    refine ⟨?_, ?_, by simp only [flat]⟩
    · simp only [toD, PyData.showable, decide_eq_true_eq]
      exact log2_small (Nat.lt_of_lt_of_le h (by decide))
    · simp only [toD, PyData.shown, wgt]
      exact shown_int h
  | n, .tup xs, hn, h => by
    unfold shOk at h
    obtain ⟨h1, h2⟩ := h
    obtain ⟨a, b, c⟩ := shows_le (n - 1) xs (by omega) h2
    refine ⟨?_, ?_, ?_⟩
    · simp only [toD, PyData.showable]; exact a
    · simp only [toD, PyData.shown, wgt]
      exact Nat.le_trans (piled_all _).2 (by omega)
    · simp only [flat, c, Bool.and_true]; simpa using h1
  | n, .lst xs, hn, h => by
    unfold shOk at h
    obtain ⟨h1, h2⟩ := h
    obtain ⟨a, b, c⟩ := shows_le (n - 1) xs (by omega) h2
    refine ⟨?_, ?_, ?_⟩
    · simp only [toD, PyData.showable]; exact a
    · simp only [toD, PyData.shown, wgt]
      exact Nat.le_trans (piled_all _).1 (by omega)
    · simp only [flat, c, Bool.and_true]; simpa using h1
  | _, .str _, _, h => by unfold shOk at h; exact h.elim
  | _, .ref _, _, h => by unfold shOk at h; exact h.elim
  | _, .scr _, _, h => by unfold shOk at h; exact h.elim
theorem shows_le : ∀ (n : Nat) (xs : List PV), n ≤ 60 → shOks n xs → PyData.showableAll (toDs xs) = true ∧ piled (PyData.shownAll (toDs xs)) ≤ wgts xs ∧ flats n xs = true
  | _, [], _, _ => ⟨rfl, by decide, by simp only [flats]⟩
  | n, x :: r, hn, h => by
    unfold shOks at h
    obtain ⟨a, b, c⟩ := show_le n x hn h.1
    obtain ⟨a2, b2, c2⟩ := shows_le n r hn h.2
    refine ⟨?_, ?_, ?_⟩
    · simp only [toDs, PyData.showableAll, a, a2, Bool.and_self]
    · simp only [toDs, PyData.shownAll, wgts]
      rw [piled_cons]; omega
    · simp only [flats, c, c2, Bool.and_self]
end
theorem flat_mono : True := trivial
theorem showOk_of {v : PV} (h : shOk 60 v) (hw : wgt v ≤ sizeLine) : ShowOk v :=
  let ⟨a, b, c⟩ := show_le 60 v (Nat.le_refl _) h
  ⟨a, Nat.le_trans b hw, c⟩
end TK

set_option maxRecDepth 100000
set_option maxHeartbeats 4000000
namespace TK
open PySem PySem.Spec PyProof.Rows L2
/-- a comprehension over the images of a list -/
theorem lc_encA {α : Type} {enc : α → PV} {tg : TG} {t : Sl → Store → (Bool → Store → Prop) → Prop} {e : Sl → Store → PQ → Prop} {τ : Sl} {st : Store} {K : List PV → Store → Prop} (f : α → Bool) (g : α → PV) :
    ∀ (l : List α) (acc : List PV), (∀ x ∈ l, ∃ τ1, tg.asg (enc x) τ = some τ1 ∧ ∀ st', Sub st st' → (∀ Q, Q (f x) st' → t τ1 st' Q) ∧ (f x = true → ∀ Q, Q (g x) st' → e τ1 st' Q)) → K (acc ++ (l.filter f).map g) st → lcL tg t e τ K (l.map enc) st acc
  | [], acc, _, h => by
    show K acc st
    simpa using h
  | x :: r, acc, hx, h => by
    obtain ⟨τ1, h1, h2⟩ := hx x List.mem_cons_self
    have hr := fun y hy => hx y (List.mem_cons_of_mem _ hy)
    rw [List.map_cons]
    unfold lcL
    rw [h1]
    intro st' sub
    obtain ⟨h3, h4⟩ := h2 st' sub
    refine h3 _ ⟨rfl, ?_⟩
    cases e : f x with
    | true =>
      rw [if_pos rfl]
      refine h4 e _ (.inl ⟨rfl, lc_encA f g r _ hr ?_⟩)
      rw [List.filter_cons_of_pos e, List.map_cons] at h
      simpa using h
    | false =>
      rw [if_neg (by decide)]
      refine lc_encA f g r _ hr ?_
      rw [List.filter_cons_of_neg (by rw [e]; decide)] at h
      exact h
/-- a comprehension whose tests and elements are known -/
theorem lc_pure {tg : TG} {t : Sl → Store → (Bool → Store → Prop) → Prop} {e : Sl → Store → PQ → Prop} {τ : Sl} {st : Store} {K : List PV → Store → Prop} (f : PV → Bool) (g : PV → PV)
    (xs acc : List PV) (hx : ∀ x ∈ xs, ∃ τ1, tg.asg x τ = some τ1 ∧ ∀ st', Sub st st' → (∀ Q, Q (f x) st' → t τ1 st' Q) ∧ (f x = true → ∀ Q, Q (g x) st' → e τ1 st' Q)) (h : K (acc ++ (xs.filter f).map g) st) : lcL tg t e τ K xs st acc := by
  have := lc_encA (enc := id) (K := K) f g xs acc hx h
  rwa [List.map_id] at this
/-- .. without a test -/
theorem lc_map {tg : TG} {e : Sl → Store → PQ → Prop} {t : Sl → Store → (Bool → Store → Prop) → Prop} {τ : Sl} {st : Store} {K : List PV → Store → Prop} (g : PV → PV)
    (xs : List PV) (ht : ∀ τ1 st' Q, Q true st' → t τ1 st' Q) (hx : ∀ x ∈ xs, ∃ τ1, tg.asg x τ = some τ1 ∧ ∀ st', Sub st st' → ∀ Q, Q (g x) st' → e τ1 st' Q) (h : K (xs.map g) st) : lcL tg t e τ K xs st [] :=
  lc_pure (fun _ => true) g xs [] (fun x hm => let ⟨τ1, a, b⟩ := hx x hm; ⟨τ1, a, fun st' sub => ⟨fun Q q => ht _ _ _ q, fun _ Q q => b st' sub Q q⟩⟩) (by rw [List.filter_eq_self.mpr (fun _ _ => rfl)]; exact h)
/-- slices from the start, to the end -/
theorem cut_to {α : Type} {xs : List α} {k : Int} (h : 0 ≤ k) : cutP xs none (some k) = xs.take k.toNat := by
  obtain ⟨n, rfl⟩ := Int.eq_ofNat_of_zero_le h
  unfold cutP
  rw [HT.sIx_nat, HT.sIx_none, List.drop_zero, Int.toNat_natCast, Nat.sub_zero, List.take_eq_take_iff]
  omega
theorem cut_from {α : Type} {xs : List α} {k : Int} (h : 0 ≤ k) : cutP xs (some k) none = xs.drop k.toNat := by
  obtain ⟨n, rfl⟩ := Int.eq_ofNat_of_zero_le h
  unfold cutP
  rw [HT.sIx_nat, HT.sIx_none, Int.toNat_natCast]
  by_cases hn : n ≤ xs.length
  · rw [Nat.min_eq_left hn]
    exact List.take_of_length_le (by rw [List.length_drop]; omega)
  · rw [Nat.min_eq_right (by omega), Nat.sub_self, List.take_zero]
    exact (List.drop_eq_nil_of_le (by omega)).symm

/-- .. with a test -/
theorem lc_filter {α : Type} {enc : α → PV} {tg : TG} {t : Sl → Store → (Bool → Store → Prop) → Prop} {e : Sl → Store → PQ → Prop} {τ : Sl} {st : Store} {K : List PV → Store → Prop} (f : α → Bool) (g : α → PV) (l : List α)
    (hx : ∀ x ∈ l, ∃ τ1, tg.asg (enc x) τ = some τ1 ∧ ∀ st', Sub st st' → (∀ Q, Q (f x) st' → t τ1 st' Q) ∧ (f x = true → ∀ Q, Q (g x) st' → e τ1 st' Q)) (h : K ((l.filter f).map g) st) : lcL tg t e τ K (l.map enc) st [] :=
  lc_encA f g l [] hx (by simpa using h)
/-- .. without one -/
theorem lc_enc {α : Type} {enc : α → PV} {tg : TG} {t : Sl → Store → (Bool → Store → Prop) → Prop} {e : Sl → Store → PQ → Prop} {τ : Sl} {st : Store} {K : List PV → Store → Prop} (g : α → PV) (l : List α) (ht : ∀ τ1 st' Q, Q true st' → t τ1 st' Q)
    (hx : ∀ x ∈ l, ∃ τ1, tg.asg (enc x) τ = some τ1 ∧ ∀ st', Sub st st' → ∀ Q, Q (g x) st' → e τ1 st' Q) (h : K (l.map g) st) : lcL tg t e τ K (l.map enc) st [] :=
  lc_encA (fun _ => true) g l [] (fun x hm => let ⟨τ1, a, b⟩ := hx x hm; ⟨τ1, a, fun st' sub => ⟨fun Q q => ht _ _ _ q, fun _ Q q => b st' sub Q q⟩⟩) (by rw [List.filter_eq_self.mpr (fun _ _ => rfl)]; exact h)
/-- a comprehension whose elements are new lists -/
theorem lc_new {α : Type} {enc : α → PV} {tg : TG} {t : Sl → Store → (Bool → Store → Prop) → Prop} {e : Sl → Store → PQ → Prop} {τ : Sl} {K : List PV → Store → Prop} (g : α → List PV) (ht : ∀ τ1 st' Q, Q true st' → t τ1 st' Q) :
    ∀ (l : List α) (st : Store) (acc : List PV), (∀ x ∈ l, ∃ τ1, tg.asg (enc x) τ = some τ1 ∧ ∀ st' Q, Sub st st' → (∀ p, st' p = none → Q (.ref p) (up st' p (some (.lst (g x))))) → e τ1 st' Q) →
      (∀ (ps : List Nat) (s : Store), ps.length = l.length → Sub st s → (∀ (i p : Nat) (x : α), ps[i]? = some p → l[i]? = some x → s p = some (.lst (g x)) ∧ st p = none) → ps.Nodup → K (acc ++ ps.map .ref) s) → lcL tg t e τ K (l.map enc) st acc
  | [], st, acc, _, h => by
    have := h [] st rfl (fun _ _ h => h) (fun i p x h => by simp at h) List.nodup_nil
    show K acc st
    simpa using this
  | x :: r, st, acc, hx, h => by
    obtain ⟨τ1, h1, h2⟩ := hx x List.mem_cons_self
    rw [List.map_cons]
    unfold lcL
    rw [h1]
    intro st' sub
    refine ht _ _ _ ⟨rfl, ?_⟩
    rw [if_pos rfl]
    refine h2 st' _ sub fun p hp => .inr ⟨p, g x, hp, rfl, rfl, ?_⟩
    have hp0 : st p = none := by
      cases e : st p with
      | none => rfl
      | some c => rw [sub _ _ e] at hp; cases hp
    have sub1 : Sub st (up st p (some (.lst (g x)))) := sub_new hp0
    refine lc_new g ht r _ _ (fun y hy => ?_) fun ps s hl hs hps hnd => ?_
    · obtain ⟨τ2, k1, k2⟩ := hx y (List.mem_cons_of_mem _ hy)
      exact ⟨τ2, k1, fun st2 Q s2 q => k2 st2 Q (fun a c ha => s2 a c (sub1 a c ha)) q⟩
    · have := h (p :: ps) s (by rw [List.length_cons, hl, List.length_cons]) (fun a c ha => hs a c (sub1 a c ha)) (fun i q y hi hy => ?_) (List.nodup_cons.mpr ⟨fun hm => ?_, hnd⟩)
      · rw [List.map_cons] at this
        rw [List.append_assoc]
        exact this
      · cases i with
        | zero =>
          simp only [List.getElem?_cons_zero, Option.some.injEq] at hi hy
          subst hi hy
          exact ⟨hs _ _ up_same, hp0⟩
        | succ i =>
          simp only [List.getElem?_cons_succ] at hi hy
          obtain ⟨a, b⟩ := hps i q y hi hy
          refine ⟨a, ?_⟩
          have n : q ≠ p := fun z => by rw [z, up_same] at b; cases b
          rwa [up_ne n] at b
      · obtain ⟨i, hi, e⟩ := List.getElem_of_mem hm
        have hir : i < r.length := by omega
        obtain ⟨_, b⟩ := hps i p (r[i]) (by rw [List.getElem?_eq_getElem hi, e]) (List.getElem?_eq_getElem hir)
        rw [up_same] at b; cases b
/-- a list with its numbers -/
theorem enumL_map {α : Type} (enc : α → PV) : ∀ (k : Nat) (l : List α), enumL k (l.map enc) = (l.zipIdx k).map fun p => .tup [.int (p.2 : Int), enc p.1]
  | _, [] => rfl
  | k, x :: r => by
    rw [List.map_cons, List.zipIdx_cons, List.map_cons, ← enumL_map enc (k + 1) r]
    rfl
end TK

open TK in
local macro_rules | `(tactic| simp_all only [$xs,*]) => `(tactic| simp only [ss_nil, Blk_eq, ss_cons, nxt_nx, nxt_rt, nxt_bk, nxt_ct, lp_nx, lp_rt, lp_bk, lp_ct, ex_nxt, ex_lp, KV, KF, KBin2, KBin1, KNeg, KUn, KNot2, KNot, KCmp2, KCmp1, KCh4, KCh3, KCh2, KCh1, KBs2, KBs, KIf, KTup, KLst, KIdx2, KIdx1, KSl3, KSl2, KSl1, KCall, KBlt, KIsi2, KIsi, KMe2, KMe1, KComp2, KComp, KEs2, KEs1, KO2, KO, KTv, KT4, KT3, KT2, KT1, KTc4, KTc3, KTc2, KTc1, KTn, KTs, KTi, KI1, KR12, KR1, KR2d, KR2c, KR2b, KR2a, KEn, KZ2, KZ1, KNx, KAsg, KAsgN, KSx4, KSx3, KSx2, KSx1, KAug2, KAug1, KExpr, KArm, KLoop, KWt, e_var, e_fvar, e_int, e_bl, e_non, e_str, e_glob, e_bin, e_neg, e_un, e_not, e_cmp, e_chain, e_bools, e_ite, e_tup, e_lst, e_idx, e_slice, e_call, e_callK, KCk1, KCk2, KRs_one, s_raise, s_try, tr_nx, tr_rt, tr_bk, tr_ct, nxt_ex, lp_ex, ex_fn, e_blt, e_isi, e_meth, e_comp, es_nil, es_cons, bs_one, bs_and, bs_or, o_no, o_yes, t_val, t_cmp, t_chain, t_not, t_bools, t_ite, ts_nilA, ts_nilO, ts_and, ts_or, i_val, i_r1, i_r2, i_en, i_zip, s_asgN, s_asgT, s_asgLc, s_setIx, s_aug, s_expr, s_ret, s_retN, s_ite, s_loop, s_while, s_pass, s_brk, s_cont, rt_fn, nx_fn, oP_some, oP_none, ↓v_itT, ↓v_itL, ↓v_itR, ↓v_lenR, ↓v_tuple, ↓v_listR, ↓v_all, ↓v_any, ↓v_sum, ↓v_max, ↓v_min, ↓v_inT, ↓v_inL, ↓v_inR, ↓v_notInT, ↓v_notInL, ↓v_notInR, onStr_eq, itV0, ↓v_it, ↓v_itL2, ↓v_frz, KItL, KLen, KTupB, KListB, KAll2, KAll, KAny2, KAny, KSum2, KSum, KMax2, KMax, KMin2, KMin, KIn, KNotIn, KItR, KFrz, ↓v_eqII, ↓v_eqSS, ↓v_neII, ↓v_eqBB, ↓v_neBB, ↓v_set, ↓v_app, ↓v_ext, ↓v_pop, ↓v_addRL, ↓v_addLR, ↓v_addRR, ↓v_cut, ↓v_tru, KSet1, KSet2, KApp, KExt, KPop, KAddL, KCut, KTru, List.set_cons_zero, List.set_cons_succ, onBl_eq, onInt_eq, getS_0, getS_s, getS, setS, wipeS, TG.asg, TGs.asg, Option.bind_some, binV, unV, negV, cmpV, idxV, itemV, sliceV, bltV, isiV, methV, truV, setIxV, augV, newList, frzV, itV, itVL, zipV, lstOf, extOf, seqOf, isLst, natc0, natc1, natc2, natc3, natc4, natc5, natc6, natc7, natc8, isNon_non, isNon_int, isNon_bl, isNon_str, isNon_tup, isNon_lst, isNon_ref, atI_0, atI_1, atI_2, atI_3, atI_4, callS_eq, Bool.not_true, Bool.not_false, ite_true, ite_false, reduceIte, reduceCtorEq, Bool.false_eq_true, decide_eq_true_eq, decide_true, decide_false, decide_not, Bool.not_eq_true', decide_eq_false_iff_not, initS, List.map_cons, List.map_nil, List.length_cons, List.length_nil, List.cons_append, List.nil_append, Nat.reduceAdd, Nat.reduceSub, List.replicate_succ, List.replicate_zero, up_same, Option.some.injEq, Cell.lst.injEq, exists_eq_left', exists_eq_left, true_and, and_true, true_or, inOk, PV.int.injEq, Int.reduceLT, Int.reduceLE, Int.reduceAdd, Int.reduceMul, Int.reduceNeg, Int.reduceSub, Int.reduceToNat, Int.reducePow, id_eq, not_true_eq_false, not_false_eq_true, Nat.zero_add, I.isR, false_implies, true_implies, forall_const, $xs,*])

set_option maxRecDepth 100000
set_option maxHeartbeats 4000000
namespace TK
open PySem PySem.Spec PyProof.Rows L2
-- _law_pool
def b__law_pool : Ss :=
  (.cons (.ret (.lst true (.cons (.blt .list false (.cons (.var 0) .nil)) (.cons (.int 0) (.cons (.int 0) (.cons (.int 7) (.cons (.int 0) .nil))))))) .nil)
def n__law_pool : List Str := ["script"]
-- _law_mix
def b__law_mix : Ss :=
  (.cons (.setIx (.var 0) (.int 4) (.bin .Add false (.idx (.var 0) (.int 4)) (.int 1))) (.cons (.asg (.name 1) (.bin .Mod false (.blt .int false (.cons (.bin .Add false (.bin .Add false (.bin .Mult false (.idx (.var 0) (.int 3)) (.int 48271)) (.bin .Mult false (.idx (.var 0) (.int 4)) (.int 69621))) (.int 11)) .nil)) (.int 2147483647))) (.cons (.setIx (.var 0) (.int 3) (.bin .Mod false (.blt .int false (.cons (.bin .Add false (.bin .Add false (.bin .Mult false (.var 1) (.int 16807)) (.bin .Mult false (.idx (.var 0) (.int 4)) (.int 40692))) (.int 5)) .nil)) (.int 1000000007))) (.cons (.ret (.idx (.var 0) (.int 3))) .nil))))
def n__law_mix : List Str := ["pool", "first"]
-- _law_draw
def b__law_draw : Ss :=
  (.cons (.ite (.cmp .Lt (.var 1) (.int 2)) (.cons (.ret (.int 0)) .nil) .nil) (.cons (.ite (.cmp .Gt (.idx (.var 0) (.int 2)) (.int 0)) (.cons (.asg (.name 2) (.bin .Mod false (.blt .int false (.cons (.idx (.var 0) (.int 2)) .nil)) (.var 1))) (.cons (.setIx (.var 0) (.int 2) (.bin .FloorDiv false (.idx (.var 0) (.int 2)) (.var 1))) (.cons (.ret (.var 2)) .nil))) .nil) (.cons (.ite (.cmp .Lt (.idx (.var 0) (.int 1)) (.blt .len false (.cons (.idx (.var 0) (.int 0)) .nil))) (.cons (.asg (.name 3) (.idx (.idx (.var 0) (.int 0)) (.idx (.var 0) (.int 1)))) (.cons (.setIx (.var 0) (.int 1) (.bin .Add false (.idx (.var 0) (.int 1)) (.int 1))) (.cons (.ite (.cmp .GtE (.var 3) (.bin .Pow false (.int 10) (.int 18))) (.cons (.setIx (.var 0) (.int 2) (.bin .FloorDiv false (.var 3) (.var 1))) (.cons (.ret (.bin .Mod false (.blt .int false (.cons (.var 3) .nil)) (.var 1))) .nil)) .nil) (.cons (.setIx (.var 0) (.int 3) (.bin .Mod false (.blt .int false (.cons (.bin .Add false (.bin .Add false (.bin .Mult false (.idx (.var 0) (.int 3)) (.int 31)) (.bin .Mult false (.int 2) (.blt .abs false (.cons (.var 3) .nil)))) (.ite (.cmp .Lt (.var 3) (.int 0)) (.int 1) (.int 0))) .nil)) (.int 1000000007))) .nil)))) .nil) (.cons (.ret (.bin .Mod false (.blt .int false (.cons (.bin .FloorDiv false (.call "_law_mix" sp__law_mix (.cons (.var 0) .nil)) (.int 11)) .nil)) (.var 1))) .nil))))
def n__law_draw : List Str := ["pool", "many", "told", "cell"]
theorem w__law_pool : ∀ vs s Q X, vs.length = 1 → sl__law_pool vs s Q X → wpFn n__law_pool.length b__law_pool vs s Q X := by
  intro vs s Q X hl h
  unfold sl__law_pool at h
  split at h
  · rename_i ns
    rw [fn_eq]
    unfold b__law_pool n__law_pool
    simp_all only [ss_nil]
    exact ⟨by decide, fun p hp => ⟨_, .rfl, h p hp⟩⟩
  · exact h.elim
theorem w__law_mix : ∀ vs s Q X, vs.length = 1 → sp__law_mix vs s Q X → wpFn n__law_mix.length b__law_mix vs s Q X := by
  intro vs s Q X hl h
  unfold sp__law_mix at h
  split at h
  · rename_i p
    rw [fn_eq]
    unfold b__law_mix n__law_mix
    obtain ⟨ns, x, b, c, d, hp, h⟩ := h
    simp_all only [ss_nil, hp, poolC, ix_50, ix_51, ix_52, ix_53, ix_54, up_up]
    rw [Nx_eq]
    simp_all only [ss_nil, hp, poolC, ix_50, ix_51, ix_52, ix_53, ix_54, up_up]
    refine ⟨CMul.ok (by unfold CMul; omega), CMul.ok (by unfold CMul; omega), by decide, ?_⟩
    rw [Nx_eq]
    simp_all only [ss_nil, hp, poolC, ix_50, ix_51, ix_52, ix_53, ix_54, up_up]
    refine ⟨CMul.ok (by unfold CMul; omega), CMul.ok (by unfold CMul; omega), by decide, ?_⟩
    rw [Nx_eq]
    simp_all only [ss_nil, hp, poolC, ix_50, ix_51, ix_52, ix_53, ix_54, up_up]
    exact ⟨_, .rfl, h _ _ (Int.fmod_nonneg_of_pos _ (by decide))⟩
  · exact h.elim
theorem w__law_draw : ∀ vs s Q X, vs.length = 2 → sl__law_draw vs s Q X → wpFn n__law_draw.length b__law_draw vs s Q X := by
  intro vs s Q X hl h
  unfold sl__law_draw at h
  split at h
  · rename_i p many
    rw [fn_eq]
    unfold b__law_draw n__law_draw
    obtain ⟨ns, x, b, c, d, hp, hx, hm, h⟩ := h
    -- what is drawn is below many
    have low : ∀ z : Int, ¬ many < 2 → 0 ≤ z.fmod many ∧ (2 ≤ many → z.fmod many < many) ∧ (many < 2 → z.fmod many = 0) := fun z hz =>
      ⟨Int.fmod_nonneg_of_pos z (by omega), fun _ => Int.fmod_lt_of_pos z (by omega), fun h => absurd h hz⟩
    simp_all only [ss_nil, hp, poolC]
    split
    · (first | rw [Nx_eq] | rw [Arm_eq] | skip); (try simp_all only [ss_nil])
      have e := h 0 x b c d hx (Int.le_refl 0) (fun _ => by omega) (fun _ => rfl)
      rw [up_id hp] at e
      exact ⟨s, .rfl, e⟩
    · rename_i hmany
      have dv : DivOk many := hm.div (by omega)
      have m0 : many ≠ 0 := by omega
      (first | rw [Nx_eq] | rw [Arm_eq] | skip); (try simp_all only [ss_nil, Nx_eq, hp, poolC])
      split
      · (first | rw [Nx_eq] | rw [Arm_eq] | skip); (try simp_all only [ss_nil, hp, poolC, m0, ne_eq])
        (first | rw [Nx_eq] | rw [Arm_eq] | skip); (try simp_all only [ss_nil, hp, poolC, ix_52, up_up])
        refine ⟨dv, ?_⟩
        (first | rw [Nx_eq] | rw [Arm_eq] | skip); (try simp_all only [ss_nil])
        obtain ⟨l1, l2, l3⟩ := low b hmany
        exact ⟨_, .rfl, h _ _ _ _ _ hx l1 l2 l3⟩
      · (first | rw [Nx_eq] | rw [Arm_eq] | skip); (try simp_all only [ss_nil, Nx_eq, hp, poolC])
        split
        · rename_i hlt
          rw [List.length_map] at hlt
          (first | rw [Nx_eq] | rw [Arm_eq] | skip); (try simp_all only [ss_nil, hp, poolC, atI_int hx hlt])
          generalize ns[x.toNat]'(by omega) = z
          (first | rw [Nx_eq] | rw [Arm_eq] | skip); (try simp_all only [ss_nil, hp, poolC, ix_51])
          (first | rw [Nx_eq] | rw [Arm_eq] | skip); (try simp_all only [ss_nil, hp, poolC])
          refine ⟨by unfold CPow; decide, ?_⟩
          split
          · (first | rw [Nx_eq] | rw [Arm_eq] | skip); (try simp_all only [ss_nil, hp, poolC, ix_52, up_up])
            refine ⟨dv, ?_⟩
            (first | rw [Nx_eq] | rw [Arm_eq] | skip); (try simp_all only [ss_nil, m0, ne_eq])
            obtain ⟨l1, l2, l3⟩ := low z hmany
            exact ⟨_, .rfl, h _ _ _ _ _ (by omega) l1 l2 l3⟩
          · (first | rw [Nx_eq] | rw [Arm_eq] | skip); (try simp_all only [ss_nil, Nx_eq, hp, poolC, ix_53, up_up])
            refine ⟨CMul.ok (by unfold CMul; omega), CMul.ok (by unfold CMul; omega), ?_⟩
            split
            all_goals
              refine ⟨by decide, ?_⟩
              refine callS_of ⟨ns, x + 1, b, _, d, up_same, fun c' d' hc => ?_⟩
              simp_all only [ss_nil, up_up]
              refine ⟨⟨by decide, by decide⟩, ?_⟩
              simp_all only [ss_nil, m0, ne_eq]
              obtain ⟨l1, l2, l3⟩ := low (c'.fdiv 11) hmany
              exact ⟨_, .rfl, h _ _ _ _ _ (by omega) l1 l2 l3⟩
        · (first | rw [Nx_eq] | rw [Arm_eq] | skip); (try simp_all only [ss_nil, Nx_eq, hp, poolC])
          refine callS_of ⟨ns, x, b, c, d, hp, fun c' d' hc => ?_⟩
          simp_all only [ss_nil]
          refine ⟨⟨by decide, by decide⟩, ?_⟩
          simp_all only [ss_nil, m0, ne_eq]
          obtain ⟨l1, l2, l3⟩ := low (c'.fdiv 11) hmany
          exact ⟨_, .rfl, h _ _ _ _ _ hx l1 l2 l3⟩
  · exact h.elim

def pickR (xs : List PV) (st : Store) (Q : PQ) : Prop := xs ≠ [] ∧ xs.length ≤ 10 ^ 9 ∧ ∀ (i : Nat) v, xs[i]? = some v → Q v st
def sp__law_pick : PSpec
  | [.ref p, m], st, Q, _ => st p = some .pool ∧ (match m with
    | .lst xs => pickR xs st Q
    | .tup xs => pickR xs st Q
    | _ => False)
  | _, _, _, _ => False
def b__law_pick : Ss :=
  (.cons (.ret (.idx (.var 1) (.call "_law_draw" sp__law_draw (.cons (.var 0) (.cons (.blt .len false (.cons (.var 1) .nil)) .nil))))) .nil)
def n__law_pick : List Str := ["pool", "menu"]

theorem w__law_pick : ∀ vs s Q X, vs.length = 2 → sp__law_pick vs s Q X → wpFn n__law_pick.length b__law_pick vs s Q X := by
  intro vs s Q X hl h
  unfold sp__law_pick at h
  split at h
  · rename_i p m
    rw [fn_eq]
    unfold b__law_pick n__law_pick
    obtain ⟨hp, h⟩ := h
    have go : ∀ xs : List PV, pickR xs s Q → Sm xs.length ∧ ∀ r : Int, 0 ≤ r → (2 ≤ (xs.length : Int) → r < xs.length) → ((xs.length : Int) < 2 → r = 0) → ∃ v, atI xs r = some v ∧ Q v s := by
      rintro xs ⟨h0, hb, hq⟩
      have hpos : 0 < xs.length := List.length_pos_iff.mpr h0
      refine ⟨.of (by omega), fun r r0 r1 r2 => ?_⟩
      have hr : r < xs.length := by omega
      exact ⟨_, atI_of r0 hr, hq r.toNat _ (List.getElem?_eq_getElem _)⟩
    cases m with
    | lst xs =>
      obtain ⟨h1, h2⟩ := go xs h
      simp_all only [ss_nil]
      refine callS_of ⟨hp, h1, fun r r0 r1 r2 => ?_⟩
      obtain ⟨v, e, q⟩ := h2 r r0 r1 r2
      simp_all only [ss_nil, e]
      exact ⟨s, .rfl, q⟩
    | tup xs =>
      obtain ⟨h1, h2⟩ := go xs h
      simp_all only [ss_nil]
      refine callS_of ⟨hp, h1, fun r r0 r1 r2 => ?_⟩
      obtain ⟨v, e, q⟩ := h2 r r0 r1 r2
      simp_all only [ss_nil, e]
      exact ⟨s, .rfl, q⟩
    | _ => exact h.elim
  · exact h.elim
/-- is it a whole number? -/
def isI : PV → Bool
  | .int _ => true
  | _ => false
def noRef : PV → Bool
  | .ref _ => false
  | .scr _ => false
  | _ => true
def sp__law_int : PSpec
  | [v], st, Q, _ => noRef v = true ∧ Q (.bl (isI v)) st
  | _, _, _, _ => False
def b__law_int : Ss :=
  (.cons (.ret (.bools .And (.cons (.isi (.var 0) "int") (.cons (.not (.isi (.var 0) "bool")) .nil)))) .nil)
def n__law_int : List Str := ["value"]

theorem w__law_int : ∀ vs s Q X, vs.length = 1 → sp__law_int vs s Q X → wpFn n__law_int.length b__law_int vs s Q X := by
  intro vs s Q X hl h
  unfold sp__law_int at h
  split at h
  · rename_i v
    rw [fn_eq]
    unfold b__law_int n__law_int
    obtain ⟨hv, h⟩ := h
    cases v <;> first | (cases hv; done) | (simp_all only [ss_nil]; exact ⟨s, .rfl, h⟩)
  · exact h.elim
end TK

set_option maxRecDepth 100000
set_option maxHeartbeats 4000000
namespace TK
open PySem PySem.Spec PyProof.Rows L2
theorem res_of {st : Store} {v : PV} (h : noRef v = true) : res st v = v := by
  cases v <;> first | rfl | cases h
/-- equal ones are told the same -/
def sp__law_same : PSpec
  | [v, w], st, Q, _ => v = w ∧ noRef v = true ∧ ShowOk v ∧ Q (.bl true) st
  | _, _, _, _ => False
def b__law_same : Ss :=
  (.cons (.ret (.cmp .Eq (.blt .repr false (.cons (.var 0) .nil)) (.blt .repr false (.cons (.var 1) .nil)))) .nil)
def n__law_same : List Str := ["value", "due"]

theorem w__law_same : ∀ vs s Q X, vs.length = 2 → sp__law_same vs s Q X → wpFn n__law_same.length b__law_same vs s Q X := by
  intro vs s Q X hl h
  unfold sp__law_same at h
  split at h
  · rename_i v w
    rw [fn_eq]
    unfold b__law_same n__law_same
    obtain ⟨rfl, hn, hs, h⟩ := h
    simp_all only [ss_nil, res_of hn]
    exact ⟨hs, hs, s, .rfl, h⟩
  · exact h.elim
def sp__law_gcd : PSpec
  | [.int a, .int b], st, Q, _ => Q (.int (Int.gcd a b)) st
  | _, _, _, _ => False
def b__law_gcd_1 : Ss :=
  (.cons (.asg (.name 2) (.bin .Mod false (.blt .int false (.cons (.var 0) .nil)) (.var 1))) (.cons (.asg (.name 0) (.var 1)) (.cons (.asg (.name 1) (.var 2)) .nil)))
def b__law_gcd : Ss :=
  (.cons (.asg (.name 0) (.blt .abs false (.cons (.var 0) .nil))) (.cons (.asg (.name 1) (.blt .abs false (.cons (.var 1) .nil))) (.cons (.while (.cmp .Gt (.var 1) (.int 0)) b__law_gcd_1) (.cons (.ret (.var 0)) .nil))))
def n__law_gcd : List Str := ["a", "b", "rest"]

theorem fmod_gcd (a b : Nat) (hb : 0 < b) : ((a : Int).fmod b) = ((a % b : Nat) : Int) := by
  rw [Int.fmod_eq_emod_of_nonneg _ (by omega)]; rfl
theorem w__law_gcd : ∀ vs s Q X, vs.length = 2 → sp__law_gcd vs s Q X → wpFn n__law_gcd.length b__law_gcd vs s Q X := by
  intro vs s Q X hl h
  unfold sp__law_gcd at h
  split at h
  · rename_i a b
    rw [fn_eq]
    unfold b__law_gcd n__law_gcd
    have ab : ∀ z : Int, (if z < 0 then -z else z) = (z.natAbs : Int) := fun z => by split <;> omega
    simp_all only [ss_nil, ab]
    (first | rw [Nx_eq] | rw [Arm_eq] | skip); (try simp_all only [ss_nil, ab])
    (first | rw [Nx_eq] | rw [Arm_eq] | skip); (try simp_all only [ss_nil])
    refine while_ind (fun n τ st => ∃ (x y : Nat) (o : Option PV), τ = [some (.int x), some (.int y), o] ∧ st = s ∧ y = n ∧ Nat.gcd x y = Int.gcd a b) ?_ b.natAbs ⟨a.natAbs, b.natAbs, none, rfl, rfl, rfl, rfl⟩
    rintro n τ st ⟨x, y, o, rfl, rfl, rfl, hg⟩
    simp_all only [ss_nil]
    split
    · rename_i hy
      have hy' : 0 < y := by omega
      unfold b__law_gcd_1
      simp_all only [ss_nil]
      refine ⟨by omega, ?_⟩
      (first | rw [Nx_eq] | rw [Arm_eq] | skip); (try simp_all only [ss_nil])
      (first | rw [Nx_eq] | rw [Arm_eq] | skip); (try simp_all only [ss_nil, Nx_eq])
      refine ⟨x % y, Nat.mod_lt _ hy', y, x % y, some (.int (x % y : Nat)), by rw [fmod_gcd x y hy'], rfl, ?_⟩
      rw [← hg, Nat.gcd_comm x y, Nat.gcd_rec y x, Nat.gcd_comm]
    · rename_i hy
      have : y = 0 := by omega
      subst this
      (first | rw [Nx_eq] | rw [Arm_eq] | skip); (try simp_all only [ss_nil])
      rw [Nat.gcd_zero_right] at hg
      subst hg
      exact ⟨st, .rfl, h⟩
  · exact h.elim
end TK

set_option maxRecDepth 100000
set_option maxHeartbeats 4000000
namespace TK
open PySem PySem.Spec PyProof.Rows L2
/-! ### ratios -/
/-- a ratio as the program holds it -/
def ratV (r : Rat) : PV := .tup [.int r.num, .int r.den]
def Sz (n : Int) : Prop := n.natAbs < 2 ^ 3900
def SzR (r : Rat) : Prop := Sz r.num ∧ Sz r.den
theorem Sz.of {n : Int} (h : n.natAbs ≤ 10 ^ 1000) : Sz n := Nat.lt_of_le_of_lt h (by decide)
theorem Sz.sm {n : Int} (h : Sz n) : Sm n := Nat.lt_of_lt_of_le h (Nat.pow_le_pow_right (by decide) (by decide))
theorem Sz.mulSm {m n : Int} (h : Sz m) (k : Sz n) : Sm (m * n) := by
  unfold Sm
  rw [Int.natAbs_mul]
  exact Nat.lt_of_lt_of_le (Nat.mul_lt_mul_of_lt_of_lt h k) (by rw [← Nat.pow_add]; exact Nat.pow_le_pow_right (by decide) (by decide))
theorem Sz.ok {m n : Int} (h : Sz m) (k : Sz n) : IntMulOk m n :=
  .of_le (intBits_le_iff.mpr h) (intBits_le_iff.mpr k) (by decide)
theorem divInt_num_le {n d : Int} (h : d ≠ 0) : (Rat.divInt n d).num.natAbs ≤ n.natAbs := by
  rw [Rat.num_divInt]
  refine Nat.le_trans (Int.natAbs_ediv_le_natAbs _ _) ?_
  rw [Int.natAbs_mul]
  rw [Int.natAbs_sign_of_ne_zero h, Nat.one_mul]
  exact Nat.le_refl _
theorem divInt_den_le {n d : Int} (h : d ≠ 0) : (Rat.divInt n d).den ≤ d.natAbs := by
  rw [Rat.den_divInt, if_neg h]
  exact Nat.div_le_self _ _
def sp__law_ratio : PSpec
  | [.int n, .int d], st, Q, _ => d ≠ 0 ∧ Sm d ∧ Q (ratV (Rat.divInt n d)) st
  | _, _, _, _ => False
def b__law_ratio : Ss :=
  (.cons (.ite (.cmp .Lt (.var 1) (.int 0)) (.cons (.asg (.name 0) (.neg (.var 0))) (.cons (.asg (.name 1) (.neg (.var 1))) .nil)) .nil) (.cons (.asg (.name 2) (.call "_law_gcd" sp__law_gcd (.cons (.var 0) (.cons (.var 1) .nil)))) (.cons (.ret (.tup (.cons (.bin .FloorDiv false (.var 0) (.var 2)) (.cons (.bin .FloorDiv false (.var 1) (.var 2)) .nil)))) .nil)))
def n__law_ratio : List Str := ["n", "d", "g"]

theorem w__law_ratio : ∀ vs s Q X, vs.length = 2 → sp__law_ratio vs s Q X → wpFn n__law_ratio.length b__law_ratio vs s Q X := by
  intro vs s Q X hl h
  unfold sp__law_ratio at h
  split at h
  · rename_i n d
    rw [fn_eq]
    unfold b__law_ratio n__law_ratio
    obtain ⟨h0, hs, h⟩ := h
    have key : ∀ n d : Int, 0 < d → Sm d → Q (ratV (Rat.divInt n d)) s → wpSs (.cons (.asg (.name 2) (.call "_law_gcd" sp__law_gcd (.cons (.var 0) (.cons (.var 1) .nil)))) (.cons (.ret (.tup (.cons (.bin .FloorDiv false (.var 0) (.var 2)) (.cons (.bin .FloorDiv false (.var 1) (.var 2)) .nil)))) .nil)) (fnEnds Q X) [some (.int n), some (.int d), none] s := by
      intro n d hd hs h
      simp_all only [ss_nil]
      refine callS_of ?_
      unfold sp__law_gcd
      simp_all only [ss_nil]
      have hg0 : 0 < Int.gcd n d := Int.gcd_pos_of_ne_zero_right _ (by omega)
      have hg1 : Int.gcd n d ≤ d.natAbs := Int.gcd_le_natAbs_right _ (by omega)
      have hdv : DivOk (Int.gcd n d) := Sm.div (Nat.lt_of_le_of_lt (by simpa using hg1) hs) (by omega)
      (first | rw [Nx_eq] | rw [Arm_eq] | skip); (try simp_all only [ss_nil])
      refine ⟨hdv, hdv, by decide, s, .rfl, ?_⟩
      have e1 : n.fdiv (Int.gcd n d) = (Rat.divInt n d).num := by
        rw [Rat.num_divInt, Int.sign_eq_one_of_pos hd, Int.one_mul, Int.gcd_comm, Int.fdiv_eq_ediv_of_nonneg _ (by omega)]
      have e2 : d.fdiv (Int.gcd n d) = ((Rat.divInt n d).den : Int) := by
        rw [Rat.den_divInt, if_neg (by omega), Int.gcd_comm, Int.fdiv_eq_ediv_of_nonneg _ (by omega)]
        rw [Int.natCast_ediv]
        congr 1
        omega
      rw [e1, e2]
      exact h
    simp_all only [ss_nil]
    split
    · rename_i hd
      (first | rw [Nx_eq] | rw [Arm_eq] | skip); (try simp_all only [ss_nil])
      (first | rw [Nx_eq] | rw [Arm_eq] | skip); (try simp_all only [ss_nil])
      (first | rw [Nx_eq] | rw [Arm_eq] | skip); (try simp_all only [ss_nil])
      rw [Nx_eq]
      refine key (-n) (-d) (by omega) (by unfold Sm at hs ⊢; omega) ?_
      rw [Rat.neg_divInt_neg]
      exact h
    · (first | rw [Nx_eq] | rw [Arm_eq] | skip); (try simp_all only [ss_nil])
      rw [Nx_eq]
      exact key n d (by omega) hs h
  · exact h.elim

/-- a ratio of small numbers -/
def Bd (k : Nat) (r : Rat) : Prop := r.num.natAbs < 2 ^ k ∧ r.den < 2 ^ k
/-- a value that tells a ratio, in lowest terms or not -/
def Fr (k : Nat) (v : PV) (r : Rat) : Prop := ∃ n d : Int, v = .tup [.int n, .int d] ∧ 0 < d ∧ n.natAbs < 2 ^ k ∧ d.natAbs < 2 ^ k ∧ r = Rat.divInt n d
theorem pow2_le {a b : Nat} (h : a ≤ b) : 2 ^ a ≤ 2 ^ b := Nat.pow_le_pow_right (by decide) h
theorem Bd.mono {a b : Nat} {r : Rat} (h : Bd a r) (k : a ≤ b) : Bd b r := ⟨Nat.lt_of_lt_of_le h.1 (pow2_le k), Nat.lt_of_lt_of_le h.2 (pow2_le k)⟩
theorem Fr.mono {a b : Nat} {v : PV} {r : Rat} (h : Fr a v r) (k : a ≤ b) : Fr b v r := by
  obtain ⟨n, d, e, h1, h2, h3, h4⟩ := h
  exact ⟨n, d, e, h1, Nat.lt_of_lt_of_le h2 (pow2_le k), Nat.lt_of_lt_of_le h3 (pow2_le k), h4⟩
theorem Fr.bd {a : Nat} {v : PV} {r : Rat} (h : Fr a v r) : Bd a r := by
  obtain ⟨n, d, _, h1, h2, h3, rfl⟩ := h
  exact ⟨Nat.lt_of_le_of_lt (divInt_num_le (by omega)) h2, Nat.lt_of_le_of_lt (divInt_den_le (by omega)) h3⟩
theorem Bd.fr {a : Nat} {r : Rat} (h : Bd a r) : Fr a (ratV r) r :=
  ⟨r.num, r.den, rfl, by have := r.den_nz; omega, h.1, h.2, (Rat.num_divInt_den r).symm⟩
theorem Bd.of_divInt {k : Nat} {n d : Int} (h0 : d ≠ 0) (h : n.natAbs < 2 ^ k) (h2 : d.natAbs < 2 ^ k) : Bd k (Rat.divInt n d) :=
  ⟨Nat.lt_of_le_of_lt (divInt_num_le h0) h, Nat.lt_of_le_of_lt (divInt_den_le h0) h2⟩
theorem mul_pow {a b x y : Nat} (h : x < 2 ^ a) (k : y < 2 ^ b) : x * y < 2 ^ (a + b) := by
  rw [Nat.pow_add]; exact Nat.mul_lt_mul_of_lt_of_lt h k
theorem sum_pow {a x y : Nat} (h : x < 2 ^ a) (k : y < 2 ^ a) : x + y < 2 ^ (a + 1) := by
  rw [Nat.pow_succ]; omega
theorem two_mul_abs {n d m e : Int} {a b : Nat} (h1 : n.natAbs < 2 ^ a) (h2 : d.natAbs < 2 ^ a) (h3 : m.natAbs < 2 ^ b) (h4 : e.natAbs < 2 ^ b) :
    (n * e + m * d).natAbs < 2 ^ (a + b + 1) ∧ (n * e - m * d).natAbs < 2 ^ (a + b + 1) ∧ (d * e).natAbs < 2 ^ (a + b + 1) := by
  have e1 : (n * e).natAbs < 2 ^ (a + b) := by rw [Int.natAbs_mul]; exact mul_pow h1 h4
  have e2 : (m * d).natAbs < 2 ^ (a + b) := by rw [Int.natAbs_mul, Nat.mul_comm]; exact mul_pow h2 h3
  have e3 : (d * e).natAbs < 2 ^ (a + b) := by rw [Int.natAbs_mul]; exact mul_pow h2 h4
  have := sum_pow e1 e2
  refine ⟨by omega, by omega, Nat.lt_of_lt_of_le e3 (pow2_le (by omega))⟩
theorem divInt_add {a b c d : Int} (hb : b ≠ 0) (hd : d ≠ 0) : Rat.divInt (a * d + c * b) (b * d) = Rat.divInt a b + Rat.divInt c d := (Rat.divInt_add_divInt a c hb hd).symm
theorem divInt_sub {a b c d : Int} (hb : b ≠ 0) (hd : d ≠ 0) : Rat.divInt (a * d - c * b) (b * d) = Rat.divInt a b - Rat.divInt c d := (Rat.divInt_sub_divInt a c hb hd).symm
theorem Fr.add {a b : Nat} {v w : PV} {x y : Rat} (h : Fr a v x) (k : Fr b w y) : Bd (a + b + 1) (x + y) ∧ Bd (a + b + 1) (x - y) := by
  obtain ⟨n, d, _, h1, h2, h3, rfl⟩ := h
  obtain ⟨m, e, _, k1, k2, k3, rfl⟩ := k
  obtain ⟨z1, z2, z3⟩ := two_mul_abs h2 h3 k2 k3
  have nz : d * e ≠ 0 := Int.mul_ne_zero (by omega) (by omega)
  rw [← divInt_add (by omega) (by omega), ← divInt_sub (by omega) (by omega)]
  exact ⟨.of_divInt nz z1 z3, .of_divInt nz z2 z3⟩
theorem Bd.add {a b : Nat} {x y : Rat} (h : Bd a x) (k : Bd b y) : Bd (a + b + 1) (x + y) := (h.fr.add k.fr).1
theorem Bd.sub {a b : Nat} {x y : Rat} (h : Bd a x) (k : Bd b y) : Bd (a + b + 1) (x - y) := (h.fr.add k.fr).2
def sp__law_plus : PSpec
  | [a, b], st, Q, _ => ∃ x y : Rat, Fr 3900 a x ∧ Fr 3900 b y ∧ Q (ratV (x + y)) st
  | _, _, _, _ => False
def b__law_plus : Ss :=
  (.cons (.ret (.call "_law_ratio" sp__law_ratio (.cons (.bin .Add false (.bin .Mult false (.idx (.var 0) (.int 0)) (.idx (.var 1) (.int 1))) (.bin .Mult false (.idx (.var 1) (.int 0)) (.idx (.var 0) (.int 1)))) (.cons (.bin .Mult false (.idx (.var 0) (.int 1)) (.idx (.var 1) (.int 1))) .nil)))) .nil)
def n__law_plus : List Str := ["a", "b"]

theorem w__law_plus : ∀ vs s Q X, vs.length = 2 → sp__law_plus vs s Q X → wpFn n__law_plus.length b__law_plus vs s Q X := by
  intro vs s Q X hl h
  unfold sp__law_plus at h
  split at h
  · rename_i a b
    rw [fn_eq]
    unfold b__law_plus n__law_plus
    obtain ⟨x, y, ⟨n, d, rfl, h1, h2, h3, rfl⟩, ⟨m, e, rfl, k1, k2, k3, rfl⟩, h⟩ := h
    simp_all only [ss_nil]
    refine ⟨Sz.ok h2 k3, Sz.ok k2 h3, Sz.ok h3 k3, callS_of ⟨Int.mul_ne_zero (by omega) (by omega), Sz.mulSm h3 k3, s, .rfl, ?_⟩⟩
    rw [divInt_add (by omega) (by omega)]
    exact h
  · exact h.elim
def sp__law_less_by : PSpec
  | [a, b], st, Q, _ => ∃ x y : Rat, Fr 3900 a x ∧ Fr 3900 b y ∧ Q (ratV (x - y)) st
  | _, _, _, _ => False
def b__law_less_by : Ss :=
  (.cons (.ret (.call "_law_ratio" sp__law_ratio (.cons (.bin .Sub false (.bin .Mult false (.idx (.var 0) (.int 0)) (.idx (.var 1) (.int 1))) (.bin .Mult false (.idx (.var 1) (.int 0)) (.idx (.var 0) (.int 1)))) (.cons (.bin .Mult false (.idx (.var 0) (.int 1)) (.idx (.var 1) (.int 1))) .nil)))) .nil)
def n__law_less_by : List Str := ["a", "b"]

theorem w__law_less_by : ∀ vs s Q X, vs.length = 2 → sp__law_less_by vs s Q X → wpFn n__law_less_by.length b__law_less_by vs s Q X := by
  intro vs s Q X hl h
  unfold sp__law_less_by at h
  split at h
  · rename_i a b
    rw [fn_eq]
    unfold b__law_less_by n__law_less_by
    obtain ⟨x, y, ⟨n, d, rfl, h1, h2, h3, rfl⟩, ⟨m, e, rfl, k1, k2, k3, rfl⟩, h⟩ := h
    simp_all only [ss_nil]
    refine ⟨Sz.ok h2 k3, Sz.ok k2 h3, Sz.ok h3 k3, callS_of ⟨Int.mul_ne_zero (by omega) (by omega), Sz.mulSm h3 k3, s, .rfl, ?_⟩⟩
    rw [divInt_sub (by omega) (by omega)]
    exact h
  · exact h.elim
/-- a wide number: below 10 ** 40 -/
def sp__law_wide : PSpec
  | [.ref p], st, Q, _ => st p = some .pool ∧ ∀ r : Int, 0 ≤ r → r < 10 ^ 40 → Q (.int r) st
  | _, _, _, _ => False
def b__law_wide_1 : Ss :=
  (.cons (.asg (.name 1) (.bin .Add false (.bin .Mult false (.var 1) (.bin .Pow false (.int 10) (.int 7))) (.call "_law_draw" sp__law_draw (.cons (.var 0) (.cons (.bin .Pow false (.int 10) (.int 7)) .nil))))) .nil)
def b__law_wide : Ss :=
  (.cons (.asg (.name 1) (.call "_law_draw" sp__law_draw (.cons (.var 0) (.cons (.bin .Pow false (.int 10) (.int 5)) .nil)))) (.cons (.loop (.name 2) (.range1 (.int 5)) b__law_wide_1) (.cons (.ret (.var 1)) .nil)))
def n__law_wide : List Str := ["pool", "told", "turn"]

theorem w__law_wide : ∀ vs s Q X, vs.length = 1 → sp__law_wide vs s Q X → wpFn n__law_wide.length b__law_wide vs s Q X := by
  intro vs s Q X hl h
  unfold sp__law_wide at h
  split at h
  · rename_i p
    rw [fn_eq]
    unfold b__law_wide n__law_wide
    obtain ⟨hp, h⟩ := h
    simp_all only [ss_nil]
    refine ⟨by unfold CPow; decide, callS_of ⟨hp, .of (by decide), fun r r0 r1 _ => ?_⟩⟩
    have r1 := r1 (by decide)
    simp_all only [ss_nil]
    (first | rw [Nx_eq] | rw [Arm_eq] | skip); (try simp_all only [ss_nil])
    refine ⟨by unfold R62; decide, ?_⟩
    refine for_at (fun i τ st => st = s ∧ ∃ (z : Int) (o : Option PV), τ = [some (.ref p), some (.int z), o] ∧ 0 ≤ z ∧ z < 10 ^ (5 + 7 * i)) ?_ ?_ ⟨rfl, r, none, rfl, r0, by simpa using r1⟩
    · rintro i x τ st hi ⟨rfl, z, o, rfl, z0, z1⟩
      have hi5 : i < 5 := by
        have := (List.getElem?_eq_some_iff.mp hi).1
        simpa [rngL] using this
      unfold b__law_wide_1
      refine ⟨trivial, ?_⟩
      simp_all only [ss_nil]
      refine ⟨by unfold CPow; decide, CMul.ok (by unfold CMul; omega), by unfold CPow; decide, callS_of ⟨hp, .of (by decide), fun u u0 u1 _ => ?_⟩⟩
      have u1 := u1 (by decide)
      simp_all only [ss_nil]
      (first | rw [Nx_eq] | rw [Arm_eq] | skip); (try simp_all only [ss_nil])
      refine ⟨_, _, rfl, by omega, ?_⟩
      have e : (10 : Int) ^ (5 + 7 * (i + 1)) = 10 ^ (5 + 7 * i) * 10000000 := by
        rw [show 5 + 7 * (i + 1) = (5 + 7 * i) + 7 by omega, Int.pow_add]; rfl
      rw [e]
      have := Int.mul_le_mul_of_nonneg_right (show z + 1 ≤ 10 ^ (5 + 7 * i) by omega) (show (0 : Int) ≤ 10000000 by decide)
      omega
    · rintro τ st ⟨rfl, z, o, rfl, z0, z1⟩
      refine ⟨trivial, ?_⟩
      simp_all only [ss_nil]
      (first | rw [Nx_eq] | rw [Arm_eq] | skip); (try simp_all only [ss_nil])
      exact ⟨st, .rfl, h z z0 (by simpa [rngL] using z1)⟩
  · exact h.elim

/-- a number of the law: at most 10 ** 40 away from 0 -/
def sp__law_number : PSpec
  | [.ref p], st, Q, _ => st p = some .pool ∧ ∀ r : Int, -(10 ^ 40) ≤ r → r ≤ 10 ^ 40 → Q (.int r) st
  | _, _, _, _ => False
def b__law_number : Ss :=
  (.cons (.asg (.name 1) (.call "_law_draw" sp__law_draw (.cons (.var 0) (.cons (.int 8) .nil)))) (.cons (.asg (.name 2) (.call "_law_draw" sp__law_draw (.cons (.var 0) (.cons (.int 13) .nil)))) (.cons (.ite (.bools .Or (.cons (.cmp .Eq (.var 1) (.int 3)) (.cons (.cmp .Eq (.var 1) (.int 4)) .nil))) (.cons (.asg (.name 2) (.call "_law_draw" sp__law_draw (.cons (.var 0) (.cons (.int 1000) .nil)))) .nil) (.cons (.ite (.cmp .Eq (.var 1) (.int 5)) (.cons (.asg (.name 2) (.bin .Add false (.bin .Pow false (.int 10) (.int 6)) (.call "_law_draw" sp__law_draw (.cons (.var 0) (.cons (.bin .Mult false (.int 9) (.bin .Pow false (.int 10) (.int 6))) .nil))))) .nil) (.cons (.ite (.cmp .Eq (.var 1) (.int 6)) (.cons (.asg (.name 2) (.call "_law_wide" sp__law_wide (.cons (.var 0) .nil))) .nil) (.cons (.ite (.cmp .Eq (.var 1) (.int 7)) (.cons (.asg (.name 2) (.bin .Sub false (.bin .Sub false (.call "_law_pick" sp__law_pick (.cons (.var 0) (.cons (.lst false (.cons (.bin .Pow false (.int 10) (.int 39)) (.cons (.bin .Pow false (.int 10) (.int 40)) .nil))) .nil))) (.int 1)) (.var 2))) .nil) .nil) .nil)) .nil)) .nil)) (.cons (.ite (.cmp .Eq (.call "_law_draw" sp__law_draw (.cons (.var 0) (.cons (.int 2) .nil))) (.int 1)) (.cons (.ret (.neg (.var 2))) .nil) .nil) (.cons (.ret (.var 2)) .nil)))))
def n__law_number : List Str := ["pool", "way", "told"]

theorem w__law_number : ∀ vs s Q X, vs.length = 1 → sp__law_number vs s Q X → wpFn n__law_number.length b__law_number vs s Q X := by
  intro vs s Q X hl h
  unfold sp__law_number at h
  split at h
  · rename_i p
    rw [fn_eq]
    unfold b__law_number n__law_number
    obtain ⟨hp, h⟩ := h
    simp_all only [ss_nil]
    refine callS_of ⟨hp, .of (by decide), fun way w0 w1 _ => ?_⟩
    simp_all only [ss_nil]
    (first | rw [Nx_eq] | rw [Arm_eq] | skip); (try simp_all only [ss_nil])
    refine callS_of ⟨hp, .of (by decide), fun t t0 t1 _ => ?_⟩
    have t1 := t1 (by decide)
    simp_all only [ss_nil]
    -- what comes last
    have fin : ∀ z : Int, 0 ≤ z → z ≤ 10 ^ 40 → Nx (.cons (.ite (.cmp .Eq (.call "_law_draw" sp__law_draw (.cons (.var 0) (.cons (.int 2) .nil))) (.int 1)) (.cons (.ret (.neg (.var 2))) .nil) .nil) (.cons (.ret (.var 2)) .nil)) (fnEnds Q X) [some (.ref p), some (.int way), some (.int z)] s := by
      intro z z0 z1
      (first | rw [Nx_eq] | rw [Arm_eq] | skip); (try simp_all only [ss_nil])
      refine callS_of ⟨hp, .of (by decide), fun u u0 u1 _ => ?_⟩
      simp_all only [ss_nil]
      split
      · (first | rw [Nx_eq] | rw [Arm_eq] | skip); (try simp_all only [ss_nil])
        exact ⟨s, .rfl, h _ (by omega) (by omega)⟩
      · (first | rw [Nx_eq] | rw [Arm_eq] | skip); (try simp_all only [ss_nil, Nx_eq])
        exact ⟨s, .rfl, h _ (by omega) (by omega)⟩
    (first | rw [Nx_eq] | rw [Arm_eq] | skip); (try simp_all only [ss_nil])
    have dr : ∀ (z : Int) (τ : Sl) (K : PQ) (X : EQ), Sm z → (∀ u, 0 ≤ u → (2 ≤ z → u < z) → K (.int u) s) → callS sp__law_draw [.ref p, .int z] s X K := fun z τ K X hz hk => callS_of ⟨hp, hz, fun u u0 u1 _ => hk u u0 u1⟩
    split
    · (first | rw [Nx_eq] | rw [Arm_eq] | skip); (try simp_all only [ss_nil])
      refine dr _ [] _ _ (.of (by decide)) fun u u0 u1 => ?_
      have u1 := u1 (by decide)
      simp_all only [ss_nil]
      (first | rw [Nx_eq] | rw [Arm_eq] | skip); (try simp_all only [ss_nil])
      first | exact fin _ (by omega) (by omega) | (simp only [Nx_nil, nxt_nx]; exact fin _ (by omega) (by omega))
    · split
      · (first | rw [Nx_eq] | rw [Arm_eq] | skip); (try simp_all only [ss_nil])
        refine dr _ [] _ _ (.of (by decide)) fun u u0 u1 => ?_
        have u1 := u1 (by decide)
        simp_all only [ss_nil]
        (first | rw [Nx_eq] | rw [Arm_eq] | skip); (try simp_all only [ss_nil])
        first | exact fin _ (by omega) (by omega) | (simp only [Nx_nil, nxt_nx]; exact fin _ (by omega) (by omega))
      · (first | rw [Nx_eq] | rw [Arm_eq] | skip); (try simp_all only [ss_nil])
        split
        · (first | rw [Nx_eq] | rw [Arm_eq] | skip); (try simp_all only [ss_nil])
          refine ⟨by unfold CPow; decide, by unfold CPow; decide, CMul.ok (by unfold CMul; omega), ?_⟩
          refine dr _ [] _ _ (.of (by decide)) fun u u0 u1 => ?_
          have u1 := u1 (by decide)
          simp_all only [ss_nil]
          (first | rw [Nx_eq] | rw [Arm_eq] | skip); (try simp_all only [ss_nil])
          first | exact fin _ (by omega) (by omega) | (simp only [Nx_nil, nxt_nx]; exact fin _ (by omega) (by omega))
        · (first | rw [Nx_eq] | rw [Arm_eq] | skip); (try simp_all only [ss_nil])
          split
          · (first | rw [Nx_eq] | rw [Arm_eq] | skip); (try simp_all only [ss_nil])
            refine callS_of ⟨hp, fun u u0 u1 => ?_⟩
            simp_all only [ss_nil]
            (first | rw [Nx_eq] | rw [Arm_eq] | skip); (try simp_all only [ss_nil])
            first | exact fin _ (by omega) (by omega) | (simp only [Nx_nil, nxt_nx]; exact fin _ (by omega) (by omega))
          · (first | rw [Nx_eq] | rw [Arm_eq] | skip); (try simp_all only [ss_nil])
            split
            · (first | rw [Nx_eq] | rw [Arm_eq] | skip); (try simp_all only [ss_nil])
              refine ⟨by unfold CPow; decide, by unfold CPow; decide, by decide, callS_of ⟨hp, ?_, by decide, fun i v hv => ?_⟩⟩
              · simp
              · have hv' : v = .int (10 ^ 39) ∨ v = .int (10 ^ 40) := by
                  match i, hv with
                  | 0, e => exact .inl (by simpa using e.symm)
                  | 1, e => exact .inr (by simpa using e.symm)
                  | i + 2, e => simp at e
                rcases hv' with rfl | rfl
                · simp_all only [ss_nil]
                  (first | rw [Nx_eq] | rw [Arm_eq] | skip); (try simp_all only [ss_nil])
                  first | exact fin _ (by omega) (by omega) | (simp only [Nx_nil, nxt_nx]; exact fin _ (by omega) (by omega))
                · simp_all only [ss_nil]
                  (first | rw [Nx_eq] | rw [Arm_eq] | skip); (try simp_all only [ss_nil])
                  first | exact fin _ (by omega) (by omega) | (simp only [Nx_nil, nxt_nx]; exact fin _ (by omega) (by omega))
            · (first | rw [Nx_eq] | rw [Arm_eq] | skip); (try simp_all only [ss_nil])
              first | exact fin _ (by omega) (by omega) | (simp only [Nx_nil, nxt_nx]; exact fin _ (by omega) (by omega))
  · exact h.elim
end TK

set_option maxRecDepth 100000
set_option maxHeartbeats 4000000
namespace TK
open PySem PySem.Spec PyProof.Rows L2
/-! ### machines, as plain data -/
inductive Sg where
  | lt | le | eq | ge | gt
deriving DecidableEq
def sgS : Sg → Str
  | .lt => "<" | .le => "<=" | .eq => "=" | .ge => ">=" | .gt => ">"
/-- a test: clock (from 1), sign, number -/
structure Tt where
  c : Nat
  s : Sg
  n : Nat
structure Dd where
  letter : Str
  src : Nat
  guard : List Tt
  backs : List Nat
  tgt : Nat
  price : Nat
structure Mc where
  k : Nat
  rooms : List (List Tt × Nat)
  deeds : List Dd
def tV (t : Tt) : PV := .tup [.int t.c, .str (sgS t.s), .int t.n]
def rmV (r : List Tt × Nat) : PV := .tup [.tup (r.1.map tV), .int r.2]
def dV (d : Dd) : PV := .tup [.str d.letter, .int d.src, .tup (d.guard.map tV), .tup (d.backs.map fun (b : Nat) => .int (b : Int)), .int d.tgt, .int d.price]
def mV (m : Mc) : PV := .tup [.int m.k, .tup (m.rooms.map rmV), .tup (m.deeds.map dV)]
/-- a test against a value -/
def sgH (s : Sg) (r : Rat) (n : Nat) : Bool := match s with
  | .lt => decide (r < ((n : Int) : Rat))
  | .le => decide (r ≤ ((n : Int) : Rat))
  | .eq => decide (r = ((n : Int) : Rat))
  | .ge => decide (((n : Int) : Rat) ≤ r)
  | .gt => decide (((n : Int) : Rat) < r)
def Tt.ok (k : Nat) (t : Tt) : Prop := 1 ≤ t.c ∧ t.c ≤ k ∧ t.n ≤ 1000
def Tt.holds (vals : List Rat) (t : Tt) : Bool := sgH t.s (vals.getD (t.c - 1) 0) t.n
/-- the values of the clocks -/
def vsV (vals : List Rat) : PV := .tup (vals.map ratV)
def VB (b : Nat) (vals : List Rat) : Prop := ∀ r ∈ vals, Bd b r
theorem divInt_lt_iff {n d e : Int} (h : 0 < d) : ((e : Rat) < Rat.divInt n d) ↔ e * d < n := by
  have hd : (0 : Rat) < (d : Rat) := Rat.intCast_pos.mpr h
  rw [Rat.divInt_eq_div, Rat.lt_div_iff hd, ← Rat.intCast_mul, Rat.intCast_lt_intCast]
theorem divInt_lt_iff' {n d e : Int} (h : 0 < d) : (Rat.divInt n d < (e : Rat)) ↔ n < e * d := by
  have hd : (0 : Rat) < (d : Rat) := Rat.intCast_pos.mpr h
  rw [Rat.divInt_eq_div, Rat.div_lt_iff hd, ← Rat.intCast_mul, Rat.intCast_lt_intCast]
/-- a comparison with a whole number, as the program makes it -/
def sp_compared : PSpec
  | [v, .str x, .int n], st, Q, _ => ∃ (r : Rat) (s : Sg) (m : Nat), Fr 3900 v r ∧ x = sgS s ∧ n = m ∧ m ≤ 1000 ∧ Q (.bl (sgH s r m)) st
  | _, _, _, _ => False
theorem sg_iff (s : Sg) : (sgS s = ("<" : Str) ↔ s = .lt) ∧ (sgS s = ("<=" : Str) ↔ s = .le) ∧ (sgS s = ("=" : Str) ↔ s = .eq) ∧ (sgS s = (">=" : Str) ↔ s = .ge) := by
  cases s <;> decide
def b_compared : Ss :=
  (.cons (.asg (.name 3) (.idx (.var 0) (.int 0))) (.cons (.asg (.name 4) (.bin .Mult false (.var 2) (.idx (.var 0) (.int 1)))) (.cons (.ite (.cmp .Eq (.var 1) (.str "<")) (.cons (.ret (.cmp .Lt (.var 3) (.var 4))) .nil) .nil) (.cons (.ite (.cmp .Eq (.var 1) (.str "<=")) (.cons (.ret (.cmp .LtE (.var 3) (.var 4))) .nil) .nil) (.cons (.ite (.cmp .Eq (.var 1) (.str "=")) (.cons (.ret (.cmp .Eq (.var 3) (.var 4))) .nil) .nil) (.cons (.ite (.cmp .Eq (.var 1) (.str ">=")) (.cons (.ret (.cmp .GtE (.var 3) (.var 4))) .nil) .nil) (.cons (.ret (.cmp .Gt (.var 3) (.var 4))) .nil)))))))
def n_compared : List Str := ["value", "sign", "number", "left", "right"]
theorem w_compared : ∀ vs s Q X, vs.length = 3 → sp_compared vs s Q X → wpFn n_compared.length b_compared vs s Q X := by
  intro vs s Q X hl h
  unfold sp_compared at h
  split at h
  · rename_i v x n
    rw [fn_eq]
    unfold b_compared n_compared
    obtain ⟨r, sg, m, ⟨a, d, rfl, h1, h2, h3, rfl⟩, rfl, rfl, hm, h⟩ := h
    obtain ⟨g1, g2, g3, g4⟩ := sg_iff sg
    have mk : IntMulOk (m : Int) d := CMul.ok (.inl ⟨by omega, by omega⟩)
    have e1 := @divInt_lt_iff' a d m h1
    have e2 := @divInt_lt_iff a d m h1
    have e3 : (Rat.divInt a d ≤ ((m : Int) : Rat)) ↔ a ≤ m * d := by rw [← Rat.not_lt, e2, Int.not_lt]
    have e4 : (((m : Int) : Rat) ≤ Rat.divInt a d) ↔ m * d ≤ a := by rw [← Rat.not_lt, e1, Int.not_lt]
    have e5 : (Rat.divInt a d = ((m : Int) : Rat)) ↔ a = m * d := ⟨fun e => Int.le_antisymm (e3.mp (by rw [e]; exact Rat.le_refl)) (e4.mp (by rw [e]; exact Rat.le_refl)), fun e => Rat.le_antisymm (e3.mpr (by omega)) (e4.mpr (by omega))⟩
    simp_all only [ss_nil]
    (first | rw [Nx_eq] | rw [Arm_eq] | skip); (try simp_all only [ss_nil])
    refine ⟨mk, ?_⟩
    (first | rw [Nx_eq] | rw [Arm_eq] | skip); (try simp_all only [ss_nil])
    (first | rw [Nx_eq] | rw [Arm_eq] | skip); (try simp_all only [ss_nil])
    cases sg <;> unfold sgH at h <;> simp only [e1, e2, e3, e4, e5] at h
    · simp_all only [ss_nil, g1, Arm_eq]
      exact ⟨s, .rfl, h⟩
    · simp_all only [ss_nil, g1, g2, Arm_eq, Nx_eq]
      exact ⟨s, .rfl, h⟩
    · simp_all only [ss_nil, g1, g2, g3, Arm_eq, Nx_eq]
      exact ⟨s, .rfl, h⟩
    · simp_all only [ss_nil, g1, g2, g3, g4, Arm_eq, Nx_eq]
      exact ⟨s, .rfl, h⟩
    · simp_all only [ss_nil, g1, g2, g3, g4, Arm_eq, Nx_eq]
      exact ⟨s, .rfl, h⟩
  · exact h.elim
end TK

set_option maxRecDepth 100000
set_option maxHeartbeats 4000000
namespace TK
open PySem PySem.Spec PyProof.Rows L2
/-! ### the program's own reckoning: as the law's -/
def sp_common_factor : PSpec
  | [.int a, .int b], st, Q, _ => Q (.int (Int.gcd a b)) st
  | _, _, _, _ => False
def b_common_factor_1 : Ss :=
  (.cons (.asg (.name 2) (.bin .Mod false (.blt .int false (.cons (.var 0) .nil)) (.var 1))) (.cons (.asg (.name 0) (.var 1)) (.cons (.asg (.name 1) (.var 2)) .nil)))
def b_common_factor : Ss :=
  (.cons (.asg (.name 0) (.blt .abs false (.cons (.var 0) .nil))) (.cons (.asg (.name 1) (.blt .abs false (.cons (.var 1) .nil))) (.cons (.while (.cmp .Gt (.var 1) (.int 0)) b_common_factor_1) (.cons (.ret (.var 0)) .nil))))
def n_common_factor : List Str := ["a", "b", "rest"]

theorem w_common_factor : ∀ vs s Q X, vs.length = 2 → sp_common_factor vs s Q X → wpFn n_common_factor.length b_common_factor vs s Q X := by
  intro vs s Q X hl h
  unfold sp_common_factor at h
  split at h
  · rename_i a b
    rw [fn_eq]
    unfold b_common_factor n_common_factor
    have ab : ∀ z : Int, (if z < 0 then -z else z) = (z.natAbs : Int) := fun z => by split <;> omega
    simp_all only [ss_nil, ab]
    (first | rw [Nx_eq] | rw [Arm_eq] | skip); (try simp_all only [ss_nil, ab])
    (first | rw [Nx_eq] | rw [Arm_eq] | skip); (try simp_all only [ss_nil])
    refine while_ind (fun n τ st => ∃ (x y : Nat) (o : Option PV), τ = [some (.int x), some (.int y), o] ∧ st = s ∧ y = n ∧ Nat.gcd x y = Int.gcd a b) ?_ b.natAbs ⟨a.natAbs, b.natAbs, none, rfl, rfl, rfl, rfl⟩
    rintro n τ st ⟨x, y, o, rfl, rfl, rfl, hg⟩
    simp_all only [ss_nil]
    split
    · rename_i hy
      have hy' : 0 < y := by omega
      unfold b_common_factor_1
      simp_all only [ss_nil]
      refine ⟨by omega, ?_⟩
      (first | rw [Nx_eq] | rw [Arm_eq] | skip); (try simp_all only [ss_nil])
      (first | rw [Nx_eq] | rw [Arm_eq] | skip); (try simp_all only [ss_nil, Nx_eq])
      refine ⟨x % y, Nat.mod_lt _ hy', y, x % y, some (.int (x % y : Nat)), by rw [fmod_gcd x y hy'], rfl, ?_⟩
      rw [← hg, Nat.gcd_comm x y, Nat.gcd_rec y x, Nat.gcd_comm]
    · rename_i hy
      have : y = 0 := by omega
      subst this
      (first | rw [Nx_eq] | rw [Arm_eq] | skip); (try simp_all only [ss_nil])
      rw [Nat.gcd_zero_right] at hg
      subst hg
      exact ⟨st, .rfl, h⟩
  · exact h.elim
def sp_lowest_terms : PSpec
  | [.int n, .int d], st, Q, _ => d ≠ 0 ∧ Sm d ∧ Q (ratV (Rat.divInt n d)) st
  | _, _, _, _ => False
def b_lowest_terms : Ss :=
  (.cons (.ite (.cmp .Lt (.var 1) (.int 0)) (.cons (.asg (.name 0) (.neg (.var 0))) (.cons (.asg (.name 1) (.neg (.var 1))) .nil)) .nil) (.cons (.asg (.name 2) (.call "common_factor" sp_common_factor (.cons (.var 0) (.cons (.var 1) .nil)))) (.cons (.ret (.tup (.cons (.bin .FloorDiv false (.var 0) (.var 2)) (.cons (.bin .FloorDiv false (.var 1) (.var 2)) .nil)))) .nil)))
def n_lowest_terms : List Str := ["n", "d", "factor"]

theorem w_lowest_terms : ∀ vs s Q X, vs.length = 2 → sp_lowest_terms vs s Q X → wpFn n_lowest_terms.length b_lowest_terms vs s Q X := by
  intro vs s Q X hl h
  unfold sp_lowest_terms at h
  split at h
  · rename_i n d
    rw [fn_eq]
    unfold b_lowest_terms n_lowest_terms
    obtain ⟨h0, hs, h⟩ := h
    have key : ∀ n d : Int, 0 < d → Sm d → Q (ratV (Rat.divInt n d)) s → wpSs (.cons (.asg (.name 2) (.call "common_factor" sp_common_factor (.cons (.var 0) (.cons (.var 1) .nil)))) (.cons (.ret (.tup (.cons (.bin .FloorDiv false (.var 0) (.var 2)) (.cons (.bin .FloorDiv false (.var 1) (.var 2)) .nil)))) .nil)) (fnEnds Q X) [some (.int n), some (.int d), none] s := by
      intro n d hd hs h
      simp_all only [ss_nil]
      refine callS_of ?_
      unfold sp_common_factor
      simp_all only [ss_nil]
      have hg0 : 0 < Int.gcd n d := Int.gcd_pos_of_ne_zero_right _ (by omega)
      have hg1 : Int.gcd n d ≤ d.natAbs := Int.gcd_le_natAbs_right _ (by omega)
      have hdv : DivOk (Int.gcd n d) := Sm.div (Nat.lt_of_le_of_lt (by simpa using hg1) hs) (by omega)
      (first | rw [Nx_eq] | rw [Arm_eq] | skip); (try simp_all only [ss_nil])
      refine ⟨hdv, hdv, by decide, s, .rfl, ?_⟩
      have e1 : n.fdiv (Int.gcd n d) = (Rat.divInt n d).num := by
        rw [Rat.num_divInt, Int.sign_eq_one_of_pos hd, Int.one_mul, Int.gcd_comm, Int.fdiv_eq_ediv_of_nonneg _ (by omega)]
      have e2 : d.fdiv (Int.gcd n d) = ((Rat.divInt n d).den : Int) := by
        rw [Rat.den_divInt, if_neg (by omega), Int.gcd_comm, Int.fdiv_eq_ediv_of_nonneg _ (by omega)]
        rw [Int.natCast_ediv]
        congr 1
        omega
      rw [e1, e2]
      exact h
    simp_all only [ss_nil]
    split
    · rename_i hd
      (first | rw [Nx_eq] | rw [Arm_eq] | skip); (try simp_all only [ss_nil])
      (first | rw [Nx_eq] | rw [Arm_eq] | skip); (try simp_all only [ss_nil])
      (first | rw [Nx_eq] | rw [Arm_eq] | skip); (try simp_all only [ss_nil])
      rw [Nx_eq]
      refine key (-n) (-d) (by omega) (by unfold Sm at hs ⊢; omega) ?_
      rw [Rat.neg_divInt_neg]
      exact h
    · (first | rw [Nx_eq] | rw [Arm_eq] | skip); (try simp_all only [ss_nil])
      rw [Nx_eq]
      exact key n d (by omega) hs h
  · exact h.elim

def sp_plus : PSpec
  | [a, b], st, Q, _ => ∃ x y : Rat, Fr 3900 a x ∧ Fr 3900 b y ∧ Q (ratV (x + y)) st
  | _, _, _, _ => False
def b_plus : Ss :=
  (.cons (.ret (.call "lowest_terms" sp_lowest_terms (.cons (.bin .Add false (.bin .Mult false (.idx (.var 0) (.int 0)) (.idx (.var 1) (.int 1))) (.bin .Mult false (.idx (.var 1) (.int 0)) (.idx (.var 0) (.int 1)))) (.cons (.bin .Mult false (.idx (.var 0) (.int 1)) (.idx (.var 1) (.int 1))) .nil)))) .nil)
def n_plus : List Str := ["a", "b"]

theorem w_plus : ∀ vs s Q X, vs.length = 2 → sp_plus vs s Q X → wpFn n_plus.length b_plus vs s Q X := by
  intro vs s Q X hl h
  unfold sp_plus at h
  split at h
  · rename_i a b
    rw [fn_eq]
    unfold b_plus n_plus
    obtain ⟨x, y, ⟨n, d, rfl, h1, h2, h3, rfl⟩, ⟨m, e, rfl, k1, k2, k3, rfl⟩, h⟩ := h
    simp_all only [ss_nil]
    refine ⟨Sz.ok h2 k3, Sz.ok k2 h3, Sz.ok h3 k3, callS_of ⟨Int.mul_ne_zero (by omega) (by omega), Sz.mulSm h3 k3, s, .rfl, ?_⟩⟩
    rw [divInt_add (by omega) (by omega)]
    exact h
  · exact h.elim
def sp__law_compare : PSpec
  | [v, .str x, .int n], st, Q, _ => ∃ (r : Rat) (s : Sg) (m : Nat), Fr 3900 v r ∧ x = sgS s ∧ n = m ∧ m ≤ 1000 ∧ Q (.bl (sgH s r m)) st
  | _, _, _, _ => False
def b__law_compare : Ss :=
  (.cons (.asg (.name 3) (.idx (.var 0) (.int 0))) (.cons (.asg (.name 4) (.bin .Mult false (.var 2) (.idx (.var 0) (.int 1)))) (.cons (.ite (.cmp .Eq (.var 1) (.str "<")) (.cons (.ret (.cmp .Lt (.var 3) (.var 4))) .nil) .nil) (.cons (.ite (.cmp .Eq (.var 1) (.str "<=")) (.cons (.ret (.cmp .LtE (.var 3) (.var 4))) .nil) .nil) (.cons (.ite (.cmp .Eq (.var 1) (.str "=")) (.cons (.ret (.cmp .Eq (.var 3) (.var 4))) .nil) .nil) (.cons (.ite (.cmp .Eq (.var 1) (.str ">=")) (.cons (.ret (.cmp .GtE (.var 3) (.var 4))) .nil) .nil) (.cons (.ret (.cmp .Gt (.var 3) (.var 4))) .nil)))))))
def n__law_compare : List Str := ["value", "sign", "number", "left", "right"]
theorem w__law_compare : ∀ vs s Q X, vs.length = 3 → sp__law_compare vs s Q X → wpFn n__law_compare.length b__law_compare vs s Q X := by
  intro vs s Q X hl h
  unfold sp__law_compare at h
  split at h
  · rename_i v x n
    rw [fn_eq]
    unfold b__law_compare n__law_compare
    obtain ⟨r, sg, m, ⟨a, d, rfl, h1, h2, h3, rfl⟩, rfl, rfl, hm, h⟩ := h
    obtain ⟨g1, g2, g3, g4⟩ := sg_iff sg
    have mk : IntMulOk (m : Int) d := CMul.ok (.inl ⟨by omega, by omega⟩)
    have e1 := @divInt_lt_iff' a d m h1
    have e2 := @divInt_lt_iff a d m h1
    have e3 : (Rat.divInt a d ≤ ((m : Int) : Rat)) ↔ a ≤ m * d := by rw [← Rat.not_lt, e2, Int.not_lt]
    have e4 : (((m : Int) : Rat) ≤ Rat.divInt a d) ↔ m * d ≤ a := by rw [← Rat.not_lt, e1, Int.not_lt]
    have e5 : (Rat.divInt a d = ((m : Int) : Rat)) ↔ a = m * d := ⟨fun e => Int.le_antisymm (e3.mp (by rw [e]; exact Rat.le_refl)) (e4.mp (by rw [e]; exact Rat.le_refl)), fun e => Rat.le_antisymm (e3.mpr (by omega)) (e4.mpr (by omega))⟩
    simp_all only [ss_nil]
    (first | rw [Nx_eq] | rw [Arm_eq] | skip); (try simp_all only [ss_nil])
    refine ⟨mk, ?_⟩
    (first | rw [Nx_eq] | rw [Arm_eq] | skip); (try simp_all only [ss_nil])
    (first | rw [Nx_eq] | rw [Arm_eq] | skip); (try simp_all only [ss_nil])
    cases sg <;> unfold sgH at h <;> simp only [e1, e2, e3, e4, e5] at h
    · simp_all only [ss_nil, g1, Arm_eq]
      exact ⟨s, .rfl, h⟩
    · simp_all only [ss_nil, g1, g2, Arm_eq, Nx_eq]
      exact ⟨s, .rfl, h⟩
    · simp_all only [ss_nil, g1, g2, g3, Arm_eq, Nx_eq]
      exact ⟨s, .rfl, h⟩
    · simp_all only [ss_nil, g1, g2, g3, g4, Arm_eq, Nx_eq]
      exact ⟨s, .rfl, h⟩
    · simp_all only [ss_nil, g1, g2, g3, g4, Arm_eq, Nx_eq]
      exact ⟨s, .rfl, h⟩
  · exact h.elim
end TK

set_option maxRecDepth 100000
set_option maxHeartbeats 4000000
namespace TK
open PySem PySem.Spec PyProof.Rows L2
/-! ### ratios: order, floors, parts -/
theorem get_rat {l : List Rat} {i : Nat} {v : PV} (h : (l.map ratV)[i]? = some v) : ∃ x, v = ratV x ∧ l[i]? = some x := by
  rw [List.getElem?_map] at h
  cases e : l[i]? with
  | none => rw [e] at h; cases h
  | some x => rw [e] at h; cases h; exact ⟨x, rfl, rfl⟩
theorem take1 {α : Type} {l : List α} {i : Nat} {x : α} (h : l[i]? = some x) : l.take (i + 1) = l.take i ++ [x] := by
  rw [List.take_add_one, h]; rfl
theorem memAt {α : Type} {l : List α} {i : Nat} {v : α} (h : l[i]? = some v) : v ∈ l := List.mem_of_getElem? h
theorem Bd.sz {r : Rat} (h : Bd 3900 r) : Sz r.num ∧ Sz r.den := ⟨h.1, h.2⟩
theorem dpos (r : Rat) : (0 : Int) < r.den := by have := r.den_nz; omega
theorem dec_lt (x y : Rat) : decide (x.num * y.den < y.num * x.den) = decide (x < y) := by
  rw [decide_eq_decide]; exact (Rat.lt_iff x y).symm
theorem dec_le (x y : Rat) : decide (x.num * y.den ≤ y.num * x.den) = decide (x ≤ y) := by
  rw [decide_eq_decide]; exact (Rat.le_iff x y).symm
theorem cop_ratV {n d : Int} (hd : 0 < d) (h : Int.gcd n d = 1) : ratV (Rat.divInt n d) = .tup [.int n, .int d] := by
  unfold ratV
  rw [Rat.num_divInt, Rat.den_divInt, if_neg (by omega), Int.sign_eq_one_of_pos hd, Int.one_mul, Int.gcd_comm, h]
  have e1 : n / ((1 : Nat) : Int) = n := Int.ediv_one n
  have e2 : ((d.natAbs / 1 : Nat) : Int) = d := by rw [Nat.div_one]; omega
  rw [e1, e2]
theorem rat_gcd (r : Rat) : Int.gcd r.num r.den = 1 := r.reduced
def sp_is_less : PSpec
  | [a, b], st, Q, _ => ∃ x y : Rat, a = ratV x ∧ b = ratV y ∧ Bd 3900 x ∧ Bd 3900 y ∧ Q (.bl (decide (x < y))) st
  | _, _, _, _ => False
def b_is_less : Ss :=
  (.cons (.ret (.cmp .Lt (.bin .Mult false (.idx (.var 0) (.int 0)) (.idx (.var 1) (.int 1))) (.bin .Mult false (.idx (.var 1) (.int 0)) (.idx (.var 0) (.int 1))))) .nil)
def n_is_less : List Str := ["a", "b"]
theorem w_is_less : ∀ vs s Q X, vs.length = 2 → sp_is_less vs s Q X → wpFn n_is_less.length b_is_less vs s Q X := by
  intro vs s Q X hl h
  unfold sp_is_less at h
  split at h
  · rw [fn_eq]
    unfold b_is_less n_is_less
    obtain ⟨x, y, rfl, rfl, hx, hy, h⟩ := h
    rw [← dec_lt] at h
    simp_all only [ss_nil, Nx_nil, Arm_nil, sz_0, sz_1, sz_2, sz_3, sz_4, sz_5, sz_6, sz_7, sz_8, sz_9, sz_10, sz_11, sz_12, cp_2, cp_3, cp_4, cp_5, cp_6, cp_7, cp_12, cp_20, cp_30, cp_38, cp_39, cp_40, ratV]
    exact ⟨Sz.ok hx.sz.1 hy.sz.2, Sz.ok hy.sz.1 hx.sz.2, s, .rfl, h⟩
  · exact h.elim
def sp_is_most : PSpec
  | [a, b], st, Q, _ => ∃ x y : Rat, a = ratV x ∧ b = ratV y ∧ Bd 3900 x ∧ Bd 3900 y ∧ Q (.bl (decide (x ≤ y))) st
  | _, _, _, _ => False
def b_is_most : Ss :=
  (.cons (.ret (.cmp .LtE (.bin .Mult false (.idx (.var 0) (.int 0)) (.idx (.var 1) (.int 1))) (.bin .Mult false (.idx (.var 1) (.int 0)) (.idx (.var 0) (.int 1))))) .nil)
def n_is_most : List Str := ["a", "b"]
theorem w_is_most : ∀ vs s Q X, vs.length = 2 → sp_is_most vs s Q X → wpFn n_is_most.length b_is_most vs s Q X := by
  intro vs s Q X hl h
  unfold sp_is_most at h
  split at h
  · rw [fn_eq]
    unfold b_is_most n_is_most
    obtain ⟨x, y, rfl, rfl, hx, hy, h⟩ := h
    rw [← dec_le] at h
    simp_all only [ss_nil, Nx_nil, Arm_nil, sz_0, sz_1, sz_2, sz_3, sz_4, sz_5, sz_6, sz_7, sz_8, sz_9, sz_10, sz_11, sz_12, cp_2, cp_3, cp_4, cp_5, cp_6, cp_7, cp_12, cp_20, cp_30, cp_38, cp_39, cp_40, ratV]
    exact ⟨Sz.ok hx.sz.1 hy.sz.2, Sz.ok hy.sz.1 hx.sz.2, s, .rfl, h⟩
  · exact h.elim
def sp_floor_of : PSpec
  | [a], st, Q, _ => ∃ x : Rat, a = ratV x ∧ Bd 3900 x ∧ Q (.int (x.num.fdiv x.den)) st
  | _, _, _, _ => False
def b_floor_of : Ss :=
  (.cons (.ret (.bin .FloorDiv false (.idx (.var 0) (.int 0)) (.idx (.var 0) (.int 1)))) .nil)
def n_floor_of : List Str := ["a"]
theorem Bd.dv {r : Rat} (h : Bd 3900 r) : DivOk (r.den : Int) := h.sz.2.sm.div (by have := r.den_nz; omega)
theorem w_floor_of : ∀ vs s Q X, vs.length = 1 → sp_floor_of vs s Q X → wpFn n_floor_of.length b_floor_of vs s Q X := by
  intro vs s Q X hl h
  unfold sp_floor_of at h
  split at h
  · rw [fn_eq]
    unfold b_floor_of n_floor_of
    obtain ⟨x, rfl, hx, h⟩ := h
    simp_all only [ss_nil, Nx_nil, Arm_nil, sz_0, sz_1, sz_2, sz_3, sz_4, sz_5, sz_6, sz_7, sz_8, sz_9, sz_10, sz_11, sz_12, cp_2, cp_3, cp_4, cp_5, cp_6, cp_7, cp_12, cp_20, cp_30, cp_38, cp_39, cp_40, ratV]
    exact ⟨hx.dv, s, .rfl, h⟩
  · exact h.elim
def sp_ceil_of : PSpec
  | [a], st, Q, _ => ∃ x : Rat, a = ratV x ∧ Bd 3900 x ∧ Q (.int (-((-x.num).fdiv x.den))) st
  | _, _, _, _ => False
def b_ceil_of : Ss :=
  (.cons (.ret (.neg (.bin .FloorDiv false (.neg (.idx (.var 0) (.int 0))) (.idx (.var 0) (.int 1))))) .nil)
def n_ceil_of : List Str := ["a"]
theorem w_ceil_of : ∀ vs s Q X, vs.length = 1 → sp_ceil_of vs s Q X → wpFn n_ceil_of.length b_ceil_of vs s Q X := by
  intro vs s Q X hl h
  unfold sp_ceil_of at h
  split at h
  · rw [fn_eq]
    unfold b_ceil_of n_ceil_of
    obtain ⟨x, rfl, hx, h⟩ := h
    simp_all only [ss_nil, Nx_nil, Arm_nil, sz_0, sz_1, sz_2, sz_3, sz_4, sz_5, sz_6, sz_7, sz_8, sz_9, sz_10, sz_11, sz_12, cp_2, cp_3, cp_4, cp_5, cp_6, cp_7, cp_12, cp_20, cp_30, cp_38, cp_39, cp_40, ratV]
    exact ⟨hx.dv, s, .rfl, h⟩
  · exact h.elim
theorem fdiv_abs {n d : Int} (hd : 0 < d) : (n.fdiv d).natAbs ≤ n.natAbs := by
  rw [Int.fdiv_eq_ediv_of_nonneg _ (by omega)]
  exact Int.natAbs_ediv_le_natAbs _ _
theorem part_ratV (x : Rat) : ratV (Rat.divInt (x.num - x.den * (x.num.fdiv x.den)) x.den) = .tup [.int (x.num - x.num.fdiv x.den * x.den), .int x.den] := by
  rw [cop_ratV (dpos x), Int.mul_comm (x.den : Int)]
  have e : x.num - x.den * (x.num.fdiv x.den) = x.num + (x.den : Int) * (-(x.num.fdiv x.den)) := by rw [Int.mul_neg]; omega
  rw [e, Int.gcd_comm, Int.gcd_add_mul_left_right, Int.gcd_comm]
  exact rat_gcd x
def sp_part_of : PSpec
  | [a], st, Q, _ => ∃ x : Rat, a = ratV x ∧ Bd 3900 x ∧ Q (.tup [.int (x.num - x.num.fdiv x.den * x.den), .int x.den]) st
  | _, _, _, _ => False
def b_part_of : Ss :=
  (.cons (.ret (.call "lowest_terms" sp_lowest_terms (.cons (.bin .Sub false (.idx (.var 0) (.int 0)) (.bin .Mult false (.idx (.var 0) (.int 1)) (.bin .FloorDiv false (.idx (.var 0) (.int 0)) (.idx (.var 0) (.int 1))))) (.cons (.idx (.var 0) (.int 1)) .nil)))) .nil)
def n_part_of : List Str := ["a"]
theorem w_part_of : ∀ vs s Q X, vs.length = 1 → sp_part_of vs s Q X → wpFn n_part_of.length b_part_of vs s Q X := by
  intro vs s Q X hl h
  unfold sp_part_of at h
  split at h
  · rw [fn_eq]
    unfold b_part_of n_part_of
    obtain ⟨x, rfl, hx, h⟩ := h
    have hf : Sz (x.num.fdiv x.den) := Nat.lt_of_le_of_lt (fdiv_abs (dpos x)) hx.1
    simp_all only [ss_nil, Nx_nil, Arm_nil, sz_0, sz_1, sz_2, sz_3, sz_4, sz_5, sz_6, sz_7, sz_8, sz_9, sz_10, sz_11, sz_12, cp_2, cp_3, cp_4, cp_5, cp_6, cp_7, cp_12, cp_20, cp_30, cp_38, cp_39, cp_40, ratV]
    refine ⟨hx.dv, Sz.ok hx.sz.2 hf, callS_of ⟨by have := x.den_nz; omega, hx.sz.2.sm, s, .rfl, ?_⟩⟩
    rw [part_ratV]
    exact h
  · exact h.elim
def midR (x y : Rat) : Rat := Rat.divInt (x.num * y.den + y.num * x.den) (2 * x.den * y.den)
def sp_middle_of : PSpec
  | [a, b], st, Q, _ => ∃ x y : Rat, a = ratV x ∧ b = ratV y ∧ Bd 1000 x ∧ Bd 1000 y ∧ Q (ratV (midR x y)) st
  | _, _, _, _ => False
def b_middle_of : Ss :=
  (.cons (.ret (.call "lowest_terms" sp_lowest_terms (.cons (.bin .Add false (.bin .Mult false (.idx (.var 0) (.int 0)) (.idx (.var 1) (.int 1))) (.bin .Mult false (.idx (.var 1) (.int 0)) (.idx (.var 0) (.int 1)))) (.cons (.bin .Mult false (.bin .Mult false (.int 2) (.idx (.var 0) (.int 1))) (.idx (.var 1) (.int 1))) .nil)))) .nil)
def n_middle_of : List Str := ["a", "b"]
theorem w_middle_of : ∀ vs s Q X, vs.length = 2 → sp_middle_of vs s Q X → wpFn n_middle_of.length b_middle_of vs s Q X := by
  intro vs s Q X hl h
  unfold sp_middle_of at h
  split at h
  · rw [fn_eq]
    unfold b_middle_of n_middle_of
    obtain ⟨x, y, rfl, rfl, hx, hy, h⟩ := h
    have hx' := (hx.mono (show 1000 ≤ 3900 by decide)).sz
    have hy' := (hy.mono (show 1000 ≤ 3900 by decide)).sz
    have h2 : Sz 2 := .of (by decide)
    have e1 : (2 * (x.den : Int)).natAbs < 2 ^ 1001 := by
      have := hx.2
      rw [Nat.pow_succ]; omega
    have h2d : Sz (2 * (x.den : Int)) := Nat.lt_of_lt_of_le e1 (pow2_le (by decide))
    have nz : 2 * (x.den : Int) * y.den ≠ 0 := by
      have := (dpos x)
      have := (dpos y)
      exact Int.mul_ne_zero (by omega) (by omega)
    simp_all only [ss_nil, Nx_nil, Arm_nil, sz_0, sz_1, sz_2, sz_3, sz_4, sz_5, sz_6, sz_7, sz_8, sz_9, sz_10, sz_11, sz_12, cp_2, cp_3, cp_4, cp_5, cp_6, cp_7, cp_12, cp_20, cp_30, cp_38, cp_39, cp_40, ratV]
    exact ⟨Sz.ok hx'.1 hy'.2, Sz.ok hy'.1 hx'.2, Sz.ok h2 hx'.2, Sz.ok h2d hy'.2, callS_of ⟨nz, Sz.mulSm h2d hy'.2, s, .rfl, h⟩⟩
  · exact h.elim
/-! ### of many ratios -/
def totR (l : List Rat) : Rat := l.foldl (· + ·) 0
def B140 (l : List Rat) : Prop := l.length ≤ 25 ∧ ∀ x ∈ l, Bd 140 x
theorem tot_take {l : List Rat} {i : Nat} {x : Rat} (h : l[i]? = some x) : totR (l.take (i + 1)) = totR (l.take i) + x := by
  unfold totR
  rw [take1 h, List.foldl_append]; rfl
theorem tot_bd {l : List Rat} (h : ∀ x ∈ l, Bd 140 x) : ∀ i, i ≤ l.length → Bd (141 * i + 1) (totR (l.take i))
  | 0, _ => by
    rw [List.take_zero]
    exact ⟨by decide, by decide⟩
  | i + 1, hi => by
    have e : l[i]? = some l[i] := List.getElem?_eq_getElem hi
    rw [tot_take e]
    exact ((tot_bd h i (by omega)).add (h _ (List.getElem_mem hi))).mono (by omega)
def sp_total_of : PSpec
  | [.tup xs], st, Q, _ => ∃ l : List Rat, xs = l.map ratV ∧ B140 l ∧ Q (ratV (totR l)) st
  | _, _, _, _ => False
def b_total_of_1 : Ss :=
  (.cons (.asg (.name 1) (.call "plus" sp_plus (.cons (.var 1) (.cons (.var 2) .nil)))) .nil)
def b_total_of : Ss :=
  (.cons (.asg (.name 1) (.glob "ZERO" (.tup [.int 0, .int 1]))) (.cons (.loop (.name 2) (.val (.var 0)) b_total_of_1) (.cons (.ret (.var 1)) .nil)))
def n_total_of : List Str := ["ratios", "total", "one"]
theorem w_total_of : ∀ vs s Q X, vs.length = 1 → sp_total_of vs s Q X → wpFn n_total_of.length b_total_of vs s Q X := by
  intro vs s Q X hl h
  unfold sp_total_of at h
  split at h
  · rw [fn_eq]
    unfold b_total_of n_total_of
    obtain ⟨l, rfl, ⟨hl, hb⟩, h⟩ := h
    simp_all only [ss_nil, Nx_nil, Arm_nil, sz_0, sz_1, sz_2, sz_3, sz_4, sz_5, sz_6, sz_7, sz_8, sz_9, sz_10, sz_11, sz_12, cp_2, cp_3, cp_4, cp_5, cp_6, cp_7, cp_12, cp_20, cp_30, cp_38, cp_39, cp_40]
    (first | rw [Nx_eq] | rw [Arm_eq] | skip); (try simp_all only [ss_nil, Nx_nil, Arm_nil, sz_0, sz_1, sz_2, sz_3, sz_4, sz_5, sz_6, sz_7, sz_8, sz_9, sz_10, sz_11, sz_12, cp_2, cp_3, cp_4, cp_5, cp_6, cp_7, cp_12, cp_20, cp_30, cp_38, cp_39, cp_40])
    refine for_at (fun i τ st => st = s ∧ ∃ o, τ = [some (.tup (l.map ratV)), some (ratV (totR (l.take i))), o]) ?_ ?_ ⟨rfl, _, rfl⟩
    · rintro i v τ st hi ⟨rfl, o, rfl⟩
      obtain ⟨x, rfl, hx⟩ := get_rat hi
      have il : i < l.length := (List.getElem?_eq_some_iff.mp hx).1
      refine ⟨trivial, ?_⟩
      unfold b_total_of_1
      simp_all only [ss_nil, Nx_nil, Arm_nil, sz_0, sz_1, sz_2, sz_3, sz_4, sz_5, sz_6, sz_7, sz_8, sz_9, sz_10, sz_11, sz_12, cp_2, cp_3, cp_4, cp_5, cp_6, cp_7, cp_12, cp_20, cp_30, cp_38, cp_39, cp_40]
      refine callS_of ⟨_, x, ((tot_bd hb i (by omega)).mono (by omega)).fr, ((hb x (memAt hx)).mono (by decide)).fr, ?_⟩
      rw [← tot_take hx]
      simp_all only [ss_nil, Nx_nil, Arm_nil, sz_0, sz_1, sz_2, sz_3, sz_4, sz_5, sz_6, sz_7, sz_8, sz_9, sz_10, sz_11, sz_12, cp_2, cp_3, cp_4, cp_5, cp_6, cp_7, cp_12, cp_20, cp_30, cp_38, cp_39, cp_40]
      exact ⟨_, rfl⟩
    · rintro τ st ⟨rfl, o, rfl⟩
      refine ⟨trivial, ?_⟩
      rw [List.length_map, List.take_length]
      simp_all only [ss_nil, Nx_nil, Arm_nil, sz_0, sz_1, sz_2, sz_3, sz_4, sz_5, sz_6, sz_7, sz_8, sz_9, sz_10, sz_11, sz_12, cp_2, cp_3, cp_4, cp_5, cp_6, cp_7, cp_12, cp_20, cp_30, cp_38, cp_39, cp_40]
      (first | rw [Nx_eq] | rw [Arm_eq] | skip); (try simp_all only [ss_nil, Nx_nil, Arm_nil, sz_0, sz_1, sz_2, sz_3, sz_4, sz_5, sz_6, sz_7, sz_8, sz_9, sz_10, sz_11, sz_12, cp_2, cp_3, cp_4, cp_5, cp_6, cp_7, cp_12, cp_20, cp_30, cp_38, cp_39, cp_40])
      exact ⟨st, .rfl, h⟩
  · exact h.elim
def sp_least_of : PSpec
  | [.tup xs], st, Q, _ => ∃ l : List Rat, xs = l.map ratV ∧ l ≠ [] ∧ B140 l ∧ ∀ r ∈ l, (∀ x ∈ l, r ≤ x) → Q (ratV r) st
  | _, _, _, _ => False
theorem head_at {l : List Rat} (h : l ≠ []) : ∃ x ∈ l, atI (l.map ratV) 0 = some (ratV x) := by
  cases l with
  | nil => exact absurd rfl h
  | cons x r => exact ⟨x, List.mem_cons_self, atI_0⟩
def b_least_of_1 : Ss :=
  (.cons (.ite (.val (.call "is_less" sp_is_less (.cons (.var 2) (.cons (.var 1) .nil)))) (.cons (.asg (.name 1) (.var 2)) .nil) .nil) .nil)
def b_least_of : Ss :=
  (.cons (.asg (.name 1) (.idx (.var 0) (.int 0))) (.cons (.loop (.name 2) (.val (.var 0)) b_least_of_1) (.cons (.ret (.var 1)) .nil)))
def n_least_of : List Str := ["ratios", "best", "one"]
theorem w_least_of : ∀ vs s Q X, vs.length = 1 → sp_least_of vs s Q X → wpFn n_least_of.length b_least_of vs s Q X := by
  intro vs s Q X hl h
  unfold sp_least_of at h
  split at h
  · rw [fn_eq]
    unfold b_least_of n_least_of
    obtain ⟨l, rfl, hne, ⟨hl, hb⟩, h⟩ := h
    obtain ⟨x0, hx0, e0⟩ := head_at hne
    simp_all only [ss_nil, Nx_nil, Arm_nil, sz_0, sz_1, sz_2, sz_3, sz_4, sz_5, sz_6, sz_7, sz_8, sz_9, sz_10, sz_11, sz_12, cp_2, cp_3, cp_4, cp_5, cp_6, cp_7, cp_12, cp_20, cp_30, cp_38, cp_39, cp_40, e0]
    (first | rw [Nx_eq] | rw [Arm_eq] | skip); (try simp_all only [ss_nil, Nx_nil, Arm_nil, sz_0, sz_1, sz_2, sz_3, sz_4, sz_5, sz_6, sz_7, sz_8, sz_9, sz_10, sz_11, sz_12, cp_2, cp_3, cp_4, cp_5, cp_6, cp_7, cp_12, cp_20, cp_30, cp_38, cp_39, cp_40])
    refine for_at (fun i τ st => st = s ∧ ∃ o r, τ = [some (.tup (l.map ratV)), some (ratV r), o] ∧ r ∈ l ∧ ∀ x ∈ l.take i, r ≤ x) ?_ ?_ ⟨rfl, _, x0, rfl, hx0, fun x hx => by simp at hx⟩
    · rintro i v τ st hi ⟨rfl, o, r, rfl, hr, hall⟩
      obtain ⟨x, rfl, hx⟩ := get_rat hi
      refine ⟨trivial, ?_⟩
      unfold b_least_of_1
      simp_all only [ss_nil, Nx_nil, Arm_nil, sz_0, sz_1, sz_2, sz_3, sz_4, sz_5, sz_6, sz_7, sz_8, sz_9, sz_10, sz_11, sz_12, cp_2, cp_3, cp_4, cp_5, cp_6, cp_7, cp_12, cp_20, cp_30, cp_38, cp_39, cp_40]
      refine callS_of ⟨x, r, rfl, rfl, (hb x (memAt hx)).mono (by decide), (hb r hr).mono (by decide), ?_⟩
      simp_all only [ss_nil, Nx_nil, Arm_nil, sz_0, sz_1, sz_2, sz_3, sz_4, sz_5, sz_6, sz_7, sz_8, sz_9, sz_10, sz_11, sz_12, cp_2, cp_3, cp_4, cp_5, cp_6, cp_7, cp_12, cp_20, cp_30, cp_38, cp_39, cp_40]
      split
      · rename_i hlt
        (first | rw [Nx_eq] | rw [Arm_eq] | skip); (try simp_all only [ss_nil, Nx_nil, Arm_nil, sz_0, sz_1, sz_2, sz_3, sz_4, sz_5, sz_6, sz_7, sz_8, sz_9, sz_10, sz_11, sz_12, cp_2, cp_3, cp_4, cp_5, cp_6, cp_7, cp_12, cp_20, cp_30, cp_38, cp_39, cp_40])
        refine ⟨_, x, rfl, memAt hx, fun y hy => ?_⟩
        rw [take1 hx] at hy
        rcases List.mem_append.mp hy with hy | hy
        · exact Rat.le_trans (Rat.le_of_lt hlt) (hall y hy)
        · rw [List.mem_singleton.mp hy]; exact Rat.le_refl
      · rename_i hlt
        refine ⟨_, r, rfl, hr, fun y hy => ?_⟩
        rw [take1 hx] at hy
        rcases List.mem_append.mp hy with hy | hy
        · exact hall y hy
        · rw [List.mem_singleton.mp hy]; exact Rat.not_lt.mp hlt
    · rintro τ st ⟨rfl, o, r, rfl, hr, hall⟩
      refine ⟨trivial, ?_⟩
      rw [List.length_map, List.take_length] at hall
      simp_all only [ss_nil, Nx_nil, Arm_nil, sz_0, sz_1, sz_2, sz_3, sz_4, sz_5, sz_6, sz_7, sz_8, sz_9, sz_10, sz_11, sz_12, cp_2, cp_3, cp_4, cp_5, cp_6, cp_7, cp_12, cp_20, cp_30, cp_38, cp_39, cp_40]
      (first | rw [Nx_eq] | rw [Arm_eq] | skip); (try simp_all only [ss_nil, Nx_nil, Arm_nil, sz_0, sz_1, sz_2, sz_3, sz_4, sz_5, sz_6, sz_7, sz_8, sz_9, sz_10, sz_11, sz_12, cp_2, cp_3, cp_4, cp_5, cp_6, cp_7, cp_12, cp_20, cp_30, cp_38, cp_39, cp_40])
      exact ⟨st, .rfl, h r hr hall⟩
  · exact h.elim
def sp_greatest_of : PSpec
  | [.tup xs], st, Q, _ => ∃ l : List Rat, xs = l.map ratV ∧ l ≠ [] ∧ B140 l ∧ ∀ r ∈ l, (∀ x ∈ l, x ≤ r) → Q (ratV r) st
  | _, _, _, _ => False
def b_greatest_of_1 : Ss :=
  (.cons (.ite (.val (.call "is_less" sp_is_less (.cons (.var 1) (.cons (.var 2) .nil)))) (.cons (.asg (.name 1) (.var 2)) .nil) .nil) .nil)
def b_greatest_of : Ss :=
  (.cons (.asg (.name 1) (.idx (.var 0) (.int 0))) (.cons (.loop (.name 2) (.val (.var 0)) b_greatest_of_1) (.cons (.ret (.var 1)) .nil)))
def n_greatest_of : List Str := ["ratios", "best", "one"]
theorem w_greatest_of : ∀ vs s Q X, vs.length = 1 → sp_greatest_of vs s Q X → wpFn n_greatest_of.length b_greatest_of vs s Q X := by
  intro vs s Q X hl h
  unfold sp_greatest_of at h
  split at h
  · rw [fn_eq]
    unfold b_greatest_of n_greatest_of
    obtain ⟨l, rfl, hne, ⟨hl, hb⟩, h⟩ := h
    obtain ⟨x0, hx0, e0⟩ := head_at hne
    simp_all only [ss_nil, Nx_nil, Arm_nil, sz_0, sz_1, sz_2, sz_3, sz_4, sz_5, sz_6, sz_7, sz_8, sz_9, sz_10, sz_11, sz_12, cp_2, cp_3, cp_4, cp_5, cp_6, cp_7, cp_12, cp_20, cp_30, cp_38, cp_39, cp_40, e0]
    (first | rw [Nx_eq] | rw [Arm_eq] | skip); (try simp_all only [ss_nil, Nx_nil, Arm_nil, sz_0, sz_1, sz_2, sz_3, sz_4, sz_5, sz_6, sz_7, sz_8, sz_9, sz_10, sz_11, sz_12, cp_2, cp_3, cp_4, cp_5, cp_6, cp_7, cp_12, cp_20, cp_30, cp_38, cp_39, cp_40])
    refine for_at (fun i τ st => st = s ∧ ∃ o r, τ = [some (.tup (l.map ratV)), some (ratV r), o] ∧ r ∈ l ∧ ∀ x ∈ l.take i, x ≤ r) ?_ ?_ ⟨rfl, _, x0, rfl, hx0, fun x hx => by simp at hx⟩
    · rintro i v τ st hi ⟨rfl, o, r, rfl, hr, hall⟩
      obtain ⟨x, rfl, hx⟩ := get_rat hi
      refine ⟨trivial, ?_⟩
      unfold b_greatest_of_1
      simp_all only [ss_nil, Nx_nil, Arm_nil, sz_0, sz_1, sz_2, sz_3, sz_4, sz_5, sz_6, sz_7, sz_8, sz_9, sz_10, sz_11, sz_12, cp_2, cp_3, cp_4, cp_5, cp_6, cp_7, cp_12, cp_20, cp_30, cp_38, cp_39, cp_40]
      refine callS_of ⟨r, x, rfl, rfl, (hb r hr).mono (by decide), (hb x (memAt hx)).mono (by decide), ?_⟩
      simp_all only [ss_nil, Nx_nil, Arm_nil, sz_0, sz_1, sz_2, sz_3, sz_4, sz_5, sz_6, sz_7, sz_8, sz_9, sz_10, sz_11, sz_12, cp_2, cp_3, cp_4, cp_5, cp_6, cp_7, cp_12, cp_20, cp_30, cp_38, cp_39, cp_40]
      split
      · rename_i hlt
        (first | rw [Nx_eq] | rw [Arm_eq] | skip); (try simp_all only [ss_nil, Nx_nil, Arm_nil, sz_0, sz_1, sz_2, sz_3, sz_4, sz_5, sz_6, sz_7, sz_8, sz_9, sz_10, sz_11, sz_12, cp_2, cp_3, cp_4, cp_5, cp_6, cp_7, cp_12, cp_20, cp_30, cp_38, cp_39, cp_40])
        refine ⟨_, x, rfl, memAt hx, fun y hy => ?_⟩
        rw [take1 hx] at hy
        rcases List.mem_append.mp hy with hy | hy
        · exact Rat.le_trans (hall y hy) (Rat.le_of_lt hlt)
        · rw [List.mem_singleton.mp hy]; exact Rat.le_refl
      · rename_i hlt
        refine ⟨_, r, rfl, hr, fun y hy => ?_⟩
        rw [take1 hx] at hy
        rcases List.mem_append.mp hy with hy | hy
        · exact hall y hy
        · rw [List.mem_singleton.mp hy]; exact Rat.not_lt.mp hlt
    · rintro τ st ⟨rfl, o, r, rfl, hr, hall⟩
      refine ⟨trivial, ?_⟩
      rw [List.length_map, List.take_length] at hall
      simp_all only [ss_nil, Nx_nil, Arm_nil, sz_0, sz_1, sz_2, sz_3, sz_4, sz_5, sz_6, sz_7, sz_8, sz_9, sz_10, sz_11, sz_12, cp_2, cp_3, cp_4, cp_5, cp_6, cp_7, cp_12, cp_20, cp_30, cp_38, cp_39, cp_40]
      (first | rw [Nx_eq] | rw [Arm_eq] | skip); (try simp_all only [ss_nil, Nx_nil, Arm_nil, sz_0, sz_1, sz_2, sz_3, sz_4, sz_5, sz_6, sz_7, sz_8, sz_9, sz_10, sz_11, sz_12, cp_2, cp_3, cp_4, cp_5, cp_6, cp_7, cp_12, cp_20, cp_30, cp_38, cp_39, cp_40])
      exact ⟨st, .rfl, h r hr hall⟩
  · exact h.elim
/-- the least common denominator -/
def comR (l : List Rat) : Nat := l.foldl (fun c x => Nat.lcm c x.den) 1
theorem com_take {l : List Rat} {i : Nat} {x : Rat} (h : l[i]? = some x) : comR (l.take (i + 1)) = Nat.lcm (comR (l.take i)) x.den := by
  unfold comR
  rw [take1 h, List.foldl_append]; rfl
theorem lcm_eq {a b : Nat} (hb : 0 < b) : Nat.lcm a b = a / Nat.gcd a b * b := by
  unfold Nat.lcm
  obtain ⟨k, hk⟩ := Nat.gcd_dvd_left a b
  have hg : 0 < Nat.gcd a b := Nat.gcd_pos_of_pos_right _ hb
  generalize Nat.gcd a b = g at *
  subst hk
  rw [Nat.mul_assoc, Nat.mul_div_cancel_left _ hg, Nat.mul_div_cancel_left _ hg]
theorem com_bd {l : List Rat} (h : ∀ x ∈ l, Bd 140 x) : ∀ i, i ≤ l.length → 0 < comR (l.take i) ∧ comR (l.take i) < 2 ^ (140 * i + 1)
  | 0, _ => by
    rw [List.take_zero]
    exact ⟨by decide, by decide⟩
  | i + 1, hi => by
    have e : l[i]? = some l[i] := List.getElem?_eq_getElem hi
    obtain ⟨a, b⟩ := com_bd h i (by omega)
    have hd := (h _ (List.getElem_mem hi)).2
    have hz : 0 < (l[i]).den := Nat.pos_of_ne_zero (l[i]).den_nz
    rw [com_take e]
    refine ⟨Nat.lcm_pos a hz, ?_⟩
    rw [lcm_eq hz]
    refine Nat.lt_of_le_of_lt (Nat.mul_le_mul_right _ (Nat.div_le_self _ _)) ?_
    have := mul_pow b hd
    rwa [show 140 * (i + 1) + 1 = 140 * i + 1 + 140 by omega]
def sp_common_of : PSpec
  | [.tup xs], st, Q, _ => ∃ l : List Rat, xs = l.map ratV ∧ B140 l ∧ Q (.int (comR l)) st
  | _, _, _, _ => False
def b_common_of_1 : Ss :=
  (.cons (.asg (.name 1) (.bin .Mult false (.bin .FloorDiv false (.var 1) (.call "common_factor" sp_common_factor (.cons (.var 1) (.cons (.idx (.var 2) (.int 1)) .nil)))) (.idx (.var 2) (.int 1)))) .nil)
def b_common_of : Ss :=
  (.cons (.asg (.name 1) (.int 1)) (.cons (.loop (.name 2) (.val (.var 0)) b_common_of_1) (.cons (.ret (.var 1)) .nil)))
def n_common_of : List Str := ["ratios", "common", "one"]
theorem w_common_of : ∀ vs s Q X, vs.length = 1 → sp_common_of vs s Q X → wpFn n_common_of.length b_common_of vs s Q X := by
  intro vs s Q X hl h
  unfold sp_common_of at h
  split at h
  · rw [fn_eq]
    unfold b_common_of n_common_of
    obtain ⟨l, rfl, ⟨hl, hb⟩, h⟩ := h
    simp_all only [ss_nil, Nx_nil, Arm_nil, sz_0, sz_1, sz_2, sz_3, sz_4, sz_5, sz_6, sz_7, sz_8, sz_9, sz_10, sz_11, sz_12, cp_2, cp_3, cp_4, cp_5, cp_6, cp_7, cp_12, cp_20, cp_30, cp_38, cp_39, cp_40]
    (first | rw [Nx_eq] | rw [Arm_eq] | skip); (try simp_all only [ss_nil, Nx_nil, Arm_nil, sz_0, sz_1, sz_2, sz_3, sz_4, sz_5, sz_6, sz_7, sz_8, sz_9, sz_10, sz_11, sz_12, cp_2, cp_3, cp_4, cp_5, cp_6, cp_7, cp_12, cp_20, cp_30, cp_38, cp_39, cp_40])
    refine for_at (fun i τ st => st = s ∧ ∃ o, τ = [some (.tup (l.map ratV)), some (.int (comR (l.take i))), o]) ?_ ?_ ⟨rfl, _, rfl⟩
    · rintro i v τ st hi ⟨rfl, o, rfl⟩
      obtain ⟨x, rfl, hx⟩ := get_rat hi
      have il : i < l.length := (List.getElem?_eq_some_iff.mp hx).1
      obtain ⟨c1, c2⟩ := com_bd hb i (by omega)
      have hxb := hb x (memAt hx)
      have hz : 0 < x.den := Nat.pos_of_ne_zero x.den_nz
      refine ⟨trivial, ?_⟩
      unfold b_common_of_1
      have ct := com_take hx
      rw [lcm_eq hz] at ct
      revert c1 c2 ct
      generalize comR (l.take i) = c
      intro c1 c2 ct
      have rv : ratV x = .tup [.int x.num, .int x.den] := rfl
      simp_all only [ss_nil, Nx_nil, Arm_nil, sz_0, sz_1, sz_2, sz_3, sz_4, sz_5, sz_6, sz_7, sz_8, sz_9, sz_10, sz_11, sz_12, cp_2, cp_3, cp_4, cp_5, cp_6, cp_7, cp_12, cp_20, cp_30, cp_38, cp_39, cp_40, rv]
      refine callS_of ?_
      unfold sp_common_factor
      have hg : 0 < Nat.gcd c x.den := Nat.gcd_pos_of_pos_right _ hz
      have hg2 : Nat.gcd c x.den ≤ x.den := Nat.gcd_le_right _ hz
      have eg : Int.gcd (c : Int) (x.den : Int) = Nat.gcd c x.den := rfl
      have ed : ((c : Int).fdiv ((Nat.gcd c x.den : Nat) : Int)) = ((c / Nat.gcd c x.den : Nat) : Int) := by
        rw [Int.fdiv_eq_ediv_of_nonneg _ (by omega)]; rfl
      simp_all only [ss_nil, Nx_nil, Arm_nil, sz_0, sz_1, sz_2, sz_3, sz_4, sz_5, sz_6, sz_7, sz_8, sz_9, sz_10, sz_11, sz_12, cp_2, cp_3, cp_4, cp_5, cp_6, cp_7, cp_12, cp_20, cp_30, cp_38, cp_39, cp_40, eg, ed]
      have s1 : Sm ((Nat.gcd c x.den : Nat) : Int) := Nat.lt_of_le_of_lt (by simpa using hg2) (Nat.lt_of_lt_of_le hxb.2 (pow2_le (by decide)))
      have s2 : Sz ((c / Nat.gcd c x.den : Nat) : Int) := Nat.lt_of_le_of_lt (by rw [Int.natAbs_natCast]; exact Nat.div_le_self c _) (Nat.lt_of_lt_of_le c2 (pow2_le (by omega)))
      refine ⟨s1.div (by omega), Sz.ok s2 (hxb.mono (by decide)).sz.2, some (ratV x), ?_⟩
      rw [ct]
      rfl
    · rintro τ st ⟨rfl, o, rfl⟩
      refine ⟨trivial, ?_⟩
      rw [List.length_map, List.take_length]
      simp_all only [ss_nil, Nx_nil, Arm_nil, sz_0, sz_1, sz_2, sz_3, sz_4, sz_5, sz_6, sz_7, sz_8, sz_9, sz_10, sz_11, sz_12, cp_2, cp_3, cp_4, cp_5, cp_6, cp_7, cp_12, cp_20, cp_30, cp_38, cp_39, cp_40]
      (first | rw [Nx_eq] | rw [Arm_eq] | skip); (try simp_all only [ss_nil, Nx_nil, Arm_nil, sz_0, sz_1, sz_2, sz_3, sz_4, sz_5, sz_6, sz_7, sz_8, sz_9, sz_10, sz_11, sz_12, cp_2, cp_3, cp_4, cp_5, cp_6, cp_7, cp_12, cp_20, cp_30, cp_38, cp_39, cp_40])
      exact ⟨st, .rfl, h⟩
  · exact h.elim
end TK

set_option maxRecDepth 100000
set_option maxHeartbeats 4000000
namespace TK
open PySem PySem.Spec PyProof.Rows L2
/-! ### whole numbers, asked and refused -/
theorem fld_bv : fldOf "BadValue" = ("what" : Str) := by decide
def sp_is_int : PSpec
  | [v], st, Q, _ => noRef v = true ∧ Q (.bl (isI v)) st
  | _, _, _, _ => False
def b_is_int : Ss :=
  (.cons (.ret (.bools .And (.cons (.isi (.var 0) "int") (.cons (.not (.isi (.var 0) "bool")) .nil)))) .nil)
def n_is_int : List Str := ["value"]
theorem w_is_int : ∀ vs s Q X, vs.length = 1 → sp_is_int vs s Q X → wpFn n_is_int.length b_is_int vs s Q X := by
  intro vs s Q X hl h
  unfold sp_is_int at h
  split at h
  · rename_i v
    rw [fn_eq]
    unfold b_is_int n_is_int
    obtain ⟨h1, h2⟩ := h
    have e1 : (("int" : Str) == ("int" : Str)) = true := by decide
    have e2 : (("int" : Str) == ("bool" : Str)) = false := by decide
    have e3 : (("tuple" : Str) == ("int" : Str)) = false := by decide
    have e4 : (("bool" : Str) == ("int" : Str)) = false := by decide
    have e5 : (("bool" : Str) == ("bool" : Str)) = true := by decide
    have e6 : (("list" : Str) == ("int" : Str)) = false := by decide
    have e7 : (("str" : Str) == ("int" : Str)) = false := by decide
    have e8 : (("int" : Str) == ("tuple" : Str)) = false := by decide
    have e9 : (("int" : Str) == ("list" : Str)) = false := by decide
    have e10 : (("int" : Str) == ("str" : Str)) = false := by decide
    cases v <;> first | (cases h1; done) | (simp_all only [ss_nil, Nx_nil, Arm_nil, sz_0, sz_1, sz_2, sz_3, sz_4, sz_5, sz_6, sz_7, sz_8, sz_9, sz_10, sz_11, sz_12, cp_2, cp_3, cp_4, cp_5, cp_6, cp_7, cp_12, cp_20, cp_30, cp_38, cp_39, cp_40, e1, e2, e3, e4, e5, e6, e7, e8, e9, e10, Bool.or_true, Bool.or_false]; exact ⟨s, .rfl, h2⟩)
  · exact h.elim
def errW (w : Str) : Exn := ("BadValue", [("what", .str w)])
def wholeB (v : PV) (lo : Int) (h : PV) : Bool := match v with
  | .int n => decide (lo ≤ n) && (match h with
    | .int k => decide (n ≤ k)
    | _ => true)
  | _ => false
def endP (h : PV) : Prop := h = .non ∨ ∃ k, h = .int k
def sp_is_whole : PSpec
  | [v, .int lo, h], st, Q, _ => noRef v = true ∧ endP h ∧ Q (.bl (wholeB v lo h)) st
  | _, _, _, _ => False
def b_is_whole : Ss :=
  (.cons (.ite (.bools .Or (.cons (.not (.val (.call "is_int" sp_is_int (.cons (.var 0) .nil)))) (.cons (.cmp .Lt (.var 0) (.var 1)) .nil))) (.cons (.ret (.bl false)) .nil) .nil) (.cons (.ret (.bools .Or (.cons (.cmp .Is (.var 2) .non) (.cons (.cmp .LtE (.var 0) (.var 2)) .nil)))) .nil))
def n_is_whole : List Str := ["value", "low", "high"]
theorem w_is_whole : ∀ vs s Q X, vs.length = 3 → sp_is_whole vs s Q X → wpFn n_is_whole.length b_is_whole vs s Q X := by
  intro vs s Q X hl h
  unfold sp_is_whole at h
  split at h
  · rename_i v lo hi
    rw [fn_eq]
    unfold b_is_whole n_is_whole
    obtain ⟨hn, he, h⟩ := h
    simp_all only [ss_nil, Nx_nil, Arm_nil, sz_0, sz_1, sz_2, sz_3, sz_4, sz_5, sz_6, sz_7, sz_8, sz_9, sz_10, sz_11, sz_12, cp_2, cp_3, cp_4, cp_5, cp_6, cp_7, cp_12, cp_20, cp_30, cp_38, cp_39, cp_40]
    refine callS_of ⟨hn, ?_⟩
    cases e : isI v with
    | false =>
      simp_all only [ss_nil, Nx_nil, Arm_nil, sz_0, sz_1, sz_2, sz_3, sz_4, sz_5, sz_6, sz_7, sz_8, sz_9, sz_10, sz_11, sz_12, cp_2, cp_3, cp_4, cp_5, cp_6, cp_7, cp_12, cp_20, cp_30, cp_38, cp_39, cp_40]
      (first | rw [Nx_eq] | rw [Arm_eq] | skip); (try simp_all only [ss_nil, Nx_nil, Arm_nil, sz_0, sz_1, sz_2, sz_3, sz_4, sz_5, sz_6, sz_7, sz_8, sz_9, sz_10, sz_11, sz_12, cp_2, cp_3, cp_4, cp_5, cp_6, cp_7, cp_12, cp_20, cp_30, cp_38, cp_39, cp_40])
      have e1 : wholeB v lo hi = false := by cases v <;> first | rfl | cases e
      rw [e1] at h
      exact ⟨s, .rfl, h⟩
    | true =>
      obtain ⟨n, rfl⟩ : ∃ n, v = .int n := by cases v <;> first | exact ⟨_, rfl⟩ | cases e
      by_cases hlo : n < lo
      · have e0 : (n < lo) = True := eq_true hlo
        simp_all only [ss_nil, Nx_nil, Arm_nil, sz_0, sz_1, sz_2, sz_3, sz_4, sz_5, sz_6, sz_7, sz_8, sz_9, sz_10, sz_11, sz_12, cp_2, cp_3, cp_4, cp_5, cp_6, cp_7, cp_12, cp_20, cp_30, cp_38, cp_39, cp_40, e0]
        (first | rw [Nx_eq] | rw [Arm_eq] | skip); (try simp_all only [ss_nil, Nx_nil, Arm_nil, sz_0, sz_1, sz_2, sz_3, sz_4, sz_5, sz_6, sz_7, sz_8, sz_9, sz_10, sz_11, sz_12, cp_2, cp_3, cp_4, cp_5, cp_6, cp_7, cp_12, cp_20, cp_30, cp_38, cp_39, cp_40])
        have e1 : wholeB (.int n) lo hi = false := by
          unfold wholeB
          show (decide (lo ≤ n) && _) = false
          rw [decide_eq_false (by omega)]; rfl
        rw [e1] at h
        exact ⟨s, .rfl, h⟩
      · have e0 : (n < lo) = False := eq_false hlo
        have e1 : decide (lo ≤ n) = true := decide_eq_true (by omega)
        simp_all only [ss_nil, Nx_nil, Arm_nil, sz_0, sz_1, sz_2, sz_3, sz_4, sz_5, sz_6, sz_7, sz_8, sz_9, sz_10, sz_11, sz_12, cp_2, cp_3, cp_4, cp_5, cp_6, cp_7, cp_12, cp_20, cp_30, cp_38, cp_39, cp_40, e0]
        rcases he with rfl | ⟨k, rfl⟩
        · have e2 : wholeB (.int n) lo .non = true := by
            show (decide (lo ≤ n) && true) = true
            rw [e1]; rfl
          rw [e2] at h
          (first | rw [Nx_eq] | rw [Arm_eq] | skip); (try simp_all only [ss_nil, Nx_nil, Arm_nil, sz_0, sz_1, sz_2, sz_3, sz_4, sz_5, sz_6, sz_7, sz_8, sz_9, sz_10, sz_11, sz_12, cp_2, cp_3, cp_4, cp_5, cp_6, cp_7, cp_12, cp_20, cp_30, cp_38, cp_39, cp_40])
          exact ⟨s, .rfl, h⟩
        · have e2 : wholeB (.int n) lo (.int k) = decide (n ≤ k) := by
            show (decide (lo ≤ n) && decide (n ≤ k)) = _
            rw [e1]; rfl
          rw [e2] at h
          (first | rw [Nx_eq] | rw [Arm_eq] | skip); (try simp_all only [ss_nil, Nx_nil, Arm_nil, sz_0, sz_1, sz_2, sz_3, sz_4, sz_5, sz_6, sz_7, sz_8, sz_9, sz_10, sz_11, sz_12, cp_2, cp_3, cp_4, cp_5, cp_6, cp_7, cp_12, cp_20, cp_30, cp_38, cp_39, cp_40])
          exact ⟨s, .rfl, h⟩
  · exact h.elim
def sp_check_whole : PSpec
  | [v, .int lo, h, .str w], st, Q, X => noRef v = true ∧ endP h ∧ w.length ≤ 1000 ∧ (wholeB v lo h = true → Q .non st) ∧ (wholeB v lo h = false → X (errW w) st)
  | _, _, _, _ => False
def b_check_whole : Ss :=
  (.cons (.ite (.not (.val (.call "is_whole" sp_is_whole (.cons (.var 0) (.cons (.var 1) (.cons (.var 2) .nil)))))) (.cons (.raise "BadValue" (.cons (.var 3) .nil)) .nil) .nil) .nil)
def n_check_whole : List Str := ["value", "low", "high", "what"]
theorem w_check_whole : ∀ vs s Q X, vs.length = 4 → sp_check_whole vs s Q X → wpFn n_check_whole.length b_check_whole vs s Q X := by
  intro vs s Q X hl h
  unfold sp_check_whole at h
  split at h
  · rename_i v lo hi w
    rw [fn_eq]
    unfold b_check_whole n_check_whole
    obtain ⟨hn, he, hw, h1, h2⟩ := h
    simp_all only [ss_nil, Nx_nil, Arm_nil, sz_0, sz_1, sz_2, sz_3, sz_4, sz_5, sz_6, sz_7, sz_8, sz_9, sz_10, sz_11, sz_12, cp_2, cp_3, cp_4, cp_5, cp_6, cp_7, cp_12, cp_20, cp_30, cp_38, cp_39, cp_40]
    refine callS_of ⟨hn, he, ?_⟩
    cases e : wholeB v lo hi with
    | false =>
      simp_all only [ss_nil, Nx_nil, Arm_nil, sz_0, sz_1, sz_2, sz_3, sz_4, sz_5, sz_6, sz_7, sz_8, sz_9, sz_10, sz_11, sz_12, cp_2, cp_3, cp_4, cp_5, cp_6, cp_7, cp_12, cp_20, cp_30, cp_38, cp_39, cp_40]
      (first | rw [Nx_eq] | rw [Arm_eq] | skip); (try simp_all only [ss_nil, Nx_nil, Arm_nil, sz_0, sz_1, sz_2, sz_3, sz_4, sz_5, sz_6, sz_7, sz_8, sz_9, sz_10, sz_11, sz_12, cp_2, cp_3, cp_4, cp_5, cp_6, cp_7, cp_12, cp_20, cp_30, cp_38, cp_39, cp_40])
      exact ⟨⟨rfl, hw⟩, s, .rfl, by rw [fld_bv]; exact h2 e⟩
    | true =>
      simp_all only [ss_nil, Nx_nil, Arm_nil, sz_0, sz_1, sz_2, sz_3, sz_4, sz_5, sz_6, sz_7, sz_8, sz_9, sz_10, sz_11, sz_12, cp_2, cp_3, cp_4, cp_5, cp_6, cp_7, cp_12, cp_20, cp_30, cp_38, cp_39, cp_40]
      exact ⟨s, .rfl, h1 e⟩
  · exact h.elim
end TK

set_option maxRecDepth 100000
set_option maxHeartbeats 4000000
namespace TK
open PySem PySem.Spec PyProof.Rows L2
/-! ### ratios made and refused -/
def zeroI : PV → Bool
  | .int n => decide (n = 0)
  | _ => false
def badR (a b : PV) : Bool := !isI a || !isI b || zeroI b
def errR : Exn := ("BadValue", [("what", .str "ratio")])
def sp_ratio : PSpec
  | [a, b], st, Q, X => noRef a = true ∧ noRef b = true ∧ ((∃ n d : Int, a = .int n ∧ b = .int d ∧ d ≠ 0 ∧ Sm d ∧ Q (ratV (Rat.divInt n d)) st) ∨ (badR a b = true ∧ X errR st))
  | _, _, _, _ => False
def sp_ratio_1 : PSpec
  | [a], st, Q, X => sp_ratio [a, .int 1] st Q X
  | _, _, _, _ => False
def b_ratio : Ss :=
  (.cons (.ite (.bools .Or (.cons (.not (.val (.call "is_int" sp_is_int (.cons (.var 0) .nil)))) (.cons (.not (.val (.call "is_int" sp_is_int (.cons (.var 1) .nil)))) (.cons (.cmp .Eq (.var 1) (.int 0)) .nil)))) (.cons (.raise "BadValue" (.cons (.str "ratio") .nil)) .nil) .nil) (.cons (.ret (.call "lowest_terms" sp_lowest_terms (.cons (.var 0) (.cons (.var 1) .nil)))) .nil))
def n_ratio : List Str := ["n", "d"]
theorem w_ratio : ∀ vs s Q X, vs.length = 2 → sp_ratio vs s Q X → wpFn n_ratio.length b_ratio vs s Q X := by
  intro vs s Q X hl h
  unfold sp_ratio at h
  split at h
  · rename_i a b
    rw [fn_eq]
    unfold b_ratio n_ratio
    obtain ⟨ha, hb, h⟩ := h
    have fin : X errR s → raiseOk "BadValue" (.str "ratio") ∧ ∃ s0, Sub s0 s ∧ X ("BadValue", [(fldOf "BadValue", .str "ratio")]) s0 := fun hx => ⟨⟨rfl, by decide⟩, s, .rfl, by rw [fld_bv]; exact hx⟩
    simp_all only [ss_nil, Nx_nil, Arm_nil, sz_0, sz_1, sz_2, sz_3, sz_4, sz_5, sz_6, sz_7, sz_8, sz_9, sz_10, sz_11, sz_12, cp_2, cp_3, cp_4, cp_5, cp_6, cp_7, cp_12, cp_20, cp_30, cp_38, cp_39, cp_40]
    refine callS_of ⟨ha, ?_⟩
    rcases h with ⟨n, d, rfl, rfl, h0, hd, h⟩ | ⟨hbad, hx⟩
    · have e0 : (d = 0) = False := eq_false h0
      simp_all only [ss_nil, Nx_nil, Arm_nil, sz_0, sz_1, sz_2, sz_3, sz_4, sz_5, sz_6, sz_7, sz_8, sz_9, sz_10, sz_11, sz_12, cp_2, cp_3, cp_4, cp_5, cp_6, cp_7, cp_12, cp_20, cp_30, cp_38, cp_39, cp_40, isI]
      refine callS_of ⟨hb, ?_⟩
      simp_all only [ss_nil, Nx_nil, Arm_nil, sz_0, sz_1, sz_2, sz_3, sz_4, sz_5, sz_6, sz_7, sz_8, sz_9, sz_10, sz_11, sz_12, cp_2, cp_3, cp_4, cp_5, cp_6, cp_7, cp_12, cp_20, cp_30, cp_38, cp_39, cp_40, isI, e0]
      (first | rw [Nx_eq] | rw [Arm_eq] | skip); (try simp_all only [ss_nil, Nx_nil, Arm_nil, sz_0, sz_1, sz_2, sz_3, sz_4, sz_5, sz_6, sz_7, sz_8, sz_9, sz_10, sz_11, sz_12, cp_2, cp_3, cp_4, cp_5, cp_6, cp_7, cp_12, cp_20, cp_30, cp_38, cp_39, cp_40])
      exact callS_of ⟨h0, hd, s, .rfl, h⟩
    · have fin := fin hx
      cases hi : isI a with
      | false =>
        simp_all only [ss_nil, Nx_nil, Arm_nil, sz_0, sz_1, sz_2, sz_3, sz_4, sz_5, sz_6, sz_7, sz_8, sz_9, sz_10, sz_11, sz_12, cp_2, cp_3, cp_4, cp_5, cp_6, cp_7, cp_12, cp_20, cp_30, cp_38, cp_39, cp_40]
        (first | rw [Nx_eq] | rw [Arm_eq] | skip); (try simp_all only [ss_nil, Nx_nil, Arm_nil, sz_0, sz_1, sz_2, sz_3, sz_4, sz_5, sz_6, sz_7, sz_8, sz_9, sz_10, sz_11, sz_12, cp_2, cp_3, cp_4, cp_5, cp_6, cp_7, cp_12, cp_20, cp_30, cp_38, cp_39, cp_40])
        exact fin
      | true =>
        simp_all only [ss_nil, Nx_nil, Arm_nil, sz_0, sz_1, sz_2, sz_3, sz_4, sz_5, sz_6, sz_7, sz_8, sz_9, sz_10, sz_11, sz_12, cp_2, cp_3, cp_4, cp_5, cp_6, cp_7, cp_12, cp_20, cp_30, cp_38, cp_39, cp_40]
        refine callS_of ⟨hb, ?_⟩
        cases hj : isI b with
        | false =>
          simp_all only [ss_nil, Nx_nil, Arm_nil, sz_0, sz_1, sz_2, sz_3, sz_4, sz_5, sz_6, sz_7, sz_8, sz_9, sz_10, sz_11, sz_12, cp_2, cp_3, cp_4, cp_5, cp_6, cp_7, cp_12, cp_20, cp_30, cp_38, cp_39, cp_40]
          (first | rw [Nx_eq] | rw [Arm_eq] | skip); (try simp_all only [ss_nil, Nx_nil, Arm_nil, sz_0, sz_1, sz_2, sz_3, sz_4, sz_5, sz_6, sz_7, sz_8, sz_9, sz_10, sz_11, sz_12, cp_2, cp_3, cp_4, cp_5, cp_6, cp_7, cp_12, cp_20, cp_30, cp_38, cp_39, cp_40])
          exact fin
        | true =>
          unfold badR at hbad
          rw [hi, hj] at hbad
          cases b with
          | int d =>
            have e0 : (d = 0) = True := eq_true (by simpa [zeroI] using hbad)
            simp_all only [ss_nil, Nx_nil, Arm_nil, sz_0, sz_1, sz_2, sz_3, sz_4, sz_5, sz_6, sz_7, sz_8, sz_9, sz_10, sz_11, sz_12, cp_2, cp_3, cp_4, cp_5, cp_6, cp_7, cp_12, cp_20, cp_30, cp_38, cp_39, cp_40, e0]
            (first | rw [Nx_eq] | rw [Arm_eq] | skip); (try simp_all only [ss_nil, Nx_nil, Arm_nil, sz_0, sz_1, sz_2, sz_3, sz_4, sz_5, sz_6, sz_7, sz_8, sz_9, sz_10, sz_11, sz_12, cp_2, cp_3, cp_4, cp_5, cp_6, cp_7, cp_12, cp_20, cp_30, cp_38, cp_39, cp_40])
            exact fin
          | _ => cases hj
  · exact h.elim
def rtoFin : PV → Bool
  | .tup [.int n, .int d] => decide (1 ≤ d) && decide (n.natAbs < 10 ^ 40) && decide (d < 10 ^ 40) && decide (Int.gcd n d = 1)
  | _ => false
def allNR : PV → Bool
  | .tup xs => xs.all noRef
  | _ => true
def sp_is_ratio : PSpec
  | [v], st, Q, _ => noRef v = true ∧ allNR v = true ∧ Q (.bl (rtoFin v)) st
  | _, _, _, _ => False
def b_is_ratio : Ss :=
  (.cons (.ite (.bools .Or (.cons (.not (.val (.isi (.var 0) "tuple"))) (.cons (.cmp .NotEq (.blt .len false (.cons (.var 0) .nil)) (.int 2)) .nil))) (.cons (.ret (.bl false)) .nil) .nil) (.cons (.asg (.tup (.cons (.name 1) (.cons (.name 2) .nil))) (.var 0)) (.cons (.ite (.bools .Or (.cons (.not (.val (.call "is_int" sp_is_int (.cons (.var 1) .nil)))) (.cons (.not (.val (.call "is_int" sp_is_int (.cons (.var 2) .nil)))) (.cons (.cmp .Lt (.var 2) (.int 1)) .nil)))) (.cons (.ret (.bl false)) .nil) .nil) (.cons (.ite (.bools .Or (.cons (.cmp .GtE (.blt .abs false (.cons (.var 1) .nil)) (.bin .Pow false (.int 10) (.int 40))) (.cons (.cmp .GtE (.var 2) (.bin .Pow false (.int 10) (.int 40))) .nil))) (.cons (.ret (.bl false)) .nil) .nil) (.cons (.ret (.cmp .Eq (.call "common_factor" sp_common_factor (.cons (.var 1) (.cons (.var 2) .nil))) (.int 1))) .nil)))))
def n_is_ratio : List Str := ["value", "n", "d"]
theorem w_is_ratio : ∀ vs s Q X, vs.length = 1 → sp_is_ratio vs s Q X → wpFn n_is_ratio.length b_is_ratio vs s Q X := by
  intro vs s Q X hl h
  unfold sp_is_ratio at h
  split at h
  · rename_i v
    rw [fn_eq]
    unfold b_is_ratio n_is_ratio
    obtain ⟨hn, ha, h⟩ := h
    have e1 : (("int" : Str) == ("tuple" : Str)) = false := by decide
    have e2 : (("bool" : Str) == ("tuple" : Str)) = false := by decide
    have e3 : (("str" : Str) == ("tuple" : Str)) = false := by decide
    have e4 : (("list" : Str) == ("tuple" : Str)) = false := by decide
    have e5 : (("tuple" : Str) == ("tuple" : Str)) = true := by decide
    have e6 : (("tuple" : Str) == ("int" : Str)) = false := by decide
    have e7 : (("tuple" : Str) == ("bool" : Str)) = false := by decide
    have e8 : (("tuple" : Str) == ("str" : Str)) = false := by decide
    have e9 : (("tuple" : Str) == ("list" : Str)) = false := by decide
    cases v with
    | tup xs =>
      by_cases hx : xs.length = 2
      · match xs, hx, ha, h with
        | [a, b], _, ha, h =>
          have ha : noRef a = true ∧ noRef b = true := by simpa [allNR] using ha
          have el : (((2 : Nat) : Int) = 2) = True := eq_true rfl
          simp_all only [ss_nil, Nx_nil, Arm_nil, sz_0, sz_1, sz_2, sz_3, sz_4, sz_5, sz_6, sz_7, sz_8, sz_9, sz_10, sz_11, sz_12, cp_2, cp_3, cp_4, cp_5, cp_6, cp_7, cp_12, cp_20, cp_30, cp_38, cp_39, cp_40, e5, el]
          (first | rw [Nx_eq] | rw [Arm_eq] | skip); (try simp_all only [ss_nil, Nx_nil, Arm_nil, sz_0, sz_1, sz_2, sz_3, sz_4, sz_5, sz_6, sz_7, sz_8, sz_9, sz_10, sz_11, sz_12, cp_2, cp_3, cp_4, cp_5, cp_6, cp_7, cp_12, cp_20, cp_30, cp_38, cp_39, cp_40])
          (first | rw [Nx_eq] | rw [Arm_eq] | skip); (try simp_all only [ss_nil, Nx_nil, Arm_nil, sz_0, sz_1, sz_2, sz_3, sz_4, sz_5, sz_6, sz_7, sz_8, sz_9, sz_10, sz_11, sz_12, cp_2, cp_3, cp_4, cp_5, cp_6, cp_7, cp_12, cp_20, cp_30, cp_38, cp_39, cp_40])
          refine callS_of ⟨ha.1, ?_⟩
          cases hi : isI a with
          | false =>
            simp_all only [ss_nil, Nx_nil, Arm_nil, sz_0, sz_1, sz_2, sz_3, sz_4, sz_5, sz_6, sz_7, sz_8, sz_9, sz_10, sz_11, sz_12, cp_2, cp_3, cp_4, cp_5, cp_6, cp_7, cp_12, cp_20, cp_30, cp_38, cp_39, cp_40]
            (first | rw [Nx_eq] | rw [Arm_eq] | skip); (try simp_all only [ss_nil, Nx_nil, Arm_nil, sz_0, sz_1, sz_2, sz_3, sz_4, sz_5, sz_6, sz_7, sz_8, sz_9, sz_10, sz_11, sz_12, cp_2, cp_3, cp_4, cp_5, cp_6, cp_7, cp_12, cp_20, cp_30, cp_38, cp_39, cp_40])
            have e : rtoFin (.tup [a, b]) = false := by cases a <;> first | rfl | cases hi
            rw [e] at h
            exact ⟨s, .rfl, h⟩
          | true =>
            simp_all only [ss_nil, Nx_nil, Arm_nil, sz_0, sz_1, sz_2, sz_3, sz_4, sz_5, sz_6, sz_7, sz_8, sz_9, sz_10, sz_11, sz_12, cp_2, cp_3, cp_4, cp_5, cp_6, cp_7, cp_12, cp_20, cp_30, cp_38, cp_39, cp_40]
            refine callS_of ⟨ha.2, ?_⟩
            cases hj : isI b with
            | false =>
              simp_all only [ss_nil, Nx_nil, Arm_nil, sz_0, sz_1, sz_2, sz_3, sz_4, sz_5, sz_6, sz_7, sz_8, sz_9, sz_10, sz_11, sz_12, cp_2, cp_3, cp_4, cp_5, cp_6, cp_7, cp_12, cp_20, cp_30, cp_38, cp_39, cp_40]
              (first | rw [Nx_eq] | rw [Arm_eq] | skip); (try simp_all only [ss_nil, Nx_nil, Arm_nil, sz_0, sz_1, sz_2, sz_3, sz_4, sz_5, sz_6, sz_7, sz_8, sz_9, sz_10, sz_11, sz_12, cp_2, cp_3, cp_4, cp_5, cp_6, cp_7, cp_12, cp_20, cp_30, cp_38, cp_39, cp_40])
              have e : rtoFin (.tup [a, b]) = false := by cases a <;> cases b <;> first | rfl | cases hj
              rw [e] at h
              exact ⟨s, .rfl, h⟩
            | true =>
              obtain ⟨n, rfl⟩ : ∃ n, a = .int n := by cases a <;> first | exact ⟨_, rfl⟩ | cases hi
              obtain ⟨d, rfl⟩ : ∃ d, b = .int d := by cases b <;> first | exact ⟨_, rfl⟩ | cases hj
              have ef : rtoFin (.tup [.int n, .int d]) = (decide (1 ≤ d) && decide (n.natAbs < 10 ^ 40) && decide (d < 10 ^ 40) && decide (Int.gcd n d = 1)) := rfl
              by_cases h1 : d < 1
              · have e0 : (d < 1) = True := eq_true h1
                simp_all only [ss_nil, Nx_nil, Arm_nil, sz_0, sz_1, sz_2, sz_3, sz_4, sz_5, sz_6, sz_7, sz_8, sz_9, sz_10, sz_11, sz_12, cp_2, cp_3, cp_4, cp_5, cp_6, cp_7, cp_12, cp_20, cp_30, cp_38, cp_39, cp_40, e0]
                (first | rw [Nx_eq] | rw [Arm_eq] | skip); (try simp_all only [ss_nil, Nx_nil, Arm_nil, sz_0, sz_1, sz_2, sz_3, sz_4, sz_5, sz_6, sz_7, sz_8, sz_9, sz_10, sz_11, sz_12, cp_2, cp_3, cp_4, cp_5, cp_6, cp_7, cp_12, cp_20, cp_30, cp_38, cp_39, cp_40])
                rw [ef, decide_eq_false (show ¬ 1 ≤ d by omega)] at h
                exact ⟨s, .rfl, h⟩
              · have e0 : (d < 1) = False := eq_false h1
                simp_all only [ss_nil, Nx_nil, Arm_nil, sz_0, sz_1, sz_2, sz_3, sz_4, sz_5, sz_6, sz_7, sz_8, sz_9, sz_10, sz_11, sz_12, cp_2, cp_3, cp_4, cp_5, cp_6, cp_7, cp_12, cp_20, cp_30, cp_38, cp_39, cp_40, e0]
                (first | rw [Nx_eq] | rw [Arm_eq] | skip); (try simp_all only [ss_nil, Nx_nil, Arm_nil, sz_0, sz_1, sz_2, sz_3, sz_4, sz_5, sz_6, sz_7, sz_8, sz_9, sz_10, sz_11, sz_12, cp_2, cp_3, cp_4, cp_5, cp_6, cp_7, cp_12, cp_20, cp_30, cp_38, cp_39, cp_40])
                have ea : (10000000000000000000000000000000000000000 ≤ if n < 0 then -n else n) ↔ ¬ n.natAbs < 10 ^ 40 := by
                  split <;> omega
                rw [ef, decide_eq_true (show 1 ≤ d by omega)] at h
                simp only [ea]
                split <;> rename_i h2
                · rw [decide_eq_false h2] at h
                  (first | rw [Nx_eq] | rw [Arm_eq] | skip); (try simp_all only [ss_nil, Nx_nil, Arm_nil, sz_0, sz_1, sz_2, sz_3, sz_4, sz_5, sz_6, sz_7, sz_8, sz_9, sz_10, sz_11, sz_12, cp_2, cp_3, cp_4, cp_5, cp_6, cp_7, cp_12, cp_20, cp_30, cp_38, cp_39, cp_40])
                  exact ⟨s, .rfl, h⟩
                · rw [decide_eq_true (Decidable.not_not.mp h2)] at h
                  split <;> rename_i h3
                  · rw [decide_eq_false (show ¬ d < 10 ^ 40 by omega)] at h
                    (first | rw [Nx_eq] | rw [Arm_eq] | skip); (try simp_all only [ss_nil, Nx_nil, Arm_nil, sz_0, sz_1, sz_2, sz_3, sz_4, sz_5, sz_6, sz_7, sz_8, sz_9, sz_10, sz_11, sz_12, cp_2, cp_3, cp_4, cp_5, cp_6, cp_7, cp_12, cp_20, cp_30, cp_38, cp_39, cp_40])
                    exact ⟨s, .rfl, h⟩
                  · rw [decide_eq_true (show d < 10 ^ 40 by omega)] at h
                    have eg : (((Int.gcd n d : Nat) : Int) = 1) = (Int.gcd n d = 1) := propext ⟨fun z => by omega, fun z => by omega⟩
                    (first | rw [Nx_eq] | rw [Arm_eq] | skip); (try simp_all only [ss_nil, Nx_nil, Arm_nil, sz_0, sz_1, sz_2, sz_3, sz_4, sz_5, sz_6, sz_7, sz_8, sz_9, sz_10, sz_11, sz_12, cp_2, cp_3, cp_4, cp_5, cp_6, cp_7, cp_12, cp_20, cp_30, cp_38, cp_39, cp_40])
                    refine callS_of ?_
                    unfold sp_common_factor
                    simp_all only [ss_nil, Nx_nil, Arm_nil, sz_0, sz_1, sz_2, sz_3, sz_4, sz_5, sz_6, sz_7, sz_8, sz_9, sz_10, sz_11, sz_12, cp_2, cp_3, cp_4, cp_5, cp_6, cp_7, cp_12, cp_20, cp_30, cp_38, cp_39, cp_40, eg]
                    exact ⟨s, .rfl, by simpa using h⟩
      · have el : (((xs.length : Nat) : Int) = 2) ↔ False := ⟨fun z => hx (by omega), False.elim⟩
        simp_all only [ss_nil, Nx_nil, Arm_nil, sz_0, sz_1, sz_2, sz_3, sz_4, sz_5, sz_6, sz_7, sz_8, sz_9, sz_10, sz_11, sz_12, cp_2, cp_3, cp_4, cp_5, cp_6, cp_7, cp_12, cp_20, cp_30, cp_38, cp_39, cp_40, e5, el]
        (first | rw [Nx_eq] | rw [Arm_eq] | skip); (try simp_all only [ss_nil, Nx_nil, Arm_nil, sz_0, sz_1, sz_2, sz_3, sz_4, sz_5, sz_6, sz_7, sz_8, sz_9, sz_10, sz_11, sz_12, cp_2, cp_3, cp_4, cp_5, cp_6, cp_7, cp_12, cp_20, cp_30, cp_38, cp_39, cp_40])
        have e : rtoFin (.tup xs) = false := by
          match xs, hx with
          | [], _ => rfl
          | [a], _ => cases a <;> rfl
          | [_, _], hx => exact absurd rfl hx
          | a :: b :: _ :: _, _ => cases a <;> cases b <;> rfl
        rw [e] at h
        exact ⟨s, .rfl, h⟩
    | ref _ => cases hn
    | scr _ => cases hn
    | _ =>
      simp_all only [ss_nil, Nx_nil, Arm_nil, sz_0, sz_1, sz_2, sz_3, sz_4, sz_5, sz_6, sz_7, sz_8, sz_9, sz_10, sz_11, sz_12, cp_2, cp_3, cp_4, cp_5, cp_6, cp_7, cp_12, cp_20, cp_30, cp_38, cp_39, cp_40, e1, e2, e3, e4, e6, e7, e8, e9, Bool.or_true, Bool.or_false]
      (first | rw [Nx_eq] | rw [Arm_eq] | skip); (try simp_all only [ss_nil, Nx_nil, Arm_nil, sz_0, sz_1, sz_2, sz_3, sz_4, sz_5, sz_6, sz_7, sz_8, sz_9, sz_10, sz_11, sz_12, cp_2, cp_3, cp_4, cp_5, cp_6, cp_7, cp_12, cp_20, cp_30, cp_38, cp_39, cp_40])
      exact ⟨s, .rfl, h⟩
  · exact h.elim
def sp_minus : PSpec
  | [a, b], st, Q, _ => ∃ x y : Rat, a = ratV x ∧ b = ratV y ∧ Bd 3900 x ∧ Bd 3900 y ∧ Q (ratV (Rat.divInt (x.num * y.den - y.num * x.den) (x.den * y.den))) st
  | _, _, _, _ => False
def b_minus : Ss :=
  (.cons (.ret (.call "lowest_terms" sp_lowest_terms (.cons (.bin .Sub false (.bin .Mult false (.idx (.var 0) (.int 0)) (.idx (.var 1) (.int 1))) (.bin .Mult false (.idx (.var 1) (.int 0)) (.idx (.var 0) (.int 1)))) (.cons (.bin .Mult false (.idx (.var 0) (.int 1)) (.idx (.var 1) (.int 1))) .nil)))) .nil)
def n_minus : List Str := ["a", "b"]
theorem w_minus : ∀ vs s Q X, vs.length = 2 → sp_minus vs s Q X → wpFn n_minus.length b_minus vs s Q X := by
  intro vs s Q X hl h
  unfold sp_minus at h
  split at h
  · rw [fn_eq]
    unfold b_minus n_minus
    obtain ⟨x, y, rfl, rfl, hx, hy, h⟩ := h
    simp_all only [ss_nil, Nx_nil, Arm_nil, sz_0, sz_1, sz_2, sz_3, sz_4, sz_5, sz_6, sz_7, sz_8, sz_9, sz_10, sz_11, sz_12, cp_2, cp_3, cp_4, cp_5, cp_6, cp_7, cp_12, cp_20, cp_30, cp_38, cp_39, cp_40, ratV]
    exact ⟨Sz.ok hx.sz.1 hy.sz.2, Sz.ok hy.sz.1 hx.sz.2, Sz.ok hx.sz.2 hy.sz.2, callS_of ⟨Int.mul_ne_zero (by have := x.den_nz; omega) (by have := y.den_nz; omega), Sz.mulSm hx.sz.2 hy.sz.2, s, .rfl, h⟩⟩
  · exact h.elim
def sp_times : PSpec
  | [a, b], st, Q, _ => ∃ x y : Rat, a = ratV x ∧ b = ratV y ∧ Bd 3900 x ∧ Bd 3900 y ∧ Q (ratV (Rat.divInt (x.num * y.num) (x.den * y.den))) st
  | _, _, _, _ => False
def b_times : Ss :=
  (.cons (.ret (.call "lowest_terms" sp_lowest_terms (.cons (.bin .Mult false (.idx (.var 0) (.int 0)) (.idx (.var 1) (.int 0))) (.cons (.bin .Mult false (.idx (.var 0) (.int 1)) (.idx (.var 1) (.int 1))) .nil)))) .nil)
def n_times : List Str := ["a", "b"]
theorem w_times : ∀ vs s Q X, vs.length = 2 → sp_times vs s Q X → wpFn n_times.length b_times vs s Q X := by
  intro vs s Q X hl h
  unfold sp_times at h
  split at h
  · rw [fn_eq]
    unfold b_times n_times
    obtain ⟨x, y, rfl, rfl, hx, hy, h⟩ := h
    simp_all only [ss_nil, Nx_nil, Arm_nil, sz_0, sz_1, sz_2, sz_3, sz_4, sz_5, sz_6, sz_7, sz_8, sz_9, sz_10, sz_11, sz_12, cp_2, cp_3, cp_4, cp_5, cp_6, cp_7, cp_12, cp_20, cp_30, cp_38, cp_39, cp_40, ratV]
    exact ⟨Sz.ok hx.sz.1 hy.sz.1, Sz.ok hx.sz.2 hy.sz.2, callS_of ⟨Int.mul_ne_zero (by have := x.den_nz; omega) (by have := y.den_nz; omega), Sz.mulSm hx.sz.2 hy.sz.2, s, .rfl, h⟩⟩
  · exact h.elim
def sp_over : PSpec
  | [a, b], st, Q, _ => ∃ x y : Rat, a = ratV x ∧ b = ratV y ∧ Bd 3900 x ∧ Bd 3900 y ∧ y.num ≠ 0 ∧ Q (ratV (Rat.divInt (x.num * y.den) (x.den * y.num))) st
  | _, _, _, _ => False
def b_over : Ss :=
  (.cons (.ret (.call "lowest_terms" sp_lowest_terms (.cons (.bin .Mult false (.idx (.var 0) (.int 0)) (.idx (.var 1) (.int 1))) (.cons (.bin .Mult false (.idx (.var 0) (.int 1)) (.idx (.var 1) (.int 0))) .nil)))) .nil)
def n_over : List Str := ["a", "b"]
theorem w_over : ∀ vs s Q X, vs.length = 2 → sp_over vs s Q X → wpFn n_over.length b_over vs s Q X := by
  intro vs s Q X hl h
  unfold sp_over at h
  split at h
  · rw [fn_eq]
    unfold b_over n_over
    obtain ⟨x, y, rfl, rfl, hx, hy, h0, h⟩ := h
    simp_all only [ss_nil, Nx_nil, Arm_nil, sz_0, sz_1, sz_2, sz_3, sz_4, sz_5, sz_6, sz_7, sz_8, sz_9, sz_10, sz_11, sz_12, cp_2, cp_3, cp_4, cp_5, cp_6, cp_7, cp_12, cp_20, cp_30, cp_38, cp_39, cp_40, ratV]
    exact ⟨Sz.ok hx.sz.1 hy.sz.2, Sz.ok hx.sz.2 hy.sz.1, callS_of ⟨Int.mul_ne_zero (by have := x.den_nz; omega) h0, Sz.mulSm hx.sz.2 hy.sz.1, s, .rfl, h⟩⟩
  · exact h.elim
def sp_negative : PSpec
  | [a], st, Q, _ => ∃ x : Rat, a = ratV x ∧ Q (.tup [.int (-x.num), .int x.den]) st
  | _, _, _, _ => False
def b_negative : Ss :=
  (.cons (.ret (.tup (.cons (.neg (.idx (.var 0) (.int 0))) (.cons (.idx (.var 0) (.int 1)) .nil)))) .nil)
def n_negative : List Str := ["a"]
theorem w_negative : ∀ vs s Q X, vs.length = 1 → sp_negative vs s Q X → wpFn n_negative.length b_negative vs s Q X := by
  intro vs s Q X hl h
  unfold sp_negative at h
  split at h
  · rw [fn_eq]
    unfold b_negative n_negative
    obtain ⟨x, rfl, h⟩ := h
    simp_all only [ss_nil, Nx_nil, Arm_nil, sz_0, sz_1, sz_2, sz_3, sz_4, sz_5, sz_6, sz_7, sz_8, sz_9, sz_10, sz_11, sz_12, cp_2, cp_3, cp_4, cp_5, cp_6, cp_7, cp_12, cp_20, cp_30, cp_38, cp_39, cp_40, ratV]
    exact ⟨s, .rfl, h⟩
  · exact h.elim
def sizeFin : PV → Bool
  | .tup [.int n, .int d] => rtoFin (.tup [.int n, .int d]) && decide (0 ≤ n)
  | _ => false
def sp_is_size : PSpec
  | [v], st, Q, _ => noRef v = true ∧ allNR v = true ∧ Q (.bl (sizeFin v)) st
  | _, _, _, _ => False
def b_is_size : Ss :=
  (.cons (.ret (.bools .And (.cons (.call "is_ratio" sp_is_ratio (.cons (.var 0) .nil)) (.cons (.cmp .GtE (.idx (.var 0) (.int 0)) (.int 0)) .nil)))) .nil)
def n_is_size : List Str := ["value"]
theorem rto_shape {v : PV} (h : rtoFin v = true) : ∃ n d, v = .tup [.int n, .int d] := by
  unfold rtoFin at h
  split at h
  · exact ⟨_, _, rfl⟩
  · cases h
theorem size_rto {v : PV} (h : rtoFin v = false) : sizeFin v = false := by
  unfold sizeFin
  split
  · rw [h]; rfl
  · rfl
theorem w_is_size : ∀ vs s Q X, vs.length = 1 → sp_is_size vs s Q X → wpFn n_is_size.length b_is_size vs s Q X := by
  intro vs s Q X hl h
  unfold sp_is_size at h
  split at h
  · rename_i v
    rw [fn_eq]
    unfold b_is_size n_is_size
    obtain ⟨hn, ha, h⟩ := h
    simp_all only [ss_nil, Nx_nil, Arm_nil, sz_0, sz_1, sz_2, sz_3, sz_4, sz_5, sz_6, sz_7, sz_8, sz_9, sz_10, sz_11, sz_12, cp_2, cp_3, cp_4, cp_5, cp_6, cp_7, cp_12, cp_20, cp_30, cp_38, cp_39, cp_40]
    refine callS_of ⟨hn, ha, ?_⟩
    cases e : rtoFin v with
    | false =>
      rw [size_rto e] at h
      simp_all only [ss_nil, Nx_nil, Arm_nil, sz_0, sz_1, sz_2, sz_3, sz_4, sz_5, sz_6, sz_7, sz_8, sz_9, sz_10, sz_11, sz_12, cp_2, cp_3, cp_4, cp_5, cp_6, cp_7, cp_12, cp_20, cp_30, cp_38, cp_39, cp_40]
      exact ⟨s, .rfl, h⟩
    | true =>
      obtain ⟨n, d, rfl⟩ := rto_shape e
      have ef : sizeFin (.tup [.int n, .int d]) = decide (0 ≤ n) := by
        show (rtoFin (.tup [.int n, .int d]) && decide (0 ≤ n)) = _
        rw [e]; rfl
      rw [ef] at h
      simp_all only [ss_nil, Nx_nil, Arm_nil, sz_0, sz_1, sz_2, sz_3, sz_4, sz_5, sz_6, sz_7, sz_8, sz_9, sz_10, sz_11, sz_12, cp_2, cp_3, cp_4, cp_5, cp_6, cp_7, cp_12, cp_20, cp_30, cp_38, cp_39, cp_40]
      exact ⟨s, .rfl, h⟩
  · exact h.elim
def sp_check_ratio : PSpec
  | [v, .str w], st, Q, X => noRef v = true ∧ allNR v = true ∧ w.length ≤ 1000 ∧ (rtoFin v = true → Q .non st) ∧ (rtoFin v = false → X (errW w) st)
  | _, _, _, _ => False
def b_check_ratio : Ss :=
  (.cons (.ite (.not (.val (.call "is_ratio" sp_is_ratio (.cons (.var 0) .nil)))) (.cons (.raise "BadValue" (.cons (.var 1) .nil)) .nil) .nil) .nil)
def n_check_ratio : List Str := ["value", "what"]
theorem w_check_ratio : ∀ vs s Q X, vs.length = 2 → sp_check_ratio vs s Q X → wpFn n_check_ratio.length b_check_ratio vs s Q X := by
  intro vs s Q X hl h
  unfold sp_check_ratio at h
  split at h
  · rename_i v w
    rw [fn_eq]
    unfold b_check_ratio n_check_ratio
    obtain ⟨hn, ha, hw, h1, h2⟩ := h
    simp_all only [ss_nil, Nx_nil, Arm_nil, sz_0, sz_1, sz_2, sz_3, sz_4, sz_5, sz_6, sz_7, sz_8, sz_9, sz_10, sz_11, sz_12, cp_2, cp_3, cp_4, cp_5, cp_6, cp_7, cp_12, cp_20, cp_30, cp_38, cp_39, cp_40]
    refine callS_of ⟨hn, ha, ?_⟩
    cases e : rtoFin v with
    | false =>
      simp_all only [ss_nil, Nx_nil, Arm_nil, sz_0, sz_1, sz_2, sz_3, sz_4, sz_5, sz_6, sz_7, sz_8, sz_9, sz_10, sz_11, sz_12, cp_2, cp_3, cp_4, cp_5, cp_6, cp_7, cp_12, cp_20, cp_30, cp_38, cp_39, cp_40]
      (first | rw [Nx_eq] | rw [Arm_eq] | skip); (try simp_all only [ss_nil, Nx_nil, Arm_nil, sz_0, sz_1, sz_2, sz_3, sz_4, sz_5, sz_6, sz_7, sz_8, sz_9, sz_10, sz_11, sz_12, cp_2, cp_3, cp_4, cp_5, cp_6, cp_7, cp_12, cp_20, cp_30, cp_38, cp_39, cp_40])
      exact ⟨⟨rfl, hw⟩, s, .rfl, by rw [fld_bv]; exact h2 e⟩
    | true =>
      simp_all only [ss_nil, Nx_nil, Arm_nil, sz_0, sz_1, sz_2, sz_3, sz_4, sz_5, sz_6, sz_7, sz_8, sz_9, sz_10, sz_11, sz_12, cp_2, cp_3, cp_4, cp_5, cp_6, cp_7, cp_12, cp_20, cp_30, cp_38, cp_39, cp_40]
      exact ⟨s, .rfl, h1 e⟩
  · exact h.elim
def sp_check_size : PSpec
  | [v, .str w], st, Q, X => noRef v = true ∧ allNR v = true ∧ w.length ≤ 1000 ∧ (sizeFin v = true → Q .non st) ∧ (sizeFin v = false → X (errW w) st)
  | _, _, _, _ => False
def b_check_size : Ss :=
  (.cons (.ite (.not (.val (.call "is_size" sp_is_size (.cons (.var 0) .nil)))) (.cons (.raise "BadValue" (.cons (.var 1) .nil)) .nil) .nil) .nil)
def n_check_size : List Str := ["value", "what"]
theorem w_check_size : ∀ vs s Q X, vs.length = 2 → sp_check_size vs s Q X → wpFn n_check_size.length b_check_size vs s Q X := by
  intro vs s Q X hl h
  unfold sp_check_size at h
  split at h
  · rename_i v w
    rw [fn_eq]
    unfold b_check_size n_check_size
    obtain ⟨hn, ha, hw, h1, h2⟩ := h
    simp_all only [ss_nil, Nx_nil, Arm_nil, sz_0, sz_1, sz_2, sz_3, sz_4, sz_5, sz_6, sz_7, sz_8, sz_9, sz_10, sz_11, sz_12, cp_2, cp_3, cp_4, cp_5, cp_6, cp_7, cp_12, cp_20, cp_30, cp_38, cp_39, cp_40]
    refine callS_of ⟨hn, ha, ?_⟩
    cases e : sizeFin v with
    | false =>
      simp_all only [ss_nil, Nx_nil, Arm_nil, sz_0, sz_1, sz_2, sz_3, sz_4, sz_5, sz_6, sz_7, sz_8, sz_9, sz_10, sz_11, sz_12, cp_2, cp_3, cp_4, cp_5, cp_6, cp_7, cp_12, cp_20, cp_30, cp_38, cp_39, cp_40]
      (first | rw [Nx_eq] | rw [Arm_eq] | skip); (try simp_all only [ss_nil, Nx_nil, Arm_nil, sz_0, sz_1, sz_2, sz_3, sz_4, sz_5, sz_6, sz_7, sz_8, sz_9, sz_10, sz_11, sz_12, cp_2, cp_3, cp_4, cp_5, cp_6, cp_7, cp_12, cp_20, cp_30, cp_38, cp_39, cp_40])
      exact ⟨⟨rfl, hw⟩, s, .rfl, by rw [fld_bv]; exact h2 e⟩
    | true =>
      simp_all only [ss_nil, Nx_nil, Arm_nil, sz_0, sz_1, sz_2, sz_3, sz_4, sz_5, sz_6, sz_7, sz_8, sz_9, sz_10, sz_11, sz_12, cp_2, cp_3, cp_4, cp_5, cp_6, cp_7, cp_12, cp_20, cp_30, cp_38, cp_39, cp_40]
      exact ⟨s, .rfl, h1 e⟩
  · exact h.elim
end TK

set_option maxRecDepth 100000
set_option maxHeartbeats 4000000
namespace TK
open PySem PySem.Spec PyProof.Rows L2
/-! ### letters, words, sentences: what is right -/
mutual
/-- no address within, texts of at most 1000 signs -/
def dn : PV → Bool
  | .tup xs => dns xs
  | .lst xs => dns xs
  | .ref _ => false
  | .scr _ => false
  | .str z => decide (z.length ≤ 1000)
  | .non => true
  | .bl _ => true
  | .int _ => true
def dns : List PV → Bool
  | [] => true
  | x :: r => dn x && dns r
end
theorem dns_mem : ∀ {xs : List PV}, dns xs = true → ∀ x ∈ xs, dn x = true
  | [], _, _, h => nomatch h
  | y :: r, h, x, hx => by
    have h : (dn y && dns r) = true := h
    rw [Bool.and_eq_true] at h
    rcases List.mem_cons.mp hx with rfl | hx
    · exact h.1
    · exact dns_mem h.2 x hx
theorem dn_nr {v : PV} (h : dn v = true) : noRef v = true := by cases v <;> first | rfl | cases h
theorem dn_all {v : PV} (h : dn v = true) : allNR v = true := by
  cases v <;> first | rfl | skip
  rename_i xs
  show xs.all noRef = true
  rw [List.all_eq_true]
  exact fun x hx => dn_nr (dns_mem h x hx)
theorem dn_tup {xs : List PV} (h : dn (.tup xs) = true) : ∀ x ∈ xs, dn x = true := dns_mem h
theorem dn_str {z : Str} (h : dn (.str z) = true) : z.length ≤ 1000 := of_decide_eq_true h
theorem s_str : (("str" : Str) == ("str" : Str)) = true := by decide
theorem s_tup : (("tuple" : Str) == ("tuple" : Str)) = true := by decide
theorem s_no : (("int" : Str) == ("tuple" : Str)) = false ∧ (("bool" : Str) == ("tuple" : Str)) = false ∧ (("str" : Str) == ("tuple" : Str)) = false ∧ (("list" : Str) == ("tuple" : Str)) = false ∧
    (("tuple" : Str) == ("int" : Str)) = false ∧ (("tuple" : Str) == ("bool" : Str)) = false ∧ (("tuple" : Str) == ("str" : Str)) = false ∧ (("tuple" : Str) == ("list" : Str)) = false ∧
    (("str" : Str) == ("int" : Str)) = false ∧ (("str" : Str) == ("bool" : Str)) = false ∧ (("str" : Str) == ("list" : Str)) = false ∧ (("int" : Str) == ("str" : Str)) = false ∧ (("bool" : Str) == ("str" : Str)) = false ∧ (("list" : Str) == ("str" : Str)) = false := by decide
def small : Str := "abcdefghijklmnopqrstuvwxyz"
def letB (v : PV) (most : Int) : Bool := match v with
  | .str z => decide (1 ≤ (z.length : Int)) && decide ((z.length : Int) ≤ most) && z.cps.toList.all fun c => strIn ⟨#[c]⟩ small
  | _ => false
def sp_is_letter : PSpec
  | [v, .int most], st, Q, _ => dn v = true ∧ Q (.bl (letB v most)) st
  | _, _, _, _ => False
def b_is_letter : Ss :=
  (.cons (.ite (.bools .Or (.cons (.not (.val (.isi (.var 0) "str"))) (.cons (.not (.chain .LtE .LtE (.int 1) (.blt .len false (.cons (.var 0) .nil)) (.var 1))) .nil))) (.cons (.ret (.bl false)) .nil) .nil) (.cons (.ret (.blt .all false (.cons (.comp false [2] (.name 2) (.val (.var 0)) .nil (.cmp .In (.var 2) (.glob "SMALL" (.str "abcdefghijklmnopqrstuvwxyz")))) .nil))) .nil))
def n_is_letter : List Str := ["value", "most", "sign"]
theorem bls_f {α : Type} (f : α → Bool) : ∀ l : List α, blsOf (l.map fun x => PV.bl (f x)) = some (l.map f)
  | [] => rfl
  | x :: r => by
    show (blsOf (r.map fun x => PV.bl (f x))).map (f x :: ·) = _
    rw [bls_f f r]; rfl
theorem all_f {α : Type} (f : α → Bool) (l : List α) : (l.map f).all id = l.all f := by rw [List.all_map]; rfl
theorem any_f {α : Type} (f : α → Bool) (l : List α) : (l.map f).any id = l.any f := by rw [List.any_map]; rfl
theorem w_is_letter : ∀ vs s Q X, vs.length = 2 → sp_is_letter vs s Q X → wpFn n_is_letter.length b_is_letter vs s Q X := by
  intro vs s Q X hl h
  unfold sp_is_letter at h
  split at h
  · rename_i v most
    rw [fn_eq]
    unfold b_is_letter n_is_letter
    obtain ⟨hd, h⟩ := h
    obtain ⟨i1, i2, i3, i4, i5, i6, i7, i8, i9, i10, i11, i12, i13, i14⟩ := s_no
    have sz : 1000 ≤ sizeLine := by decide
    cases v with
    | str z =>
      have hz := dn_str hd
      have fal : (decide (1 ≤ (z.length : Int)) && decide ((z.length : Int) ≤ most)) = false → Q (.bl false) s := fun e => by
        have e2 : letB (.str z) most = false := by
          show (decide (1 ≤ (z.length : Int)) && decide ((z.length : Int) ≤ most) && _) = false
          rw [e]; rfl
        rwa [e2] at h
      simp_all only [ss_nil, Nx_nil, Arm_nil, sz_0, sz_1, sz_2, sz_3, sz_4, sz_5, sz_6, sz_7, sz_8, sz_9, sz_10, sz_11, sz_12, cp_2, cp_3, cp_4, cp_5, cp_6, cp_7, cp_12, cp_20, cp_30, cp_38, cp_39, cp_40, s_str]
      refine ⟨by omega, ?_⟩
      by_cases h1 : (1 : Int) ≤ z.length
      · by_cases h2 : (z.length : Int) ≤ most
        · have e1 : ((1 : Int) ≤ z.length) = True := eq_true h1
          have e2 : ((z.length : Int) ≤ most) = True := eq_true h2
          have e3 : letB (.str z) most = z.cps.toList.all fun c => strIn ⟨#[c]⟩ small := by
            show (decide (1 ≤ (z.length : Int)) && decide ((z.length : Int) ≤ most) && _) = _
            rw [decide_eq_true h1, decide_eq_true h2]; rfl
          rw [e3] at h
          clear fal e3
          simp_all only [ss_nil, Nx_nil, Arm_nil, sz_0, sz_1, sz_2, sz_3, sz_4, sz_5, sz_6, sz_7, sz_8, sz_9, sz_10, sz_11, sz_12, cp_2, cp_3, cp_4, cp_5, cp_6, cp_7, cp_12, cp_20, cp_30, cp_38, cp_39, cp_40, e1, e2]
          (first | rw [Nx_eq] | rw [Arm_eq] | skip); (try simp_all only [ss_nil, Nx_nil, Arm_nil, sz_0, sz_1, sz_2, sz_3, sz_4, sz_5, sz_6, sz_7, sz_8, sz_9, sz_10, sz_11, sz_12, cp_2, cp_3, cp_4, cp_5, cp_6, cp_7, cp_12, cp_20, cp_30, cp_38, cp_39, cp_40])
          refine ⟨by omega, ?_⟩
          refine lc_enc (enc := fun c : Nat => PV.str ⟨#[c]⟩) (fun c => .bl (strIn ⟨#[c]⟩ small)) z.cps.toList (fun τ1 st' Q q => by simp_all only [ss_nil, Nx_nil, Arm_nil, sz_0, sz_1, sz_2, sz_3, sz_4, sz_5, sz_6, sz_7, sz_8, sz_9, sz_10, sz_11, sz_12, cp_2, cp_3, cp_4, cp_5, cp_6, cp_7, cp_12, cp_20, cp_30, cp_38, cp_39, cp_40]; exact q) (fun c hc => ⟨_, rfl, fun st' sub K hk => ?_⟩) ?_
          · simp_all only [ss_nil, Nx_nil, Arm_nil, sz_0, sz_1, sz_2, sz_3, sz_4, sz_5, sz_6, sz_7, sz_8, sz_9, sz_10, sz_11, sz_12, cp_2, cp_3, cp_4, cp_5, cp_6, cp_7, cp_12, cp_20, cp_30, cp_38, cp_39, cp_40]
            exact hk
          simp_all only [ss_nil, Nx_nil, Arm_nil, sz_0, sz_1, sz_2, sz_3, sz_4, sz_5, sz_6, sz_7, sz_8, sz_9, sz_10, sz_11, sz_12, cp_2, cp_3, cp_4, cp_5, cp_6, cp_7, cp_12, cp_20, cp_30, cp_38, cp_39, cp_40, bls_f (fun c => strIn ⟨#[c]⟩ small), all_f]
          exact ⟨s, .rfl, h⟩
        · have e1 : ((1 : Int) ≤ z.length) = True := eq_true h1
          have e2 : ((z.length : Int) ≤ most) = False := eq_false h2
          have q := fal (by rw [decide_eq_false h2, Bool.and_false])
          clear h fal
          simp_all only [ss_nil, Nx_nil, Arm_nil, sz_0, sz_1, sz_2, sz_3, sz_4, sz_5, sz_6, sz_7, sz_8, sz_9, sz_10, sz_11, sz_12, cp_2, cp_3, cp_4, cp_5, cp_6, cp_7, cp_12, cp_20, cp_30, cp_38, cp_39, cp_40, e1, e2]
          (first | rw [Nx_eq] | rw [Arm_eq] | skip); (try simp_all only [ss_nil, Nx_nil, Arm_nil, sz_0, sz_1, sz_2, sz_3, sz_4, sz_5, sz_6, sz_7, sz_8, sz_9, sz_10, sz_11, sz_12, cp_2, cp_3, cp_4, cp_5, cp_6, cp_7, cp_12, cp_20, cp_30, cp_38, cp_39, cp_40])
          exact ⟨s, .rfl, q⟩
      · have e1 : ((1 : Int) ≤ z.length) = False := eq_false h1
        have q := fal (by rw [decide_eq_false h1, Bool.false_and])
        clear h fal
        simp_all only [ss_nil, Nx_nil, Arm_nil, sz_0, sz_1, sz_2, sz_3, sz_4, sz_5, sz_6, sz_7, sz_8, sz_9, sz_10, sz_11, sz_12, cp_2, cp_3, cp_4, cp_5, cp_6, cp_7, cp_12, cp_20, cp_30, cp_38, cp_39, cp_40, e1]
        (first | rw [Nx_eq] | rw [Arm_eq] | skip); (try simp_all only [ss_nil, Nx_nil, Arm_nil, sz_0, sz_1, sz_2, sz_3, sz_4, sz_5, sz_6, sz_7, sz_8, sz_9, sz_10, sz_11, sz_12, cp_2, cp_3, cp_4, cp_5, cp_6, cp_7, cp_12, cp_20, cp_30, cp_38, cp_39, cp_40])
        exact ⟨s, .rfl, q⟩
    | ref _ => cases hd
    | scr _ => cases hd
    | _ =>
      clear hd
      simp_all only [ss_nil, Nx_nil, Arm_nil, sz_0, sz_1, sz_2, sz_3, sz_4, sz_5, sz_6, sz_7, sz_8, sz_9, sz_10, sz_11, sz_12, cp_2, cp_3, cp_4, cp_5, cp_6, cp_7, cp_12, cp_20, cp_30, cp_38, cp_39, cp_40, i3, i9, i10, i11, Bool.or_true, Bool.or_false]
      (first | rw [Nx_eq] | rw [Arm_eq] | skip); (try simp_all only [ss_nil, Nx_nil, Arm_nil, sz_0, sz_1, sz_2, sz_3, sz_4, sz_5, sz_6, sz_7, sz_8, sz_9, sz_10, sz_11, sz_12, cp_2, cp_3, cp_4, cp_5, cp_6, cp_7, cp_12, cp_20, cp_30, cp_38, cp_39, cp_40])
      exact ⟨s, .rfl, h⟩
  · exact h.elim
def pos1 : PV → Bool
  | .int k => decide (1 ≤ k)
  | _ => false
def boundB (s n : PV) (signs : List Str) : Bool := match s with
  | .str x => signs.contains x && wholeB n 0 (.int 99) && (!decide (x = "<") || pos1 n)
  | _ => false
def sp_is_bound : PSpec
  | [a, n, .tup xs], st, Q, _ => dn a = true ∧ dn n = true ∧ ∃ signs : List Str, xs = signs.map PV.str ∧ Q (.bl (boundB a n signs)) st
  | _, _, _, _ => False
def b_is_bound : Ss :=
  (.cons (.ite (.bools .Or (.cons (.not (.val (.isi (.var 0) "str"))) (.cons (.cmp .NotIn (.var 0) (.var 2)) (.cons (.not (.val (.call "is_whole" sp_is_whole (.cons (.var 1) (.cons (.int 0) (.cons (.glob "MOST_NUMBER" (.int 99)) .nil)))))) .nil)))) (.cons (.ret (.bl false)) .nil) .nil) (.cons (.ret (.bools .Or (.cons (.cmp .NotEq (.var 0) (.str "<")) (.cons (.cmp .GtE (.var 1) (.int 1)) .nil)))) .nil))
def n_is_bound : List Str := ["sign", "number", "signs"]
theorem strs_any {x : Str} : ∀ l : List Str, ((l.map PV.str).any fun y => eqv y (.str x)) = l.contains x
  | [] => rfl
  | y :: r => by
    rw [List.map_cons, List.any_cons, strs_any r, List.contains_cons]
    have e : eqv (.str y) (.str x) = (x == y) := by
      unfold eqv
      show decide (y = x) = _
      by_cases h : y = x
      · subst h; simp
      · rw [decide_eq_false h]
        exact (beq_eq_false_iff_ne.mpr (Ne.symm h)).symm
    rw [e]
theorem strs_sc (l : List Str) : (l.map PV.str).all isSc = true := by
  rw [List.all_map, List.all_eq_true]; intro x _; rfl
theorem v_neSS2 {x y : Str} {st : Store} {Q : PQ} : cmpV .NotEq (.str x) (.str y) st Q = Q (.bl (!decide (x = y))) st := by
  show (eqOk st (.str x) (.str y) ∧ Q (.bl (!eqv (.str x) (.str y))) st) = _
  rw [show eqv (.str x) (.str y) = decide (x = y) by unfold eqv; rfl]
  exact propext ⟨fun h => h.2, fun h => ⟨.inl rfl, h⟩⟩
theorem w_is_bound : ∀ vs s Q X, vs.length = 3 → sp_is_bound vs s Q X → wpFn n_is_bound.length b_is_bound vs s Q X := by
  intro vs s Q X hl h
  unfold sp_is_bound at h
  split at h
  · rename_i v n xs
    rw [fn_eq]
    unfold b_is_bound n_is_bound
    obtain ⟨hv, hn, signs, rfl, h⟩ := h
    obtain ⟨i1, i2, i3, i4, i5, i6, i7, i8, i9, i10, i11, i12, i13, i14⟩ := s_no
    cases v with
    | str x =>
      have hB : boundB (.str x) n signs = (signs.contains x && wholeB n 0 (.int 99) && (!decide (x = "<") || pos1 n)) := rfl
      cases hc : signs.contains x with
      | false =>
        rw [hB, hc] at h
        clear hB
        simp_all only [ss_nil, Nx_nil, Arm_nil, sz_0, sz_1, sz_2, sz_3, sz_4, sz_5, sz_6, sz_7, sz_8, sz_9, sz_10, sz_11, sz_12, cp_2, cp_3, cp_4, cp_5, cp_6, cp_7, cp_12, cp_20, cp_30, cp_38, cp_39, cp_40, s_str, strs_any, hc, strs_sc, isSc]
        (first | rw [Nx_eq] | rw [Arm_eq] | skip); (try simp_all only [ss_nil, Nx_nil, Arm_nil, sz_0, sz_1, sz_2, sz_3, sz_4, sz_5, sz_6, sz_7, sz_8, sz_9, sz_10, sz_11, sz_12, cp_2, cp_3, cp_4, cp_5, cp_6, cp_7, cp_12, cp_20, cp_30, cp_38, cp_39, cp_40])
        exact ⟨s, .rfl, h⟩
      | true =>
        simp_all only [ss_nil, Nx_nil, Arm_nil, sz_0, sz_1, sz_2, sz_3, sz_4, sz_5, sz_6, sz_7, sz_8, sz_9, sz_10, sz_11, sz_12, cp_2, cp_3, cp_4, cp_5, cp_6, cp_7, cp_12, cp_20, cp_30, cp_38, cp_39, cp_40, s_str, strs_any, hc, strs_sc, isSc]
        refine callS_of ⟨dn_nr hn, .inr ⟨_, rfl⟩, ?_⟩
        cases hw : wholeB n 0 (.int 99) with
        | false =>
          rw [hB, hc, hw] at h
          clear hB
          simp_all only [ss_nil, Nx_nil, Arm_nil, sz_0, sz_1, sz_2, sz_3, sz_4, sz_5, sz_6, sz_7, sz_8, sz_9, sz_10, sz_11, sz_12, cp_2, cp_3, cp_4, cp_5, cp_6, cp_7, cp_12, cp_20, cp_30, cp_38, cp_39, cp_40]
          (first | rw [Nx_eq] | rw [Arm_eq] | skip); (try simp_all only [ss_nil, Nx_nil, Arm_nil, sz_0, sz_1, sz_2, sz_3, sz_4, sz_5, sz_6, sz_7, sz_8, sz_9, sz_10, sz_11, sz_12, cp_2, cp_3, cp_4, cp_5, cp_6, cp_7, cp_12, cp_20, cp_30, cp_38, cp_39, cp_40])
          exact ⟨s, .rfl, h⟩
        | true =>
          obtain ⟨k, rfl⟩ : ∃ k, n = .int k := by
            unfold wholeB at hw
            split at hw
            · exact ⟨_, rfl⟩
            · cases hw
          rw [hB, hc, hw] at h
          clear hB
          simp_all only [ss_nil, Nx_nil, Arm_nil, sz_0, sz_1, sz_2, sz_3, sz_4, sz_5, sz_6, sz_7, sz_8, sz_9, sz_10, sz_11, sz_12, cp_2, cp_3, cp_4, cp_5, cp_6, cp_7, cp_12, cp_20, cp_30, cp_38, cp_39, cp_40]
          by_cases hx : x = ("<" : Str)
          · have e1 : (x = ("<" : Str)) = True := eq_true hx
            rw [decide_eq_true hx] at h
            have h : Q (.bl (true && true && (!true || decide (1 ≤ k)))) s := h
            (first | rw [Nx_eq] | rw [Arm_eq] | skip); (try simp_all only [ss_nil, Nx_nil, Arm_nil, sz_0, sz_1, sz_2, sz_3, sz_4, sz_5, sz_6, sz_7, sz_8, sz_9, sz_10, sz_11, sz_12, cp_2, cp_3, cp_4, cp_5, cp_6, cp_7, cp_12, cp_20, cp_30, cp_38, cp_39, cp_40, ↓v_neSS2, e1])
            exact ⟨s, .rfl, h⟩
          · have e1 : (x = ("<" : Str)) = False := eq_false hx
            rw [decide_eq_false hx] at h
            (first | rw [Nx_eq] | rw [Arm_eq] | skip); (try simp_all only [ss_nil, Nx_nil, Arm_nil, sz_0, sz_1, sz_2, sz_3, sz_4, sz_5, sz_6, sz_7, sz_8, sz_9, sz_10, sz_11, sz_12, cp_2, cp_3, cp_4, cp_5, cp_6, cp_7, cp_12, cp_20, cp_30, cp_38, cp_39, cp_40, ↓v_neSS2, e1])
            exact ⟨s, .rfl, h⟩
    | ref _ => cases hv
    | scr _ => cases hv
    | _ =>
      simp_all only [ss_nil, Nx_nil, Arm_nil, sz_0, sz_1, sz_2, sz_3, sz_4, sz_5, sz_6, sz_7, sz_8, sz_9, sz_10, sz_11, sz_12, cp_2, cp_3, cp_4, cp_5, cp_6, cp_7, cp_12, cp_20, cp_30, cp_38, cp_39, cp_40, i3, i9, i10, i11, Bool.or_true, Bool.or_false]
      (first | rw [Nx_eq] | rw [Arm_eq] | skip); (try simp_all only [ss_nil, Nx_nil, Arm_nil, sz_0, sz_1, sz_2, sz_3, sz_4, sz_5, sz_6, sz_7, sz_8, sz_9, sz_10, sz_11, sz_12, cp_2, cp_3, cp_4, cp_5, cp_6, cp_7, cp_12, cp_20, cp_30, cp_38, cp_39, cp_40])
      exact ⟨s, .rfl, h⟩
  · exact h.elim
def nvB : List PV → Bool
  | [a] => letB a 12
  | _ => false
def fiB : List PV → Bool
  | [a, s, n] => letB a 12 && boundB s n ["<", "<="]
  | _ => false
def twB (k : Str) : List PV → Bool
  | [a, b, s, n] => letB a 12 && letB b 12 && boundB s n (if k = "rest" then [">", ">="] else ["<", "<="])
  | _ => false
def sentB (v : PV) : Bool := match v with
  | .tup (.str k :: r) => if k = "never" then nvB r else if k = "first" then fiB r else if k = "soon" ∨ k = "rest" ∨ k = "fresh" then twB k r else false
  | _ => false
theorem sent_eq {k : Str} {r : List PV} : sentB (.tup (.str k :: r)) = if k = "never" then nvB r else if k = "first" then fiB r else if k = "soon" ∨ k = "rest" ∨ k = "fresh" then twB k r else false := rfl
theorem sent_never {y : PV} {r : List PV} : sentB (.tup (.str "never" :: y :: r)) = (decide ((PV.str "never" :: y :: r).length = 2) && letB y 12) := by
  rw [sent_eq, if_pos rfl]
  cases r with
  | nil => show letB y 12 = (decide (2 = 2) && letB y 12); simp
  | cons a b => show false = _; simp
theorem sent_first {y : PV} {r : List PV} : ((PV.str "first" :: y :: r).length = 4 → ∃ s n, r = [s, n] ∧ sentB (.tup (.str "first" :: y :: r)) = (letB y 12 && boundB s n ["<", "<="])) ∧
    ((PV.str "first" :: y :: r).length ≠ 4 → sentB (.tup (.str "first" :: y :: r)) = false) := by
  have e : ∀ r : List PV, sentB (.tup (.str "first" :: r)) = fiB r := fun r => by
    rw [sent_eq, if_neg (by decide), if_pos rfl]
  rw [e]
  match r with
  | [] => exact ⟨fun h => by simp at h, fun _ => rfl⟩
  | [_] => exact ⟨fun h => by simp at h, fun _ => rfl⟩
  | [a, b] => exact ⟨fun _ => ⟨a, b, rfl, rfl⟩, fun h => by simp at h⟩
  | _ :: _ :: _ :: _ => exact ⟨fun h => by simp at h, fun _ => rfl⟩
theorem sent_two {k : Str} {y : PV} {r : List PV} (h1 : k ≠ "never") (h2 : k ≠ "first") (hk : k = "soon" ∨ k = "rest" ∨ k = "fresh") :
    ((PV.str k :: y :: r).length = 5 → ∃ b s n, r = [b, s, n] ∧ sentB (.tup (.str k :: y :: r)) = (letB y 12 && letB b 12 && boundB s n (if k = "rest" then [">", ">="] else ["<", "<="]))) ∧
    ((PV.str k :: y :: r).length ≠ 5 → sentB (.tup (.str k :: y :: r)) = false) := by
  have e : ∀ r : List PV, sentB (.tup (.str k :: r)) = twB k r := fun r => by
    rw [sent_eq, if_neg h1, if_neg h2, if_pos hk]
  rw [e]
  match r with
  | [] => exact ⟨fun h => by simp at h, fun _ => rfl⟩
  | [_] => exact ⟨fun h => by simp at h, fun _ => rfl⟩
  | [_, _] => exact ⟨fun h => by simp at h, fun _ => rfl⟩
  | [a, b, c] => exact ⟨fun _ => ⟨a, b, c, rfl, rfl⟩, fun h => by simp at h⟩
  | _ :: _ :: _ :: _ :: _ => exact ⟨fun h => by simp at h, fun _ => rfl⟩
theorem sent_else {k : Str} {r : List PV} (h1 : k ≠ "never") (h2 : k ≠ "first") (hk : ¬ (k = "soon" ∨ k = "rest" ∨ k = "fresh")) : sentB (.tup (.str k :: r)) = false := by
  rw [sent_eq, if_neg h1, if_neg h2, if_neg hk]
def sp_is_sentence : PSpec
  | [v], st, Q, _ => dn v = true ∧ Q (.bl (sentB v)) st
  | _, _, _, _ => False
def b_is_sentence : Ss :=
  (.cons (.ite (.bools .Or (.cons (.not (.val (.isi (.var 0) "tuple"))) (.cons (.cmp .Lt (.blt .len false (.cons (.var 0) .nil)) (.int 2)) (.cons (.not (.val (.isi (.idx (.var 0) (.int 0)) "str"))) .nil)))) (.cons (.ret (.bl false)) .nil) .nil) (.cons (.asg (.name 1) (.idx (.var 0) (.int 0))) (.cons (.ite (.cmp .Eq (.var 1) (.str "never")) (.cons (.ret (.bools .And (.cons (.cmp .Eq (.blt .len false (.cons (.var 0) .nil)) (.int 2)) (.cons (.call "is_letter" sp_is_letter (.cons (.idx (.var 0) (.int 1)) (.cons (.glob "LONGEST" (.int 12)) .nil))) .nil)))) .nil) .nil) (.cons (.ite (.cmp .Eq (.var 1) (.str "first")) (.cons (.ret (.bools .And (.cons (.cmp .Eq (.blt .len false (.cons (.var 0) .nil)) (.int 4)) (.cons (.call "is_letter" sp_is_letter (.cons (.idx (.var 0) (.int 1)) (.cons (.glob "LONGEST" (.int 12)) .nil))) (.cons (.call "is_bound" sp_is_bound (.cons (.idx (.var 0) (.int 2)) (.cons (.idx (.var 0) (.int 3)) (.cons (.glob "UPPER" (.tup [.str "<", .str "<="])) .nil)))) .nil))))) .nil) .nil) (.cons (.ite (.bools .Or (.cons (.cmp .NotIn (.var 1) (.tup (.cons (.str "soon") (.cons (.str "rest") (.cons (.str "fresh") .nil))))) (.cons (.cmp .NotEq (.blt .len false (.cons (.var 0) .nil)) (.int 5)) .nil))) (.cons (.ret (.bl false)) .nil) .nil) (.cons (.ite (.bools .Or (.cons (.not (.val (.call "is_letter" sp_is_letter (.cons (.idx (.var 0) (.int 1)) (.cons (.glob "LONGEST" (.int 12)) .nil))))) (.cons (.not (.val (.call "is_letter" sp_is_letter (.cons (.idx (.var 0) (.int 2)) (.cons (.glob "LONGEST" (.int 12)) .nil))))) .nil))) (.cons (.ret (.bl false)) .nil) .nil) (.cons (.ret (.call "is_bound" sp_is_bound (.cons (.idx (.var 0) (.int 3)) (.cons (.idx (.var 0) (.int 4)) (.cons (.ite (.cmp .Eq (.var 1) (.str "rest")) (.glob "LOWER" (.tup [.str ">", .str ">="])) (.glob "UPPER" (.tup [.str "<", .str "<="]))) .nil))))) .nil)))))))
def n_is_sentence : List Str := ["value", "kind"]
theorem w_is_sentence : ∀ vs s Q X, vs.length = 1 → sp_is_sentence vs s Q X → wpFn n_is_sentence.length b_is_sentence vs s Q X := by
  intro vs s Q X hl h
  unfold sp_is_sentence at h
  split at h
  · rename_i v
    rw [fn_eq]
    unfold b_is_sentence n_is_sentence
    obtain ⟨hv, h⟩ := h
    obtain ⟨i1, i2, i3, i4, i5, i6, i7, i8, i9, i10, i11, i12, i13, i14⟩ := s_no
    cases v with
    | ref _ => cases hv
    | scr _ => cases hv
    | tup xs =>
      have hd := dn_tup hv
      clear hv
      match xs, hd, h with
      | [], _, h =>
        have e : (((0 : Nat) : Int) < 2) = True := eq_true (by decide)
        simp_all only [ss_nil, Nx_nil, Arm_nil, sz_0, sz_1, sz_2, sz_3, sz_4, sz_5, sz_6, sz_7, sz_8, sz_9, sz_10, sz_11, sz_12, cp_2, cp_3, cp_4, cp_5, cp_6, cp_7, cp_12, cp_20, cp_30, cp_38, cp_39, cp_40, s_tup, e]
        (first | rw [Nx_eq] | rw [Arm_eq] | skip); (try simp_all only [ss_nil, Nx_nil, Arm_nil, sz_0, sz_1, sz_2, sz_3, sz_4, sz_5, sz_6, sz_7, sz_8, sz_9, sz_10, sz_11, sz_12, cp_2, cp_3, cp_4, cp_5, cp_6, cp_7, cp_12, cp_20, cp_30, cp_38, cp_39, cp_40])
        exact ⟨s, .rfl, h⟩
      | [x], _, h =>
        have e : (((1 : Nat) : Int) < 2) = True := eq_true (by decide)
        have hb : sentB (.tup [x]) = false := by
          cases x <;> first | rfl | skip
          rw [sent_eq]
          split
          · rfl
          · split
            · rfl
            · split <;> rfl
        rw [hb] at h
        simp_all only [ss_nil, Nx_nil, Arm_nil, sz_0, sz_1, sz_2, sz_3, sz_4, sz_5, sz_6, sz_7, sz_8, sz_9, sz_10, sz_11, sz_12, cp_2, cp_3, cp_4, cp_5, cp_6, cp_7, cp_12, cp_20, cp_30, cp_38, cp_39, cp_40, s_tup, e]
        (first | rw [Nx_eq] | rw [Arm_eq] | skip); (try simp_all only [ss_nil, Nx_nil, Arm_nil, sz_0, sz_1, sz_2, sz_3, sz_4, sz_5, sz_6, sz_7, sz_8, sz_9, sz_10, sz_11, sz_12, cp_2, cp_3, cp_4, cp_5, cp_6, cp_7, cp_12, cp_20, cp_30, cp_38, cp_39, cp_40])
        exact ⟨s, .rfl, h⟩
      | x :: y :: r, hd, h =>
        have e : ((((x :: y :: r).length : Nat) : Int) < 2) = False := eq_false (by simp only [List.length_cons]; omega)
        have hx := hd x List.mem_cons_self
        cases x with
        | str k =>
          have hy := hd y (List.mem_cons_of_mem _ List.mem_cons_self)
          have a0 : atI (PV.str k :: y :: r) 0 = some (.str k) := atI_0
          have a1 : atI (PV.str k :: y :: r) 1 = some y := atI_1
          have nn : ∀ {n : Nat}, (((PV.str k :: y :: r).length : Nat) : Int) = n ↔ (PV.str k :: y :: r).length = n := fun {n} => by omega
          by_cases k1 : k = ("never" : Str)
          · subst k1
            have n2 : ((((PV.str "never" :: y :: r).length : Nat) : Int) = 2) = ((PV.str "never" :: y :: r).length = 2) := propext nn
            rw [sent_never] at h
            have t1 : (("never" : Str) = ("never" : Str)) = True := eq_true rfl
            clear hd hx nn
            revert a0 a1 e n2 h
            generalize PV.str "never" :: y :: r = zs
            intro h e a0 a1 n2
            simp_all only [ss_nil, Nx_nil, Arm_nil, sz_0, sz_1, sz_2, sz_3, sz_4, sz_5, sz_6, sz_7, sz_8, sz_9, sz_10, sz_11, sz_12, cp_2, cp_3, cp_4, cp_5, cp_6, cp_7, cp_12, cp_20, cp_30, cp_38, cp_39, cp_40, s_tup, s_str, e, a0]
            (first | rw [Nx_eq] | rw [Arm_eq] | skip); (try simp_all only [ss_nil, Nx_nil, Arm_nil, sz_0, sz_1, sz_2, sz_3, sz_4, sz_5, sz_6, sz_7, sz_8, sz_9, sz_10, sz_11, sz_12, cp_2, cp_3, cp_4, cp_5, cp_6, cp_7, cp_12, cp_20, cp_30, cp_38, cp_39, cp_40, a0])
            (first | rw [Nx_eq] | rw [Arm_eq] | skip); (try simp_all only [ss_nil, Nx_nil, Arm_nil, sz_0, sz_1, sz_2, sz_3, sz_4, sz_5, sz_6, sz_7, sz_8, sz_9, sz_10, sz_11, sz_12, cp_2, cp_3, cp_4, cp_5, cp_6, cp_7, cp_12, cp_20, cp_30, cp_38, cp_39, cp_40, t1])
            (first | rw [Nx_eq] | rw [Arm_eq] | skip); (try simp_all only [ss_nil, Nx_nil, Arm_nil, sz_0, sz_1, sz_2, sz_3, sz_4, sz_5, sz_6, sz_7, sz_8, sz_9, sz_10, sz_11, sz_12, cp_2, cp_3, cp_4, cp_5, cp_6, cp_7, cp_12, cp_20, cp_30, cp_38, cp_39, cp_40, n2])
            by_cases hl2 : zs.length = 2
            · rw [decide_eq_true hl2, Bool.true_and] at h
              have hl2' : (zs.length = 2) = True := eq_true hl2
              rw [if_pos hl2]
              simp_all only [ss_nil, Nx_nil, Arm_nil, sz_0, sz_1, sz_2, sz_3, sz_4, sz_5, sz_6, sz_7, sz_8, sz_9, sz_10, sz_11, sz_12, cp_2, cp_3, cp_4, cp_5, cp_6, cp_7, cp_12, cp_20, cp_30, cp_38, cp_39, cp_40, a1]
              exact callS_of ⟨hy, s, .rfl, h⟩
            · rw [decide_eq_false hl2, Bool.false_and] at h
              rw [if_neg hl2]
              exact ⟨s, .rfl, h⟩
          · have t1 : (k = ("never" : Str)) = False := eq_false k1
            by_cases k2 : k = ("first" : Str)
            · subst k2
              have n4 : ((((PV.str "first" :: y :: r).length : Nat) : Int) = 4) = ((PV.str "first" :: y :: r).length = 4) := propext nn
              have t2 : (("first" : Str) = ("first" : Str)) = True := eq_true rfl
              by_cases hl4 : (PV.str "first" :: y :: r).length = 4
              · obtain ⟨sg, n, rfl, hB⟩ := sent_first.1 hl4
                rw [hB] at h
                have hs := hd sg (by simp)
                have hn := hd n (by simp)
                have a2 : atI [PV.str "first", y, sg, n] 2 = some sg := atI_2
                have a3 : atI [PV.str "first", y, sg, n] 3 = some n := atI_3
                have n4' : ((([PV.str "first", y, sg, n].length : Nat) : Int) = 4) = True := by rw [n4]; exact eq_true hl4
                clear hd hx nn n4 hl4 hB
                revert a0 a1 a2 a3 e n4'
                generalize [PV.str "first", y, sg, n] = zs
                intro e a0 a1 a2 a3 n4
                simp_all only [ss_nil, Nx_nil, Arm_nil, sz_0, sz_1, sz_2, sz_3, sz_4, sz_5, sz_6, sz_7, sz_8, sz_9, sz_10, sz_11, sz_12, cp_2, cp_3, cp_4, cp_5, cp_6, cp_7, cp_12, cp_20, cp_30, cp_38, cp_39, cp_40, s_tup, s_str, e, a0]
                (first | rw [Nx_eq] | rw [Arm_eq] | skip); (try simp_all only [ss_nil, Nx_nil, Arm_nil, sz_0, sz_1, sz_2, sz_3, sz_4, sz_5, sz_6, sz_7, sz_8, sz_9, sz_10, sz_11, sz_12, cp_2, cp_3, cp_4, cp_5, cp_6, cp_7, cp_12, cp_20, cp_30, cp_38, cp_39, cp_40, a0])
                (first | rw [Nx_eq] | rw [Arm_eq] | skip); (try simp_all only [ss_nil, Nx_nil, Arm_nil, sz_0, sz_1, sz_2, sz_3, sz_4, sz_5, sz_6, sz_7, sz_8, sz_9, sz_10, sz_11, sz_12, cp_2, cp_3, cp_4, cp_5, cp_6, cp_7, cp_12, cp_20, cp_30, cp_38, cp_39, cp_40, t1])
                (first | rw [Nx_eq] | rw [Arm_eq] | skip); (try simp_all only [ss_nil, Nx_nil, Arm_nil, sz_0, sz_1, sz_2, sz_3, sz_4, sz_5, sz_6, sz_7, sz_8, sz_9, sz_10, sz_11, sz_12, cp_2, cp_3, cp_4, cp_5, cp_6, cp_7, cp_12, cp_20, cp_30, cp_38, cp_39, cp_40, t2])
                (first | rw [Nx_eq] | rw [Arm_eq] | skip); (try simp_all only [ss_nil, Nx_nil, Arm_nil, sz_0, sz_1, sz_2, sz_3, sz_4, sz_5, sz_6, sz_7, sz_8, sz_9, sz_10, sz_11, sz_12, cp_2, cp_3, cp_4, cp_5, cp_6, cp_7, cp_12, cp_20, cp_30, cp_38, cp_39, cp_40, n4, a1])
                refine callS_of ⟨hy, ?_⟩
                cases hle : letB y 12 with
                | false =>
                  rw [hle] at h
                  simp_all only [ss_nil, Nx_nil, Arm_nil, sz_0, sz_1, sz_2, sz_3, sz_4, sz_5, sz_6, sz_7, sz_8, sz_9, sz_10, sz_11, sz_12, cp_2, cp_3, cp_4, cp_5, cp_6, cp_7, cp_12, cp_20, cp_30, cp_38, cp_39, cp_40]
                  exact ⟨s, .rfl, h⟩
                | true =>
                  rw [hle, Bool.true_and] at h
                  simp_all only [ss_nil, Nx_nil, Arm_nil, sz_0, sz_1, sz_2, sz_3, sz_4, sz_5, sz_6, sz_7, sz_8, sz_9, sz_10, sz_11, sz_12, cp_2, cp_3, cp_4, cp_5, cp_6, cp_7, cp_12, cp_20, cp_30, cp_38, cp_39, cp_40, a2, a3]
                  exact callS_of ⟨hs, hn, ["<", "<="], rfl, s, .rfl, h⟩
              · rw [sent_first.2 hl4] at h
                have n4' : ((((PV.str "first" :: y :: r).length : Nat) : Int) = 4) = False := by rw [n4]; exact eq_false hl4
                clear hd hx nn n4 hl4
                revert a0 a1 e n4'
                generalize PV.str "first" :: y :: r = zs
                intro e a0 a1 n4
                simp_all only [ss_nil, Nx_nil, Arm_nil, sz_0, sz_1, sz_2, sz_3, sz_4, sz_5, sz_6, sz_7, sz_8, sz_9, sz_10, sz_11, sz_12, cp_2, cp_3, cp_4, cp_5, cp_6, cp_7, cp_12, cp_20, cp_30, cp_38, cp_39, cp_40, s_tup, s_str, e, a0]
                (first | rw [Nx_eq] | rw [Arm_eq] | skip); (try simp_all only [ss_nil, Nx_nil, Arm_nil, sz_0, sz_1, sz_2, sz_3, sz_4, sz_5, sz_6, sz_7, sz_8, sz_9, sz_10, sz_11, sz_12, cp_2, cp_3, cp_4, cp_5, cp_6, cp_7, cp_12, cp_20, cp_30, cp_38, cp_39, cp_40, a0])
                (first | rw [Nx_eq] | rw [Arm_eq] | skip); (try simp_all only [ss_nil, Nx_nil, Arm_nil, sz_0, sz_1, sz_2, sz_3, sz_4, sz_5, sz_6, sz_7, sz_8, sz_9, sz_10, sz_11, sz_12, cp_2, cp_3, cp_4, cp_5, cp_6, cp_7, cp_12, cp_20, cp_30, cp_38, cp_39, cp_40, t1])
                (first | rw [Nx_eq] | rw [Arm_eq] | skip); (try simp_all only [ss_nil, Nx_nil, Arm_nil, sz_0, sz_1, sz_2, sz_3, sz_4, sz_5, sz_6, sz_7, sz_8, sz_9, sz_10, sz_11, sz_12, cp_2, cp_3, cp_4, cp_5, cp_6, cp_7, cp_12, cp_20, cp_30, cp_38, cp_39, cp_40, t2])
                (first | rw [Nx_eq] | rw [Arm_eq] | skip); (try simp_all only [ss_nil, Nx_nil, Arm_nil, sz_0, sz_1, sz_2, sz_3, sz_4, sz_5, sz_6, sz_7, sz_8, sz_9, sz_10, sz_11, sz_12, cp_2, cp_3, cp_4, cp_5, cp_6, cp_7, cp_12, cp_20, cp_30, cp_38, cp_39, cp_40, n4])
                exact ⟨s, .rfl, h⟩
            · have t2 : (k = ("first" : Str)) = False := eq_false k2
              have n5 : ((((PV.str k :: y :: r).length : Nat) : Int) = 5) = ((PV.str k :: y :: r).length = 5) := propext nn
              have hin : ([PV.str "soon", .str "rest", .str "fresh"].any fun z => eqv z (.str k)) = decide (k = "soon" ∨ k = "rest" ∨ k = "fresh") := by
                have := strs_any (x := k) ["soon", "rest", "fresh"]
                rw [show (["soon", "rest", "fresh"] : List Str).map PV.str = [PV.str "soon", .str "rest", .str "fresh"] from rfl] at this
                rw [this]
                simp [List.contains_cons]
              have isc : ([PV.str "soon", .str "rest", .str "fresh"] : List PV).all isSc = true := rfl
              by_cases hk : k = ("soon" : Str) ∨ k = ("rest" : Str) ∨ k = ("fresh" : Str)
              · rw [decide_eq_true hk] at hin
                by_cases hl5 : (PV.str k :: y :: r).length = 5
                · obtain ⟨b, sg, n, rfl, hB⟩ := (sent_two k1 k2 hk).1 hl5
                  rw [hB] at h
                  have hb := hd b (by simp)
                  have hs := hd sg (by simp)
                  have hn := hd n (by simp)
                  have a2 : atI [PV.str k, y, b, sg, n] 2 = some b := atI_2
                  have a3 : atI [PV.str k, y, b, sg, n] 3 = some sg := atI_3
                  have a4 : atI [PV.str k, y, b, sg, n] 4 = some n := atI_4
                  have n5' : ((([PV.str k, y, b, sg, n].length : Nat) : Int) = 5) = True := by rw [n5]; exact eq_true hl5
                  clear hd hx nn n5 hl5 hB
                  revert a0 a1 a2 a3 a4 e n5'
                  generalize [PV.str k, y, b, sg, n] = zs
                  intro e a0 a1 a2 a3 a4 n5
                  simp_all only [ss_nil, Nx_nil, Arm_nil, sz_0, sz_1, sz_2, sz_3, sz_4, sz_5, sz_6, sz_7, sz_8, sz_9, sz_10, sz_11, sz_12, cp_2, cp_3, cp_4, cp_5, cp_6, cp_7, cp_12, cp_20, cp_30, cp_38, cp_39, cp_40, s_tup, s_str, e, a0]
                  (first | rw [Nx_eq] | rw [Arm_eq] | skip); (try simp_all only [ss_nil, Nx_nil, Arm_nil, sz_0, sz_1, sz_2, sz_3, sz_4, sz_5, sz_6, sz_7, sz_8, sz_9, sz_10, sz_11, sz_12, cp_2, cp_3, cp_4, cp_5, cp_6, cp_7, cp_12, cp_20, cp_30, cp_38, cp_39, cp_40, a0])
                  (first | rw [Nx_eq] | rw [Arm_eq] | skip); (try simp_all only [ss_nil, Nx_nil, Arm_nil, sz_0, sz_1, sz_2, sz_3, sz_4, sz_5, sz_6, sz_7, sz_8, sz_9, sz_10, sz_11, sz_12, cp_2, cp_3, cp_4, cp_5, cp_6, cp_7, cp_12, cp_20, cp_30, cp_38, cp_39, cp_40, t1])
                  (first | rw [Nx_eq] | rw [Arm_eq] | skip); (try simp_all only [ss_nil, Nx_nil, Arm_nil, sz_0, sz_1, sz_2, sz_3, sz_4, sz_5, sz_6, sz_7, sz_8, sz_9, sz_10, sz_11, sz_12, cp_2, cp_3, cp_4, cp_5, cp_6, cp_7, cp_12, cp_20, cp_30, cp_38, cp_39, cp_40, t2])
                  (first | rw [Nx_eq] | rw [Arm_eq] | skip); (try simp_all only [ss_nil, Nx_nil, Arm_nil, sz_0, sz_1, sz_2, sz_3, sz_4, sz_5, sz_6, sz_7, sz_8, sz_9, sz_10, sz_11, sz_12, cp_2, cp_3, cp_4, cp_5, cp_6, cp_7, cp_12, cp_20, cp_30, cp_38, cp_39, cp_40, hin, isc, isSc, n5])
                  (first | rw [Nx_eq] | rw [Arm_eq] | skip); (try simp_all only [ss_nil, Nx_nil, Arm_nil, sz_0, sz_1, sz_2, sz_3, sz_4, sz_5, sz_6, sz_7, sz_8, sz_9, sz_10, sz_11, sz_12, cp_2, cp_3, cp_4, cp_5, cp_6, cp_7, cp_12, cp_20, cp_30, cp_38, cp_39, cp_40, a1])
                  refine callS_of ⟨hy, ?_⟩
                  cases hle : letB y 12 with
                  | false =>
                    rw [hle] at h
                    simp_all only [ss_nil, Nx_nil, Arm_nil, sz_0, sz_1, sz_2, sz_3, sz_4, sz_5, sz_6, sz_7, sz_8, sz_9, sz_10, sz_11, sz_12, cp_2, cp_3, cp_4, cp_5, cp_6, cp_7, cp_12, cp_20, cp_30, cp_38, cp_39, cp_40]
                    (first | rw [Nx_eq] | rw [Arm_eq] | skip); (try simp_all only [ss_nil, Nx_nil, Arm_nil, sz_0, sz_1, sz_2, sz_3, sz_4, sz_5, sz_6, sz_7, sz_8, sz_9, sz_10, sz_11, sz_12, cp_2, cp_3, cp_4, cp_5, cp_6, cp_7, cp_12, cp_20, cp_30, cp_38, cp_39, cp_40])
                    exact ⟨s, .rfl, h⟩
                  | true =>
                    simp_all only [ss_nil, Nx_nil, Arm_nil, sz_0, sz_1, sz_2, sz_3, sz_4, sz_5, sz_6, sz_7, sz_8, sz_9, sz_10, sz_11, sz_12, cp_2, cp_3, cp_4, cp_5, cp_6, cp_7, cp_12, cp_20, cp_30, cp_38, cp_39, cp_40, a2]
                    refine callS_of ⟨hb, ?_⟩
                    cases hlf : letB b 12 with
                    | false =>
                      rw [hle, hlf] at h
                      simp_all only [ss_nil, Nx_nil, Arm_nil, sz_0, sz_1, sz_2, sz_3, sz_4, sz_5, sz_6, sz_7, sz_8, sz_9, sz_10, sz_11, sz_12, cp_2, cp_3, cp_4, cp_5, cp_6, cp_7, cp_12, cp_20, cp_30, cp_38, cp_39, cp_40]
                      (first | rw [Nx_eq] | rw [Arm_eq] | skip); (try simp_all only [ss_nil, Nx_nil, Arm_nil, sz_0, sz_1, sz_2, sz_3, sz_4, sz_5, sz_6, sz_7, sz_8, sz_9, sz_10, sz_11, sz_12, cp_2, cp_3, cp_4, cp_5, cp_6, cp_7, cp_12, cp_20, cp_30, cp_38, cp_39, cp_40])
                      exact ⟨s, .rfl, h⟩
                    | true =>
                      rw [hle, hlf] at h
                      have h : Q (.bl (boundB sg n (if k = "rest" then [">", ">="] else ["<", "<="]))) s := h
                      by_cases hr : k = ("rest" : Str)
                      · have t3 : (k = ("rest" : Str)) = True := eq_true hr
                        rw [if_pos hr] at h
                        simp_all only [ss_nil, Nx_nil, Arm_nil, sz_0, sz_1, sz_2, sz_3, sz_4, sz_5, sz_6, sz_7, sz_8, sz_9, sz_10, sz_11, sz_12, cp_2, cp_3, cp_4, cp_5, cp_6, cp_7, cp_12, cp_20, cp_30, cp_38, cp_39, cp_40]
                        (first | rw [Nx_eq] | rw [Arm_eq] | skip); (try simp_all only [ss_nil, Nx_nil, Arm_nil, sz_0, sz_1, sz_2, sz_3, sz_4, sz_5, sz_6, sz_7, sz_8, sz_9, sz_10, sz_11, sz_12, cp_2, cp_3, cp_4, cp_5, cp_6, cp_7, cp_12, cp_20, cp_30, cp_38, cp_39, cp_40, a3, a4, t3])
                        exact callS_of ⟨hs, hn, [">", ">="], rfl, s, .rfl, h⟩
                      · have t3 : (k = ("rest" : Str)) = False := eq_false hr
                        rw [if_neg hr] at h
                        simp_all only [ss_nil, Nx_nil, Arm_nil, sz_0, sz_1, sz_2, sz_3, sz_4, sz_5, sz_6, sz_7, sz_8, sz_9, sz_10, sz_11, sz_12, cp_2, cp_3, cp_4, cp_5, cp_6, cp_7, cp_12, cp_20, cp_30, cp_38, cp_39, cp_40]
                        (first | rw [Nx_eq] | rw [Arm_eq] | skip); (try simp_all only [ss_nil, Nx_nil, Arm_nil, sz_0, sz_1, sz_2, sz_3, sz_4, sz_5, sz_6, sz_7, sz_8, sz_9, sz_10, sz_11, sz_12, cp_2, cp_3, cp_4, cp_5, cp_6, cp_7, cp_12, cp_20, cp_30, cp_38, cp_39, cp_40, a3, a4, t3])
                        exact callS_of ⟨hs, hn, ["<", "<="], rfl, s, .rfl, h⟩
                · rw [(sent_two k1 k2 hk).2 hl5] at h
                  have n5' : ((((PV.str k :: y :: r).length : Nat) : Int) = 5) = False := by rw [n5]; exact eq_false hl5
                  clear hd hx nn n5 hl5 hk
                  revert a0 a1 e n5'
                  generalize PV.str k :: y :: r = zs
                  intro e a0 a1 n5
                  simp_all only [ss_nil, Nx_nil, Arm_nil, sz_0, sz_1, sz_2, sz_3, sz_4, sz_5, sz_6, sz_7, sz_8, sz_9, sz_10, sz_11, sz_12, cp_2, cp_3, cp_4, cp_5, cp_6, cp_7, cp_12, cp_20, cp_30, cp_38, cp_39, cp_40, s_tup, s_str, e, a0]
                  (first | rw [Nx_eq] | rw [Arm_eq] | skip); (try simp_all only [ss_nil, Nx_nil, Arm_nil, sz_0, sz_1, sz_2, sz_3, sz_4, sz_5, sz_6, sz_7, sz_8, sz_9, sz_10, sz_11, sz_12, cp_2, cp_3, cp_4, cp_5, cp_6, cp_7, cp_12, cp_20, cp_30, cp_38, cp_39, cp_40, a0])
                  (first | rw [Nx_eq] | rw [Arm_eq] | skip); (try simp_all only [ss_nil, Nx_nil, Arm_nil, sz_0, sz_1, sz_2, sz_3, sz_4, sz_5, sz_6, sz_7, sz_8, sz_9, sz_10, sz_11, sz_12, cp_2, cp_3, cp_4, cp_5, cp_6, cp_7, cp_12, cp_20, cp_30, cp_38, cp_39, cp_40, t1])
                  (first | rw [Nx_eq] | rw [Arm_eq] | skip); (try simp_all only [ss_nil, Nx_nil, Arm_nil, sz_0, sz_1, sz_2, sz_3, sz_4, sz_5, sz_6, sz_7, sz_8, sz_9, sz_10, sz_11, sz_12, cp_2, cp_3, cp_4, cp_5, cp_6, cp_7, cp_12, cp_20, cp_30, cp_38, cp_39, cp_40, t2])
                  (first | rw [Nx_eq] | rw [Arm_eq] | skip); (try simp_all only [ss_nil, Nx_nil, Arm_nil, sz_0, sz_1, sz_2, sz_3, sz_4, sz_5, sz_6, sz_7, sz_8, sz_9, sz_10, sz_11, sz_12, cp_2, cp_3, cp_4, cp_5, cp_6, cp_7, cp_12, cp_20, cp_30, cp_38, cp_39, cp_40, hin, isc, isSc, n5])
                  (first | rw [Nx_eq] | rw [Arm_eq] | skip); (try simp_all only [ss_nil, Nx_nil, Arm_nil, sz_0, sz_1, sz_2, sz_3, sz_4, sz_5, sz_6, sz_7, sz_8, sz_9, sz_10, sz_11, sz_12, cp_2, cp_3, cp_4, cp_5, cp_6, cp_7, cp_12, cp_20, cp_30, cp_38, cp_39, cp_40])
                  exact ⟨s, .rfl, h⟩
              · rw [decide_eq_false hk] at hin
                rw [sent_else k1 k2 hk] at h
                clear hd hx nn n5 hk
                revert a0 a1 e
                generalize PV.str k :: y :: r = zs
                intro e a0 a1
                simp_all only [ss_nil, Nx_nil, Arm_nil, sz_0, sz_1, sz_2, sz_3, sz_4, sz_5, sz_6, sz_7, sz_8, sz_9, sz_10, sz_11, sz_12, cp_2, cp_3, cp_4, cp_5, cp_6, cp_7, cp_12, cp_20, cp_30, cp_38, cp_39, cp_40, s_tup, s_str, e, a0]
                (first | rw [Nx_eq] | rw [Arm_eq] | skip); (try simp_all only [ss_nil, Nx_nil, Arm_nil, sz_0, sz_1, sz_2, sz_3, sz_4, sz_5, sz_6, sz_7, sz_8, sz_9, sz_10, sz_11, sz_12, cp_2, cp_3, cp_4, cp_5, cp_6, cp_7, cp_12, cp_20, cp_30, cp_38, cp_39, cp_40, a0])
                (first | rw [Nx_eq] | rw [Arm_eq] | skip); (try simp_all only [ss_nil, Nx_nil, Arm_nil, sz_0, sz_1, sz_2, sz_3, sz_4, sz_5, sz_6, sz_7, sz_8, sz_9, sz_10, sz_11, sz_12, cp_2, cp_3, cp_4, cp_5, cp_6, cp_7, cp_12, cp_20, cp_30, cp_38, cp_39, cp_40, t1])
                (first | rw [Nx_eq] | rw [Arm_eq] | skip); (try simp_all only [ss_nil, Nx_nil, Arm_nil, sz_0, sz_1, sz_2, sz_3, sz_4, sz_5, sz_6, sz_7, sz_8, sz_9, sz_10, sz_11, sz_12, cp_2, cp_3, cp_4, cp_5, cp_6, cp_7, cp_12, cp_20, cp_30, cp_38, cp_39, cp_40, t2])
                (first | rw [Nx_eq] | rw [Arm_eq] | skip); (try simp_all only [ss_nil, Nx_nil, Arm_nil, sz_0, sz_1, sz_2, sz_3, sz_4, sz_5, sz_6, sz_7, sz_8, sz_9, sz_10, sz_11, sz_12, cp_2, cp_3, cp_4, cp_5, cp_6, cp_7, cp_12, cp_20, cp_30, cp_38, cp_39, cp_40, hin, isc, isSc])
                (first | rw [Nx_eq] | rw [Arm_eq] | skip); (try simp_all only [ss_nil, Nx_nil, Arm_nil, sz_0, sz_1, sz_2, sz_3, sz_4, sz_5, sz_6, sz_7, sz_8, sz_9, sz_10, sz_11, sz_12, cp_2, cp_3, cp_4, cp_5, cp_6, cp_7, cp_12, cp_20, cp_30, cp_38, cp_39, cp_40])
                exact ⟨s, .rfl, h⟩
        | ref _ => cases hx
        | scr _ => cases hx
        | _ =>
          clear hd hx
          simp_all only [ss_nil, Nx_nil, Arm_nil, sz_0, sz_1, sz_2, sz_3, sz_4, sz_5, sz_6, sz_7, sz_8, sz_9, sz_10, sz_11, sz_12, cp_2, cp_3, cp_4, cp_5, cp_6, cp_7, cp_12, cp_20, cp_30, cp_38, cp_39, cp_40, s_tup, i3, i9, i10, i11, e, Bool.or_true, Bool.or_false]
          (first | rw [Nx_eq] | rw [Arm_eq] | skip); (try simp_all only [ss_nil, Nx_nil, Arm_nil, sz_0, sz_1, sz_2, sz_3, sz_4, sz_5, sz_6, sz_7, sz_8, sz_9, sz_10, sz_11, sz_12, cp_2, cp_3, cp_4, cp_5, cp_6, cp_7, cp_12, cp_20, cp_30, cp_38, cp_39, cp_40])
          exact ⟨s, .rfl, h⟩
    | _ =>
      clear hv
      simp_all only [ss_nil, Nx_nil, Arm_nil, sz_0, sz_1, sz_2, sz_3, sz_4, sz_5, sz_6, sz_7, sz_8, sz_9, sz_10, sz_11, sz_12, cp_2, cp_3, cp_4, cp_5, cp_6, cp_7, cp_12, cp_20, cp_30, cp_38, cp_39, cp_40, i5, i6, i7, i8, Bool.or_true, Bool.or_false]
      (first | rw [Nx_eq] | rw [Arm_eq] | skip); (try simp_all only [ss_nil, Nx_nil, Arm_nil, sz_0, sz_1, sz_2, sz_3, sz_4, sz_5, sz_6, sz_7, sz_8, sz_9, sz_10, sz_11, sz_12, cp_2, cp_3, cp_4, cp_5, cp_6, cp_7, cp_12, cp_20, cp_30, cp_38, cp_39, cp_40])
      exact ⟨s, .rfl, h⟩
  · exact h.elim
end TK

set_option maxRecDepth 100000
set_option maxHeartbeats 4000000
namespace TK
open PySem PySem.Spec PyProof.Rows L2
def sp_check_sentence : PSpec
  | [v], st, Q, X => dn v = true ∧ (sentB v = true → Q .non st) ∧ (sentB v = false → X (errW "sentence") st)
  | _, _, _, _ => False
def b_check_sentence : Ss :=
  (.cons (.ite (.not (.val (.call "is_sentence" sp_is_sentence (.cons (.var 0) .nil)))) (.cons (.raise "BadValue" (.cons (.str "sentence") .nil)) .nil) .nil) .nil)
def n_check_sentence : List Str := ["value"]
theorem w_check_sentence : ∀ vs s Q X, vs.length = 1 → sp_check_sentence vs s Q X → wpFn n_check_sentence.length b_check_sentence vs s Q X := by
  intro vs s Q X hl h
  unfold sp_check_sentence at h
  split at h
  · rename_i v
    rw [fn_eq]
    unfold b_check_sentence n_check_sentence
    obtain ⟨hn, h1, h2⟩ := h
    simp_all only [ss_nil, Nx_nil, Arm_nil, sz_0, sz_1, sz_2, sz_3, sz_4, sz_5, sz_6, sz_7, sz_8, sz_9, sz_10, sz_11, sz_12, cp_2, cp_3, cp_4, cp_5, cp_6, cp_7, cp_12, cp_20, cp_30, cp_38, cp_39, cp_40]
    refine callS_of ⟨hn, ?_⟩
    cases e : sentB v with
    | false =>
      have q := h2 e
      clear h1 h2
      simp_all only [ss_nil, Nx_nil, Arm_nil, sz_0, sz_1, sz_2, sz_3, sz_4, sz_5, sz_6, sz_7, sz_8, sz_9, sz_10, sz_11, sz_12, cp_2, cp_3, cp_4, cp_5, cp_6, cp_7, cp_12, cp_20, cp_30, cp_38, cp_39, cp_40]
      (first | rw [Nx_eq] | rw [Arm_eq] | skip); (try simp_all only [ss_nil, Nx_nil, Arm_nil, sz_0, sz_1, sz_2, sz_3, sz_4, sz_5, sz_6, sz_7, sz_8, sz_9, sz_10, sz_11, sz_12, cp_2, cp_3, cp_4, cp_5, cp_6, cp_7, cp_12, cp_20, cp_30, cp_38, cp_39, cp_40])
      exact ⟨⟨rfl, by decide⟩, s, .rfl, by rw [fld_bv]; exact q⟩
    | true =>
      have q := h1 e
      clear h1 h2
      simp_all only [ss_nil, Nx_nil, Arm_nil, sz_0, sz_1, sz_2, sz_3, sz_4, sz_5, sz_6, sz_7, sz_8, sz_9, sz_10, sz_11, sz_12, cp_2, cp_3, cp_4, cp_5, cp_6, cp_7, cp_12, cp_20, cp_30, cp_38, cp_39, cp_40]
      exact ⟨s, .rfl, q⟩
  · exact h.elim
def signB (v : PV) : Bool := match v with
  | .tup [a, m] => letB a 40 && sizeFin m
  | _ => false
def sp_is_sign : PSpec
  | [v], st, Q, _ => dn v = true ∧ Q (.bl (signB v)) st
  | _, _, _, _ => False
def b_is_sign : Ss :=
  (.cons (.ite (.bools .Or (.cons (.not (.val (.isi (.var 0) "tuple"))) (.cons (.cmp .NotEq (.blt .len false (.cons (.var 0) .nil)) (.int 2)) .nil))) (.cons (.ret (.bl false)) .nil) .nil) (.cons (.ret (.bools .And (.cons (.call "is_letter" sp_is_letter (.cons (.idx (.var 0) (.int 0)) (.cons (.glob "LONGEST_LETTER" (.int 40)) .nil))) (.cons (.call "is_size" sp_is_size (.cons (.idx (.var 0) (.int 1)) .nil)) .nil)))) .nil))
def n_is_sign : List Str := ["value"]
theorem w_is_sign : ∀ vs s Q X, vs.length = 1 → sp_is_sign vs s Q X → wpFn n_is_sign.length b_is_sign vs s Q X := by
  intro vs s Q X hl h
  unfold sp_is_sign at h
  split at h
  · rename_i v
    rw [fn_eq]
    unfold b_is_sign n_is_sign
    obtain ⟨hv, h⟩ := h
    obtain ⟨i1, i2, i3, i4, i5, i6, i7, i8, i9, i10, i11, i12, i13, i14⟩ := s_no
    cases v with
    | ref _ => cases hv
    | scr _ => cases hv
    | tup xs =>
      have hd := dn_tup hv
      clear hv
      by_cases hx : xs.length = 2
      · match xs, hx, hd, h with
        | [a, m], _, hd, h =>
          have ha := hd a (by simp)
          have hm := hd m (by simp)
          have el : (((2 : Nat) : Int) = 2) = True := eq_true rfl
          have h : Q (.bl (letB a 40 && sizeFin m)) s := h
          clear hd
          simp_all only [ss_nil, Nx_nil, Arm_nil, sz_0, sz_1, sz_2, sz_3, sz_4, sz_5, sz_6, sz_7, sz_8, sz_9, sz_10, sz_11, sz_12, cp_2, cp_3, cp_4, cp_5, cp_6, cp_7, cp_12, cp_20, cp_30, cp_38, cp_39, cp_40, s_tup, el]
          (first | rw [Nx_eq] | rw [Arm_eq] | skip); (try simp_all only [ss_nil, Nx_nil, Arm_nil, sz_0, sz_1, sz_2, sz_3, sz_4, sz_5, sz_6, sz_7, sz_8, sz_9, sz_10, sz_11, sz_12, cp_2, cp_3, cp_4, cp_5, cp_6, cp_7, cp_12, cp_20, cp_30, cp_38, cp_39, cp_40])
          refine callS_of ⟨ha, ?_⟩
          cases e : letB a 40 with
          | false =>
            rw [e] at h
            simp_all only [ss_nil, Nx_nil, Arm_nil, sz_0, sz_1, sz_2, sz_3, sz_4, sz_5, sz_6, sz_7, sz_8, sz_9, sz_10, sz_11, sz_12, cp_2, cp_3, cp_4, cp_5, cp_6, cp_7, cp_12, cp_20, cp_30, cp_38, cp_39, cp_40]
            exact ⟨s, .rfl, h⟩
          | true =>
            rw [e, Bool.true_and] at h
            simp_all only [ss_nil, Nx_nil, Arm_nil, sz_0, sz_1, sz_2, sz_3, sz_4, sz_5, sz_6, sz_7, sz_8, sz_9, sz_10, sz_11, sz_12, cp_2, cp_3, cp_4, cp_5, cp_6, cp_7, cp_12, cp_20, cp_30, cp_38, cp_39, cp_40]
            exact callS_of ⟨dn_nr hm, dn_all hm, s, .rfl, h⟩
      · have el : (((xs.length : Nat) : Int) = 2) ↔ False := ⟨fun z => hx (by omega), False.elim⟩
        have e : signB (.tup xs) = false := by
          match xs, hx with
          | [], _ => rfl
          | [_], _ => rfl
          | [_, _], hx => exact absurd rfl hx
          | _ :: _ :: _ :: _, _ => rfl
        rw [e] at h
        clear hd e
        simp_all only [ss_nil, Nx_nil, Arm_nil, sz_0, sz_1, sz_2, sz_3, sz_4, sz_5, sz_6, sz_7, sz_8, sz_9, sz_10, sz_11, sz_12, cp_2, cp_3, cp_4, cp_5, cp_6, cp_7, cp_12, cp_20, cp_30, cp_38, cp_39, cp_40, s_tup, el]
        (first | rw [Nx_eq] | rw [Arm_eq] | skip); (try simp_all only [ss_nil, Nx_nil, Arm_nil, sz_0, sz_1, sz_2, sz_3, sz_4, sz_5, sz_6, sz_7, sz_8, sz_9, sz_10, sz_11, sz_12, cp_2, cp_3, cp_4, cp_5, cp_6, cp_7, cp_12, cp_20, cp_30, cp_38, cp_39, cp_40])
        exact ⟨s, .rfl, h⟩
    | _ =>
      clear hv
      simp_all only [ss_nil, Nx_nil, Arm_nil, sz_0, sz_1, sz_2, sz_3, sz_4, sz_5, sz_6, sz_7, sz_8, sz_9, sz_10, sz_11, sz_12, cp_2, cp_3, cp_4, cp_5, cp_6, cp_7, cp_12, cp_20, cp_30, cp_38, cp_39, cp_40, i5, i6, i7, i8, Bool.or_true, Bool.or_false]
      (first | rw [Nx_eq] | rw [Arm_eq] | skip); (try simp_all only [ss_nil, Nx_nil, Arm_nil, sz_0, sz_1, sz_2, sz_3, sz_4, sz_5, sz_6, sz_7, sz_8, sz_9, sz_10, sz_11, sz_12, cp_2, cp_3, cp_4, cp_5, cp_6, cp_7, cp_12, cp_20, cp_30, cp_38, cp_39, cp_40])
      exact ⟨s, .rfl, h⟩
  · exact h.elim
/-- moments that do not fall -/
def upB : List Rat → Bool
  | [] => true
  | x :: r => (match r with
    | [] => true
    | y :: _ => decide (x ≤ y)) && upB r
def ratOf : PV → Rat
  | .tup [.int n, .int d] => Rat.divInt n d
  | _ => 0
def momOf : PV → PV
  | .tup [_, m] => m
  | _ => .non
def wordB (v : PV) : Bool := match v with
  | .tup [.tup ss, e] => decide (ss.length ≤ 12) && sizeFin e && ss.all signB && upB ((ss.map momOf ++ [e]).map ratOf)
  | _ => false
def sp_is_word : PSpec
  | [v], st, Q, _ => dn v = true ∧ Q (.bl (wordB v)) st
  | _, _, _, _ => False
def b_is_word : Ss :=
  (.cons (.ite (.bools .Or (.cons (.not (.val (.isi (.var 0) "tuple"))) (.cons (.cmp .NotEq (.blt .len false (.cons (.var 0) .nil)) (.int 2)) (.cons (.not (.val (.isi (.idx (.var 0) (.int 0)) "tuple"))) .nil)))) (.cons (.ret (.bl false)) .nil) .nil) (.cons (.ite (.bools .Or (.cons (.cmp .Gt (.blt .len false (.cons (.idx (.var 0) (.int 0)) .nil)) (.glob "MOST_IN_ROW" (.int 12))) (.cons (.not (.val (.call "is_size" sp_is_size (.cons (.idx (.var 0) (.int 1)) .nil)))) .nil))) (.cons (.ret (.bl false)) .nil) .nil) (.cons (.ite (.not (.val (.blt .all false (.cons (.comp false [2] (.name 2) (.val (.idx (.var 0) (.int 0))) .nil (.call "is_sign" sp_is_sign (.cons (.var 2) .nil))) .nil)))) (.cons (.ret (.bl false)) .nil) .nil) (.cons (.asg (.name 1) (.bin .Add false (.comp false [2] (.name 2) (.val (.idx (.var 0) (.int 0))) .nil (.idx (.var 2) (.int 1))) (.lst false (.cons (.idx (.var 0) (.int 1)) .nil)))) (.cons (.ret (.blt .all false (.cons (.comp false [3] (.name 3) (.range1 (.bin .Sub false (.blt .len false (.cons (.var 1) .nil)) (.int 1))) .nil (.not (.call "is_less" sp_is_less (.cons (.idx (.var 1) (.bin .Add false (.var 3) (.int 1))) (.cons (.idx (.var 1) (.var 3)) .nil))))) .nil))) .nil)))))
def n_is_word : List Str := ["word", "moments", "sign", "k"]
theorem size_rat {v : PV} (h : sizeFin v = true) : ∃ x : Rat, v = ratV x ∧ Bd 140 x ∧ 0 ≤ x ∧ ratOf v = x := by
  unfold sizeFin at h
  split at h
  · rename_i n d
    rw [Bool.and_eq_true, decide_eq_true_eq] at h
    obtain ⟨h, h0⟩ := h
    unfold rtoFin at h
    simp only [Bool.and_eq_true, decide_eq_true_eq] at h
    obtain ⟨⟨⟨a, b⟩, c⟩, g⟩ := h
    refine ⟨Rat.divInt n d, (cop_ratV (by omega) g).symm, .of_divInt (by omega) (Nat.lt_trans b (by decide)) (Nat.lt_trans (show d.natAbs < 10 ^ 40 by omega) (by decide)), ?_, rfl⟩
    exact Rat.divInt_nonneg h0 (by omega)
  · cases h
theorem sign_shape {v : PV} (h : signB v = true) : ∃ (a : Str) (x : Rat), v = .tup [.str a, ratV x] ∧ Bd 140 x ∧ letB (.str a) 40 = true ∧ ratOf (momOf v) = x ∧ momOf v = ratV x := by
  unfold signB at h
  split at h
  · rename_i a m
    rw [Bool.and_eq_true] at h
    obtain ⟨h1, h2⟩ := h
    obtain ⟨x, rfl, hb, _, e⟩ := size_rat h2
    cases a with
    | str z => exact ⟨z, x, rfl, hb, h1, e, rfl⟩
    | _ => cases h1
  · cases h
def upF (l : List Rat) (k : Nat) : Bool := match l[k + 1]?, l[k]? with
  | some y, some x => decide (x ≤ y)
  | _, _ => false
theorem up_all : ∀ (l : List Rat), upB l = (List.range (l.length - 1)).all (upF l)
  | [] => rfl
  | [x] => rfl
  | x :: y :: r => by
    have ih := up_all (y :: r)
    show (decide (x ≤ y) && upB (y :: r)) = _
    rw [ih]
    show _ = (List.range ((y :: r).length - 1 + 1)).all _
    rw [List.range_succ_eq_map, List.all_cons, List.all_map]
    rfl
theorem lc_rg {tg : TG} {t : Sl → Store → (Bool → Store → Prop) → Prop} {e : Sl → Store → PQ → Prop} {τ : Sl} {st : Store} {K : List PV → Store → Prop} {n : Nat} {lo : Int} (g : Nat → PV) (ht : ∀ τ1 st' Q, Q true st' → t τ1 st' Q)
    (hx : ∀ k, k < n → ∃ τ1, tg.asg (.int (lo + (k : Int))) τ = some τ1 ∧ ∀ st', Sub st st' → ∀ Q, Q (g k) st' → e τ1 st' Q) (h : K ((List.range n).map g) st) : lcL tg t e τ K (rngL lo n) st [] :=
  lc_enc (enc := fun k : Nat => PV.int (lo + (k : Int))) g (List.range n) ht (fun x hm => hx x (List.mem_range.mp hm)) h
def snV (p : Str × Rat) : PV := .tup [.str p.1, ratV p.2]
theorem signs_of : ∀ {ss : List PV}, ss.all signB = true → ∃ l : List (Str × Rat), ss = l.map snV ∧ (∀ p ∈ l, Bd 140 p.2) ∧ (ss.map momOf).map ratOf = l.map (·.2)
  | [], _ => ⟨[], rfl, fun _ h => (nomatch h), rfl⟩
  | v :: r, h => by
    rw [List.all_cons, Bool.and_eq_true] at h
    obtain ⟨a, x, rfl, hb, _, e, _⟩ := sign_shape h.1
    obtain ⟨l, rfl, hl, e2⟩ := signs_of h.2
    refine ⟨(a, x) :: l, rfl, fun p hp => ?_, by rw [List.map_cons, List.map_cons, e, e2]; rfl⟩
    rcases List.mem_cons.mp hp with rfl | hp
    · exact hb
    · exact hl p hp
theorem w_is_word : ∀ vs s Q X, vs.length = 1 → sp_is_word vs s Q X → wpFn n_is_word.length b_is_word vs s Q X := by
  intro vs s Q X hl h
  unfold sp_is_word at h
  split at h
  · rename_i v
    rw [fn_eq]
    unfold b_is_word n_is_word
    obtain ⟨hv, h⟩ := h
    obtain ⟨i1, i2, i3, i4, i5, i6, i7, i8, i9, i10, i11, i12, i13, i14⟩ := s_no
    have sz : 1000 ≤ sizeLine := by decide
    cases v with
    | ref _ => cases hv
    | scr _ => cases hv
    | tup xs =>
      have hd := dn_tup hv
      clear hv
      by_cases hx : xs.length = 2
      · match xs, hx, hd, h with
        | [a, m], _, hd, h =>
          have ha := hd a (by simp)
          have hm := hd m (by simp)
          have el : (((2 : Nat) : Int) = 2) = True := eq_true rfl
          clear hd
          cases a with
          | ref _ => cases ha
          | scr _ => cases ha
          | tup ss =>
            have hs := dn_tup ha
            have h : Q (.bl (decide (ss.length ≤ 12) && sizeFin m && ss.all signB && upB ((ss.map momOf ++ [m]).map ratOf))) s := h
            clear ha
            simp_all only [ss_nil, Nx_nil, Arm_nil, sz_0, sz_1, sz_2, sz_3, sz_4, sz_5, sz_6, sz_7, sz_8, sz_9, sz_10, sz_11, sz_12, cp_2, cp_3, cp_4, cp_5, cp_6, cp_7, cp_12, cp_20, cp_30, cp_38, cp_39, cp_40, s_tup, el]
            (first | rw [Nx_eq] | rw [Arm_eq] | skip); (try simp_all only [ss_nil, Nx_nil, Arm_nil, sz_0, sz_1, sz_2, sz_3, sz_4, sz_5, sz_6, sz_7, sz_8, sz_9, sz_10, sz_11, sz_12, cp_2, cp_3, cp_4, cp_5, cp_6, cp_7, cp_12, cp_20, cp_30, cp_38, cp_39, cp_40])
            by_cases h12 : ss.length ≤ 12
            · have e12 : ((12 : Int) < ss.length) = False := eq_false (by omega)
              rw [decide_eq_true h12, Bool.true_and] at h
              simp_all only [ss_nil, Nx_nil, Arm_nil, sz_0, sz_1, sz_2, sz_3, sz_4, sz_5, sz_6, sz_7, sz_8, sz_9, sz_10, sz_11, sz_12, cp_2, cp_3, cp_4, cp_5, cp_6, cp_7, cp_12, cp_20, cp_30, cp_38, cp_39, cp_40, e12]
              refine callS_of ⟨dn_nr hm, dn_all hm, ?_⟩
              cases em : sizeFin m with
              | false =>
                rw [em] at h
                clear hs
                simp_all only [ss_nil, Nx_nil, Arm_nil, sz_0, sz_1, sz_2, sz_3, sz_4, sz_5, sz_6, sz_7, sz_8, sz_9, sz_10, sz_11, sz_12, cp_2, cp_3, cp_4, cp_5, cp_6, cp_7, cp_12, cp_20, cp_30, cp_38, cp_39, cp_40]
                (first | rw [Nx_eq] | rw [Arm_eq] | skip); (try simp_all only [ss_nil, Nx_nil, Arm_nil, sz_0, sz_1, sz_2, sz_3, sz_4, sz_5, sz_6, sz_7, sz_8, sz_9, sz_10, sz_11, sz_12, cp_2, cp_3, cp_4, cp_5, cp_6, cp_7, cp_12, cp_20, cp_30, cp_38, cp_39, cp_40])
                exact ⟨s, .rfl, h⟩
              | true =>
                rw [em, Bool.true_and] at h
                obtain ⟨x, rfl, hxb, hx0, ex⟩ := size_rat em
                simp_all only [ss_nil, Nx_nil, Arm_nil, sz_0, sz_1, sz_2, sz_3, sz_4, sz_5, sz_6, sz_7, sz_8, sz_9, sz_10, sz_11, sz_12, cp_2, cp_3, cp_4, cp_5, cp_6, cp_7, cp_12, cp_20, cp_30, cp_38, cp_39, cp_40]
                (first | rw [Nx_eq] | rw [Arm_eq] | skip); (try simp_all only [ss_nil, Nx_nil, Arm_nil, sz_0, sz_1, sz_2, sz_3, sz_4, sz_5, sz_6, sz_7, sz_8, sz_9, sz_10, sz_11, sz_12, cp_2, cp_3, cp_4, cp_5, cp_6, cp_7, cp_12, cp_20, cp_30, cp_38, cp_39, cp_40])
                refine lc_map (fun v => .bl (signB v)) ss (fun τ1 st' Q q => by simp_all only [ss_nil, Nx_nil, Arm_nil, sz_0, sz_1, sz_2, sz_3, sz_4, sz_5, sz_6, sz_7, sz_8, sz_9, sz_10, sz_11, sz_12, cp_2, cp_3, cp_4, cp_5, cp_6, cp_7, cp_12, cp_20, cp_30, cp_38, cp_39, cp_40]; exact q) (fun v hv => ⟨_, rfl, fun st' sub K hk => ?_⟩) ?_
                · have hdv := hs v hv
                  clear hs
                  simp_all only [ss_nil, Nx_nil, Arm_nil, sz_0, sz_1, sz_2, sz_3, sz_4, sz_5, sz_6, sz_7, sz_8, sz_9, sz_10, sz_11, sz_12, cp_2, cp_3, cp_4, cp_5, cp_6, cp_7, cp_12, cp_20, cp_30, cp_38, cp_39, cp_40]
                  exact callS_of ⟨hdv, hk⟩
                cases es : ss.all signB with
                | false =>
                  rw [es, Bool.false_and] at h
                  clear hs
                  simp_all only [ss_nil, Nx_nil, Arm_nil, sz_0, sz_1, sz_2, sz_3, sz_4, sz_5, sz_6, sz_7, sz_8, sz_9, sz_10, sz_11, sz_12, cp_2, cp_3, cp_4, cp_5, cp_6, cp_7, cp_12, cp_20, cp_30, cp_38, cp_39, cp_40, bls_f signB, all_f, es]
                  (first | rw [Nx_eq] | rw [Arm_eq] | skip); (try simp_all only [ss_nil, Nx_nil, Arm_nil, sz_0, sz_1, sz_2, sz_3, sz_4, sz_5, sz_6, sz_7, sz_8, sz_9, sz_10, sz_11, sz_12, cp_2, cp_3, cp_4, cp_5, cp_6, cp_7, cp_12, cp_20, cp_30, cp_38, cp_39, cp_40])
                  exact ⟨s, .rfl, h⟩
                | true =>
                  rw [es, Bool.true_and] at h
                  obtain ⟨l, rfl, hl, eq⟩ := signs_of es
                  rw [List.map_append, eq] at h
                  have h : Q (.bl (upB (l.map (·.2) ++ [ratOf (ratV x)]))) s := h
                  rw [ex] at h
                  clear hs eq ex
                  simp_all only [ss_nil, Nx_nil, Arm_nil, sz_0, sz_1, sz_2, sz_3, sz_4, sz_5, sz_6, sz_7, sz_8, sz_9, sz_10, sz_11, sz_12, cp_2, cp_3, cp_4, cp_5, cp_6, cp_7, cp_12, cp_20, cp_30, cp_38, cp_39, cp_40, bls_f signB, all_f, es]
                  clear es
                  (first | rw [Nx_eq] | rw [Arm_eq] | skip); (try simp_all only [ss_nil, Nx_nil, Arm_nil, sz_0, sz_1, sz_2, sz_3, sz_4, sz_5, sz_6, sz_7, sz_8, sz_9, sz_10, sz_11, sz_12, cp_2, cp_3, cp_4, cp_5, cp_6, cp_7, cp_12, cp_20, cp_30, cp_38, cp_39, cp_40])
                  refine lc_enc (fun p => ratV p.2) l (fun τ1 st' Q q => by simp_all only [ss_nil, Nx_nil, Arm_nil, sz_0, sz_1, sz_2, sz_3, sz_4, sz_5, sz_6, sz_7, sz_8, sz_9, sz_10, sz_11, sz_12, cp_2, cp_3, cp_4, cp_5, cp_6, cp_7, cp_12, cp_20, cp_30, cp_38, cp_39, cp_40]; exact q) (fun p hp => ⟨_, rfl, fun st' sub K hk => ?_⟩) ?_
                  · have sv : snV p = .tup [.str p.1, ratV p.2] := rfl
                    simp_all only [ss_nil, Nx_nil, Arm_nil, sz_0, sz_1, sz_2, sz_3, sz_4, sz_5, sz_6, sz_7, sz_8, sz_9, sz_10, sz_11, sz_12, cp_2, cp_3, cp_4, cp_5, cp_6, cp_7, cp_12, cp_20, cp_30, cp_38, cp_39, cp_40, sv]
                    exact hk
                  have em : (l.map fun p => ratV p.2) ++ [ratV x] = (l.map (·.2) ++ [x]).map ratV := by
                    rw [List.map_append, List.map_map]; rfl
                  have hms : ∀ y ∈ l.map (·.2) ++ [x], Bd 140 y := fun y hy => by
                    rcases List.mem_append.mp hy with hy | hy
                    · obtain ⟨p, hp, rfl⟩ := List.mem_map.mp hy
                      exact hl p hp
                    · rw [List.mem_singleton.mp hy]; exact hxb
                  have lm : (l.map (·.2) ++ [x]).length ≤ 13 := by simp at h12 ⊢; omega
                  simp_all only [ss_nil, Nx_nil, Arm_nil, sz_0, sz_1, sz_2, sz_3, sz_4, sz_5, sz_6, sz_7, sz_8, sz_9, sz_10, sz_11, sz_12, cp_2, cp_3, cp_4, cp_5, cp_6, cp_7, cp_12, cp_20, cp_30, cp_38, cp_39, cp_40, List.length_map]
                  refine ⟨by rw [List.length_map] at h12; omega, ?_⟩
                  rw [em]
                  rw [up_all] at h
                  revert hms lm h
                  generalize l.map (·.2) ++ [x] = ms
                  intro h hms lm
                  (first | rw [Nx_eq] | rw [Arm_eq] | skip); (try simp_all only [ss_nil, Nx_nil, Arm_nil, sz_0, sz_1, sz_2, sz_3, sz_4, sz_5, sz_6, sz_7, sz_8, sz_9, sz_10, sz_11, sz_12, cp_2, cp_3, cp_4, cp_5, cp_6, cp_7, cp_12, cp_20, cp_30, cp_38, cp_39, cp_40, List.length_map])
                  refine ⟨by unfold R62; omega, by rw [show (rngL 0 ((ms.length : Int) - 1).toNat).length = ms.length - 1 by simp [rngL]]; omega, ?_⟩
                  rw [show ((ms.length : Int) - 1).toNat = ms.length - 1 by omega]
                  refine lc_rg (fun k => .bl (upF ms k)) (fun τ1 st' Q q => by simp_all only [ss_nil, Nx_nil, Arm_nil, sz_0, sz_1, sz_2, sz_3, sz_4, sz_5, sz_6, sz_7, sz_8, sz_9, sz_10, sz_11, sz_12, cp_2, cp_3, cp_4, cp_5, cp_6, cp_7, cp_12, cp_20, cp_30, cp_38, cp_39, cp_40]; exact q) (fun k hk => ⟨_, rfl, fun st' sub K hK => ?_⟩) ?_
                  · have e1 : ms[k]? = some (ms[k]'(by omega)) := List.getElem?_eq_getElem _
                    have e2 : ms[k + 1]? = some (ms[k + 1]'(by omega)) := List.getElem?_eq_getElem _
                    have a1 : atI (ms.map ratV) (k : Int) = some (ratV (ms[k]'(by omega))) := by rw [atI_nat, List.getElem?_map, e1]; rfl
                    have a2 : atI (ms.map ratV) ((k : Int) + 1) = some (ratV (ms[k + 1]'(by omega))) := by
                      have := atI_nat (xs := ms.map ratV) (n := k + 1)
                      rw [List.getElem?_map, e2] at this
                      exact this
                    have ef : upF ms k = !decide (ms[k + 1]'(by omega) < ms[k]'(by omega)) := by
                      unfold upF
                      rw [e1, e2]
                      show decide _ = !decide _
                      rw [← decide_not, decide_eq_decide]
                      exact (Rat.not_lt).symm
                    rw [ef] at hK
                    rw [Int.zero_add]
                    simp_all only [ss_nil, Nx_nil, Arm_nil, sz_0, sz_1, sz_2, sz_3, sz_4, sz_5, sz_6, sz_7, sz_8, sz_9, sz_10, sz_11, sz_12, cp_2, cp_3, cp_4, cp_5, cp_6, cp_7, cp_12, cp_20, cp_30, cp_38, cp_39, cp_40, a1, a2]
                    refine callS_of ⟨_, _, rfl, rfl, (hms _ (List.getElem_mem _)).mono (by decide), (hms _ (List.getElem_mem _)).mono (by decide), ?_⟩
                    simp_all only [ss_nil, Nx_nil, Arm_nil, sz_0, sz_1, sz_2, sz_3, sz_4, sz_5, sz_6, sz_7, sz_8, sz_9, sz_10, sz_11, sz_12, cp_2, cp_3, cp_4, cp_5, cp_6, cp_7, cp_12, cp_20, cp_30, cp_38, cp_39, cp_40]
                    exact hK
                  simp_all only [ss_nil, Nx_nil, Arm_nil, sz_0, sz_1, sz_2, sz_3, sz_4, sz_5, sz_6, sz_7, sz_8, sz_9, sz_10, sz_11, sz_12, cp_2, cp_3, cp_4, cp_5, cp_6, cp_7, cp_12, cp_20, cp_30, cp_38, cp_39, cp_40, bls_f (upF ms), all_f]
                  exact ⟨s, .rfl, h⟩
            · have e12 : ((12 : Int) < ss.length) = True := eq_true (by omega)
              rw [decide_eq_false h12] at h
              clear hs
              simp_all only [ss_nil, Nx_nil, Arm_nil, sz_0, sz_1, sz_2, sz_3, sz_4, sz_5, sz_6, sz_7, sz_8, sz_9, sz_10, sz_11, sz_12, cp_2, cp_3, cp_4, cp_5, cp_6, cp_7, cp_12, cp_20, cp_30, cp_38, cp_39, cp_40, e12]
              (first | rw [Nx_eq] | rw [Arm_eq] | skip); (try simp_all only [ss_nil, Nx_nil, Arm_nil, sz_0, sz_1, sz_2, sz_3, sz_4, sz_5, sz_6, sz_7, sz_8, sz_9, sz_10, sz_11, sz_12, cp_2, cp_3, cp_4, cp_5, cp_6, cp_7, cp_12, cp_20, cp_30, cp_38, cp_39, cp_40])
              exact ⟨s, .rfl, h⟩
          | _ =>
            clear ha hm
            simp_all only [ss_nil, Nx_nil, Arm_nil, sz_0, sz_1, sz_2, sz_3, sz_4, sz_5, sz_6, sz_7, sz_8, sz_9, sz_10, sz_11, sz_12, cp_2, cp_3, cp_4, cp_5, cp_6, cp_7, cp_12, cp_20, cp_30, cp_38, cp_39, cp_40, s_tup, el, i5, i6, i7, i8, Bool.or_true, Bool.or_false]
            (first | rw [Nx_eq] | rw [Arm_eq] | skip); (try simp_all only [ss_nil, Nx_nil, Arm_nil, sz_0, sz_1, sz_2, sz_3, sz_4, sz_5, sz_6, sz_7, sz_8, sz_9, sz_10, sz_11, sz_12, cp_2, cp_3, cp_4, cp_5, cp_6, cp_7, cp_12, cp_20, cp_30, cp_38, cp_39, cp_40])
            exact ⟨s, .rfl, h⟩
      · have el : (((xs.length : Nat) : Int) = 2) ↔ False := ⟨fun z => hx (by omega), False.elim⟩
        have e : wordB (.tup xs) = false := by
          match xs, hx with
          | [], _ => rfl
          | [a], _ => cases a <;> rfl
          | [_, _], hx => exact absurd rfl hx
          | a :: _ :: _ :: _, _ => cases a <;> rfl
        rw [e] at h
        clear hd e
        simp_all only [ss_nil, Nx_nil, Arm_nil, sz_0, sz_1, sz_2, sz_3, sz_4, sz_5, sz_6, sz_7, sz_8, sz_9, sz_10, sz_11, sz_12, cp_2, cp_3, cp_4, cp_5, cp_6, cp_7, cp_12, cp_20, cp_30, cp_38, cp_39, cp_40, s_tup, el]
        (first | rw [Nx_eq] | rw [Arm_eq] | skip); (try simp_all only [ss_nil, Nx_nil, Arm_nil, sz_0, sz_1, sz_2, sz_3, sz_4, sz_5, sz_6, sz_7, sz_8, sz_9, sz_10, sz_11, sz_12, cp_2, cp_3, cp_4, cp_5, cp_6, cp_7, cp_12, cp_20, cp_30, cp_38, cp_39, cp_40])
        exact ⟨s, .rfl, h⟩
    | _ =>
      clear hv
      simp_all only [ss_nil, Nx_nil, Arm_nil, sz_0, sz_1, sz_2, sz_3, sz_4, sz_5, sz_6, sz_7, sz_8, sz_9, sz_10, sz_11, sz_12, cp_2, cp_3, cp_4, cp_5, cp_6, cp_7, cp_12, cp_20, cp_30, cp_38, cp_39, cp_40, i5, i6, i7, i8, Bool.or_true, Bool.or_false]
      (first | rw [Nx_eq] | rw [Arm_eq] | skip); (try simp_all only [ss_nil, Nx_nil, Arm_nil, sz_0, sz_1, sz_2, sz_3, sz_4, sz_5, sz_6, sz_7, sz_8, sz_9, sz_10, sz_11, sz_12, cp_2, cp_3, cp_4, cp_5, cp_6, cp_7, cp_12, cp_20, cp_30, cp_38, cp_39, cp_40])
      exact ⟨s, .rfl, h⟩
  · exact h.elim
def sp_check_word : PSpec
  | [v], st, Q, X => dn v = true ∧ (wordB v = true → Q .non st) ∧ (wordB v = false → X (errW "word") st)
  | _, _, _, _ => False
def b_check_word : Ss :=
  (.cons (.ite (.not (.val (.call "is_word" sp_is_word (.cons (.var 0) .nil)))) (.cons (.raise "BadValue" (.cons (.str "word") .nil)) .nil) .nil) .nil)
def n_check_word : List Str := ["word"]
theorem w_check_word : ∀ vs s Q X, vs.length = 1 → sp_check_word vs s Q X → wpFn n_check_word.length b_check_word vs s Q X := by
  intro vs s Q X hl h
  unfold sp_check_word at h
  split at h
  · rename_i v
    rw [fn_eq]
    unfold b_check_word n_check_word
    obtain ⟨hn, h1, h2⟩ := h
    simp_all only [ss_nil, Nx_nil, Arm_nil, sz_0, sz_1, sz_2, sz_3, sz_4, sz_5, sz_6, sz_7, sz_8, sz_9, sz_10, sz_11, sz_12, cp_2, cp_3, cp_4, cp_5, cp_6, cp_7, cp_12, cp_20, cp_30, cp_38, cp_39, cp_40]
    refine callS_of ⟨hn, ?_⟩
    cases e : wordB v with
    | false =>
      have q := h2 e
      clear h1 h2
      simp_all only [ss_nil, Nx_nil, Arm_nil, sz_0, sz_1, sz_2, sz_3, sz_4, sz_5, sz_6, sz_7, sz_8, sz_9, sz_10, sz_11, sz_12, cp_2, cp_3, cp_4, cp_5, cp_6, cp_7, cp_12, cp_20, cp_30, cp_38, cp_39, cp_40]
      (first | rw [Nx_eq] | rw [Arm_eq] | skip); (try simp_all only [ss_nil, Nx_nil, Arm_nil, sz_0, sz_1, sz_2, sz_3, sz_4, sz_5, sz_6, sz_7, sz_8, sz_9, sz_10, sz_11, sz_12, cp_2, cp_3, cp_4, cp_5, cp_6, cp_7, cp_12, cp_20, cp_30, cp_38, cp_39, cp_40])
      exact ⟨⟨rfl, by decide⟩, s, .rfl, by rw [fld_bv]; exact q⟩
    | true =>
      have q := h1 e
      clear h1 h2
      simp_all only [ss_nil, Nx_nil, Arm_nil, sz_0, sz_1, sz_2, sz_3, sz_4, sz_5, sz_6, sz_7, sz_8, sz_9, sz_10, sz_11, sz_12, cp_2, cp_3, cp_4, cp_5, cp_6, cp_7, cp_12, cp_20, cp_30, cp_38, cp_39, cp_40]
      exact ⟨s, .rfl, q⟩
  · exact h.elim
end TK

set_option maxRecDepth 100000
set_option maxHeartbeats 4000000
namespace TK
open PySem PySem.Spec PyProof.Rows L2
/-! ### what sentences say of words -/
abbrev Sns := List (Str × Rat)
structure SnOk (l : Sns) : Prop where
  len : l.length ≤ 100
  bd : ∀ p ∈ l, Bd 300 p.2
def fiM (a : Str) (s : Sg) (n : Nat) (l : Sns) (e : Rat) : Bool := (l.any fun p => decide (p.1 = a) && sgH s p.2 n) || sgH s e n
def laterM (l : Sns) (k : Nat) (b : Str) : List Rat := ((l.drop (k + 1)).filter fun p => decide (p.1 = b)).map (·.2)
def aheadM (l : Sns) (k : Nat) (a : Str) : List Rat := ((l.take k).filter fun p => decide (p.1 = a)).map (·.2)
def soAt (a b : Str) (s : Sg) (n : Nat) (l : Sns) (e : Rat) (k : Nat) : Bool := match l[k]? with
  | some p => !decide (p.1 = a) || (laterM l k b ++ [e]).any fun o => sgH s (o - p.2) n
  | none => true
def soM (a b : Str) (s : Sg) (n : Nat) (l : Sns) (e : Rat) : Bool := (List.range l.length).all (soAt a b s n l e)
def sinceB (fresh : Bool) (s : Sg) (n : Nat) (m : Rat) : Option Rat → Bool
  | none => !fresh
  | some x => sgH s (m - x) n
def siAt (fresh : Bool) (a b : Str) (s : Sg) (n : Nat) (l : Sns) (k : Nat) : Bool := match l[k]? with
  | some p => !decide (p.1 = b) || sinceB fresh s n p.2 (aheadM l k a).getLast?
  | none => true
theorem siAt_eq {fresh : Bool} {a b : Str} {s : Sg} {n : Nat} {l : Sns} {k : Nat} {p : Str × Rat} (h : l[k]? = some p) : siAt fresh a b s n l k = (!decide (p.1 = b) || sinceB fresh s n p.2 (aheadM l k a).getLast?) := by
  unfold siAt; rw [h]
theorem soAt_eq {a b : Str} {s : Sg} {n : Nat} {l : Sns} {e : Rat} {k : Nat} {p : Str × Rat} (h : l[k]? = some p) : soAt a b s n l e k = (!decide (p.1 = a) || (laterM l k b ++ [e]).any fun o => sgH s (o - p.2) n) := by
  unfold soAt; rw [h]
def siM (fresh : Bool) (a b : Str) (s : Sg) (n : Nat) (l : Sns) : Bool := (List.range l.length).all (siAt fresh a b s n l)
theorem sub_div (x y : Rat) : Rat.divInt (x.num * y.den - y.num * x.den) (x.den * y.den) = x - y := by
  have := dpos x
  have := dpos y
  rw [divInt_sub (by omega) (by omega), Rat.num_divInt_den, Rat.num_divInt_den]
def sp_sign_holds : PSpec
  | [.str x, v, .int n], st, Q, _ => ∃ (r : Rat) (s : Sg) (m : Nat), Fr 3900 v r ∧ x = sgS s ∧ n = m ∧ m ≤ 1000 ∧ Q (.bl (sgH s r m)) st
  | _, _, _, _ => False
def b_sign_holds : Ss :=
  (.cons (.ret (.call "compared" sp_compared (.cons (.var 1) (.cons (.var 0) (.cons (.var 2) .nil))))) .nil)
def n_sign_holds : List Str := ["sign", "a", "b"]
theorem w_sign_holds : ∀ vs s Q X, vs.length = 3 → sp_sign_holds vs s Q X → wpFn n_sign_holds.length b_sign_holds vs s Q X := by
  intro vs s Q X hl h
  unfold sp_sign_holds at h
  split at h
  · rename_i x v n
    rw [fn_eq]
    unfold b_sign_holds n_sign_holds
    obtain ⟨r, sg, m, h1, h2, h3, h4, h⟩ := h
    simp_all only [ss_nil, Nx_nil, Arm_nil, sz_0, sz_1, sz_2, sz_3, sz_4, sz_5, sz_6, sz_7, sz_8, sz_9, sz_10, sz_11, sz_12, cp_2, cp_3, cp_4, cp_5, cp_6, cp_7, cp_12, cp_20, cp_30, cp_38, cp_39, cp_40]
    exact callS_of ⟨r, sg, m, h1, h2, h3, h4, s, .rfl, h⟩
  · exact h.elim
def sp_keeps_first : PSpec
  | [.tup vs, .tup xs, ev], st, Q, _ => ∃ (k a : Str) (s : Sg) (n : Nat) (l : Sns) (e : Rat), vs = [.str k, .str a, .str (sgS s), .int n] ∧ n ≤ 1000 ∧ xs = l.map snV ∧ ev = ratV e ∧ SnOk l ∧ Bd 300 e ∧ Q (.bl (fiM a s n l e)) st
  | _, _, _, _ => False
def b_keeps_first : Ss :=
  (.cons (.asg (.tup (.cons (.name 3) (.cons (.name 4) (.cons (.name 5) (.cons (.name 6) .nil))))) (.var 0)) (.cons (.ite (.val (.blt .any false (.cons (.comp false [7, 8] (.tup (.cons (.name 7) (.cons (.name 8) .nil))) (.val (.var 1)) .nil (.bools .And (.cons (.cmp .Eq (.var 7) (.var 4)) (.cons (.call "sign_holds" sp_sign_holds (.cons (.var 5) (.cons (.var 8) (.cons (.var 6) .nil)))) .nil)))) .nil))) (.cons (.ret (.bl true)) .nil) .nil) (.cons (.ret (.call "sign_holds" sp_sign_holds (.cons (.var 5) (.cons (.var 2) (.cons (.var 6) .nil))))) .nil)))
def n_keeps_first : List Str := ["sentence", "signs", "end", "kind", "a", "sign", "number", "letter", "moment"]
theorem w_keeps_first : ∀ vs s Q X, vs.length = 3 → sp_keeps_first vs s Q X → wpFn n_keeps_first.length b_keeps_first vs s Q X := by
  intro vs s Q X hl h
  unfold sp_keeps_first at h
  split at h
  · rw [fn_eq]
    unfold b_keeps_first n_keeps_first
    obtain ⟨k, a, sg, n, l, e, rfl, hn, rfl, rfl, ⟨hl1, hl2⟩, he, h⟩ := h
    unfold fiM at h
    simp_all only [ss_nil, Nx_nil, Arm_nil, sz_0, sz_1, sz_2, sz_3, sz_4, sz_5, sz_6, sz_7, sz_8, sz_9, sz_10, sz_11, sz_12, cp_2, cp_3, cp_4, cp_5, cp_6, cp_7, cp_12, cp_20, cp_30, cp_38, cp_39, cp_40]
    (first | rw [Nx_eq] | rw [Arm_eq] | skip); (try simp_all only [ss_nil, Nx_nil, Arm_nil, sz_0, sz_1, sz_2, sz_3, sz_4, sz_5, sz_6, sz_7, sz_8, sz_9, sz_10, sz_11, sz_12, cp_2, cp_3, cp_4, cp_5, cp_6, cp_7, cp_12, cp_20, cp_30, cp_38, cp_39, cp_40])
    refine lc_enc (fun p : Str × Rat => .bl (decide (p.1 = a) && sgH sg p.2 n)) l (fun τ1 st' Q q => by simp_all only [ss_nil, Nx_nil, Arm_nil, sz_0, sz_1, sz_2, sz_3, sz_4, sz_5, sz_6, sz_7, sz_8, sz_9, sz_10, sz_11, sz_12, cp_2, cp_3, cp_4, cp_5, cp_6, cp_7, cp_12, cp_20, cp_30, cp_38, cp_39, cp_40]; exact q) (fun p hp => ⟨_, rfl, fun st' sub K hk => ?_⟩) ?_
    · by_cases hq : p.1 = a
      · rw [decide_eq_true hq, Bool.true_and] at hk
        have e1 : (p.1 = a) = True := eq_true hq
        simp_all only [ss_nil, Nx_nil, Arm_nil, sz_0, sz_1, sz_2, sz_3, sz_4, sz_5, sz_6, sz_7, sz_8, sz_9, sz_10, sz_11, sz_12, cp_2, cp_3, cp_4, cp_5, cp_6, cp_7, cp_12, cp_20, cp_30, cp_38, cp_39, cp_40, e1]
        exact callS_of ⟨p.2, sg, n, ((hl2 p hp).mono (by decide)).fr, rfl, rfl, hn, hk⟩
      · rw [decide_eq_false hq, Bool.false_and] at hk
        have e1 : (p.1 = a) = False := eq_false hq
        simp_all only [ss_nil, Nx_nil, Arm_nil, sz_0, sz_1, sz_2, sz_3, sz_4, sz_5, sz_6, sz_7, sz_8, sz_9, sz_10, sz_11, sz_12, cp_2, cp_3, cp_4, cp_5, cp_6, cp_7, cp_12, cp_20, cp_30, cp_38, cp_39, cp_40, e1]
        exact hk
    simp_all only [ss_nil, Nx_nil, Arm_nil, sz_0, sz_1, sz_2, sz_3, sz_4, sz_5, sz_6, sz_7, sz_8, sz_9, sz_10, sz_11, sz_12, cp_2, cp_3, cp_4, cp_5, cp_6, cp_7, cp_12, cp_20, cp_30, cp_38, cp_39, cp_40, bls_f (fun p : Str × Rat => decide (p.1 = a) && sgH sg p.2 n), any_f]
    cases ha : l.any fun p => decide (p.1 = a) && sgH sg p.2 n with
    | true =>
      rw [ha, Bool.true_or] at h
      simp_all only [ss_nil, Nx_nil, Arm_nil, sz_0, sz_1, sz_2, sz_3, sz_4, sz_5, sz_6, sz_7, sz_8, sz_9, sz_10, sz_11, sz_12, cp_2, cp_3, cp_4, cp_5, cp_6, cp_7, cp_12, cp_20, cp_30, cp_38, cp_39, cp_40, ha]
      (first | rw [Nx_eq] | rw [Arm_eq] | skip); (try simp_all only [ss_nil, Nx_nil, Arm_nil, sz_0, sz_1, sz_2, sz_3, sz_4, sz_5, sz_6, sz_7, sz_8, sz_9, sz_10, sz_11, sz_12, cp_2, cp_3, cp_4, cp_5, cp_6, cp_7, cp_12, cp_20, cp_30, cp_38, cp_39, cp_40])
      exact ⟨s, .rfl, h⟩
    | false =>
      rw [ha, Bool.false_or] at h
      simp_all only [ss_nil, Nx_nil, Arm_nil, sz_0, sz_1, sz_2, sz_3, sz_4, sz_5, sz_6, sz_7, sz_8, sz_9, sz_10, sz_11, sz_12, cp_2, cp_3, cp_4, cp_5, cp_6, cp_7, cp_12, cp_20, cp_30, cp_38, cp_39, cp_40, ha]
      (first | rw [Nx_eq] | rw [Arm_eq] | skip); (try simp_all only [ss_nil, Nx_nil, Arm_nil, sz_0, sz_1, sz_2, sz_3, sz_4, sz_5, sz_6, sz_7, sz_8, sz_9, sz_10, sz_11, sz_12, cp_2, cp_3, cp_4, cp_5, cp_6, cp_7, cp_12, cp_20, cp_30, cp_38, cp_39, cp_40])
      exact callS_of ⟨e, sg, n, (he.mono (by decide)).fr, rfl, rfl, hn, s, .rfl, h⟩
  · exact h.elim
def lastV : Option Rat → PV
  | none => .non
  | some x => ratV x
def sp_last_ahead : PSpec
  | [.tup xs, .int n, .str a], st, Q, _ => ∃ (l : Sns) (k : Nat), xs = l.map snV ∧ n = k ∧ Q (lastV (aheadM l k a).getLast?) st
  | _, _, _, _ => False
def b_last_ahead_1 : Ss :=
  (.cons (.ite (.cmp .Eq (.var 4) (.var 2)) (.cons (.asg (.name 3) (.var 5)) .nil) .nil) .nil)
def b_last_ahead : Ss :=
  (.cons (.asg (.name 3) .non) (.cons (.loop (.tup (.cons (.name 4) (.cons (.name 5) .nil))) (.val (.slice false (.var 0) .no (.yes (.var 1)))) b_last_ahead_1) (.cons (.ret (.var 3)) .nil)))
def n_last_ahead : List Str := ["signs", "at", "a", "told", "letter", "moment"]
theorem last_snoc {α : Type} (l : List α) (x : α) : (l ++ [x]).getLast? = some x := by simp
theorem w_last_ahead : ∀ vs s Q X, vs.length = 3 → sp_last_ahead vs s Q X → wpFn n_last_ahead.length b_last_ahead vs s Q X := by
  intro vs s Q X hl h
  unfold sp_last_ahead at h
  split at h
  · rename_i xs n a
    rw [fn_eq]
    unfold b_last_ahead n_last_ahead
    obtain ⟨l, k, rfl, rfl, h⟩ := h
    have ct : cutP (l.map snV) none (some (k : Int)) = (l.take k).map snV := by rw [cut_to (by omega), Int.toNat_natCast, List.map_take]
    simp_all only [ss_nil, Nx_nil, Arm_nil, sz_0, sz_1, sz_2, sz_3, sz_4, sz_5, sz_6, sz_7, sz_8, sz_9, sz_10, sz_11, sz_12, cp_2, cp_3, cp_4, cp_5, cp_6, cp_7, cp_12, cp_20, cp_30, cp_38, cp_39, cp_40]
    (first | rw [Nx_eq] | rw [Arm_eq] | skip); (try simp_all only [ss_nil, Nx_nil, Arm_nil, sz_0, sz_1, sz_2, sz_3, sz_4, sz_5, sz_6, sz_7, sz_8, sz_9, sz_10, sz_11, sz_12, cp_2, cp_3, cp_4, cp_5, cp_6, cp_7, cp_12, cp_20, cp_30, cp_38, cp_39, cp_40, ct])
    refine for_at (fun i τ st => st = s ∧ ∃ o4 o5 : Option PV, τ = [some (.tup (l.map snV)), some (.int k), some (.str a), some (lastV (aheadM (l.take k) i a).getLast?), o4, o5]) ?_ ?_ ⟨rfl, _, _, rfl⟩
    · rintro i v τ st hi ⟨rfl, o4, o5, rfl⟩
      rw [List.getElem?_map] at hi
      cases hp : (l.take k)[i]? with
      | none => rw [hp] at hi; cases hi
      | some p =>
        rw [hp] at hi
        cases hi
        have sv : snV p = .tup [.str p.1, ratV p.2] := rfl
        have tk : aheadM (l.take k) (i + 1) a = aheadM (l.take k) i a ++ (if p.1 = a then [p.2] else []) := by
          unfold aheadM
          rw [take1 hp, List.filter_append, List.map_append]
          by_cases hq : p.1 = a <;> simp [hq]
        refine ⟨trivial, ?_⟩
        unfold b_last_ahead_1
        rw [tk]
        by_cases hq : p.1 = a
        · have e1 : (p.1 = a) = True := eq_true hq
          have el : lastV (aheadM (l.take k) i a ++ [p.2]).getLast? = ratV p.2 := by rw [last_snoc]; rfl
          rw [if_pos hq, el]
          simp_all only [ss_nil, Nx_nil, Arm_nil, sz_0, sz_1, sz_2, sz_3, sz_4, sz_5, sz_6, sz_7, sz_8, sz_9, sz_10, sz_11, sz_12, cp_2, cp_3, cp_4, cp_5, cp_6, cp_7, cp_12, cp_20, cp_30, cp_38, cp_39, cp_40, sv, e1]
          (first | rw [Nx_eq] | rw [Arm_eq] | skip); (try simp_all only [ss_nil, Nx_nil, Arm_nil, sz_0, sz_1, sz_2, sz_3, sz_4, sz_5, sz_6, sz_7, sz_8, sz_9, sz_10, sz_11, sz_12, cp_2, cp_3, cp_4, cp_5, cp_6, cp_7, cp_12, cp_20, cp_30, cp_38, cp_39, cp_40])
          exact ⟨_, _, rfl⟩
        · have e1 : (p.1 = a) = False := eq_false hq
          rw [if_neg hq, List.append_nil]
          simp_all only [ss_nil, Nx_nil, Arm_nil, sz_0, sz_1, sz_2, sz_3, sz_4, sz_5, sz_6, sz_7, sz_8, sz_9, sz_10, sz_11, sz_12, cp_2, cp_3, cp_4, cp_5, cp_6, cp_7, cp_12, cp_20, cp_30, cp_38, cp_39, cp_40, sv, e1]
          exact ⟨_, _, rfl⟩
    · rintro τ st ⟨rfl, o4, o5, rfl⟩
      refine ⟨trivial, ?_⟩
      have e : aheadM (l.take k) ((l.take k).map snV).length a = aheadM l k a := by
        unfold aheadM
        rw [List.length_map, List.take_length]
      rw [e]
      simp_all only [ss_nil, Nx_nil, Arm_nil, sz_0, sz_1, sz_2, sz_3, sz_4, sz_5, sz_6, sz_7, sz_8, sz_9, sz_10, sz_11, sz_12, cp_2, cp_3, cp_4, cp_5, cp_6, cp_7, cp_12, cp_20, cp_30, cp_38, cp_39, cp_40]
      (first | rw [Nx_eq] | rw [Arm_eq] | skip); (try simp_all only [ss_nil, Nx_nil, Arm_nil, sz_0, sz_1, sz_2, sz_3, sz_4, sz_5, sz_6, sz_7, sz_8, sz_9, sz_10, sz_11, sz_12, cp_2, cp_3, cp_4, cp_5, cp_6, cp_7, cp_12, cp_20, cp_30, cp_38, cp_39, cp_40])
      exact ⟨st, .rfl, h⟩
  · exact h.elim
end TK

set_option maxRecDepth 100000
set_option maxHeartbeats 4000000
namespace TK
open PySem PySem.Spec PyProof.Rows L2
theorem get_en2 {l : List PV} : ∀ {k i : Nat} {v : PV}, (enumL k l)[i]? = some v → ∃ x, l[i]? = some x ∧ v = .tup [.int ((k + i : Nat) : Int), x] := by
  induction l with
  | nil => intro k i v h; simp [enumL] at h
  | cons x r ih =>
    intro k i v h
    cases i with
    | zero => have h : some (PV.tup [.int (k : Int), x]) = some v := h; cases h; exact ⟨x, rfl, rfl⟩
    | succ i =>
      obtain ⟨y, h1, h2⟩ := ih (k := k + 1) (i := i) (v := v) h
      exact ⟨y, h1, by rw [h2, show k + 1 + i = k + (i + 1) by omega]⟩
theorem en_len2 {l : List PV} : ∀ {k : Nat}, (enumL k l).length = l.length := by
  induction l with
  | nil => intro k; rfl
  | cons x r ih => intro k; show (enumL (k + 1) r).length + 1 = r.length + 1; rw [ih]
theorem get_sn {l : Sns} {i : Nat} {v : PV} (h : (l.map snV)[i]? = some v) : ∃ p, v = snV p ∧ l[i]? = some p := by
  rw [List.getElem?_map] at h
  cases e : l[i]? with
  | none => rw [e] at h; cases h
  | some x => rw [e] at h; cases h; exact ⟨x, rfl, rfl⟩
/-- all of the first i, one more -/
theorem allR_succ {f : Nat → Bool} {i : Nat} (h : (List.range i).all f = true) (k : f i = true) : (List.range (i + 1)).all f = true := by
  rw [List.range_succ, List.all_append, h]
  simp [k]
theorem allR_no {f : Nat → Bool} {i n : Nat} (hi : i < n) (k : f i = false) : (List.range n).all f = false := by
  cases e : (List.range n).all f with
  | false => rfl
  | true =>
    have := List.all_eq_true.mp e i (List.mem_range.mpr hi)
    rw [k] at this; cases this
theorem later_mem {l : Sns} {k : Nat} {b : Str} (O : SnOk l) : ∀ x ∈ laterM l k b, Bd 300 x := fun x hx => by
  obtain ⟨p, hp, rfl⟩ := List.mem_map.mp hx
  exact O.bd p (List.mem_of_mem_drop (List.mem_filter.mp hp).1)
theorem ahead_mem {l : Sns} {k : Nat} {b : Str} (O : SnOk l) : ∀ x ∈ aheadM l k b, Bd 300 x := fun x hx => by
  obtain ⟨p, hp, rfl⟩ := List.mem_map.mp hx
  exact O.bd p (List.mem_of_mem_take (List.mem_filter.mp hp).1)
theorem later_len {l : Sns} {k : Nat} {b : Str} (O : SnOk l) : (laterM l k b).length ≤ 100 := by
  unfold laterM
  rw [List.length_map]
  have h1 := List.length_filter_le (fun p : Str × Rat => decide (p.1 = b)) (l.drop (k + 1))
  rw [List.length_drop] at h1
  have := O.len
  omega
def sp_keeps_soon : PSpec
  | [.tup vs, .tup xs, ev], st, Q, _ => ∃ (k a b : Str) (s : Sg) (n : Nat) (l : Sns) (e : Rat), vs = [.str k, .str a, .str b, .str (sgS s), .int n] ∧ n ≤ 1000 ∧ xs = l.map snV ∧ ev = ratV e ∧ SnOk l ∧ Bd 300 e ∧ Q (.bl (soM a b s n l e)) st
  | _, _, _, _ => False
def b_keeps_soon_1 : Ss :=
  (.cons (.ite (.cmp .NotEq (.var 10) (.var 4)) (.cons .cont .nil) .nil) (.cons (.asg (.name 9) (.bin .Add false (.comp false [12, 13] (.tup (.cons (.name 12) (.cons (.name 13) .nil))) (.val (.slice false (.var 1) (.yes (.bin .Add false (.var 8) (.int 1))) .no)) (.cons (.cmp .Eq (.var 12) (.var 5)) .nil) (.var 13)) (.lst false (.cons (.var 2) .nil)))) (.cons (.ite (.not (.val (.blt .any false (.cons (.comp false [13] (.name 13) (.val (.var 9)) .nil (.call "sign_holds" sp_sign_holds (.cons (.var 6) (.cons (.call "minus" sp_minus (.cons (.var 13) (.cons (.var 11) .nil))) (.cons (.var 7) .nil))))) .nil)))) (.cons (.ret (.bl false)) .nil) .nil) .nil)))
def b_keeps_soon : Ss :=
  (.cons (.asg (.tup (.cons (.name 3) (.cons (.name 4) (.cons (.name 5) (.cons (.name 6) (.cons (.name 7) .nil)))))) (.var 0)) (.cons (.loop (.tup (.cons (.name 8) (.cons (.tup (.cons (.name 10) (.cons (.name 11) .nil))) .nil))) (.enum (.var 1)) b_keeps_soon_1) (.cons (.ret (.bl true)) .nil)))
def n_keeps_soon : List Str := ["sentence", "signs", "end", "kind", "a", "b", "sign", "number", "at", "later", "letter", "moment", "word", "other"]
theorem w_keeps_soon : ∀ vs s Q X, vs.length = 3 → sp_keeps_soon vs s Q X → wpFn n_keeps_soon.length b_keeps_soon vs s Q X := by
  intro vs s Q X hl h
  unfold sp_keeps_soon at h
  split at h
  · rw [fn_eq]
    unfold b_keeps_soon n_keeps_soon
    obtain ⟨k, a, b, sg, n, l, e, rfl, hn, rfl, rfl, O, he, h⟩ := h
    have sz : 1000 ≤ sizeLine := by decide
    unfold soM at h
    simp_all only [ss_nil, Nx_nil, Arm_nil, sz_0, sz_1, sz_2, sz_3, sz_4, sz_5, sz_6, sz_7, sz_8, sz_9, sz_10, sz_11, sz_12, cp_2, cp_3, cp_4, cp_5, cp_6, cp_7, cp_12, cp_20, cp_30, cp_38, cp_39, cp_40]
    (first | rw [Nx_eq] | rw [Arm_eq] | skip); (try simp_all only [ss_nil, Nx_nil, Arm_nil, sz_0, sz_1, sz_2, sz_3, sz_4, sz_5, sz_6, sz_7, sz_8, sz_9, sz_10, sz_11, sz_12, cp_2, cp_3, cp_4, cp_5, cp_6, cp_7, cp_12, cp_20, cp_30, cp_38, cp_39, cp_40])
    refine for_at (fun i τ st => st = s ∧ (List.range i).all (soAt a b sg n l e) = true ∧ ∃ o8 o9 o10 o11 o12 o13 : Option PV, τ = [some (.tup [.str k, .str a, .str b, .str (sgS sg), .int n]), some (.tup (l.map snV)), some (ratV e), some (.str k), some (.str a), some (.str b), some (.str (sgS sg)), some (.int n), o8, o9, o10, o11, o12, o13]) ?_ ?_ ⟨rfl, rfl, _, _, _, _, _, _, rfl⟩
    · rintro i v τ st hi ⟨rfl, hall, o8, o9, o10, o11, o12, o13, rfl⟩
      obtain ⟨x, hx, rfl⟩ := get_en2 hi
      obtain ⟨p, rfl, hp⟩ := get_sn hx
      have hil := (List.getElem?_eq_some_iff.mp hp).1
      have hpb := O.bd p (List.mem_of_getElem? hp)
      rw [Nat.zero_add]
      have sv : ∀ p : Str × Rat, snV p = .tup [.str p.1, ratV p.2] := fun _ => rfl
      have eA := soAt_eq (a := a) (b := b) (s := sg) (n := n) (e := e) hp
      refine ⟨trivial, ?_⟩
      unfold b_keeps_soon_1
      by_cases hq : p.1 = a
      · have e1 : (p.1 = a) = True := eq_true hq
        rw [decide_eq_true hq] at eA
        have eA : soAt a b sg n l e i = (laterM l i b ++ [e]).any fun o => sgH sg (o - p.2) n := eA
        have ct : cutP (l.map snV) (some ((i : Int) + 1)) none = (l.drop (i + 1)).map snV := by rw [cut_from (by omega), show ((i : Int) + 1).toNat = i + 1 by omega, List.map_drop]
        simp_all only [ss_nil, Nx_nil, Arm_nil, sz_0, sz_1, sz_2, sz_3, sz_4, sz_5, sz_6, sz_7, sz_8, sz_9, sz_10, sz_11, sz_12, cp_2, cp_3, cp_4, cp_5, cp_6, cp_7, cp_12, cp_20, cp_30, cp_38, cp_39, cp_40, sv, ↓v_neSS2, e1]
        (first | rw [Nx_eq] | rw [Arm_eq] | skip); (try simp_all only [ss_nil, Nx_nil, Arm_nil, sz_0, sz_1, sz_2, sz_3, sz_4, sz_5, sz_6, sz_7, sz_8, sz_9, sz_10, sz_11, sz_12, cp_2, cp_3, cp_4, cp_5, cp_6, cp_7, cp_12, cp_20, cp_30, cp_38, cp_39, cp_40, ct])
        refine lc_filter (fun p => decide (p.1 = b)) (fun p => ratV p.2) (l.drop (i + 1)) (fun p hp => ⟨_, rfl, fun st' sub => ⟨fun K hk => ?_, fun _ K hk => ?_⟩⟩) ?_
        · by_cases hb : p.1 = b
          · have e2 : (p.1 = b) = True := eq_true hb
            rw [decide_eq_true hb] at hk
            simp_all only [ss_nil, Nx_nil, Arm_nil, sz_0, sz_1, sz_2, sz_3, sz_4, sz_5, sz_6, sz_7, sz_8, sz_9, sz_10, sz_11, sz_12, cp_2, cp_3, cp_4, cp_5, cp_6, cp_7, cp_12, cp_20, cp_30, cp_38, cp_39, cp_40, e2]
            exact hk
          · have e2 : (p.1 = b) = False := eq_false hb
            rw [decide_eq_false hb] at hk
            simp_all only [ss_nil, Nx_nil, Arm_nil, sz_0, sz_1, sz_2, sz_3, sz_4, sz_5, sz_6, sz_7, sz_8, sz_9, sz_10, sz_11, sz_12, cp_2, cp_3, cp_4, cp_5, cp_6, cp_7, cp_12, cp_20, cp_30, cp_38, cp_39, cp_40, e2]
            exact hk
        · simp_all only [ss_nil, Nx_nil, Arm_nil, sz_0, sz_1, sz_2, sz_3, sz_4, sz_5, sz_6, sz_7, sz_8, sz_9, sz_10, sz_11, sz_12, cp_2, cp_3, cp_4, cp_5, cp_6, cp_7, cp_12, cp_20, cp_30, cp_38, cp_39, cp_40]
          exact hk
        have em : (((l.drop (i + 1)).filter fun p => decide (p.1 = b)).map fun p => ratV p.2) = (laterM l i b).map ratV := by
          unfold laterM; rw [List.map_map]; rfl
        rw [em]
        have em2 : (laterM l i b).map ratV ++ [ratV e] = (laterM l i b ++ [e]).map ratV := by rw [List.map_append]; rfl
        have lb := later_len (k := i) (b := b) O
        have mb : ∀ x ∈ laterM l i b ++ [e], Bd 300 x := fun x hx => by
          rcases List.mem_append.mp hx with hx | hx
          · exact later_mem O x hx
          · rw [List.mem_singleton.mp hx]; exact he
        simp_all only [ss_nil, Nx_nil, Arm_nil, sz_0, sz_1, sz_2, sz_3, sz_4, sz_5, sz_6, sz_7, sz_8, sz_9, sz_10, sz_11, sz_12, cp_2, cp_3, cp_4, cp_5, cp_6, cp_7, cp_12, cp_20, cp_30, cp_38, cp_39, cp_40, List.length_map]
        refine ⟨by omega, ?_⟩
        rw [em2]
        clear em em2 ct
        revert eA mb lb
        generalize laterM l i b ++ [e] = ms
        intro eA lb mb
        (first | rw [Nx_eq] | rw [Arm_eq] | skip); (try simp_all only [ss_nil, Nx_nil, Arm_nil, sz_0, sz_1, sz_2, sz_3, sz_4, sz_5, sz_6, sz_7, sz_8, sz_9, sz_10, sz_11, sz_12, cp_2, cp_3, cp_4, cp_5, cp_6, cp_7, cp_12, cp_20, cp_30, cp_38, cp_39, cp_40])
        refine lc_enc (fun o => .bl (sgH sg (o - p.2) n)) ms (fun τ1 st' Q q => by simp_all only [ss_nil, Nx_nil, Arm_nil, sz_0, sz_1, sz_2, sz_3, sz_4, sz_5, sz_6, sz_7, sz_8, sz_9, sz_10, sz_11, sz_12, cp_2, cp_3, cp_4, cp_5, cp_6, cp_7, cp_12, cp_20, cp_30, cp_38, cp_39, cp_40]; exact q) (fun o ho => ⟨_, rfl, fun st' sub K hk => ?_⟩) ?_
        · have hob := mb o ho
          simp_all only [ss_nil, Nx_nil, Arm_nil, sz_0, sz_1, sz_2, sz_3, sz_4, sz_5, sz_6, sz_7, sz_8, sz_9, sz_10, sz_11, sz_12, cp_2, cp_3, cp_4, cp_5, cp_6, cp_7, cp_12, cp_20, cp_30, cp_38, cp_39, cp_40]
          refine callS_of ⟨o, p.2, rfl, rfl, hob.mono (by decide), hpb.mono (by decide), ?_⟩
          rw [sub_div]
          simp_all only [ss_nil, Nx_nil, Arm_nil, sz_0, sz_1, sz_2, sz_3, sz_4, sz_5, sz_6, sz_7, sz_8, sz_9, sz_10, sz_11, sz_12, cp_2, cp_3, cp_4, cp_5, cp_6, cp_7, cp_12, cp_20, cp_30, cp_38, cp_39, cp_40]
          exact callS_of ⟨o - p.2, sg, n, ((hob.sub hpb).mono (by decide)).fr, rfl, rfl, hn, hk⟩
        cases ha : ms.any fun o => sgH sg (o - p.2) n with
        | true =>
          rw [ha] at eA
          simp_all only [ss_nil, Nx_nil, Arm_nil, sz_0, sz_1, sz_2, sz_3, sz_4, sz_5, sz_6, sz_7, sz_8, sz_9, sz_10, sz_11, sz_12, cp_2, cp_3, cp_4, cp_5, cp_6, cp_7, cp_12, cp_20, cp_30, cp_38, cp_39, cp_40, bls_f (fun o => sgH sg (o - p.2) n), any_f, ha]
          exact ⟨allR_succ hall eA, _, _, _, _, _, _, rfl⟩
        | false =>
          rw [ha] at eA
          rw [allR_no hil eA] at h
          simp_all only [ss_nil, Nx_nil, Arm_nil, sz_0, sz_1, sz_2, sz_3, sz_4, sz_5, sz_6, sz_7, sz_8, sz_9, sz_10, sz_11, sz_12, cp_2, cp_3, cp_4, cp_5, cp_6, cp_7, cp_12, cp_20, cp_30, cp_38, cp_39, cp_40, bls_f (fun o => sgH sg (o - p.2) n), any_f, ha]
          (first | rw [Nx_eq] | rw [Arm_eq] | skip); (try simp_all only [ss_nil, Nx_nil, Arm_nil, sz_0, sz_1, sz_2, sz_3, sz_4, sz_5, sz_6, sz_7, sz_8, sz_9, sz_10, sz_11, sz_12, cp_2, cp_3, cp_4, cp_5, cp_6, cp_7, cp_12, cp_20, cp_30, cp_38, cp_39, cp_40])
          exact ⟨st, .rfl, h⟩
      · have e1 : (p.1 = a) = False := eq_false hq
        rw [decide_eq_false hq] at eA
        simp_all only [ss_nil, Nx_nil, Arm_nil, sz_0, sz_1, sz_2, sz_3, sz_4, sz_5, sz_6, sz_7, sz_8, sz_9, sz_10, sz_11, sz_12, cp_2, cp_3, cp_4, cp_5, cp_6, cp_7, cp_12, cp_20, cp_30, cp_38, cp_39, cp_40, sv, ↓v_neSS2, e1]
        (first | rw [Nx_eq] | rw [Arm_eq] | skip); (try simp_all only [ss_nil, Nx_nil, Arm_nil, sz_0, sz_1, sz_2, sz_3, sz_4, sz_5, sz_6, sz_7, sz_8, sz_9, sz_10, sz_11, sz_12, cp_2, cp_3, cp_4, cp_5, cp_6, cp_7, cp_12, cp_20, cp_30, cp_38, cp_39, cp_40])
        exact ⟨allR_succ hall eA, _, _, _, _, _, _, rfl⟩
    · rintro τ st ⟨rfl, hall, o8, o9, o10, o11, o12, o13, rfl⟩
      refine ⟨trivial, ?_⟩
      rw [en_len2, List.length_map] at hall
      rw [hall] at h
      simp_all only [ss_nil, Nx_nil, Arm_nil, sz_0, sz_1, sz_2, sz_3, sz_4, sz_5, sz_6, sz_7, sz_8, sz_9, sz_10, sz_11, sz_12, cp_2, cp_3, cp_4, cp_5, cp_6, cp_7, cp_12, cp_20, cp_30, cp_38, cp_39, cp_40]
      (first | rw [Nx_eq] | rw [Arm_eq] | skip); (try simp_all only [ss_nil, Nx_nil, Arm_nil, sz_0, sz_1, sz_2, sz_3, sz_4, sz_5, sz_6, sz_7, sz_8, sz_9, sz_10, sz_11, sz_12, cp_2, cp_3, cp_4, cp_5, cp_6, cp_7, cp_12, cp_20, cp_30, cp_38, cp_39, cp_40])
      exact ⟨st, .rfl, h⟩
  · exact h.elim
def sp_keeps_since : PSpec
  | [.tup vs, .tup xs], st, Q, _ => ∃ (k a b : Str) (s : Sg) (n : Nat) (l : Sns), vs = [.str k, .str a, .str b, .str (sgS s), .int n] ∧ n ≤ 1000 ∧ xs = l.map snV ∧ SnOk l ∧ Q (.bl (siM (decide (k = "fresh")) a b s n l)) st
  | _, _, _, _ => False
def b_keeps_since_1 : Ss :=
  (.cons (.ite (.cmp .NotEq (.var 9) (.var 4)) (.cons .cont .nil) .nil) (.cons (.asg (.name 8) (.call "last_ahead" sp_last_ahead (.cons (.var 1) (.cons (.var 7) (.cons (.var 3) .nil))))) (.cons (.ite (.cmp .Is (.var 8) .non) (.cons (.ite (.cmp .Eq (.var 2) (.str "fresh")) (.cons (.ret (.bl false)) .nil) .nil) (.cons .cont .nil)) .nil) (.cons (.ite (.not (.val (.call "sign_holds" sp_sign_holds (.cons (.var 5) (.cons (.call "minus" sp_minus (.cons (.var 10) (.cons (.var 8) .nil))) (.cons (.var 6) .nil)))))) (.cons (.ret (.bl false)) .nil) .nil) .nil))))
def b_keeps_since : Ss :=
  (.cons (.asg (.tup (.cons (.name 2) (.cons (.name 3) (.cons (.name 4) (.cons (.name 5) (.cons (.name 6) .nil)))))) (.var 0)) (.cons (.loop (.tup (.cons (.name 7) (.cons (.tup (.cons (.name 9) (.cons (.name 10) .nil))) .nil))) (.enum (.var 1)) b_keeps_since_1) (.cons (.ret (.bl true)) .nil)))
def n_keeps_since : List Str := ["sentence", "signs", "kind", "a", "b", "sign", "number", "at", "since", "letter", "moment"]
theorem w_keeps_since : ∀ vs s Q X, vs.length = 2 → sp_keeps_since vs s Q X → wpFn n_keeps_since.length b_keeps_since vs s Q X := by
  intro vs s Q X hl h
  unfold sp_keeps_since at h
  split at h
  · rw [fn_eq]
    unfold b_keeps_since n_keeps_since
    obtain ⟨k, a, b, sg, n, l, rfl, hn, rfl, O, h⟩ := h
    unfold siM at h
    simp_all only [ss_nil, Nx_nil, Arm_nil, sz_0, sz_1, sz_2, sz_3, sz_4, sz_5, sz_6, sz_7, sz_8, sz_9, sz_10, sz_11, sz_12, cp_2, cp_3, cp_4, cp_5, cp_6, cp_7, cp_12, cp_20, cp_30, cp_38, cp_39, cp_40]
    (first | rw [Nx_eq] | rw [Arm_eq] | skip); (try simp_all only [ss_nil, Nx_nil, Arm_nil, sz_0, sz_1, sz_2, sz_3, sz_4, sz_5, sz_6, sz_7, sz_8, sz_9, sz_10, sz_11, sz_12, cp_2, cp_3, cp_4, cp_5, cp_6, cp_7, cp_12, cp_20, cp_30, cp_38, cp_39, cp_40])
    refine for_at (fun i τ st => st = s ∧ (List.range i).all (siAt (decide (k = "fresh")) a b sg n l) = true ∧ ∃ o7 o8 o9 o10 : Option PV, τ = [some (.tup [.str k, .str a, .str b, .str (sgS sg), .int n]), some (.tup (l.map snV)), some (.str k), some (.str a), some (.str b), some (.str (sgS sg)), some (.int n), o7, o8, o9, o10]) ?_ ?_ ⟨rfl, rfl, _, _, _, _, rfl⟩
    · rintro i v τ st hi ⟨rfl, hall, o7, o8, o9, o10, rfl⟩
      obtain ⟨x, hx, rfl⟩ := get_en2 hi
      obtain ⟨p, rfl, hp⟩ := get_sn hx
      have hil := (List.getElem?_eq_some_iff.mp hp).1
      have hpb := O.bd p (List.mem_of_getElem? hp)
      rw [Nat.zero_add]
      have sv : snV p = .tup [.str p.1, ratV p.2] := rfl
      have eA := siAt_eq (fresh := decide (k = "fresh")) (a := a) (b := b) (s := sg) (n := n) hp
      refine ⟨trivial, ?_⟩
      unfold b_keeps_since_1
      by_cases hq : p.1 = b
      · have e1 : (p.1 = b) = True := eq_true hq
        rw [decide_eq_true hq] at eA
        simp_all only [ss_nil, Nx_nil, Arm_nil, sz_0, sz_1, sz_2, sz_3, sz_4, sz_5, sz_6, sz_7, sz_8, sz_9, sz_10, sz_11, sz_12, cp_2, cp_3, cp_4, cp_5, cp_6, cp_7, cp_12, cp_20, cp_30, cp_38, cp_39, cp_40, sv, ↓v_neSS2, e1]
        (first | rw [Nx_eq] | rw [Arm_eq] | skip); (try simp_all only [ss_nil, Nx_nil, Arm_nil, sz_0, sz_1, sz_2, sz_3, sz_4, sz_5, sz_6, sz_7, sz_8, sz_9, sz_10, sz_11, sz_12, cp_2, cp_3, cp_4, cp_5, cp_6, cp_7, cp_12, cp_20, cp_30, cp_38, cp_39, cp_40])
        refine callS_of ⟨l, i, rfl, rfl, ?_⟩
        cases ea : (aheadM l i a).getLast? with
        | none =>
          rw [ea] at eA
          have ln : lastV none = .non := rfl
          by_cases hf : k = ("fresh" : Str)
          · have e2 : (k = ("fresh" : Str)) = True := eq_true hf
            rw [allR_no hil (eA.trans (by rw [decide_eq_true hf]; rfl))] at h
            simp_all only [ss_nil, Nx_nil, Arm_nil, sz_0, sz_1, sz_2, sz_3, sz_4, sz_5, sz_6, sz_7, sz_8, sz_9, sz_10, sz_11, sz_12, cp_2, cp_3, cp_4, cp_5, cp_6, cp_7, cp_12, cp_20, cp_30, cp_38, cp_39, cp_40, ln]
            (first | rw [Nx_eq] | rw [Arm_eq] | skip); (try simp_all only [ss_nil, Nx_nil, Arm_nil, sz_0, sz_1, sz_2, sz_3, sz_4, sz_5, sz_6, sz_7, sz_8, sz_9, sz_10, sz_11, sz_12, cp_2, cp_3, cp_4, cp_5, cp_6, cp_7, cp_12, cp_20, cp_30, cp_38, cp_39, cp_40])
            (first | rw [Nx_eq] | rw [Arm_eq] | skip); (try simp_all only [ss_nil, Nx_nil, Arm_nil, sz_0, sz_1, sz_2, sz_3, sz_4, sz_5, sz_6, sz_7, sz_8, sz_9, sz_10, sz_11, sz_12, cp_2, cp_3, cp_4, cp_5, cp_6, cp_7, cp_12, cp_20, cp_30, cp_38, cp_39, cp_40, e2])
            (first | rw [Nx_eq] | rw [Arm_eq] | skip); (try simp_all only [ss_nil, Nx_nil, Arm_nil, sz_0, sz_1, sz_2, sz_3, sz_4, sz_5, sz_6, sz_7, sz_8, sz_9, sz_10, sz_11, sz_12, cp_2, cp_3, cp_4, cp_5, cp_6, cp_7, cp_12, cp_20, cp_30, cp_38, cp_39, cp_40])
            exact ⟨st, .rfl, h⟩
          · have e2 : (k = ("fresh" : Str)) = False := eq_false hf
            have e4 := allR_succ hall (eA.trans (by rw [decide_eq_false hf]; rfl))
            rw [decide_eq_false hf] at e4
            simp_all only [ss_nil, Nx_nil, Arm_nil, sz_0, sz_1, sz_2, sz_3, sz_4, sz_5, sz_6, sz_7, sz_8, sz_9, sz_10, sz_11, sz_12, cp_2, cp_3, cp_4, cp_5, cp_6, cp_7, cp_12, cp_20, cp_30, cp_38, cp_39, cp_40, ln]
            (first | rw [Nx_eq] | rw [Arm_eq] | skip); (try simp_all only [ss_nil, Nx_nil, Arm_nil, sz_0, sz_1, sz_2, sz_3, sz_4, sz_5, sz_6, sz_7, sz_8, sz_9, sz_10, sz_11, sz_12, cp_2, cp_3, cp_4, cp_5, cp_6, cp_7, cp_12, cp_20, cp_30, cp_38, cp_39, cp_40])
            (first | rw [Nx_eq] | rw [Arm_eq] | skip); (try simp_all only [ss_nil, Nx_nil, Arm_nil, sz_0, sz_1, sz_2, sz_3, sz_4, sz_5, sz_6, sz_7, sz_8, sz_9, sz_10, sz_11, sz_12, cp_2, cp_3, cp_4, cp_5, cp_6, cp_7, cp_12, cp_20, cp_30, cp_38, cp_39, cp_40, e2])
            (first | rw [Nx_eq] | rw [Arm_eq] | skip); (try simp_all only [ss_nil, Nx_nil, Arm_nil, sz_0, sz_1, sz_2, sz_3, sz_4, sz_5, sz_6, sz_7, sz_8, sz_9, sz_10, sz_11, sz_12, cp_2, cp_3, cp_4, cp_5, cp_6, cp_7, cp_12, cp_20, cp_30, cp_38, cp_39, cp_40])
            exact ⟨e4, _, _, _, _, rfl⟩
        | some x =>
          have hxb := ahead_mem O x (List.mem_of_getLast? ea)
          rw [ea] at eA
          have eA : siAt (decide (k = "fresh")) a b sg n l i = sgH sg (p.2 - x) n := eA
          have ln : lastV (some x) = .tup [.int x.num, .int x.den] := rfl
          simp_all only [ss_nil, Nx_nil, Arm_nil, sz_0, sz_1, sz_2, sz_3, sz_4, sz_5, sz_6, sz_7, sz_8, sz_9, sz_10, sz_11, sz_12, cp_2, cp_3, cp_4, cp_5, cp_6, cp_7, cp_12, cp_20, cp_30, cp_38, cp_39, cp_40, ln]
          (first | rw [Nx_eq] | rw [Arm_eq] | skip); (try simp_all only [ss_nil, Nx_nil, Arm_nil, sz_0, sz_1, sz_2, sz_3, sz_4, sz_5, sz_6, sz_7, sz_8, sz_9, sz_10, sz_11, sz_12, cp_2, cp_3, cp_4, cp_5, cp_6, cp_7, cp_12, cp_20, cp_30, cp_38, cp_39, cp_40])
          (first | rw [Nx_eq] | rw [Arm_eq] | skip); (try simp_all only [ss_nil, Nx_nil, Arm_nil, sz_0, sz_1, sz_2, sz_3, sz_4, sz_5, sz_6, sz_7, sz_8, sz_9, sz_10, sz_11, sz_12, cp_2, cp_3, cp_4, cp_5, cp_6, cp_7, cp_12, cp_20, cp_30, cp_38, cp_39, cp_40])
          refine callS_of ⟨p.2, x, rfl, rfl, hpb.mono (by decide), hxb.mono (by decide), ?_⟩
          rw [sub_div]
          simp_all only [ss_nil, Nx_nil, Arm_nil, sz_0, sz_1, sz_2, sz_3, sz_4, sz_5, sz_6, sz_7, sz_8, sz_9, sz_10, sz_11, sz_12, cp_2, cp_3, cp_4, cp_5, cp_6, cp_7, cp_12, cp_20, cp_30, cp_38, cp_39, cp_40]
          refine callS_of ⟨p.2 - x, sg, n, ((hpb.sub hxb).mono (by decide)).fr, rfl, rfl, hn, ?_⟩
          cases hs : sgH sg (p.2 - x) n with
          | true =>
            rw [hs] at eA
            simp_all only [ss_nil, Nx_nil, Arm_nil, sz_0, sz_1, sz_2, sz_3, sz_4, sz_5, sz_6, sz_7, sz_8, sz_9, sz_10, sz_11, sz_12, cp_2, cp_3, cp_4, cp_5, cp_6, cp_7, cp_12, cp_20, cp_30, cp_38, cp_39, cp_40]
            exact ⟨allR_succ hall eA, _, _, _, _, rfl⟩
          | false =>
            rw [hs] at eA
            rw [allR_no hil eA] at h
            simp_all only [ss_nil, Nx_nil, Arm_nil, sz_0, sz_1, sz_2, sz_3, sz_4, sz_5, sz_6, sz_7, sz_8, sz_9, sz_10, sz_11, sz_12, cp_2, cp_3, cp_4, cp_5, cp_6, cp_7, cp_12, cp_20, cp_30, cp_38, cp_39, cp_40]
            (first | rw [Nx_eq] | rw [Arm_eq] | skip); (try simp_all only [ss_nil, Nx_nil, Arm_nil, sz_0, sz_1, sz_2, sz_3, sz_4, sz_5, sz_6, sz_7, sz_8, sz_9, sz_10, sz_11, sz_12, cp_2, cp_3, cp_4, cp_5, cp_6, cp_7, cp_12, cp_20, cp_30, cp_38, cp_39, cp_40])
            exact ⟨st, .rfl, h⟩
      · have e1 : (p.1 = b) = False := eq_false hq
        rw [decide_eq_false hq] at eA
        have eA : siAt (decide (k = "fresh")) a b sg n l i = true := eA
        simp_all only [ss_nil, Nx_nil, Arm_nil, sz_0, sz_1, sz_2, sz_3, sz_4, sz_5, sz_6, sz_7, sz_8, sz_9, sz_10, sz_11, sz_12, cp_2, cp_3, cp_4, cp_5, cp_6, cp_7, cp_12, cp_20, cp_30, cp_38, cp_39, cp_40, sv, ↓v_neSS2, e1]
        (first | rw [Nx_eq] | rw [Arm_eq] | skip); (try simp_all only [ss_nil, Nx_nil, Arm_nil, sz_0, sz_1, sz_2, sz_3, sz_4, sz_5, sz_6, sz_7, sz_8, sz_9, sz_10, sz_11, sz_12, cp_2, cp_3, cp_4, cp_5, cp_6, cp_7, cp_12, cp_20, cp_30, cp_38, cp_39, cp_40])
        exact ⟨allR_succ hall eA, _, _, _, _, rfl⟩
    · rintro τ st ⟨rfl, hall, o7, o8, o9, o10, rfl⟩
      refine ⟨trivial, ?_⟩
      rw [en_len2, List.length_map] at hall
      rw [hall] at h
      simp_all only [ss_nil, Nx_nil, Arm_nil, sz_0, sz_1, sz_2, sz_3, sz_4, sz_5, sz_6, sz_7, sz_8, sz_9, sz_10, sz_11, sz_12, cp_2, cp_3, cp_4, cp_5, cp_6, cp_7, cp_12, cp_20, cp_30, cp_38, cp_39, cp_40]
      (first | rw [Nx_eq] | rw [Arm_eq] | skip); (try simp_all only [ss_nil, Nx_nil, Arm_nil, sz_0, sz_1, sz_2, sz_3, sz_4, sz_5, sz_6, sz_7, sz_8, sz_9, sz_10, sz_11, sz_12, cp_2, cp_3, cp_4, cp_5, cp_6, cp_7, cp_12, cp_20, cp_30, cp_38, cp_39, cp_40])
      exact ⟨st, .rfl, h⟩
  · exact h.elim
end TK

set_option maxRecDepth 100000
set_option maxHeartbeats 4000000
namespace TK
open PySem PySem.Spec PyProof.Rows L2
inductive Sen where
  | nv (a : Str)
  | fi (a : Str) (s : Sg) (n : Nat)
  | two (k a b : Str) (s : Sg) (n : Nat)
def senV : Sen → PV
  | .nv a => .tup [.str "never", .str a]
  | .fi a s n => .tup [.str "first", .str a, .str (sgS s), .int n]
  | .two k a b s n => .tup [.str k, .str a, .str b, .str (sgS s), .int n]
def SenOk : Sen → Prop
  | .nv _ => True
  | .fi _ _ n => n ≤ 1000
  | .two k _ _ _ n => n ≤ 1000 ∧ (k = "soon" ∨ k = "rest" ∨ k = "fresh")
def keepsM : Sen → Sns → Rat → Bool
  | .nv a, l, _ => l.all fun p => !decide (p.1 = a)
  | .fi a s n, l, e => fiM a s n l e
  | .two k a b s n, l, e => if k = "soon" then soM a b s n l e else siM (decide (k = "fresh")) a b s n l
def wrV (l : Sns) (e : Rat) : PV := .tup [.tup (l.map snV), ratV e]
def sp_made_keeps : PSpec
  | [v, w], st, Q, _ => ∃ (x : Sen) (l : Sns) (e : Rat), v = senV x ∧ w = wrV l e ∧ SenOk x ∧ SnOk l ∧ Bd 300 e ∧ Q (.bl (keepsM x l e)) st
  | _, _, _, _ => False
def b_made_keeps : Ss :=
  (.cons (.asg (.tup (.cons (.name 2) (.cons (.name 3) .nil))) (.var 1)) (.cons (.ite (.cmp .Eq (.idx (.var 0) (.int 0)) (.str "never")) (.cons (.ret (.blt .all false (.cons (.comp false [4, 5] (.tup (.cons (.name 4) (.cons (.name 5) .nil))) (.val (.var 2)) .nil (.cmp .NotEq (.var 4) (.idx (.var 0) (.int 1)))) .nil))) .nil) .nil) (.cons (.ite (.cmp .Eq (.idx (.var 0) (.int 0)) (.str "first")) (.cons (.ret (.call "keeps_first" sp_keeps_first (.cons (.var 0) (.cons (.var 2) (.cons (.var 3) .nil))))) .nil) .nil) (.cons (.ite (.cmp .Eq (.idx (.var 0) (.int 0)) (.str "soon")) (.cons (.ret (.call "keeps_soon" sp_keeps_soon (.cons (.var 0) (.cons (.var 2) (.cons (.var 3) .nil))))) .nil) .nil) (.cons (.ret (.call "keeps_since" sp_keeps_since (.cons (.var 0) (.cons (.var 2) .nil)))) .nil)))))
def n_made_keeps : List Str := ["sentence", "word", "signs", "end", "letter", "moment"]
theorem k_facts {k : Str} (h : k = "soon" ∨ k = "rest" ∨ k = "fresh") : (k = ("never" : Str)) = False ∧ (k = ("first" : Str)) = False := by
  rcases h with rfl | rfl | rfl <;> exact ⟨eq_false (by decide), eq_false (by decide)⟩
theorem w_made_keeps : ∀ vs s Q X, vs.length = 2 → sp_made_keeps vs s Q X → wpFn n_made_keeps.length b_made_keeps vs s Q X := by
  intro vs s Q X hl h
  unfold sp_made_keeps at h
  split at h
  · rw [fn_eq]
    unfold b_made_keeps n_made_keeps
    obtain ⟨x, l, e, rfl, rfl, hx, O, he, h⟩ := h
    have wv : wrV l e = .tup [.tup (l.map snV), ratV e] := rfl
    cases x with
    | nv a =>
      have sv : senV (.nv a) = .tup [.str "never", .str a] := rfl
      have t1 : (("never" : Str) = ("never" : Str)) = True := eq_true rfl
      have h : Q (.bl (l.all fun p => !decide (p.1 = a))) s := h
      simp_all only [ss_nil, Nx_nil, Arm_nil, sz_0, sz_1, sz_2, sz_3, sz_4, sz_5, sz_6, sz_7, sz_8, sz_9, sz_10, sz_11, sz_12, cp_2, cp_3, cp_4, cp_5, cp_6, cp_7, cp_12, cp_20, cp_30, cp_38, cp_39, cp_40, sv, wv]
      (first | rw [Nx_eq] | rw [Arm_eq] | skip); (try simp_all only [ss_nil, Nx_nil, Arm_nil, sz_0, sz_1, sz_2, sz_3, sz_4, sz_5, sz_6, sz_7, sz_8, sz_9, sz_10, sz_11, sz_12, cp_2, cp_3, cp_4, cp_5, cp_6, cp_7, cp_12, cp_20, cp_30, cp_38, cp_39, cp_40, t1])
      (first | rw [Nx_eq] | rw [Arm_eq] | skip); (try simp_all only [ss_nil, Nx_nil, Arm_nil, sz_0, sz_1, sz_2, sz_3, sz_4, sz_5, sz_6, sz_7, sz_8, sz_9, sz_10, sz_11, sz_12, cp_2, cp_3, cp_4, cp_5, cp_6, cp_7, cp_12, cp_20, cp_30, cp_38, cp_39, cp_40])
      refine lc_enc (fun p : Str × Rat => .bl (!decide (p.1 = a))) l (fun τ1 st' Q q => by simp_all only [ss_nil, Nx_nil, Arm_nil, sz_0, sz_1, sz_2, sz_3, sz_4, sz_5, sz_6, sz_7, sz_8, sz_9, sz_10, sz_11, sz_12, cp_2, cp_3, cp_4, cp_5, cp_6, cp_7, cp_12, cp_20, cp_30, cp_38, cp_39, cp_40]; exact q) (fun p hp => ⟨_, rfl, fun st' sub K hk => ?_⟩) ?_
      · simp_all only [ss_nil, Nx_nil, Arm_nil, sz_0, sz_1, sz_2, sz_3, sz_4, sz_5, sz_6, sz_7, sz_8, sz_9, sz_10, sz_11, sz_12, cp_2, cp_3, cp_4, cp_5, cp_6, cp_7, cp_12, cp_20, cp_30, cp_38, cp_39, cp_40, ↓v_neSS2]
        exact hk
      simp_all only [ss_nil, Nx_nil, Arm_nil, sz_0, sz_1, sz_2, sz_3, sz_4, sz_5, sz_6, sz_7, sz_8, sz_9, sz_10, sz_11, sz_12, cp_2, cp_3, cp_4, cp_5, cp_6, cp_7, cp_12, cp_20, cp_30, cp_38, cp_39, cp_40, bls_f (fun p : Str × Rat => !decide (p.1 = a)), all_f]
      exact ⟨s, .rfl, h⟩
    | fi a sg n =>
      have sv : senV (.fi a sg n) = .tup [.str "first", .str a, .str (sgS sg), .int n] := rfl
      have t1 : (("first" : Str) = ("never" : Str)) = False := eq_false (by decide)
      have t2 : (("first" : Str) = ("first" : Str)) = True := eq_true rfl
      have h : Q (.bl (fiM a sg n l e)) s := h
      simp_all only [ss_nil, Nx_nil, Arm_nil, sz_0, sz_1, sz_2, sz_3, sz_4, sz_5, sz_6, sz_7, sz_8, sz_9, sz_10, sz_11, sz_12, cp_2, cp_3, cp_4, cp_5, cp_6, cp_7, cp_12, cp_20, cp_30, cp_38, cp_39, cp_40, sv, wv]
      (first | rw [Nx_eq] | rw [Arm_eq] | skip); (try simp_all only [ss_nil, Nx_nil, Arm_nil, sz_0, sz_1, sz_2, sz_3, sz_4, sz_5, sz_6, sz_7, sz_8, sz_9, sz_10, sz_11, sz_12, cp_2, cp_3, cp_4, cp_5, cp_6, cp_7, cp_12, cp_20, cp_30, cp_38, cp_39, cp_40, t1])
      (first | rw [Nx_eq] | rw [Arm_eq] | skip); (try simp_all only [ss_nil, Nx_nil, Arm_nil, sz_0, sz_1, sz_2, sz_3, sz_4, sz_5, sz_6, sz_7, sz_8, sz_9, sz_10, sz_11, sz_12, cp_2, cp_3, cp_4, cp_5, cp_6, cp_7, cp_12, cp_20, cp_30, cp_38, cp_39, cp_40, t2])
      (first | rw [Nx_eq] | rw [Arm_eq] | skip); (try simp_all only [ss_nil, Nx_nil, Arm_nil, sz_0, sz_1, sz_2, sz_3, sz_4, sz_5, sz_6, sz_7, sz_8, sz_9, sz_10, sz_11, sz_12, cp_2, cp_3, cp_4, cp_5, cp_6, cp_7, cp_12, cp_20, cp_30, cp_38, cp_39, cp_40])
      exact callS_of ⟨_, a, sg, n, l, e, rfl, hx, rfl, rfl, O, he, s, .rfl, h⟩
    | two k a b sg n =>
      have sv : senV (.two k a b sg n) = .tup [.str k, .str a, .str b, .str (sgS sg), .int n] := rfl
      obtain ⟨hn, hk⟩ := hx
      obtain ⟨t1, t2⟩ := k_facts hk
      have h : Q (.bl (if k = "soon" then soM a b sg n l e else siM (decide (k = "fresh")) a b sg n l)) s := h
      by_cases h3 : k = ("soon" : Str)
      · have t3 : (k = ("soon" : Str)) = True := eq_true h3
        rw [if_pos h3] at h
        simp_all only [ss_nil, Nx_nil, Arm_nil, sz_0, sz_1, sz_2, sz_3, sz_4, sz_5, sz_6, sz_7, sz_8, sz_9, sz_10, sz_11, sz_12, cp_2, cp_3, cp_4, cp_5, cp_6, cp_7, cp_12, cp_20, cp_30, cp_38, cp_39, cp_40, sv, wv]
        (first | rw [Nx_eq] | rw [Arm_eq] | skip); (try simp_all only [ss_nil, Nx_nil, Arm_nil, sz_0, sz_1, sz_2, sz_3, sz_4, sz_5, sz_6, sz_7, sz_8, sz_9, sz_10, sz_11, sz_12, cp_2, cp_3, cp_4, cp_5, cp_6, cp_7, cp_12, cp_20, cp_30, cp_38, cp_39, cp_40, t1])
        (first | rw [Nx_eq] | rw [Arm_eq] | skip); (try simp_all only [ss_nil, Nx_nil, Arm_nil, sz_0, sz_1, sz_2, sz_3, sz_4, sz_5, sz_6, sz_7, sz_8, sz_9, sz_10, sz_11, sz_12, cp_2, cp_3, cp_4, cp_5, cp_6, cp_7, cp_12, cp_20, cp_30, cp_38, cp_39, cp_40, t2])
        (first | rw [Nx_eq] | rw [Arm_eq] | skip); (try simp_all only [ss_nil, Nx_nil, Arm_nil, sz_0, sz_1, sz_2, sz_3, sz_4, sz_5, sz_6, sz_7, sz_8, sz_9, sz_10, sz_11, sz_12, cp_2, cp_3, cp_4, cp_5, cp_6, cp_7, cp_12, cp_20, cp_30, cp_38, cp_39, cp_40, t3])
        (first | rw [Nx_eq] | rw [Arm_eq] | skip); (try simp_all only [ss_nil, Nx_nil, Arm_nil, sz_0, sz_1, sz_2, sz_3, sz_4, sz_5, sz_6, sz_7, sz_8, sz_9, sz_10, sz_11, sz_12, cp_2, cp_3, cp_4, cp_5, cp_6, cp_7, cp_12, cp_20, cp_30, cp_38, cp_39, cp_40])
        exact callS_of ⟨k, a, b, sg, n, l, e, rfl, hn, rfl, rfl, O, he, s, .rfl, h⟩
      · have t3 : (k = ("soon" : Str)) = False := eq_false h3
        rw [if_neg h3] at h
        simp_all only [ss_nil, Nx_nil, Arm_nil, sz_0, sz_1, sz_2, sz_3, sz_4, sz_5, sz_6, sz_7, sz_8, sz_9, sz_10, sz_11, sz_12, cp_2, cp_3, cp_4, cp_5, cp_6, cp_7, cp_12, cp_20, cp_30, cp_38, cp_39, cp_40, sv, wv]
        (first | rw [Nx_eq] | rw [Arm_eq] | skip); (try simp_all only [ss_nil, Nx_nil, Arm_nil, sz_0, sz_1, sz_2, sz_3, sz_4, sz_5, sz_6, sz_7, sz_8, sz_9, sz_10, sz_11, sz_12, cp_2, cp_3, cp_4, cp_5, cp_6, cp_7, cp_12, cp_20, cp_30, cp_38, cp_39, cp_40, t1])
        (first | rw [Nx_eq] | rw [Arm_eq] | skip); (try simp_all only [ss_nil, Nx_nil, Arm_nil, sz_0, sz_1, sz_2, sz_3, sz_4, sz_5, sz_6, sz_7, sz_8, sz_9, sz_10, sz_11, sz_12, cp_2, cp_3, cp_4, cp_5, cp_6, cp_7, cp_12, cp_20, cp_30, cp_38, cp_39, cp_40, t2])
        (first | rw [Nx_eq] | rw [Arm_eq] | skip); (try simp_all only [ss_nil, Nx_nil, Arm_nil, sz_0, sz_1, sz_2, sz_3, sz_4, sz_5, sz_6, sz_7, sz_8, sz_9, sz_10, sz_11, sz_12, cp_2, cp_3, cp_4, cp_5, cp_6, cp_7, cp_12, cp_20, cp_30, cp_38, cp_39, cp_40, t3])
        (first | rw [Nx_eq] | rw [Arm_eq] | skip); (try simp_all only [ss_nil, Nx_nil, Arm_nil, sz_0, sz_1, sz_2, sz_3, sz_4, sz_5, sz_6, sz_7, sz_8, sz_9, sz_10, sz_11, sz_12, cp_2, cp_3, cp_4, cp_5, cp_6, cp_7, cp_12, cp_20, cp_30, cp_38, cp_39, cp_40])
        exact callS_of ⟨k, a, b, sg, n, l, rfl, hn, rfl, O, s, .rfl, h⟩
  · exact h.elim
def sp_keeps_word : PSpec
  | [v, w], st, Q, X => dn v = true ∧ dn w = true ∧ ((sentB v = false ∧ X (errW "sentence") st) ∨ (sentB v = true ∧ wordB w = false ∧ X (errW "word") st) ∨
      (sentB v = true ∧ wordB w = true ∧ ∃ (x : Sen) (l : Sns) (e : Rat), v = senV x ∧ w = wrV l e ∧ SenOk x ∧ SnOk l ∧ Bd 300 e ∧ Q (.bl (keepsM x l e)) st))
  | _, _, _, _ => False
def b_keeps_word : Ss :=
  (.cons (.expr (.call "check_sentence" sp_check_sentence (.cons (.var 0) .nil))) (.cons (.expr (.call "check_word" sp_check_word (.cons (.var 1) .nil))) (.cons (.ret (.call "made_keeps" sp_made_keeps (.cons (.var 0) (.cons (.var 1) .nil)))) .nil)))
def n_keeps_word : List Str := ["sentence", "word"]
theorem w_keeps_word : ∀ vs s Q X, vs.length = 2 → sp_keeps_word vs s Q X → wpFn n_keeps_word.length b_keeps_word vs s Q X := by
  intro vs s Q X hl h
  unfold sp_keeps_word at h
  split at h
  · rename_i v w
    rw [fn_eq]
    unfold b_keeps_word n_keeps_word
    obtain ⟨hv, hw, h⟩ := h
    simp_all only [ss_nil, Nx_nil, Arm_nil, sz_0, sz_1, sz_2, sz_3, sz_4, sz_5, sz_6, sz_7, sz_8, sz_9, sz_10, sz_11, sz_12, cp_2, cp_3, cp_4, cp_5, cp_6, cp_7, cp_12, cp_20, cp_30, cp_38, cp_39, cp_40]
    rcases h with ⟨h1, h⟩ | ⟨h1, h2, h⟩ | ⟨h1, h2, x, l, e, rfl, rfl, hx, O, he, h⟩
    · exact callS_of ⟨hv, fun z => (by rw [h1] at z; cases z), fun _ => kex_fn h⟩
    · refine callS_of ⟨hv, fun _ => ?_, fun z => (by rw [h1] at z; cases z)⟩
      simp_all only [ss_nil, Nx_nil, Arm_nil, sz_0, sz_1, sz_2, sz_3, sz_4, sz_5, sz_6, sz_7, sz_8, sz_9, sz_10, sz_11, sz_12, cp_2, cp_3, cp_4, cp_5, cp_6, cp_7, cp_12, cp_20, cp_30, cp_38, cp_39, cp_40]
      (first | rw [Nx_eq] | rw [Arm_eq] | skip); (try simp_all only [ss_nil, Nx_nil, Arm_nil, sz_0, sz_1, sz_2, sz_3, sz_4, sz_5, sz_6, sz_7, sz_8, sz_9, sz_10, sz_11, sz_12, cp_2, cp_3, cp_4, cp_5, cp_6, cp_7, cp_12, cp_20, cp_30, cp_38, cp_39, cp_40])
      exact callS_of ⟨hw, fun z => (by rw [h2] at z; cases z), fun _ => kex_fn h⟩
    · refine callS_of ⟨hv, fun _ => ?_, fun z => (by rw [h1] at z; cases z)⟩
      simp_all only [ss_nil, Nx_nil, Arm_nil, sz_0, sz_1, sz_2, sz_3, sz_4, sz_5, sz_6, sz_7, sz_8, sz_9, sz_10, sz_11, sz_12, cp_2, cp_3, cp_4, cp_5, cp_6, cp_7, cp_12, cp_20, cp_30, cp_38, cp_39, cp_40]
      (first | rw [Nx_eq] | rw [Arm_eq] | skip); (try simp_all only [ss_nil, Nx_nil, Arm_nil, sz_0, sz_1, sz_2, sz_3, sz_4, sz_5, sz_6, sz_7, sz_8, sz_9, sz_10, sz_11, sz_12, cp_2, cp_3, cp_4, cp_5, cp_6, cp_7, cp_12, cp_20, cp_30, cp_38, cp_39, cp_40])
      refine callS_of ⟨hw, fun _ => ?_, fun z => (by rw [h2] at z; cases z)⟩
      simp_all only [ss_nil, Nx_nil, Arm_nil, sz_0, sz_1, sz_2, sz_3, sz_4, sz_5, sz_6, sz_7, sz_8, sz_9, sz_10, sz_11, sz_12, cp_2, cp_3, cp_4, cp_5, cp_6, cp_7, cp_12, cp_20, cp_30, cp_38, cp_39, cp_40]
      (first | rw [Nx_eq] | rw [Arm_eq] | skip); (try simp_all only [ss_nil, Nx_nil, Arm_nil, sz_0, sz_1, sz_2, sz_3, sz_4, sz_5, sz_6, sz_7, sz_8, sz_9, sz_10, sz_11, sz_12, cp_2, cp_3, cp_4, cp_5, cp_6, cp_7, cp_12, cp_20, cp_30, cp_38, cp_39, cp_40])
      exact callS_of ⟨x, l, e, rfl, rfl, hx, O, he, s, .rfl, h⟩
  · exact h.elim
def sp__law_keeps : PSpec
  | [v, w], st, Q, _ => ∃ (x : Sen) (l : Sns) (e : Rat), v = senV x ∧ w = wrV l e ∧ SenOk x ∧ SnOk l ∧ Bd 300 e ∧ Q (.bl (keepsM x l e)) st
  | _, _, _, _ => False
def b__law_keeps_2 : Ss :=
  (.cons (.ite (.bools .And (.cons (.cmp .Eq (.var 3) (.str "soon")) (.cons (.cmp .Eq (.idx (.idx (.var 2) (.var 4)) (.int 0)) (.idx (.var 0) (.int 1))) .nil))) (.cons (.asgLc 6 (.comp true [8] (.name 8) (.val (.slice false (.var 2) (.yes (.bin .Add false (.var 4) (.int 1))) .no)) (.cons (.cmp .Eq (.idx (.var 8) (.int 0)) (.idx (.var 0) (.int 2))) .nil) (.call "_law_less_by" sp__law_less_by (.cons (.idx (.var 8) (.int 1)) (.cons (.idx (.idx (.var 2) (.var 4)) (.int 1)) .nil))))) (.cons (.expr (.meth .append (.var 6) (.cons (.call "_law_less_by" sp__law_less_by (.cons (.idx (.var 1) (.int 1)) (.cons (.idx (.idx (.var 2) (.var 4)) (.int 1)) .nil))) .nil))) (.cons (.ite (.cmp .NotIn (.bl true) (.comp false [9] (.name 9) (.val (.var 6)) .nil (.call "_law_compare" sp__law_compare (.cons (.var 9) (.cons (.idx (.var 0) (.int 3)) (.cons (.idx (.var 0) (.int 4)) .nil)))))) (.cons (.ret (.bl false)) .nil) .nil) .nil))) .nil) (.cons (.ite (.bools .And (.cons (.cmp .NotEq (.var 3) (.str "soon")) (.cons (.cmp .Eq (.idx (.idx (.var 2) (.var 4)) (.int 0)) (.idx (.var 0) (.int 2))) .nil))) (.cons (.asgLc 7 (.comp false [8] (.name 8) (.val (.slice false (.var 2) .no (.yes (.var 4)))) (.cons (.cmp .Eq (.idx (.var 8) (.int 0)) (.idx (.var 0) (.int 1))) .nil) (.idx (.var 8) (.int 1)))) (.cons (.ite (.bools .And (.cons (.cmp .Eq (.blt .len false (.cons (.var 7) .nil)) (.int 0)) (.cons (.cmp .Eq (.var 3) (.str "fresh")) .nil))) (.cons (.ret (.bl false)) .nil) .nil) (.cons (.ite (.bools .And (.cons (.cmp .Gt (.blt .len false (.cons (.var 7) .nil)) (.int 0)) (.cons (.not (.val (.call "_law_compare" sp__law_compare (.cons (.call "_law_less_by" sp__law_less_by (.cons (.idx (.idx (.var 2) (.var 4)) (.int 1)) (.cons (.idx (.var 7) (.neg (.int 1))) .nil))) (.cons (.idx (.var 0) (.int 3)) (.cons (.idx (.var 0) (.int 4)) .nil)))))) .nil))) (.cons (.ret (.bl false)) .nil) .nil) .nil))) .nil) .nil))
def b__law_keeps_1 : Ss :=
  (.cons (.ite (.bools .And (.cons (.cmp .Eq (.idx (.var 5) (.int 0)) (.idx (.var 0) (.int 1))) (.cons (.val (.call "_law_compare" sp__law_compare (.cons (.idx (.var 5) (.int 1)) (.cons (.idx (.var 0) (.int 2)) (.cons (.idx (.var 0) (.int 3)) .nil))))) .nil))) (.cons (.ret (.bl true)) .nil) .nil) .nil)
def b__law_keeps : Ss :=
  (.cons (.asg (.name 2) (.idx (.var 1) (.int 0))) (.cons (.asg (.name 3) (.idx (.var 0) (.int 0))) (.cons (.ite (.cmp .Eq (.var 3) (.str "never")) (.cons (.ret (.cmp .NotIn (.idx (.var 0) (.int 1)) (.comp false [5] (.name 5) (.val (.var 2)) .nil (.idx (.var 5) (.int 0))))) .nil) .nil) (.cons (.ite (.cmp .Eq (.var 3) (.str "first")) (.cons (.loop (.name 5) (.val (.var 2)) b__law_keeps_1) (.cons (.ret (.call "_law_compare" sp__law_compare (.cons (.idx (.var 1) (.int 1)) (.cons (.idx (.var 0) (.int 2)) (.cons (.idx (.var 0) (.int 3)) .nil))))) .nil)) .nil) (.cons (.loop (.name 4) (.range1 (.blt .len false (.cons (.var 2) .nil))) b__law_keeps_2) (.cons (.ret (.bl true)) .nil))))))
def n__law_keeps : List Str := ["sentence", "word", "signs", "kind", "at", "sign", "spans", "ahead", "one", "span"]
theorem strs_not {a : Str} : ∀ l : Sns, (!(l.map fun p => PV.str p.1).any fun y => eqv y (.str a)) = l.all fun p => !decide (p.1 = a)
  | [] => rfl
  | p :: r => by
    rw [List.map_cons, List.any_cons, List.all_cons, Bool.not_or, strs_not r]
    congr 1
theorem strs_sc2 (l : Sns) : (l.map fun p => PV.str p.1).all isSc = true := by
  rw [List.all_map, List.all_eq_true]; intro x _; rfl
theorem bls_any {α : Type} (f : α → Bool) : ∀ l : List α, ((l.map fun o => PV.bl (f o)).any fun y => eqv y (.bl true)) = l.any f
  | [] => rfl
  | x :: r => by
    rw [List.map_cons, List.any_cons, List.any_cons, bls_any f r]
    congr 1
    unfold eqv
    show (f x == true) = f x
    cases f x <;> rfl
theorem bls_sc {α : Type} (f : α → Bool) (l : List α) : (l.map fun o => PV.bl (f o)).all isSc = true := by
  rw [List.all_map, List.all_eq_true]; intro x _; rfl
theorem atI_last {α : Type} {xs : List α} : atI xs (-1) = xs.getLast? := by
  unfold atI ixN
  rw [if_neg (by omega)]
  by_cases h : xs.length = 0
  · rw [List.eq_nil_of_length_eq_zero h]
    rfl
  · rw [if_pos (by omega)]
    rw [List.getLast?_eq_getElem?]
    show xs[_]? = _
    congr 1
    omega
theorem any_take_succ {f : Str × Rat → Bool} {l : Sns} {i : Nat} {p : Str × Rat} (h : l[i]? = some p) : (l.take (i + 1)).any f = ((l.take i).any f || f p) := by
  rw [take1 h, List.any_append]
  simp
theorem later_map {l : Sns} {i : Nat} {b : Str} : ((l.drop (i + 1)).filter fun p => decide (p.1 = b)).map (fun q : Str × Rat => q.2) = laterM l i b := rfl
theorem w__law_keeps : ∀ vs s Q X, vs.length = 2 → sp__law_keeps vs s Q X → wpFn n__law_keeps.length b__law_keeps vs s Q X := by
  intro vs s Q X hl h
  unfold sp__law_keeps at h
  split at h
  · rw [fn_eq]
    unfold b__law_keeps n__law_keeps
    obtain ⟨x, l, e, rfl, rfl, hx, O, he, h⟩ := h
    have wv : wrV l e = .tup [.tup (l.map snV), ratV e] := rfl
    have snv : ∀ p : Str × Rat, snV p = .tup [.str p.1, ratV p.2] := fun _ => rfl
    have sz : 1000 ≤ sizeLine := by decide
    cases x with
    | nv a =>
      have sv : senV (.nv a) = .tup [.str "never", .str a] := rfl
      have t1 : (("never" : Str) = ("never" : Str)) = True := eq_true rfl
      have h : Q (.bl (l.all fun p => !decide (p.1 = a))) s := h
      rw [← strs_not] at h
      simp_all only [ss_nil, Nx_nil, Arm_nil, sz_0, sz_1, sz_2, sz_3, sz_4, sz_5, sz_6, sz_7, sz_8, sz_9, sz_10, sz_11, sz_12, cp_2, cp_3, cp_4, cp_5, cp_6, cp_7, cp_12, cp_20, cp_30, cp_38, cp_39, cp_40, sv, wv]
      (first | rw [Nx_eq] | rw [Arm_eq] | skip); (try simp_all only [ss_nil, Nx_nil, Arm_nil, sz_0, sz_1, sz_2, sz_3, sz_4, sz_5, sz_6, sz_7, sz_8, sz_9, sz_10, sz_11, sz_12, cp_2, cp_3, cp_4, cp_5, cp_6, cp_7, cp_12, cp_20, cp_30, cp_38, cp_39, cp_40])
      (first | rw [Nx_eq] | rw [Arm_eq] | skip); (try simp_all only [ss_nil, Nx_nil, Arm_nil, sz_0, sz_1, sz_2, sz_3, sz_4, sz_5, sz_6, sz_7, sz_8, sz_9, sz_10, sz_11, sz_12, cp_2, cp_3, cp_4, cp_5, cp_6, cp_7, cp_12, cp_20, cp_30, cp_38, cp_39, cp_40, t1])
      (first | rw [Nx_eq] | rw [Arm_eq] | skip); (try simp_all only [ss_nil, Nx_nil, Arm_nil, sz_0, sz_1, sz_2, sz_3, sz_4, sz_5, sz_6, sz_7, sz_8, sz_9, sz_10, sz_11, sz_12, cp_2, cp_3, cp_4, cp_5, cp_6, cp_7, cp_12, cp_20, cp_30, cp_38, cp_39, cp_40])
      refine lc_enc (fun p : Str × Rat => .str p.1) l (fun τ1 st' Q q => by simp_all only [ss_nil, Nx_nil, Arm_nil, sz_0, sz_1, sz_2, sz_3, sz_4, sz_5, sz_6, sz_7, sz_8, sz_9, sz_10, sz_11, sz_12, cp_2, cp_3, cp_4, cp_5, cp_6, cp_7, cp_12, cp_20, cp_30, cp_38, cp_39, cp_40]; exact q) (fun p hp => ⟨_, rfl, fun st' sub K hk => ?_⟩) ?_
      · simp_all only [ss_nil, Nx_nil, Arm_nil, sz_0, sz_1, sz_2, sz_3, sz_4, sz_5, sz_6, sz_7, sz_8, sz_9, sz_10, sz_11, sz_12, cp_2, cp_3, cp_4, cp_5, cp_6, cp_7, cp_12, cp_20, cp_30, cp_38, cp_39, cp_40, snv]
        exact hk
      simp_all only [ss_nil, Nx_nil, Arm_nil, sz_0, sz_1, sz_2, sz_3, sz_4, sz_5, sz_6, sz_7, sz_8, sz_9, sz_10, sz_11, sz_12, cp_2, cp_3, cp_4, cp_5, cp_6, cp_7, cp_12, cp_20, cp_30, cp_38, cp_39, cp_40, strs_sc2, isSc]
      exact ⟨s, .rfl, h⟩
    | fi a sg n =>
      have sv : senV (.fi a sg n) = .tup [.str "first", .str a, .str (sgS sg), .int n] := rfl
      have t1 : (("first" : Str) = ("never" : Str)) = False := eq_false (by decide)
      have t2 : (("first" : Str) = ("first" : Str)) = True := eq_true rfl
      have h : Q (.bl (fiM a sg n l e)) s := h
      unfold fiM at h
      simp_all only [ss_nil, Nx_nil, Arm_nil, sz_0, sz_1, sz_2, sz_3, sz_4, sz_5, sz_6, sz_7, sz_8, sz_9, sz_10, sz_11, sz_12, cp_2, cp_3, cp_4, cp_5, cp_6, cp_7, cp_12, cp_20, cp_30, cp_38, cp_39, cp_40, sv, wv]
      (first | rw [Nx_eq] | rw [Arm_eq] | skip); (try simp_all only [ss_nil, Nx_nil, Arm_nil, sz_0, sz_1, sz_2, sz_3, sz_4, sz_5, sz_6, sz_7, sz_8, sz_9, sz_10, sz_11, sz_12, cp_2, cp_3, cp_4, cp_5, cp_6, cp_7, cp_12, cp_20, cp_30, cp_38, cp_39, cp_40])
      (first | rw [Nx_eq] | rw [Arm_eq] | skip); (try simp_all only [ss_nil, Nx_nil, Arm_nil, sz_0, sz_1, sz_2, sz_3, sz_4, sz_5, sz_6, sz_7, sz_8, sz_9, sz_10, sz_11, sz_12, cp_2, cp_3, cp_4, cp_5, cp_6, cp_7, cp_12, cp_20, cp_30, cp_38, cp_39, cp_40, t1])
      (first | rw [Nx_eq] | rw [Arm_eq] | skip); (try simp_all only [ss_nil, Nx_nil, Arm_nil, sz_0, sz_1, sz_2, sz_3, sz_4, sz_5, sz_6, sz_7, sz_8, sz_9, sz_10, sz_11, sz_12, cp_2, cp_3, cp_4, cp_5, cp_6, cp_7, cp_12, cp_20, cp_30, cp_38, cp_39, cp_40, t2])
      (first | rw [Nx_eq] | rw [Arm_eq] | skip); (try simp_all only [ss_nil, Nx_nil, Arm_nil, sz_0, sz_1, sz_2, sz_3, sz_4, sz_5, sz_6, sz_7, sz_8, sz_9, sz_10, sz_11, sz_12, cp_2, cp_3, cp_4, cp_5, cp_6, cp_7, cp_12, cp_20, cp_30, cp_38, cp_39, cp_40])
      refine for_at (fun i τ st => st = s ∧ ((l.take i).any fun p => decide (p.1 = a) && sgH sg p.2 n) = false ∧ ∃ o5 : Option PV, τ = [some (.tup [.str "first", .str a, .str (sgS sg), .int n]), some (.tup [.tup (l.map snV), ratV e]), some (.tup (l.map snV)), some (.str "first"), none, o5, none, none, none, none]) ?_ ?_ ⟨rfl, rfl, _, rfl⟩
      · rintro i v τ st hi ⟨rfl, hany, o5, rfl⟩
        obtain ⟨p, rfl, hp⟩ := get_sn hi
        have hpb := O.bd p (List.mem_of_getElem? hp)
        refine ⟨trivial, ?_⟩
        unfold b__law_keeps_1
        by_cases hq : p.1 = a
        · have e1 : (p.1 = a) = True := eq_true hq
          simp_all only [ss_nil, Nx_nil, Arm_nil, sz_0, sz_1, sz_2, sz_3, sz_4, sz_5, sz_6, sz_7, sz_8, sz_9, sz_10, sz_11, sz_12, cp_2, cp_3, cp_4, cp_5, cp_6, cp_7, cp_12, cp_20, cp_30, cp_38, cp_39, cp_40, snv, e1]
          refine callS_of ⟨p.2, sg, n, (hpb.mono (by decide)).fr, rfl, rfl, hx, ?_⟩
          cases hs : sgH sg p.2 n with
          | true =>
            have ha : (l.any fun p => decide (p.1 = a) && sgH sg p.2 n) = true := List.any_eq_true.mpr ⟨p, List.mem_of_getElem? hp, by rw [decide_eq_true hq, hs]; rfl⟩
            rw [ha, Bool.true_or] at h
            simp_all only [ss_nil, Nx_nil, Arm_nil, sz_0, sz_1, sz_2, sz_3, sz_4, sz_5, sz_6, sz_7, sz_8, sz_9, sz_10, sz_11, sz_12, cp_2, cp_3, cp_4, cp_5, cp_6, cp_7, cp_12, cp_20, cp_30, cp_38, cp_39, cp_40]
            (first | rw [Nx_eq] | rw [Arm_eq] | skip); (try simp_all only [ss_nil, Nx_nil, Arm_nil, sz_0, sz_1, sz_2, sz_3, sz_4, sz_5, sz_6, sz_7, sz_8, sz_9, sz_10, sz_11, sz_12, cp_2, cp_3, cp_4, cp_5, cp_6, cp_7, cp_12, cp_20, cp_30, cp_38, cp_39, cp_40])
            exact ⟨st, .rfl, h⟩
          | false =>
            have e2 : ((l.take (i + 1)).any fun p => decide (p.1 = a) && sgH sg p.2 n) = false := by
              rw [any_take_succ hp, hany, hs, Bool.and_false]; rfl
            simp_all only [ss_nil, Nx_nil, Arm_nil, sz_0, sz_1, sz_2, sz_3, sz_4, sz_5, sz_6, sz_7, sz_8, sz_9, sz_10, sz_11, sz_12, cp_2, cp_3, cp_4, cp_5, cp_6, cp_7, cp_12, cp_20, cp_30, cp_38, cp_39, cp_40]
            exact ⟨e2, _, rfl⟩
        · have e1 : (p.1 = a) = False := eq_false hq
          have e2 : ((l.take (i + 1)).any fun p => decide (p.1 = a) && sgH sg p.2 n) = false := by
            rw [any_take_succ hp, hany, decide_eq_false hq]; rfl
          simp_all only [ss_nil, Nx_nil, Arm_nil, sz_0, sz_1, sz_2, sz_3, sz_4, sz_5, sz_6, sz_7, sz_8, sz_9, sz_10, sz_11, sz_12, cp_2, cp_3, cp_4, cp_5, cp_6, cp_7, cp_12, cp_20, cp_30, cp_38, cp_39, cp_40, snv, e1]
          exact ⟨e2, _, rfl⟩
      · rintro τ st ⟨rfl, hany, o5, rfl⟩
        refine ⟨trivial, ?_⟩
        rw [List.length_map, List.take_length] at hany
        rw [hany, Bool.false_or] at h
        simp_all only [ss_nil, Nx_nil, Arm_nil, sz_0, sz_1, sz_2, sz_3, sz_4, sz_5, sz_6, sz_7, sz_8, sz_9, sz_10, sz_11, sz_12, cp_2, cp_3, cp_4, cp_5, cp_6, cp_7, cp_12, cp_20, cp_30, cp_38, cp_39, cp_40]
        (first | rw [Nx_eq] | rw [Arm_eq] | skip); (try simp_all only [ss_nil, Nx_nil, Arm_nil, sz_0, sz_1, sz_2, sz_3, sz_4, sz_5, sz_6, sz_7, sz_8, sz_9, sz_10, sz_11, sz_12, cp_2, cp_3, cp_4, cp_5, cp_6, cp_7, cp_12, cp_20, cp_30, cp_38, cp_39, cp_40])
        exact callS_of ⟨e, sg, n, (he.mono (by decide)).fr, rfl, rfl, hx, st, .rfl, h⟩
    | two k a b sg n =>
      have sv : senV (.two k a b sg n) = .tup [.str k, .str a, .str b, .str (sgS sg), .int n] := rfl
      obtain ⟨hn, hk⟩ := hx
      obtain ⟨t1, t2⟩ := k_facts hk
      have h : Q (.bl (if k = "soon" then soM a b sg n l e else siM (decide (k = "fresh")) a b sg n l)) s := h
      have len := O.len
      simp_all only [ss_nil, Nx_nil, Arm_nil, sz_0, sz_1, sz_2, sz_3, sz_4, sz_5, sz_6, sz_7, sz_8, sz_9, sz_10, sz_11, sz_12, cp_2, cp_3, cp_4, cp_5, cp_6, cp_7, cp_12, cp_20, cp_30, cp_38, cp_39, cp_40, sv, wv]
      (first | rw [Nx_eq] | rw [Arm_eq] | skip); (try simp_all only [ss_nil, Nx_nil, Arm_nil, sz_0, sz_1, sz_2, sz_3, sz_4, sz_5, sz_6, sz_7, sz_8, sz_9, sz_10, sz_11, sz_12, cp_2, cp_3, cp_4, cp_5, cp_6, cp_7, cp_12, cp_20, cp_30, cp_38, cp_39, cp_40])
      (first | rw [Nx_eq] | rw [Arm_eq] | skip); (try simp_all only [ss_nil, Nx_nil, Arm_nil, sz_0, sz_1, sz_2, sz_3, sz_4, sz_5, sz_6, sz_7, sz_8, sz_9, sz_10, sz_11, sz_12, cp_2, cp_3, cp_4, cp_5, cp_6, cp_7, cp_12, cp_20, cp_30, cp_38, cp_39, cp_40, t1])
      (first | rw [Nx_eq] | rw [Arm_eq] | skip); (try simp_all only [ss_nil, Nx_nil, Arm_nil, sz_0, sz_1, sz_2, sz_3, sz_4, sz_5, sz_6, sz_7, sz_8, sz_9, sz_10, sz_11, sz_12, cp_2, cp_3, cp_4, cp_5, cp_6, cp_7, cp_12, cp_20, cp_30, cp_38, cp_39, cp_40, t2])
      (first | rw [Nx_eq] | rw [Arm_eq] | skip); (try simp_all only [ss_nil, Nx_nil, Arm_nil, sz_0, sz_1, sz_2, sz_3, sz_4, sz_5, sz_6, sz_7, sz_8, sz_9, sz_10, sz_11, sz_12, cp_2, cp_3, cp_4, cp_5, cp_6, cp_7, cp_12, cp_20, cp_30, cp_38, cp_39, cp_40, List.length_map])
      refine ⟨by unfold R62; omega, ?_⟩
      by_cases h3 : k = ("soon" : Str)
      · have t3 : (k = ("soon" : Str)) = True := eq_true h3
        rw [if_pos h3] at h
        unfold soM at h
        refine for_at (fun i τ st => Sub s st ∧ (List.range i).all (soAt a b sg n l e) = true ∧ ∃ o4 o6 o7 o8 o9 : Option PV, τ = [some (.tup [.str k, .str a, .str b, .str (sgS sg), .int n]), some (.tup [.tup (l.map snV), ratV e]), some (.tup (l.map snV)), some (.str k), o4, none, o6, o7, o8, o9]) ?_ ?_ ⟨.rfl, rfl, _, _, _, _, _, rfl⟩
        · rintro i v τ st hi ⟨sub, hall, o4, o6, o7, o8, o9, rfl⟩
          have hil : i < l.length := by
            have := (List.getElem?_eq_some_iff.mp hi).1
            simpa [rngL] using this
          obtain rfl : v = .int i := by
            obtain ⟨h1, h2⟩ := List.getElem?_eq_some_iff.mp hi
            simp only [rngL, List.getElem_map, List.getElem_range] at h2
            rw [← h2, Int.zero_add]
          obtain ⟨p, hp⟩ : ∃ p, l[i]? = some p := ⟨_, List.getElem?_eq_getElem hil⟩
          have hpb := O.bd p (List.mem_of_getElem? hp)
          have ap : atI (l.map snV) (i : Int) = some (snV p) := by rw [atI_nat, List.getElem?_map, hp]; rfl
          have eA := soAt_eq (a := a) (b := b) (s := sg) (n := n) (e := e) hp
          refine ⟨trivial, ?_⟩
          unfold b__law_keeps_2
          by_cases hq : p.1 = a
          · have e1 : (p.1 = a) = True := eq_true hq
            rw [decide_eq_true hq] at eA
            have eA : soAt a b sg n l e i = (laterM l i b ++ [e]).any fun o => sgH sg (o - p.2) n := eA
            have ct : cutP (l.map snV) (some ((i : Int) + 1)) none = (l.drop (i + 1)).map snV := by rw [cut_from (by omega), show ((i : Int) + 1).toNat = i + 1 by omega, List.map_drop]
            simp_all only [ss_nil, Nx_nil, Arm_nil, sz_0, sz_1, sz_2, sz_3, sz_4, sz_5, sz_6, sz_7, sz_8, sz_9, sz_10, sz_11, sz_12, cp_2, cp_3, cp_4, cp_5, cp_6, cp_7, cp_12, cp_20, cp_30, cp_38, cp_39, cp_40, t3, ap, snv, e1]
            (first | rw [Nx_eq] | rw [Arm_eq] | skip); (try simp_all only [ss_nil, Nx_nil, Arm_nil, sz_0, sz_1, sz_2, sz_3, sz_4, sz_5, sz_6, sz_7, sz_8, sz_9, sz_10, sz_11, sz_12, cp_2, cp_3, cp_4, cp_5, cp_6, cp_7, cp_12, cp_20, cp_30, cp_38, cp_39, cp_40, ct])
            refine lc_filter (fun p => decide (p.1 = b)) (fun q => ratV (q.2 - p.2)) (l.drop (i + 1)) (fun q hq => ⟨_, rfl, fun st' sub => ⟨fun K hk => ?_, fun _ K hk => ?_⟩⟩) ?_
            · by_cases hb : q.1 = b
              · have e2 : (q.1 = b) = True := eq_true hb
                rw [decide_eq_true hb] at hk
                simp_all only [ss_nil, Nx_nil, Arm_nil, sz_0, sz_1, sz_2, sz_3, sz_4, sz_5, sz_6, sz_7, sz_8, sz_9, sz_10, sz_11, sz_12, cp_2, cp_3, cp_4, cp_5, cp_6, cp_7, cp_12, cp_20, cp_30, cp_38, cp_39, cp_40, snv, e2]
                exact hk
              · have e2 : (q.1 = b) = False := eq_false hb
                rw [decide_eq_false hb] at hk
                simp_all only [ss_nil, Nx_nil, Arm_nil, sz_0, sz_1, sz_2, sz_3, sz_4, sz_5, sz_6, sz_7, sz_8, sz_9, sz_10, sz_11, sz_12, cp_2, cp_3, cp_4, cp_5, cp_6, cp_7, cp_12, cp_20, cp_30, cp_38, cp_39, cp_40, snv, e2]
                exact hk
            · have hqb := O.bd q (List.mem_of_mem_drop hq)
              simp_all only [ss_nil, Nx_nil, Arm_nil, sz_0, sz_1, sz_2, sz_3, sz_4, sz_5, sz_6, sz_7, sz_8, sz_9, sz_10, sz_11, sz_12, cp_2, cp_3, cp_4, cp_5, cp_6, cp_7, cp_12, cp_20, cp_30, cp_38, cp_39, cp_40, snv, ap]
              exact callS_of ⟨q.2, p.2, (hqb.mono (by decide)).fr, (hpb.mono (by decide)).fr, hk⟩
            have em : (((l.drop (i + 1)).filter fun p => decide (p.1 = b)).map fun q => ratV (q.2 - p.2)) = (laterM l i b).map fun o => ratV (o - p.2) := by
              unfold laterM; rw [List.map_map]; rfl
            rw [em]
            clear em ct
            have lb := later_len (k := i) (b := b) O
            have mb : ∀ x ∈ laterM l i b ++ [e], Bd 300 x := fun x hx => by
              rcases List.mem_append.mp hx with hx | hx
              · exact later_mem O x hx
              · rw [List.mem_singleton.mp hx]; exact he
            have ma : ((laterM l i b ++ [e]).map fun o => ratV (o - p.2)) = ((laterM l i b).map fun o => ratV (o - p.2)) ++ [ratV (e - p.2)] := by rw [List.map_append]; rfl
            simp_all only [ss_nil, Nx_nil, Arm_nil, sz_0, sz_1, sz_2, sz_3, sz_4, sz_5, sz_6, sz_7, sz_8, sz_9, sz_10, sz_11, sz_12, cp_2, cp_3, cp_4, cp_5, cp_6, cp_7, cp_12, cp_20, cp_30, cp_38, cp_39, cp_40]
            intro q hq2
            (first | rw [Nx_eq] | rw [Arm_eq] | skip); (try simp_all only [ss_nil, Nx_nil, Arm_nil, sz_0, sz_1, sz_2, sz_3, sz_4, sz_5, sz_6, sz_7, sz_8, sz_9, sz_10, sz_11, sz_12, cp_2, cp_3, cp_4, cp_5, cp_6, cp_7, cp_12, cp_20, cp_30, cp_38, cp_39, cp_40, snv, ap])
            refine callS_of ⟨e, p.2, (he.mono (by decide)).fr, (hpb.mono (by decide)).fr, ?_⟩
            simp_all only [ss_nil, Nx_nil, Arm_nil, sz_0, sz_1, sz_2, sz_3, sz_4, sz_5, sz_6, sz_7, sz_8, sz_9, sz_10, sz_11, sz_12, cp_2, cp_3, cp_4, cp_5, cp_6, cp_7, cp_12, cp_20, cp_30, cp_38, cp_39, cp_40, up_up, List.length_map]
            refine ⟨by omega, ?_⟩
            rw [← ma]
            revert eA mb
            generalize laterM l i b ++ [e] = ms
            intro eA mb
            have sub2 : Sub s (up st q (some (.lst (ms.map fun o => ratV (o - p.2))))) := fun c d hc => by
              have := sub c d hc
              by_cases hcq : c = q
              · rw [hcq, hq2] at this; cases this
              · rw [up_ne hcq]; exact this
            (first | rw [Nx_eq] | rw [Arm_eq] | skip); (try simp_all only [ss_nil, Nx_nil, Arm_nil, sz_0, sz_1, sz_2, sz_3, sz_4, sz_5, sz_6, sz_7, sz_8, sz_9, sz_10, sz_11, sz_12, cp_2, cp_3, cp_4, cp_5, cp_6, cp_7, cp_12, cp_20, cp_30, cp_38, cp_39, cp_40])
            refine lc_enc (fun o => .bl (sgH sg (o - p.2) n)) ms (fun τ1 st' Q q => by simp_all only [ss_nil, Nx_nil, Arm_nil, sz_0, sz_1, sz_2, sz_3, sz_4, sz_5, sz_6, sz_7, sz_8, sz_9, sz_10, sz_11, sz_12, cp_2, cp_3, cp_4, cp_5, cp_6, cp_7, cp_12, cp_20, cp_30, cp_38, cp_39, cp_40]; exact q) (fun o ho => ⟨_, rfl, fun st' sub K hk => ?_⟩) ?_
            · have hob := mb o ho
              simp_all only [ss_nil, Nx_nil, Arm_nil, sz_0, sz_1, sz_2, sz_3, sz_4, sz_5, sz_6, sz_7, sz_8, sz_9, sz_10, sz_11, sz_12, cp_2, cp_3, cp_4, cp_5, cp_6, cp_7, cp_12, cp_20, cp_30, cp_38, cp_39, cp_40]
              exact callS_of ⟨o - p.2, sg, n, ((hob.sub hpb).mono (by decide)).fr, rfl, rfl, hn, hk⟩
            cases ha : ms.any fun o => sgH sg (o - p.2) n with
            | true =>
              rw [ha] at eA
              simp_all only [ss_nil, Nx_nil, Arm_nil, sz_0, sz_1, sz_2, sz_3, sz_4, sz_5, sz_6, sz_7, sz_8, sz_9, sz_10, sz_11, sz_12, cp_2, cp_3, cp_4, cp_5, cp_6, cp_7, cp_12, cp_20, cp_30, cp_38, cp_39, cp_40, bls_any (fun o => sgH sg (o - p.2) n), bls_sc (fun o => sgH sg (o - p.2) n), isSc, ha, ↓v_neSS2, t3]
              (first | rw [Nx_eq] | rw [Arm_eq] | skip); (try simp_all only [ss_nil, Nx_nil, Arm_nil, sz_0, sz_1, sz_2, sz_3, sz_4, sz_5, sz_6, sz_7, sz_8, sz_9, sz_10, sz_11, sz_12, cp_2, cp_3, cp_4, cp_5, cp_6, cp_7, cp_12, cp_20, cp_30, cp_38, cp_39, cp_40, ↓v_neSS2, t3])
              exact ⟨sub2, allR_succ hall eA, _, _, _, _, _, rfl⟩
            | false =>
              rw [ha] at eA
              rw [allR_no hil eA] at h
              simp_all only [ss_nil, Nx_nil, Arm_nil, sz_0, sz_1, sz_2, sz_3, sz_4, sz_5, sz_6, sz_7, sz_8, sz_9, sz_10, sz_11, sz_12, cp_2, cp_3, cp_4, cp_5, cp_6, cp_7, cp_12, cp_20, cp_30, cp_38, cp_39, cp_40, bls_any (fun o => sgH sg (o - p.2) n), bls_sc (fun o => sgH sg (o - p.2) n), isSc, ha]
              (first | rw [Nx_eq] | rw [Arm_eq] | skip); (try simp_all only [ss_nil, Nx_nil, Arm_nil, sz_0, sz_1, sz_2, sz_3, sz_4, sz_5, sz_6, sz_7, sz_8, sz_9, sz_10, sz_11, sz_12, cp_2, cp_3, cp_4, cp_5, cp_6, cp_7, cp_12, cp_20, cp_30, cp_38, cp_39, cp_40])
              exact ⟨s, sub2, h⟩
          · have e1 : (p.1 = a) = False := eq_false hq
            rw [decide_eq_false hq] at eA
            simp_all only [ss_nil, Nx_nil, Arm_nil, sz_0, sz_1, sz_2, sz_3, sz_4, sz_5, sz_6, sz_7, sz_8, sz_9, sz_10, sz_11, sz_12, cp_2, cp_3, cp_4, cp_5, cp_6, cp_7, cp_12, cp_20, cp_30, cp_38, cp_39, cp_40, t3, ap, snv, e1]
            (first | rw [Nx_eq] | rw [Arm_eq] | skip); (try simp_all only [ss_nil, Nx_nil, Arm_nil, sz_0, sz_1, sz_2, sz_3, sz_4, sz_5, sz_6, sz_7, sz_8, sz_9, sz_10, sz_11, sz_12, cp_2, cp_3, cp_4, cp_5, cp_6, cp_7, cp_12, cp_20, cp_30, cp_38, cp_39, cp_40, ↓v_neSS2, t3])
            exact ⟨sub, allR_succ hall eA, _, _, _, _, _, rfl⟩
        · rintro τ st ⟨sub, hall, o4, o6, o7, o8, o9, rfl⟩
          refine ⟨trivial, ?_⟩
          rw [show (rngL 0 (l.length : Int).toNat).length = l.length by simp [rngL]] at hall
          rw [hall] at h
          simp_all only [ss_nil, Nx_nil, Arm_nil, sz_0, sz_1, sz_2, sz_3, sz_4, sz_5, sz_6, sz_7, sz_8, sz_9, sz_10, sz_11, sz_12, cp_2, cp_3, cp_4, cp_5, cp_6, cp_7, cp_12, cp_20, cp_30, cp_38, cp_39, cp_40]
          (first | rw [Nx_eq] | rw [Arm_eq] | skip); (try simp_all only [ss_nil, Nx_nil, Arm_nil, sz_0, sz_1, sz_2, sz_3, sz_4, sz_5, sz_6, sz_7, sz_8, sz_9, sz_10, sz_11, sz_12, cp_2, cp_3, cp_4, cp_5, cp_6, cp_7, cp_12, cp_20, cp_30, cp_38, cp_39, cp_40])
          exact ⟨s, sub, h⟩
      · have t3 : (k = ("soon" : Str)) = False := eq_false h3
        rw [if_neg h3] at h
        unfold siM at h
        refine for_at (fun i τ st => st = s ∧ (List.range i).all (siAt (decide (k = "fresh")) a b sg n l) = true ∧ ∃ o4 o7 o8 : Option PV, τ = [some (.tup [.str k, .str a, .str b, .str (sgS sg), .int n]), some (.tup [.tup (l.map snV), ratV e]), some (.tup (l.map snV)), some (.str k), o4, none, none, o7, o8, none]) ?_ ?_ ⟨rfl, rfl, _, _, _, rfl⟩
        · rintro i v τ st hi ⟨rfl, hall, o4, o7, o8, rfl⟩
          have hil : i < l.length := by
            have := (List.getElem?_eq_some_iff.mp hi).1
            simpa [rngL] using this
          obtain rfl : v = .int i := by
            obtain ⟨h1, h2⟩ := List.getElem?_eq_some_iff.mp hi
            simp only [rngL, List.getElem_map, List.getElem_range] at h2
            rw [← h2, Int.zero_add]
          obtain ⟨p, hp⟩ : ∃ p, l[i]? = some p := ⟨_, List.getElem?_eq_getElem hil⟩
          have hpb := O.bd p (List.mem_of_getElem? hp)
          have ap : atI (l.map snV) (i : Int) = some (snV p) := by rw [atI_nat, List.getElem?_map, hp]; rfl
          have eA := siAt_eq (fresh := decide (k = "fresh")) (a := a) (b := b) (s := sg) (n := n) hp
          refine ⟨trivial, ?_⟩
          unfold b__law_keeps_2
          simp_all only [ss_nil, Nx_nil, Arm_nil, sz_0, sz_1, sz_2, sz_3, sz_4, sz_5, sz_6, sz_7, sz_8, sz_9, sz_10, sz_11, sz_12, cp_2, cp_3, cp_4, cp_5, cp_6, cp_7, cp_12, cp_20, cp_30, cp_38, cp_39, cp_40, t3]
          by_cases hq : p.1 = b
          · have e1 : (p.1 = b) = True := eq_true hq
            rw [decide_eq_true hq] at eA
            have ct : cutP (l.map snV) none (some (i : Int)) = (l.take i).map snV := by rw [cut_to (by omega), Int.toNat_natCast, List.map_take]
            (first | rw [Nx_eq] | rw [Arm_eq] | skip); (try simp_all only [ss_nil, Nx_nil, Arm_nil, sz_0, sz_1, sz_2, sz_3, sz_4, sz_5, sz_6, sz_7, sz_8, sz_9, sz_10, sz_11, sz_12, cp_2, cp_3, cp_4, cp_5, cp_6, cp_7, cp_12, cp_20, cp_30, cp_38, cp_39, cp_40, ↓v_neSS2, t3, ap, snv, e1])
            (first | rw [Nx_eq] | rw [Arm_eq] | skip); (try simp_all only [ss_nil, Nx_nil, Arm_nil, sz_0, sz_1, sz_2, sz_3, sz_4, sz_5, sz_6, sz_7, sz_8, sz_9, sz_10, sz_11, sz_12, cp_2, cp_3, cp_4, cp_5, cp_6, cp_7, cp_12, cp_20, cp_30, cp_38, cp_39, cp_40, ct])
            refine lc_filter (fun p => decide (p.1 = a)) (fun q => ratV q.2) (l.take i) (fun q hq => ⟨_, rfl, fun st' sub => ⟨fun K hk => ?_, fun _ K hk => ?_⟩⟩) ?_
            · by_cases hb : q.1 = a
              · have e2 : (q.1 = a) = True := eq_true hb
                rw [decide_eq_true hb] at hk
                simp_all only [ss_nil, Nx_nil, Arm_nil, sz_0, sz_1, sz_2, sz_3, sz_4, sz_5, sz_6, sz_7, sz_8, sz_9, sz_10, sz_11, sz_12, cp_2, cp_3, cp_4, cp_5, cp_6, cp_7, cp_12, cp_20, cp_30, cp_38, cp_39, cp_40, snv, e2]
                exact hk
              · have e2 : (q.1 = a) = False := eq_false hb
                rw [decide_eq_false hb] at hk
                simp_all only [ss_nil, Nx_nil, Arm_nil, sz_0, sz_1, sz_2, sz_3, sz_4, sz_5, sz_6, sz_7, sz_8, sz_9, sz_10, sz_11, sz_12, cp_2, cp_3, cp_4, cp_5, cp_6, cp_7, cp_12, cp_20, cp_30, cp_38, cp_39, cp_40, snv, e2]
                exact hk
            · simp_all only [ss_nil, Nx_nil, Arm_nil, sz_0, sz_1, sz_2, sz_3, sz_4, sz_5, sz_6, sz_7, sz_8, sz_9, sz_10, sz_11, sz_12, cp_2, cp_3, cp_4, cp_5, cp_6, cp_7, cp_12, cp_20, cp_30, cp_38, cp_39, cp_40, snv]
              exact hk
            have em : (((l.take i).filter fun p => decide (p.1 = a)).map fun q => ratV q.2) = (aheadM l i a).map ratV := by
              unfold aheadM; rw [List.map_map]; rfl
            rw [em]
            clear em ct
            have mem := ahead_mem (k := i) (b := a) O
            revert eA mem
            generalize aheadM l i a = as
            intro eA mem
            have al : atI (as.map ratV) (-1) = as.getLast?.map ratV := by rw [atI_last, List.getLast?_map]
            simp_all only [ss_nil, Nx_nil, Arm_nil, sz_0, sz_1, sz_2, sz_3, sz_4, sz_5, sz_6, sz_7, sz_8, sz_9, sz_10, sz_11, sz_12, cp_2, cp_3, cp_4, cp_5, cp_6, cp_7, cp_12, cp_20, cp_30, cp_38, cp_39, cp_40]
            cases ea : as.getLast? with
            | none =>
              have a0 : as = [] := List.getLast?_eq_none_iff.mp ea
              rw [ea] at eA
              subst a0
              by_cases hf : k = ("fresh" : Str)
              · have e2 : (k = ("fresh" : Str)) = True := eq_true hf
                rw [allR_no hil (eA.trans (by rw [decide_eq_true hf]; rfl))] at h
                (first | rw [Nx_eq] | rw [Arm_eq] | skip); (try simp_all only [ss_nil, Nx_nil, Arm_nil, sz_0, sz_1, sz_2, sz_3, sz_4, sz_5, sz_6, sz_7, sz_8, sz_9, sz_10, sz_11, sz_12, cp_2, cp_3, cp_4, cp_5, cp_6, cp_7, cp_12, cp_20, cp_30, cp_38, cp_39, cp_40, e2])
                (first | rw [Nx_eq] | rw [Arm_eq] | skip); (try simp_all only [ss_nil, Nx_nil, Arm_nil, sz_0, sz_1, sz_2, sz_3, sz_4, sz_5, sz_6, sz_7, sz_8, sz_9, sz_10, sz_11, sz_12, cp_2, cp_3, cp_4, cp_5, cp_6, cp_7, cp_12, cp_20, cp_30, cp_38, cp_39, cp_40])
                exact ⟨st, .rfl, h⟩
              · have e2 : (k = ("fresh" : Str)) = False := eq_false hf
                have e4 := allR_succ hall (eA.trans (by rw [decide_eq_false hf]; rfl))
                rw [decide_eq_false hf] at e4
                (first | rw [Nx_eq] | rw [Arm_eq] | skip); (try simp_all only [ss_nil, Nx_nil, Arm_nil, sz_0, sz_1, sz_2, sz_3, sz_4, sz_5, sz_6, sz_7, sz_8, sz_9, sz_10, sz_11, sz_12, cp_2, cp_3, cp_4, cp_5, cp_6, cp_7, cp_12, cp_20, cp_30, cp_38, cp_39, cp_40, e2])
                (first | rw [Nx_eq] | rw [Arm_eq] | skip); (try simp_all only [ss_nil, Nx_nil, Arm_nil, sz_0, sz_1, sz_2, sz_3, sz_4, sz_5, sz_6, sz_7, sz_8, sz_9, sz_10, sz_11, sz_12, cp_2, cp_3, cp_4, cp_5, cp_6, cp_7, cp_12, cp_20, cp_30, cp_38, cp_39, cp_40, e2])
                exact ⟨e4, _, _, _, rfl⟩
            | some x =>
              have hxb := mem x (List.mem_of_getLast? ea)
              rw [ea] at eA al
              have eA : siAt (decide (k = "fresh")) a b sg n l i = sgH sg (p.2 - x) n := eA
              have al : atI (as.map ratV) (-1) = some (ratV x) := al
              have hne : as.length ≠ 0 := fun z => by rw [List.eq_nil_of_length_eq_zero z] at ea; cases ea
              have n0 : ((as.length : Int) = 0) = False := eq_false (by omega)
              have n1 : ((0 : Int) < as.length) = True := eq_true (by omega)
              (first | rw [Nx_eq] | rw [Arm_eq] | skip); (try simp_all only [ss_nil, Nx_nil, Arm_nil, sz_0, sz_1, sz_2, sz_3, sz_4, sz_5, sz_6, sz_7, sz_8, sz_9, sz_10, sz_11, sz_12, cp_2, cp_3, cp_4, cp_5, cp_6, cp_7, cp_12, cp_20, cp_30, cp_38, cp_39, cp_40, List.length_map, n0])
              (first | rw [Nx_eq] | rw [Arm_eq] | skip); (try simp_all only [ss_nil, Nx_nil, Arm_nil, sz_0, sz_1, sz_2, sz_3, sz_4, sz_5, sz_6, sz_7, sz_8, sz_9, sz_10, sz_11, sz_12, cp_2, cp_3, cp_4, cp_5, cp_6, cp_7, cp_12, cp_20, cp_30, cp_38, cp_39, cp_40, List.length_map, n1, ap, snv, al])
              refine callS_of ⟨p.2, x, (hpb.mono (by decide)).fr, (hxb.mono (by decide)).fr, ?_⟩
              simp_all only [ss_nil, Nx_nil, Arm_nil, sz_0, sz_1, sz_2, sz_3, sz_4, sz_5, sz_6, sz_7, sz_8, sz_9, sz_10, sz_11, sz_12, cp_2, cp_3, cp_4, cp_5, cp_6, cp_7, cp_12, cp_20, cp_30, cp_38, cp_39, cp_40]
              refine callS_of ⟨p.2 - x, sg, n, ((hpb.sub hxb).mono (by decide)).fr, rfl, rfl, hn, ?_⟩
              cases hs : sgH sg (p.2 - x) n with
              | true =>
                rw [hs] at eA
                simp_all only [ss_nil, Nx_nil, Arm_nil, sz_0, sz_1, sz_2, sz_3, sz_4, sz_5, sz_6, sz_7, sz_8, sz_9, sz_10, sz_11, sz_12, cp_2, cp_3, cp_4, cp_5, cp_6, cp_7, cp_12, cp_20, cp_30, cp_38, cp_39, cp_40]
                exact ⟨allR_succ hall eA, _, _, _, rfl⟩
              | false =>
                rw [hs] at eA
                rw [allR_no hil eA] at h
                simp_all only [ss_nil, Nx_nil, Arm_nil, sz_0, sz_1, sz_2, sz_3, sz_4, sz_5, sz_6, sz_7, sz_8, sz_9, sz_10, sz_11, sz_12, cp_2, cp_3, cp_4, cp_5, cp_6, cp_7, cp_12, cp_20, cp_30, cp_38, cp_39, cp_40]
                (first | rw [Nx_eq] | rw [Arm_eq] | skip); (try simp_all only [ss_nil, Nx_nil, Arm_nil, sz_0, sz_1, sz_2, sz_3, sz_4, sz_5, sz_6, sz_7, sz_8, sz_9, sz_10, sz_11, sz_12, cp_2, cp_3, cp_4, cp_5, cp_6, cp_7, cp_12, cp_20, cp_30, cp_38, cp_39, cp_40])
                exact ⟨st, .rfl, h⟩
          · have e1 : (p.1 = b) = False := eq_false hq
            rw [decide_eq_false hq] at eA
            have eA : siAt (decide (k = "fresh")) a b sg n l i = true := eA
            (first | rw [Nx_eq] | rw [Arm_eq] | skip); (try simp_all only [ss_nil, Nx_nil, Arm_nil, sz_0, sz_1, sz_2, sz_3, sz_4, sz_5, sz_6, sz_7, sz_8, sz_9, sz_10, sz_11, sz_12, cp_2, cp_3, cp_4, cp_5, cp_6, cp_7, cp_12, cp_20, cp_30, cp_38, cp_39, cp_40, ↓v_neSS2, t3, ap, snv, e1])
            exact ⟨allR_succ hall eA, _, _, _, rfl⟩
        · rintro τ st ⟨rfl, hall, o4, o7, o8, rfl⟩
          refine ⟨trivial, ?_⟩
          rw [show (rngL 0 (l.length : Int).toNat).length = l.length by simp [rngL]] at hall
          rw [hall] at h
          simp_all only [ss_nil, Nx_nil, Arm_nil, sz_0, sz_1, sz_2, sz_3, sz_4, sz_5, sz_6, sz_7, sz_8, sz_9, sz_10, sz_11, sz_12, cp_2, cp_3, cp_4, cp_5, cp_6, cp_7, cp_12, cp_20, cp_30, cp_38, cp_39, cp_40]
          (first | rw [Nx_eq] | rw [Arm_eq] | skip); (try simp_all only [ss_nil, Nx_nil, Arm_nil, sz_0, sz_1, sz_2, sz_3, sz_4, sz_5, sz_6, sz_7, sz_8, sz_9, sz_10, sz_11, sz_12, cp_2, cp_3, cp_4, cp_5, cp_6, cp_7, cp_12, cp_20, cp_30, cp_38, cp_39, cp_40])
          exact ⟨st, .rfl, h⟩
  · exact h.elim
end TK

set_option maxRecDepth 100000
set_option maxHeartbeats 4000000
namespace TK
open PySem PySem.Spec PyProof.Rows L2
/-! ### what the law draws -/
def LtOk (a : Str) : Prop := a = "a" ∨ a = "bb" ∨ a = "c"
theorem lt_len {a : Str} (h : LtOk a) : a.length ≤ 1000 := by rcases h with rfl | rfl | rfl <;> decide
theorem lt_40 {a : Str} (h : LtOk a) : letB (.str a) 40 = true := by rcases h with rfl | rfl | rfl <;> decide +kernel
theorem lt_12 {a : Str} (h : LtOk a) : letB (.str a) 12 = true := by rcases h with rfl | rfl | rfl <;> decide +kernel
def DS : Sen → Prop
  | .nv a => LtOk a
  | .fi a s n => LtOk a ∧ (s = .lt ∨ s = .le) ∧ 1 ≤ n ∧ n ≤ 99
  | .two k a b s n => LtOk a ∧ LtOk b ∧ n ≤ 99 ∧ ((k = "rest" ∧ (s = .gt ∨ s = .ge)) ∨ ((k = "soon" ∨ k = "fresh") ∧ (s = .lt ∨ s = .le) ∧ 1 ≤ n))
theorem ds_ok {x : Sen} (h : DS x) : SenOk x := by
  cases x with
  | nv a => trivial
  | fi a s n => exact Nat.le_trans h.2.2.2 (by decide)
  | two k a b s n =>
    obtain ⟨_, _, h1, h2⟩ := h
    refine ⟨Nat.le_trans h1 (by decide), ?_⟩
    rcases h2 with ⟨h, _⟩ | ⟨h | h, _⟩
    · exact .inr (.inl h)
    · exact .inl h
    · exact .inr (.inr h)
theorem bnd_up {s : Sg} {n : Nat} (h : s = .lt ∨ s = .le) (h1 : 1 ≤ n) (h2 : n ≤ 99) : boundB (.str (sgS s)) (.int n) ["<", "<="] = true := by
  have w : wholeB (.int n) 0 (.int 99) = true := by
    show (decide ((0 : Int) ≤ n) && decide ((n : Int) ≤ 99)) = true
    rw [decide_eq_true (by omega), decide_eq_true (by omega)]; rfl
  have p : pos1 (.int n) = true := decide_eq_true (by omega)
  unfold boundB
  show (List.contains _ (sgS s) && wholeB (.int n) 0 (.int 99) && (!decide (sgS s = "<") || pos1 (.int n))) = true
  rw [w, p, Bool.or_true, Bool.and_true, Bool.and_true]
  rcases h with rfl | rfl <;> decide
theorem bnd_lo {s : Sg} {n : Nat} (h : s = .gt ∨ s = .ge) (h2 : n ≤ 99) : boundB (.str (sgS s)) (.int n) [">", ">="] = true := by
  have w : wholeB (.int n) 0 (.int 99) = true := by
    show (decide ((0 : Int) ≤ n) && decide ((n : Int) ≤ 99)) = true
    rw [decide_eq_true (by omega), decide_eq_true (by omega)]; rfl
  unfold boundB
  show (List.contains _ (sgS s) && wholeB (.int n) 0 (.int 99) && (!decide (sgS s = "<") || pos1 (.int n))) = true
  rw [w, Bool.and_true]
  rcases h with rfl | rfl
  · rw [decide_eq_false (show ¬ sgS .gt = ("<" : Str) by decide), Bool.not_false, Bool.true_or, Bool.and_true]; decide
  · rw [decide_eq_false (show ¬ sgS .ge = ("<" : Str) by decide), Bool.not_false, Bool.true_or, Bool.and_true]; decide
theorem ds_sent {x : Sen} (h : DS x) : sentB (senV x) = true := by
  cases x with
  | nv a =>
    show sentB (.tup (.str "never" :: .str a :: [])) = true
    rw [sent_never, lt_12 h]; rfl
  | fi a s n =>
    obtain ⟨h1, h2, h3, h4⟩ := h
    show sentB (.tup (.str "first" :: .str a :: [.str (sgS s), .int n])) = true
    obtain ⟨sg, m, e, hB⟩ := (sent_first (y := .str a) (r := [.str (sgS s), .int n])).1 rfl
    cases e
    rw [hB, lt_12 h1, bnd_up h2 h3 h4]; rfl
  | two k a b s n =>
    obtain ⟨h1, h2, h3, h4⟩ := h
    show sentB (.tup (.str k :: .str a :: [.str b, .str (sgS s), .int n])) = true
    rcases h4 with ⟨rfl, h4⟩ | ⟨hk, h4, h5⟩
    · obtain ⟨b', sg, m, e, hB⟩ := (sent_two (k := "rest") (y := .str a) (r := [.str b, .str (sgS s), .int n]) (by decide) (by decide) (.inr (.inl rfl))).1 rfl
      cases e
      rw [hB, lt_12 h1, lt_12 h2, if_pos rfl, bnd_lo h4 h3]; rfl
    · have k1 : k ≠ "never" := by rcases hk with rfl | rfl <;> decide
      have k2 : k ≠ "first" := by rcases hk with rfl | rfl <;> decide
      have k3 : k ≠ "rest" := by rcases hk with rfl | rfl <;> decide
      have k4 : k = "soon" ∨ k = "rest" ∨ k = "fresh" := hk.elim .inl fun h => .inr (.inr h)
      obtain ⟨b', sg, m, e, hB⟩ := (sent_two (k := k) (y := .str a) (r := [.str b, .str (sgS s), .int n]) k1 k2 k4).1 rfl
      cases e
      rw [hB, lt_12 h1, lt_12 h2, if_neg k3, bnd_up h4 h5 h3]; rfl
theorem sg_len (s : Sg) : (sgS s).length ≤ 1000 := by cases s <;> decide
theorem dn_s {a : Str} (h : a.length ≤ 1000) : dn (.str a) = true := decide_eq_true h
theorem dn_cons {x : PV} {r : List PV} (h : dn x = true) (k : dns r = true) : dns (x :: r) = true := by
  show (dn x && dns r) = true
  rw [h, k]; rfl
theorem ds_dn {x : Sen} (h : DS x) : dn (senV x) = true := by
  cases x with
  | nv a => exact dn_cons rfl (dn_cons (dn_s (lt_len h)) rfl)
  | fi a s n => exact dn_cons rfl (dn_cons (dn_s (lt_len h.1)) (dn_cons (dn_s (sg_len s)) rfl))
  | two k a b s n =>
    obtain ⟨h1, h2, _, h4⟩ := h
    have hk : k.length ≤ 1000 := by
      rcases h4 with ⟨rfl, _⟩ | ⟨rfl | rfl, _⟩ <;> decide
    exact dn_cons (dn_s hk) (dn_cons (dn_s (lt_len h1)) (dn_cons (dn_s (lt_len h2)) (dn_cons (dn_s (sg_len s)) rfl)))
/-! words -/
structure WdOk (l : Sns) (e : Rat) : Prop where
  len : l.length ≤ 12
  lt : ∀ p ∈ l, LtOk p.1
  bd : ∀ p ∈ l, Bd 130 p.2 ∧ 0 ≤ p.2
  be : Bd 130 e
  e0 : 0 ≤ e
  up : upB (l.map (·.2) ++ [e]) = true
theorem size_ok {r : Rat} (h : Bd 130 r) (h0 : 0 ≤ r) : sizeFin (ratV r) = true := by
  have n0 : 0 ≤ r.num := Rat.num_nonneg.mpr h0
  have d0 := dpos r
  have h1 : r.num.natAbs < 10 ^ 40 := Nat.lt_of_lt_of_le h.1 (by decide)
  have h2 : r.den < 10 ^ 40 := Nat.lt_of_lt_of_le h.2 (by decide)
  show (decide (1 ≤ (r.den : Int)) && decide (r.num.natAbs < 10 ^ 40) && decide ((r.den : Int) < 10 ^ 40) && decide (Int.gcd r.num r.den = 1) && decide (0 ≤ r.num)) = true
  rw [decide_eq_true (by omega), decide_eq_true h1, decide_eq_true (by omega), decide_eq_true (rat_gcd r), decide_eq_true n0]; rfl
theorem ratOf_ratV (r : Rat) : ratOf (ratV r) = r := by
  show Rat.divInt r.num r.den = r
  exact Rat.num_divInt_den r
theorem wd_word {l : Sns} {e : Rat} (h : WdOk l e) : wordB (wrV l e) = true := by
  have hs : (l.map snV).all signB = true := by
    rw [List.all_map, List.all_eq_true]
    intro p hp
    show (letB (.str p.1) 40 && sizeFin (ratV p.2)) = true
    rw [lt_40 (h.lt p hp), size_ok (h.bd p hp).1 (h.bd p hp).2]; rfl
  have hu : (((l.map snV).map momOf ++ [ratV e]).map ratOf) = l.map (·.2) ++ [e] := by
    rw [List.map_append, List.map_map, List.map_map]
    show _ ++ [ratOf (ratV e)] = _
    rw [ratOf_ratV]
    congr 1
    exact List.map_congr_left fun p _ => ratOf_ratV p.2
  show (decide ((l.map snV).length ≤ 12) && sizeFin (ratV e) && (l.map snV).all signB && upB (((l.map snV).map momOf ++ [ratV e]).map ratOf)) = true
  rw [hs, hu, h.up, size_ok h.be h.e0, List.length_map, decide_eq_true h.len]; rfl
theorem dns_of : ∀ {xs : List PV}, (∀ x ∈ xs, dn x = true) → dns xs = true
  | [], _ => rfl
  | x :: r, h => dn_cons (h x List.mem_cons_self) (dns_of fun y hy => h y (List.mem_cons_of_mem _ hy))
theorem wd_dn {l : Sns} {e : Rat} (h : WdOk l e) : dn (wrV l e) = true := by
  refine dn_cons ?_ rfl
  refine dns_of (xs := l.map snV) fun x hx => ?_
  obtain ⟨p, hp, rfl⟩ := List.mem_map.mp hx
  exact dn_cons (dn_s (lt_len (h.lt p hp))) rfl
theorem wd_sn {l : Sns} {e : Rat} (h : WdOk l e) : SnOk l := ⟨Nat.le_trans h.len (by decide), fun p hp => (h.bd p hp).1.mono (by decide)⟩
theorem up_last {m m' : Rat} (hm : m ≤ m') : ∀ {xs : List Rat}, upB (xs ++ [m]) = true → upB (xs ++ [m']) = true
  | [], _ => rfl
  | [x], h => by
    have h : (decide (x ≤ m) && (true && true)) = true := h
    rw [Bool.and_true, Bool.and_true, decide_eq_true_eq] at h
    show (decide (x ≤ m') && (true && true)) = true
    rw [decide_eq_true (Rat.le_trans h hm)]; rfl
  | x :: y :: r, h => by
    have h : (decide (x ≤ y) && upB (y :: r ++ [m])) = true := h
    rw [Bool.and_eq_true] at h
    show (decide (x ≤ y) && upB (y :: r ++ [m'])) = true
    rw [h.1, up_last hm h.2]; rfl
theorem up_snoc {m m' : Rat} (hm : m ≤ m') : ∀ {xs : List Rat}, upB (xs ++ [m]) = true → upB (xs ++ [m] ++ [m']) = true
  | [], _ => by
    show (decide (m ≤ m') && (true && true)) = true
    rw [decide_eq_true hm]; rfl
  | [x], h => by
    have h : (decide (x ≤ m) && (true && true)) = true := h
    rw [Bool.and_true, Bool.and_true] at h
    show (decide (x ≤ m) && (decide (m ≤ m') && (true && true))) = true
    rw [h, decide_eq_true hm]; rfl
  | x :: y :: r, h => by
    have h : (decide (x ≤ y) && upB (y :: r ++ [m])) = true := h
    rw [Bool.and_eq_true] at h
    show (decide (x ≤ y) && upB (y :: r ++ [m] ++ [m'])) = true
    rw [h.1, up_snoc hm h.2]; rfl
theorem frac {n d : Int} (hn : 0 ≤ n) (hd : 0 < d) (hg : Int.gcd n d = 1) (h1 : n.natAbs < 2 ^ 3) (h2 : d.natAbs < 2 ^ 3) : ∃ f : Rat, PV.tup [.int n, .int d] = ratV f ∧ Bd 3 f ∧ 0 ≤ f :=
  ⟨Rat.divInt n d, (cop_ratV hd hg).symm, .of_divInt (by omega) h1 h2, Rat.divInt_nonneg hn (by omega)⟩
theorem le_add {x f : Rat} (h : 0 ≤ f) : x ≤ x + f := by
  have := Rat.add_le_add_left (c := x) |>.mpr h
  rwa [Rat.add_zero] at this
theorem add_nn {x f : Rat} (h : 0 ≤ x) (k : 0 ≤ f) : 0 ≤ x + f := Rat.le_trans h (le_add k)
end TK

set_option maxRecDepth 100000
set_option maxHeartbeats 4000000
namespace TK
open PySem PySem.Spec PyProof.Rows L2
def sp__law_drawn_sentence : PSpec
  | [.ref p, .lst xs, .int most], st, Q, _ => st p = some .pool ∧ (most = 4 ∨ most = 99) ∧ xs = [.str "a", .str "bb", .str "c"] ∧ ∀ x : Sen, DS x → Q (senV x) st
  | _, _, _, _ => False
def b__law_drawn_sentence : Ss :=
  (.cons (.asg (.name 3) (.call "_law_draw" sp__law_draw (.cons (.var 0) (.cons (.int 5) .nil)))) (.cons (.asg (.name 4) (.bin .Add false (.int 1) (.call "_law_draw" sp__law_draw (.cons (.var 0) (.cons (.var 2) .nil))))) (.cons (.ite (.cmp .Eq (.var 3) (.int 0)) (.cons (.ret (.tup (.cons (.str "never") (.cons (.call "_law_pick" sp__law_pick (.cons (.var 0) (.cons (.var 1) .nil))) .nil)))) .nil) .nil) (.cons (.ite (.cmp .Eq (.var 3) (.int 1)) (.cons (.ret (.tup (.cons (.str "first") (.cons (.call "_law_pick" sp__law_pick (.cons (.var 0) (.cons (.var 1) .nil))) (.cons (.call "_law_pick" sp__law_pick (.cons (.var 0) (.cons (.lst false (.cons (.str "<") (.cons (.str "<=") .nil))) .nil))) (.cons (.var 4) .nil)))))) .nil) .nil) (.cons (.asg (.name 5) (.lst false (.cons (.call "_law_pick" sp__law_pick (.cons (.var 0) (.cons (.var 1) .nil))) (.cons (.call "_law_pick" sp__law_pick (.cons (.var 0) (.cons (.var 1) .nil))) .nil)))) (.cons (.ite (.cmp .Eq (.var 3) (.int 2)) (.cons (.ret (.tup (.cons (.str "rest") (.cons (.idx (.var 5) (.int 0)) (.cons (.idx (.var 5) (.int 1)) (.cons (.call "_law_pick" sp__law_pick (.cons (.var 0) (.cons (.lst false (.cons (.str ">") (.cons (.str ">=") .nil))) .nil))) (.cons (.bin .Sub false (.var 4) (.call "_law_draw" sp__law_draw (.cons (.var 0) (.cons (.int 2) .nil)))) .nil))))))) .nil) .nil) (.cons (.ret (.tup (.cons (.idx (.lst false (.cons (.str "soon") (.cons (.str "fresh") .nil))) (.bin .Sub false (.var 3) (.int 3))) (.cons (.idx (.var 5) (.int 0)) (.cons (.idx (.var 5) (.int 1)) (.cons (.call "_law_pick" sp__law_pick (.cons (.var 0) (.cons (.lst false (.cons (.str "<") (.cons (.str "<=") .nil))) .nil))) (.cons (.var 4) .nil))))))) .nil)))))))
def n__law_drawn_sentence : List Str := ["pool", "letters", "most", "kind", "number", "two"]
theorem pick_lt {i : Nat} {v : PV} (h : ([.str "a", .str "bb", .str "c"] : List PV)[i]? = some v) : ∃ a : Str, v = .str a ∧ LtOk a := by
  have := List.mem_of_getElem? h
  simp only [List.mem_cons, List.not_mem_nil, or_false] at this
  rcases this with e | e | e
  · exact ⟨_, e, .inl rfl⟩
  · exact ⟨_, e, .inr (.inl rfl)⟩
  · exact ⟨_, e, .inr (.inr rfl)⟩
theorem pick_up {i : Nat} {v : PV} (h : ([.str "<", .str "<="] : List PV)[i]? = some v) : ∃ s : Sg, v = .str (sgS s) ∧ (s = .lt ∨ s = .le) := by
  have := List.mem_of_getElem? h
  simp only [List.mem_cons, List.not_mem_nil, or_false] at this
  rcases this with e | e
  · exact ⟨.lt, e, .inl rfl⟩
  · exact ⟨.le, e, .inr rfl⟩
theorem pick_lo {i : Nat} {v : PV} (h : ([.str ">", .str ">="] : List PV)[i]? = some v) : ∃ s : Sg, v = .str (sgS s) ∧ (s = .gt ∨ s = .ge) := by
  have := List.mem_of_getElem? h
  simp only [List.mem_cons, List.not_mem_nil, or_false] at this
  rcases this with e | e
  · exact ⟨.gt, e, .inl rfl⟩
  · exact ⟨.ge, e, .inr rfl⟩
theorem w__law_drawn_sentence : ∀ vs s Q X, vs.length = 3 → sp__law_drawn_sentence vs s Q X → wpFn n__law_drawn_sentence.length b__law_drawn_sentence vs s Q X := by
  intro vs s Q X hl h
  unfold sp__law_drawn_sentence at h
  split at h
  · rename_i p xs most
    rw [fn_eq]
    unfold b__law_drawn_sentence n__law_drawn_sentence
    obtain ⟨hp, hm, rfl, h⟩ := h
    have l3 : ([.str "a", .str "bb", .str "c"] : List PV).length ≤ 10 ^ 9 := by simp only [List.length_cons, List.length_nil]; decide
    have l2 : ∀ a b : PV, ([a, b] : List PV).length ≤ 10 ^ 9 := fun a b => by simp only [List.length_cons, List.length_nil]; decide
    simp_all only [ss_nil, Nx_nil, Arm_nil, sz_0, sz_1, sz_2, sz_3, sz_4, sz_5, sz_6, sz_7, sz_8, sz_9, sz_10, sz_11, sz_12, cp_2, cp_3, cp_4, cp_5, cp_6, cp_7, cp_12, cp_20, cp_30, cp_38, cp_39, cp_40]
    refine callS_of ⟨hp, .of (by decide), fun k k0 k1 _ => ?_⟩
    have k1 := k1 (by decide)
    simp_all only [ss_nil, Nx_nil, Arm_nil, sz_0, sz_1, sz_2, sz_3, sz_4, sz_5, sz_6, sz_7, sz_8, sz_9, sz_10, sz_11, sz_12, cp_2, cp_3, cp_4, cp_5, cp_6, cp_7, cp_12, cp_20, cp_30, cp_38, cp_39, cp_40]
    (first | rw [Nx_eq] | rw [Arm_eq] | skip); (try simp_all only [ss_nil, Nx_nil, Arm_nil, sz_0, sz_1, sz_2, sz_3, sz_4, sz_5, sz_6, sz_7, sz_8, sz_9, sz_10, sz_11, sz_12, cp_2, cp_3, cp_4, cp_5, cp_6, cp_7, cp_12, cp_20, cp_30, cp_38, cp_39, cp_40])
    refine callS_of ⟨hp, .of (by omega), fun m m0 m1 _ => ?_⟩
    have m1 := m1 (by omega)
    obtain ⟨n, hn⟩ : ∃ n : Nat, 1 + m = (n : Int) := ⟨(1 + m).toNat, by omega⟩
    have n1 : 1 ≤ n := by omega
    have n2 : n ≤ 99 := by omega
    simp_all only [ss_nil, Nx_nil, Arm_nil, sz_0, sz_1, sz_2, sz_3, sz_4, sz_5, sz_6, sz_7, sz_8, sz_9, sz_10, sz_11, sz_12, cp_2, cp_3, cp_4, cp_5, cp_6, cp_7, cp_12, cp_20, cp_30, cp_38, cp_39, cp_40, hn]
    by_cases h0 : k = 0
    · have e0 : (k = 0) = True := eq_true h0
      (first | rw [Nx_eq] | rw [Arm_eq] | skip); (try simp_all only [ss_nil, Nx_nil, Arm_nil, sz_0, sz_1, sz_2, sz_3, sz_4, sz_5, sz_6, sz_7, sz_8, sz_9, sz_10, sz_11, sz_12, cp_2, cp_3, cp_4, cp_5, cp_6, cp_7, cp_12, cp_20, cp_30, cp_38, cp_39, cp_40, e0])
      (first | rw [Nx_eq] | rw [Arm_eq] | skip); (try simp_all only [ss_nil, Nx_nil, Arm_nil, sz_0, sz_1, sz_2, sz_3, sz_4, sz_5, sz_6, sz_7, sz_8, sz_9, sz_10, sz_11, sz_12, cp_2, cp_3, cp_4, cp_5, cp_6, cp_7, cp_12, cp_20, cp_30, cp_38, cp_39, cp_40])
      refine callS_of ⟨hp, by simp, l3, fun i v hv => ?_⟩
      obtain ⟨a, rfl, ha⟩ := pick_lt hv
      simp_all only [ss_nil, Nx_nil, Arm_nil, sz_0, sz_1, sz_2, sz_3, sz_4, sz_5, sz_6, sz_7, sz_8, sz_9, sz_10, sz_11, sz_12, cp_2, cp_3, cp_4, cp_5, cp_6, cp_7, cp_12, cp_20, cp_30, cp_38, cp_39, cp_40]
      exact ⟨s, .rfl, h (.nv a) ha⟩
    · have e0 : (k = 0) = False := eq_false h0
      (first | rw [Nx_eq] | rw [Arm_eq] | skip); (try simp_all only [ss_nil, Nx_nil, Arm_nil, sz_0, sz_1, sz_2, sz_3, sz_4, sz_5, sz_6, sz_7, sz_8, sz_9, sz_10, sz_11, sz_12, cp_2, cp_3, cp_4, cp_5, cp_6, cp_7, cp_12, cp_20, cp_30, cp_38, cp_39, cp_40, e0])
      by_cases h1 : k = 1
      · have e1 : (k = 1) = True := eq_true h1
        (first | rw [Nx_eq] | rw [Arm_eq] | skip); (try simp_all only [ss_nil, Nx_nil, Arm_nil, sz_0, sz_1, sz_2, sz_3, sz_4, sz_5, sz_6, sz_7, sz_8, sz_9, sz_10, sz_11, sz_12, cp_2, cp_3, cp_4, cp_5, cp_6, cp_7, cp_12, cp_20, cp_30, cp_38, cp_39, cp_40, e1])
        (first | rw [Nx_eq] | rw [Arm_eq] | skip); (try simp_all only [ss_nil, Nx_nil, Arm_nil, sz_0, sz_1, sz_2, sz_3, sz_4, sz_5, sz_6, sz_7, sz_8, sz_9, sz_10, sz_11, sz_12, cp_2, cp_3, cp_4, cp_5, cp_6, cp_7, cp_12, cp_20, cp_30, cp_38, cp_39, cp_40])
        refine callS_of ⟨hp, by simp, l3, fun i v hv => ?_⟩
        obtain ⟨a, rfl, ha⟩ := pick_lt hv
        simp_all only [ss_nil, Nx_nil, Arm_nil, sz_0, sz_1, sz_2, sz_3, sz_4, sz_5, sz_6, sz_7, sz_8, sz_9, sz_10, sz_11, sz_12, cp_2, cp_3, cp_4, cp_5, cp_6, cp_7, cp_12, cp_20, cp_30, cp_38, cp_39, cp_40]
        refine callS_of ⟨hp, by simp, l2 _ _, fun i v hv => ?_⟩
        obtain ⟨sg, rfl, hs⟩ := pick_up hv
        simp_all only [ss_nil, Nx_nil, Arm_nil, sz_0, sz_1, sz_2, sz_3, sz_4, sz_5, sz_6, sz_7, sz_8, sz_9, sz_10, sz_11, sz_12, cp_2, cp_3, cp_4, cp_5, cp_6, cp_7, cp_12, cp_20, cp_30, cp_38, cp_39, cp_40]
        exact ⟨s, .rfl, h (.fi a sg n) ⟨ha, hs, n1, n2⟩⟩
      · have e1 : (k = 1) = False := eq_false h1
        (first | rw [Nx_eq] | rw [Arm_eq] | skip); (try simp_all only [ss_nil, Nx_nil, Arm_nil, sz_0, sz_1, sz_2, sz_3, sz_4, sz_5, sz_6, sz_7, sz_8, sz_9, sz_10, sz_11, sz_12, cp_2, cp_3, cp_4, cp_5, cp_6, cp_7, cp_12, cp_20, cp_30, cp_38, cp_39, cp_40, e1])
        (first | rw [Nx_eq] | rw [Arm_eq] | skip); (try simp_all only [ss_nil, Nx_nil, Arm_nil, sz_0, sz_1, sz_2, sz_3, sz_4, sz_5, sz_6, sz_7, sz_8, sz_9, sz_10, sz_11, sz_12, cp_2, cp_3, cp_4, cp_5, cp_6, cp_7, cp_12, cp_20, cp_30, cp_38, cp_39, cp_40])
        refine callS_of ⟨hp, by simp, l3, fun i v hv => ?_⟩
        obtain ⟨a, rfl, ha⟩ := pick_lt hv
        simp_all only [ss_nil, Nx_nil, Arm_nil, sz_0, sz_1, sz_2, sz_3, sz_4, sz_5, sz_6, sz_7, sz_8, sz_9, sz_10, sz_11, sz_12, cp_2, cp_3, cp_4, cp_5, cp_6, cp_7, cp_12, cp_20, cp_30, cp_38, cp_39, cp_40]
        refine callS_of ⟨hp, by simp, l3, fun i v hv => ?_⟩
        obtain ⟨b, rfl, hb⟩ := pick_lt hv
        simp_all only [ss_nil, Nx_nil, Arm_nil, sz_0, sz_1, sz_2, sz_3, sz_4, sz_5, sz_6, sz_7, sz_8, sz_9, sz_10, sz_11, sz_12, cp_2, cp_3, cp_4, cp_5, cp_6, cp_7, cp_12, cp_20, cp_30, cp_38, cp_39, cp_40]
        by_cases h2 : k = 2
        · have e2 : (k = 2) = True := eq_true h2
          (first | rw [Nx_eq] | rw [Arm_eq] | skip); (try simp_all only [ss_nil, Nx_nil, Arm_nil, sz_0, sz_1, sz_2, sz_3, sz_4, sz_5, sz_6, sz_7, sz_8, sz_9, sz_10, sz_11, sz_12, cp_2, cp_3, cp_4, cp_5, cp_6, cp_7, cp_12, cp_20, cp_30, cp_38, cp_39, cp_40, e2])
          (first | rw [Nx_eq] | rw [Arm_eq] | skip); (try simp_all only [ss_nil, Nx_nil, Arm_nil, sz_0, sz_1, sz_2, sz_3, sz_4, sz_5, sz_6, sz_7, sz_8, sz_9, sz_10, sz_11, sz_12, cp_2, cp_3, cp_4, cp_5, cp_6, cp_7, cp_12, cp_20, cp_30, cp_38, cp_39, cp_40])
          refine callS_of ⟨hp, by simp, l2 _ _, fun i v hv => ?_⟩
          obtain ⟨sg, rfl, hs⟩ := pick_lo hv
          simp_all only [ss_nil, Nx_nil, Arm_nil, sz_0, sz_1, sz_2, sz_3, sz_4, sz_5, sz_6, sz_7, sz_8, sz_9, sz_10, sz_11, sz_12, cp_2, cp_3, cp_4, cp_5, cp_6, cp_7, cp_12, cp_20, cp_30, cp_38, cp_39, cp_40]
          refine callS_of ⟨hp, .of (by decide), fun u u0 u1 _ => ?_⟩
          have u1 := u1 (by decide)
          obtain ⟨n', hn'⟩ : ∃ n' : Nat, (n : Int) - u = (n' : Int) := ⟨((n : Int) - u).toNat, by omega⟩
          simp_all only [ss_nil, Nx_nil, Arm_nil, sz_0, sz_1, sz_2, sz_3, sz_4, sz_5, sz_6, sz_7, sz_8, sz_9, sz_10, sz_11, sz_12, cp_2, cp_3, cp_4, cp_5, cp_6, cp_7, cp_12, cp_20, cp_30, cp_38, cp_39, cp_40, hn']
          exact ⟨s, .rfl, h (.two "rest" a b sg n') ⟨ha, hb, by omega, .inl ⟨rfl, hs⟩⟩⟩
        · have e2 : (k = 2) = False := eq_false h2
          have hk : k = 3 ∨ k = 4 := by omega
          (first | rw [Nx_eq] | rw [Arm_eq] | skip); (try simp_all only [ss_nil, Nx_nil, Arm_nil, sz_0, sz_1, sz_2, sz_3, sz_4, sz_5, sz_6, sz_7, sz_8, sz_9, sz_10, sz_11, sz_12, cp_2, cp_3, cp_4, cp_5, cp_6, cp_7, cp_12, cp_20, cp_30, cp_38, cp_39, cp_40, e2])
          have fin : ∀ kk : Str, (kk = "soon" ∨ kk = "fresh") → atI [PV.str "soon", .str "fresh"] (k - 3) = some (.str kk) → Nx (.cons (.ret (.tup (.cons (.idx (.lst false (.cons (.str "soon") (.cons (.str "fresh") .nil))) (.bin .Sub false (.var 3) (.int 3))) (.cons (.idx (.var 5) (.int 0)) (.cons (.idx (.var 5) (.int 1)) (.cons (.call "_law_pick" sp__law_pick (.cons (.var 0) (.cons (.lst false (.cons (.str "<") (.cons (.str "<=") .nil))) .nil))) (.cons (.var 4) .nil))))))) .nil) (fnEnds Q X)
              [some (.ref p), some (.lst [.str "a", .str "bb", .str "c"]), some (.int most), some (.int k), some (.int n), some (.lst [.str a, .str b])] s := by
            intro kk hkk hat
            (first | rw [Nx_eq] | rw [Arm_eq] | skip); (try simp_all only [ss_nil, Nx_nil, Arm_nil, sz_0, sz_1, sz_2, sz_3, sz_4, sz_5, sz_6, sz_7, sz_8, sz_9, sz_10, sz_11, sz_12, cp_2, cp_3, cp_4, cp_5, cp_6, cp_7, cp_12, cp_20, cp_30, cp_38, cp_39, cp_40, hat])
            refine callS_of ⟨hp, by simp, l2 _ _, fun i v hv => ?_⟩
            obtain ⟨sg, rfl, hs⟩ := pick_up hv
            simp_all only [ss_nil, Nx_nil, Arm_nil, sz_0, sz_1, sz_2, sz_3, sz_4, sz_5, sz_6, sz_7, sz_8, sz_9, sz_10, sz_11, sz_12, cp_2, cp_3, cp_4, cp_5, cp_6, cp_7, cp_12, cp_20, cp_30, cp_38, cp_39, cp_40]
            exact ⟨s, .rfl, h (.two kk a b sg n) ⟨ha, hb, n2, .inr ⟨hkk, hs, n1⟩⟩⟩
          rcases hk with rfl | rfl
          · exact fin "soon" (.inl rfl) atI_0
          · exact fin "fresh" (.inr rfl) atI_1
  · exact h.elim
def sp__law_drawn_word : PSpec
  | [.ref p, .lst xs, .int many], st, Q, _ => st p = some .pool ∧ 0 ≤ many ∧ many ≤ 12 ∧ xs ≠ [] ∧ xs.length ≤ 10 ^ 9 ∧ (∀ x ∈ xs, ∃ a : Str, x = .str a ∧ LtOk a) ∧ ∀ (l : Sns) (e : Rat), WdOk l e → Q (wrV l e) st
  | _, _, _, _ => False
def b__law_drawn_word_1 : Ss :=
  (.cons (.asg (.name 3) (.call "_law_plus" sp__law_plus (.cons (.var 3) (.cons (.call "_law_pick" sp__law_pick (.cons (.var 0) (.cons (.lst false (.cons (.tup (.cons (.int 0) (.cons (.int 1) .nil))) (.cons (.tup (.cons (.int 0) (.cons (.int 1) .nil))) (.cons (.tup (.cons (.int 1) (.cons (.int 2) .nil))) (.cons (.tup (.cons (.int 1) (.cons (.int 1) .nil))) (.cons (.tup (.cons (.int 1) (.cons (.int 3) .nil))) (.cons (.tup (.cons (.int 2) (.cons (.int 1) .nil))) (.cons (.tup (.cons (.int 3) (.cons (.int 2) .nil))) .nil)))))))) .nil))) .nil)))) (.cons (.expr (.meth .append (.var 4) (.cons (.tup (.cons (.call "_law_pick" sp__law_pick (.cons (.var 0) (.cons (.var 1) .nil))) (.cons (.var 3) .nil))) .nil))) .nil))
def b__law_drawn_word : Ss :=
  (.cons (.asg (.name 3) (.tup (.cons (.int 0) (.cons (.int 1) .nil)))) (.cons (.asg (.name 4) (.lst true .nil)) (.cons (.loop (.name 5) (.range1 (.var 2)) b__law_drawn_word_1) (.cons (.asg (.name 6) (.call "_law_plus" sp__law_plus (.cons (.var 3) (.cons (.call "_law_pick" sp__law_pick (.cons (.var 0) (.cons (.lst false (.cons (.tup (.cons (.int 0) (.cons (.int 1) .nil))) (.cons (.tup (.cons (.int 0) (.cons (.int 1) .nil))) (.cons (.tup (.cons (.int 1) (.cons (.int 2) .nil))) (.cons (.tup (.cons (.int 1) (.cons (.int 1) .nil))) (.cons (.tup (.cons (.int 2) (.cons (.int 1) .nil))) (.cons (.tup (.cons (.int 4) (.cons (.int 1) .nil))) .nil))))))) .nil))) .nil)))) (.cons (.ret (.tup (.cons (.blt .tuple false (.cons (.var 4) .nil)) (.cons (.var 6) .nil)))) .nil)))))
def n__law_drawn_word : List Str := ["pool", "letters", "many", "moment", "signs", "k", "end"]
theorem w__law_drawn_word : ∀ vs s Q X, vs.length = 3 → sp__law_drawn_word vs s Q X → wpFn n__law_drawn_word.length b__law_drawn_word vs s Q X := by
  intro vs s Q X hl h
  unfold sp__law_drawn_word at h
  split at h
  · rename_i p xs many
    rw [fn_eq]
    unfold b__law_drawn_word n__law_drawn_word
    obtain ⟨hp, m0, m1, xne, xl, xlt, h⟩ := h
    have sz : 1000 ≤ sizeLine := by decide
    have r0 : PV.tup [.int 0, .int 1] = ratV 0 := rfl
    simp_all only [ss_nil, Nx_nil, Arm_nil, sz_0, sz_1, sz_2, sz_3, sz_4, sz_5, sz_6, sz_7, sz_8, sz_9, sz_10, sz_11, sz_12, cp_2, cp_3, cp_4, cp_5, cp_6, cp_7, cp_12, cp_20, cp_30, cp_38, cp_39, cp_40]
    (first | rw [Nx_eq] | rw [Arm_eq] | skip); (try simp_all only [ss_nil, Nx_nil, Arm_nil, sz_0, sz_1, sz_2, sz_3, sz_4, sz_5, sz_6, sz_7, sz_8, sz_9, sz_10, sz_11, sz_12, cp_2, cp_3, cp_4, cp_5, cp_6, cp_7, cp_12, cp_20, cp_30, cp_38, cp_39, cp_40])
    intro q hq
    have pq : p ≠ q := fun e => by rw [← e, hp] at hq; cases hq
    have hpu : ∀ c, up s q c p = some .pool := fun c => by rw [up_ne pq]; exact hp
    (first | rw [Nx_eq] | rw [Arm_eq] | skip); (try simp_all only [ss_nil, Nx_nil, Arm_nil, sz_0, sz_1, sz_2, sz_3, sz_4, sz_5, sz_6, sz_7, sz_8, sz_9, sz_10, sz_11, sz_12, cp_2, cp_3, cp_4, cp_5, cp_6, cp_7, cp_12, cp_20, cp_30, cp_38, cp_39, cp_40])
    refine ⟨by unfold R62; omega, ?_⟩
    refine for_at (fun i τ st => ∃ (o5 : Option PV) (l : Sns) (m : Rat), τ = [some (.ref p), some (.lst xs), some (.int many), some (ratV m), some (.ref q), o5, none] ∧ st = up s q (some (.lst (l.map snV))) ∧ l.length = i ∧ i ≤ 12 ∧ (∀ p ∈ l, LtOk p.1) ∧ (∀ p ∈ l, Bd 130 p.2 ∧ 0 ≤ p.2) ∧ Bd (4 * i + 1) m ∧ 0 ≤ m ∧ upB (l.map (·.2) ++ [m]) = true) ?_ ?_
      ⟨_, [], 0, rfl, rfl, rfl, Nat.zero_le _, fun _ h => (nomatch h), fun _ h => (nomatch h), ⟨by decide, by decide⟩, Rat.le_refl, rfl⟩
    · rintro i v τ st hi ⟨o5, l, m, rfl, rfl, hlen, hi12, hlt, hbd, hmb, hm0, hup⟩
      have him : i < 12 := by
        have := (List.getElem?_eq_some_iff.mp hi).1
        simp [rngL] at this
        omega
      refine ⟨trivial, ?_⟩
      unfold b__law_drawn_word_1
      simp_all only [ss_nil, Nx_nil, Arm_nil, sz_0, sz_1, sz_2, sz_3, sz_4, sz_5, sz_6, sz_7, sz_8, sz_9, sz_10, sz_11, sz_12, cp_2, cp_3, cp_4, cp_5, cp_6, cp_7, cp_12, cp_20, cp_30, cp_38, cp_39, cp_40]
      refine callS_of ⟨hpu _, by simp, by simp only [List.length_cons, List.length_nil]; decide, fun j v hv => ?_⟩
      have hf : ∃ f : Rat, v = ratV f ∧ Bd 3 f ∧ 0 ≤ f := by
        have := List.mem_of_getElem? hv
        simp only [List.mem_cons, List.not_mem_nil, or_false] at this
        rcases this with e | e | e | e | e | e | e <;> (subst e; exact frac (by decide) (by decide) (by decide) (by decide) (by decide))
      obtain ⟨f, rfl, fb, f0⟩ := hf
      have mb' := hmb.add fb
      have mb3 : Bd 130 (m + f) := mb'.mono (by omega)
      simp_all only [ss_nil, Nx_nil, Arm_nil, sz_0, sz_1, sz_2, sz_3, sz_4, sz_5, sz_6, sz_7, sz_8, sz_9, sz_10, sz_11, sz_12, cp_2, cp_3, cp_4, cp_5, cp_6, cp_7, cp_12, cp_20, cp_30, cp_38, cp_39, cp_40]
      refine callS_of ⟨m, f, (hmb.mono (by omega)).fr, (fb.mono (by decide)).fr, ?_⟩
      simp_all only [ss_nil, Nx_nil, Arm_nil, sz_0, sz_1, sz_2, sz_3, sz_4, sz_5, sz_6, sz_7, sz_8, sz_9, sz_10, sz_11, sz_12, cp_2, cp_3, cp_4, cp_5, cp_6, cp_7, cp_12, cp_20, cp_30, cp_38, cp_39, cp_40]
      (first | rw [Nx_eq] | rw [Arm_eq] | skip); (try simp_all only [ss_nil, Nx_nil, Arm_nil, sz_0, sz_1, sz_2, sz_3, sz_4, sz_5, sz_6, sz_7, sz_8, sz_9, sz_10, sz_11, sz_12, cp_2, cp_3, cp_4, cp_5, cp_6, cp_7, cp_12, cp_20, cp_30, cp_38, cp_39, cp_40])
      refine callS_of ⟨hpu _, xne, xl, fun j v hv => ?_⟩
      obtain ⟨a, rfl, ha⟩ := xlt v (List.mem_of_getElem? hv)
      simp_all only [ss_nil, Nx_nil, Arm_nil, sz_0, sz_1, sz_2, sz_3, sz_4, sz_5, sz_6, sz_7, sz_8, sz_9, sz_10, sz_11, sz_12, cp_2, cp_3, cp_4, cp_5, cp_6, cp_7, cp_12, cp_20, cp_30, cp_38, cp_39, cp_40, up_up, List.length_map]
      refine ⟨by omega, _, l ++ [(a, m + f)], m + f, rfl, ?_, by rw [List.length_append, hlen]; rfl, by omega, fun p hp => ?_, fun p hp => ?_, mb'.mono (by omega), add_nn hm0 f0, ?_⟩
      · rw [List.map_append]; rfl
      · rcases List.mem_append.mp hp with hp | hp
        · exact hlt p hp
        · rw [List.mem_singleton.mp hp]; exact ha
      · rcases List.mem_append.mp hp with hp | hp
        · exact hbd p hp
        · rw [List.mem_singleton.mp hp]; exact ⟨mb3, add_nn hm0 f0⟩
      · rw [List.map_append]
        exact up_snoc Rat.le_refl (up_last (le_add f0) hup)
    · rintro τ st ⟨o5, l, m, rfl, rfl, hlen, hi12, hlt, hbd, hmb, hm0, hup⟩
      refine ⟨trivial, ?_⟩
      rw [show (rngL 0 many.toNat).length = many.toNat by simp [rngL]] at hlen hmb
      simp_all only [ss_nil, Nx_nil, Arm_nil, sz_0, sz_1, sz_2, sz_3, sz_4, sz_5, sz_6, sz_7, sz_8, sz_9, sz_10, sz_11, sz_12, cp_2, cp_3, cp_4, cp_5, cp_6, cp_7, cp_12, cp_20, cp_30, cp_38, cp_39, cp_40]
      (first | rw [Nx_eq] | rw [Arm_eq] | skip); (try simp_all only [ss_nil, Nx_nil, Arm_nil, sz_0, sz_1, sz_2, sz_3, sz_4, sz_5, sz_6, sz_7, sz_8, sz_9, sz_10, sz_11, sz_12, cp_2, cp_3, cp_4, cp_5, cp_6, cp_7, cp_12, cp_20, cp_30, cp_38, cp_39, cp_40])
      refine callS_of ⟨hpu _, by simp, by simp only [List.length_cons, List.length_nil]; decide, fun j v hv => ?_⟩
      have hf : ∃ f : Rat, v = ratV f ∧ Bd 3 f ∧ 0 ≤ f := by
        have := List.mem_of_getElem? hv
        simp only [List.mem_cons, List.not_mem_nil, or_false] at this
        rcases this with e | e | e | e | e | e <;> (subst e; exact frac (by decide) (by decide) (by decide) (by decide) (by decide))
      obtain ⟨f, rfl, fb, f0⟩ := hf
      have mb' := hmb.add fb
      simp_all only [ss_nil, Nx_nil, Arm_nil, sz_0, sz_1, sz_2, sz_3, sz_4, sz_5, sz_6, sz_7, sz_8, sz_9, sz_10, sz_11, sz_12, cp_2, cp_3, cp_4, cp_5, cp_6, cp_7, cp_12, cp_20, cp_30, cp_38, cp_39, cp_40]
      refine callS_of ⟨m, f, (hmb.mono (by omega)).fr, (fb.mono (by decide)).fr, ?_⟩
      simp_all only [ss_nil, Nx_nil, Arm_nil, sz_0, sz_1, sz_2, sz_3, sz_4, sz_5, sz_6, sz_7, sz_8, sz_9, sz_10, sz_11, sz_12, cp_2, cp_3, cp_4, cp_5, cp_6, cp_7, cp_12, cp_20, cp_30, cp_38, cp_39, cp_40]
      (first | rw [Nx_eq] | rw [Arm_eq] | skip); (try simp_all only [ss_nil, Nx_nil, Arm_nil, sz_0, sz_1, sz_2, sz_3, sz_4, sz_5, sz_6, sz_7, sz_8, sz_9, sz_10, sz_11, sz_12, cp_2, cp_3, cp_4, cp_5, cp_6, cp_7, cp_12, cp_20, cp_30, cp_38, cp_39, cp_40])
      exact ⟨s, sub_new hq, h l (m + f) ⟨by omega, hlt, hbd, mb'.mono (by omega), add_nn hm0 f0, up_last (le_add f0) hup⟩⟩
  · exact h.elim
end TK

set_option maxRecDepth 100000
set_option maxHeartbeats 4000000
namespace TK
open PySem PySem.Spec PyProof.Rows L2
def sp__law_border_word : PSpec
  | [.ref p, v], st, Q, _ => st p = some .pool ∧ ∃ x : Sen, v = senV x ∧ DS x ∧ ∀ (l : Sns) (e : Rat), WdOk l e → Q (wrV l e) st
  | _, _, _, _ => False
def b__law_border_word : Ss :=
  (.cons (.ite (.cmp .Eq (.idx (.var 1) (.int 0)) (.str "never")) (.cons (.ret (.call "_law_drawn_word" sp__law_drawn_word (.cons (.var 0) (.cons (.lst false (.cons (.idx (.var 1) (.int 1)) (.cons (.str "c") .nil))) (.cons (.int 3) .nil))))) .nil) .nil) (.cons (.asg (.name 2) (.idx (.var 1) (.neg (.int 1)))) (.cons (.asg (.name 3) (.call "_law_pick" sp__law_pick (.cons (.var 0) (.cons (.lst false (.cons (.tup (.cons (.int 0) (.cons (.int 1) .nil))) (.cons (.tup (.cons (.int 0) (.cons (.int 1) .nil))) (.cons (.tup (.cons (.int 1) (.cons (.int 7) .nil))) (.cons (.tup (.cons (.neg (.int 1)) (.cons (.int 7) .nil))) .nil))))) .nil)))) (.cons (.asg (.name 4) (.ite (.cmp .Gt (.var 2) (.int 0)) (.call "_law_plus" sp__law_plus (.cons (.tup (.cons (.var 2) (.cons (.int 1) .nil))) (.cons (.var 3) .nil))) (.tup (.cons (.int 0) (.cons (.int 1) .nil))))) (.cons (.asg (.name 5) (.call "_law_pick" sp__law_pick (.cons (.var 0) (.cons (.lst false (.cons (.tup (.cons (.int 0) (.cons (.int 1) .nil))) (.cons (.tup (.cons (.int 1) (.cons (.int 2) .nil))) .nil))) .nil)))) (.cons (.asg (.name 6) (.call "_law_plus" sp__law_plus (.cons (.var 5) (.cons (.var 4) .nil)))) (.cons (.asg (.name 7) (.call "_law_plus" sp__law_plus (.cons (.var 6) (.cons (.call "_law_pick" sp__law_pick (.cons (.var 0) (.cons (.lst false (.cons (.tup (.cons (.int 0) (.cons (.int 1) .nil))) (.cons (.tup (.cons (.int 1) (.cons (.int 1) .nil))) .nil))) .nil))) .nil)))) (.cons (.ite (.cmp .Eq (.idx (.var 1) (.int 0)) (.str "first")) (.cons (.ret (.tup (.cons (.tup (.cons (.tup (.cons (.idx (.var 1) (.int 1)) (.cons (.var 4) .nil))) .nil)) (.cons (.call "_law_plus" sp__law_plus (.cons (.var 4) (.cons (.call "_law_pick" sp__law_pick (.cons (.var 0) (.cons (.lst false (.cons (.tup (.cons (.int 0) (.cons (.int 1) .nil))) (.cons (.tup (.cons (.int 1) (.cons (.int 1) .nil))) .nil))) .nil))) .nil))) .nil)))) .nil) .nil) (.cons (.ite (.cmp .Eq (.call "_law_draw" sp__law_draw (.cons (.var 0) (.cons (.int 3) .nil))) (.int 0)) (.cons (.ret (.tup (.cons (.tup (.cons (.tup (.cons (.idx (.var 1) (.int 1)) (.cons (.var 5) .nil))) .nil)) (.cons (.var 6) .nil)))) .nil) .nil) (.cons (.ret (.tup (.cons (.tup (.cons (.tup (.cons (.idx (.var 1) (.int 1)) (.cons (.var 5) .nil))) (.cons (.tup (.cons (.idx (.var 1) (.int 2)) (.cons (.var 6) .nil))) .nil))) (.cons (.var 7) .nil)))) .nil))))))))))
def n__law_border_word : List Str := ["pool", "sentence", "number", "slip", "span", "first", "second", "end"]
def b_border_tail : Ss :=
  (.cons (.asg (.name 5) (.call "_law_pick" sp__law_pick (.cons (.var 0) (.cons (.lst false (.cons (.tup (.cons (.int 0) (.cons (.int 1) .nil))) (.cons (.tup (.cons (.int 1) (.cons (.int 2) .nil))) .nil))) .nil)))) (.cons (.asg (.name 6) (.call "_law_plus" sp__law_plus (.cons (.var 5) (.cons (.var 4) .nil)))) (.cons (.asg (.name 7) (.call "_law_plus" sp__law_plus (.cons (.var 6) (.cons (.call "_law_pick" sp__law_pick (.cons (.var 0) (.cons (.lst false (.cons (.tup (.cons (.int 0) (.cons (.int 1) .nil))) (.cons (.tup (.cons (.int 1) (.cons (.int 1) .nil))) .nil))) .nil))) .nil)))) (.cons (.ite (.cmp .Eq (.idx (.var 1) (.int 0)) (.str "first")) (.cons (.ret (.tup (.cons (.tup (.cons (.tup (.cons (.idx (.var 1) (.int 1)) (.cons (.var 4) .nil))) .nil)) (.cons (.call "_law_plus" sp__law_plus (.cons (.var 4) (.cons (.call "_law_pick" sp__law_pick (.cons (.var 0) (.cons (.lst false (.cons (.tup (.cons (.int 0) (.cons (.int 1) .nil))) (.cons (.tup (.cons (.int 1) (.cons (.int 1) .nil))) .nil))) .nil))) .nil))) .nil)))) .nil) .nil) (.cons (.ite (.cmp .Eq (.call "_law_draw" sp__law_draw (.cons (.var 0) (.cons (.int 3) .nil))) (.int 0)) (.cons (.ret (.tup (.cons (.tup (.cons (.tup (.cons (.idx (.var 1) (.int 1)) (.cons (.var 5) .nil))) .nil)) (.cons (.var 6) .nil)))) .nil) .nil) (.cons (.ret (.tup (.cons (.tup (.cons (.tup (.cons (.idx (.var 1) (.int 1)) (.cons (.var 5) .nil))) (.cons (.tup (.cons (.idx (.var 1) (.int 2)) (.cons (.var 6) .nil))) .nil))) (.cons (.var 7) .nil)))) .nil))))))
theorem fr2 {i : Nat} {v : PV} {d : Int} (hd : d = 1 ∨ d = 2) (h : ([.tup [.int 0, .int 1], .tup [.int 1, .int d]] : List PV)[i]? = some v) : ∃ f : Rat, v = ratV f ∧ Bd 3 f ∧ 0 ≤ f := by
  have := List.mem_of_getElem? h
  simp only [List.mem_cons, List.not_mem_nil, or_false] at this
  rcases this with e | e
  · subst e; exact frac (by decide) (by decide) (by decide) (by decide) (by decide)
  · subst e
    rcases hd with rfl | rfl <;> exact frac (by decide) (by decide) (by decide) (by decide) (by decide)
theorem border_tail {p : Nat} {s : Store} {Q : PV → Store → Prop} {X : Exn → Store → Prop} {xs : List PV} {k a : Str} {o2 o3 : Option PV} {sp : Rat} (hp : s p = some .pool) (a0 : atI xs 0 = some (.str k)) (a1 : atI xs 1 = some (.str a)) (ha : LtOk a)
    (hb : k = "first" ∨ (k ≠ "first" ∧ ∃ b : Str, atI xs 2 = some (.str b) ∧ LtOk b)) (h : ∀ (l : Sns) (e : Rat), WdOk l e → Q (wrV l e) s) (hsp : Bd 11 sp) (h0 : 0 ≤ sp) :
    Nx b_border_tail (fnEnds Q X) [some (.ref p), some (.tup xs), o2, o3, some (ratV sp), none, none, none] s := by
  have l2 : ∀ a b : PV, ([a, b] : List PV).length ≤ 10 ^ 9 := fun a b => by simp only [List.length_cons, List.length_nil]; decide
  unfold b_border_tail
  (first | rw [Nx_eq] | rw [Arm_eq] | skip); (try simp_all only [ss_nil, Nx_nil, Arm_nil, sz_0, sz_1, sz_2, sz_3, sz_4, sz_5, sz_6, sz_7, sz_8, sz_9, sz_10, sz_11, sz_12, cp_2, cp_3, cp_4, cp_5, cp_6, cp_7, cp_12, cp_20, cp_30, cp_38, cp_39, cp_40])
  refine callS_of ⟨hp, by simp, l2 _ _, fun i v hv => ?_⟩
  obtain ⟨f, rfl, fb, f0⟩ := fr2 (.inr rfl) hv
  simp_all only [ss_nil, Nx_nil, Arm_nil, sz_0, sz_1, sz_2, sz_3, sz_4, sz_5, sz_6, sz_7, sz_8, sz_9, sz_10, sz_11, sz_12, cp_2, cp_3, cp_4, cp_5, cp_6, cp_7, cp_12, cp_20, cp_30, cp_38, cp_39, cp_40]
  (first | rw [Nx_eq] | rw [Arm_eq] | skip); (try simp_all only [ss_nil, Nx_nil, Arm_nil, sz_0, sz_1, sz_2, sz_3, sz_4, sz_5, sz_6, sz_7, sz_8, sz_9, sz_10, sz_11, sz_12, cp_2, cp_3, cp_4, cp_5, cp_6, cp_7, cp_12, cp_20, cp_30, cp_38, cp_39, cp_40])
  refine callS_of ⟨f, sp, (fb.mono (by decide)).fr, (hsp.mono (by decide)).fr, ?_⟩
  have sb := fb.add hsp
  have s0 := add_nn f0 h0
  have fs : f ≤ f + sp := le_add h0
  simp_all only [ss_nil, Nx_nil, Arm_nil, sz_0, sz_1, sz_2, sz_3, sz_4, sz_5, sz_6, sz_7, sz_8, sz_9, sz_10, sz_11, sz_12, cp_2, cp_3, cp_4, cp_5, cp_6, cp_7, cp_12, cp_20, cp_30, cp_38, cp_39, cp_40]
  (first | rw [Nx_eq] | rw [Arm_eq] | skip); (try simp_all only [ss_nil, Nx_nil, Arm_nil, sz_0, sz_1, sz_2, sz_3, sz_4, sz_5, sz_6, sz_7, sz_8, sz_9, sz_10, sz_11, sz_12, cp_2, cp_3, cp_4, cp_5, cp_6, cp_7, cp_12, cp_20, cp_30, cp_38, cp_39, cp_40])
  refine callS_of ⟨hp, by simp, l2 _ _, fun i v hv => ?_⟩
  obtain ⟨g, rfl, gb, g0⟩ := fr2 (.inl rfl) hv
  simp_all only [ss_nil, Nx_nil, Arm_nil, sz_0, sz_1, sz_2, sz_3, sz_4, sz_5, sz_6, sz_7, sz_8, sz_9, sz_10, sz_11, sz_12, cp_2, cp_3, cp_4, cp_5, cp_6, cp_7, cp_12, cp_20, cp_30, cp_38, cp_39, cp_40]
  refine callS_of ⟨f + sp, g, (sb.mono (by decide)).fr, (gb.mono (by decide)).fr, ?_⟩
  have eb := sb.add gb
  simp_all only [ss_nil, Nx_nil, Arm_nil, sz_0, sz_1, sz_2, sz_3, sz_4, sz_5, sz_6, sz_7, sz_8, sz_9, sz_10, sz_11, sz_12, cp_2, cp_3, cp_4, cp_5, cp_6, cp_7, cp_12, cp_20, cp_30, cp_38, cp_39, cp_40]
  rcases hb with rfl | ⟨hk, b, a2, hb⟩
  · have e1 : (("first" : Str) = ("first" : Str)) = True := eq_true rfl
    (first | rw [Nx_eq] | rw [Arm_eq] | skip); (try simp_all only [ss_nil, Nx_nil, Arm_nil, sz_0, sz_1, sz_2, sz_3, sz_4, sz_5, sz_6, sz_7, sz_8, sz_9, sz_10, sz_11, sz_12, cp_2, cp_3, cp_4, cp_5, cp_6, cp_7, cp_12, cp_20, cp_30, cp_38, cp_39, cp_40, a0, e1])
    (first | rw [Nx_eq] | rw [Arm_eq] | skip); (try simp_all only [ss_nil, Nx_nil, Arm_nil, sz_0, sz_1, sz_2, sz_3, sz_4, sz_5, sz_6, sz_7, sz_8, sz_9, sz_10, sz_11, sz_12, cp_2, cp_3, cp_4, cp_5, cp_6, cp_7, cp_12, cp_20, cp_30, cp_38, cp_39, cp_40, a1])
    refine callS_of ⟨hp, by simp, l2 _ _, fun i v hv => ?_⟩
    obtain ⟨g, rfl, gb, g0⟩ := fr2 (.inl rfl) hv
    simp_all only [ss_nil, Nx_nil, Arm_nil, sz_0, sz_1, sz_2, sz_3, sz_4, sz_5, sz_6, sz_7, sz_8, sz_9, sz_10, sz_11, sz_12, cp_2, cp_3, cp_4, cp_5, cp_6, cp_7, cp_12, cp_20, cp_30, cp_38, cp_39, cp_40]
    refine callS_of ⟨sp, g, (hsp.mono (by decide)).fr, (gb.mono (by decide)).fr, ?_⟩
    simp_all only [ss_nil, Nx_nil, Arm_nil, sz_0, sz_1, sz_2, sz_3, sz_4, sz_5, sz_6, sz_7, sz_8, sz_9, sz_10, sz_11, sz_12, cp_2, cp_3, cp_4, cp_5, cp_6, cp_7, cp_12, cp_20, cp_30, cp_38, cp_39, cp_40]
    refine ⟨s, .rfl, h [(a, sp)] (sp + g) ⟨by show 1 ≤ 12; decide, fun p hp => ?_, fun p hp => ?_, (hsp.add gb).mono (by decide), add_nn h0 g0, ?_⟩⟩
    · rw [List.mem_singleton.mp hp]; exact ha
    · rw [List.mem_singleton.mp hp]; exact ⟨hsp.mono (by decide), h0⟩
    · exact up_snoc (xs := []) (le_add g0) rfl
  · have e1 : (k = ("first" : Str)) = False := eq_false hk
    (first | rw [Nx_eq] | rw [Arm_eq] | skip); (try simp_all only [ss_nil, Nx_nil, Arm_nil, sz_0, sz_1, sz_2, sz_3, sz_4, sz_5, sz_6, sz_7, sz_8, sz_9, sz_10, sz_11, sz_12, cp_2, cp_3, cp_4, cp_5, cp_6, cp_7, cp_12, cp_20, cp_30, cp_38, cp_39, cp_40, a0, e1])
    (first | rw [Nx_eq] | rw [Arm_eq] | skip); (try simp_all only [ss_nil, Nx_nil, Arm_nil, sz_0, sz_1, sz_2, sz_3, sz_4, sz_5, sz_6, sz_7, sz_8, sz_9, sz_10, sz_11, sz_12, cp_2, cp_3, cp_4, cp_5, cp_6, cp_7, cp_12, cp_20, cp_30, cp_38, cp_39, cp_40])
    refine callS_of ⟨hp, .of (by decide), fun u u0 u1 _ => ?_⟩
    simp_all only [ss_nil, Nx_nil, Arm_nil, sz_0, sz_1, sz_2, sz_3, sz_4, sz_5, sz_6, sz_7, sz_8, sz_9, sz_10, sz_11, sz_12, cp_2, cp_3, cp_4, cp_5, cp_6, cp_7, cp_12, cp_20, cp_30, cp_38, cp_39, cp_40]
    split
    · (first | rw [Nx_eq] | rw [Arm_eq] | skip); (try simp_all only [ss_nil, Nx_nil, Arm_nil, sz_0, sz_1, sz_2, sz_3, sz_4, sz_5, sz_6, sz_7, sz_8, sz_9, sz_10, sz_11, sz_12, cp_2, cp_3, cp_4, cp_5, cp_6, cp_7, cp_12, cp_20, cp_30, cp_38, cp_39, cp_40, a1])
      refine ⟨s, .rfl, h [(a, f)] (f + sp) ⟨by show 1 ≤ 12; decide, fun p hp => ?_, fun p hp => ?_, sb.mono (by decide), s0, ?_⟩⟩
      · rw [List.mem_singleton.mp hp]; exact ha
      · rw [List.mem_singleton.mp hp]; exact ⟨fb.mono (by decide), f0⟩
      · exact up_snoc (xs := []) fs rfl
    · (first | rw [Nx_eq] | rw [Arm_eq] | skip); (try simp_all only [ss_nil, Nx_nil, Arm_nil, sz_0, sz_1, sz_2, sz_3, sz_4, sz_5, sz_6, sz_7, sz_8, sz_9, sz_10, sz_11, sz_12, cp_2, cp_3, cp_4, cp_5, cp_6, cp_7, cp_12, cp_20, cp_30, cp_38, cp_39, cp_40, a1, a2])
      refine ⟨s, .rfl, h [(a, f), (b, f + sp)] (f + sp + g) ⟨by show 2 ≤ 12; decide, fun p hp => ?_, fun p hp => ?_, eb.mono (by decide), add_nn s0 g0, ?_⟩⟩
      · simp only [List.mem_cons, List.not_mem_nil, or_false] at hp
        rcases hp with rfl | rfl
        · exact ha
        · exact hb
      · simp only [List.mem_cons, List.not_mem_nil, or_false] at hp
        rcases hp with rfl | rfl
        · exact ⟨fb.mono (by decide), f0⟩
        · exact ⟨sb.mono (by decide), s0⟩
      · exact up_snoc (xs := [f]) (le_add g0) (up_snoc (xs := []) fs rfl)
theorem w__law_border_word : ∀ vs s Q X, vs.length = 2 → sp__law_border_word vs s Q X → wpFn n__law_border_word.length b__law_border_word vs s Q X := by
  intro vs s Q X hl h
  unfold sp__law_border_word at h
  split at h
  · rename_i p v
    rw [fn_eq]
    unfold b__law_border_word n__law_border_word
    obtain ⟨hp, x, rfl, hx, h⟩ := h
    rw [show (.cons (.asg (.name 5) (.call "_law_pick" sp__law_pick (.cons (.var 0) (.cons (.lst false (.cons (.tup (.cons (.int 0) (.cons (.int 1) .nil))) (.cons (.tup (.cons (.int 1) (.cons (.int 2) .nil))) .nil))) .nil)))) (.cons (.asg (.name 6) (.call "_law_plus" sp__law_plus (.cons (.var 5) (.cons (.var 4) .nil)))) (.cons (.asg (.name 7) (.call "_law_plus" sp__law_plus (.cons (.var 6) (.cons (.call "_law_pick" sp__law_pick (.cons (.var 0) (.cons (.lst false (.cons (.tup (.cons (.int 0) (.cons (.int 1) .nil))) (.cons (.tup (.cons (.int 1) (.cons (.int 1) .nil))) .nil))) .nil))) .nil)))) (.cons (.ite (.cmp .Eq (.idx (.var 1) (.int 0)) (.str "first")) (.cons (.ret (.tup (.cons (.tup (.cons (.tup (.cons (.idx (.var 1) (.int 1)) (.cons (.var 4) .nil))) .nil)) (.cons (.call "_law_plus" sp__law_plus (.cons (.var 4) (.cons (.call "_law_pick" sp__law_pick (.cons (.var 0) (.cons (.lst false (.cons (.tup (.cons (.int 0) (.cons (.int 1) .nil))) (.cons (.tup (.cons (.int 1) (.cons (.int 1) .nil))) .nil))) .nil))) .nil))) .nil)))) .nil) .nil) (.cons (.ite (.cmp .Eq (.call "_law_draw" sp__law_draw (.cons (.var 0) (.cons (.int 3) .nil))) (.int 0)) (.cons (.ret (.tup (.cons (.tup (.cons (.tup (.cons (.idx (.var 1) (.int 1)) (.cons (.var 5) .nil))) .nil)) (.cons (.var 6) .nil)))) .nil) .nil) (.cons (.ret (.tup (.cons (.tup (.cons (.tup (.cons (.idx (.var 1) (.int 1)) (.cons (.var 5) .nil))) (.cons (.tup (.cons (.idx (.var 1) (.int 2)) (.cons (.var 6) .nil))) .nil))) (.cons (.var 7) .nil)))) .nil)))))) = b_border_tail from rfl]
    have tail : ∀ (xs : List PV) (k a : Str) (n : Nat), n ≤ 99 → k ≠ "never" → atI xs 0 = some (.str k) → atI xs 1 = some (.str a) → LtOk a → (k = "first" ∨ (k ≠ "first" ∧ ∃ b : Str, atI xs 2 = some (.str b) ∧ LtOk b)) → atI xs (-1) = some (.int n) →
        wpSs (.cons (.ite (.cmp .Eq (.idx (.var 1) (.int 0)) (.str "never")) (.cons (.ret (.call "_law_drawn_word" sp__law_drawn_word (.cons (.var 0) (.cons (.lst false (.cons (.idx (.var 1) (.int 1)) (.cons (.str "c") .nil))) (.cons (.int 3) .nil))))) .nil) .nil) (.cons (.asg (.name 2) (.idx (.var 1) (.neg (.int 1)))) (.cons (.asg (.name 3) (.call "_law_pick" sp__law_pick (.cons (.var 0) (.cons (.lst false (.cons (.tup (.cons (.int 0) (.cons (.int 1) .nil))) (.cons (.tup (.cons (.int 0) (.cons (.int 1) .nil))) (.cons (.tup (.cons (.int 1) (.cons (.int 7) .nil))) (.cons (.tup (.cons (.neg (.int 1)) (.cons (.int 7) .nil))) .nil))))) .nil)))) (.cons (.asg (.name 4) (.ite (.cmp .Gt (.var 2) (.int 0)) (.call "_law_plus" sp__law_plus (.cons (.tup (.cons (.var 2) (.cons (.int 1) .nil))) (.cons (.var 3) .nil))) (.tup (.cons (.int 0) (.cons (.int 1) .nil))))) b_border_tail))))
          (fnEnds Q X) [some (.ref p), some (.tup xs), none, none, none, none, none, none] s := by
      intro xs k a n hn hk a0 a1 ha hb al
      have e1 : (k = ("never" : Str)) = False := eq_false hk
      simp_all only [ss_nil, Nx_nil, Arm_nil, sz_0, sz_1, sz_2, sz_3, sz_4, sz_5, sz_6, sz_7, sz_8, sz_9, sz_10, sz_11, sz_12, cp_2, cp_3, cp_4, cp_5, cp_6, cp_7, cp_12, cp_20, cp_30, cp_38, cp_39, cp_40, a0, e1]
      (first | rw [Nx_eq] | rw [Arm_eq] | skip); (try simp_all only [ss_nil, Nx_nil, Arm_nil, sz_0, sz_1, sz_2, sz_3, sz_4, sz_5, sz_6, sz_7, sz_8, sz_9, sz_10, sz_11, sz_12, cp_2, cp_3, cp_4, cp_5, cp_6, cp_7, cp_12, cp_20, cp_30, cp_38, cp_39, cp_40, al])
      (first | rw [Nx_eq] | rw [Arm_eq] | skip); (try simp_all only [ss_nil, Nx_nil, Arm_nil, sz_0, sz_1, sz_2, sz_3, sz_4, sz_5, sz_6, sz_7, sz_8, sz_9, sz_10, sz_11, sz_12, cp_2, cp_3, cp_4, cp_5, cp_6, cp_7, cp_12, cp_20, cp_30, cp_38, cp_39, cp_40])
      refine callS_of ⟨hp, by simp, by simp only [List.length_cons, List.length_nil]; decide, fun i v hv => ?_⟩
      have hf : ∃ f : Rat, v = ratV f ∧ Bd 3 f ∧ (0 ≤ f ∨ f = Rat.divInt (-1) 7) := by
        have := List.mem_of_getElem? hv
        simp only [List.mem_cons, List.not_mem_nil, or_false] at this
        rcases this with e | e | e | e
        · subst e; obtain ⟨f, a, b, c⟩ := frac (n := 0) (d := 1) (by decide) (by decide) (by decide) (by decide) (by decide); exact ⟨f, a, b, .inl c⟩
        · subst e; obtain ⟨f, a, b, c⟩ := frac (n := 0) (d := 1) (by decide) (by decide) (by decide) (by decide) (by decide); exact ⟨f, a, b, .inl c⟩
        · subst e; obtain ⟨f, a, b, c⟩ := frac (n := 1) (d := 7) (by decide) (by decide) (by decide) (by decide) (by decide); exact ⟨f, a, b, .inl c⟩
        · subst e; exact ⟨Rat.divInt (-1) 7, (cop_ratV (by decide) (by decide)).symm, .of_divInt (by decide) (by decide) (by decide), .inr rfl⟩
      obtain ⟨f, rfl, fb, hf⟩ := hf
      simp_all only [ss_nil, Nx_nil, Arm_nil, sz_0, sz_1, sz_2, sz_3, sz_4, sz_5, sz_6, sz_7, sz_8, sz_9, sz_10, sz_11, sz_12, cp_2, cp_3, cp_4, cp_5, cp_6, cp_7, cp_12, cp_20, cp_30, cp_38, cp_39, cp_40]
      by_cases n0 : n = 0
      · subst n0
        have e2 : ((0 : Int) < ((0 : Nat) : Int)) = False := eq_false (by decide)
        have e3 : ((0 : Int) < 0) = False := eq_false (by decide)
        have r0 : PV.tup [.int 0, .int 1] = ratV 0 := rfl
        (first | rw [Nx_eq] | rw [Arm_eq] | skip); (try simp_all only [ss_nil, Nx_nil, Arm_nil, sz_0, sz_1, sz_2, sz_3, sz_4, sz_5, sz_6, sz_7, sz_8, sz_9, sz_10, sz_11, sz_12, cp_2, cp_3, cp_4, cp_5, cp_6, cp_7, cp_12, cp_20, cp_30, cp_38, cp_39, cp_40, e2, e3])
        rw [r0]
        exact border_tail hp a0 a1 ha hb h ⟨by decide, by decide⟩ Rat.le_refl
      · have e2 : ((0 : Int) < (n : Int)) = True := eq_true (by omega)
        have nb : Bd 7 (Rat.divInt (n : Int) 1) := .of_divInt (by decide) (by show (n : Int).natAbs < 128; omega) (by decide)
        (first | rw [Nx_eq] | rw [Arm_eq] | skip); (try simp_all only [ss_nil, Nx_nil, Arm_nil, sz_0, sz_1, sz_2, sz_3, sz_4, sz_5, sz_6, sz_7, sz_8, sz_9, sz_10, sz_11, sz_12, cp_2, cp_3, cp_4, cp_5, cp_6, cp_7, cp_12, cp_20, cp_30, cp_38, cp_39, cp_40, e2])
        refine callS_of ⟨Rat.divInt (n : Int) 1, f, ⟨n, 1, rfl, by decide, by show (n : Int).natAbs < 2 ^ 3900; exact Nat.lt_of_lt_of_le (show (n : Int).natAbs < 2 ^ 7 by show (n : Int).natAbs < 128; omega) (pow2_le (by decide)), by show (1 : Int).natAbs < 2 ^ 3900; exact Nat.lt_of_lt_of_le (show (1 : Int).natAbs < 2 ^ 7 by decide) (pow2_le (by decide)), rfl⟩, (fb.mono (by decide)).fr, ?_⟩
        simp_all only [ss_nil, Nx_nil, Arm_nil, sz_0, sz_1, sz_2, sz_3, sz_4, sz_5, sz_6, sz_7, sz_8, sz_9, sz_10, sz_11, sz_12, cp_2, cp_3, cp_4, cp_5, cp_6, cp_7, cp_12, cp_20, cp_30, cp_38, cp_39, cp_40]
        refine border_tail hp a0 a1 ha hb h (nb.add fb) ?_
        rcases hf with hf | rfl
        · exact add_nn (Rat.divInt_nonneg (by omega) (by decide)) hf
        · rw [← divInt_add (by decide) (by decide)]
          exact Rat.divInt_nonneg (by omega) (by decide)
    cases x with
    | nv a =>
      have sv : senV (.nv a) = .tup [.str "never", .str a] := rfl
      have t1 : (("never" : Str) = ("never" : Str)) = True := eq_true rfl
      clear tail
      simp_all only [ss_nil, Nx_nil, Arm_nil, sz_0, sz_1, sz_2, sz_3, sz_4, sz_5, sz_6, sz_7, sz_8, sz_9, sz_10, sz_11, sz_12, cp_2, cp_3, cp_4, cp_5, cp_6, cp_7, cp_12, cp_20, cp_30, cp_38, cp_39, cp_40, sv, t1]
      (first | rw [Nx_eq] | rw [Arm_eq] | skip); (try simp_all only [ss_nil, Nx_nil, Arm_nil, sz_0, sz_1, sz_2, sz_3, sz_4, sz_5, sz_6, sz_7, sz_8, sz_9, sz_10, sz_11, sz_12, cp_2, cp_3, cp_4, cp_5, cp_6, cp_7, cp_12, cp_20, cp_30, cp_38, cp_39, cp_40])
      refine callS_of ⟨hp, by decide, by decide, by simp, by simp only [List.length_cons, List.length_nil]; decide, fun x hx' => ?_, fun l e hw => ⟨s, .rfl, h l e hw⟩⟩
      simp only [List.mem_cons, List.not_mem_nil, or_false] at hx'
      rcases hx' with rfl | rfl
      · exact ⟨a, rfl, hx⟩
      · exact ⟨_, rfl, .inr (.inr rfl)⟩
    | fi a sg n =>
      exact tail [.str "first", .str a, .str (sgS sg), .int n] "first" a n hx.2.2.2 (by decide) atI_0 atI_1 hx.1 (.inl rfl) (atI_last.trans rfl)
    | two k a b sg n =>
      obtain ⟨h1, h2, h3, h4⟩ := hx
      have k1 : k ≠ "never" ∧ k ≠ "first" := by rcases h4 with ⟨rfl, _⟩ | ⟨rfl | rfl, _⟩ <;> exact ⟨by decide, by decide⟩
      exact tail [.str k, .str a, .str b, .str (sgS sg), .int n] k a n h3 k1.1 atI_0 atI_1 h1 (.inr ⟨k1.2, b, atI_2, h2⟩) (atI_last.trans rfl)
  · exact h.elim
end TK

set_option maxRecDepth 100000
set_option maxHeartbeats 4000000
namespace TK
open PySem PySem.Spec PyProof.Rows L2
def sp__law_odd : PSpec
  | [.ref p, v], st, Q, _ => st p = some .pool ∧ ∃ x : Sen, v = senV x ∧ DS x ∧ ∀ o : PV, dn o = true → sentB o = false → Q o st
  | _, _, _, _ => False
def b__law_odd : Ss :=
  (.cons (.asg (.name 2) (.call "_law_draw" sp__law_draw (.cons (.var 0) (.cons (.int 8) .nil)))) (.cons (.ite (.cmp .Eq (.var 2) (.int 0)) (.cons (.ret (.blt .list false (.cons (.var 1) .nil))) .nil) .nil) (.cons (.ite (.cmp .Eq (.var 2) (.int 1)) (.cons (.ret (.bin .Add false (.var 1) (.tup (.cons (.int 1) .nil)))) .nil) .nil) (.cons (.ite (.cmp .Eq (.var 2) (.int 2)) (.cons (.ret (.slice false (.var 1) .no (.yes (.neg (.int 1))))) .nil) .nil) (.cons (.ite (.cmp .Eq (.var 2) (.int 3)) (.cons (.ret (.bin .Add false (.tup (.cons (.call "_law_pick" sp__law_pick (.cons (.var 0) (.cons (.lst false (.cons (.str "always") (.cons (.str "") (.cons (.int 1) .nil)))) .nil))) .nil)) (.slice false (.var 1) (.yes (.int 1)) .no))) .nil) .nil) (.cons (.ite (.cmp .Eq (.var 2) (.int 4)) (.cons (.ret (.bin .Add false (.tup (.cons (.idx (.var 1) (.int 0)) (.cons (.call "_law_pick" sp__law_pick (.cons (.var 0) (.cons (.lst false (.cons (.str "A") (.cons (.str "") (.cons (.bin .Mult false (.str "a") (.int 13)) (.cons (.int 1) (.cons (.str "a b") .nil)))))) .nil))) .nil))) (.slice false (.var 1) (.yes (.int 2)) .no))) .nil) .nil) (.cons (.ite (.bools .Or (.cons (.cmp .Eq (.idx (.var 1) (.int 0)) (.str "never")) (.cons (.cmp .Eq (.var 2) (.int 5)) .nil))) (.cons (.ret (.call "_law_pick" sp__law_pick (.cons (.var 0) (.cons (.lst false (.cons (.tup .nil) (.cons .non (.cons (.str "never a") (.cons (.tup (.cons (.str "never") .nil)) .nil))))) .nil)))) .nil) .nil) (.cons (.ite (.cmp .Eq (.var 2) (.int 6)) (.cons (.ret (.bin .Add false (.slice false (.var 1) .no (.yes (.neg (.int 1)))) (.tup (.cons (.call "_law_pick" sp__law_pick (.cons (.var 0) (.cons (.lst false (.cons (.neg (.int 1)) (.cons (.int 100) (.cons (.bl true) (.cons (.str "1") .nil))))) .nil))) .nil)))) .nil) .nil) (.cons (.ret (.bin .Add false (.slice false (.var 1) .no (.yes (.neg (.int 2)))) (.tup (.cons (.call "_law_pick" sp__law_pick (.cons (.var 0) (.cons (.lst false (.cons (.str "=") (.cons (.ite (.cmp .NotEq (.idx (.var 1) (.int 0)) (.str "rest")) (.str ">") (.str "<")) (.cons (.str "") (.cons .non .nil))))) .nil))) (.cons (.idx (.var 1) (.neg (.int 1))) .nil))))) .nil)))))))))
def n__law_odd : List Str := ["pool", "sentence", "way"]
theorem bad_let {i : Nat} {v : PV} (h : ([.str "A", .str "", .str (repS 13 "a"), .int 1, .str "a b"] : List PV)[i]? = some v) : dn v = true ∧ letB v 12 = false := by
  have := List.mem_of_getElem? h
  simp only [List.mem_cons, List.not_mem_nil, or_false] at this
  rcases this with e | e | e | e | e <;> (subst e; exact ⟨by decide +kernel, by decide +kernel⟩)
theorem bad_head {i : Nat} {v : PV} {r : List PV} (h : ([.str "always", .str "", .int 1] : List PV)[i]? = some v) : dn v = true ∧ sentB (.tup (v :: r)) = false := by
  have := List.mem_of_getElem? h
  simp only [List.mem_cons, List.not_mem_nil, or_false] at this
  rcases this with e | e | e
  · subst e; exact ⟨by decide, sent_else (by decide) (by decide) (by decide)⟩
  · subst e; exact ⟨by decide, sent_else (by decide) (by decide) (by decide)⟩
  · subst e; exact ⟨by decide, rfl⟩
theorem bad_all {i : Nat} {v : PV} (h : ([.tup [], .non, .str "never a", .tup [.str "never"]] : List PV)[i]? = some v) : dn v = true ∧ sentB v = false := by
  have := List.mem_of_getElem? h
  simp only [List.mem_cons, List.not_mem_nil, or_false] at this
  rcases this with e | e | e | e <;> (subst e; exact ⟨by decide, by decide⟩)
theorem bad_num {i : Nat} {v : PV} (h : ([.int (-1), .int 100, .bl true, .str "1"] : List PV)[i]? = some v) : dn v = true ∧ ∀ s signs, boundB s v signs = false := by
  have := List.mem_of_getElem? h
  simp only [List.mem_cons, List.not_mem_nil, or_false] at this
  have key : dn v = true ∧ wholeB v 0 (.int 99) = false := by
    rcases this with e | e | e | e <;> (subst e; exact ⟨by decide, by decide⟩)
  refine ⟨key.1, fun s signs => ?_⟩
  unfold boundB
  split
  · rw [key.2, Bool.and_false, Bool.false_and]
  · rfl
theorem bad_sg {i : Nat} {v : PV} {o : Str} {signs : List Str} (h1 : signs.contains ("=" : Str) = false) (h2 : signs.contains o = false) (h3 : signs.contains ("" : Str) = false) (ho : o.length ≤ 1000)
    (h : ([.str "=", .str o, .str "", .non] : List PV)[i]? = some v) : dn v = true ∧ ∀ n, boundB v n signs = false := by
  have := List.mem_of_getElem? h
  simp only [List.mem_cons, List.not_mem_nil, or_false] at this
  have key : ∀ x : Str, signs.contains x = false → ∀ n, boundB (.str x) n signs = false := fun x hx n => by
    unfold boundB
    show (signs.contains x && _ && _) = false
    rw [hx]; rfl
  rcases this with e | e | e | e
  · subst e; exact ⟨by decide, key _ h1⟩
  · subst e; exact ⟨dn_s ho, key _ h2⟩
  · subst e; exact ⟨by decide, key _ h3⟩
  · subst e; exact ⟨rfl, fun n => rfl⟩
theorem never_no {y : PV} {r : List PV} (h : (r.length = 0 → letB y 12 = false)) : sentB (.tup (.str "never" :: y :: r)) = false := by
  rw [sent_never]
  cases r with
  | nil => rw [h rfl, Bool.and_false]
  | cons a b => rw [decide_eq_false (by simp)]; rfl
theorem l_le (l : List PV) (h : l.length ≤ 100) : l.length ≤ 10 ^ 9 := Nat.le_trans h (by decide)
theorem w__law_odd : ∀ vs s Q X, vs.length = 2 → sp__law_odd vs s Q X → wpFn n__law_odd.length b__law_odd vs s Q X := by
  intro vs s Q X hl h
  unfold sp__law_odd at h
  split at h
  · rename_i p v
    rw [fn_eq]
    unfold b__law_odd n__law_odd
    obtain ⟨hp, x, rfl, hx, h⟩ := h
    have hd := ds_dn hx
    simp_all only [ss_nil, Nx_nil, Arm_nil, sz_0, sz_1, sz_2, sz_3, sz_4, sz_5, sz_6, sz_7, sz_8, sz_9, sz_10, sz_11, sz_12, cp_2, cp_3, cp_4, cp_5, cp_6, cp_7, cp_12, cp_20, cp_30, cp_38, cp_39, cp_40]
    refine callS_of ⟨hp, .of (by decide), fun w w0 w1 _ => ?_⟩
    have w1 := w1 (by decide)
    have ways : w = 0 ∨ w = 1 ∨ w = 2 ∨ w = 3 ∨ w = 4 ∨ w = 5 ∨ w = 6 ∨ w = 7 := by omega
    simp_all only [ss_nil, Nx_nil, Arm_nil, sz_0, sz_1, sz_2, sz_3, sz_4, sz_5, sz_6, sz_7, sz_8, sz_9, sz_10, sz_11, sz_12, cp_2, cp_3, cp_4, cp_5, cp_6, cp_7, cp_12, cp_20, cp_30, cp_38, cp_39, cp_40]
    have rep : PV.str (repS (Int.toNat 13) "a") = .str (repS 13 "a") := rfl
    have ln : ∀ l : List PV, l.length ≤ 100 → l.length ≤ 10 ^ 9 := l_le
    cases x with
    | nv a =>
      have sv : senV (.nv a) = .tup [.str "never", .str a] := rfl
      have t1 : (("never" : Str) = ("never" : Str)) = True := eq_true rfl
      have d0 : dn (.str a) = true := dn_s (lt_len hx)
      have k1 : cutP [PV.str "never", .str a] none (some (-1)) = [.str "never"] := rfl
      have k2 : cutP [PV.str "never", .str a] (some 1) none = [.str a] := rfl
      have k3 : cutP [PV.str "never", .str a] (some 2) none = [] := rfl
      rcases ways with rfl | rfl | rfl | rfl | rfl | rfl | rfl | rfl
      · (first | rw [Nx_eq] | rw [Arm_eq] | skip); (try simp_all only [ss_nil, Nx_nil, Arm_nil, sz_0, sz_1, sz_2, sz_3, sz_4, sz_5, sz_6, sz_7, sz_8, sz_9, sz_10, sz_11, sz_12, cp_2, cp_3, cp_4, cp_5, cp_6, cp_7, cp_12, cp_20, cp_30, cp_38, cp_39, cp_40, sv, t1, k1, k2, k3, Int.reduceEq])
        (first | rw [Nx_eq] | rw [Arm_eq] | skip); (try simp_all only [ss_nil, Nx_nil, Arm_nil, sz_0, sz_1, sz_2, sz_3, sz_4, sz_5, sz_6, sz_7, sz_8, sz_9, sz_10, sz_11, sz_12, cp_2, cp_3, cp_4, cp_5, cp_6, cp_7, cp_12, cp_20, cp_30, cp_38, cp_39, cp_40, sv, t1, k1, k2, k3, Int.reduceEq])
        exact ⟨s, .rfl, h _ hd rfl⟩
      · (first | rw [Nx_eq] | rw [Arm_eq] | skip); (try simp_all only [ss_nil, Nx_nil, Arm_nil, sz_0, sz_1, sz_2, sz_3, sz_4, sz_5, sz_6, sz_7, sz_8, sz_9, sz_10, sz_11, sz_12, cp_2, cp_3, cp_4, cp_5, cp_6, cp_7, cp_12, cp_20, cp_30, cp_38, cp_39, cp_40, sv, t1, k1, k2, k3, Int.reduceEq])
        (first | rw [Nx_eq] | rw [Arm_eq] | skip); (try simp_all only [ss_nil, Nx_nil, Arm_nil, sz_0, sz_1, sz_2, sz_3, sz_4, sz_5, sz_6, sz_7, sz_8, sz_9, sz_10, sz_11, sz_12, cp_2, cp_3, cp_4, cp_5, cp_6, cp_7, cp_12, cp_20, cp_30, cp_38, cp_39, cp_40, sv, t1, k1, k2, k3, Int.reduceEq])
        (first | rw [Nx_eq] | rw [Arm_eq] | skip); (try simp_all only [ss_nil, Nx_nil, Arm_nil, sz_0, sz_1, sz_2, sz_3, sz_4, sz_5, sz_6, sz_7, sz_8, sz_9, sz_10, sz_11, sz_12, cp_2, cp_3, cp_4, cp_5, cp_6, cp_7, cp_12, cp_20, cp_30, cp_38, cp_39, cp_40, sv, t1, k1, k2, k3, Int.reduceEq])
        exact ⟨s, .rfl, h _ (dn_cons rfl (dn_cons d0 rfl)) (never_no fun z => by cases z)⟩
      · (first | rw [Nx_eq] | rw [Arm_eq] | skip); (try simp_all only [ss_nil, Nx_nil, Arm_nil, sz_0, sz_1, sz_2, sz_3, sz_4, sz_5, sz_6, sz_7, sz_8, sz_9, sz_10, sz_11, sz_12, cp_2, cp_3, cp_4, cp_5, cp_6, cp_7, cp_12, cp_20, cp_30, cp_38, cp_39, cp_40, sv, t1, k1, k2, k3, Int.reduceEq])
        (first | rw [Nx_eq] | rw [Arm_eq] | skip); (try simp_all only [ss_nil, Nx_nil, Arm_nil, sz_0, sz_1, sz_2, sz_3, sz_4, sz_5, sz_6, sz_7, sz_8, sz_9, sz_10, sz_11, sz_12, cp_2, cp_3, cp_4, cp_5, cp_6, cp_7, cp_12, cp_20, cp_30, cp_38, cp_39, cp_40, sv, t1, k1, k2, k3, Int.reduceEq])
        (first | rw [Nx_eq] | rw [Arm_eq] | skip); (try simp_all only [ss_nil, Nx_nil, Arm_nil, sz_0, sz_1, sz_2, sz_3, sz_4, sz_5, sz_6, sz_7, sz_8, sz_9, sz_10, sz_11, sz_12, cp_2, cp_3, cp_4, cp_5, cp_6, cp_7, cp_12, cp_20, cp_30, cp_38, cp_39, cp_40, sv, t1, k1, k2, k3, Int.reduceEq])
        (first | rw [Nx_eq] | rw [Arm_eq] | skip); (try simp_all only [ss_nil, Nx_nil, Arm_nil, sz_0, sz_1, sz_2, sz_3, sz_4, sz_5, sz_6, sz_7, sz_8, sz_9, sz_10, sz_11, sz_12, cp_2, cp_3, cp_4, cp_5, cp_6, cp_7, cp_12, cp_20, cp_30, cp_38, cp_39, cp_40, sv, t1, k1, k2, k3, Int.reduceEq])
        exact ⟨s, .rfl, h _ (by decide) (by decide)⟩
      · (first | rw [Nx_eq] | rw [Arm_eq] | skip); (try simp_all only [ss_nil, Nx_nil, Arm_nil, sz_0, sz_1, sz_2, sz_3, sz_4, sz_5, sz_6, sz_7, sz_8, sz_9, sz_10, sz_11, sz_12, cp_2, cp_3, cp_4, cp_5, cp_6, cp_7, cp_12, cp_20, cp_30, cp_38, cp_39, cp_40, sv, t1, k1, k2, k3, Int.reduceEq])
        (first | rw [Nx_eq] | rw [Arm_eq] | skip); (try simp_all only [ss_nil, Nx_nil, Arm_nil, sz_0, sz_1, sz_2, sz_3, sz_4, sz_5, sz_6, sz_7, sz_8, sz_9, sz_10, sz_11, sz_12, cp_2, cp_3, cp_4, cp_5, cp_6, cp_7, cp_12, cp_20, cp_30, cp_38, cp_39, cp_40, sv, t1, k1, k2, k3, Int.reduceEq])
        (first | rw [Nx_eq] | rw [Arm_eq] | skip); (try simp_all only [ss_nil, Nx_nil, Arm_nil, sz_0, sz_1, sz_2, sz_3, sz_4, sz_5, sz_6, sz_7, sz_8, sz_9, sz_10, sz_11, sz_12, cp_2, cp_3, cp_4, cp_5, cp_6, cp_7, cp_12, cp_20, cp_30, cp_38, cp_39, cp_40, sv, t1, k1, k2, k3, Int.reduceEq])
        (first | rw [Nx_eq] | rw [Arm_eq] | skip); (try simp_all only [ss_nil, Nx_nil, Arm_nil, sz_0, sz_1, sz_2, sz_3, sz_4, sz_5, sz_6, sz_7, sz_8, sz_9, sz_10, sz_11, sz_12, cp_2, cp_3, cp_4, cp_5, cp_6, cp_7, cp_12, cp_20, cp_30, cp_38, cp_39, cp_40, sv, t1, k1, k2, k3, Int.reduceEq])
        (first | rw [Nx_eq] | rw [Arm_eq] | skip); (try simp_all only [ss_nil, Nx_nil, Arm_nil, sz_0, sz_1, sz_2, sz_3, sz_4, sz_5, sz_6, sz_7, sz_8, sz_9, sz_10, sz_11, sz_12, cp_2, cp_3, cp_4, cp_5, cp_6, cp_7, cp_12, cp_20, cp_30, cp_38, cp_39, cp_40, sv, t1, k1, k2, k3, Int.reduceEq])
        refine callS_of ⟨hp, by simp, ln _ (by simp), fun i v hv => ?_⟩
        obtain ⟨d, sB⟩ := bad_head (r := [.str a]) hv
        simp_all only [ss_nil, Nx_nil, Arm_nil, sz_0, sz_1, sz_2, sz_3, sz_4, sz_5, sz_6, sz_7, sz_8, sz_9, sz_10, sz_11, sz_12, cp_2, cp_3, cp_4, cp_5, cp_6, cp_7, cp_12, cp_20, cp_30, cp_38, cp_39, cp_40, sv, k2]
        exact ⟨s, .rfl, h _ (dn_cons d (dn_cons d0 rfl)) sB⟩
      · (first | rw [Nx_eq] | rw [Arm_eq] | skip); (try simp_all only [ss_nil, Nx_nil, Arm_nil, sz_0, sz_1, sz_2, sz_3, sz_4, sz_5, sz_6, sz_7, sz_8, sz_9, sz_10, sz_11, sz_12, cp_2, cp_3, cp_4, cp_5, cp_6, cp_7, cp_12, cp_20, cp_30, cp_38, cp_39, cp_40, sv, t1, k1, k2, k3, Int.reduceEq])
        (first | rw [Nx_eq] | rw [Arm_eq] | skip); (try simp_all only [ss_nil, Nx_nil, Arm_nil, sz_0, sz_1, sz_2, sz_3, sz_4, sz_5, sz_6, sz_7, sz_8, sz_9, sz_10, sz_11, sz_12, cp_2, cp_3, cp_4, cp_5, cp_6, cp_7, cp_12, cp_20, cp_30, cp_38, cp_39, cp_40, sv, t1, k1, k2, k3, Int.reduceEq])
        (first | rw [Nx_eq] | rw [Arm_eq] | skip); (try simp_all only [ss_nil, Nx_nil, Arm_nil, sz_0, sz_1, sz_2, sz_3, sz_4, sz_5, sz_6, sz_7, sz_8, sz_9, sz_10, sz_11, sz_12, cp_2, cp_3, cp_4, cp_5, cp_6, cp_7, cp_12, cp_20, cp_30, cp_38, cp_39, cp_40, sv, t1, k1, k2, k3, Int.reduceEq])
        (first | rw [Nx_eq] | rw [Arm_eq] | skip); (try simp_all only [ss_nil, Nx_nil, Arm_nil, sz_0, sz_1, sz_2, sz_3, sz_4, sz_5, sz_6, sz_7, sz_8, sz_9, sz_10, sz_11, sz_12, cp_2, cp_3, cp_4, cp_5, cp_6, cp_7, cp_12, cp_20, cp_30, cp_38, cp_39, cp_40, sv, t1, k1, k2, k3, Int.reduceEq])
        (first | rw [Nx_eq] | rw [Arm_eq] | skip); (try simp_all only [ss_nil, Nx_nil, Arm_nil, sz_0, sz_1, sz_2, sz_3, sz_4, sz_5, sz_6, sz_7, sz_8, sz_9, sz_10, sz_11, sz_12, cp_2, cp_3, cp_4, cp_5, cp_6, cp_7, cp_12, cp_20, cp_30, cp_38, cp_39, cp_40, sv, t1, k1, k2, k3, Int.reduceEq])
        (first | rw [Nx_eq] | rw [Arm_eq] | skip); (try simp_all only [ss_nil, Nx_nil, Arm_nil, sz_0, sz_1, sz_2, sz_3, sz_4, sz_5, sz_6, sz_7, sz_8, sz_9, sz_10, sz_11, sz_12, cp_2, cp_3, cp_4, cp_5, cp_6, cp_7, cp_12, cp_20, cp_30, cp_38, cp_39, cp_40, sv, t1, k1, k2, k3, Int.reduceEq])
        refine ⟨by decide, callS_of ⟨hp, by simp, ln _ (by simp), fun i v hv => ?_⟩⟩
        obtain ⟨d, lB⟩ := bad_let hv
        simp_all only [ss_nil, Nx_nil, Arm_nil, sz_0, sz_1, sz_2, sz_3, sz_4, sz_5, sz_6, sz_7, sz_8, sz_9, sz_10, sz_11, sz_12, cp_2, cp_3, cp_4, cp_5, cp_6, cp_7, cp_12, cp_20, cp_30, cp_38, cp_39, cp_40, sv, k3]
        exact ⟨s, .rfl, h _ (dn_cons rfl (dn_cons d rfl)) (never_no fun _ => lB)⟩
      · (first | rw [Nx_eq] | rw [Arm_eq] | skip); (try simp_all only [ss_nil, Nx_nil, Arm_nil, sz_0, sz_1, sz_2, sz_3, sz_4, sz_5, sz_6, sz_7, sz_8, sz_9, sz_10, sz_11, sz_12, cp_2, cp_3, cp_4, cp_5, cp_6, cp_7, cp_12, cp_20, cp_30, cp_38, cp_39, cp_40, sv, t1, k1, k2, k3, Int.reduceEq])
        (first | rw [Nx_eq] | rw [Arm_eq] | skip); (try simp_all only [ss_nil, Nx_nil, Arm_nil, sz_0, sz_1, sz_2, sz_3, sz_4, sz_5, sz_6, sz_7, sz_8, sz_9, sz_10, sz_11, sz_12, cp_2, cp_3, cp_4, cp_5, cp_6, cp_7, cp_12, cp_20, cp_30, cp_38, cp_39, cp_40, sv, t1, k1, k2, k3, Int.reduceEq])
        (first | rw [Nx_eq] | rw [Arm_eq] | skip); (try simp_all only [ss_nil, Nx_nil, Arm_nil, sz_0, sz_1, sz_2, sz_3, sz_4, sz_5, sz_6, sz_7, sz_8, sz_9, sz_10, sz_11, sz_12, cp_2, cp_3, cp_4, cp_5, cp_6, cp_7, cp_12, cp_20, cp_30, cp_38, cp_39, cp_40, sv, t1, k1, k2, k3, Int.reduceEq])
        (first | rw [Nx_eq] | rw [Arm_eq] | skip); (try simp_all only [ss_nil, Nx_nil, Arm_nil, sz_0, sz_1, sz_2, sz_3, sz_4, sz_5, sz_6, sz_7, sz_8, sz_9, sz_10, sz_11, sz_12, cp_2, cp_3, cp_4, cp_5, cp_6, cp_7, cp_12, cp_20, cp_30, cp_38, cp_39, cp_40, sv, t1, k1, k2, k3, Int.reduceEq])
        (first | rw [Nx_eq] | rw [Arm_eq] | skip); (try simp_all only [ss_nil, Nx_nil, Arm_nil, sz_0, sz_1, sz_2, sz_3, sz_4, sz_5, sz_6, sz_7, sz_8, sz_9, sz_10, sz_11, sz_12, cp_2, cp_3, cp_4, cp_5, cp_6, cp_7, cp_12, cp_20, cp_30, cp_38, cp_39, cp_40, sv, t1, k1, k2, k3, Int.reduceEq])
        (first | rw [Nx_eq] | rw [Arm_eq] | skip); (try simp_all only [ss_nil, Nx_nil, Arm_nil, sz_0, sz_1, sz_2, sz_3, sz_4, sz_5, sz_6, sz_7, sz_8, sz_9, sz_10, sz_11, sz_12, cp_2, cp_3, cp_4, cp_5, cp_6, cp_7, cp_12, cp_20, cp_30, cp_38, cp_39, cp_40, sv, t1, k1, k2, k3, Int.reduceEq])
        (first | rw [Nx_eq] | rw [Arm_eq] | skip); (try simp_all only [ss_nil, Nx_nil, Arm_nil, sz_0, sz_1, sz_2, sz_3, sz_4, sz_5, sz_6, sz_7, sz_8, sz_9, sz_10, sz_11, sz_12, cp_2, cp_3, cp_4, cp_5, cp_6, cp_7, cp_12, cp_20, cp_30, cp_38, cp_39, cp_40, sv, t1, k1, k2, k3, Int.reduceEq])
        refine callS_of ⟨hp, by simp, ln _ (by simp), fun i v hv => ?_⟩
        obtain ⟨d, sB⟩ := bad_all hv
        exact ⟨s, .rfl, h _ d sB⟩
      · (first | rw [Nx_eq] | rw [Arm_eq] | skip); (try simp_all only [ss_nil, Nx_nil, Arm_nil, sz_0, sz_1, sz_2, sz_3, sz_4, sz_5, sz_6, sz_7, sz_8, sz_9, sz_10, sz_11, sz_12, cp_2, cp_3, cp_4, cp_5, cp_6, cp_7, cp_12, cp_20, cp_30, cp_38, cp_39, cp_40, sv, t1, k1, k2, k3, Int.reduceEq])
        (first | rw [Nx_eq] | rw [Arm_eq] | skip); (try simp_all only [ss_nil, Nx_nil, Arm_nil, sz_0, sz_1, sz_2, sz_3, sz_4, sz_5, sz_6, sz_7, sz_8, sz_9, sz_10, sz_11, sz_12, cp_2, cp_3, cp_4, cp_5, cp_6, cp_7, cp_12, cp_20, cp_30, cp_38, cp_39, cp_40, sv, t1, k1, k2, k3, Int.reduceEq])
        (first | rw [Nx_eq] | rw [Arm_eq] | skip); (try simp_all only [ss_nil, Nx_nil, Arm_nil, sz_0, sz_1, sz_2, sz_3, sz_4, sz_5, sz_6, sz_7, sz_8, sz_9, sz_10, sz_11, sz_12, cp_2, cp_3, cp_4, cp_5, cp_6, cp_7, cp_12, cp_20, cp_30, cp_38, cp_39, cp_40, sv, t1, k1, k2, k3, Int.reduceEq])
        (first | rw [Nx_eq] | rw [Arm_eq] | skip); (try simp_all only [ss_nil, Nx_nil, Arm_nil, sz_0, sz_1, sz_2, sz_3, sz_4, sz_5, sz_6, sz_7, sz_8, sz_9, sz_10, sz_11, sz_12, cp_2, cp_3, cp_4, cp_5, cp_6, cp_7, cp_12, cp_20, cp_30, cp_38, cp_39, cp_40, sv, t1, k1, k2, k3, Int.reduceEq])
        (first | rw [Nx_eq] | rw [Arm_eq] | skip); (try simp_all only [ss_nil, Nx_nil, Arm_nil, sz_0, sz_1, sz_2, sz_3, sz_4, sz_5, sz_6, sz_7, sz_8, sz_9, sz_10, sz_11, sz_12, cp_2, cp_3, cp_4, cp_5, cp_6, cp_7, cp_12, cp_20, cp_30, cp_38, cp_39, cp_40, sv, t1, k1, k2, k3, Int.reduceEq])
        (first | rw [Nx_eq] | rw [Arm_eq] | skip); (try simp_all only [ss_nil, Nx_nil, Arm_nil, sz_0, sz_1, sz_2, sz_3, sz_4, sz_5, sz_6, sz_7, sz_8, sz_9, sz_10, sz_11, sz_12, cp_2, cp_3, cp_4, cp_5, cp_6, cp_7, cp_12, cp_20, cp_30, cp_38, cp_39, cp_40, sv, t1, k1, k2, k3, Int.reduceEq])
        (first | rw [Nx_eq] | rw [Arm_eq] | skip); (try simp_all only [ss_nil, Nx_nil, Arm_nil, sz_0, sz_1, sz_2, sz_3, sz_4, sz_5, sz_6, sz_7, sz_8, sz_9, sz_10, sz_11, sz_12, cp_2, cp_3, cp_4, cp_5, cp_6, cp_7, cp_12, cp_20, cp_30, cp_38, cp_39, cp_40, sv, t1, k1, k2, k3, Int.reduceEq])
        refine callS_of ⟨hp, by simp, ln _ (by simp), fun i v hv => ?_⟩
        obtain ⟨d, sB⟩ := bad_all hv
        exact ⟨s, .rfl, h _ d sB⟩
      · (first | rw [Nx_eq] | rw [Arm_eq] | skip); (try simp_all only [ss_nil, Nx_nil, Arm_nil, sz_0, sz_1, sz_2, sz_3, sz_4, sz_5, sz_6, sz_7, sz_8, sz_9, sz_10, sz_11, sz_12, cp_2, cp_3, cp_4, cp_5, cp_6, cp_7, cp_12, cp_20, cp_30, cp_38, cp_39, cp_40, sv, t1, k1, k2, k3, Int.reduceEq])
        (first | rw [Nx_eq] | rw [Arm_eq] | skip); (try simp_all only [ss_nil, Nx_nil, Arm_nil, sz_0, sz_1, sz_2, sz_3, sz_4, sz_5, sz_6, sz_7, sz_8, sz_9, sz_10, sz_11, sz_12, cp_2, cp_3, cp_4, cp_5, cp_6, cp_7, cp_12, cp_20, cp_30, cp_38, cp_39, cp_40, sv, t1, k1, k2, k3, Int.reduceEq])
        (first | rw [Nx_eq] | rw [Arm_eq] | skip); (try simp_all only [ss_nil, Nx_nil, Arm_nil, sz_0, sz_1, sz_2, sz_3, sz_4, sz_5, sz_6, sz_7, sz_8, sz_9, sz_10, sz_11, sz_12, cp_2, cp_3, cp_4, cp_5, cp_6, cp_7, cp_12, cp_20, cp_30, cp_38, cp_39, cp_40, sv, t1, k1, k2, k3, Int.reduceEq])
        (first | rw [Nx_eq] | rw [Arm_eq] | skip); (try simp_all only [ss_nil, Nx_nil, Arm_nil, sz_0, sz_1, sz_2, sz_3, sz_4, sz_5, sz_6, sz_7, sz_8, sz_9, sz_10, sz_11, sz_12, cp_2, cp_3, cp_4, cp_5, cp_6, cp_7, cp_12, cp_20, cp_30, cp_38, cp_39, cp_40, sv, t1, k1, k2, k3, Int.reduceEq])
        (first | rw [Nx_eq] | rw [Arm_eq] | skip); (try simp_all only [ss_nil, Nx_nil, Arm_nil, sz_0, sz_1, sz_2, sz_3, sz_4, sz_5, sz_6, sz_7, sz_8, sz_9, sz_10, sz_11, sz_12, cp_2, cp_3, cp_4, cp_5, cp_6, cp_7, cp_12, cp_20, cp_30, cp_38, cp_39, cp_40, sv, t1, k1, k2, k3, Int.reduceEq])
        (first | rw [Nx_eq] | rw [Arm_eq] | skip); (try simp_all only [ss_nil, Nx_nil, Arm_nil, sz_0, sz_1, sz_2, sz_3, sz_4, sz_5, sz_6, sz_7, sz_8, sz_9, sz_10, sz_11, sz_12, cp_2, cp_3, cp_4, cp_5, cp_6, cp_7, cp_12, cp_20, cp_30, cp_38, cp_39, cp_40, sv, t1, k1, k2, k3, Int.reduceEq])
        (first | rw [Nx_eq] | rw [Arm_eq] | skip); (try simp_all only [ss_nil, Nx_nil, Arm_nil, sz_0, sz_1, sz_2, sz_3, sz_4, sz_5, sz_6, sz_7, sz_8, sz_9, sz_10, sz_11, sz_12, cp_2, cp_3, cp_4, cp_5, cp_6, cp_7, cp_12, cp_20, cp_30, cp_38, cp_39, cp_40, sv, t1, k1, k2, k3, Int.reduceEq])
        refine callS_of ⟨hp, by simp, ln _ (by simp), fun i v hv => ?_⟩
        obtain ⟨d, sB⟩ := bad_all hv
        exact ⟨s, .rfl, h _ d sB⟩
    | fi a sg n =>
      have sv : senV (.fi a sg n) = .tup [.str "first", .str a, .str (sgS sg), .int n] := rfl
      have t1 : (("first" : Str) = ("never" : Str)) = False := eq_false (by decide)
      have t2 : (("first" : Str) = ("rest" : Str)) = False := eq_false (by decide)
      have d0 : dn (.str a) = true := dn_s (lt_len hx.1)
      have ds : dn (.str (sgS sg)) = true := dn_s (sg_len sg)
      have k1 : cutP [PV.str "first", .str a, .str (sgS sg), .int n] none (some (-1)) = [.str "first", .str a, .str (sgS sg)] := rfl
      have k2 : cutP [PV.str "first", .str a, .str (sgS sg), .int n] (some 1) none = [.str a, .str (sgS sg), .int n] := rfl
      have k3 : cutP [PV.str "first", .str a, .str (sgS sg), .int n] (some 2) none = [.str (sgS sg), .int n] := rfl
      have k4 : cutP [PV.str "first", .str a, .str (sgS sg), .int n] none (some (-2)) = [.str "first", .str a] := rfl
      have al : atI [PV.str "first", .str a, .str (sgS sg), .int n] (-1) = some (.int n) := atI_last.trans rfl
      have four : ∀ x y z : PV, sentB (.tup (.str "first" :: x :: [y, z])) = (letB x 12 && boundB y z ["<", "<="]) := fun x y z => by
        obtain ⟨_, _, e, hB⟩ := (sent_first (y := x) (r := [y, z])).1 rfl
        cases e
        exact hB
      rcases ways with rfl | rfl | rfl | rfl | rfl | rfl | rfl | rfl
      · (first | rw [Nx_eq] | rw [Arm_eq] | skip); (try simp_all only [ss_nil, Nx_nil, Arm_nil, sz_0, sz_1, sz_2, sz_3, sz_4, sz_5, sz_6, sz_7, sz_8, sz_9, sz_10, sz_11, sz_12, cp_2, cp_3, cp_4, cp_5, cp_6, cp_7, cp_12, cp_20, cp_30, cp_38, cp_39, cp_40, sv, t1, t2, k1, k2, k3, k4, al, Int.reduceEq, ↓v_neSS2])
        (first | rw [Nx_eq] | rw [Arm_eq] | skip); (try simp_all only [ss_nil, Nx_nil, Arm_nil, sz_0, sz_1, sz_2, sz_3, sz_4, sz_5, sz_6, sz_7, sz_8, sz_9, sz_10, sz_11, sz_12, cp_2, cp_3, cp_4, cp_5, cp_6, cp_7, cp_12, cp_20, cp_30, cp_38, cp_39, cp_40, sv, t1, t2, k1, k2, k3, k4, al, Int.reduceEq, ↓v_neSS2])
        exact ⟨s, .rfl, h _ hd rfl⟩
      · (first | rw [Nx_eq] | rw [Arm_eq] | skip); (try simp_all only [ss_nil, Nx_nil, Arm_nil, sz_0, sz_1, sz_2, sz_3, sz_4, sz_5, sz_6, sz_7, sz_8, sz_9, sz_10, sz_11, sz_12, cp_2, cp_3, cp_4, cp_5, cp_6, cp_7, cp_12, cp_20, cp_30, cp_38, cp_39, cp_40, sv, t1, t2, k1, k2, k3, k4, al, Int.reduceEq, ↓v_neSS2])
        (first | rw [Nx_eq] | rw [Arm_eq] | skip); (try simp_all only [ss_nil, Nx_nil, Arm_nil, sz_0, sz_1, sz_2, sz_3, sz_4, sz_5, sz_6, sz_7, sz_8, sz_9, sz_10, sz_11, sz_12, cp_2, cp_3, cp_4, cp_5, cp_6, cp_7, cp_12, cp_20, cp_30, cp_38, cp_39, cp_40, sv, t1, t2, k1, k2, k3, k4, al, Int.reduceEq, ↓v_neSS2])
        (first | rw [Nx_eq] | rw [Arm_eq] | skip); (try simp_all only [ss_nil, Nx_nil, Arm_nil, sz_0, sz_1, sz_2, sz_3, sz_4, sz_5, sz_6, sz_7, sz_8, sz_9, sz_10, sz_11, sz_12, cp_2, cp_3, cp_4, cp_5, cp_6, cp_7, cp_12, cp_20, cp_30, cp_38, cp_39, cp_40, sv, t1, t2, k1, k2, k3, k4, al, Int.reduceEq, ↓v_neSS2])
        exact ⟨s, .rfl, h _ (dn_cons rfl (dn_cons d0 (dn_cons ds (dn_cons rfl (dn_cons rfl rfl))))) (sent_first.2 (by simp))⟩
      · (first | rw [Nx_eq] | rw [Arm_eq] | skip); (try simp_all only [ss_nil, Nx_nil, Arm_nil, sz_0, sz_1, sz_2, sz_3, sz_4, sz_5, sz_6, sz_7, sz_8, sz_9, sz_10, sz_11, sz_12, cp_2, cp_3, cp_4, cp_5, cp_6, cp_7, cp_12, cp_20, cp_30, cp_38, cp_39, cp_40, sv, t1, t2, k1, k2, k3, k4, al, Int.reduceEq, ↓v_neSS2])
        (first | rw [Nx_eq] | rw [Arm_eq] | skip); (try simp_all only [ss_nil, Nx_nil, Arm_nil, sz_0, sz_1, sz_2, sz_3, sz_4, sz_5, sz_6, sz_7, sz_8, sz_9, sz_10, sz_11, sz_12, cp_2, cp_3, cp_4, cp_5, cp_6, cp_7, cp_12, cp_20, cp_30, cp_38, cp_39, cp_40, sv, t1, t2, k1, k2, k3, k4, al, Int.reduceEq, ↓v_neSS2])
        (first | rw [Nx_eq] | rw [Arm_eq] | skip); (try simp_all only [ss_nil, Nx_nil, Arm_nil, sz_0, sz_1, sz_2, sz_3, sz_4, sz_5, sz_6, sz_7, sz_8, sz_9, sz_10, sz_11, sz_12, cp_2, cp_3, cp_4, cp_5, cp_6, cp_7, cp_12, cp_20, cp_30, cp_38, cp_39, cp_40, sv, t1, t2, k1, k2, k3, k4, al, Int.reduceEq, ↓v_neSS2])
        (first | rw [Nx_eq] | rw [Arm_eq] | skip); (try simp_all only [ss_nil, Nx_nil, Arm_nil, sz_0, sz_1, sz_2, sz_3, sz_4, sz_5, sz_6, sz_7, sz_8, sz_9, sz_10, sz_11, sz_12, cp_2, cp_3, cp_4, cp_5, cp_6, cp_7, cp_12, cp_20, cp_30, cp_38, cp_39, cp_40, sv, t1, t2, k1, k2, k3, k4, al, Int.reduceEq, ↓v_neSS2])
        exact ⟨s, .rfl, h _ (dn_cons rfl (dn_cons d0 (dn_cons ds rfl))) (sent_first.2 (by simp))⟩
      · (first | rw [Nx_eq] | rw [Arm_eq] | skip); (try simp_all only [ss_nil, Nx_nil, Arm_nil, sz_0, sz_1, sz_2, sz_3, sz_4, sz_5, sz_6, sz_7, sz_8, sz_9, sz_10, sz_11, sz_12, cp_2, cp_3, cp_4, cp_5, cp_6, cp_7, cp_12, cp_20, cp_30, cp_38, cp_39, cp_40, sv, t1, t2, k1, k2, k3, k4, al, Int.reduceEq, ↓v_neSS2])
        (first | rw [Nx_eq] | rw [Arm_eq] | skip); (try simp_all only [ss_nil, Nx_nil, Arm_nil, sz_0, sz_1, sz_2, sz_3, sz_4, sz_5, sz_6, sz_7, sz_8, sz_9, sz_10, sz_11, sz_12, cp_2, cp_3, cp_4, cp_5, cp_6, cp_7, cp_12, cp_20, cp_30, cp_38, cp_39, cp_40, sv, t1, t2, k1, k2, k3, k4, al, Int.reduceEq, ↓v_neSS2])
        (first | rw [Nx_eq] | rw [Arm_eq] | skip); (try simp_all only [ss_nil, Nx_nil, Arm_nil, sz_0, sz_1, sz_2, sz_3, sz_4, sz_5, sz_6, sz_7, sz_8, sz_9, sz_10, sz_11, sz_12, cp_2, cp_3, cp_4, cp_5, cp_6, cp_7, cp_12, cp_20, cp_30, cp_38, cp_39, cp_40, sv, t1, t2, k1, k2, k3, k4, al, Int.reduceEq, ↓v_neSS2])
        (first | rw [Nx_eq] | rw [Arm_eq] | skip); (try simp_all only [ss_nil, Nx_nil, Arm_nil, sz_0, sz_1, sz_2, sz_3, sz_4, sz_5, sz_6, sz_7, sz_8, sz_9, sz_10, sz_11, sz_12, cp_2, cp_3, cp_4, cp_5, cp_6, cp_7, cp_12, cp_20, cp_30, cp_38, cp_39, cp_40, sv, t1, t2, k1, k2, k3, k4, al, Int.reduceEq, ↓v_neSS2])
        (first | rw [Nx_eq] | rw [Arm_eq] | skip); (try simp_all only [ss_nil, Nx_nil, Arm_nil, sz_0, sz_1, sz_2, sz_3, sz_4, sz_5, sz_6, sz_7, sz_8, sz_9, sz_10, sz_11, sz_12, cp_2, cp_3, cp_4, cp_5, cp_6, cp_7, cp_12, cp_20, cp_30, cp_38, cp_39, cp_40, sv, t1, t2, k1, k2, k3, k4, al, Int.reduceEq, ↓v_neSS2])
        refine callS_of ⟨hp, by simp, ln _ (by simp), fun i v hv => ?_⟩
        obtain ⟨d, sB⟩ := bad_head (r := [.str a, .str (sgS sg), .int n]) hv
        simp_all only [ss_nil, Nx_nil, Arm_nil, sz_0, sz_1, sz_2, sz_3, sz_4, sz_5, sz_6, sz_7, sz_8, sz_9, sz_10, sz_11, sz_12, cp_2, cp_3, cp_4, cp_5, cp_6, cp_7, cp_12, cp_20, cp_30, cp_38, cp_39, cp_40, sv, k2]
        exact ⟨s, .rfl, h _ (dn_cons d (dn_cons d0 (dn_cons ds (dn_cons rfl rfl)))) sB⟩
      · (first | rw [Nx_eq] | rw [Arm_eq] | skip); (try simp_all only [ss_nil, Nx_nil, Arm_nil, sz_0, sz_1, sz_2, sz_3, sz_4, sz_5, sz_6, sz_7, sz_8, sz_9, sz_10, sz_11, sz_12, cp_2, cp_3, cp_4, cp_5, cp_6, cp_7, cp_12, cp_20, cp_30, cp_38, cp_39, cp_40, sv, t1, t2, k1, k2, k3, k4, al, Int.reduceEq, ↓v_neSS2])
        (first | rw [Nx_eq] | rw [Arm_eq] | skip); (try simp_all only [ss_nil, Nx_nil, Arm_nil, sz_0, sz_1, sz_2, sz_3, sz_4, sz_5, sz_6, sz_7, sz_8, sz_9, sz_10, sz_11, sz_12, cp_2, cp_3, cp_4, cp_5, cp_6, cp_7, cp_12, cp_20, cp_30, cp_38, cp_39, cp_40, sv, t1, t2, k1, k2, k3, k4, al, Int.reduceEq, ↓v_neSS2])
        (first | rw [Nx_eq] | rw [Arm_eq] | skip); (try simp_all only [ss_nil, Nx_nil, Arm_nil, sz_0, sz_1, sz_2, sz_3, sz_4, sz_5, sz_6, sz_7, sz_8, sz_9, sz_10, sz_11, sz_12, cp_2, cp_3, cp_4, cp_5, cp_6, cp_7, cp_12, cp_20, cp_30, cp_38, cp_39, cp_40, sv, t1, t2, k1, k2, k3, k4, al, Int.reduceEq, ↓v_neSS2])
        (first | rw [Nx_eq] | rw [Arm_eq] | skip); (try simp_all only [ss_nil, Nx_nil, Arm_nil, sz_0, sz_1, sz_2, sz_3, sz_4, sz_5, sz_6, sz_7, sz_8, sz_9, sz_10, sz_11, sz_12, cp_2, cp_3, cp_4, cp_5, cp_6, cp_7, cp_12, cp_20, cp_30, cp_38, cp_39, cp_40, sv, t1, t2, k1, k2, k3, k4, al, Int.reduceEq, ↓v_neSS2])
        (first | rw [Nx_eq] | rw [Arm_eq] | skip); (try simp_all only [ss_nil, Nx_nil, Arm_nil, sz_0, sz_1, sz_2, sz_3, sz_4, sz_5, sz_6, sz_7, sz_8, sz_9, sz_10, sz_11, sz_12, cp_2, cp_3, cp_4, cp_5, cp_6, cp_7, cp_12, cp_20, cp_30, cp_38, cp_39, cp_40, sv, t1, t2, k1, k2, k3, k4, al, Int.reduceEq, ↓v_neSS2])
        (first | rw [Nx_eq] | rw [Arm_eq] | skip); (try simp_all only [ss_nil, Nx_nil, Arm_nil, sz_0, sz_1, sz_2, sz_3, sz_4, sz_5, sz_6, sz_7, sz_8, sz_9, sz_10, sz_11, sz_12, cp_2, cp_3, cp_4, cp_5, cp_6, cp_7, cp_12, cp_20, cp_30, cp_38, cp_39, cp_40, sv, t1, t2, k1, k2, k3, k4, al, Int.reduceEq, ↓v_neSS2])
        refine ⟨by decide, callS_of ⟨hp, by simp, ln _ (by simp), fun i v hv => ?_⟩⟩
        obtain ⟨d, lB⟩ := bad_let hv
        simp_all only [ss_nil, Nx_nil, Arm_nil, sz_0, sz_1, sz_2, sz_3, sz_4, sz_5, sz_6, sz_7, sz_8, sz_9, sz_10, sz_11, sz_12, cp_2, cp_3, cp_4, cp_5, cp_6, cp_7, cp_12, cp_20, cp_30, cp_38, cp_39, cp_40, sv, k3]
        exact ⟨s, .rfl, h _ (dn_cons rfl (dn_cons d (dn_cons ds (dn_cons rfl rfl)))) (by rw [four, lB]; rfl)⟩
      · (first | rw [Nx_eq] | rw [Arm_eq] | skip); (try simp_all only [ss_nil, Nx_nil, Arm_nil, sz_0, sz_1, sz_2, sz_3, sz_4, sz_5, sz_6, sz_7, sz_8, sz_9, sz_10, sz_11, sz_12, cp_2, cp_3, cp_4, cp_5, cp_6, cp_7, cp_12, cp_20, cp_30, cp_38, cp_39, cp_40, sv, t1, t2, k1, k2, k3, k4, al, Int.reduceEq, ↓v_neSS2])
        (first | rw [Nx_eq] | rw [Arm_eq] | skip); (try simp_all only [ss_nil, Nx_nil, Arm_nil, sz_0, sz_1, sz_2, sz_3, sz_4, sz_5, sz_6, sz_7, sz_8, sz_9, sz_10, sz_11, sz_12, cp_2, cp_3, cp_4, cp_5, cp_6, cp_7, cp_12, cp_20, cp_30, cp_38, cp_39, cp_40, sv, t1, t2, k1, k2, k3, k4, al, Int.reduceEq, ↓v_neSS2])
        (first | rw [Nx_eq] | rw [Arm_eq] | skip); (try simp_all only [ss_nil, Nx_nil, Arm_nil, sz_0, sz_1, sz_2, sz_3, sz_4, sz_5, sz_6, sz_7, sz_8, sz_9, sz_10, sz_11, sz_12, cp_2, cp_3, cp_4, cp_5, cp_6, cp_7, cp_12, cp_20, cp_30, cp_38, cp_39, cp_40, sv, t1, t2, k1, k2, k3, k4, al, Int.reduceEq, ↓v_neSS2])
        (first | rw [Nx_eq] | rw [Arm_eq] | skip); (try simp_all only [ss_nil, Nx_nil, Arm_nil, sz_0, sz_1, sz_2, sz_3, sz_4, sz_5, sz_6, sz_7, sz_8, sz_9, sz_10, sz_11, sz_12, cp_2, cp_3, cp_4, cp_5, cp_6, cp_7, cp_12, cp_20, cp_30, cp_38, cp_39, cp_40, sv, t1, t2, k1, k2, k3, k4, al, Int.reduceEq, ↓v_neSS2])
        (first | rw [Nx_eq] | rw [Arm_eq] | skip); (try simp_all only [ss_nil, Nx_nil, Arm_nil, sz_0, sz_1, sz_2, sz_3, sz_4, sz_5, sz_6, sz_7, sz_8, sz_9, sz_10, sz_11, sz_12, cp_2, cp_3, cp_4, cp_5, cp_6, cp_7, cp_12, cp_20, cp_30, cp_38, cp_39, cp_40, sv, t1, t2, k1, k2, k3, k4, al, Int.reduceEq, ↓v_neSS2])
        (first | rw [Nx_eq] | rw [Arm_eq] | skip); (try simp_all only [ss_nil, Nx_nil, Arm_nil, sz_0, sz_1, sz_2, sz_3, sz_4, sz_5, sz_6, sz_7, sz_8, sz_9, sz_10, sz_11, sz_12, cp_2, cp_3, cp_4, cp_5, cp_6, cp_7, cp_12, cp_20, cp_30, cp_38, cp_39, cp_40, sv, t1, t2, k1, k2, k3, k4, al, Int.reduceEq, ↓v_neSS2])
        (first | rw [Nx_eq] | rw [Arm_eq] | skip); (try simp_all only [ss_nil, Nx_nil, Arm_nil, sz_0, sz_1, sz_2, sz_3, sz_4, sz_5, sz_6, sz_7, sz_8, sz_9, sz_10, sz_11, sz_12, cp_2, cp_3, cp_4, cp_5, cp_6, cp_7, cp_12, cp_20, cp_30, cp_38, cp_39, cp_40, sv, t1, t2, k1, k2, k3, k4, al, Int.reduceEq, ↓v_neSS2])
        refine callS_of ⟨hp, by simp, ln _ (by simp), fun i v hv => ?_⟩
        obtain ⟨d, sB⟩ := bad_all hv
        exact ⟨s, .rfl, h _ d sB⟩
      · (first | rw [Nx_eq] | rw [Arm_eq] | skip); (try simp_all only [ss_nil, Nx_nil, Arm_nil, sz_0, sz_1, sz_2, sz_3, sz_4, sz_5, sz_6, sz_7, sz_8, sz_9, sz_10, sz_11, sz_12, cp_2, cp_3, cp_4, cp_5, cp_6, cp_7, cp_12, cp_20, cp_30, cp_38, cp_39, cp_40, sv, t1, t2, k1, k2, k3, k4, al, Int.reduceEq, ↓v_neSS2])
        (first | rw [Nx_eq] | rw [Arm_eq] | skip); (try simp_all only [ss_nil, Nx_nil, Arm_nil, sz_0, sz_1, sz_2, sz_3, sz_4, sz_5, sz_6, sz_7, sz_8, sz_9, sz_10, sz_11, sz_12, cp_2, cp_3, cp_4, cp_5, cp_6, cp_7, cp_12, cp_20, cp_30, cp_38, cp_39, cp_40, sv, t1, t2, k1, k2, k3, k4, al, Int.reduceEq, ↓v_neSS2])
        (first | rw [Nx_eq] | rw [Arm_eq] | skip); (try simp_all only [ss_nil, Nx_nil, Arm_nil, sz_0, sz_1, sz_2, sz_3, sz_4, sz_5, sz_6, sz_7, sz_8, sz_9, sz_10, sz_11, sz_12, cp_2, cp_3, cp_4, cp_5, cp_6, cp_7, cp_12, cp_20, cp_30, cp_38, cp_39, cp_40, sv, t1, t2, k1, k2, k3, k4, al, Int.reduceEq, ↓v_neSS2])
        (first | rw [Nx_eq] | rw [Arm_eq] | skip); (try simp_all only [ss_nil, Nx_nil, Arm_nil, sz_0, sz_1, sz_2, sz_3, sz_4, sz_5, sz_6, sz_7, sz_8, sz_9, sz_10, sz_11, sz_12, cp_2, cp_3, cp_4, cp_5, cp_6, cp_7, cp_12, cp_20, cp_30, cp_38, cp_39, cp_40, sv, t1, t2, k1, k2, k3, k4, al, Int.reduceEq, ↓v_neSS2])
        (first | rw [Nx_eq] | rw [Arm_eq] | skip); (try simp_all only [ss_nil, Nx_nil, Arm_nil, sz_0, sz_1, sz_2, sz_3, sz_4, sz_5, sz_6, sz_7, sz_8, sz_9, sz_10, sz_11, sz_12, cp_2, cp_3, cp_4, cp_5, cp_6, cp_7, cp_12, cp_20, cp_30, cp_38, cp_39, cp_40, sv, t1, t2, k1, k2, k3, k4, al, Int.reduceEq, ↓v_neSS2])
        (first | rw [Nx_eq] | rw [Arm_eq] | skip); (try simp_all only [ss_nil, Nx_nil, Arm_nil, sz_0, sz_1, sz_2, sz_3, sz_4, sz_5, sz_6, sz_7, sz_8, sz_9, sz_10, sz_11, sz_12, cp_2, cp_3, cp_4, cp_5, cp_6, cp_7, cp_12, cp_20, cp_30, cp_38, cp_39, cp_40, sv, t1, t2, k1, k2, k3, k4, al, Int.reduceEq, ↓v_neSS2])
        (first | rw [Nx_eq] | rw [Arm_eq] | skip); (try simp_all only [ss_nil, Nx_nil, Arm_nil, sz_0, sz_1, sz_2, sz_3, sz_4, sz_5, sz_6, sz_7, sz_8, sz_9, sz_10, sz_11, sz_12, cp_2, cp_3, cp_4, cp_5, cp_6, cp_7, cp_12, cp_20, cp_30, cp_38, cp_39, cp_40, sv, t1, t2, k1, k2, k3, k4, al, Int.reduceEq, ↓v_neSS2])
        (first | rw [Nx_eq] | rw [Arm_eq] | skip); (try simp_all only [ss_nil, Nx_nil, Arm_nil, sz_0, sz_1, sz_2, sz_3, sz_4, sz_5, sz_6, sz_7, sz_8, sz_9, sz_10, sz_11, sz_12, cp_2, cp_3, cp_4, cp_5, cp_6, cp_7, cp_12, cp_20, cp_30, cp_38, cp_39, cp_40, sv, t1, t2, k1, k2, k3, k4, al, Int.reduceEq, ↓v_neSS2])
        refine callS_of ⟨hp, by simp, ln _ (by simp), fun i v hv => ?_⟩
        obtain ⟨d, bB⟩ := bad_num hv
        simp_all only [ss_nil, Nx_nil, Arm_nil, sz_0, sz_1, sz_2, sz_3, sz_4, sz_5, sz_6, sz_7, sz_8, sz_9, sz_10, sz_11, sz_12, cp_2, cp_3, cp_4, cp_5, cp_6, cp_7, cp_12, cp_20, cp_30, cp_38, cp_39, cp_40]
        exact ⟨s, .rfl, h _ (dn_cons rfl (dn_cons d0 (dn_cons ds (dn_cons d rfl)))) (by rw [four, bB, Bool.and_false])⟩
      · (first | rw [Nx_eq] | rw [Arm_eq] | skip); (try simp_all only [ss_nil, Nx_nil, Arm_nil, sz_0, sz_1, sz_2, sz_3, sz_4, sz_5, sz_6, sz_7, sz_8, sz_9, sz_10, sz_11, sz_12, cp_2, cp_3, cp_4, cp_5, cp_6, cp_7, cp_12, cp_20, cp_30, cp_38, cp_39, cp_40, sv, t1, t2, k1, k2, k3, k4, al, Int.reduceEq, ↓v_neSS2])
        (first | rw [Nx_eq] | rw [Arm_eq] | skip); (try simp_all only [ss_nil, Nx_nil, Arm_nil, sz_0, sz_1, sz_2, sz_3, sz_4, sz_5, sz_6, sz_7, sz_8, sz_9, sz_10, sz_11, sz_12, cp_2, cp_3, cp_4, cp_5, cp_6, cp_7, cp_12, cp_20, cp_30, cp_38, cp_39, cp_40, sv, t1, t2, k1, k2, k3, k4, al, Int.reduceEq, ↓v_neSS2])
        (first | rw [Nx_eq] | rw [Arm_eq] | skip); (try simp_all only [ss_nil, Nx_nil, Arm_nil, sz_0, sz_1, sz_2, sz_3, sz_4, sz_5, sz_6, sz_7, sz_8, sz_9, sz_10, sz_11, sz_12, cp_2, cp_3, cp_4, cp_5, cp_6, cp_7, cp_12, cp_20, cp_30, cp_38, cp_39, cp_40, sv, t1, t2, k1, k2, k3, k4, al, Int.reduceEq, ↓v_neSS2])
        (first | rw [Nx_eq] | rw [Arm_eq] | skip); (try simp_all only [ss_nil, Nx_nil, Arm_nil, sz_0, sz_1, sz_2, sz_3, sz_4, sz_5, sz_6, sz_7, sz_8, sz_9, sz_10, sz_11, sz_12, cp_2, cp_3, cp_4, cp_5, cp_6, cp_7, cp_12, cp_20, cp_30, cp_38, cp_39, cp_40, sv, t1, t2, k1, k2, k3, k4, al, Int.reduceEq, ↓v_neSS2])
        (first | rw [Nx_eq] | rw [Arm_eq] | skip); (try simp_all only [ss_nil, Nx_nil, Arm_nil, sz_0, sz_1, sz_2, sz_3, sz_4, sz_5, sz_6, sz_7, sz_8, sz_9, sz_10, sz_11, sz_12, cp_2, cp_3, cp_4, cp_5, cp_6, cp_7, cp_12, cp_20, cp_30, cp_38, cp_39, cp_40, sv, t1, t2, k1, k2, k3, k4, al, Int.reduceEq, ↓v_neSS2])
        (first | rw [Nx_eq] | rw [Arm_eq] | skip); (try simp_all only [ss_nil, Nx_nil, Arm_nil, sz_0, sz_1, sz_2, sz_3, sz_4, sz_5, sz_6, sz_7, sz_8, sz_9, sz_10, sz_11, sz_12, cp_2, cp_3, cp_4, cp_5, cp_6, cp_7, cp_12, cp_20, cp_30, cp_38, cp_39, cp_40, sv, t1, t2, k1, k2, k3, k4, al, Int.reduceEq, ↓v_neSS2])
        (first | rw [Nx_eq] | rw [Arm_eq] | skip); (try simp_all only [ss_nil, Nx_nil, Arm_nil, sz_0, sz_1, sz_2, sz_3, sz_4, sz_5, sz_6, sz_7, sz_8, sz_9, sz_10, sz_11, sz_12, cp_2, cp_3, cp_4, cp_5, cp_6, cp_7, cp_12, cp_20, cp_30, cp_38, cp_39, cp_40, sv, t1, t2, k1, k2, k3, k4, al, Int.reduceEq, ↓v_neSS2])
        (first | rw [Nx_eq] | rw [Arm_eq] | skip); (try simp_all only [ss_nil, Nx_nil, Arm_nil, sz_0, sz_1, sz_2, sz_3, sz_4, sz_5, sz_6, sz_7, sz_8, sz_9, sz_10, sz_11, sz_12, cp_2, cp_3, cp_4, cp_5, cp_6, cp_7, cp_12, cp_20, cp_30, cp_38, cp_39, cp_40, sv, t1, t2, k1, k2, k3, k4, al, Int.reduceEq, ↓v_neSS2])
        refine callS_of ⟨hp, by simp, ln _ (by simp), fun i v hv => ?_⟩
        obtain ⟨d, bB⟩ := bad_sg (signs := ["<", "<="]) (by decide) (by decide) (by decide) (by decide) hv
        simp_all only [ss_nil, Nx_nil, Arm_nil, sz_0, sz_1, sz_2, sz_3, sz_4, sz_5, sz_6, sz_7, sz_8, sz_9, sz_10, sz_11, sz_12, cp_2, cp_3, cp_4, cp_5, cp_6, cp_7, cp_12, cp_20, cp_30, cp_38, cp_39, cp_40, sv, al]
        exact ⟨s, .rfl, h _ (dn_cons rfl (dn_cons d0 (dn_cons d (dn_cons rfl rfl)))) (by rw [four, bB, Bool.and_false])⟩
    | two k a b sg n =>
      have sv : senV (.two k a b sg n) = .tup [.str k, .str a, .str b, .str (sgS sg), .int n] := rfl
      obtain ⟨h1, h2, h3, h4⟩ := id hx
      have hk : k = "soon" ∨ k = "rest" ∨ k = "fresh" := (ds_ok hx).2
      have kn : k ≠ "never" ∧ k ≠ "first" := by rcases hk with rfl | rfl | rfl <;> exact ⟨by decide, by decide⟩
      have t1 : (k = ("never" : Str)) = False := eq_false kn.1
      have dk : dn (.str k) = true := dn_s (by rcases hk with rfl | rfl | rfl <;> decide)
      have d0 : dn (.str a) = true := dn_s (lt_len h1)
      have d1 : dn (.str b) = true := dn_s (lt_len h2)
      have ds : dn (.str (sgS sg)) = true := dn_s (sg_len sg)
      have k1 : cutP [PV.str k, .str a, .str b, .str (sgS sg), .int n] none (some (-1)) = [.str k, .str a, .str b, .str (sgS sg)] := rfl
      have k2 : cutP [PV.str k, .str a, .str b, .str (sgS sg), .int n] (some 1) none = [.str a, .str b, .str (sgS sg), .int n] := rfl
      have k3 : cutP [PV.str k, .str a, .str b, .str (sgS sg), .int n] (some 2) none = [.str b, .str (sgS sg), .int n] := rfl
      have k4 : cutP [PV.str k, .str a, .str b, .str (sgS sg), .int n] none (some (-2)) = [.str k, .str a, .str b] := rfl
      have al : atI [PV.str k, .str a, .str b, .str (sgS sg), .int n] (-1) = some (.int n) := atI_last.trans rfl
      have five : ∀ x y z u : PV, sentB (.tup (.str k :: x :: [y, z, u])) = (letB x 12 && letB y 12 && boundB z u (if k = "rest" then [">", ">="] else ["<", "<="])) := fun x y z u => by
        obtain ⟨_, _, _, e, hB⟩ := (sent_two (y := x) (r := [y, z, u]) kn.1 kn.2 hk).1 rfl
        cases e
        exact hB
      rcases ways with rfl | rfl | rfl | rfl | rfl | rfl | rfl | rfl
      · (first | rw [Nx_eq] | rw [Arm_eq] | skip); (try simp_all only [ss_nil, Nx_nil, Arm_nil, sz_0, sz_1, sz_2, sz_3, sz_4, sz_5, sz_6, sz_7, sz_8, sz_9, sz_10, sz_11, sz_12, cp_2, cp_3, cp_4, cp_5, cp_6, cp_7, cp_12, cp_20, cp_30, cp_38, cp_39, cp_40, sv, t1, k1, k2, k3, k4, al, Int.reduceEq])
        (first | rw [Nx_eq] | rw [Arm_eq] | skip); (try simp_all only [ss_nil, Nx_nil, Arm_nil, sz_0, sz_1, sz_2, sz_3, sz_4, sz_5, sz_6, sz_7, sz_8, sz_9, sz_10, sz_11, sz_12, cp_2, cp_3, cp_4, cp_5, cp_6, cp_7, cp_12, cp_20, cp_30, cp_38, cp_39, cp_40, sv, t1, k1, k2, k3, k4, al, Int.reduceEq])
        exact ⟨s, .rfl, h _ hd rfl⟩
      · (first | rw [Nx_eq] | rw [Arm_eq] | skip); (try simp_all only [ss_nil, Nx_nil, Arm_nil, sz_0, sz_1, sz_2, sz_3, sz_4, sz_5, sz_6, sz_7, sz_8, sz_9, sz_10, sz_11, sz_12, cp_2, cp_3, cp_4, cp_5, cp_6, cp_7, cp_12, cp_20, cp_30, cp_38, cp_39, cp_40, sv, t1, k1, k2, k3, k4, al, Int.reduceEq])
        (first | rw [Nx_eq] | rw [Arm_eq] | skip); (try simp_all only [ss_nil, Nx_nil, Arm_nil, sz_0, sz_1, sz_2, sz_3, sz_4, sz_5, sz_6, sz_7, sz_8, sz_9, sz_10, sz_11, sz_12, cp_2, cp_3, cp_4, cp_5, cp_6, cp_7, cp_12, cp_20, cp_30, cp_38, cp_39, cp_40, sv, t1, k1, k2, k3, k4, al, Int.reduceEq])
        (first | rw [Nx_eq] | rw [Arm_eq] | skip); (try simp_all only [ss_nil, Nx_nil, Arm_nil, sz_0, sz_1, sz_2, sz_3, sz_4, sz_5, sz_6, sz_7, sz_8, sz_9, sz_10, sz_11, sz_12, cp_2, cp_3, cp_4, cp_5, cp_6, cp_7, cp_12, cp_20, cp_30, cp_38, cp_39, cp_40, sv, t1, k1, k2, k3, k4, al, Int.reduceEq])
        exact ⟨s, .rfl, h _ (dn_cons dk (dn_cons d0 (dn_cons d1 (dn_cons ds (dn_cons rfl (dn_cons rfl rfl)))))) ((sent_two kn.1 kn.2 hk).2 (by simp))⟩
      · (first | rw [Nx_eq] | rw [Arm_eq] | skip); (try simp_all only [ss_nil, Nx_nil, Arm_nil, sz_0, sz_1, sz_2, sz_3, sz_4, sz_5, sz_6, sz_7, sz_8, sz_9, sz_10, sz_11, sz_12, cp_2, cp_3, cp_4, cp_5, cp_6, cp_7, cp_12, cp_20, cp_30, cp_38, cp_39, cp_40, sv, t1, k1, k2, k3, k4, al, Int.reduceEq])
        (first | rw [Nx_eq] | rw [Arm_eq] | skip); (try simp_all only [ss_nil, Nx_nil, Arm_nil, sz_0, sz_1, sz_2, sz_3, sz_4, sz_5, sz_6, sz_7, sz_8, sz_9, sz_10, sz_11, sz_12, cp_2, cp_3, cp_4, cp_5, cp_6, cp_7, cp_12, cp_20, cp_30, cp_38, cp_39, cp_40, sv, t1, k1, k2, k3, k4, al, Int.reduceEq])
        (first | rw [Nx_eq] | rw [Arm_eq] | skip); (try simp_all only [ss_nil, Nx_nil, Arm_nil, sz_0, sz_1, sz_2, sz_3, sz_4, sz_5, sz_6, sz_7, sz_8, sz_9, sz_10, sz_11, sz_12, cp_2, cp_3, cp_4, cp_5, cp_6, cp_7, cp_12, cp_20, cp_30, cp_38, cp_39, cp_40, sv, t1, k1, k2, k3, k4, al, Int.reduceEq])
        (first | rw [Nx_eq] | rw [Arm_eq] | skip); (try simp_all only [ss_nil, Nx_nil, Arm_nil, sz_0, sz_1, sz_2, sz_3, sz_4, sz_5, sz_6, sz_7, sz_8, sz_9, sz_10, sz_11, sz_12, cp_2, cp_3, cp_4, cp_5, cp_6, cp_7, cp_12, cp_20, cp_30, cp_38, cp_39, cp_40, sv, t1, k1, k2, k3, k4, al, Int.reduceEq])
        exact ⟨s, .rfl, h _ (dn_cons dk (dn_cons d0 (dn_cons d1 (dn_cons ds rfl)))) ((sent_two kn.1 kn.2 hk).2 (by simp))⟩
      · (first | rw [Nx_eq] | rw [Arm_eq] | skip); (try simp_all only [ss_nil, Nx_nil, Arm_nil, sz_0, sz_1, sz_2, sz_3, sz_4, sz_5, sz_6, sz_7, sz_8, sz_9, sz_10, sz_11, sz_12, cp_2, cp_3, cp_4, cp_5, cp_6, cp_7, cp_12, cp_20, cp_30, cp_38, cp_39, cp_40, sv, t1, k1, k2, k3, k4, al, Int.reduceEq])
        (first | rw [Nx_eq] | rw [Arm_eq] | skip); (try simp_all only [ss_nil, Nx_nil, Arm_nil, sz_0, sz_1, sz_2, sz_3, sz_4, sz_5, sz_6, sz_7, sz_8, sz_9, sz_10, sz_11, sz_12, cp_2, cp_3, cp_4, cp_5, cp_6, cp_7, cp_12, cp_20, cp_30, cp_38, cp_39, cp_40, sv, t1, k1, k2, k3, k4, al, Int.reduceEq])
        (first | rw [Nx_eq] | rw [Arm_eq] | skip); (try simp_all only [ss_nil, Nx_nil, Arm_nil, sz_0, sz_1, sz_2, sz_3, sz_4, sz_5, sz_6, sz_7, sz_8, sz_9, sz_10, sz_11, sz_12, cp_2, cp_3, cp_4, cp_5, cp_6, cp_7, cp_12, cp_20, cp_30, cp_38, cp_39, cp_40, sv, t1, k1, k2, k3, k4, al, Int.reduceEq])
        (first | rw [Nx_eq] | rw [Arm_eq] | skip); (try simp_all only [ss_nil, Nx_nil, Arm_nil, sz_0, sz_1, sz_2, sz_3, sz_4, sz_5, sz_6, sz_7, sz_8, sz_9, sz_10, sz_11, sz_12, cp_2, cp_3, cp_4, cp_5, cp_6, cp_7, cp_12, cp_20, cp_30, cp_38, cp_39, cp_40, sv, t1, k1, k2, k3, k4, al, Int.reduceEq])
        (first | rw [Nx_eq] | rw [Arm_eq] | skip); (try simp_all only [ss_nil, Nx_nil, Arm_nil, sz_0, sz_1, sz_2, sz_3, sz_4, sz_5, sz_6, sz_7, sz_8, sz_9, sz_10, sz_11, sz_12, cp_2, cp_3, cp_4, cp_5, cp_6, cp_7, cp_12, cp_20, cp_30, cp_38, cp_39, cp_40, sv, t1, k1, k2, k3, k4, al, Int.reduceEq])
        refine callS_of ⟨hp, by simp, ln _ (by simp), fun i v hv => ?_⟩
        obtain ⟨d, sB⟩ := bad_head (r := [.str a, .str b, .str (sgS sg), .int n]) hv
        simp_all only [ss_nil, Nx_nil, Arm_nil, sz_0, sz_1, sz_2, sz_3, sz_4, sz_5, sz_6, sz_7, sz_8, sz_9, sz_10, sz_11, sz_12, cp_2, cp_3, cp_4, cp_5, cp_6, cp_7, cp_12, cp_20, cp_30, cp_38, cp_39, cp_40, sv, k2]
        exact ⟨s, .rfl, h _ (dn_cons d (dn_cons d0 (dn_cons d1 (dn_cons ds (dn_cons rfl rfl))))) sB⟩
      · (first | rw [Nx_eq] | rw [Arm_eq] | skip); (try simp_all only [ss_nil, Nx_nil, Arm_nil, sz_0, sz_1, sz_2, sz_3, sz_4, sz_5, sz_6, sz_7, sz_8, sz_9, sz_10, sz_11, sz_12, cp_2, cp_3, cp_4, cp_5, cp_6, cp_7, cp_12, cp_20, cp_30, cp_38, cp_39, cp_40, sv, t1, k1, k2, k3, k4, al, Int.reduceEq])
        (first | rw [Nx_eq] | rw [Arm_eq] | skip); (try simp_all only [ss_nil, Nx_nil, Arm_nil, sz_0, sz_1, sz_2, sz_3, sz_4, sz_5, sz_6, sz_7, sz_8, sz_9, sz_10, sz_11, sz_12, cp_2, cp_3, cp_4, cp_5, cp_6, cp_7, cp_12, cp_20, cp_30, cp_38, cp_39, cp_40, sv, t1, k1, k2, k3, k4, al, Int.reduceEq])
        (first | rw [Nx_eq] | rw [Arm_eq] | skip); (try simp_all only [ss_nil, Nx_nil, Arm_nil, sz_0, sz_1, sz_2, sz_3, sz_4, sz_5, sz_6, sz_7, sz_8, sz_9, sz_10, sz_11, sz_12, cp_2, cp_3, cp_4, cp_5, cp_6, cp_7, cp_12, cp_20, cp_30, cp_38, cp_39, cp_40, sv, t1, k1, k2, k3, k4, al, Int.reduceEq])
        (first | rw [Nx_eq] | rw [Arm_eq] | skip); (try simp_all only [ss_nil, Nx_nil, Arm_nil, sz_0, sz_1, sz_2, sz_3, sz_4, sz_5, sz_6, sz_7, sz_8, sz_9, sz_10, sz_11, sz_12, cp_2, cp_3, cp_4, cp_5, cp_6, cp_7, cp_12, cp_20, cp_30, cp_38, cp_39, cp_40, sv, t1, k1, k2, k3, k4, al, Int.reduceEq])
        (first | rw [Nx_eq] | rw [Arm_eq] | skip); (try simp_all only [ss_nil, Nx_nil, Arm_nil, sz_0, sz_1, sz_2, sz_3, sz_4, sz_5, sz_6, sz_7, sz_8, sz_9, sz_10, sz_11, sz_12, cp_2, cp_3, cp_4, cp_5, cp_6, cp_7, cp_12, cp_20, cp_30, cp_38, cp_39, cp_40, sv, t1, k1, k2, k3, k4, al, Int.reduceEq])
        (first | rw [Nx_eq] | rw [Arm_eq] | skip); (try simp_all only [ss_nil, Nx_nil, Arm_nil, sz_0, sz_1, sz_2, sz_3, sz_4, sz_5, sz_6, sz_7, sz_8, sz_9, sz_10, sz_11, sz_12, cp_2, cp_3, cp_4, cp_5, cp_6, cp_7, cp_12, cp_20, cp_30, cp_38, cp_39, cp_40, sv, t1, k1, k2, k3, k4, al, Int.reduceEq])
        refine ⟨by decide, callS_of ⟨hp, by simp, ln _ (by simp), fun i v hv => ?_⟩⟩
        obtain ⟨d, lB⟩ := bad_let hv
        simp_all only [ss_nil, Nx_nil, Arm_nil, sz_0, sz_1, sz_2, sz_3, sz_4, sz_5, sz_6, sz_7, sz_8, sz_9, sz_10, sz_11, sz_12, cp_2, cp_3, cp_4, cp_5, cp_6, cp_7, cp_12, cp_20, cp_30, cp_38, cp_39, cp_40, sv, k3]
        exact ⟨s, .rfl, h _ (dn_cons dk (dn_cons d (dn_cons d1 (dn_cons ds (dn_cons rfl rfl))))) (by rw [five, lB]; rfl)⟩
      · (first | rw [Nx_eq] | rw [Arm_eq] | skip); (try simp_all only [ss_nil, Nx_nil, Arm_nil, sz_0, sz_1, sz_2, sz_3, sz_4, sz_5, sz_6, sz_7, sz_8, sz_9, sz_10, sz_11, sz_12, cp_2, cp_3, cp_4, cp_5, cp_6, cp_7, cp_12, cp_20, cp_30, cp_38, cp_39, cp_40, sv, t1, k1, k2, k3, k4, al, Int.reduceEq])
        (first | rw [Nx_eq] | rw [Arm_eq] | skip); (try simp_all only [ss_nil, Nx_nil, Arm_nil, sz_0, sz_1, sz_2, sz_3, sz_4, sz_5, sz_6, sz_7, sz_8, sz_9, sz_10, sz_11, sz_12, cp_2, cp_3, cp_4, cp_5, cp_6, cp_7, cp_12, cp_20, cp_30, cp_38, cp_39, cp_40, sv, t1, k1, k2, k3, k4, al, Int.reduceEq])
        (first | rw [Nx_eq] | rw [Arm_eq] | skip); (try simp_all only [ss_nil, Nx_nil, Arm_nil, sz_0, sz_1, sz_2, sz_3, sz_4, sz_5, sz_6, sz_7, sz_8, sz_9, sz_10, sz_11, sz_12, cp_2, cp_3, cp_4, cp_5, cp_6, cp_7, cp_12, cp_20, cp_30, cp_38, cp_39, cp_40, sv, t1, k1, k2, k3, k4, al, Int.reduceEq])
        (first | rw [Nx_eq] | rw [Arm_eq] | skip); (try simp_all only [ss_nil, Nx_nil, Arm_nil, sz_0, sz_1, sz_2, sz_3, sz_4, sz_5, sz_6, sz_7, sz_8, sz_9, sz_10, sz_11, sz_12, cp_2, cp_3, cp_4, cp_5, cp_6, cp_7, cp_12, cp_20, cp_30, cp_38, cp_39, cp_40, sv, t1, k1, k2, k3, k4, al, Int.reduceEq])
        (first | rw [Nx_eq] | rw [Arm_eq] | skip); (try simp_all only [ss_nil, Nx_nil, Arm_nil, sz_0, sz_1, sz_2, sz_3, sz_4, sz_5, sz_6, sz_7, sz_8, sz_9, sz_10, sz_11, sz_12, cp_2, cp_3, cp_4, cp_5, cp_6, cp_7, cp_12, cp_20, cp_30, cp_38, cp_39, cp_40, sv, t1, k1, k2, k3, k4, al, Int.reduceEq])
        (first | rw [Nx_eq] | rw [Arm_eq] | skip); (try simp_all only [ss_nil, Nx_nil, Arm_nil, sz_0, sz_1, sz_2, sz_3, sz_4, sz_5, sz_6, sz_7, sz_8, sz_9, sz_10, sz_11, sz_12, cp_2, cp_3, cp_4, cp_5, cp_6, cp_7, cp_12, cp_20, cp_30, cp_38, cp_39, cp_40, sv, t1, k1, k2, k3, k4, al, Int.reduceEq])
        (first | rw [Nx_eq] | rw [Arm_eq] | skip); (try simp_all only [ss_nil, Nx_nil, Arm_nil, sz_0, sz_1, sz_2, sz_3, sz_4, sz_5, sz_6, sz_7, sz_8, sz_9, sz_10, sz_11, sz_12, cp_2, cp_3, cp_4, cp_5, cp_6, cp_7, cp_12, cp_20, cp_30, cp_38, cp_39, cp_40, sv, t1, k1, k2, k3, k4, al, Int.reduceEq])
        refine callS_of ⟨hp, by simp, ln _ (by simp), fun i v hv => ?_⟩
        obtain ⟨d, sB⟩ := bad_all hv
        exact ⟨s, .rfl, h _ d sB⟩
      · (first | rw [Nx_eq] | rw [Arm_eq] | skip); (try simp_all only [ss_nil, Nx_nil, Arm_nil, sz_0, sz_1, sz_2, sz_3, sz_4, sz_5, sz_6, sz_7, sz_8, sz_9, sz_10, sz_11, sz_12, cp_2, cp_3, cp_4, cp_5, cp_6, cp_7, cp_12, cp_20, cp_30, cp_38, cp_39, cp_40, sv, t1, k1, k2, k3, k4, al, Int.reduceEq])
        (first | rw [Nx_eq] | rw [Arm_eq] | skip); (try simp_all only [ss_nil, Nx_nil, Arm_nil, sz_0, sz_1, sz_2, sz_3, sz_4, sz_5, sz_6, sz_7, sz_8, sz_9, sz_10, sz_11, sz_12, cp_2, cp_3, cp_4, cp_5, cp_6, cp_7, cp_12, cp_20, cp_30, cp_38, cp_39, cp_40, sv, t1, k1, k2, k3, k4, al, Int.reduceEq])
        (first | rw [Nx_eq] | rw [Arm_eq] | skip); (try simp_all only [ss_nil, Nx_nil, Arm_nil, sz_0, sz_1, sz_2, sz_3, sz_4, sz_5, sz_6, sz_7, sz_8, sz_9, sz_10, sz_11, sz_12, cp_2, cp_3, cp_4, cp_5, cp_6, cp_7, cp_12, cp_20, cp_30, cp_38, cp_39, cp_40, sv, t1, k1, k2, k3, k4, al, Int.reduceEq])
        (first | rw [Nx_eq] | rw [Arm_eq] | skip); (try simp_all only [ss_nil, Nx_nil, Arm_nil, sz_0, sz_1, sz_2, sz_3, sz_4, sz_5, sz_6, sz_7, sz_8, sz_9, sz_10, sz_11, sz_12, cp_2, cp_3, cp_4, cp_5, cp_6, cp_7, cp_12, cp_20, cp_30, cp_38, cp_39, cp_40, sv, t1, k1, k2, k3, k4, al, Int.reduceEq])
        (first | rw [Nx_eq] | rw [Arm_eq] | skip); (try simp_all only [ss_nil, Nx_nil, Arm_nil, sz_0, sz_1, sz_2, sz_3, sz_4, sz_5, sz_6, sz_7, sz_8, sz_9, sz_10, sz_11, sz_12, cp_2, cp_3, cp_4, cp_5, cp_6, cp_7, cp_12, cp_20, cp_30, cp_38, cp_39, cp_40, sv, t1, k1, k2, k3, k4, al, Int.reduceEq])
        (first | rw [Nx_eq] | rw [Arm_eq] | skip); (try simp_all only [ss_nil, Nx_nil, Arm_nil, sz_0, sz_1, sz_2, sz_3, sz_4, sz_5, sz_6, sz_7, sz_8, sz_9, sz_10, sz_11, sz_12, cp_2, cp_3, cp_4, cp_5, cp_6, cp_7, cp_12, cp_20, cp_30, cp_38, cp_39, cp_40, sv, t1, k1, k2, k3, k4, al, Int.reduceEq])
        (first | rw [Nx_eq] | rw [Arm_eq] | skip); (try simp_all only [ss_nil, Nx_nil, Arm_nil, sz_0, sz_1, sz_2, sz_3, sz_4, sz_5, sz_6, sz_7, sz_8, sz_9, sz_10, sz_11, sz_12, cp_2, cp_3, cp_4, cp_5, cp_6, cp_7, cp_12, cp_20, cp_30, cp_38, cp_39, cp_40, sv, t1, k1, k2, k3, k4, al, Int.reduceEq])
        (first | rw [Nx_eq] | rw [Arm_eq] | skip); (try simp_all only [ss_nil, Nx_nil, Arm_nil, sz_0, sz_1, sz_2, sz_3, sz_4, sz_5, sz_6, sz_7, sz_8, sz_9, sz_10, sz_11, sz_12, cp_2, cp_3, cp_4, cp_5, cp_6, cp_7, cp_12, cp_20, cp_30, cp_38, cp_39, cp_40, sv, t1, k1, k2, k3, k4, al, Int.reduceEq])
        refine callS_of ⟨hp, by simp, ln _ (by simp), fun i v hv => ?_⟩
        obtain ⟨d, bB⟩ := bad_num hv
        simp_all only [ss_nil, Nx_nil, Arm_nil, sz_0, sz_1, sz_2, sz_3, sz_4, sz_5, sz_6, sz_7, sz_8, sz_9, sz_10, sz_11, sz_12, cp_2, cp_3, cp_4, cp_5, cp_6, cp_7, cp_12, cp_20, cp_30, cp_38, cp_39, cp_40]
        exact ⟨s, .rfl, h _ (dn_cons dk (dn_cons d0 (dn_cons d1 (dn_cons ds (dn_cons d rfl))))) (by rw [five, bB, Bool.and_false])⟩
      · (first | rw [Nx_eq] | rw [Arm_eq] | skip); (try simp_all only [ss_nil, Nx_nil, Arm_nil, sz_0, sz_1, sz_2, sz_3, sz_4, sz_5, sz_6, sz_7, sz_8, sz_9, sz_10, sz_11, sz_12, cp_2, cp_3, cp_4, cp_5, cp_6, cp_7, cp_12, cp_20, cp_30, cp_38, cp_39, cp_40, sv, t1, k1, k2, k3, k4, al, Int.reduceEq])
        (first | rw [Nx_eq] | rw [Arm_eq] | skip); (try simp_all only [ss_nil, Nx_nil, Arm_nil, sz_0, sz_1, sz_2, sz_3, sz_4, sz_5, sz_6, sz_7, sz_8, sz_9, sz_10, sz_11, sz_12, cp_2, cp_3, cp_4, cp_5, cp_6, cp_7, cp_12, cp_20, cp_30, cp_38, cp_39, cp_40, sv, t1, k1, k2, k3, k4, al, Int.reduceEq])
        (first | rw [Nx_eq] | rw [Arm_eq] | skip); (try simp_all only [ss_nil, Nx_nil, Arm_nil, sz_0, sz_1, sz_2, sz_3, sz_4, sz_5, sz_6, sz_7, sz_8, sz_9, sz_10, sz_11, sz_12, cp_2, cp_3, cp_4, cp_5, cp_6, cp_7, cp_12, cp_20, cp_30, cp_38, cp_39, cp_40, sv, t1, k1, k2, k3, k4, al, Int.reduceEq])
        (first | rw [Nx_eq] | rw [Arm_eq] | skip); (try simp_all only [ss_nil, Nx_nil, Arm_nil, sz_0, sz_1, sz_2, sz_3, sz_4, sz_5, sz_6, sz_7, sz_8, sz_9, sz_10, sz_11, sz_12, cp_2, cp_3, cp_4, cp_5, cp_6, cp_7, cp_12, cp_20, cp_30, cp_38, cp_39, cp_40, sv, t1, k1, k2, k3, k4, al, Int.reduceEq])
        (first | rw [Nx_eq] | rw [Arm_eq] | skip); (try simp_all only [ss_nil, Nx_nil, Arm_nil, sz_0, sz_1, sz_2, sz_3, sz_4, sz_5, sz_6, sz_7, sz_8, sz_9, sz_10, sz_11, sz_12, cp_2, cp_3, cp_4, cp_5, cp_6, cp_7, cp_12, cp_20, cp_30, cp_38, cp_39, cp_40, sv, t1, k1, k2, k3, k4, al, Int.reduceEq])
        (first | rw [Nx_eq] | rw [Arm_eq] | skip); (try simp_all only [ss_nil, Nx_nil, Arm_nil, sz_0, sz_1, sz_2, sz_3, sz_4, sz_5, sz_6, sz_7, sz_8, sz_9, sz_10, sz_11, sz_12, cp_2, cp_3, cp_4, cp_5, cp_6, cp_7, cp_12, cp_20, cp_30, cp_38, cp_39, cp_40, sv, t1, k1, k2, k3, k4, al, Int.reduceEq])
        (first | rw [Nx_eq] | rw [Arm_eq] | skip); (try simp_all only [ss_nil, Nx_nil, Arm_nil, sz_0, sz_1, sz_2, sz_3, sz_4, sz_5, sz_6, sz_7, sz_8, sz_9, sz_10, sz_11, sz_12, cp_2, cp_3, cp_4, cp_5, cp_6, cp_7, cp_12, cp_20, cp_30, cp_38, cp_39, cp_40, sv, t1, k1, k2, k3, k4, al, Int.reduceEq])
        (first | rw [Nx_eq] | rw [Arm_eq] | skip); (try simp_all only [ss_nil, Nx_nil, Arm_nil, sz_0, sz_1, sz_2, sz_3, sz_4, sz_5, sz_6, sz_7, sz_8, sz_9, sz_10, sz_11, sz_12, cp_2, cp_3, cp_4, cp_5, cp_6, cp_7, cp_12, cp_20, cp_30, cp_38, cp_39, cp_40, sv, k4, al, ↓v_neSS2])
        by_cases hr : k = ("rest" : Str)
        · have t3 : (k = ("rest" : Str)) = True := eq_true hr
          simp_all only [ss_nil, Nx_nil, Arm_nil, sz_0, sz_1, sz_2, sz_3, sz_4, sz_5, sz_6, sz_7, sz_8, sz_9, sz_10, sz_11, sz_12, cp_2, cp_3, cp_4, cp_5, cp_6, cp_7, cp_12, cp_20, cp_30, cp_38, cp_39, cp_40, ↓v_neSS2, t3, sv]
          refine callS_of ⟨hp, by simp, ln _ (by simp), fun i v hv => ?_⟩
          obtain ⟨d, bB⟩ := bad_sg (signs := [">", ">="]) (by decide) (by decide) (by decide) (by decide) hv
          simp_all only [ss_nil, Nx_nil, Arm_nil, sz_0, sz_1, sz_2, sz_3, sz_4, sz_5, sz_6, sz_7, sz_8, sz_9, sz_10, sz_11, sz_12, cp_2, cp_3, cp_4, cp_5, cp_6, cp_7, cp_12, cp_20, cp_30, cp_38, cp_39, cp_40, sv, al]
          exact ⟨s, .rfl, h _ (dn_cons dk (dn_cons d0 (dn_cons d1 (dn_cons d (dn_cons rfl rfl))))) (by rw [five, if_pos hr, bB, Bool.and_false])⟩
        · have t3 : (k = ("rest" : Str)) = False := eq_false hr
          simp_all only [ss_nil, Nx_nil, Arm_nil, sz_0, sz_1, sz_2, sz_3, sz_4, sz_5, sz_6, sz_7, sz_8, sz_9, sz_10, sz_11, sz_12, cp_2, cp_3, cp_4, cp_5, cp_6, cp_7, cp_12, cp_20, cp_30, cp_38, cp_39, cp_40, ↓v_neSS2, t3, sv]
          refine callS_of ⟨hp, by simp, ln _ (by simp), fun i v hv => ?_⟩
          obtain ⟨d, bB⟩ := bad_sg (signs := ["<", "<="]) (by decide) (by decide) (by decide) (by decide) hv
          simp_all only [ss_nil, Nx_nil, Arm_nil, sz_0, sz_1, sz_2, sz_3, sz_4, sz_5, sz_6, sz_7, sz_8, sz_9, sz_10, sz_11, sz_12, cp_2, cp_3, cp_4, cp_5, cp_6, cp_7, cp_12, cp_20, cp_30, cp_38, cp_39, cp_40, sv, al]
          exact ⟨s, .rfl, h _ (dn_cons dk (dn_cons d0 (dn_cons d1 (dn_cons d (dn_cons rfl rfl))))) (by rw [five, if_neg hr, bB, Bool.and_false])⟩
  · exact h.elim
end TK

set_option maxRecDepth 100000
set_option maxHeartbeats 4000000
namespace TK
open PySem PySem.Spec PyProof.Rows L2
def sp__law_what : PSpec
  | [v, w], st, Q, _ => dn v = true ∧ dn w = true ∧ ((sentB v = false ∧ Q (.str "sentence") st) ∨ (sentB v = true ∧ wordB w = false ∧ Q (.str "word") st))
  | _, _, _, _ => False
def b__law_what : Ss :=
  (.cons (.tryX (.cons (.expr (.call "keeps_word" sp_keeps_word (.cons (.var 0) (.cons (.var 1) .nil)))) .nil) "BadValue" 2 (.ite (.cons (.is "TicklessError") .nil) (.fld "what") (.str "other"))) (.cons (.ret (.str "")) .nil))
def n__law_what : List Str := ["sentence", "word", "e"]
theorem whatT {w : Str} {τ : Sl} {Q : PV → Prop} (h : Q (.str w)) : wpX (.ite (.cons (.is "TicklessError") .nil) (.fld "what") (.str "other")) (errW w) τ Q := by
  have s1 : subC (errW w).1 "TicklessError" = true := by show subC "BadValue" "TicklessError" = true; decide
  unfold wpX
  unfold wpXt
  unfold wpX
  rw [s1]
  show wpXt _ _ _ _
  unfold wpXt
  show (if (true : Bool) = true then _ else _)
  rw [if_pos rfl]
  show oP (some (PV.str w)) Q
  exact h
theorem w__law_what : ∀ vs s Q X, vs.length = 2 → sp__law_what vs s Q X → wpFn n__law_what.length b__law_what vs s Q X := by
  intro vs s Q X hl h
  unfold sp__law_what at h
  split at h
  · rename_i v w
    rw [fn_eq]
    unfold b__law_what n__law_what
    have tr : ∀ {D : PEnds} {τ : Sl} {w : Str} {st : Store}, getS τ 2 = none → 2 < τ.length → D.rt (.str w) st → KEx (D.tr "BadValue" 2 (.ite (.cons (.is "TicklessError") .nil) (.fld "what") (.str "other"))) τ (errW w) st := fun hg hl h =>
      kex_tr (by show ("BadValue" : Str) ∈ excNames; decide) (by show subC "BadValue" "BadValue" = true; decide) hg hl (whatT h)
    obtain ⟨hv, hw, ⟨h1, h⟩ | ⟨h1, h2, h⟩⟩ := h
    · simp_all only [ss_nil, Nx_nil, Arm_nil, sz_0, sz_1, sz_2, sz_3, sz_4, sz_5, sz_6, sz_7, sz_8, sz_9, sz_10, sz_11, sz_12, cp_2, cp_3, cp_4, cp_5, cp_6, cp_7, cp_12, cp_20, cp_30, cp_38, cp_39, cp_40]
      (first | rw [Nx_eq] | rw [Arm_eq] | skip); (try simp_all only [ss_nil, Nx_nil, Arm_nil, sz_0, sz_1, sz_2, sz_3, sz_4, sz_5, sz_6, sz_7, sz_8, sz_9, sz_10, sz_11, sz_12, cp_2, cp_3, cp_4, cp_5, cp_6, cp_7, cp_12, cp_20, cp_30, cp_38, cp_39, cp_40])
      exact callS_of ⟨hv, hw, .inl ⟨h1, tr rfl (by show 2 < 3; decide) ⟨s, .rfl, h⟩⟩⟩
    · simp_all only [ss_nil, Nx_nil, Arm_nil, sz_0, sz_1, sz_2, sz_3, sz_4, sz_5, sz_6, sz_7, sz_8, sz_9, sz_10, sz_11, sz_12, cp_2, cp_3, cp_4, cp_5, cp_6, cp_7, cp_12, cp_20, cp_30, cp_38, cp_39, cp_40]
      (first | rw [Nx_eq] | rw [Arm_eq] | skip); (try simp_all only [ss_nil, Nx_nil, Arm_nil, sz_0, sz_1, sz_2, sz_3, sz_4, sz_5, sz_6, sz_7, sz_8, sz_9, sz_10, sz_11, sz_12, cp_2, cp_3, cp_4, cp_5, cp_6, cp_7, cp_12, cp_20, cp_30, cp_38, cp_39, cp_40])
      exact callS_of ⟨hv, hw, .inr (.inl ⟨h1, h2, tr rfl (by show 2 < 3; decide) ⟨s, .rfl, h⟩⟩)⟩
  · exact h.elim
def sp__law_odd_words : PSpec
  | [], st, Q, _ => ∀ xs : List PV, (∀ v ∈ xs, dn v = true ∧ wordB v = false) → Q (.lst xs) st
  | _, _, _, _ => False
def b__law_odd_words : Ss :=
  (.cons (.asg (.name 0) (.tup (.cons (.str "a") (.cons (.tup (.cons (.int 1) (.cons (.int 1) .nil))) .nil)))) (.cons (.ret (.lst false (.cons (.tup (.cons (.tup (.cons (.var 0) .nil)) (.cons (.tup (.cons (.int 1) (.cons (.int 2) .nil))) .nil))) (.cons (.tup (.cons (.tup (.cons (.var 0) (.cons (.tup (.cons (.str "b") (.cons (.tup (.cons (.int 1) (.cons (.int 2) .nil))) .nil))) .nil))) (.cons (.tup (.cons (.int 2) (.cons (.int 1) .nil))) .nil))) (.cons (.tup (.cons (.tup (.cons (.tup (.cons (.str "A") (.cons (.tup (.cons (.int 0) (.cons (.int 1) .nil))) .nil))) .nil)) (.cons (.tup (.cons (.int 1) (.cons (.int 1) .nil))) .nil))) (.cons (.tup (.cons (.tup (.cons (.var 0) .nil)) (.cons (.tup (.cons (.int 2) (.cons (.int 2) .nil))) .nil))) (.cons .non (.cons (.tup (.cons (.tup (.cons (.tup (.cons (.str "a") (.cons (.tup (.cons (.neg (.int 1)) (.cons (.int 1) .nil))) .nil))) .nil)) (.cons (.tup (.cons (.int 1) (.cons (.int 1) .nil))) .nil))) (.cons (.tup (.cons (.lst false (.cons (.var 0) .nil)) (.cons (.tup (.cons (.int 1) (.cons (.int 1) .nil))) .nil))) (.cons (.tup (.cons (.tup (.cons (.var 0) .nil)) .nil)) (.cons (.tup (.cons (.bin .Mult false (.tup (.cons (.var 0) .nil)) (.int 13)) (.cons (.tup (.cons (.int 1) (.cons (.int 1) .nil))) .nil))) .nil))))))))))) .nil))
def n__law_odd_words : List Str := ["good"]
theorem w__law_odd_words : ∀ vs s Q X, vs.length = 0 → sp__law_odd_words vs s Q X → wpFn n__law_odd_words.length b__law_odd_words vs s Q X := by
  intro vs s Q X hl h
  unfold sp__law_odd_words at h
  split at h
  · rw [fn_eq]
    unfold b__law_odd_words n__law_odd_words
    simp_all only [ss_nil, Nx_nil, Arm_nil, sz_0, sz_1, sz_2, sz_3, sz_4, sz_5, sz_6, sz_7, sz_8, sz_9, sz_10, sz_11, sz_12, cp_2, cp_3, cp_4, cp_5, cp_6, cp_7, cp_12, cp_20, cp_30, cp_38, cp_39, cp_40]
    (first | rw [Nx_eq] | rw [Arm_eq] | skip); (try simp_all only [ss_nil, Nx_nil, Arm_nil, sz_0, sz_1, sz_2, sz_3, sz_4, sz_5, sz_6, sz_7, sz_8, sz_9, sz_10, sz_11, sz_12, cp_2, cp_3, cp_4, cp_5, cp_6, cp_7, cp_12, cp_20, cp_30, cp_38, cp_39, cp_40])
    refine ⟨by simp, s, .rfl, h _ fun v hv => ?_⟩
    simp only [List.mem_cons, List.not_mem_nil, or_false] at hv
    rcases hv with e | e | e | e | e | e | e | e | e <;> (subst e; exact ⟨by decide +kernel, by decide +kernel⟩)
  · exact h.elim
def b_law_3 : Ss :=
  (.cons (.ite (.cmp .NotEq (.call "_law_what" sp__law_what (.cons (.var 4) (.cons (.var 8) .nil))) (.str "word")) (.cons (.ret (.bl false)) .nil) .nil) .nil)
def b_law_2 : Ss :=
  (.cons (.asg (.name 8) (.call "_law_odd" sp__law_odd (.cons (.var 1) (.cons (.var 4) .nil)))) (.cons (.ite (.bools .Or (.cons (.cmp .IsNot (.call "is_sentence" sp_is_sentence (.cons (.var 8) .nil)) (.bl false)) (.cons (.cmp .NotEq (.call "_law_what" sp__law_what (.cons (.var 8) (.cons .non .nil))) (.str "sentence")) .nil))) (.cons (.ret (.bl false)) .nil) .nil) .nil))
def b_law_1 : Ss :=
  (.cons (.ite (.not (.val (.call "_law_same" sp__law_same (.cons (.call "keeps_word" sp_keeps_word (.cons (.var 4) (.cons (.var 6) .nil))) (.cons (.call "_law_keeps" sp__law_keeps (.cons (.var 4) (.cons (.var 6) .nil))) .nil))))) (.cons (.ret (.bl false)) .nil) .nil) .nil)
def b_law : Ss :=
  (.cons (.asg (.name 1) (.call "_law_pool" sp__law_pool (.cons (.var 0) .nil))) (.cons (.asg (.name 2) (.lst false (.cons (.str "a") (.cons (.str "bb") (.cons (.str "c") .nil))))) (.cons (.asg (.name 3) (.ite (.cmp .Eq (.call "_law_draw" sp__law_draw (.cons (.var 1) (.cons (.int 10) .nil))) (.int 0)) (.int 99) (.int 4))) (.cons (.asg (.name 4) (.call "_law_drawn_sentence" sp__law_drawn_sentence (.cons (.var 1) (.cons (.var 2) (.cons (.var 3) .nil))))) (.cons (.ite (.bools .Or (.cons (.cmp .IsNot (.call "is_sentence" sp_is_sentence (.cons (.var 4) .nil)) (.bl true)) (.cons (.cmp .IsNot (.call "check_sentence" sp_check_sentence (.cons (.var 4) .nil)) .non) .nil))) (.cons (.ret (.bl false)) .nil) .nil) (.cons (.asg (.name 5) (.ite (.cmp .Eq (.call "_law_draw" sp__law_draw (.cons (.var 1) (.cons (.int 12) .nil))) (.int 0)) (.int 12) (.call "_law_draw" sp__law_draw (.cons (.var 1) (.cons (.int 7) .nil))))) (.cons (.loop (.name 6) (.val (.lst false (.cons (.call "_law_drawn_word" sp__law_drawn_word (.cons (.var 1) (.cons (.var 2) (.cons (.var 5) .nil)))) (.cons (.call "_law_border_word" sp__law_border_word (.cons (.var 1) (.cons (.var 4) .nil))) (.cons (.tup (.cons (.tup .nil) (.cons (.tup (.cons (.int 0) (.cons (.int 1) .nil))) .nil))) (.cons (.tup (.cons (.tup .nil) (.cons (.tup (.cons (.int 5) (.cons (.int 1) .nil))) .nil))) .nil)))))) b_law_1) (.cons (.loop (.name 7) (.range1 (.int 3)) b_law_2) (.cons (.loop (.name 8) (.val (.call "_law_odd_words" sp__law_odd_words .nil)) b_law_3) (.cons (.asg (.name 9) (.tup (.cons (.str "soon") (.cons (.bin .Mult false (.str "a") (.int 12)) (.cons (.str "bb") (.cons (.str "<") (.cons (.int 1) .nil))))))) (.cons (.ite (.bools .Or (.cons (.cmp .IsNot (.call "is_sentence" sp_is_sentence (.cons (.var 9) .nil)) (.bl true)) (.cons (.cmp .IsNot (.call "is_sentence" sp_is_sentence (.cons (.bin .Add false (.slice false (.var 9) .no (.yes (.int 4))) (.tup (.cons (.int 0) .nil))) .nil)) (.bl false)) .nil))) (.cons (.ret (.bl false)) .nil) .nil) (.cons (.ret (.cmp .Is (.call "is_sentence" sp_is_sentence (.cons (.tup (.cons (.str "rest") (.cons (.str "a") (.cons (.str "a") (.cons (.str ">") (.cons (.int 0) .nil)))))) .nil)) (.bl true))) .nil))))))))))))
def n_law : List Str := ["script", "pool", "letters", "most", "sentence", "many", "word", "turn", "odd", "edge"]
def b_law_tail2 : Ss :=
  (.cons (.loop (.name 6) (.val (.lst false (.cons (.call "_law_drawn_word" sp__law_drawn_word (.cons (.var 1) (.cons (.var 2) (.cons (.var 5) .nil)))) (.cons (.call "_law_border_word" sp__law_border_word (.cons (.var 1) (.cons (.var 4) .nil))) (.cons (.tup (.cons (.tup .nil) (.cons (.tup (.cons (.int 0) (.cons (.int 1) .nil))) .nil))) (.cons (.tup (.cons (.tup .nil) (.cons (.tup (.cons (.int 5) (.cons (.int 1) .nil))) .nil))) .nil)))))) b_law_1) (.cons (.loop (.name 7) (.range1 (.int 3)) b_law_2) (.cons (.loop (.name 8) (.val (.call "_law_odd_words" sp__law_odd_words .nil)) b_law_3) (.cons (.asg (.name 9) (.tup (.cons (.str "soon") (.cons (.bin .Mult false (.str "a") (.int 12)) (.cons (.str "bb") (.cons (.str "<") (.cons (.int 1) .nil))))))) (.cons (.ite (.bools .Or (.cons (.cmp .IsNot (.call "is_sentence" sp_is_sentence (.cons (.var 9) .nil)) (.bl true)) (.cons (.cmp .IsNot (.call "is_sentence" sp_is_sentence (.cons (.bin .Add false (.slice false (.var 9) .no (.yes (.int 4))) (.tup (.cons (.int 0) .nil))) .nil)) (.bl false)) .nil))) (.cons (.ret (.bl false)) .nil) .nil) (.cons (.ret (.cmp .Is (.call "is_sentence" sp_is_sentence (.cons (.tup (.cons (.str "rest") (.cons (.str "a") (.cons (.str "a") (.cons (.str ">") (.cons (.int 0) .nil)))))) .nil)) (.bl true))) .nil))))))
theorem wd_nil {n : Int} (h0 : 0 ≤ n) (h1 : n.natAbs < 2 ^ 3) : WdOk [] (Rat.divInt n 1) ∧ PV.tup [.tup [], .tup [.int n, .int 1]] = wrV [] (Rat.divInt n 1) := by
  refine ⟨⟨by decide, fun _ h => (nomatch h), fun _ h => (nomatch h), (Bd.of_divInt (k := 3) (by decide) h1 (by decide)).mono (by decide), Rat.divInt_nonneg h0 (by decide), rfl⟩, ?_⟩
  show _ = PV.tup [.tup [], ratV (Rat.divInt n 1)]
  rw [cop_ratV (by decide) (by simp)]
theorem blShow' (b : Bool) : ShowOk (.bl b) := showOk_of (by unfold shOk; trivial) (show (571 : Nat) ≤ sizeLine by decide)
theorem law_tail2 {Q : PV → Store → Prop} {X : Exn → Store → Prop} {ns : List Int} {p : Nat} {s1 : Store} {most many : Int} {x : Sen} (hx : DS x) (m0 : 0 ≤ many) (m1 : many ≤ 12) (hp : s1 p = some .pool) (h : ∀ s, Q (.bl true) s) :
    Nx b_law_tail2 (fnEnds Q X) [some (.scr ns), some (.ref p), some (.lst [.str "a", .str "bb", .str "c"]), some (.int most), some (senV x), some (.int many), none, none, none, none] s1 := by
  have l3 : ([.str "a", .str "bb", .str "c"] : List PV).length ≤ 10 ^ 9 := by simp only [List.length_cons, List.length_nil]; decide
  have lts : ∀ x ∈ ([.str "a", .str "bb", .str "c"] : List PV), ∃ a : Str, x = .str a ∧ LtOk a := fun x hx => by
    simp only [List.mem_cons, List.not_mem_nil, or_false] at hx
    rcases hx with e | e | e
    · exact ⟨_, e, .inl rfl⟩
    · exact ⟨_, e, .inr (.inl rfl)⟩
    · exact ⟨_, e, .inr (.inr rfl)⟩
  have hd := ds_dn hx
  have hs := ds_sent hx
  have tt : ((true : Bool) = true) = True := eq_true rfl
  have ff : ((false : Bool) = false) = True := eq_true rfl
  unfold b_law_tail2
  (first | rw [Nx_eq] | rw [Arm_eq] | skip); (try simp_all only [ss_nil, Nx_nil, Arm_nil, sz_0, sz_1, sz_2, sz_3, sz_4, sz_5, sz_6, sz_7, sz_8, sz_9, sz_10, sz_11, sz_12, cp_2, cp_3, cp_4, cp_5, cp_6, cp_7, cp_12, cp_20, cp_30, cp_38, cp_39, cp_40])
  refine callS_of ⟨hp, m0, m1, by simp, l3, lts, fun l e hw => ?_⟩
  simp_all only [ss_nil, Nx_nil, Arm_nil, sz_0, sz_1, sz_2, sz_3, sz_4, sz_5, sz_6, sz_7, sz_8, sz_9, sz_10, sz_11, sz_12, cp_2, cp_3, cp_4, cp_5, cp_6, cp_7, cp_12, cp_20, cp_30, cp_38, cp_39, cp_40]
  refine callS_of ⟨hp, x, rfl, hx, fun l2 e2 hw2 => ?_⟩
  simp_all only [ss_nil, Nx_nil, Arm_nil, sz_0, sz_1, sz_2, sz_3, sz_4, sz_5, sz_6, sz_7, sz_8, sz_9, sz_10, sz_11, sz_12, cp_2, cp_3, cp_4, cp_5, cp_6, cp_7, cp_12, cp_20, cp_30, cp_38, cp_39, cp_40]
  refine for_at (fun i τ st => st = s1 ∧ ∃ o6 : Option PV, τ = [some (.scr ns), some (.ref p), some (.lst [.str "a", .str "bb", .str "c"]), some (.int most), some (senV x), some (.int many), o6, none, none, none]) ?_ ?_ ⟨rfl, _, rfl⟩
  · rintro i v τ st hi ⟨rfl, o6, rfl⟩
    have hv : ∃ l e, v = wrV l e ∧ WdOk l e := by
      have := List.mem_of_getElem? hi
      simp only [List.mem_cons, List.not_mem_nil, or_false] at this
      rcases this with e | e | e | e
      · exact ⟨_, _, e, hw⟩
      · exact ⟨_, _, e, hw2⟩
      · have := wd_nil (n := 0) (by decide) (by decide)
        exact ⟨_, _, e.trans this.2, this.1⟩
      · have := wd_nil (n := 5) (by decide) (by decide)
        exact ⟨_, _, e.trans this.2, this.1⟩
    obtain ⟨l, e, rfl, hw⟩ := hv
    refine ⟨trivial, ?_⟩
    unfold b_law_1
    simp_all only [ss_nil, Nx_nil, Arm_nil, sz_0, sz_1, sz_2, sz_3, sz_4, sz_5, sz_6, sz_7, sz_8, sz_9, sz_10, sz_11, sz_12, cp_2, cp_3, cp_4, cp_5, cp_6, cp_7, cp_12, cp_20, cp_30, cp_38, cp_39, cp_40]
    refine callS_of ⟨hd, wd_dn hw, .inr (.inr ⟨hs, wd_word hw, x, l, e, rfl, rfl, ds_ok hx, wd_sn hw, hw.be.mono (by decide), ?_⟩)⟩
    simp_all only [ss_nil, Nx_nil, Arm_nil, sz_0, sz_1, sz_2, sz_3, sz_4, sz_5, sz_6, sz_7, sz_8, sz_9, sz_10, sz_11, sz_12, cp_2, cp_3, cp_4, cp_5, cp_6, cp_7, cp_12, cp_20, cp_30, cp_38, cp_39, cp_40]
    refine callS_of ⟨x, l, e, rfl, rfl, ds_ok hx, wd_sn hw, hw.be.mono (by decide), ?_⟩
    simp_all only [ss_nil, Nx_nil, Arm_nil, sz_0, sz_1, sz_2, sz_3, sz_4, sz_5, sz_6, sz_7, sz_8, sz_9, sz_10, sz_11, sz_12, cp_2, cp_3, cp_4, cp_5, cp_6, cp_7, cp_12, cp_20, cp_30, cp_38, cp_39, cp_40]
    refine callS_of ⟨rfl, rfl, blShow' _, ?_⟩
    simp_all only [ss_nil, Nx_nil, Arm_nil, sz_0, sz_1, sz_2, sz_3, sz_4, sz_5, sz_6, sz_7, sz_8, sz_9, sz_10, sz_11, sz_12, cp_2, cp_3, cp_4, cp_5, cp_6, cp_7, cp_12, cp_20, cp_30, cp_38, cp_39, cp_40]
    exact ⟨_, rfl⟩
  · rintro τ st ⟨rfl, o6, rfl⟩
    refine ⟨trivial, ?_⟩
    simp_all only [ss_nil, Nx_nil, Arm_nil, sz_0, sz_1, sz_2, sz_3, sz_4, sz_5, sz_6, sz_7, sz_8, sz_9, sz_10, sz_11, sz_12, cp_2, cp_3, cp_4, cp_5, cp_6, cp_7, cp_12, cp_20, cp_30, cp_38, cp_39, cp_40]
    (first | rw [Nx_eq] | rw [Arm_eq] | skip); (try simp_all only [ss_nil, Nx_nil, Arm_nil, sz_0, sz_1, sz_2, sz_3, sz_4, sz_5, sz_6, sz_7, sz_8, sz_9, sz_10, sz_11, sz_12, cp_2, cp_3, cp_4, cp_5, cp_6, cp_7, cp_12, cp_20, cp_30, cp_38, cp_39, cp_40])
    refine ⟨by unfold R62; decide, ?_⟩
    refine for_at (fun i τ st' => st' = st ∧ ∃ o7 o8 : Option PV, τ = [some (.scr ns), some (.ref p), some (.lst [.str "a", .str "bb", .str "c"]), some (.int most), some (senV x), some (.int many), o6, o7, o8, none]) ?_ ?_ ⟨rfl, _, _, rfl⟩
    · rintro i v τ st' hi ⟨rfl, o7, o8, rfl⟩
      refine ⟨trivial, ?_⟩
      unfold b_law_2
      simp_all only [ss_nil, Nx_nil, Arm_nil, sz_0, sz_1, sz_2, sz_3, sz_4, sz_5, sz_6, sz_7, sz_8, sz_9, sz_10, sz_11, sz_12, cp_2, cp_3, cp_4, cp_5, cp_6, cp_7, cp_12, cp_20, cp_30, cp_38, cp_39, cp_40]
      refine callS_of ⟨hp, x, rfl, hx, fun o ho hso => ?_⟩
      simp_all only [ss_nil, Nx_nil, Arm_nil, sz_0, sz_1, sz_2, sz_3, sz_4, sz_5, sz_6, sz_7, sz_8, sz_9, sz_10, sz_11, sz_12, cp_2, cp_3, cp_4, cp_5, cp_6, cp_7, cp_12, cp_20, cp_30, cp_38, cp_39, cp_40]
      (first | rw [Nx_eq] | rw [Arm_eq] | skip); (try simp_all only [ss_nil, Nx_nil, Arm_nil, sz_0, sz_1, sz_2, sz_3, sz_4, sz_5, sz_6, sz_7, sz_8, sz_9, sz_10, sz_11, sz_12, cp_2, cp_3, cp_4, cp_5, cp_6, cp_7, cp_12, cp_20, cp_30, cp_38, cp_39, cp_40])
      refine callS_of ⟨ho, ?_⟩
      simp_all only [ss_nil, Nx_nil, Arm_nil, sz_0, sz_1, sz_2, sz_3, sz_4, sz_5, sz_6, sz_7, sz_8, sz_9, sz_10, sz_11, sz_12, cp_2, cp_3, cp_4, cp_5, cp_6, cp_7, cp_12, cp_20, cp_30, cp_38, cp_39, cp_40, hso, ff]
      refine callS_of ⟨ho, rfl, .inl ⟨hso, ?_⟩⟩
      simp_all only [ss_nil, Nx_nil, Arm_nil, sz_0, sz_1, sz_2, sz_3, sz_4, sz_5, sz_6, sz_7, sz_8, sz_9, sz_10, sz_11, sz_12, cp_2, cp_3, cp_4, cp_5, cp_6, cp_7, cp_12, cp_20, cp_30, cp_38, cp_39, cp_40, ↓v_neSS2]
      exact ⟨_, _, rfl⟩
    · rintro τ st' ⟨rfl, o7, o8, rfl⟩
      refine ⟨trivial, ?_⟩
      simp_all only [ss_nil, Nx_nil, Arm_nil, sz_0, sz_1, sz_2, sz_3, sz_4, sz_5, sz_6, sz_7, sz_8, sz_9, sz_10, sz_11, sz_12, cp_2, cp_3, cp_4, cp_5, cp_6, cp_7, cp_12, cp_20, cp_30, cp_38, cp_39, cp_40]
      (first | rw [Nx_eq] | rw [Arm_eq] | skip); (try simp_all only [ss_nil, Nx_nil, Arm_nil, sz_0, sz_1, sz_2, sz_3, sz_4, sz_5, sz_6, sz_7, sz_8, sz_9, sz_10, sz_11, sz_12, cp_2, cp_3, cp_4, cp_5, cp_6, cp_7, cp_12, cp_20, cp_30, cp_38, cp_39, cp_40])
      refine callS_of fun xs hxs => ?_
      simp_all only [ss_nil, Nx_nil, Arm_nil, sz_0, sz_1, sz_2, sz_3, sz_4, sz_5, sz_6, sz_7, sz_8, sz_9, sz_10, sz_11, sz_12, cp_2, cp_3, cp_4, cp_5, cp_6, cp_7, cp_12, cp_20, cp_30, cp_38, cp_39, cp_40]
      refine for_at (fun i τ st => st = st' ∧ ∃ o8 : Option PV, τ = [some (.scr ns), some (.ref p), some (.lst [.str "a", .str "bb", .str "c"]), some (.int most), some (senV x), some (.int many), o6, o7, o8, none]) ?_ ?_ ⟨rfl, _, rfl⟩
      · rintro i v τ st hi ⟨rfl, o8, rfl⟩
        obtain ⟨dv, wv⟩ := hxs v (List.mem_of_getElem? hi)
        refine ⟨trivial, ?_⟩
        unfold b_law_3
        simp_all only [ss_nil, Nx_nil, Arm_nil, sz_0, sz_1, sz_2, sz_3, sz_4, sz_5, sz_6, sz_7, sz_8, sz_9, sz_10, sz_11, sz_12, cp_2, cp_3, cp_4, cp_5, cp_6, cp_7, cp_12, cp_20, cp_30, cp_38, cp_39, cp_40]
        refine callS_of ⟨hd, dv, .inr ⟨hs, wv, ?_⟩⟩
        simp_all only [ss_nil, Nx_nil, Arm_nil, sz_0, sz_1, sz_2, sz_3, sz_4, sz_5, sz_6, sz_7, sz_8, sz_9, sz_10, sz_11, sz_12, cp_2, cp_3, cp_4, cp_5, cp_6, cp_7, cp_12, cp_20, cp_30, cp_38, cp_39, cp_40, ↓v_neSS2]
        exact ⟨_, rfl⟩
      · rintro τ st ⟨rfl, o8, rfl⟩
        refine ⟨trivial, ?_⟩
        have eB : sentB (.tup [.str "soon", .str (repS 12 "a"), .str "bb", .str "<", .int 1]) = true := by decide +kernel
        have eC : sentB (.tup [.str "soon", .str (repS 12 "a"), .str "bb", .str "<", .int 0]) = false := by decide +kernel
        have eD : sentB (.tup [.str "rest", .str "a", .str "a", .str ">", .int 0]) = true := by decide +kernel
        have ct : cutP [PV.str "soon", .str (repS 12 "a"), .str "bb", .str "<", .int 1] none (some 4) = [.str "soon", .str (repS 12 "a"), .str "bb", .str "<"] := rfl
        simp_all only [ss_nil, Nx_nil, Arm_nil, sz_0, sz_1, sz_2, sz_3, sz_4, sz_5, sz_6, sz_7, sz_8, sz_9, sz_10, sz_11, sz_12, cp_2, cp_3, cp_4, cp_5, cp_6, cp_7, cp_12, cp_20, cp_30, cp_38, cp_39, cp_40]
        (first | rw [Nx_eq] | rw [Arm_eq] | skip); (try simp_all only [ss_nil, Nx_nil, Arm_nil, sz_0, sz_1, sz_2, sz_3, sz_4, sz_5, sz_6, sz_7, sz_8, sz_9, sz_10, sz_11, sz_12, cp_2, cp_3, cp_4, cp_5, cp_6, cp_7, cp_12, cp_20, cp_30, cp_38, cp_39, cp_40])
        refine ⟨by decide, ?_⟩
        (first | rw [Nx_eq] | rw [Arm_eq] | skip); (try simp_all only [ss_nil, Nx_nil, Arm_nil, sz_0, sz_1, sz_2, sz_3, sz_4, sz_5, sz_6, sz_7, sz_8, sz_9, sz_10, sz_11, sz_12, cp_2, cp_3, cp_4, cp_5, cp_6, cp_7, cp_12, cp_20, cp_30, cp_38, cp_39, cp_40])
        refine callS_of ⟨by decide +kernel, ?_⟩
        simp_all only [ss_nil, Nx_nil, Arm_nil, sz_0, sz_1, sz_2, sz_3, sz_4, sz_5, sz_6, sz_7, sz_8, sz_9, sz_10, sz_11, sz_12, cp_2, cp_3, cp_4, cp_5, cp_6, cp_7, cp_12, cp_20, cp_30, cp_38, cp_39, cp_40, eB, tt, ct]
        refine callS_of ⟨by decide +kernel, ?_⟩
        simp_all only [ss_nil, Nx_nil, Arm_nil, sz_0, sz_1, sz_2, sz_3, sz_4, sz_5, sz_6, sz_7, sz_8, sz_9, sz_10, sz_11, sz_12, cp_2, cp_3, cp_4, cp_5, cp_6, cp_7, cp_12, cp_20, cp_30, cp_38, cp_39, cp_40, eC, ff]
        (first | rw [Nx_eq] | rw [Arm_eq] | skip); (try simp_all only [ss_nil, Nx_nil, Arm_nil, sz_0, sz_1, sz_2, sz_3, sz_4, sz_5, sz_6, sz_7, sz_8, sz_9, sz_10, sz_11, sz_12, cp_2, cp_3, cp_4, cp_5, cp_6, cp_7, cp_12, cp_20, cp_30, cp_38, cp_39, cp_40])
        refine callS_of ⟨by decide +kernel, ?_⟩
        simp_all only [ss_nil, Nx_nil, Arm_nil, sz_0, sz_1, sz_2, sz_3, sz_4, sz_5, sz_6, sz_7, sz_8, sz_9, sz_10, sz_11, sz_12, cp_2, cp_3, cp_4, cp_5, cp_6, cp_7, cp_12, cp_20, cp_30, cp_38, cp_39, cp_40, eD, tt]
        exact ⟨st, .rfl, h st⟩
def b_law_tail : Ss :=
  (.cons (.asg (.name 4) (.call "_law_drawn_sentence" sp__law_drawn_sentence (.cons (.var 1) (.cons (.var 2) (.cons (.var 3) .nil))))) (.cons (.ite (.bools .Or (.cons (.cmp .IsNot (.call "is_sentence" sp_is_sentence (.cons (.var 4) .nil)) (.bl true)) (.cons (.cmp .IsNot (.call "check_sentence" sp_check_sentence (.cons (.var 4) .nil)) .non) .nil))) (.cons (.ret (.bl false)) .nil) .nil) (.cons (.asg (.name 5) (.ite (.cmp .Eq (.call "_law_draw" sp__law_draw (.cons (.var 1) (.cons (.int 12) .nil))) (.int 0)) (.int 12) (.call "_law_draw" sp__law_draw (.cons (.var 1) (.cons (.int 7) .nil))))) (.cons (.loop (.name 6) (.val (.lst false (.cons (.call "_law_drawn_word" sp__law_drawn_word (.cons (.var 1) (.cons (.var 2) (.cons (.var 5) .nil)))) (.cons (.call "_law_border_word" sp__law_border_word (.cons (.var 1) (.cons (.var 4) .nil))) (.cons (.tup (.cons (.tup .nil) (.cons (.tup (.cons (.int 0) (.cons (.int 1) .nil))) .nil))) (.cons (.tup (.cons (.tup .nil) (.cons (.tup (.cons (.int 5) (.cons (.int 1) .nil))) .nil))) .nil)))))) b_law_1) (.cons (.loop (.name 7) (.range1 (.int 3)) b_law_2) (.cons (.loop (.name 8) (.val (.call "_law_odd_words" sp__law_odd_words .nil)) b_law_3) (.cons (.asg (.name 9) (.tup (.cons (.str "soon") (.cons (.bin .Mult false (.str "a") (.int 12)) (.cons (.str "bb") (.cons (.str "<") (.cons (.int 1) .nil))))))) (.cons (.ite (.bools .Or (.cons (.cmp .IsNot (.call "is_sentence" sp_is_sentence (.cons (.var 9) .nil)) (.bl true)) (.cons (.cmp .IsNot (.call "is_sentence" sp_is_sentence (.cons (.bin .Add false (.slice false (.var 9) .no (.yes (.int 4))) (.tup (.cons (.int 0) .nil))) .nil)) (.bl false)) .nil))) (.cons (.ret (.bl false)) .nil) .nil) (.cons (.ret (.cmp .Is (.call "is_sentence" sp_is_sentence (.cons (.tup (.cons (.str "rest") (.cons (.str "a") (.cons (.str "a") (.cons (.str ">") (.cons (.int 0) .nil)))))) .nil)) (.bl true))) .nil)))))))))
theorem law_tail {Q : PV → Store → Prop} {X : Exn → Store → Prop} {ns : List Int} {p : Nat} {s1 : Store} {most : Int} (hm : most = 4 ∨ most = 99) (hp : s1 p = some .pool) (h : ∀ s, Q (.bl true) s) :
    Nx b_law_tail (fnEnds Q X) [some (.scr ns), some (.ref p), some (.lst [.str "a", .str "bb", .str "c"]), some (.int most), none, none, none, none, none, none] s1 := by
  have l3 : ([.str "a", .str "bb", .str "c"] : List PV).length ≤ 10 ^ 9 := by simp only [List.length_cons, List.length_nil]; decide
  have lts : ∀ x ∈ ([.str "a", .str "bb", .str "c"] : List PV), ∃ a : Str, x = .str a ∧ LtOk a := fun x hx => by
    simp only [List.mem_cons, List.not_mem_nil, or_false] at hx
    rcases hx with e | e | e
    · exact ⟨_, e, .inl rfl⟩
    · exact ⟨_, e, .inr (.inl rfl)⟩
    · exact ⟨_, e, .inr (.inr rfl)⟩
  unfold b_law_tail
  (first | rw [Nx_eq] | rw [Arm_eq] | skip); (try simp_all only [ss_nil, Nx_nil, Arm_nil, sz_0, sz_1, sz_2, sz_3, sz_4, sz_5, sz_6, sz_7, sz_8, sz_9, sz_10, sz_11, sz_12, cp_2, cp_3, cp_4, cp_5, cp_6, cp_7, cp_12, cp_20, cp_30, cp_38, cp_39, cp_40])
  refine callS_of ⟨hp, hm, rfl, fun x hx => ?_⟩
  have hd := ds_dn hx
  have hs := ds_sent hx
  have tt : ((true : Bool) = true) = True := eq_true rfl
  have ff : ((false : Bool) = false) = True := eq_true rfl
  simp_all only [ss_nil, Nx_nil, Arm_nil, sz_0, sz_1, sz_2, sz_3, sz_4, sz_5, sz_6, sz_7, sz_8, sz_9, sz_10, sz_11, sz_12, cp_2, cp_3, cp_4, cp_5, cp_6, cp_7, cp_12, cp_20, cp_30, cp_38, cp_39, cp_40]
  (first | rw [Nx_eq] | rw [Arm_eq] | skip); (try simp_all only [ss_nil, Nx_nil, Arm_nil, sz_0, sz_1, sz_2, sz_3, sz_4, sz_5, sz_6, sz_7, sz_8, sz_9, sz_10, sz_11, sz_12, cp_2, cp_3, cp_4, cp_5, cp_6, cp_7, cp_12, cp_20, cp_30, cp_38, cp_39, cp_40])
  refine callS_of ⟨hd, ?_⟩
  simp_all only [ss_nil, Nx_nil, Arm_nil, sz_0, sz_1, sz_2, sz_3, sz_4, sz_5, sz_6, sz_7, sz_8, sz_9, sz_10, sz_11, sz_12, cp_2, cp_3, cp_4, cp_5, cp_6, cp_7, cp_12, cp_20, cp_30, cp_38, cp_39, cp_40, hs, tt]
  refine callS_of ⟨hd, fun _ => ?_, fun z => (by rw [hs] at z; cases z)⟩
  simp_all only [ss_nil, Nx_nil, Arm_nil, sz_0, sz_1, sz_2, sz_3, sz_4, sz_5, sz_6, sz_7, sz_8, sz_9, sz_10, sz_11, sz_12, cp_2, cp_3, cp_4, cp_5, cp_6, cp_7, cp_12, cp_20, cp_30, cp_38, cp_39, cp_40]
  (first | rw [Nx_eq] | rw [Arm_eq] | skip); (try simp_all only [ss_nil, Nx_nil, Arm_nil, sz_0, sz_1, sz_2, sz_3, sz_4, sz_5, sz_6, sz_7, sz_8, sz_9, sz_10, sz_11, sz_12, cp_2, cp_3, cp_4, cp_5, cp_6, cp_7, cp_12, cp_20, cp_30, cp_38, cp_39, cp_40])
  refine callS_of ⟨hp, .of (by decide), fun u u0 u1 _ => ?_⟩
  simp_all only [ss_nil, Nx_nil, Arm_nil, sz_0, sz_1, sz_2, sz_3, sz_4, sz_5, sz_6, sz_7, sz_8, sz_9, sz_10, sz_11, sz_12, cp_2, cp_3, cp_4, cp_5, cp_6, cp_7, cp_12, cp_20, cp_30, cp_38, cp_39, cp_40]
  split
  · exact law_tail2 hx (by decide) (by decide) hp h
  · refine callS_of ⟨hp, .of (by decide), fun m m0 m1 _ => ?_⟩
    have m1 := m1 (by decide)
    simp_all only [ss_nil, Nx_nil, Arm_nil, sz_0, sz_1, sz_2, sz_3, sz_4, sz_5, sz_6, sz_7, sz_8, sz_9, sz_10, sz_11, sz_12, cp_2, cp_3, cp_4, cp_5, cp_6, cp_7, cp_12, cp_20, cp_30, cp_38, cp_39, cp_40]
    exact law_tail2 hx m0 (by omega) hp h
theorem w_law : ∀ vs s Q X, vs.length = 1 → lawSp vs s Q X → wpFn n_law.length b_law vs s Q X := by
  rintro vs s Q X hl ⟨ns, rfl, hns, h⟩
  rw [fn_eq]
  unfold b_law n_law
  simp_all only [ss_nil, Nx_nil, Arm_nil, sz_0, sz_1, sz_2, sz_3, sz_4, sz_5, sz_6, sz_7, sz_8, sz_9, sz_10, sz_11, sz_12, cp_2, cp_3, cp_4, cp_5, cp_6, cp_7, cp_12, cp_20, cp_30, cp_38, cp_39, cp_40]
  refine callS_of fun p hp0 => ?_
  have hp : up s p (some .pool) p = some .pool := up_same
  revert hp
  generalize up s p (some .pool) = s1
  intro hp
  simp_all only [ss_nil, Nx_nil, Arm_nil, sz_0, sz_1, sz_2, sz_3, sz_4, sz_5, sz_6, sz_7, sz_8, sz_9, sz_10, sz_11, sz_12, cp_2, cp_3, cp_4, cp_5, cp_6, cp_7, cp_12, cp_20, cp_30, cp_38, cp_39, cp_40]
  (first | rw [Nx_eq] | rw [Arm_eq] | skip); (try simp_all only [ss_nil, Nx_nil, Arm_nil, sz_0, sz_1, sz_2, sz_3, sz_4, sz_5, sz_6, sz_7, sz_8, sz_9, sz_10, sz_11, sz_12, cp_2, cp_3, cp_4, cp_5, cp_6, cp_7, cp_12, cp_20, cp_30, cp_38, cp_39, cp_40])
  (first | rw [Nx_eq] | rw [Arm_eq] | skip); (try simp_all only [ss_nil, Nx_nil, Arm_nil, sz_0, sz_1, sz_2, sz_3, sz_4, sz_5, sz_6, sz_7, sz_8, sz_9, sz_10, sz_11, sz_12, cp_2, cp_3, cp_4, cp_5, cp_6, cp_7, cp_12, cp_20, cp_30, cp_38, cp_39, cp_40])
  refine callS_of ⟨hp, .of (by decide), fun u u0 u1 _ => ?_⟩
  simp_all only [ss_nil, Nx_nil, Arm_nil, sz_0, sz_1, sz_2, sz_3, sz_4, sz_5, sz_6, sz_7, sz_8, sz_9, sz_10, sz_11, sz_12, cp_2, cp_3, cp_4, cp_5, cp_6, cp_7, cp_12, cp_20, cp_30, cp_38, cp_39, cp_40]
  split
  · exact law_tail (.inr rfl) hp h
  · exact law_tail (.inl rfl) hp h
end TK

namespace TK
open PySem PySem.Spec PyProof.Rows L2
/-! ### the linked text: its defs -/
def topS (i : Nat) : Stmt := PySem.Challenge.pw_tickless_k69_plain_meaning_of_sentences.main.body.getD i (.Pass ⟨0, 0, 0, 0⟩)
abbrev s_common_factor : Stmt := topS 4
theorem sc_common_factor : FnScope n_common_factor ["a", "b"] (defScope s_common_factor) := ⟨rfl, rfl, rfl, by decide +kernel, rfl, by decide +kernel, by decide +kernel⟩
theorem ck_common_factor : chkSs b_common_factor ⟨n_common_factor, defScope s_common_factor, defScope s_common_factor⟩ (defBody s_common_factor) = true := by decide +kernel
abbrev s_lowest_terms : Stmt := topS 5
theorem sc_lowest_terms : FnScope n_lowest_terms ["n", "d"] (defScope s_lowest_terms) := ⟨rfl, rfl, rfl, by decide +kernel, rfl, by decide +kernel, by decide +kernel⟩
theorem ck_lowest_terms : chkSs b_lowest_terms ⟨n_lowest_terms, defScope s_lowest_terms, defScope s_lowest_terms⟩ (defBody s_lowest_terms) = true := by decide +kernel
abbrev s_is_int : Stmt := topS 6
theorem sc_is_int : FnScope n_is_int ["value"] (defScope s_is_int) := ⟨rfl, rfl, rfl, by decide +kernel, rfl, by decide +kernel, by decide +kernel⟩
theorem ck_is_int : chkSs b_is_int ⟨n_is_int, defScope s_is_int, defScope s_is_int⟩ (defBody s_is_int) = true := by decide +kernel
abbrev s_is_ratio : Stmt := topS 7
theorem sc_is_ratio : FnScope n_is_ratio ["value"] (defScope s_is_ratio) := ⟨rfl, rfl, rfl, by decide +kernel, rfl, by decide +kernel, by decide +kernel⟩
theorem ck_is_ratio : chkSs b_is_ratio ⟨n_is_ratio, defScope s_is_ratio, defScope s_is_ratio⟩ (defBody s_is_ratio) = true := by decide +kernel
abbrev s_minus : Stmt := topS 8
theorem sc_minus : FnScope n_minus ["a", "b"] (defScope s_minus) := ⟨rfl, rfl, rfl, by decide +kernel, rfl, by decide +kernel, by decide +kernel⟩
theorem ck_minus : chkSs b_minus ⟨n_minus, defScope s_minus, defScope s_minus⟩ (defBody s_minus) = true := by decide +kernel
abbrev s_is_less : Stmt := topS 9
theorem sc_is_less : FnScope n_is_less ["a", "b"] (defScope s_is_less) := ⟨rfl, rfl, rfl, by decide +kernel, rfl, by decide +kernel, by decide +kernel⟩
theorem ck_is_less : chkSs b_is_less ⟨n_is_less, defScope s_is_less, defScope s_is_less⟩ (defBody s_is_less) = true := by decide +kernel
abbrev s_is_whole : Stmt := topS 14
theorem sc_is_whole : FnScope n_is_whole ["value", "low", "high"] (defScope s_is_whole) := ⟨rfl, rfl, rfl, by decide +kernel, rfl, by decide +kernel, by decide +kernel⟩
theorem ck_is_whole : chkSs b_is_whole ⟨n_is_whole, defScope s_is_whole, defScope s_is_whole⟩ (defBody s_is_whole) = true := by decide +kernel
abbrev s_is_size : Stmt := topS 15
theorem sc_is_size : FnScope n_is_size ["value"] (defScope s_is_size) := ⟨rfl, rfl, rfl, by decide +kernel, rfl, by decide +kernel, by decide +kernel⟩
theorem ck_is_size : chkSs b_is_size ⟨n_is_size, defScope s_is_size, defScope s_is_size⟩ (defBody s_is_size) = true := by decide +kernel
abbrev s_is_letter : Stmt := topS 16
theorem sc_is_letter : FnScope n_is_letter ["value", "most"] (defScope s_is_letter) := ⟨rfl, rfl, rfl, by decide +kernel, rfl, by decide +kernel, by decide +kernel⟩
theorem ck_is_letter : chkSs b_is_letter ⟨n_is_letter, defScope s_is_letter, defScope s_is_letter⟩ (defBody s_is_letter) = true := by decide +kernel
abbrev s_is_sign : Stmt := topS 17
theorem sc_is_sign : FnScope n_is_sign ["value"] (defScope s_is_sign) := ⟨rfl, rfl, rfl, by decide +kernel, rfl, by decide +kernel, by decide +kernel⟩
theorem ck_is_sign : chkSs b_is_sign ⟨n_is_sign, defScope s_is_sign, defScope s_is_sign⟩ (defBody s_is_sign) = true := by decide +kernel
abbrev s_is_word : Stmt := topS 18
theorem sc_is_word : FnScope n_is_word ["word"] (defScope s_is_word) := ⟨rfl, rfl, rfl, by decide +kernel, rfl, by decide +kernel, by decide +kernel⟩
theorem ck_is_word : chkSs b_is_word ⟨n_is_word, defScope s_is_word, defScope s_is_word⟩ (defBody s_is_word) = true := by decide +kernel
abbrev s_check_word : Stmt := topS 19
theorem sc_check_word : FnScope n_check_word ["word"] (defScope s_check_word) := ⟨rfl, rfl, rfl, by decide +kernel, rfl, by decide +kernel, by decide +kernel⟩
theorem ck_check_word : chkSs b_check_word ⟨n_check_word, defScope s_check_word, defScope s_check_word⟩ (defBody s_check_word) = true := by decide +kernel
abbrev s_compared : Stmt := topS 21
theorem sc_compared : FnScope n_compared ["value", "sign", "number"] (defScope s_compared) := ⟨rfl, rfl, rfl, by decide +kernel, rfl, by decide +kernel, by decide +kernel⟩
theorem ck_compared : chkSs b_compared ⟨n_compared, defScope s_compared, defScope s_compared⟩ (defBody s_compared) = true := by decide +kernel
abbrev s_is_bound : Stmt := topS 27
theorem sc_is_bound : FnScope n_is_bound ["sign", "number", "signs"] (defScope s_is_bound) := ⟨rfl, rfl, rfl, by decide +kernel, rfl, by decide +kernel, by decide +kernel⟩
theorem ck_is_bound : chkSs b_is_bound ⟨n_is_bound, defScope s_is_bound, defScope s_is_bound⟩ (defBody s_is_bound) = true := by decide +kernel
abbrev s_is_sentence : Stmt := topS 28
theorem sc_is_sentence : FnScope n_is_sentence ["value"] (defScope s_is_sentence) := ⟨rfl, rfl, rfl, by decide +kernel, rfl, by decide +kernel, by decide +kernel⟩
theorem ck_is_sentence : chkSs b_is_sentence ⟨n_is_sentence, defScope s_is_sentence, defScope s_is_sentence⟩ (defBody s_is_sentence) = true := by decide +kernel
abbrev s_check_sentence : Stmt := topS 29
theorem sc_check_sentence : FnScope n_check_sentence ["value"] (defScope s_check_sentence) := ⟨rfl, rfl, rfl, by decide +kernel, rfl, by decide +kernel, by decide +kernel⟩
theorem ck_check_sentence : chkSs b_check_sentence ⟨n_check_sentence, defScope s_check_sentence, defScope s_check_sentence⟩ (defBody s_check_sentence) = true := by decide +kernel
abbrev s_sign_holds : Stmt := topS 30
theorem sc_sign_holds : FnScope n_sign_holds ["sign", "a", "b"] (defScope s_sign_holds) := ⟨rfl, rfl, rfl, by decide +kernel, rfl, by decide +kernel, by decide +kernel⟩
theorem ck_sign_holds : chkSs b_sign_holds ⟨n_sign_holds, defScope s_sign_holds, defScope s_sign_holds⟩ (defBody s_sign_holds) = true := by decide +kernel
abbrev s_keeps_first : Stmt := topS 31
theorem sc_keeps_first : FnScope n_keeps_first ["sentence", "signs", "end"] (defScope s_keeps_first) := ⟨rfl, rfl, rfl, by decide +kernel, rfl, by decide +kernel, by decide +kernel⟩
theorem ck_keeps_first : chkSs b_keeps_first ⟨n_keeps_first, defScope s_keeps_first, defScope s_keeps_first⟩ (defBody s_keeps_first) = true := by decide +kernel
abbrev s_keeps_soon : Stmt := topS 32
theorem sc_keeps_soon : FnScope n_keeps_soon ["sentence", "signs", "end"] (defScope s_keeps_soon) := ⟨rfl, rfl, rfl, by decide +kernel, rfl, by decide +kernel, by decide +kernel⟩
theorem ck_keeps_soon : chkSs b_keeps_soon ⟨n_keeps_soon, defScope s_keeps_soon, defScope s_keeps_soon⟩ (defBody s_keeps_soon) = true := by decide +kernel
abbrev s_last_ahead : Stmt := topS 33
theorem sc_last_ahead : FnScope n_last_ahead ["signs", "at", "a"] (defScope s_last_ahead) := ⟨rfl, rfl, rfl, by decide +kernel, rfl, by decide +kernel, by decide +kernel⟩
theorem ck_last_ahead : chkSs b_last_ahead ⟨n_last_ahead, defScope s_last_ahead, defScope s_last_ahead⟩ (defBody s_last_ahead) = true := by decide +kernel
abbrev s_keeps_since : Stmt := topS 34
theorem sc_keeps_since : FnScope n_keeps_since ["sentence", "signs"] (defScope s_keeps_since) := ⟨rfl, rfl, rfl, by decide +kernel, rfl, by decide +kernel, by decide +kernel⟩
theorem ck_keeps_since : chkSs b_keeps_since ⟨n_keeps_since, defScope s_keeps_since, defScope s_keeps_since⟩ (defBody s_keeps_since) = true := by decide +kernel
abbrev s_made_keeps : Stmt := topS 35
theorem sc_made_keeps : FnScope n_made_keeps ["sentence", "word"] (defScope s_made_keeps) := ⟨rfl, rfl, rfl, by decide +kernel, rfl, by decide +kernel, by decide +kernel⟩
theorem ck_made_keeps : chkSs b_made_keeps ⟨n_made_keeps, defScope s_made_keeps, defScope s_made_keeps⟩ (defBody s_made_keeps) = true := by decide +kernel
abbrev s_keeps_word : Stmt := topS 36
theorem sc_keeps_word : FnScope n_keeps_word ["sentence", "word"] (defScope s_keeps_word) := ⟨rfl, rfl, rfl, by decide +kernel, rfl, by decide +kernel, by decide +kernel⟩
theorem ck_keeps_word : chkSs b_keeps_word ⟨n_keeps_word, defScope s_keeps_word, defScope s_keeps_word⟩ (defBody s_keeps_word) = true := by decide +kernel
abbrev s__law_pool : Stmt := topS 38
theorem sc__law_pool : FnScope n__law_pool ["script"] (defScope s__law_pool) := ⟨rfl, rfl, rfl, by decide +kernel, rfl, by decide +kernel, by decide +kernel⟩
theorem ck__law_pool : chkSs b__law_pool ⟨n__law_pool, defScope s__law_pool, defScope s__law_pool⟩ (defBody s__law_pool) = true := by decide +kernel
abbrev s__law_mix : Stmt := topS 39
theorem sc__law_mix : FnScope n__law_mix ["pool"] (defScope s__law_mix) := ⟨rfl, rfl, rfl, by decide +kernel, rfl, by decide +kernel, by decide +kernel⟩
theorem ck__law_mix : chkSs b__law_mix ⟨n__law_mix, defScope s__law_mix, defScope s__law_mix⟩ (defBody s__law_mix) = true := by decide +kernel
abbrev s__law_draw : Stmt := topS 40
theorem sc__law_draw : FnScope n__law_draw ["pool", "many"] (defScope s__law_draw) := ⟨rfl, rfl, rfl, by decide +kernel, rfl, by decide +kernel, by decide +kernel⟩
theorem ck__law_draw : chkSs b__law_draw ⟨n__law_draw, defScope s__law_draw, defScope s__law_draw⟩ (defBody s__law_draw) = true := by decide +kernel
abbrev s__law_pick : Stmt := topS 41
theorem sc__law_pick : FnScope n__law_pick ["pool", "menu"] (defScope s__law_pick) := ⟨rfl, rfl, rfl, by decide +kernel, rfl, by decide +kernel, by decide +kernel⟩
theorem ck__law_pick : chkSs b__law_pick ⟨n__law_pick, defScope s__law_pick, defScope s__law_pick⟩ (defBody s__law_pick) = true := by decide +kernel
abbrev s__law_same : Stmt := topS 42
theorem sc__law_same : FnScope n__law_same ["value", "due"] (defScope s__law_same) := ⟨rfl, rfl, rfl, by decide +kernel, rfl, by decide +kernel, by decide +kernel⟩
theorem ck__law_same : chkSs b__law_same ⟨n__law_same, defScope s__law_same, defScope s__law_same⟩ (defBody s__law_same) = true := by decide +kernel
abbrev s__law_gcd : Stmt := topS 43
theorem sc__law_gcd : FnScope n__law_gcd ["a", "b"] (defScope s__law_gcd) := ⟨rfl, rfl, rfl, by decide +kernel, rfl, by decide +kernel, by decide +kernel⟩
theorem ck__law_gcd : chkSs b__law_gcd ⟨n__law_gcd, defScope s__law_gcd, defScope s__law_gcd⟩ (defBody s__law_gcd) = true := by decide +kernel
abbrev s__law_ratio : Stmt := topS 44
theorem sc__law_ratio : FnScope n__law_ratio ["n", "d"] (defScope s__law_ratio) := ⟨rfl, rfl, rfl, by decide +kernel, rfl, by decide +kernel, by decide +kernel⟩
theorem ck__law_ratio : chkSs b__law_ratio ⟨n__law_ratio, defScope s__law_ratio, defScope s__law_ratio⟩ (defBody s__law_ratio) = true := by decide +kernel
abbrev s__law_plus : Stmt := topS 45
theorem sc__law_plus : FnScope n__law_plus ["a", "b"] (defScope s__law_plus) := ⟨rfl, rfl, rfl, by decide +kernel, rfl, by decide +kernel, by decide +kernel⟩
theorem ck__law_plus : chkSs b__law_plus ⟨n__law_plus, defScope s__law_plus, defScope s__law_plus⟩ (defBody s__law_plus) = true := by decide +kernel
abbrev s__law_less_by : Stmt := topS 46
theorem sc__law_less_by : FnScope n__law_less_by ["a", "b"] (defScope s__law_less_by) := ⟨rfl, rfl, rfl, by decide +kernel, rfl, by decide +kernel, by decide +kernel⟩
theorem ck__law_less_by : chkSs b__law_less_by ⟨n__law_less_by, defScope s__law_less_by, defScope s__law_less_by⟩ (defBody s__law_less_by) = true := by decide +kernel
abbrev s__law_compare : Stmt := topS 47
theorem sc__law_compare : FnScope n__law_compare ["value", "sign", "number"] (defScope s__law_compare) := ⟨rfl, rfl, rfl, by decide +kernel, rfl, by decide +kernel, by decide +kernel⟩
theorem ck__law_compare : chkSs b__law_compare ⟨n__law_compare, defScope s__law_compare, defScope s__law_compare⟩ (defBody s__law_compare) = true := by decide +kernel
abbrev s__law_keeps : Stmt := topS 48
theorem sc__law_keeps : FnScope n__law_keeps ["sentence", "word"] (defScope s__law_keeps) := ⟨rfl, rfl, rfl, by decide +kernel, rfl, by decide +kernel, by decide +kernel⟩
theorem ck__law_keeps : chkSs b__law_keeps ⟨n__law_keeps, defScope s__law_keeps, defScope s__law_keeps⟩ (defBody s__law_keeps) = true := by decide +kernel
abbrev s__law_drawn_sentence : Stmt := topS 49
theorem sc__law_drawn_sentence : FnScope n__law_drawn_sentence ["pool", "letters", "most"] (defScope s__law_drawn_sentence) := ⟨rfl, rfl, rfl, by decide +kernel, rfl, by decide +kernel, by decide +kernel⟩
theorem ck__law_drawn_sentence : chkSs b__law_drawn_sentence ⟨n__law_drawn_sentence, defScope s__law_drawn_sentence, defScope s__law_drawn_sentence⟩ (defBody s__law_drawn_sentence) = true := by decide +kernel
abbrev s__law_drawn_word : Stmt := topS 50
theorem sc__law_drawn_word : FnScope n__law_drawn_word ["pool", "letters", "many"] (defScope s__law_drawn_word) := ⟨rfl, rfl, rfl, by decide +kernel, rfl, by decide +kernel, by decide +kernel⟩
theorem ck__law_drawn_word : chkSs b__law_drawn_word ⟨n__law_drawn_word, defScope s__law_drawn_word, defScope s__law_drawn_word⟩ (defBody s__law_drawn_word) = true := by decide +kernel
abbrev s__law_border_word : Stmt := topS 51
theorem sc__law_border_word : FnScope n__law_border_word ["pool", "sentence"] (defScope s__law_border_word) := ⟨rfl, rfl, rfl, by decide +kernel, rfl, by decide +kernel, by decide +kernel⟩
theorem ck__law_border_word : chkSs b__law_border_word ⟨n__law_border_word, defScope s__law_border_word, defScope s__law_border_word⟩ (defBody s__law_border_word) = true := by decide +kernel
abbrev s__law_odd : Stmt := topS 52
theorem sc__law_odd : FnScope n__law_odd ["pool", "sentence"] (defScope s__law_odd) := ⟨rfl, rfl, rfl, by decide +kernel, rfl, by decide +kernel, by decide +kernel⟩
theorem ck__law_odd : chkSs b__law_odd ⟨n__law_odd, defScope s__law_odd, defScope s__law_odd⟩ (defBody s__law_odd) = true := by decide +kernel
abbrev s__law_what : Stmt := topS 53
theorem sc__law_what : FnScope n__law_what ["sentence", "word"] (defScope s__law_what) := ⟨rfl, rfl, rfl, by decide +kernel, rfl, by decide +kernel, by decide +kernel⟩
theorem ck__law_what : chkSs b__law_what ⟨n__law_what, defScope s__law_what, defScope s__law_what⟩ (defBody s__law_what) = true := by decide +kernel
abbrev s__law_odd_words : Stmt := topS 54
theorem sc__law_odd_words : FnScope n__law_odd_words [] (defScope s__law_odd_words) := ⟨rfl, rfl, rfl, by decide +kernel, rfl, by decide +kernel, by decide +kernel⟩
theorem ck__law_odd_words : chkSs b__law_odd_words ⟨n__law_odd_words, defScope s__law_odd_words, defScope s__law_odd_words⟩ (defBody s__law_odd_words) = true := by decide +kernel
abbrev s_law : Stmt := topS 55
theorem sc_law : FnScope n_law ["script"] (defScope s_law) := ⟨rfl, rfl, rfl, by decide +kernel, rfl, by decide +kernel, by decide +kernel⟩
theorem ck_law : chkSs b_law ⟨n_law, defScope s_law, defScope s_law⟩ (defBody s_law) = true := by decide +kernel
/-- a def behind the top -/
def Known (K : PySem.W.Frag) (mg : Str → Option Value) (x : Str) (st : Stmt) (ps : List Str) : Prop := ∃ f fd, L2.Fun K x x st f fd ∧ mg x = some (.ref f) ∧ Binds K fd ps []
def KnownD (K : PySem.W.Frag) (mg : Str → Option Value) (x : Str) (st : Stmt) (dvs : List V) : Prop := ∃ f fd, FunW K x x st dvs f fd ∧ mg x = some (.ref f)
abbrev i_BadValue : Stmt := inClass (topS 2) 0
theorem isc_BadValue : IniSc (sf "what") (sf "what") (defScope i_BadValue) := ⟨rfl, rfl, rfl, by decide, rfl, by decide +kernel, by decide +kernel, by decide +kernel, rfl, rfl⟩
theorem iok_BadValue {P : Program} {w : World} {K : PySem.W.Frag} {mg : Str → Option Value} {base : Heap} {D fI : Addr} {fd : FuncData} (I : IniF P K "__init__" "BadValue.__init__" i_BadValue D fI fd) (hmg : mg "super" = none) :
    FnOk P w K mg base (L2.CX P w) 1 fI fd (sf (fldOf "BadValue")) (iniSp1 K D (fldOf "BadValue") (okV "BadValue")) := by
  rw [fld_bv]
  exact init_fn1 (k := 0) I isc_BadValue hmg rfl rfl rfl (pl := fun env => (do return (← importBound (.Call (.Name "super" _) [] [] _) env).getD true)) (fun env => rfl) (fun env => rfl) (by decide) (by decide) (fun X hN hs hm hc hu => msg_what isc_BadValue (by decide) X hN hs rfl)
structure Facts (P : Program) (w : World) (K : PySem.W.Frag) (mg : Str → Option Value) : Prop where
  blt : ∀ x ∈ bltNames, mg x = none
  g_LONGEST : ∃ t, mg "LONGEST" = some (.int 12 t)
  g_LONGEST_LETTER : ∃ t, mg "LONGEST_LETTER" = some (.int 40 t)
  g_LOWER : ∃ a od n sl t0 t1, mg "LOWER" = some (.ref a) ∧ K.lookup a = some ⟨.type "tuple", od, .seq #[.str ">" t0, .str ">=" t1] n, sl⟩
  g_MOST_IN_ROW : ∃ t, mg "MOST_IN_ROW" = some (.int 12 t)
  g_MOST_NUMBER : ∃ t, mg "MOST_NUMBER" = some (.int 99 t)
  g_SMALL : ∃ t, mg "SMALL" = some (.str "abcdefghijklmnopqrstuvwxyz" t)
  g_UPPER : ∃ a od n sl t0 t1, mg "UPPER" = some (.ref a) ∧ K.lookup a = some ⟨.type "tuple", od, .seq #[.str "<" t0, .str "<=" t1] n, sl⟩
  f_common_factor : Known K mg "common_factor" s_common_factor ["a", "b"]
  f_lowest_terms : Known K mg "lowest_terms" s_lowest_terms ["n", "d"]
  f_is_int : Known K mg "is_int" s_is_int ["value"]
  f_is_ratio : Known K mg "is_ratio" s_is_ratio ["value"]
  f_minus : Known K mg "minus" s_minus ["a", "b"]
  f_is_less : Known K mg "is_less" s_is_less ["a", "b"]
  f_is_whole : Known K mg "is_whole" s_is_whole ["value", "low", "high"]
  f_is_size : Known K mg "is_size" s_is_size ["value"]
  f_is_letter : Known K mg "is_letter" s_is_letter ["value", "most"]
  f_is_sign : Known K mg "is_sign" s_is_sign ["value"]
  f_is_word : Known K mg "is_word" s_is_word ["word"]
  f_check_word : Known K mg "check_word" s_check_word ["word"]
  f_compared : Known K mg "compared" s_compared ["value", "sign", "number"]
  f_is_bound : Known K mg "is_bound" s_is_bound ["sign", "number", "signs"]
  f_is_sentence : Known K mg "is_sentence" s_is_sentence ["value"]
  f_check_sentence : Known K mg "check_sentence" s_check_sentence ["value"]
  f_sign_holds : Known K mg "sign_holds" s_sign_holds ["sign", "a", "b"]
  f_keeps_first : Known K mg "keeps_first" s_keeps_first ["sentence", "signs", "end"]
  f_keeps_soon : Known K mg "keeps_soon" s_keeps_soon ["sentence", "signs", "end"]
  f_last_ahead : Known K mg "last_ahead" s_last_ahead ["signs", "at", "a"]
  f_keeps_since : Known K mg "keeps_since" s_keeps_since ["sentence", "signs"]
  f_made_keeps : Known K mg "made_keeps" s_made_keeps ["sentence", "word"]
  f_keeps_word : Known K mg "keeps_word" s_keeps_word ["sentence", "word"]
  f__law_pool : Known K mg "_law_pool" s__law_pool ["script"]
  f__law_mix : Known K mg "_law_mix" s__law_mix ["pool"]
  f__law_draw : Known K mg "_law_draw" s__law_draw ["pool", "many"]
  f__law_pick : Known K mg "_law_pick" s__law_pick ["pool", "menu"]
  f__law_same : Known K mg "_law_same" s__law_same ["value", "due"]
  f__law_gcd : Known K mg "_law_gcd" s__law_gcd ["a", "b"]
  f__law_ratio : Known K mg "_law_ratio" s__law_ratio ["n", "d"]
  f__law_plus : Known K mg "_law_plus" s__law_plus ["a", "b"]
  f__law_less_by : Known K mg "_law_less_by" s__law_less_by ["a", "b"]
  f__law_compare : Known K mg "_law_compare" s__law_compare ["value", "sign", "number"]
  f__law_keeps : Known K mg "_law_keeps" s__law_keeps ["sentence", "word"]
  f__law_drawn_sentence : Known K mg "_law_drawn_sentence" s__law_drawn_sentence ["pool", "letters", "most"]
  f__law_drawn_word : Known K mg "_law_drawn_word" s__law_drawn_word ["pool", "letters", "many"]
  f__law_border_word : Known K mg "_law_border_word" s__law_border_word ["pool", "sentence"]
  f__law_odd : Known K mg "_law_odd" s__law_odd ["pool", "sentence"]
  f__law_what : Known K mg "_law_what" s__law_what ["sentence", "word"]
  f__law_odd_words : Known K mg "_law_odd_words" s__law_odd_words []
  x0_BadValue : ∀ (base : Heap) (k : Nat), 2 ≤ k → HasX ⟨P, w, K, mg, base⟩ k 0 "BadValue"
  x1_BadValue : ∀ (base : Heap) (k : Nat), HasX ⟨P, w, K, mg, base⟩ k 1 "BadValue"
  x2_TicklessError : ∀ (base : Heap) (k : Nat), HasX ⟨P, w, K, mg, base⟩ k 2 "TicklessError"
section
variable {P : Program} {w : World} {K : PySem.W.Frag} {mg : Str → Option Value} {base : Heap}
theorem ok_common_factor (L : Facts P w K mg) : HasFn (⟨P, w, K, mg, base⟩ : Wd) 1 "common_factor" sp_common_factor 2 := by
  obtain ⟨f, fd, F, hm, b⟩ := L.f_common_factor
  exact hasFn_of (sp := sp_common_factor) F hm b sc_common_factor L.blt rfl ck_common_factor (by simp only [b_common_factor, b_common_factor_1, needSs, needS, needE, needEs, needO, needT, needTs, needI, needX, needXs, Es.len, Nat.zero_add, Nat.reduceAdd, and_true, true_and, and_self]) w_common_factor
theorem ok_is_int (L : Facts P w K mg) : HasFn (⟨P, w, K, mg, base⟩ : Wd) 1 "is_int" sp_is_int 1 := by
  obtain ⟨f, fd, F, hm, b⟩ := L.f_is_int
  exact hasFn_of (sp := sp_is_int) F hm b sc_is_int L.blt rfl ck_is_int (by simp only [b_is_int, needSs, needS, needE, needEs, needO, needT, needTs, needI, needX, needXs, Es.len, Nat.zero_add, Nat.reduceAdd, and_true, true_and, and_self]) w_is_int
theorem ok_is_less (L : Facts P w K mg) : HasFn (⟨P, w, K, mg, base⟩ : Wd) 1 "is_less" sp_is_less 2 := by
  obtain ⟨f, fd, F, hm, b⟩ := L.f_is_less
  exact hasFn_of (sp := sp_is_less) F hm b sc_is_less L.blt rfl ck_is_less (by simp only [b_is_less, needSs, needS, needE, needEs, needO, needT, needTs, needI, needX, needXs, Es.len, Nat.zero_add, Nat.reduceAdd, and_true, true_and, and_self]) w_is_less
theorem ok_is_letter (L : Facts P w K mg) : HasFn (⟨P, w, K, mg, base⟩ : Wd) 1 "is_letter" sp_is_letter 2 := by
  obtain ⟨f, fd, F, hm, b⟩ := L.f_is_letter
  have c_SMALL : HasGl (⟨P, w, K, mg, base⟩ : Wd) "SMALL" (.str "abcdefghijklmnopqrstuvwxyz") := let ⟨_, e⟩ := L.g_SMALL; .str e
  exact hasFn_of (sp := sp_is_letter) F hm b sc_is_letter L.blt rfl ck_is_letter (by simp only [b_is_letter, needSs, needS, needE, needEs, needO, needT, needTs, needI, needX, needXs, Es.len, Nat.zero_add, Nat.reduceAdd, and_true, true_and, and_self, c_SMALL]) w_is_letter
theorem ok_compared (L : Facts P w K mg) : HasFn (⟨P, w, K, mg, base⟩ : Wd) 1 "compared" sp_compared 3 := by
  obtain ⟨f, fd, F, hm, b⟩ := L.f_compared
  exact hasFn_of (sp := sp_compared) F hm b sc_compared L.blt rfl ck_compared (by simp only [b_compared, needSs, needS, needE, needEs, needO, needT, needTs, needI, needX, needXs, Es.len, Nat.zero_add, Nat.reduceAdd, and_true, true_and, and_self]) w_compared
theorem ok_last_ahead (L : Facts P w K mg) : HasFn (⟨P, w, K, mg, base⟩ : Wd) 1 "last_ahead" sp_last_ahead 3 := by
  obtain ⟨f, fd, F, hm, b⟩ := L.f_last_ahead
  exact hasFn_of (sp := sp_last_ahead) F hm b sc_last_ahead L.blt rfl ck_last_ahead (by simp only [b_last_ahead, b_last_ahead_1, needSs, needS, needE, needEs, needO, needT, needTs, needI, needX, needXs, Es.len, Nat.zero_add, Nat.reduceAdd, and_true, true_and, and_self]) w_last_ahead
theorem ok__law_pool (L : Facts P w K mg) : HasFn (⟨P, w, K, mg, base⟩ : Wd) 1 "_law_pool" sp__law_pool 1 := by
  obtain ⟨f, fd, F, hm, b⟩ := L.f__law_pool
  exact pool_view (hasFn_of (sp := sl__law_pool) F hm b sc__law_pool L.blt rfl ck__law_pool (by simp only [b__law_pool, needSs, needS, needE, needEs, needO, needT, needTs, needI, needX, needXs, Es.len, Nat.zero_add, Nat.reduceAdd, and_true, true_and, and_self]) w__law_pool)
theorem ok__law_mix (L : Facts P w K mg) : HasFn (⟨P, w, K, mg, base⟩ : Wd) 1 "_law_mix" sp__law_mix 1 := by
  obtain ⟨f, fd, F, hm, b⟩ := L.f__law_mix
  exact hasFn_of (sp := sp__law_mix) F hm b sc__law_mix L.blt rfl ck__law_mix (by simp only [b__law_mix, needSs, needS, needE, needEs, needO, needT, needTs, needI, needX, needXs, Es.len, Nat.zero_add, Nat.reduceAdd, and_true, true_and, and_self]) w__law_mix
theorem ok__law_same (L : Facts P w K mg) : HasFn (⟨P, w, K, mg, base⟩ : Wd) 1 "_law_same" sp__law_same 2 := by
  obtain ⟨f, fd, F, hm, b⟩ := L.f__law_same
  exact hasFn_of (sp := sp__law_same) F hm b sc__law_same L.blt rfl ck__law_same (by simp only [b__law_same, needSs, needS, needE, needEs, needO, needT, needTs, needI, needX, needXs, Es.len, Nat.zero_add, Nat.reduceAdd, and_true, true_and, and_self]) w__law_same
theorem ok__law_gcd (L : Facts P w K mg) : HasFn (⟨P, w, K, mg, base⟩ : Wd) 1 "_law_gcd" sp__law_gcd 2 := by
  obtain ⟨f, fd, F, hm, b⟩ := L.f__law_gcd
  exact hasFn_of (sp := sp__law_gcd) F hm b sc__law_gcd L.blt rfl ck__law_gcd (by simp only [b__law_gcd, b__law_gcd_1, needSs, needS, needE, needEs, needO, needT, needTs, needI, needX, needXs, Es.len, Nat.zero_add, Nat.reduceAdd, and_true, true_and, and_self]) w__law_gcd
theorem ok__law_compare (L : Facts P w K mg) : HasFn (⟨P, w, K, mg, base⟩ : Wd) 1 "_law_compare" sp__law_compare 3 := by
  obtain ⟨f, fd, F, hm, b⟩ := L.f__law_compare
  exact hasFn_of (sp := sp__law_compare) F hm b sc__law_compare L.blt rfl ck__law_compare (by simp only [b__law_compare, needSs, needS, needE, needEs, needO, needT, needTs, needI, needX, needXs, Es.len, Nat.zero_add, Nat.reduceAdd, and_true, true_and, and_self]) w__law_compare
theorem ok__law_odd_words (L : Facts P w K mg) : HasFn (⟨P, w, K, mg, base⟩ : Wd) 1 "_law_odd_words" sp__law_odd_words 0 := by
  obtain ⟨f, fd, F, hm, b⟩ := L.f__law_odd_words
  exact hasFn_of (sp := sp__law_odd_words) F hm b sc__law_odd_words L.blt rfl ck__law_odd_words (by simp only [b__law_odd_words, needSs, needS, needE, needEs, needO, needT, needTs, needI, needX, needXs, Es.len, Nat.zero_add, Nat.reduceAdd, and_true, true_and, and_self]) w__law_odd_words
theorem ok_lowest_terms (L : Facts P w K mg) : HasFn (⟨P, w, K, mg, base⟩ : Wd) 2 "lowest_terms" sp_lowest_terms 2 := by
  obtain ⟨f, fd, F, hm, b⟩ := L.f_lowest_terms
  have h_common_factor := (ok_common_factor (P := P) (w := w) (base := base) L).mono (show 1 ≤ 1 by decide)
  exact hasFn_of (sp := sp_lowest_terms) F hm b sc_lowest_terms L.blt rfl ck_lowest_terms (by simp only [b_lowest_terms, needSs, needS, needE, needEs, needO, needT, needTs, needI, needX, needXs, Es.len, Nat.zero_add, Nat.reduceAdd, and_true, true_and, and_self, h_common_factor]) w_lowest_terms
theorem ok_is_ratio (L : Facts P w K mg) : HasFn (⟨P, w, K, mg, base⟩ : Wd) 2 "is_ratio" sp_is_ratio 1 := by
  obtain ⟨f, fd, F, hm, b⟩ := L.f_is_ratio
  have h_is_int := (ok_is_int (P := P) (w := w) (base := base) L).mono (show 1 ≤ 1 by decide)
  have h_common_factor := (ok_common_factor (P := P) (w := w) (base := base) L).mono (show 1 ≤ 1 by decide)
  exact hasFn_of (sp := sp_is_ratio) F hm b sc_is_ratio L.blt rfl ck_is_ratio (by simp only [b_is_ratio, needSs, needS, needE, needEs, needO, needT, needTs, needI, needX, needXs, Es.len, Nat.zero_add, Nat.reduceAdd, and_true, true_and, and_self, h_is_int, h_common_factor]) w_is_ratio
theorem ok_is_whole (L : Facts P w K mg) : HasFn (⟨P, w, K, mg, base⟩ : Wd) 2 "is_whole" sp_is_whole 3 := by
  obtain ⟨f, fd, F, hm, b⟩ := L.f_is_whole
  have h_is_int := (ok_is_int (P := P) (w := w) (base := base) L).mono (show 1 ≤ 1 by decide)
  exact hasFn_of (sp := sp_is_whole) F hm b sc_is_whole L.blt rfl ck_is_whole (by simp only [b_is_whole, needSs, needS, needE, needEs, needO, needT, needTs, needI, needX, needXs, Es.len, Nat.zero_add, Nat.reduceAdd, and_true, true_and, and_self, h_is_int]) w_is_whole
theorem ok_sign_holds (L : Facts P w K mg) : HasFn (⟨P, w, K, mg, base⟩ : Wd) 2 "sign_holds" sp_sign_holds 3 := by
  obtain ⟨f, fd, F, hm, b⟩ := L.f_sign_holds
  have h_compared := (ok_compared (P := P) (w := w) (base := base) L).mono (show 1 ≤ 1 by decide)
  exact hasFn_of (sp := sp_sign_holds) F hm b sc_sign_holds L.blt rfl ck_sign_holds (by simp only [b_sign_holds, needSs, needS, needE, needEs, needO, needT, needTs, needI, needX, needXs, Es.len, Nat.zero_add, Nat.reduceAdd, and_true, true_and, and_self, h_compared]) w_sign_holds
theorem ok__law_draw (L : Facts P w K mg) : HasFn (⟨P, w, K, mg, base⟩ : Wd) 2 "_law_draw" sp__law_draw 2 := by
  obtain ⟨f, fd, F, hm, b⟩ := L.f__law_draw
  have h__law_mix := (ok__law_mix (P := P) (w := w) (base := base) L).mono (show 1 ≤ 1 by decide)
  exact draw_view (hasFn_of (sp := sl__law_draw) F hm b sc__law_draw L.blt rfl ck__law_draw (by simp only [b__law_draw, needSs, needS, needE, needEs, needO, needT, needTs, needI, needX, needXs, Es.len, Nat.zero_add, Nat.reduceAdd, and_true, true_and, and_self, h__law_mix]) w__law_draw)
theorem ok__law_ratio (L : Facts P w K mg) : HasFn (⟨P, w, K, mg, base⟩ : Wd) 2 "_law_ratio" sp__law_ratio 2 := by
  obtain ⟨f, fd, F, hm, b⟩ := L.f__law_ratio
  have h__law_gcd := (ok__law_gcd (P := P) (w := w) (base := base) L).mono (show 1 ≤ 1 by decide)
  exact hasFn_of (sp := sp__law_ratio) F hm b sc__law_ratio L.blt rfl ck__law_ratio (by simp only [b__law_ratio, needSs, needS, needE, needEs, needO, needT, needTs, needI, needX, needXs, Es.len, Nat.zero_add, Nat.reduceAdd, and_true, true_and, and_self, h__law_gcd]) w__law_ratio
theorem ok_minus (L : Facts P w K mg) : HasFn (⟨P, w, K, mg, base⟩ : Wd) 3 "minus" sp_minus 2 := by
  obtain ⟨f, fd, F, hm, b⟩ := L.f_minus
  have h_lowest_terms := (ok_lowest_terms (P := P) (w := w) (base := base) L).mono (show 2 ≤ 2 by decide)
  exact hasFn_of (sp := sp_minus) F hm b sc_minus L.blt rfl ck_minus (by simp only [b_minus, needSs, needS, needE, needEs, needO, needT, needTs, needI, needX, needXs, Es.len, Nat.zero_add, Nat.reduceAdd, and_true, true_and, and_self, h_lowest_terms]) w_minus
theorem ok_is_size (L : Facts P w K mg) : HasFn (⟨P, w, K, mg, base⟩ : Wd) 3 "is_size" sp_is_size 1 := by
  obtain ⟨f, fd, F, hm, b⟩ := L.f_is_size
  have h_is_ratio := (ok_is_ratio (P := P) (w := w) (base := base) L).mono (show 2 ≤ 2 by decide)
  exact hasFn_of (sp := sp_is_size) F hm b sc_is_size L.blt rfl ck_is_size (by simp only [b_is_size, needSs, needS, needE, needEs, needO, needT, needTs, needI, needX, needXs, Es.len, Nat.zero_add, Nat.reduceAdd, and_true, true_and, and_self, h_is_ratio]) w_is_size
theorem ok_is_bound (L : Facts P w K mg) : HasFn (⟨P, w, K, mg, base⟩ : Wd) 3 "is_bound" sp_is_bound 3 := by
  obtain ⟨f, fd, F, hm, b⟩ := L.f_is_bound
  have h_is_whole := (ok_is_whole (P := P) (w := w) (base := base) L).mono (show 2 ≤ 2 by decide)
  have c_MOST_NUMBER : HasGl (⟨P, w, K, mg, base⟩ : Wd) "MOST_NUMBER" (.int 99) := let ⟨_, e⟩ := L.g_MOST_NUMBER; .int e
  exact hasFn_of (sp := sp_is_bound) F hm b sc_is_bound L.blt rfl ck_is_bound (by simp only [b_is_bound, needSs, needS, needE, needEs, needO, needT, needTs, needI, needX, needXs, Es.len, Nat.zero_add, Nat.reduceAdd, and_true, true_and, and_self, h_is_whole, c_MOST_NUMBER]) w_is_bound
theorem ok_keeps_first (L : Facts P w K mg) : HasFn (⟨P, w, K, mg, base⟩ : Wd) 3 "keeps_first" sp_keeps_first 3 := by
  obtain ⟨f, fd, F, hm, b⟩ := L.f_keeps_first
  have h_sign_holds := (ok_sign_holds (P := P) (w := w) (base := base) L).mono (show 2 ≤ 2 by decide)
  exact hasFn_of (sp := sp_keeps_first) F hm b sc_keeps_first L.blt rfl ck_keeps_first (by simp only [b_keeps_first, needSs, needS, needE, needEs, needO, needT, needTs, needI, needX, needXs, Es.len, Nat.zero_add, Nat.reduceAdd, and_true, true_and, and_self, h_sign_holds]) w_keeps_first
theorem ok__law_pick (L : Facts P w K mg) : HasFn (⟨P, w, K, mg, base⟩ : Wd) 3 "_law_pick" sp__law_pick 2 := by
  obtain ⟨f, fd, F, hm, b⟩ := L.f__law_pick
  have h__law_draw := (ok__law_draw (P := P) (w := w) (base := base) L).mono (show 2 ≤ 2 by decide)
  exact hasFn_of (sp := sp__law_pick) F hm b sc__law_pick L.blt rfl ck__law_pick (by simp only [b__law_pick, needSs, needS, needE, needEs, needO, needT, needTs, needI, needX, needXs, Es.len, Nat.zero_add, Nat.reduceAdd, and_true, true_and, and_self, h__law_draw]) w__law_pick
theorem ok__law_plus (L : Facts P w K mg) : HasFn (⟨P, w, K, mg, base⟩ : Wd) 3 "_law_plus" sp__law_plus 2 := by
  obtain ⟨f, fd, F, hm, b⟩ := L.f__law_plus
  have h__law_ratio := (ok__law_ratio (P := P) (w := w) (base := base) L).mono (show 2 ≤ 2 by decide)
  exact hasFn_of (sp := sp__law_plus) F hm b sc__law_plus L.blt rfl ck__law_plus (by simp only [b__law_plus, needSs, needS, needE, needEs, needO, needT, needTs, needI, needX, needXs, Es.len, Nat.zero_add, Nat.reduceAdd, and_true, true_and, and_self, h__law_ratio]) w__law_plus
theorem ok__law_less_by (L : Facts P w K mg) : HasFn (⟨P, w, K, mg, base⟩ : Wd) 3 "_law_less_by" sp__law_less_by 2 := by
  obtain ⟨f, fd, F, hm, b⟩ := L.f__law_less_by
  have h__law_ratio := (ok__law_ratio (P := P) (w := w) (base := base) L).mono (show 2 ≤ 2 by decide)
  exact hasFn_of (sp := sp__law_less_by) F hm b sc__law_less_by L.blt rfl ck__law_less_by (by simp only [b__law_less_by, needSs, needS, needE, needEs, needO, needT, needTs, needI, needX, needXs, Es.len, Nat.zero_add, Nat.reduceAdd, and_true, true_and, and_self, h__law_ratio]) w__law_less_by
theorem ok_is_sign (L : Facts P w K mg) : HasFn (⟨P, w, K, mg, base⟩ : Wd) 4 "is_sign" sp_is_sign 1 := by
  obtain ⟨f, fd, F, hm, b⟩ := L.f_is_sign
  have h_is_size := (ok_is_size (P := P) (w := w) (base := base) L).mono (show 3 ≤ 3 by decide)
  have h_is_letter := (ok_is_letter (P := P) (w := w) (base := base) L).mono (show 1 ≤ 3 by decide)
  have c_LONGEST_LETTER : HasGl (⟨P, w, K, mg, base⟩ : Wd) "LONGEST_LETTER" (.int 40) := let ⟨_, e⟩ := L.g_LONGEST_LETTER; .int e
  exact hasFn_of (sp := sp_is_sign) F hm b sc_is_sign L.blt rfl ck_is_sign (by simp only [b_is_sign, needSs, needS, needE, needEs, needO, needT, needTs, needI, needX, needXs, Es.len, Nat.zero_add, Nat.reduceAdd, and_true, true_and, and_self, h_is_size, h_is_letter, c_LONGEST_LETTER]) w_is_sign
theorem ok_is_sentence (L : Facts P w K mg) : HasFn (⟨P, w, K, mg, base⟩ : Wd) 4 "is_sentence" sp_is_sentence 1 := by
  obtain ⟨f, fd, F, hm, b⟩ := L.f_is_sentence
  have h_is_letter := (ok_is_letter (P := P) (w := w) (base := base) L).mono (show 1 ≤ 3 by decide)
  have h_is_bound := (ok_is_bound (P := P) (w := w) (base := base) L).mono (show 3 ≤ 3 by decide)
  have c_LONGEST : HasGl (⟨P, w, K, mg, base⟩ : Wd) "LONGEST" (.int 12) := let ⟨_, e⟩ := L.g_LONGEST; .int e
  have c_UPPER : HasGl (⟨P, w, K, mg, base⟩ : Wd) "UPPER" (.tup [.str "<", .str "<="]) := let ⟨_, _, _, _, _, _, e, k⟩ := L.g_UPPER; .tup (ys := [V.str "<", V.str "<="]) e k rfl rfl (show 2 ≤ sizeLine by decide) (.cons ⟨_, rfl⟩ (.cons ⟨_, rfl⟩ .nil)) fun _ _ => (.cons (.str _) (.cons (.str _) .nil))
  have c_LOWER : HasGl (⟨P, w, K, mg, base⟩ : Wd) "LOWER" (.tup [.str ">", .str ">="]) := let ⟨_, _, _, _, _, _, e, k⟩ := L.g_LOWER; .tup (ys := [V.str ">", V.str ">="]) e k rfl rfl (show 2 ≤ sizeLine by decide) (.cons ⟨_, rfl⟩ (.cons ⟨_, rfl⟩ .nil)) fun _ _ => (.cons (.str _) (.cons (.str _) .nil))
  exact hasFn_of (sp := sp_is_sentence) F hm b sc_is_sentence L.blt rfl ck_is_sentence (by simp only [b_is_sentence, needSs, needS, needE, needEs, needO, needT, needTs, needI, needX, needXs, Es.len, Nat.zero_add, Nat.reduceAdd, and_true, true_and, and_self, h_is_letter, h_is_bound, c_LONGEST, c_UPPER, c_LOWER]) w_is_sentence
theorem ok_keeps_soon (L : Facts P w K mg) : HasFn (⟨P, w, K, mg, base⟩ : Wd) 4 "keeps_soon" sp_keeps_soon 3 := by
  obtain ⟨f, fd, F, hm, b⟩ := L.f_keeps_soon
  have h_sign_holds := (ok_sign_holds (P := P) (w := w) (base := base) L).mono (show 2 ≤ 3 by decide)
  have h_minus := (ok_minus (P := P) (w := w) (base := base) L).mono (show 3 ≤ 3 by decide)
  exact hasFn_of (sp := sp_keeps_soon) F hm b sc_keeps_soon L.blt rfl ck_keeps_soon (by simp only [b_keeps_soon, b_keeps_soon_1, needSs, needS, needE, needEs, needO, needT, needTs, needI, needX, needXs, Es.len, Nat.zero_add, Nat.reduceAdd, and_true, true_and, and_self, h_sign_holds, h_minus]) w_keeps_soon
theorem ok_keeps_since (L : Facts P w K mg) : HasFn (⟨P, w, K, mg, base⟩ : Wd) 4 "keeps_since" sp_keeps_since 2 := by
  obtain ⟨f, fd, F, hm, b⟩ := L.f_keeps_since
  have h_last_ahead := (ok_last_ahead (P := P) (w := w) (base := base) L).mono (show 1 ≤ 3 by decide)
  have h_sign_holds := (ok_sign_holds (P := P) (w := w) (base := base) L).mono (show 2 ≤ 3 by decide)
  have h_minus := (ok_minus (P := P) (w := w) (base := base) L).mono (show 3 ≤ 3 by decide)
  exact hasFn_of (sp := sp_keeps_since) F hm b sc_keeps_since L.blt rfl ck_keeps_since (by simp only [b_keeps_since, b_keeps_since_1, needSs, needS, needE, needEs, needO, needT, needTs, needI, needX, needXs, Es.len, Nat.zero_add, Nat.reduceAdd, and_true, true_and, and_self, h_last_ahead, h_sign_holds, h_minus]) w_keeps_since
theorem ok__law_keeps (L : Facts P w K mg) : HasFn (⟨P, w, K, mg, base⟩ : Wd) 4 "_law_keeps" sp__law_keeps 2 := by
  obtain ⟨f, fd, F, hm, b⟩ := L.f__law_keeps
  have h__law_compare := (ok__law_compare (P := P) (w := w) (base := base) L).mono (show 1 ≤ 3 by decide)
  have h__law_less_by := (ok__law_less_by (P := P) (w := w) (base := base) L).mono (show 3 ≤ 3 by decide)
  exact hasFn_of (sp := sp__law_keeps) F hm b sc__law_keeps L.blt rfl ck__law_keeps (by simp only [b__law_keeps, b__law_keeps_1, b__law_keeps_2, needSs, needS, needE, needEs, needO, needT, needTs, needI, needX, needXs, Es.len, Nat.zero_add, Nat.reduceAdd, and_true, true_and, and_self, h__law_compare, h__law_less_by]) w__law_keeps
theorem ok__law_drawn_sentence (L : Facts P w K mg) : HasFn (⟨P, w, K, mg, base⟩ : Wd) 4 "_law_drawn_sentence" sp__law_drawn_sentence 3 := by
  obtain ⟨f, fd, F, hm, b⟩ := L.f__law_drawn_sentence
  have h__law_draw := (ok__law_draw (P := P) (w := w) (base := base) L).mono (show 2 ≤ 3 by decide)
  have h__law_pick := (ok__law_pick (P := P) (w := w) (base := base) L).mono (show 3 ≤ 3 by decide)
  exact hasFn_of (sp := sp__law_drawn_sentence) F hm b sc__law_drawn_sentence L.blt rfl ck__law_drawn_sentence (by simp only [b__law_drawn_sentence, needSs, needS, needE, needEs, needO, needT, needTs, needI, needX, needXs, Es.len, Nat.zero_add, Nat.reduceAdd, and_true, true_and, and_self, h__law_draw, h__law_pick]) w__law_drawn_sentence
theorem ok__law_drawn_word (L : Facts P w K mg) : HasFn (⟨P, w, K, mg, base⟩ : Wd) 4 "_law_drawn_word" sp__law_drawn_word 3 := by
  obtain ⟨f, fd, F, hm, b⟩ := L.f__law_drawn_word
  have h__law_plus := (ok__law_plus (P := P) (w := w) (base := base) L).mono (show 3 ≤ 3 by decide)
  have h__law_pick := (ok__law_pick (P := P) (w := w) (base := base) L).mono (show 3 ≤ 3 by decide)
  exact hasFn_of (sp := sp__law_drawn_word) F hm b sc__law_drawn_word L.blt rfl ck__law_drawn_word (by simp only [b__law_drawn_word, b__law_drawn_word_1, needSs, needS, needE, needEs, needO, needT, needTs, needI, needX, needXs, Es.len, Nat.zero_add, Nat.reduceAdd, and_true, true_and, and_self, h__law_plus, h__law_pick]) w__law_drawn_word
theorem ok__law_odd (L : Facts P w K mg) : HasFn (⟨P, w, K, mg, base⟩ : Wd) 4 "_law_odd" sp__law_odd 2 := by
  obtain ⟨f, fd, F, hm, b⟩ := L.f__law_odd
  have h__law_draw := (ok__law_draw (P := P) (w := w) (base := base) L).mono (show 2 ≤ 3 by decide)
  have h__law_pick := (ok__law_pick (P := P) (w := w) (base := base) L).mono (show 3 ≤ 3 by decide)
  exact hasFn_of (sp := sp__law_odd) F hm b sc__law_odd L.blt rfl ck__law_odd (by simp only [b__law_odd, needSs, needS, needE, needEs, needO, needT, needTs, needI, needX, needXs, Es.len, Nat.zero_add, Nat.reduceAdd, and_true, true_and, and_self, h__law_draw, h__law_pick]) w__law_odd
theorem ok_is_word (L : Facts P w K mg) : HasFn (⟨P, w, K, mg, base⟩ : Wd) 5 "is_word" sp_is_word 1 := by
  obtain ⟨f, fd, F, hm, b⟩ := L.f_is_word
  have h_is_size := (ok_is_size (P := P) (w := w) (base := base) L).mono (show 3 ≤ 4 by decide)
  have h_is_sign := (ok_is_sign (P := P) (w := w) (base := base) L).mono (show 4 ≤ 4 by decide)
  have h_is_less := (ok_is_less (P := P) (w := w) (base := base) L).mono (show 1 ≤ 4 by decide)
  have c_MOST_IN_ROW : HasGl (⟨P, w, K, mg, base⟩ : Wd) "MOST_IN_ROW" (.int 12) := let ⟨_, e⟩ := L.g_MOST_IN_ROW; .int e
  exact hasFn_of (sp := sp_is_word) F hm b sc_is_word L.blt rfl ck_is_word (by simp only [b_is_word, needSs, needS, needE, needEs, needO, needT, needTs, needI, needX, needXs, Es.len, Nat.zero_add, Nat.reduceAdd, and_true, true_and, and_self, h_is_size, h_is_sign, h_is_less, c_MOST_IN_ROW]) w_is_word
theorem ok_check_sentence (L : Facts P w K mg) : HasFn (⟨P, w, K, mg, base⟩ : Wd) 5 "check_sentence" sp_check_sentence 1 := by
  obtain ⟨f, fd, F, hm, b⟩ := L.f_check_sentence
  have h_is_sentence := (ok_is_sentence (P := P) (w := w) (base := base) L).mono (show 4 ≤ 4 by decide)
  have x0_BadValue := L.x0_BadValue base 4 (by decide)
  exact hasFn_of (sp := sp_check_sentence) F hm b sc_check_sentence L.blt rfl ck_check_sentence (by simp only [b_check_sentence, needSs, needS, needE, needEs, needO, needT, needTs, needI, needX, needXs, Es.len, Nat.zero_add, Nat.reduceAdd, and_true, true_and, and_self, h_is_sentence, x0_BadValue]) w_check_sentence
theorem ok_made_keeps (L : Facts P w K mg) : HasFn (⟨P, w, K, mg, base⟩ : Wd) 5 "made_keeps" sp_made_keeps 2 := by
  obtain ⟨f, fd, F, hm, b⟩ := L.f_made_keeps
  have h_keeps_first := (ok_keeps_first (P := P) (w := w) (base := base) L).mono (show 3 ≤ 4 by decide)
  have h_keeps_soon := (ok_keeps_soon (P := P) (w := w) (base := base) L).mono (show 4 ≤ 4 by decide)
  have h_keeps_since := (ok_keeps_since (P := P) (w := w) (base := base) L).mono (show 4 ≤ 4 by decide)
  exact hasFn_of (sp := sp_made_keeps) F hm b sc_made_keeps L.blt rfl ck_made_keeps (by simp only [b_made_keeps, needSs, needS, needE, needEs, needO, needT, needTs, needI, needX, needXs, Es.len, Nat.zero_add, Nat.reduceAdd, and_true, true_and, and_self, h_keeps_first, h_keeps_soon, h_keeps_since]) w_made_keeps
theorem ok__law_border_word (L : Facts P w K mg) : HasFn (⟨P, w, K, mg, base⟩ : Wd) 5 "_law_border_word" sp__law_border_word 2 := by
  obtain ⟨f, fd, F, hm, b⟩ := L.f__law_border_word
  have h__law_drawn_word := (ok__law_drawn_word (P := P) (w := w) (base := base) L).mono (show 4 ≤ 4 by decide)
  have h__law_pick := (ok__law_pick (P := P) (w := w) (base := base) L).mono (show 3 ≤ 4 by decide)
  have h__law_plus := (ok__law_plus (P := P) (w := w) (base := base) L).mono (show 3 ≤ 4 by decide)
  have h__law_draw := (ok__law_draw (P := P) (w := w) (base := base) L).mono (show 2 ≤ 4 by decide)
  exact hasFn_of (sp := sp__law_border_word) F hm b sc__law_border_word L.blt rfl ck__law_border_word (by simp only [b__law_border_word, needSs, needS, needE, needEs, needO, needT, needTs, needI, needX, needXs, Es.len, Nat.zero_add, Nat.reduceAdd, and_true, true_and, and_self, h__law_drawn_word, h__law_pick, h__law_plus, h__law_draw]) w__law_border_word
theorem ok_check_word (L : Facts P w K mg) : HasFn (⟨P, w, K, mg, base⟩ : Wd) 6 "check_word" sp_check_word 1 := by
  obtain ⟨f, fd, F, hm, b⟩ := L.f_check_word
  have h_is_word := (ok_is_word (P := P) (w := w) (base := base) L).mono (show 5 ≤ 5 by decide)
  have x0_BadValue := L.x0_BadValue base 5 (by decide)
  exact hasFn_of (sp := sp_check_word) F hm b sc_check_word L.blt rfl ck_check_word (by simp only [b_check_word, needSs, needS, needE, needEs, needO, needT, needTs, needI, needX, needXs, Es.len, Nat.zero_add, Nat.reduceAdd, and_true, true_and, and_self, h_is_word, x0_BadValue]) w_check_word
theorem ok_keeps_word (L : Facts P w K mg) : HasFn (⟨P, w, K, mg, base⟩ : Wd) 7 "keeps_word" sp_keeps_word 2 := by
  obtain ⟨f, fd, F, hm, b⟩ := L.f_keeps_word
  have h_check_sentence := (ok_check_sentence (P := P) (w := w) (base := base) L).mono (show 5 ≤ 6 by decide)
  have h_check_word := (ok_check_word (P := P) (w := w) (base := base) L).mono (show 6 ≤ 6 by decide)
  have h_made_keeps := (ok_made_keeps (P := P) (w := w) (base := base) L).mono (show 5 ≤ 6 by decide)
  exact hasFn_of (sp := sp_keeps_word) F hm b sc_keeps_word L.blt rfl ck_keeps_word (by simp only [b_keeps_word, needSs, needS, needE, needEs, needO, needT, needTs, needI, needX, needXs, Es.len, Nat.zero_add, Nat.reduceAdd, and_true, true_and, and_self, h_check_sentence, h_check_word, h_made_keeps]) w_keeps_word
theorem ok__law_what (L : Facts P w K mg) : HasFn (⟨P, w, K, mg, base⟩ : Wd) 8 "_law_what" sp__law_what 2 := by
  obtain ⟨f, fd, F, hm, b⟩ := L.f__law_what
  have h_keeps_word := (ok_keeps_word (P := P) (w := w) (base := base) L).mono (show 7 ≤ 7 by decide)
  have x1_BadValue := L.x1_BadValue base 7
  have x2_TicklessError := L.x2_TicklessError base 7
  exact hasFn_of (sp := sp__law_what) F hm b sc__law_what L.blt rfl ck__law_what (by simp only [b__law_what, needSs, needS, needE, needEs, needO, needT, needTs, needI, needX, needXs, Es.len, Nat.zero_add, Nat.reduceAdd, and_true, true_and, and_self, h_keeps_word, x1_BadValue, x2_TicklessError]) w__law_what
theorem ok_law (L : Facts P w K mg) {f : Addr} {fd : FuncData} (F : L2.Fun K "law" "law" s_law f fd) : FnG P w K mg base 9 f fd ["script"] (liftSp K mg 1 lawSp) := by
  have h__law_pool := (ok__law_pool (P := P) (w := w) (base := base) L).mono (show 1 ≤ 8 by decide)
  have h__law_draw := (ok__law_draw (P := P) (w := w) (base := base) L).mono (show 2 ≤ 8 by decide)
  have h__law_drawn_sentence := (ok__law_drawn_sentence (P := P) (w := w) (base := base) L).mono (show 4 ≤ 8 by decide)
  have h_check_sentence := (ok_check_sentence (P := P) (w := w) (base := base) L).mono (show 5 ≤ 8 by decide)
  have h_is_sentence := (ok_is_sentence (P := P) (w := w) (base := base) L).mono (show 4 ≤ 8 by decide)
  have h__law_border_word := (ok__law_border_word (P := P) (w := w) (base := base) L).mono (show 5 ≤ 8 by decide)
  have h__law_drawn_word := (ok__law_drawn_word (P := P) (w := w) (base := base) L).mono (show 4 ≤ 8 by decide)
  have h__law_same := (ok__law_same (P := P) (w := w) (base := base) L).mono (show 1 ≤ 8 by decide)
  have h__law_keeps := (ok__law_keeps (P := P) (w := w) (base := base) L).mono (show 4 ≤ 8 by decide)
  have h_keeps_word := (ok_keeps_word (P := P) (w := w) (base := base) L).mono (show 7 ≤ 8 by decide)
  have h__law_odd := (ok__law_odd (P := P) (w := w) (base := base) L).mono (show 4 ≤ 8 by decide)
  have h__law_what := (ok__law_what (P := P) (w := w) (base := base) L).mono (show 8 ≤ 8 by decide)
  have h__law_odd_words := (ok__law_odd_words (P := P) (w := w) (base := base) L).mono (show 1 ≤ 8 by decide)
  exact fnG_of (funW_of F) sc_law L.blt rfl ck_law (by simp only [b_law, b_law_1, b_law_2, b_law_3, needSs, needS, needE, needEs, needO, needT, needTs, needI, needX, needXs, Es.len, Nat.zero_add, Nat.reduceAdd, and_true, true_and, and_self, h__law_pool, h__law_draw, h__law_drawn_sentence, h_check_sentence, h_is_sentence, h__law_border_word, h__law_drawn_word, h__law_same, h__law_keeps, h_keeps_word, h__law_odd, h__law_what, h__law_odd_words]) w_law
end
theorem all_mk {l : PySem.W.OpenLaw} {w : World} {K : PySem.W.Frag} {h : Heap} {mg : Str → Option Value} {fa : Addr} (X : K.In h) (G : h.Ns mainGlobals mg) (hfa : mg "law" = some (.ref fa))
    {f0 : Addr} {od0 an0 : Option Addr} {sl0 : Array (Option Value)} {oc0 kV0 dc0 pm0 cd0 ct0 : Value}
    {f1 : Addr} {od1 an1 : Option Addr} {sl1 : Array (Option Value)} {oc1 kV1 dc1 pm1 cd1 ct1 : Value}
    {f2 : Addr} {od2 an2 : Option Addr} {sl2 : Array (Option Value)} {oc2 kV2 dc2 pm2 cd2 ct2 : Value}
    {f3 : Addr} {od3 an3 : Option Addr} {sl3 : Array (Option Value)} {oc3 kV3 dc3 pm3 cd3 ct3 : Value}
    {f4 : Addr} {od4 an4 : Option Addr} {sl4 : Array (Option Value)} {oc4 kV4 dc4 pm4 cd4 ct4 : Value}
    {f5 : Addr} {od5 an5 : Option Addr} {sl5 : Array (Option Value)} {oc5 kV5 dc5 pm5 cd5 ct5 : Value}
    {f6 : Addr} {od6 an6 : Option Addr} {sl6 : Array (Option Value)} {oc6 kV6 dc6 pm6 cd6 ct6 : Value}
    {f7 : Addr} {od7 an7 : Option Addr} {sl7 : Array (Option Value)} {oc7 kV7 dc7 pm7 cd7 ct7 : Value}
    {f8 : Addr} {od8 an8 : Option Addr} {sl8 : Array (Option Value)} {oc8 kV8 dc8 pm8 cd8 ct8 : Value}
    {f9 : Addr} {od9 an9 : Option Addr} {sl9 : Array (Option Value)} {oc9 kV9 dc9 pm9 cd9 ct9 : Value}
    {f10 : Addr} {od10 an10 : Option Addr} {sl10 : Array (Option Value)} {oc10 kV10 dc10 pm10 cd10 ct10 : Value}
    {f11 : Addr} {od11 an11 : Option Addr} {sl11 : Array (Option Value)} {oc11 kV11 dc11 pm11 cd11 ct11 : Value}
    {f12 : Addr} {od12 an12 : Option Addr} {sl12 : Array (Option Value)} {oc12 kV12 dc12 pm12 cd12 ct12 : Value}
    {f13 : Addr} {od13 an13 : Option Addr} {sl13 : Array (Option Value)} {oc13 kV13 dc13 pm13 cd13 ct13 : Value}
    {f14 : Addr} {od14 an14 : Option Addr} {sl14 : Array (Option Value)} {oc14 kV14 dc14 pm14 cd14 ct14 : Value}
    {f15 : Addr} {od15 an15 : Option Addr} {sl15 : Array (Option Value)} {oc15 kV15 dc15 pm15 cd15 ct15 : Value}
    {f16 : Addr} {od16 an16 : Option Addr} {sl16 : Array (Option Value)} {oc16 kV16 dc16 pm16 cd16 ct16 : Value}
    {f17 : Addr} {od17 an17 : Option Addr} {sl17 : Array (Option Value)} {oc17 kV17 dc17 pm17 cd17 ct17 : Value}
    {f18 : Addr} {od18 an18 : Option Addr} {sl18 : Array (Option Value)} {oc18 kV18 dc18 pm18 cd18 ct18 : Value}
    {f19 : Addr} {od19 an19 : Option Addr} {sl19 : Array (Option Value)} {oc19 kV19 dc19 pm19 cd19 ct19 : Value}
    {f20 : Addr} {od20 an20 : Option Addr} {sl20 : Array (Option Value)} {oc20 kV20 dc20 pm20 cd20 ct20 : Value}
    {f21 : Addr} {od21 an21 : Option Addr} {sl21 : Array (Option Value)} {oc21 kV21 dc21 pm21 cd21 ct21 : Value}
    {f22 : Addr} {od22 an22 : Option Addr} {sl22 : Array (Option Value)} {oc22 kV22 dc22 pm22 cd22 ct22 : Value}
    {f23 : Addr} {od23 an23 : Option Addr} {sl23 : Array (Option Value)} {oc23 kV23 dc23 pm23 cd23 ct23 : Value}
    {f24 : Addr} {od24 an24 : Option Addr} {sl24 : Array (Option Value)} {oc24 kV24 dc24 pm24 cd24 ct24 : Value}
    {f25 : Addr} {od25 an25 : Option Addr} {sl25 : Array (Option Value)} {oc25 kV25 dc25 pm25 cd25 ct25 : Value}
    {f26 : Addr} {od26 an26 : Option Addr} {sl26 : Array (Option Value)} {oc26 kV26 dc26 pm26 cd26 ct26 : Value}
    {f27 : Addr} {od27 an27 : Option Addr} {sl27 : Array (Option Value)} {oc27 kV27 dc27 pm27 cd27 ct27 : Value}
    {f28 : Addr} {od28 an28 : Option Addr} {sl28 : Array (Option Value)} {oc28 kV28 dc28 pm28 cd28 ct28 : Value}
    {f29 : Addr} {od29 an29 : Option Addr} {sl29 : Array (Option Value)} {oc29 kV29 dc29 pm29 cd29 ct29 : Value}
    {f30 : Addr} {od30 an30 : Option Addr} {sl30 : Array (Option Value)} {oc30 kV30 dc30 pm30 cd30 ct30 : Value}
    {f31 : Addr} {od31 an31 : Option Addr} {sl31 : Array (Option Value)} {oc31 kV31 dc31 pm31 cd31 ct31 : Value}
    {f32 : Addr} {od32 an32 : Option Addr} {sl32 : Array (Option Value)} {oc32 kV32 dc32 pm32 cd32 ct32 : Value}
    {f33 : Addr} {od33 an33 : Option Addr} {sl33 : Array (Option Value)} {oc33 kV33 dc33 pm33 cd33 ct33 : Value}
    {f34 : Addr} {od34 an34 : Option Addr} {sl34 : Array (Option Value)} {oc34 kV34 dc34 pm34 cd34 ct34 : Value}
    {f35 : Addr} {od35 an35 : Option Addr} {sl35 : Array (Option Value)} {oc35 kV35 dc35 pm35 cd35 ct35 : Value}
    {f36 : Addr} {od36 an36 : Option Addr} {sl36 : Array (Option Value)} {oc36 kV36 dc36 pm36 cd36 ct36 : Value}
    {f37 : Addr} {od37 an37 : Option Addr} {sl37 : Array (Option Value)} {oc37 kV37 dc37 pm37 cd37 ct37 : Value}
    {f38 : Addr} {od38 an38 : Option Addr} {sl38 : Array (Option Value)} {oc38 kV38 dc38 pm38 cd38 ct38 : Value}
    {f39 : Addr} {od39 an39 : Option Addr} {sl39 : Array (Option Value)} {oc39 kV39 dc39 pm39 cd39 ct39 : Value}
    {f40 : Addr} {od40 an40 : Option Addr} {sl40 : Array (Option Value)} {oc40 kV40 dc40 pm40 cd40 ct40 : Value}
    {t0 : Tok}
    {t1 : Tok}
    {ga2 : Addr} {gd2 : Option Addr} {gt2_0 gt2_1 : Tok} {gn2 : Nat} {gs2 : Array (Option Value)}
    {t3 : Tok}
    {t4 : Tok}
    {t5 : Tok}
    {ga6 : Addr} {gd6 : Option Addr} {gt6_0 gt6_1 : Tok} {gn6 : Nat} {gs6 : Array (Option Value)}
    {C_TicklessError : Addr}
    {C_BadValue : Addr}
    {nm_BadValue q_BadValue : Str} {N_BadValue : Addr} {bs_BadValue : List Value} {sn_BadValue : List Str} {sub_BadValue : List Value} {ab_BadValue : Bool} {col_BadValue : Option Bool} {dd_BadValue : Option Addr} {ma_BadValue mb_BadValue mc_BadValue md_BadValue me_BadValue : Option Value}
    {fI_BadValue cda_BadValue cc_BadValue : Addr} {ioc_BadValue : Value} {iod_BadValue ian_BadValue : Option Addr} {iosl_BadValue : Array (Option Value)} {ikV_BadValue idoc_BadValue ipm_BadValue ict_BadValue icl_BadValue iccl_BadValue : Value} {icld_BadValue icdd_BadValue : Option Addr} {icsl_BadValue iccs_BadValue : Array (Option Value)} {ivs_BadValue : Array Value} {ifile_BadValue : Str} {itf_BadValue : Tok}
    (a0 : PySem.W.nsIn K mainGlobals "common_factor" = some (some (.ref f0)))
    (l0 : K.lookup f0 = some ⟨oc0, od0, .func (PySem.W.fnOf "common_factor" "common_factor" (defArgs s_common_factor) (defBody s_common_factor) (defScope s_common_factor) .none kV0 dc0 pm0 an0 cd0 ct0), sl0⟩)
    (c0 : PySem.W.codeIn K cd0 "common_factor" = true)
    (k0 : PySem.W.keepIn K (.ref f0) = true)
    (a1 : PySem.W.nsIn K mainGlobals "lowest_terms" = some (some (.ref f1)))
    (l1 : K.lookup f1 = some ⟨oc1, od1, .func (PySem.W.fnOf "lowest_terms" "lowest_terms" (defArgs s_lowest_terms) (defBody s_lowest_terms) (defScope s_lowest_terms) .none kV1 dc1 pm1 an1 cd1 ct1), sl1⟩)
    (c1 : PySem.W.codeIn K cd1 "lowest_terms" = true)
    (k1 : PySem.W.keepIn K (.ref f1) = true)
    (a2 : PySem.W.nsIn K mainGlobals "is_int" = some (some (.ref f2)))
    (l2 : K.lookup f2 = some ⟨oc2, od2, .func (PySem.W.fnOf "is_int" "is_int" (defArgs s_is_int) (defBody s_is_int) (defScope s_is_int) .none kV2 dc2 pm2 an2 cd2 ct2), sl2⟩)
    (c2 : PySem.W.codeIn K cd2 "is_int" = true)
    (k2 : PySem.W.keepIn K (.ref f2) = true)
    (a3 : PySem.W.nsIn K mainGlobals "is_ratio" = some (some (.ref f3)))
    (l3 : K.lookup f3 = some ⟨oc3, od3, .func (PySem.W.fnOf "is_ratio" "is_ratio" (defArgs s_is_ratio) (defBody s_is_ratio) (defScope s_is_ratio) .none kV3 dc3 pm3 an3 cd3 ct3), sl3⟩)
    (c3 : PySem.W.codeIn K cd3 "is_ratio" = true)
    (k3 : PySem.W.keepIn K (.ref f3) = true)
    (a4 : PySem.W.nsIn K mainGlobals "minus" = some (some (.ref f4)))
    (l4 : K.lookup f4 = some ⟨oc4, od4, .func (PySem.W.fnOf "minus" "minus" (defArgs s_minus) (defBody s_minus) (defScope s_minus) .none kV4 dc4 pm4 an4 cd4 ct4), sl4⟩)
    (c4 : PySem.W.codeIn K cd4 "minus" = true)
    (k4 : PySem.W.keepIn K (.ref f4) = true)
    (a5 : PySem.W.nsIn K mainGlobals "is_less" = some (some (.ref f5)))
    (l5 : K.lookup f5 = some ⟨oc5, od5, .func (PySem.W.fnOf "is_less" "is_less" (defArgs s_is_less) (defBody s_is_less) (defScope s_is_less) .none kV5 dc5 pm5 an5 cd5 ct5), sl5⟩)
    (c5 : PySem.W.codeIn K cd5 "is_less" = true)
    (k5 : PySem.W.keepIn K (.ref f5) = true)
    (a6 : PySem.W.nsIn K mainGlobals "is_whole" = some (some (.ref f6)))
    (l6 : K.lookup f6 = some ⟨oc6, od6, .func (PySem.W.fnOf "is_whole" "is_whole" (defArgs s_is_whole) (defBody s_is_whole) (defScope s_is_whole) .none kV6 dc6 pm6 an6 cd6 ct6), sl6⟩)
    (c6 : PySem.W.codeIn K cd6 "is_whole" = true)
    (k6 : PySem.W.keepIn K (.ref f6) = true)
    (a7 : PySem.W.nsIn K mainGlobals "is_size" = some (some (.ref f7)))
    (l7 : K.lookup f7 = some ⟨oc7, od7, .func (PySem.W.fnOf "is_size" "is_size" (defArgs s_is_size) (defBody s_is_size) (defScope s_is_size) .none kV7 dc7 pm7 an7 cd7 ct7), sl7⟩)
    (c7 : PySem.W.codeIn K cd7 "is_size" = true)
    (k7 : PySem.W.keepIn K (.ref f7) = true)
    (a8 : PySem.W.nsIn K mainGlobals "is_letter" = some (some (.ref f8)))
    (l8 : K.lookup f8 = some ⟨oc8, od8, .func (PySem.W.fnOf "is_letter" "is_letter" (defArgs s_is_letter) (defBody s_is_letter) (defScope s_is_letter) .none kV8 dc8 pm8 an8 cd8 ct8), sl8⟩)
    (c8 : PySem.W.codeIn K cd8 "is_letter" = true)
    (k8 : PySem.W.keepIn K (.ref f8) = true)
    (a9 : PySem.W.nsIn K mainGlobals "is_sign" = some (some (.ref f9)))
    (l9 : K.lookup f9 = some ⟨oc9, od9, .func (PySem.W.fnOf "is_sign" "is_sign" (defArgs s_is_sign) (defBody s_is_sign) (defScope s_is_sign) .none kV9 dc9 pm9 an9 cd9 ct9), sl9⟩)
    (c9 : PySem.W.codeIn K cd9 "is_sign" = true)
    (k9 : PySem.W.keepIn K (.ref f9) = true)
    (a10 : PySem.W.nsIn K mainGlobals "is_word" = some (some (.ref f10)))
    (l10 : K.lookup f10 = some ⟨oc10, od10, .func (PySem.W.fnOf "is_word" "is_word" (defArgs s_is_word) (defBody s_is_word) (defScope s_is_word) .none kV10 dc10 pm10 an10 cd10 ct10), sl10⟩)
    (c10 : PySem.W.codeIn K cd10 "is_word" = true)
    (k10 : PySem.W.keepIn K (.ref f10) = true)
    (a11 : PySem.W.nsIn K mainGlobals "check_word" = some (some (.ref f11)))
    (l11 : K.lookup f11 = some ⟨oc11, od11, .func (PySem.W.fnOf "check_word" "check_word" (defArgs s_check_word) (defBody s_check_word) (defScope s_check_word) .none kV11 dc11 pm11 an11 cd11 ct11), sl11⟩)
    (c11 : PySem.W.codeIn K cd11 "check_word" = true)
    (k11 : PySem.W.keepIn K (.ref f11) = true)
    (a12 : PySem.W.nsIn K mainGlobals "compared" = some (some (.ref f12)))
    (l12 : K.lookup f12 = some ⟨oc12, od12, .func (PySem.W.fnOf "compared" "compared" (defArgs s_compared) (defBody s_compared) (defScope s_compared) .none kV12 dc12 pm12 an12 cd12 ct12), sl12⟩)
    (c12 : PySem.W.codeIn K cd12 "compared" = true)
    (k12 : PySem.W.keepIn K (.ref f12) = true)
    (a13 : PySem.W.nsIn K mainGlobals "is_bound" = some (some (.ref f13)))
    (l13 : K.lookup f13 = some ⟨oc13, od13, .func (PySem.W.fnOf "is_bound" "is_bound" (defArgs s_is_bound) (defBody s_is_bound) (defScope s_is_bound) .none kV13 dc13 pm13 an13 cd13 ct13), sl13⟩)
    (c13 : PySem.W.codeIn K cd13 "is_bound" = true)
    (k13 : PySem.W.keepIn K (.ref f13) = true)
    (a14 : PySem.W.nsIn K mainGlobals "is_sentence" = some (some (.ref f14)))
    (l14 : K.lookup f14 = some ⟨oc14, od14, .func (PySem.W.fnOf "is_sentence" "is_sentence" (defArgs s_is_sentence) (defBody s_is_sentence) (defScope s_is_sentence) .none kV14 dc14 pm14 an14 cd14 ct14), sl14⟩)
    (c14 : PySem.W.codeIn K cd14 "is_sentence" = true)
    (k14 : PySem.W.keepIn K (.ref f14) = true)
    (a15 : PySem.W.nsIn K mainGlobals "check_sentence" = some (some (.ref f15)))
    (l15 : K.lookup f15 = some ⟨oc15, od15, .func (PySem.W.fnOf "check_sentence" "check_sentence" (defArgs s_check_sentence) (defBody s_check_sentence) (defScope s_check_sentence) .none kV15 dc15 pm15 an15 cd15 ct15), sl15⟩)
    (c15 : PySem.W.codeIn K cd15 "check_sentence" = true)
    (k15 : PySem.W.keepIn K (.ref f15) = true)
    (a16 : PySem.W.nsIn K mainGlobals "sign_holds" = some (some (.ref f16)))
    (l16 : K.lookup f16 = some ⟨oc16, od16, .func (PySem.W.fnOf "sign_holds" "sign_holds" (defArgs s_sign_holds) (defBody s_sign_holds) (defScope s_sign_holds) .none kV16 dc16 pm16 an16 cd16 ct16), sl16⟩)
    (c16 : PySem.W.codeIn K cd16 "sign_holds" = true)
    (k16 : PySem.W.keepIn K (.ref f16) = true)
    (a17 : PySem.W.nsIn K mainGlobals "keeps_first" = some (some (.ref f17)))
    (l17 : K.lookup f17 = some ⟨oc17, od17, .func (PySem.W.fnOf "keeps_first" "keeps_first" (defArgs s_keeps_first) (defBody s_keeps_first) (defScope s_keeps_first) .none kV17 dc17 pm17 an17 cd17 ct17), sl17⟩)
    (c17 : PySem.W.codeIn K cd17 "keeps_first" = true)
    (k17 : PySem.W.keepIn K (.ref f17) = true)
    (a18 : PySem.W.nsIn K mainGlobals "keeps_soon" = some (some (.ref f18)))
    (l18 : K.lookup f18 = some ⟨oc18, od18, .func (PySem.W.fnOf "keeps_soon" "keeps_soon" (defArgs s_keeps_soon) (defBody s_keeps_soon) (defScope s_keeps_soon) .none kV18 dc18 pm18 an18 cd18 ct18), sl18⟩)
    (c18 : PySem.W.codeIn K cd18 "keeps_soon" = true)
    (k18 : PySem.W.keepIn K (.ref f18) = true)
    (a19 : PySem.W.nsIn K mainGlobals "last_ahead" = some (some (.ref f19)))
    (l19 : K.lookup f19 = some ⟨oc19, od19, .func (PySem.W.fnOf "last_ahead" "last_ahead" (defArgs s_last_ahead) (defBody s_last_ahead) (defScope s_last_ahead) .none kV19 dc19 pm19 an19 cd19 ct19), sl19⟩)
    (c19 : PySem.W.codeIn K cd19 "last_ahead" = true)
    (k19 : PySem.W.keepIn K (.ref f19) = true)
    (a20 : PySem.W.nsIn K mainGlobals "keeps_since" = some (some (.ref f20)))
    (l20 : K.lookup f20 = some ⟨oc20, od20, .func (PySem.W.fnOf "keeps_since" "keeps_since" (defArgs s_keeps_since) (defBody s_keeps_since) (defScope s_keeps_since) .none kV20 dc20 pm20 an20 cd20 ct20), sl20⟩)
    (c20 : PySem.W.codeIn K cd20 "keeps_since" = true)
    (k20 : PySem.W.keepIn K (.ref f20) = true)
    (a21 : PySem.W.nsIn K mainGlobals "made_keeps" = some (some (.ref f21)))
    (l21 : K.lookup f21 = some ⟨oc21, od21, .func (PySem.W.fnOf "made_keeps" "made_keeps" (defArgs s_made_keeps) (defBody s_made_keeps) (defScope s_made_keeps) .none kV21 dc21 pm21 an21 cd21 ct21), sl21⟩)
    (c21 : PySem.W.codeIn K cd21 "made_keeps" = true)
    (k21 : PySem.W.keepIn K (.ref f21) = true)
    (a22 : PySem.W.nsIn K mainGlobals "keeps_word" = some (some (.ref f22)))
    (l22 : K.lookup f22 = some ⟨oc22, od22, .func (PySem.W.fnOf "keeps_word" "keeps_word" (defArgs s_keeps_word) (defBody s_keeps_word) (defScope s_keeps_word) .none kV22 dc22 pm22 an22 cd22 ct22), sl22⟩)
    (c22 : PySem.W.codeIn K cd22 "keeps_word" = true)
    (k22 : PySem.W.keepIn K (.ref f22) = true)
    (a23 : PySem.W.nsIn K mainGlobals "_law_pool" = some (some (.ref f23)))
    (l23 : K.lookup f23 = some ⟨oc23, od23, .func (PySem.W.fnOf "_law_pool" "_law_pool" (defArgs s__law_pool) (defBody s__law_pool) (defScope s__law_pool) .none kV23 dc23 pm23 an23 cd23 ct23), sl23⟩)
    (c23 : PySem.W.codeIn K cd23 "_law_pool" = true)
    (k23 : PySem.W.keepIn K (.ref f23) = true)
    (a24 : PySem.W.nsIn K mainGlobals "_law_mix" = some (some (.ref f24)))
    (l24 : K.lookup f24 = some ⟨oc24, od24, .func (PySem.W.fnOf "_law_mix" "_law_mix" (defArgs s__law_mix) (defBody s__law_mix) (defScope s__law_mix) .none kV24 dc24 pm24 an24 cd24 ct24), sl24⟩)
    (c24 : PySem.W.codeIn K cd24 "_law_mix" = true)
    (k24 : PySem.W.keepIn K (.ref f24) = true)
    (a25 : PySem.W.nsIn K mainGlobals "_law_draw" = some (some (.ref f25)))
    (l25 : K.lookup f25 = some ⟨oc25, od25, .func (PySem.W.fnOf "_law_draw" "_law_draw" (defArgs s__law_draw) (defBody s__law_draw) (defScope s__law_draw) .none kV25 dc25 pm25 an25 cd25 ct25), sl25⟩)
    (c25 : PySem.W.codeIn K cd25 "_law_draw" = true)
    (k25 : PySem.W.keepIn K (.ref f25) = true)
    (a26 : PySem.W.nsIn K mainGlobals "_law_pick" = some (some (.ref f26)))
    (l26 : K.lookup f26 = some ⟨oc26, od26, .func (PySem.W.fnOf "_law_pick" "_law_pick" (defArgs s__law_pick) (defBody s__law_pick) (defScope s__law_pick) .none kV26 dc26 pm26 an26 cd26 ct26), sl26⟩)
    (c26 : PySem.W.codeIn K cd26 "_law_pick" = true)
    (k26 : PySem.W.keepIn K (.ref f26) = true)
    (a27 : PySem.W.nsIn K mainGlobals "_law_same" = some (some (.ref f27)))
    (l27 : K.lookup f27 = some ⟨oc27, od27, .func (PySem.W.fnOf "_law_same" "_law_same" (defArgs s__law_same) (defBody s__law_same) (defScope s__law_same) .none kV27 dc27 pm27 an27 cd27 ct27), sl27⟩)
    (c27 : PySem.W.codeIn K cd27 "_law_same" = true)
    (k27 : PySem.W.keepIn K (.ref f27) = true)
    (a28 : PySem.W.nsIn K mainGlobals "_law_gcd" = some (some (.ref f28)))
    (l28 : K.lookup f28 = some ⟨oc28, od28, .func (PySem.W.fnOf "_law_gcd" "_law_gcd" (defArgs s__law_gcd) (defBody s__law_gcd) (defScope s__law_gcd) .none kV28 dc28 pm28 an28 cd28 ct28), sl28⟩)
    (c28 : PySem.W.codeIn K cd28 "_law_gcd" = true)
    (k28 : PySem.W.keepIn K (.ref f28) = true)
    (a29 : PySem.W.nsIn K mainGlobals "_law_ratio" = some (some (.ref f29)))
    (l29 : K.lookup f29 = some ⟨oc29, od29, .func (PySem.W.fnOf "_law_ratio" "_law_ratio" (defArgs s__law_ratio) (defBody s__law_ratio) (defScope s__law_ratio) .none kV29 dc29 pm29 an29 cd29 ct29), sl29⟩)
    (c29 : PySem.W.codeIn K cd29 "_law_ratio" = true)
    (k29 : PySem.W.keepIn K (.ref f29) = true)
    (a30 : PySem.W.nsIn K mainGlobals "_law_plus" = some (some (.ref f30)))
    (l30 : K.lookup f30 = some ⟨oc30, od30, .func (PySem.W.fnOf "_law_plus" "_law_plus" (defArgs s__law_plus) (defBody s__law_plus) (defScope s__law_plus) .none kV30 dc30 pm30 an30 cd30 ct30), sl30⟩)
    (c30 : PySem.W.codeIn K cd30 "_law_plus" = true)
    (k30 : PySem.W.keepIn K (.ref f30) = true)
    (a31 : PySem.W.nsIn K mainGlobals "_law_less_by" = some (some (.ref f31)))
    (l31 : K.lookup f31 = some ⟨oc31, od31, .func (PySem.W.fnOf "_law_less_by" "_law_less_by" (defArgs s__law_less_by) (defBody s__law_less_by) (defScope s__law_less_by) .none kV31 dc31 pm31 an31 cd31 ct31), sl31⟩)
    (c31 : PySem.W.codeIn K cd31 "_law_less_by" = true)
    (k31 : PySem.W.keepIn K (.ref f31) = true)
    (a32 : PySem.W.nsIn K mainGlobals "_law_compare" = some (some (.ref f32)))
    (l32 : K.lookup f32 = some ⟨oc32, od32, .func (PySem.W.fnOf "_law_compare" "_law_compare" (defArgs s__law_compare) (defBody s__law_compare) (defScope s__law_compare) .none kV32 dc32 pm32 an32 cd32 ct32), sl32⟩)
    (c32 : PySem.W.codeIn K cd32 "_law_compare" = true)
    (k32 : PySem.W.keepIn K (.ref f32) = true)
    (a33 : PySem.W.nsIn K mainGlobals "_law_keeps" = some (some (.ref f33)))
    (l33 : K.lookup f33 = some ⟨oc33, od33, .func (PySem.W.fnOf "_law_keeps" "_law_keeps" (defArgs s__law_keeps) (defBody s__law_keeps) (defScope s__law_keeps) .none kV33 dc33 pm33 an33 cd33 ct33), sl33⟩)
    (c33 : PySem.W.codeIn K cd33 "_law_keeps" = true)
    (k33 : PySem.W.keepIn K (.ref f33) = true)
    (a34 : PySem.W.nsIn K mainGlobals "_law_drawn_sentence" = some (some (.ref f34)))
    (l34 : K.lookup f34 = some ⟨oc34, od34, .func (PySem.W.fnOf "_law_drawn_sentence" "_law_drawn_sentence" (defArgs s__law_drawn_sentence) (defBody s__law_drawn_sentence) (defScope s__law_drawn_sentence) .none kV34 dc34 pm34 an34 cd34 ct34), sl34⟩)
    (c34 : PySem.W.codeIn K cd34 "_law_drawn_sentence" = true)
    (k34 : PySem.W.keepIn K (.ref f34) = true)
    (a35 : PySem.W.nsIn K mainGlobals "_law_drawn_word" = some (some (.ref f35)))
    (l35 : K.lookup f35 = some ⟨oc35, od35, .func (PySem.W.fnOf "_law_drawn_word" "_law_drawn_word" (defArgs s__law_drawn_word) (defBody s__law_drawn_word) (defScope s__law_drawn_word) .none kV35 dc35 pm35 an35 cd35 ct35), sl35⟩)
    (c35 : PySem.W.codeIn K cd35 "_law_drawn_word" = true)
    (k35 : PySem.W.keepIn K (.ref f35) = true)
    (a36 : PySem.W.nsIn K mainGlobals "_law_border_word" = some (some (.ref f36)))
    (l36 : K.lookup f36 = some ⟨oc36, od36, .func (PySem.W.fnOf "_law_border_word" "_law_border_word" (defArgs s__law_border_word) (defBody s__law_border_word) (defScope s__law_border_word) .none kV36 dc36 pm36 an36 cd36 ct36), sl36⟩)
    (c36 : PySem.W.codeIn K cd36 "_law_border_word" = true)
    (k36 : PySem.W.keepIn K (.ref f36) = true)
    (a37 : PySem.W.nsIn K mainGlobals "_law_odd" = some (some (.ref f37)))
    (l37 : K.lookup f37 = some ⟨oc37, od37, .func (PySem.W.fnOf "_law_odd" "_law_odd" (defArgs s__law_odd) (defBody s__law_odd) (defScope s__law_odd) .none kV37 dc37 pm37 an37 cd37 ct37), sl37⟩)
    (c37 : PySem.W.codeIn K cd37 "_law_odd" = true)
    (k37 : PySem.W.keepIn K (.ref f37) = true)
    (a38 : PySem.W.nsIn K mainGlobals "_law_what" = some (some (.ref f38)))
    (l38 : K.lookup f38 = some ⟨oc38, od38, .func (PySem.W.fnOf "_law_what" "_law_what" (defArgs s__law_what) (defBody s__law_what) (defScope s__law_what) .none kV38 dc38 pm38 an38 cd38 ct38), sl38⟩)
    (c38 : PySem.W.codeIn K cd38 "_law_what" = true)
    (k38 : PySem.W.keepIn K (.ref f38) = true)
    (a39 : PySem.W.nsIn K mainGlobals "_law_odd_words" = some (some (.ref f39)))
    (l39 : K.lookup f39 = some ⟨oc39, od39, .func (PySem.W.fnOf "_law_odd_words" "_law_odd_words" (defArgs s__law_odd_words) (defBody s__law_odd_words) (defScope s__law_odd_words) .none kV39 dc39 pm39 an39 cd39 ct39), sl39⟩)
    (c39 : PySem.W.codeIn K cd39 "_law_odd_words" = true)
    (k39 : PySem.W.keepIn K (.ref f39) = true)
    (a40 : PySem.W.nsIn K mainGlobals "law" = some (some (.ref f40)))
    (l40 : K.lookup f40 = some ⟨oc40, od40, .func (PySem.W.fnOf "law" "law" (defArgs s_law) (defBody s_law) (defScope s_law) .none kV40 dc40 pm40 an40 cd40 ct40), sl40⟩)
    (c40 : PySem.W.codeIn K cd40 "law" = true)
    (k40 : PySem.W.keepIn K (.ref f40) = true)
    (z0 : PySem.W.nsIn K mainGlobals "len" = some none)
    (z1 : PySem.W.nsIn K mainGlobals "int" = some none)
    (z2 : PySem.W.nsIn K mainGlobals "abs" = some none)
    (z3 : PySem.W.nsIn K mainGlobals "tuple" = some none)
    (z4 : PySem.W.nsIn K mainGlobals "list" = some none)
    (z5 : PySem.W.nsIn K mainGlobals "all" = some none)
    (z6 : PySem.W.nsIn K mainGlobals "any" = some none)
    (z7 : PySem.W.nsIn K mainGlobals "sum" = some none)
    (z8 : PySem.W.nsIn K mainGlobals "min" = some none)
    (z9 : PySem.W.nsIn K mainGlobals "max" = some none)
    (z10 : PySem.W.nsIn K mainGlobals "repr" = some none)
    (z11 : PySem.W.nsIn K mainGlobals "isinstance" = some none)
    (z12 : PySem.W.nsIn K mainGlobals "range" = some none)
    (z13 : PySem.W.nsIn K mainGlobals "enumerate" = some none)
    (z14 : PySem.W.nsIn K mainGlobals "zip" = some none)
    (z15 : PySem.W.nsIn K mainGlobals "bool" = some none)
    (z16 : PySem.W.nsIn K mainGlobals "str" = some none)
    (z17 : PySem.W.nsIn K mainGlobals "super" = some none)
    (y0 : PySem.W.nsIn K mainGlobals "LONGEST" = some (some (.int 12 t0)))
    (y1 : PySem.W.nsIn K mainGlobals "LONGEST_LETTER" = some (some (.int 40 t1)))
    (y2 : PySem.W.nsIn K mainGlobals "LOWER" = some (some (.ref ga2)))
    (x2 : K.lookup ga2 = some ⟨.type "tuple", gd2, .seq #[.str ">" gt2_0, .str ">=" gt2_1] gn2, gs2⟩)
    (y3 : PySem.W.nsIn K mainGlobals "MOST_IN_ROW" = some (some (.int 12 t3)))
    (y4 : PySem.W.nsIn K mainGlobals "MOST_NUMBER" = some (some (.int 99 t4)))
    (y5 : PySem.W.nsIn K mainGlobals "SMALL" = some (some (.str "abcdefghijklmnopqrstuvwxyz" t5)))
    (y6 : PySem.W.nsIn K mainGlobals "UPPER" = some (some (.ref ga6)))
    (x6 : K.lookup ga6 = some ⟨.type "tuple", gd6, .seq #[.str "<" gt6_0, .str "<=" gt6_1] gn6, gs6⟩)
    (ec_TicklessError : PySem.W.nsIn K mainGlobals "TicklessError" = some (some (.ref C_TicklessError)))
    (ec_BadValue : PySem.W.nsIn K mainGlobals "BadValue" = some (some (.ref C_BadValue)))
    (ez_BadText : PySem.W.nsIn K mainGlobals "BadText" = some none)
    (ez_BadMachine : PySem.W.nsIn K mainGlobals "BadMachine" = some none)
    (ez_TooMany : PySem.W.nsIn K mainGlobals "TooMany" = some none)
    (ez_OpenEnd : PySem.W.nsIn K mainGlobals "OpenEnd" = some none)
    (ez_NotClear : PySem.W.nsIn K mainGlobals "NotClear" = some none)
    (ez_NothingToUndo : PySem.W.nsIn K mainGlobals "NothingToUndo" = some none)
    (ehn : PySem.W.specialIn K (.builtin "object.__class__") "__get__" = some (some (.builtin "getset_descriptor.__get__")))
    (eht : PySem.W.takesIn K (.builtin "object.__class__") = some true)
    (eop : PySem.W.nsIn K PySem.cStatics "thirdparty.any" = some none)
    (eeC_TicklessError : PySem.W.subIn K (.ref C_TicklessError) (.type "BaseException") = some true)
    (ehd_TicklessError : PySem.W.hasDictIn K C_TicklessError = true)
    (etC_TicklessError : PySem.W.typeIn K (.ref C_TicklessError) = some (.type "type"))
    (eeC_BadValue : PySem.W.subIn K (.ref C_BadValue) (.type "BaseException") = some true)
    (ehd_BadValue : PySem.W.hasDictIn K C_BadValue = true)
    (etC_BadValue : PySem.W.typeIn K (.ref C_BadValue) = some (.type "type"))
    (ega_BadValue : PySem.W.findIn K (.ref C_BadValue) "__getattribute__" = some (some (.builtin "BaseException.__getattribute__")))
    (egg_BadValue : PySem.W.findIn K (.ref C_BadValue) "__getattr__" = some none)
    (eha_BadValue : PySem.W.findIn K (.ref C_BadValue) "__class__" = some (some (.builtin "object.__class__")))
    (ehm_BadValue : PySem.W.mroIn K C_BadValue (.type "object") = some true)
    (en0_BadValue : PySem.W.findIn K (.ref C_BadValue) "what" = some none)
    (en1_BadValue : PySem.W.findIn K (.ref C_BadValue) "limit" = some none)
    (en2_BadValue : PySem.W.findIn K (.ref C_BadValue) "line" = some none)
    (en3_BadValue : PySem.W.findIn K (.ref C_BadValue) "reason" = some none)
    (en4_BadValue : PySem.W.findIn K (.ref C_BadValue) "at" = some none)
    (en5_BadValue : PySem.W.findIn K (.ref C_BadValue) "kind" = some none)
    (en6_BadValue : PySem.W.findIn K (.ref C_BadValue) "first" = some none)
    (en7_BadValue : PySem.W.findIn K (.ref C_BadValue) "second" = some none)
    (es_BadValue_BadValue : PySem.W.subIn K (.ref C_BadValue) (.ref C_BadValue) = some true)
    (es_BadValue_TicklessError : PySem.W.subIn K (.ref C_BadValue) (.ref C_TicklessError) = some true)
    (exL_BadValue : K.lookup C_BadValue = some (excClassObj nm_BadValue q_BadValue C_BadValue N_BadValue bs_BadValue [.ref C_TicklessError, .type "ValueError", .type "Exception", .type "BaseException", .type "object"] true sn_BadValue sub_BadValue ab_BadValue col_BadValue dd_BadValue ma_BadValue mb_BadValue mc_BadValue md_BadValue me_BadValue "ValueError.__new__"))
    (esa_BadValue : PySem.W.findIn K (.ref C_BadValue) "__setattr__" = some (some (.builtin "object.__setattr__")))
    (ekC_BadValue : PySem.W.keepIn K (.ref C_BadValue) = true)
    (eiI_BadValue : PySem.W.findIn K (.ref C_BadValue) "__init__" = some (some (.ref fI_BadValue)))
    (etI_BadValue : PySem.W.typeIn K (.ref fI_BadValue) = some (.type "function"))
    (elI_BadValue : K.lookup fI_BadValue = some ⟨ioc_BadValue, iod_BadValue, .func (PySem.W.ksFn "__init__" "BadValue.__init__" (defArgs i_BadValue) (defBody i_BadValue) (defScope i_BadValue) .none ikV_BadValue idoc_BadValue ipm_BadValue ian_BadValue (.ref cda_BadValue) ict_BadValue cc_BadValue), iosl_BadValue⟩)
    (ecI_BadValue : PySem.W.codeIn K (.ref cda_BadValue) "BadValue.__init__" = true)
    (elc_BadValue : K.lookup cc_BadValue = some ⟨icl_BadValue, icld_BadValue, .cell (some (.ref C_BadValue)), icsl_BadValue⟩)
    (eld_BadValue : K.lookup cda_BadValue = some ⟨iccl_BadValue, icdd_BadValue, .fields ivs_BadValue, iccs_BadValue⟩)
    (ehv_BadValue : ivs_BadValue[2]? = some (.str ifile_BadValue itf_BadValue))
    (ehf_BadValue : ((l.prog.main.file : Str) == ifile_BadValue) = true)
    (esup_BadValue : PySem.W.ks_superIn K C_BadValue C_BadValue "__init__" = some (some (.builtin "ValueError.__init__")))
    (esub_BadValue : PySem.W.subIn K (.ref C_BadValue) (.type "ValueError") = some true)
    (emro_BadValue : PySem.W.mroIn K C_BadValue (.ref C_BadValue) = some true)
    (etop : (l.prog.main.scope.names.lookup ("super" : Str)).isSome = false) :
    ∃ fd : FuncData, (∀ (s : Shared) (v : Value), BindsTo s fd ⟨[v], []⟩ [("script", v)]) ∧ ∀ base : Heap, K.In base → base.Ns mainGlobals mg → FnG l.prog w K mg base 9 fa fd ["script"] (liftSp K mg 1 lawSp) := by
  have e := hfa.symm.trans (PySem.W.mg_of X G a40)
  cases e
  have hb : ∀ x ∈ bltNames, mg x = none := by
    intro x hx
    simp only [bltNames, List.mem_cons, List.not_mem_nil, or_false] at hx
    rcases hx with rfl | rfl | rfl | rfl | rfl | rfl | rfl | rfl | rfl | rfl | rfl | rfl | rfl | rfl | rfl | rfl | rfl | rfl
    · exact PySem.W.mg_none_of X G z0
    · exact PySem.W.mg_none_of X G z1
    · exact PySem.W.mg_none_of X G z2
    · exact PySem.W.mg_none_of X G z3
    · exact PySem.W.mg_none_of X G z4
    · exact PySem.W.mg_none_of X G z5
    · exact PySem.W.mg_none_of X G z6
    · exact PySem.W.mg_none_of X G z7
    · exact PySem.W.mg_none_of X G z8
    · exact PySem.W.mg_none_of X G z9
    · exact PySem.W.mg_none_of X G z10
    · exact PySem.W.mg_none_of X G z11
    · exact PySem.W.mg_none_of X G z12
    · exact PySem.W.mg_none_of X G z13
    · exact PySem.W.mg_none_of X G z14
    · exact PySem.W.mg_none_of X G z15
    · exact PySem.W.mg_none_of X G z16
    · exact PySem.W.mg_none_of X G z17
  have cl_BadValue : ClsRd K C_BadValue := cls_mk ega_BadValue egg_BadValue eeC_BadValue ehd_BadValue eha_BadValue ehn eht ehm_BadValue en0_BadValue en1_BadValue en2_BadValue en3_BadValue en4_BadValue en5_BadValue en6_BadValue en7_BadValue
  have L : Facts (l.prog) w K mg :=
    { blt := hb
      g_LONGEST := ⟨_, PySem.W.mg_of X G y0⟩
      g_LONGEST_LETTER := ⟨_, PySem.W.mg_of X G y1⟩
      g_LOWER := ⟨_, _, _, _, _, _, PySem.W.mg_of X G y2, x2⟩
      g_MOST_IN_ROW := ⟨_, PySem.W.mg_of X G y3⟩
      g_MOST_NUMBER := ⟨_, PySem.W.mg_of X G y4⟩
      g_SMALL := ⟨_, PySem.W.mg_of X G y5⟩
      g_UPPER := ⟨_, _, _, _, _, _, PySem.W.mg_of X G y6, x6⟩
      f_common_factor := ⟨f0, _, fun_mk (st := s_common_factor) l0 c0 k0, PySem.W.mg_of X G a0, (fun_mk (st := s_common_factor) l0 c0 k0).binds fun _ _ _ _ _ _ us hl => match us, hl with | [_, _], _ => rfl⟩
      f_lowest_terms := ⟨f1, _, fun_mk (st := s_lowest_terms) l1 c1 k1, PySem.W.mg_of X G a1, (fun_mk (st := s_lowest_terms) l1 c1 k1).binds fun _ _ _ _ _ _ us hl => match us, hl with | [_, _], _ => rfl⟩
      f_is_int := ⟨f2, _, fun_mk (st := s_is_int) l2 c2 k2, PySem.W.mg_of X G a2, (fun_mk (st := s_is_int) l2 c2 k2).binds fun _ _ _ _ _ _ us hl => match us, hl with | [_], _ => rfl⟩
      f_is_ratio := ⟨f3, _, fun_mk (st := s_is_ratio) l3 c3 k3, PySem.W.mg_of X G a3, (fun_mk (st := s_is_ratio) l3 c3 k3).binds fun _ _ _ _ _ _ us hl => match us, hl with | [_], _ => rfl⟩
      f_minus := ⟨f4, _, fun_mk (st := s_minus) l4 c4 k4, PySem.W.mg_of X G a4, (fun_mk (st := s_minus) l4 c4 k4).binds fun _ _ _ _ _ _ us hl => match us, hl with | [_, _], _ => rfl⟩
      f_is_less := ⟨f5, _, fun_mk (st := s_is_less) l5 c5 k5, PySem.W.mg_of X G a5, (fun_mk (st := s_is_less) l5 c5 k5).binds fun _ _ _ _ _ _ us hl => match us, hl with | [_, _], _ => rfl⟩
      f_is_whole := ⟨f6, _, fun_mk (st := s_is_whole) l6 c6 k6, PySem.W.mg_of X G a6, (fun_mk (st := s_is_whole) l6 c6 k6).binds fun _ _ _ _ _ _ us hl => match us, hl with | [_, _, _], _ => rfl⟩
      f_is_size := ⟨f7, _, fun_mk (st := s_is_size) l7 c7 k7, PySem.W.mg_of X G a7, (fun_mk (st := s_is_size) l7 c7 k7).binds fun _ _ _ _ _ _ us hl => match us, hl with | [_], _ => rfl⟩
      f_is_letter := ⟨f8, _, fun_mk (st := s_is_letter) l8 c8 k8, PySem.W.mg_of X G a8, (fun_mk (st := s_is_letter) l8 c8 k8).binds fun _ _ _ _ _ _ us hl => match us, hl with | [_, _], _ => rfl⟩
      f_is_sign := ⟨f9, _, fun_mk (st := s_is_sign) l9 c9 k9, PySem.W.mg_of X G a9, (fun_mk (st := s_is_sign) l9 c9 k9).binds fun _ _ _ _ _ _ us hl => match us, hl with | [_], _ => rfl⟩
      f_is_word := ⟨f10, _, fun_mk (st := s_is_word) l10 c10 k10, PySem.W.mg_of X G a10, (fun_mk (st := s_is_word) l10 c10 k10).binds fun _ _ _ _ _ _ us hl => match us, hl with | [_], _ => rfl⟩
      f_check_word := ⟨f11, _, fun_mk (st := s_check_word) l11 c11 k11, PySem.W.mg_of X G a11, (fun_mk (st := s_check_word) l11 c11 k11).binds fun _ _ _ _ _ _ us hl => match us, hl with | [_], _ => rfl⟩
      f_compared := ⟨f12, _, fun_mk (st := s_compared) l12 c12 k12, PySem.W.mg_of X G a12, (fun_mk (st := s_compared) l12 c12 k12).binds fun _ _ _ _ _ _ us hl => match us, hl with | [_, _, _], _ => rfl⟩
      f_is_bound := ⟨f13, _, fun_mk (st := s_is_bound) l13 c13 k13, PySem.W.mg_of X G a13, (fun_mk (st := s_is_bound) l13 c13 k13).binds fun _ _ _ _ _ _ us hl => match us, hl with | [_, _, _], _ => rfl⟩
      f_is_sentence := ⟨f14, _, fun_mk (st := s_is_sentence) l14 c14 k14, PySem.W.mg_of X G a14, (fun_mk (st := s_is_sentence) l14 c14 k14).binds fun _ _ _ _ _ _ us hl => match us, hl with | [_], _ => rfl⟩
      f_check_sentence := ⟨f15, _, fun_mk (st := s_check_sentence) l15 c15 k15, PySem.W.mg_of X G a15, (fun_mk (st := s_check_sentence) l15 c15 k15).binds fun _ _ _ _ _ _ us hl => match us, hl with | [_], _ => rfl⟩
      f_sign_holds := ⟨f16, _, fun_mk (st := s_sign_holds) l16 c16 k16, PySem.W.mg_of X G a16, (fun_mk (st := s_sign_holds) l16 c16 k16).binds fun _ _ _ _ _ _ us hl => match us, hl with | [_, _, _], _ => rfl⟩
      f_keeps_first := ⟨f17, _, fun_mk (st := s_keeps_first) l17 c17 k17, PySem.W.mg_of X G a17, (fun_mk (st := s_keeps_first) l17 c17 k17).binds fun _ _ _ _ _ _ us hl => match us, hl with | [_, _, _], _ => rfl⟩
      f_keeps_soon := ⟨f18, _, fun_mk (st := s_keeps_soon) l18 c18 k18, PySem.W.mg_of X G a18, (fun_mk (st := s_keeps_soon) l18 c18 k18).binds fun _ _ _ _ _ _ us hl => match us, hl with | [_, _, _], _ => rfl⟩
      f_last_ahead := ⟨f19, _, fun_mk (st := s_last_ahead) l19 c19 k19, PySem.W.mg_of X G a19, (fun_mk (st := s_last_ahead) l19 c19 k19).binds fun _ _ _ _ _ _ us hl => match us, hl with | [_, _, _], _ => rfl⟩
      f_keeps_since := ⟨f20, _, fun_mk (st := s_keeps_since) l20 c20 k20, PySem.W.mg_of X G a20, (fun_mk (st := s_keeps_since) l20 c20 k20).binds fun _ _ _ _ _ _ us hl => match us, hl with | [_, _], _ => rfl⟩
      f_made_keeps := ⟨f21, _, fun_mk (st := s_made_keeps) l21 c21 k21, PySem.W.mg_of X G a21, (fun_mk (st := s_made_keeps) l21 c21 k21).binds fun _ _ _ _ _ _ us hl => match us, hl with | [_, _], _ => rfl⟩
      f_keeps_word := ⟨f22, _, fun_mk (st := s_keeps_word) l22 c22 k22, PySem.W.mg_of X G a22, (fun_mk (st := s_keeps_word) l22 c22 k22).binds fun _ _ _ _ _ _ us hl => match us, hl with | [_, _], _ => rfl⟩
      f__law_pool := ⟨f23, _, fun_mk (st := s__law_pool) l23 c23 k23, PySem.W.mg_of X G a23, (fun_mk (st := s__law_pool) l23 c23 k23).binds fun _ _ _ _ _ _ us hl => match us, hl with | [_], _ => rfl⟩
      f__law_mix := ⟨f24, _, fun_mk (st := s__law_mix) l24 c24 k24, PySem.W.mg_of X G a24, (fun_mk (st := s__law_mix) l24 c24 k24).binds fun _ _ _ _ _ _ us hl => match us, hl with | [_], _ => rfl⟩
      f__law_draw := ⟨f25, _, fun_mk (st := s__law_draw) l25 c25 k25, PySem.W.mg_of X G a25, (fun_mk (st := s__law_draw) l25 c25 k25).binds fun _ _ _ _ _ _ us hl => match us, hl with | [_, _], _ => rfl⟩
      f__law_pick := ⟨f26, _, fun_mk (st := s__law_pick) l26 c26 k26, PySem.W.mg_of X G a26, (fun_mk (st := s__law_pick) l26 c26 k26).binds fun _ _ _ _ _ _ us hl => match us, hl with | [_, _], _ => rfl⟩
      f__law_same := ⟨f27, _, fun_mk (st := s__law_same) l27 c27 k27, PySem.W.mg_of X G a27, (fun_mk (st := s__law_same) l27 c27 k27).binds fun _ _ _ _ _ _ us hl => match us, hl with | [_, _], _ => rfl⟩
      f__law_gcd := ⟨f28, _, fun_mk (st := s__law_gcd) l28 c28 k28, PySem.W.mg_of X G a28, (fun_mk (st := s__law_gcd) l28 c28 k28).binds fun _ _ _ _ _ _ us hl => match us, hl with | [_, _], _ => rfl⟩
      f__law_ratio := ⟨f29, _, fun_mk (st := s__law_ratio) l29 c29 k29, PySem.W.mg_of X G a29, (fun_mk (st := s__law_ratio) l29 c29 k29).binds fun _ _ _ _ _ _ us hl => match us, hl with | [_, _], _ => rfl⟩
      f__law_plus := ⟨f30, _, fun_mk (st := s__law_plus) l30 c30 k30, PySem.W.mg_of X G a30, (fun_mk (st := s__law_plus) l30 c30 k30).binds fun _ _ _ _ _ _ us hl => match us, hl with | [_, _], _ => rfl⟩
      f__law_less_by := ⟨f31, _, fun_mk (st := s__law_less_by) l31 c31 k31, PySem.W.mg_of X G a31, (fun_mk (st := s__law_less_by) l31 c31 k31).binds fun _ _ _ _ _ _ us hl => match us, hl with | [_, _], _ => rfl⟩
      f__law_compare := ⟨f32, _, fun_mk (st := s__law_compare) l32 c32 k32, PySem.W.mg_of X G a32, (fun_mk (st := s__law_compare) l32 c32 k32).binds fun _ _ _ _ _ _ us hl => match us, hl with | [_, _, _], _ => rfl⟩
      f__law_keeps := ⟨f33, _, fun_mk (st := s__law_keeps) l33 c33 k33, PySem.W.mg_of X G a33, (fun_mk (st := s__law_keeps) l33 c33 k33).binds fun _ _ _ _ _ _ us hl => match us, hl with | [_, _], _ => rfl⟩
      f__law_drawn_sentence := ⟨f34, _, fun_mk (st := s__law_drawn_sentence) l34 c34 k34, PySem.W.mg_of X G a34, (fun_mk (st := s__law_drawn_sentence) l34 c34 k34).binds fun _ _ _ _ _ _ us hl => match us, hl with | [_, _, _], _ => rfl⟩
      f__law_drawn_word := ⟨f35, _, fun_mk (st := s__law_drawn_word) l35 c35 k35, PySem.W.mg_of X G a35, (fun_mk (st := s__law_drawn_word) l35 c35 k35).binds fun _ _ _ _ _ _ us hl => match us, hl with | [_, _, _], _ => rfl⟩
      f__law_border_word := ⟨f36, _, fun_mk (st := s__law_border_word) l36 c36 k36, PySem.W.mg_of X G a36, (fun_mk (st := s__law_border_word) l36 c36 k36).binds fun _ _ _ _ _ _ us hl => match us, hl with | [_, _], _ => rfl⟩
      f__law_odd := ⟨f37, _, fun_mk (st := s__law_odd) l37 c37 k37, PySem.W.mg_of X G a37, (fun_mk (st := s__law_odd) l37 c37 k37).binds fun _ _ _ _ _ _ us hl => match us, hl with | [_, _], _ => rfl⟩
      f__law_what := ⟨f38, _, fun_mk (st := s__law_what) l38 c38 k38, PySem.W.mg_of X G a38, (fun_mk (st := s__law_what) l38 c38 k38).binds fun _ _ _ _ _ _ us hl => match us, hl with | [_, _], _ => rfl⟩
      f__law_odd_words := ⟨f39, _, fun_mk (st := s__law_odd_words) l39 c39 k39, PySem.W.mg_of X G a39, (fun_mk (st := s__law_odd_words) l39 c39 k39).binds fun _ _ _ _ _ _ us hl => match us, hl with | [], _ => rfl⟩
      x0_BadValue := fun base k hk => has_raise hk (PySem.W.mg_of X G ec_BadValue) (oex_mk exL_BadValue rfl esa_BadValue eeC_BadValue etC_BadValue ekC_BadValue) eiI_BadValue etI_BadValue (.all fun us hl => match us, hl with | [_, _], _ => rfl) (by rw [fld_bv]; exact cl_BadValue.no _ (by decide)) (iok_BadValue (ini_mk elI_BadValue ecI_BadValue elc_BadValue eld_BadValue ehv_BadValue ehf_BadValue esup_BadValue esub_BadValue emro_BadValue eop etop) (hb _ (by decide +kernel)))
      x1_BadValue := fun base k => has_exc (PySem.W.mg_of X G ec_BadValue) (exc_all (exc7 (.inl (PySem.W.mg_none_of X G ez_BadText)) (.inl (PySem.W.mg_none_of X G ez_BadMachine)) (.inr ⟨C_BadValue, PySem.W.mg_of X G ec_BadValue, ⟨(PySem.W.exm_ref eeC_BadValue ehd_BadValue etC_BadValue es_BadValue_BadValue).trans (by decide), cl_BadValue⟩⟩) (.inl (PySem.W.mg_none_of X G ez_TooMany)) (.inl (PySem.W.mg_none_of X G ez_OpenEnd)) (.inl (PySem.W.mg_none_of X G ez_NotClear)) (.inl (PySem.W.mg_none_of X G ez_NothingToUndo))))
      x2_TicklessError := fun base k => has_is (PySem.W.mg_of X G ec_TicklessError) (exc_all (exc7 (.inl (PySem.W.mg_none_of X G ez_BadText)) (.inl (PySem.W.mg_none_of X G ez_BadMachine)) (.inr ⟨C_BadValue, PySem.W.mg_of X G ec_BadValue, (kit_ref ehd_TicklessError etC_TicklessError es_BadValue_TicklessError).trans (by decide)⟩) (.inl (PySem.W.mg_none_of X G ez_TooMany)) (.inl (PySem.W.mg_none_of X G ez_OpenEnd)) (.inl (PySem.W.mg_none_of X G ez_NotClear)) (.inl (PySem.W.mg_none_of X G ez_NothingToUndo)))) }
  exact ⟨_, fun s v => .of_eq rfl, fun base _ _ => ok_law L (fun_mk (st := s_law) l40 c40 k40)⟩
end TK
open PySem PySem.W PyProof.Rows
set_option maxHeartbeats 0 in
theorem PySem.Challenge.cw_tickless_k69_plain_meaning_of_sentences_holds : PySem.Challenge.rw_tickless_k69_plain_meaning_of_sentences.Holds := by
  w_on; o_law; k_head; (case hw => w_witness2)
  k_fill
  refine TK.walk_of (l := PySem.Challenge.rw_tickless_k69_plain_meaning_of_sentences) (k := 9) (x := "script") rfl rfl ⟨rfl, by decide, by decide⟩ (fun w h Y => PySem.W.kIn_of Y) ?F
  case F =>
    intro w mg fa h KX G hmg
    refine' TK.all_mk KX G hmg ?a0 ?l0 ?c0 ?k0 ?a1 ?l1 ?c1 ?k1 ?a2 ?l2 ?c2 ?k2 ?a3 ?l3 ?c3 ?k3 ?a4 ?l4 ?c4 ?k4 ?a5 ?l5 ?c5 ?k5 ?a6 ?l6 ?c6 ?k6 ?a7 ?l7 ?c7 ?k7 ?a8 ?l8 ?c8 ?k8 ?a9 ?l9 ?c9 ?k9 ?a10 ?l10 ?c10 ?k10 ?a11 ?l11 ?c11 ?k11 ?a12 ?l12 ?c12 ?k12 ?a13 ?l13 ?c13 ?k13 ?a14 ?l14 ?c14 ?k14 ?a15 ?l15 ?c15 ?k15 ?a16 ?l16 ?c16 ?k16 ?a17 ?l17 ?c17 ?k17 ?a18 ?l18 ?c18 ?k18 ?a19 ?l19 ?c19 ?k19 ?a20 ?l20 ?c20 ?k20 ?a21 ?l21 ?c21 ?k21 ?a22 ?l22 ?c22 ?k22 ?a23 ?l23 ?c23 ?k23 ?a24 ?l24 ?c24 ?k24 ?a25 ?l25 ?c25 ?k25 ?a26 ?l26 ?c26 ?k26 ?a27 ?l27 ?c27 ?k27 ?a28 ?l28 ?c28 ?k28 ?a29 ?l29 ?c29 ?k29 ?a30 ?l30 ?c30 ?k30 ?a31 ?l31 ?c31 ?k31 ?a32 ?l32 ?c32 ?k32 ?a33 ?l33 ?c33 ?k33 ?a34 ?l34 ?c34 ?k34 ?a35 ?l35 ?c35 ?k35 ?a36 ?l36 ?c36 ?k36 ?a37 ?l37 ?c37 ?k37 ?a38 ?l38 ?c38 ?k38 ?a39 ?l39 ?c39 ?k39 ?a40 ?l40 ?c40 ?k40 ?z0 ?z1 ?z2 ?z3 ?z4 ?z5 ?z6 ?z7 ?z8 ?z9 ?z10 ?z11 ?z12 ?z13 ?z14 ?z15 ?z16 ?z17 ?y0 ?y1 ?y2 ?x2 ?y3 ?y4 ?y5 ?y6 ?x6 ?ec_TicklessError ?ec_BadValue ?ez_BadText ?ez_BadMachine ?ez_TooMany ?ez_OpenEnd ?ez_NotClear ?ez_NothingToUndo ?ehn ?eht ?eop ?eeC_TicklessError ?ehd_TicklessError ?etC_TicklessError ?eeC_BadValue ?ehd_BadValue ?etC_BadValue ?ega_BadValue ?egg_BadValue ?eha_BadValue ?ehm_BadValue ?en0_BadValue ?en1_BadValue ?en2_BadValue ?en3_BadValue ?en4_BadValue ?en5_BadValue ?en6_BadValue ?en7_BadValue ?es_BadValue_BadValue ?es_BadValue_TicklessError ?exL_BadValue ?esa_BadValue ?ekC_BadValue ?eiI_BadValue ?etI_BadValue ?elI_BadValue ?ecI_BadValue ?elc_BadValue ?eld_BadValue ?ehv_BadValue ?ehf_BadValue ?esup_BadValue ?esub_BadValue ?emro_BadValue ?etop
    (case a0 => k_is); (case l0 => k_is); (case c0 => k_is); (case k0 => k_is); (case a1 => k_is); (case l1 => k_is); (case c1 => k_is); (case k1 => k_is); (case a2 => k_is); (case l2 => k_is); (case c2 => k_is); (case k2 => k_is); (case a3 => k_is); (case l3 => k_is); (case c3 => k_is); (case k3 => k_is); (case a4 => k_is); (case l4 => k_is); (case c4 => k_is); (case k4 => k_is); (case a5 => k_is); (case l5 => k_is); (case c5 => k_is); (case k5 => k_is); (case a6 => k_is); (case l6 => k_is); (case c6 => k_is); (case k6 => k_is); (case a7 => k_is); (case l7 => k_is); (case c7 => k_is); (case k7 => k_is); (case a8 => k_is); (case l8 => k_is); (case c8 => k_is); (case k8 => k_is); (case a9 => k_is); (case l9 => k_is); (case c9 => k_is); (case k9 => k_is); (case a10 => k_is); (case l10 => k_is); (case c10 => k_is); (case k10 => k_is); (case a11 => k_is); (case l11 => k_is); (case c11 => k_is); (case k11 => k_is); (case a12 => k_is); (case l12 => k_is); (case c12 => k_is); (case k12 => k_is); (case a13 => k_is); (case l13 => k_is); (case c13 => k_is); (case k13 => k_is); (case a14 => k_is); (case l14 => k_is); (case c14 => k_is); (case k14 => k_is); (case a15 => k_is); (case l15 => k_is); (case c15 => k_is); (case k15 => k_is); (case a16 => k_is); (case l16 => k_is); (case c16 => k_is); (case k16 => k_is); (case a17 => k_is); (case l17 => k_is); (case c17 => k_is); (case k17 => k_is); (case a18 => k_is); (case l18 => k_is); (case c18 => k_is); (case k18 => k_is); (case a19 => k_is); (case l19 => k_is); (case c19 => k_is); (case k19 => k_is); (case a20 => k_is); (case l20 => k_is); (case c20 => k_is); (case k20 => k_is); (case a21 => k_is); (case l21 => k_is); (case c21 => k_is); (case k21 => k_is); (case a22 => k_is); (case l22 => k_is); (case c22 => k_is); (case k22 => k_is); (case a23 => k_is); (case l23 => k_is); (case c23 => k_is); (case k23 => k_is); (case a24 => k_is); (case l24 => k_is); (case c24 => k_is); (case k24 => k_is); (case a25 => k_is); (case l25 => k_is); (case c25 => k_is); (case k25 => k_is); (case a26 => k_is); (case l26 => k_is); (case c26 => k_is); (case k26 => k_is); (case a27 => k_is); (case l27 => k_is); (case c27 => k_is); (case k27 => k_is); (case a28 => k_is); (case l28 => k_is); (case c28 => k_is); (case k28 => k_is); (case a29 => k_is); (case l29 => k_is); (case c29 => k_is); (case k29 => k_is); (case a30 => k_is); (case l30 => k_is); (case c30 => k_is); (case k30 => k_is); (case a31 => k_is); (case l31 => k_is); (case c31 => k_is); (case k31 => k_is); (case a32 => k_is); (case l32 => k_is); (case c32 => k_is); (case k32 => k_is); (case a33 => k_is); (case l33 => k_is); (case c33 => k_is); (case k33 => k_is); (case a34 => k_is); (case l34 => k_is); (case c34 => k_is); (case k34 => k_is); (case a35 => k_is); (case l35 => k_is); (case c35 => k_is); (case k35 => k_is); (case a36 => k_is); (case l36 => k_is); (case c36 => k_is); (case k36 => k_is); (case a37 => k_is); (case l37 => k_is); (case c37 => k_is); (case k37 => k_is); (case a38 => k_is); (case l38 => k_is); (case c38 => k_is); (case k38 => k_is); (case a39 => k_is); (case l39 => k_is); (case c39 => k_is); (case k39 => k_is); (case a40 => k_is); (case l40 => k_is); (case c40 => k_is); (case k40 => k_is); (case z0 => k_is); (case z1 => k_is); (case z2 => k_is); (case z3 => k_is); (case z4 => k_is); (case z5 => k_is); (case z6 => k_is); (case z7 => k_is); (case z8 => k_is); (case z9 => k_is); (case z10 => k_is); (case z11 => k_is); (case z12 => k_is); (case z13 => k_is); (case z14 => k_is); (case z15 => k_is); (case z16 => k_is); (case z17 => k_is); (case y0 => k_is); (case y1 => k_is); (case y2 => k_is); (case x2 => k_is); (case y3 => k_is); (case y4 => k_is); (case y5 => k_is); (case y6 => k_is); (case x6 => k_is); (case ec_TicklessError => k_is); (case ec_BadValue => k_is); (case ez_BadText => k_is); (case ez_BadMachine => k_is); (case ez_TooMany => k_is); (case ez_OpenEnd => k_is); (case ez_NotClear => k_is); (case ez_NothingToUndo => k_is); (case ehn => k_is); (case eht => k_is); (case eop => k_is); (case eeC_TicklessError => k_is); (case ehd_TicklessError => k_is); (case etC_TicklessError => k_is); (case eeC_BadValue => k_is); (case ehd_BadValue => k_is); (case etC_BadValue => k_is); (case ega_BadValue => k_is); (case egg_BadValue => k_is); (case eha_BadValue => k_is); (case ehm_BadValue => k_is); (case en0_BadValue => k_is); (case en1_BadValue => k_is); (case en2_BadValue => k_is); (case en3_BadValue => k_is); (case en4_BadValue => k_is); (case en5_BadValue => k_is); (case en6_BadValue => k_is); (case en7_BadValue => k_is); (case es_BadValue_BadValue => k_is); (case es_BadValue_TicklessError => k_is); (case exL_BadValue => k_is); (case esa_BadValue => k_is); (case ekC_BadValue => k_is); (case eiI_BadValue => k_is); (case etI_BadValue => k_is); (case elI_BadValue => k_is); (case ecI_BadValue => k_is); (case elc_BadValue => k_is); (case eld_BadValue => k_is); (case ehv_BadValue => rfl); (case ehf_BadValue => first | rfl | decide +kernel); (case esup_BadValue => ks_is); (case esub_BadValue => k_is); (case emro_BadValue => k_is); (case etop => first | rfl | decide +kernel)
