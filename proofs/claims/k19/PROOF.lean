import PyProof.Rows.All
import Wide.All
import OpenK.AllK
import Wide.FinOn
import HandS.ForMost
import HandS.Wide
import HandS.Deep
import HandS.IsInst
import HandS.Defaults
import HandS.Exc
import HandS.HeadHook1
import KE.KStateDown
import HandS.Head0
import HandS.Head1
import HandS.Head2
import HandS.HeadEnd
import HandS.HeadHook2
import HandS.TryOnly
import HandS.ExcOwn
import HandS.WordsExc
import HandS.ExcIs
import HandS.TupSets
import HandS.RevTup
import HandS.Rev
import KE.SortData
import KE.DataMinMax
import PySem.Challenge.RW_snugfit_k19_whole_sums_of_sums
set_option Elab.async false
set_option linter.all false
set_option maxRecDepth 100000
set_option maxHeartbeats 8000000
set_option exponentiation.threshold 20000
/-! DL: a deterministic reading of Python text over plain data, on top of the hand layer. Part 1: representation, judgements. -/
namespace DL
open PySem PySem.Spec PyProof.Rows L2

abbrev D := PyData
abbrev Rho := List (Option D)
abbrev Sg := L2.St

theorem same_trans {H H1 H2 : Hp} (a : Same H H1) (b : Same H1 H2) : Same H H2 := fun c o h => b c o (a c o h)
theorem same_upd {H : Hp} {p : Addr} {o : HO} (hp : H p = none) : Same H (upd H p o) := fun b u h => by
  rw [upd_ne (ne_of_none h hp)]; exact h

theorem same_sqT {K : PySem.W.Frag} {H H' : Hp} {a : Addr} {xs : List V} (e : Same H H') (h : SqT K H a xs) : SqT K H' a xs := by
  rcases h with (h | ⟨o, h⟩) | h
  · exact .inl (.inl (e _ _ h))
  · exact .inl (.inr ⟨o, e _ _ h⟩)
  · exact .inr h
mutual
theorem dp_mono {K : PySem.W.Frag} {H H' : Hp} (e : Same H H') : ∀ {v : V} {d : D}, Dp K H v d → Dp K H' v d
  | _, _, .non => .non
  | _, _, .bl b => .bl b
  | _, _, .int i => .int i
  | _, _, .str x => .str x
  | _, _, .lst h a => .lst (e.seq h) (dpAll_mono e a)
  | _, _, .tup h a => .tup (same_sqT e h) (dpAll_mono e a)
theorem dpAll_mono {K : PySem.W.Frag} {H H' : Hp} (e : Same H H') : ∀ {vs : List V} {ds : List D}, DpAll K H vs ds → DpAll K H' vs ds
  | _, _, .nil => .nil
  | _, _, .cons h t => .cons (dp_mono e h) (dpAll_mono e t)
end

/-- the frozen part F of the heap H, and both later -/
structure Grow (F H F' H' : Hp) : Prop where
  ff : Same F F'
  hh : Same H H'
  fh : Same F' H'
  own : ∀ b o, H b = some o → F b = none → F' b = none
theorem Grow.refl {F H : Hp} (h : Same F H) : Grow F H F H := ⟨Same.refl _, Same.refl _, h, fun _ _ _ h => h⟩
theorem Grow.trans {F H F1 H1 F2 H2 : Hp} (a : Grow F H F1 H1) (b : Grow F1 H1 F2 H2) : Grow F H F2 H2 :=
  ⟨same_trans a.ff b.ff, same_trans a.hh b.hh, b.fh, fun c o h n => b.own c o (a.hh c o h) (a.own c o h n)⟩
/-- a new object, frozen at once -/
theorem Grow.new {F H : Hp} {p : Addr} {o : HO} (h : Same F H) (hp : H p = none) : Grow F H (upd F p o) (upd H p o) where
  ff := same_upd (by cases e : F p with
    | none => rfl
    | some u => rw [h p u e] at hp; cases hp)
  hh := same_upd hp
  fh := fun b u e => by
    by_cases hb : b = p
    · subst hb; rw [upd_same] at e ⊢; exact e
    · rw [upd_ne hb] at e ⊢; exact h b u e
  own := fun b u e n => by
    rw [upd_ne (ne_of_none e hp)]; exact n
/-- a new object, kept own -/
theorem Grow.newOwn {F H : Hp} {p : Addr} {o : HO} (h : Same F H) (hp : H p = none) : Grow F H F (upd H p o) where
  ff := Same.refl _
  hh := same_upd hp
  fh := same_trans h (same_upd hp)
  own := fun _ _ _ n => n
theorem free_of {F H : Hp} {p : Addr} (h : Same F H) (hp : H p = none) : F p = none := by
  cases e : F p with
  | none => rfl
  | some u => rw [h p u e] at hp; cases hp

/-- a kept exception's object -/
def ExH (cls : Value) (a : Addr) : HO := .ext fun h => ∃ (oe : Obj) (vs : Array Value), h.get? a = some oe ∧ Zc cls none oe ∧ oe.data = .fields vs
/-- what is held, as data; a kept exception by its class's name -/
def excD (x : Str) : D := .dict [(.str x, .none)]
inductive Rep (K : PySem.W.Frag) (F : Hp) : V → D → Prop
  | dat {v : V} {d : D} : Dp K F v d → Rep K F v d
  | exc {a : Addr} {x : Str} : F a = some (ExH (.ref (He.ga K x)) a) → Rep K F (.ref a) (excD x)
theorem Rep.mono {K : PySem.W.Frag} {F F' : Hp} (e : Same F F') {v : V} {d : D} : Rep K F v d → Rep K F' v d
  | .dat h => .dat (dp_mono e h)
  | .exc h => .exc (e _ _ h)

structure Ent where
  F0 : Hp
  H0 : Hp

def getv (ρ : Rho) (i : Nat) : Option D := match ρ[i]? with
  | some (some d) => some d
  | _ => none

/-- an own list: at an address of its own, in no frozen data -/
def OwnAt (K : PySem.W.Frag) (F H : Hp) (v : V) (d : D) : Prop := ∃ a vs ds, v = .ref a ∧ d = .list ds ∧ H a = some (.lst vs) ∧ F a = none ∧ DpAll K F vs ds

structure StRep (K : PySem.W.Frag) (G : Ent) (O : List Nat) (σ : Sg) (H : Hp) (ρ : Rho) (F : Hp) : Prop where
  len : ρ.length = σ.length
  g : Grow G.F0 G.H0 F H
  dat : ∀ i d, i ∉ O → getv ρ i = some d → ∃ v, σ[i]? = some (some v) ∧ Rep K F v d
  own : ∀ i d, i ∈ O → getv ρ i = some d → ∃ v, σ[i]? = some (some v) ∧ OwnAt K F H v d
  new : ∀ i d a, i ∈ O → getv ρ i = some d → σ[i]? = some (some (V.ref a)) → G.H0 a = none
  dis : ∀ i j d e a, i ∈ O → j ∈ O → i ≠ j → getv ρ i = some d → getv ρ j = some e → σ[i]? = some (some (V.ref a)) → σ[j]? ≠ some (some (V.ref a))

theorem OwnAt.grow {K : PySem.W.Frag} {F H F' H' : Hp} (g : Grow F H F' H') {v : V} {d : D} (h : OwnAt K F H v d) : OwnAt K F' H' v d := by
  obtain ⟨a, vs, ds, e1, e2, e3, e4, e5⟩ := h
  exact ⟨a, vs, ds, e1, e2, g.hh _ _ e3, g.own _ _ e3 e4, dpAll_mono g.ff e5⟩
theorem StRep.grow {K : PySem.W.Frag} {G : Ent} {O : List Nat} {σ : Sg} {H F H' F' : Hp} {ρ : Rho} (s : StRep K G O σ H ρ F) (g : Grow F H F' H') : StRep K G O σ H' ρ F' where
  len := s.len
  g := s.g.trans g
  dat := fun i d h e => let ⟨v, a, b⟩ := s.dat i d h e; ⟨v, a, b.mono g.ff⟩
  own := fun i d h e => let ⟨v, a, b⟩ := s.own i d h e; ⟨v, a, b.grow g⟩
  new := s.new
  dis := s.dis
theorem StRep.sub {K : PySem.W.Frag} {G : Ent} {O : List Nat} {σ : Sg} {H F : Hp} {ρ : Rho} (s : StRep K G O σ H ρ F) : Same F H := s.g.fh

/-- own lists are given up: from now on they are data like other data -/
theorem StRep.freeze {K : PySem.W.Frag} {G : Ent} {O O2 : List Nat} {σ : Sg} {H F : Hp} {ρ : Rho} (s : StRep K G O σ H ρ F) (h2 : ∀ i ∈ O2, i ∈ O) : ∃ F', Same F F' ∧ StRep K G O2 σ H ρ F' := by
  classical
  let p : Addr → Prop := fun b => ∃ i d, i ∈ O ∧ i ∉ O2 ∧ getv ρ i = some d ∧ σ[i]? = some (some (V.ref b))
  let F' : Hp := fun b => if p b then H b else F b
  have ff : Same F F' := fun b o e => by
    show (if p b then H b else F b) = some o
    by_cases hp : p b
    · rw [if_pos hp]; exact s.sub b o e
    · rw [if_neg hp]; exact e
  have fh : Same F' H := fun b o e => by
    have e : (if p b then H b else F b) = some o := e
    by_cases hp : p b
    · rw [if_pos hp] at e; exact e
    · rw [if_neg hp] at e; exact s.sub b o e
  have keepOwn : ∀ b o, G.H0 b = some o → G.F0 b = none → F' b = none := fun b o e n => by
    show (if p b then H b else F b) = none
    by_cases hp : p b
    · obtain ⟨i, d, hi, _, hd, hs⟩ := hp
      rw [s.new i d b hi hd hs] at e; cases e
    · rw [if_neg hp]; exact s.g.own b o e n
  have ownOut : ∀ i d, i ∈ O → i ∈ O2 → getv ρ i = some d → ∀ a, σ[i]? = some (some (V.ref a)) → F a = none → F' a = none := fun i d hi hi2 hd a hs n => by
    show (if p a then H a else F a) = none
    by_cases hp : p a
    · obtain ⟨j, e, hj, hj2, he, hsj⟩ := hp
      exact absurd hsj (s.dis i j d e a hi hj (fun z => hj2 (z ▸ hi2)) hd he hs)
    · rw [if_neg hp]; exact n
  refine ⟨F', ff, ⟨s.len, ⟨same_trans s.g.ff ff, s.g.hh, fh, keepOwn⟩, fun i d hi hd => ?_, fun i d hi hd => ?_, fun i d a hi => s.new i d a (h2 i hi), fun i j d e a hi hj => s.dis i j d e a (h2 i hi) (h2 j hj)⟩⟩
  · by_cases hO : i ∈ O
    · obtain ⟨v, hs, a, vs, ds, rfl, rfl, e3, e4, e5⟩ := s.own i d hO hd
      refine ⟨_, hs, .dat (.lst (.inl (.inl ?_)) (dpAll_mono ff e5))⟩
      show (if p a then H a else F a) = some (.lst vs)
      rw [if_pos ⟨i, _, hO, hi, hd, hs⟩]; exact e3
    · obtain ⟨v, hs, r⟩ := s.dat i d hO hd
      exact ⟨v, hs, r.mono ff⟩
  · obtain ⟨v, hs, a, vs, ds, rfl, rfl, e3, e4, e5⟩ := s.own i d (h2 i hi) hd
    exact ⟨_, hs, a, vs, ds, rfl, rfl, e3, ownOut i _ (h2 i hi) hi hd a hs e4, dpAll_mono ff e5⟩
end DL

/-! DL, part 2: expressions. -/
namespace DL
open PySem PySem.Spec PyProof.Rows L2

abbrev EF := Rho → Option D
abbrev AF := Rho → Option (List D)
abbrev BF := Rho → Option Bool

/-- an expression whose value is data -/
def DE (X : Cx) (O : List Nat) (e : Expr) (f : EF) : Prop := ∃ t, PE X e t ∧ ∀ (G : Ent) (σ : Sg) (H F : Hp) (ρ : Rho) (d : D) (Q : VK),
  StRep X.K G O σ H ρ F → f ρ = some d → (∀ v H' F', Grow F H F' H' → Rep X.K F' v d → Q v H') → t σ H Q
/-- what may be read: data, or an own list -/
def RepR (K : PySem.W.Frag) (F H : Hp) (v : V) (d : D) : Prop := Rep K F v d ∨ ∃ a vs ds, v = .ref a ∧ d = .list ds ∧ SqL K H a vs ∧ DpAll K F vs ds
def DR (X : Cx) (O : List Nat) (e : Expr) (f : EF) : Prop := ∃ t, PE X e t ∧ ∀ (G : Ent) (σ : Sg) (H F : Hp) (ρ : Rho) (d : D) (Q : VK),
  StRep X.K G O σ H ρ F → f ρ = some d → (∀ v H' F', Grow F H F' H' → RepR X.K F' H' v d → Q v H') → t σ H Q
/-- an expression that gives a new list -/
def DN (X : Cx) (O : List Nat) (e : Expr) (f : AF) : Prop := ∃ t, PE X e t ∧ ∀ (G : Ent) (σ : Sg) (H F : Hp) (ρ : Rho) (ds : List D) (Q : VK),
  StRep X.K G O σ H ρ F → f ρ = some ds → (∀ a vs H' F', Grow F H F' H' → H a = none → H' a = some (.lst vs) → F' a = none → DpAll X.K F' vs ds → Q (.ref a) H') → t σ H Q
/-- arguments -/
def RepAll (K : PySem.W.Frag) (F : Hp) : List V → List D → Prop := Paired (Rep K F)
def DA (X : Cx) (O : List Nat) (es : List Expr) (f : AF) : Prop := (∃ t, PA X es t ∧ ∀ (G : Ent) (σ : Sg) (H F : Hp) (ρ : Rho) (ds : List D) (Q : List V → Hp → Prop),
  StRep X.K G O σ H ρ F → f ρ = some ds → (∀ vs H' F', Grow F H F' H' → RepAll X.K F' vs ds → Q vs H') → t σ H Q) ∧ ∀ ρ ds, f ρ = some ds → ds.length = es.length
/-- a test -/
def DT (X : Cx) (O : List Nat) (e : Expr) (f : BF) : Prop := ∃ t, PT X e t ∧ ∀ (G : Ent) (σ : Sg) (H F : Hp) (ρ : Rho) (b : Bool) (Q : Bool → Hp → Prop),
  StRep X.K G O σ H ρ F → f ρ = some b → (∀ H' F', Grow F H F' H' → Q b H') → t σ H Q
def DW (X : Cx) (O : List Nat) (e : Expr) (f : BF) : Prop := ∃ t, PW X e t ∧ ∀ (G : Ent) (σ : Sg) (H F : Hp) (ρ : Rho) (b : Bool) (Q : Bool → Hp → Prop),
  StRep X.K G O σ H ρ F → f ρ = some b → (∀ H' F', Grow F H F' H' → Q b H') → t σ H Q

/-! ### facts about Rep -/
section
variable {K : PySem.W.Frag} {F H : Hp} {v : V}
theorem RepAll.mono {F' : Hp} (e : Same F F') : ∀ {vs : List V} {ds : List D}, RepAll K F vs ds → RepAll K F' vs ds
  | _, _, .nil => .nil
  | _, _, .cons h t => .cons (h.mono e) (RepAll.mono e t)
theorem Rep.int_inv {i : Int} (h : Rep K F v (.int i)) : v = .int i := by cases h with | dat h => cases h; rfl
theorem Rep.bl_inv {b : Bool} (h : Rep K F v (.bool b)) : v = .bl b := by cases h with | dat h => cases h; rfl
theorem Rep.non_inv (h : Rep K F v .none) : v = .non := by cases h with | dat h => cases h; rfl
theorem Rep.lst_inv {ds : List D} (h : Rep K F v (.list ds)) : ∃ a vs, v = .ref a ∧ SqL K F a vs ∧ DpAll K F vs ds := by
  cases h with | dat h => cases h with | lst a b => exact ⟨_, _, rfl, a, b⟩
theorem Rep.tup_inv {ds : List D} (h : Rep K F v (.tuple ds)) : ∃ a vs, v = .ref a ∧ SqT K F a vs ∧ DpAll K F vs ds := by
  cases h with | dat h => cases h with | tup a b => exact ⟨_, _, rfl, a, b⟩
theorem RepR.lst_inv {ds : List D} (hs : Same F H) (h : RepR K F H v (.list ds)) : ∃ a vs, v = .ref a ∧ SqL K H a vs ∧ DpAll K F vs ds := by
  rcases h with h | ⟨a, vs, ds', rfl, e, h1, h2⟩
  · obtain ⟨a, vs, rfl, h1, h2⟩ := h.lst_inv
    exact ⟨a, vs, rfl, hs.seq h1, h2⟩
  · cases e; exact ⟨a, vs, rfl, h1, h2⟩
theorem RepR.tup_inv {ds : List D} (h : RepR K F H v (.tuple ds)) : ∃ a vs, v = .ref a ∧ SqT K F a vs ∧ DpAll K F vs ds := by
  rcases h with h | ⟨a, vs, ds', rfl, e, h1, h2⟩
  · exact h.tup_inv
  · cases e
theorem RepR.grow {F' H' : Hp} (g : Grow F H F' H') {d : D} : RepR K F H v d → RepR K F' H' v d
  | .inl h => .inl (h.mono g.ff)
  | .inr ⟨a, vs, ds, e1, e2, h1, h2⟩ => .inr ⟨a, vs, ds, e1, e2, g.hh.seq h1, dpAll_mono g.ff h2⟩
theorem shaped_dat {d : D} (h : SeqAt.shaped d = true) (r : Rep K F v d) : Dp K F v d := by
  cases r with
  | dat h => exact h
  | exc q => cases h
theorem RepR.dp (hs : Same F H) {d : D} (h : SeqAt.shaped d = true) (r : RepR K F H v d) : Dp K H v d := by
  rcases r with r | ⟨a, vs, ds, rfl, rfl, h1, h2⟩
  · exact dp_mono hs (shaped_dat h r)
  · exact .lst h1 (dpAll_mono hs h2)
theorem dpA_length {vs : List V} {ds : List D} : DpAll K F vs ds → vs.length = ds.length := by
  intro h
  induction ds generalizing vs with
  | nil => cases h; rfl
  | cons d ds ih => cases h with | cons a b => simp [ih b]
theorem dpA_get {vs : List V} {ds : List D} {i : Nat} {d : D} (h : DpAll K F vs ds) (e : ds[i]? = some d) : ∃ v, vs[i]? = some v ∧ Dp K F v d := by
  induction ds generalizing vs i with
  | nil => simp at e
  | cons c ds ih =>
    cases h with
    | cons a b =>
      cases i with
      | zero => simp at e; subst e; exact ⟨_, rfl, a⟩
      | succ i => simp at e; obtain ⟨v, h1, h2⟩ := ih b e; exact ⟨v, by simpa using h1, h2⟩
theorem dpA_get2 {vs : List V} {ds : List D} {i : Nat} {v : V} (h : DpAll K F vs ds) (e : vs[i]? = some v) : ∃ d, ds[i]? = some d ∧ Dp K F v d := by
  induction ds generalizing vs i with
  | nil => cases h; simp at e
  | cons c ds ih =>
    cases h with
    | cons a b =>
      cases i with
      | zero => simp at e; subst e; exact ⟨_, rfl, a⟩
      | succ i => simp at e; obtain ⟨v, h1, h2⟩ := ih b e; exact ⟨v, by simpa using h1, h2⟩
theorem dpA_append {vs ws : List V} {ds es : List D} (h : DpAll K F vs ds) (h' : DpAll K F ws es) : DpAll K F (vs ++ ws) (ds ++ es) := by
  induction ds generalizing vs with
  | nil => cases h; exact h'
  | cons c ds ih => cases h with | cons a b => exact .cons a (ih b)
theorem dpA_take {vs : List V} {ds : List D} (n : Nat) (h : DpAll K F vs ds) : DpAll K F (vs.take n) (ds.take n) := by
  induction ds generalizing vs n with
  | nil => cases h; cases n <;> exact .nil
  | cons c ds ih =>
    cases h with
    | cons a b => cases n with
      | zero => exact .nil
      | succ n => exact .cons a (ih n b)
theorem dpA_drop {vs : List V} {ds : List D} (n : Nat) (h : DpAll K F vs ds) : DpAll K F (vs.drop n) (ds.drop n) := by
  induction ds generalizing vs n with
  | nil => cases h; cases n <;> exact .nil
  | cons c ds ih =>
    cases h with
    | cons a b => cases n with
      | zero => exact .cons a b
      | succ n => exact ih n b
theorem dpA_set {vs : List V} {ds : List D} (i : Nat) {v : V} {d : D} (h : DpAll K F vs ds) (r : Dp K F v d) : DpAll K F (vs.set i v) (ds.set i d) := by
  induction ds generalizing vs i with
  | nil => cases h; cases i <;> exact .nil
  | cons c ds ih =>
    cases h with
    | cons a b => cases i with
      | zero => exact .cons r b
      | succ i => exact .cons a (ih i b)
theorem dpA_rev {vs : List V} {ds : List D} (h : DpAll K F vs ds) : DpAll K F vs.reverse ds.reverse := by
  induction ds generalizing vs with
  | nil => cases h; exact .nil
  | cons c ds ih =>
    cases h with
    | cons a b => rw [List.reverse_cons, List.reverse_cons]; exact dpA_append (ih b) (.cons a .nil)
theorem RepAll.length {vs : List V} {ds : List D} (h : RepAll K F vs ds) : vs.length = ds.length := Paired.length h
end

section
variable {X : Cx} {O : List Nat} {e a1 a2 : Expr} {es : List Expr} {f g : EF} {fa : AF} {pos : Pos}

def vE (i : Nat) : EF := fun ρ => getv ρ i
def cE (d : D) : EF := fun _ => some d
def lE (fa : AF) : EF := fun ρ => (fa ρ).map .list
/-! ### from one judgement to another -/
theorem DE_r (h : DE X O e f) : DR X O e f := by
  obtain ⟨t, p, r⟩ := h
  exact ⟨t, p, fun G σ H F ρ d Q s hf q => r G σ H F ρ d Q s hf fun v H' F' g x => q v H' F' g (.inl x)⟩
theorem DN_e (h : DN X O e fa) : DE X O e (lE fa) := by
  obtain ⟨t, p, r⟩ := h
  refine ⟨t, p, fun G σ H F ρ d Q s hf q => ?_⟩
  unfold lE at hf
  cases e1 : fa ρ with
  | none => simp [e1] at hf
  | some ds =>
    simp [e1] at hf; subst hf
    refine r G σ H F ρ ds Q s e1 fun a vs H' F' g hn ha hfa hd => ?_
    refine q (.ref a) H' (upd F' a (.lst vs)) ⟨same_trans g.ff (same_upd hfa), g.hh, fun b o x => ?_, fun b o x n => ?_⟩ (.dat (.lst (.inl (.inl upd_same)) (dpAll_mono (same_upd hfa) hd)))
    · by_cases hb : b = a
      · subst hb; rw [upd_same] at x; rw [← x]; exact ha
      · rw [upd_ne hb] at x; exact g.fh b o x
    · rw [upd_ne (ne_of_none x hn)]; exact g.own b o x n
theorem DN_r (h : DN X O e fa) : DR X O e (lE fa) := DE_r (DN_e h)

/-! ### names and constants -/
theorem de_var (i : Nat) {x : Str} (hO : O.contains i = false) (h : PE X (.Name x pos) (tVar i)) : DE X O (.Name x pos) (vE i) := by
  refine ⟨_, h, fun G σ H F ρ d Q s hf q => ?_⟩
  have hO' : i ∉ O := fun z => by rw [List.contains_iff_mem.mpr z] at hO; cases hO
  obtain ⟨v, hs, r⟩ := s.dat i d hO' hf
  exact ⟨v, hs, q v H F (Grow.refl s.sub) r⟩
theorem dr_var (i : Nat) {x : Str} (h : PE X (.Name x pos) (tVar i)) : DR X O (.Name x pos) (vE i) := by
  refine ⟨_, h, fun G σ H F ρ d Q s hf q => ?_⟩
  by_cases hO : i ∈ O
  · obtain ⟨v, hs, a, vs, ds, rfl, rfl, h1, h2, h3⟩ := s.own i d hO hf
    exact ⟨_, hs, q _ H F (Grow.refl s.sub) (.inr ⟨a, vs, ds, rfl, rfl, .inl (.inl h1), h3⟩)⟩
  · obtain ⟨v, hs, r⟩ := s.dat i d hO hf
    exact ⟨v, hs, q v H F (Grow.refl s.sub) (.inl r)⟩
theorem de_int {i : Int} {j} : DE X O (.Constant (.int i) j pos) (cE (.int i)) :=
  ⟨_, pe_int, fun G σ H F ρ d Q s hf q => by cases hf; exact q _ H F (Grow.refl s.sub) (.dat (.int _))⟩
theorem de_bl {b : Bool} {j} : DE X O (.Constant (.bool b) j pos) (cE (.bool b)) :=
  ⟨_, pe_bl, fun G σ H F ρ d Q s hf q => by cases hf; exact q _ H F (Grow.refl s.sub) (.dat (.bl _))⟩
theorem de_non {j} : DE X O (.Constant .none j pos) (cE .none) :=
  ⟨_, pe_non, fun G σ H F ρ d Q s hf q => by cases hf; exact q _ H F (Grow.refl s.sub) (.dat .non)⟩

/-! ### two operands -/
def o2 (op : D → D → Option D) (f g : EF) : EF := fun ρ => (f ρ).bind fun x => (g ρ).bind fun y => op x y
def o1 (op : D → Option D) (f : EF) : EF := fun ρ => (f ρ).bind op
/-- the operator's answer on represented values -/
def OpD (X : Cx) (r : R2) (op : D → D → Option D) : Prop := ∀ (F H : Hp) (x y : V) (dx dy d : D) (Q : VK), Same F H → Rep X.K F x dx → Rep X.K F y dy → op dx dy = some d →
  (∀ v H' F', Grow F H F' H' → Rep X.K F' v d → Q v H') → r x y H Q
def OpDR (X : Cx) (r : R2) (op : D → D → Option D) : Prop := ∀ (F H : Hp) (x y : V) (dx dy d : D) (Q : VK), Same F H → RepR X.K F H x dx → RepR X.K F H y dy → op dx dy = some d →
  (∀ v H' F', Grow F H F' H' → Rep X.K F' v d → Q v H') → r x y H Q
theorem OpD.tOp {r : R2} {op : D → D → Option D} (ho : OpD X r op) {ta tb : TE}
    (ha : ∀ (G : Ent) (σ : Sg) (H F : Hp) (ρ : Rho) (d : D) (Q : VK), StRep X.K G O σ H ρ F → f ρ = some d → (∀ v H' F', Grow F H F' H' → Rep X.K F' v d → Q v H') → ta σ H Q)
    (hb : ∀ (G : Ent) (σ : Sg) (H F : Hp) (ρ : Rho) (d : D) (Q : VK), StRep X.K G O σ H ρ F → g ρ = some d → (∀ v H' F', Grow F H F' H' → Rep X.K F' v d → Q v H') → tb σ H Q)
    (G : Ent) (σ : Sg) (H F : Hp) (ρ : Rho) (d : D) (Q : VK) (s : StRep X.K G O σ H ρ F) (hf : o2 op f g ρ = some d) (q : ∀ v H' F', Grow F H F' H' → Rep X.K F' v d → Q v H') : L2.tOp r ta tb σ H Q := by
  unfold o2 at hf
  cases e1 : f ρ with
  | none => simp [e1] at hf
  | some x =>
    cases e2 : g ρ with
    | none => simp [e1, e2] at hf
    | some y =>
      simp [e1, e2] at hf
      refine ha G σ H F ρ x _ s e1 fun vx H1 F1 g1 r1 => ?_
      refine hb G σ H1 F1 ρ y _ (s.grow g1) e2 fun vy H2 F2 g2 r2 => ?_
      exact ho F2 H2 vx vy x y d Q (g2.fh) (r1.mono g2.ff) r2 hf fun v H3 F3 g3 r3 => q v H3 F3 (g1.trans (g2.trans g3)) r3
theorem OpDR.tOp {r : R2} {op : D → D → Option D} (ho : OpDR X r op) {ta tb : TE}
    (ha : ∀ (G : Ent) (σ : Sg) (H F : Hp) (ρ : Rho) (d : D) (Q : VK), StRep X.K G O σ H ρ F → f ρ = some d → (∀ v H' F', Grow F H F' H' → RepR X.K F' H' v d → Q v H') → ta σ H Q)
    (hb : ∀ (G : Ent) (σ : Sg) (H F : Hp) (ρ : Rho) (d : D) (Q : VK), StRep X.K G O σ H ρ F → g ρ = some d → (∀ v H' F', Grow F H F' H' → RepR X.K F' H' v d → Q v H') → tb σ H Q)
    (G : Ent) (σ : Sg) (H F : Hp) (ρ : Rho) (d : D) (Q : VK) (s : StRep X.K G O σ H ρ F) (hf : o2 op f g ρ = some d) (q : ∀ v H' F', Grow F H F' H' → Rep X.K F' v d → Q v H') : L2.tOp r ta tb σ H Q := by
  unfold o2 at hf
  cases e1 : f ρ with
  | none => simp [e1] at hf
  | some x =>
    cases e2 : g ρ with
    | none => simp [e1, e2] at hf
    | some y =>
      simp [e1, e2] at hf
      refine ha G σ H F ρ x _ s e1 fun vx H1 F1 g1 r1 => ?_
      refine hb G σ H1 F1 ρ y _ (s.grow g1) e2 fun vy H2 F2 g2 r2 => ?_
      exact ho F2 H2 vx vy x y d Q (g2.fh) (r1.grow g2) r2 hf fun v H3 F3 g3 r3 => q v H3 F3 (g1.trans (g2.trans g3)) r3
theorem de_op {op : Operator} {r : R2} {o : D → D → Option D} (h : OpR X (binaryOp op) r) (ho : OpD X r o) (ha : DE X O a1 f) (hb : DE X O a2 g) : DE X O (.BinOp a1 op a2 pos) (o2 o f g) := by
  obtain ⟨ta, pa, ra⟩ := ha
  obtain ⟨tb, pb, rb⟩ := hb
  exact ⟨_, pe_op h pa pb, fun G σ H F ρ d Q s hf q => OpD.tOp ho ra rb G σ H F ρ d Q s hf q⟩

/-! ### arithmetic -/
def addD : D → D → Option D
  | .int a, .int b => some (.int (a + b))
  | _, _ => none
def subD : D → D → Option D
  | .int a, .int b => some (.int (a - b))
  | _, _ => none
def mulB (a b : Int) : Bool := !(decide (Builtin.Int.intBits a > shortFactorBits) && decide (Builtin.Int.intBits b > shortFactorBits) && Builtin.Int.intTooBig (Builtin.Int.intBits a + Builtin.Int.intBits b))
def mulD : D → D → Option D
  | .int a, .int b => if mulB a b = true then some (.int (a * b)) else none
  | _, _ => none
def divB (a b : Int) : Bool := !decide (b = 0) && !Builtin.divisionGoesByPylong a b
def fdivD : D → D → Option D
  | .int a, .int b => if divB a b = true then some (.int (a.fdiv b)) else none
  | _, _ => none
def modD : D → D → Option D
  | .int a, .int b => if b = 0 then none else some (.int (a.fmod b))
  | _, _ => none
def powD : D → D → Option D
  | .int a, .int b => if 0 ≤ b ∧ b ≤ 1000000 ∧ a.natAbs < 2 ^ 64 then some (.int (a ^ b.toNat)) else none
  | _, _ => none
def intOp (C : Int → Int → Prop) (k : Int → Int → Int) : R2 := rI C fun i j => .int (k i j)
theorem opD_int {C : Int → Int → Prop} {k : Int → Int → Int} {op : D → D → Option D} (h : ∀ x y d, op x y = some d → ∃ i j, x = .int i ∧ y = .int j ∧ C i j ∧ d = .int (k i j)) : OpD X (rI C fun i j => .int (k i j)) op := by
  intro F H x y dx dy d Q hs rx ry he q
  obtain ⟨i, j, rfl, rfl, hc, rfl⟩ := h _ _ _ he
  exact ⟨i, j, rx.int_inv, ry.int_inv, hc, q _ H F (Grow.refl hs) (.dat (.int _))⟩
theorem opD_int0 {k : Int → Int → Int} {op : D → D → Option D} (h : ∀ x y d, op x y = some d → ∃ i j, x = .int i ∧ y = .int j ∧ d = .int (k i j)) : OpD X (rI0 fun i j => .int (k i j)) op := by
  intro F H x y dx dy d Q hs rx ry he q
  obtain ⟨i, j, rfl, rfl, rfl⟩ := h _ _ _ he
  exact ⟨i, j, rx.int_inv, ry.int_inv, q _ H F (Grow.refl hs) (.dat (.int _))⟩
theorem de_add (ha : DE X O a1 f) (hb : DE X O a2 g) : DE X O (.BinOp a1 .Add a2 pos) (o2 addD f g) :=
  de_op op_add (opD_int0 fun x y d h => by cases x <;> cases y <;> simp [addD] at h; exact ⟨_, _, rfl, rfl, h.symm⟩) ha hb
theorem de_sub (ha : DE X O a1 f) (hb : DE X O a2 g) : DE X O (.BinOp a1 .Sub a2 pos) (o2 subD f g) :=
  de_op op_sub (opD_int0 fun x y d h => by cases x <;> cases y <;> simp [subD] at h; exact ⟨_, _, rfl, rfl, h.symm⟩) ha hb
theorem mulB_ok {a b : Int} (h : mulB a b = true) : IntMulOk a b := by
  unfold IntMulOk
  intro z
  unfold mulB at h
  rw [z] at h
  cases h
theorem op_mulB : OpR X (binaryOp .Mult) (rI (fun a b => mulB a b = true) fun i j => .int (i * j)) := opI fun _ _ _ _ _ _ _ hc q => mul_int q (mulB_ok hc)
theorem de_mul (ha : DE X O a1 f) (hb : DE X O a2 g) : DE X O (.BinOp a1 .Mult a2 pos) (o2 mulD f g) :=
  de_op op_mulB (opD_int fun x y d h => by
    cases x <;> cases y <;> simp [mulD] at h
    exact ⟨_, _, rfl, rfl, h.1, h.2.symm⟩) ha hb
theorem divB_ok {a b : Int} (h : divB a b = true) : b ≠ 0 ∧ Builtin.divisionGoesByPylong a b = false := by
  unfold divB at h
  rw [Bool.and_eq_true] at h
  exact ⟨by simpa using h.1, by simpa using h.2⟩
theorem op_fdivB : OpR X (binaryOp .FloorDiv) (rI (fun a b => divB a b = true) fun i j => .int (i.fdiv j)) := opI fun _ _ _ _ _ _ _ hc q => floordiv_int (divB_ok hc).1 q (.inl (divB_ok hc).2)
theorem de_fdiv (ha : DE X O a1 f) (hb : DE X O a2 g) : DE X O (.BinOp a1 .FloorDiv a2 pos) (o2 fdivD f g) :=
  de_op op_fdivB (opD_int fun x y d h => by
    cases x <;> cases y <;> simp [fdivD] at h
    exact ⟨_, _, rfl, rfl, h.1, h.2.symm⟩) ha hb
theorem de_mod (ha : DE X O a1 f) (hb : DE X O a2 g) : DE X O (.BinOp a1 .Mod a2 pos) (o2 modD f g) :=
  de_op op_modN (opD_int fun x y d h => by
    cases x <;> cases y <;> simp [modD] at h
    exact ⟨_, _, rfl, rfl, h.1, h.2.symm⟩) ha hb
theorem de_pow (ha : DE X O a1 f) (hb : DE X O a2 g) : DE X O (.BinOp a1 .Pow a2 pos) (o2 powD f g) :=
  de_op op_pow (opD_int fun x y d h => by
    cases x <;> cases y <;> simp [powD] at h
    exact ⟨_, _, rfl, rfl, h.1, h.2.symm⟩) ha hb
def negD : D → Option D
  | .int a => some (.int (-a))
  | _ => none
theorem de_neg (ha : DE X O e f) : DE X O (.UnaryOp .USub e pos) (o1 negD f) := by
  obtain ⟨ta, pa, ra⟩ := ha
  refine ⟨_, pe_un un_neg pa, fun G σ H F ρ d Q s hf q => ?_⟩
  unfold o1 at hf
  cases e1 : f ρ with
  | none => simp [e1] at hf
  | some x =>
    simp [e1] at hf
    refine ra G σ H F ρ x _ s e1 fun vx H1 F1 g1 r1 => ?_
    cases x <;> simp [negD] at hf
    subst hf
    exact ⟨_, r1.int_inv, q _ H1 F1 g1 (.dat (.int _))⟩

/-! ### comparisons -/
/-- a comparison: both as a value and as a test -/
def DC (X : Cx) (O : List Nat) (op : CmpOp) (a b : Expr) (f : EF) : Prop := ∃ r ta tb, OpR X (compareOp op) r ∧ PE X a ta ∧ PE X b tb ∧
  ∀ (G : Ent) (σ : Sg) (H F : Hp) (ρ : Rho) (d : D) (Q : VK), StRep X.K G O σ H ρ F → f ρ = some d → (∀ v H' F', Grow F H F' H' → Rep X.K F' v d → Q v H') → L2.tOp r ta tb σ H Q
theorem de_cmp {op : CmpOp} (h : DC X O op a1 a2 f) (hm : behindInMarks op a2 = false) : DE X O (.Compare a1 [op] [a2] pos) f := by
  obtain ⟨r, ta, tb, ho, pa, pb, rd⟩ := h
  exact ⟨_, pe_cmpR ho pa pb hm, rd⟩
def tb (f : EF) : BF := fun ρ => match f ρ with
  | some (.bool b) => some b
  | _ => none
theorem tb_some {ρ : Rho} {b : Bool} (h : tb f ρ = some b) : f ρ = some (.bool b) := by
  unfold tb at h
  cases e : f ρ with
  | none => simp [e] at h
  | some d => cases d <;> simp [e] at h; subst h; rfl
theorem dt_cmp {op : CmpOp} (h : DC X O op a1 a2 f) (hm : behindInMarks op a2 = false) : DT X O (.Compare a1 [op] [a2] pos) (tb f) := by
  obtain ⟨r, ta, tb, ho, pa, pb, rd⟩ := h
  refine ⟨_, pt_cmpR ho pa pb hm, fun G σ H F ρ b Q s hf q => ?_⟩
  exact rd G σ H F ρ (.bool b) _ s (tb_some hf) fun v H' F' g r => ⟨b, r.bl_inv, q H' F' g⟩
theorem dt_val {t : EF} (h : DE X O e t) (he : ∀ whole, isTrue e X.env whole = (do let v ← whole; standAt e.pos; holding [v] (truthy v)) := by intro _; rfl) : DT X O e (tb t) := by
  obtain ⟨te, p, rd⟩ := h
  refine ⟨_, pt_val p he, fun G σ H F ρ b Q s hf q => ?_⟩
  exact rd G σ H F ρ (.bool b) _ s (tb_some hf) fun v H' F' g r => ⟨b, r.bl_inv, q H' F' g⟩
theorem dc_of {op : CmpOp} {r : R2} {o : D → D → Option D} (h : OpR X (compareOp op) r) (ho : OpD X r o) (ha : DE X O a1 f) (hb : DE X O a2 g) : DC X O op a1 a2 (o2 o f g) := by
  obtain ⟨ta, pa, ra⟩ := ha
  obtain ⟨tb, pb, rb⟩ := hb
  exact ⟨r, ta, tb, h, pa, pb, fun G σ H F ρ d Q s hf q => OpD.tOp ho ra rb G σ H F ρ d Q s hf q⟩
theorem dc_ofR {op : CmpOp} {r : R2} {o : D → D → Option D} (h : OpR X (compareOp op) r) (ho : OpDR X r o) (ha : DR X O a1 f) (hb : DR X O a2 g) : DC X O op a1 a2 (o2 o f g) := by
  obtain ⟨ta, pa, ra⟩ := ha
  obtain ⟨tb, pb, rb⟩ := hb
  exact ⟨r, ta, tb, h, pa, pb, fun G σ H F ρ d Q s hf q => OpDR.tOp ho ra rb G σ H F ρ d Q s hf q⟩
def cmpD (k : Int → Int → Bool) : D → D → Option D
  | .int a, .int b => some (.bool (k a b))
  | _, _ => none
abbrev ltD := cmpD fun a b => decide (a < b)
abbrev leD := cmpD fun a b => decide (a ≤ b)
abbrev gtD := cmpD fun a b => decide (b < a)
abbrev geD := cmpD fun a b => decide (b ≤ a)
theorem opD_cmp {k : Int → Int → Bool} : OpD X (rI0 fun i j => .bl (k i j)) (cmpD k) := by
  intro F H x y dx dy d Q hs rx ry he q
  cases dx <;> cases dy <;> simp [cmpD] at he
  subst he
  exact ⟨_, _, rx.int_inv, ry.int_inv, q _ H F (Grow.refl hs) (.dat (.bl _))⟩
theorem dc_lt (ha : DE X O a1 f) (hb : DE X O a2 g) : DC X O .Lt a1 a2 (o2 ltD f g) := dc_of op_lt opD_cmp ha hb
theorem dc_le (ha : DE X O a1 f) (hb : DE X O a2 g) : DC X O .LtE a1 a2 (o2 leD f g) := dc_of op_le opD_cmp ha hb
theorem dc_gt (ha : DE X O a1 f) (hb : DE X O a2 g) : DC X O .Gt a1 a2 (o2 gtD f g) := dc_of op_gt opD_cmp ha hb
theorem dc_ge (ha : DE X O a1 f) (hb : DE X O a2 g) : DC X O .GtE a1 a2 (o2 geD f g) := dc_of op_ge opD_cmp ha hb
def eqD : D → D → Option D := fun x y => if SeqAt.shaped x = true ∧ SeqAt.shaped y = true then some (.bool (PyData.eqv x y)) else none
def neD : D → D → Option D := fun x y => if SeqAt.shaped x = true ∧ SeqAt.shaped y = true then some (.bool (!PyData.eqv x y)) else none
theorem dc_eq (hu : X.A.units + 64 < cLine) (ha : DR X O a1 f) (hb : DR X O a2 g) : DC X O .Eq a1 a2 (o2 eqD f g) := by
  refine dc_ofR (op_eqD hu) (fun F H x y dx dy d Q hs rx ry he q => ?_) ha hb
  unfold eqD at he
  by_cases h : SeqAt.shaped dx = true ∧ SeqAt.shaped dy = true
  · rw [if_pos h] at he; cases he
    exact ⟨dx, dy, rx.dp hs h.1, ry.dp hs h.2, h.1, h.2, q _ H F (Grow.refl hs) (.dat (.bl _))⟩
  · rw [if_neg h] at he; cases he
theorem dc_ne (hu : X.A.units + 64 < cLine) (ha : DR X O a1 f) (hb : DR X O a2 g) : DC X O .NotEq a1 a2 (o2 neD f g) := by
  refine dc_ofR (op_neD hu) (fun F H x y dx dy d Q hs rx ry he q => ?_) ha hb
  unfold neD at he
  by_cases h : SeqAt.shaped dx = true ∧ SeqAt.shaped dy = true
  · rw [if_pos h] at he; cases he
    exact ⟨dx, dy, rx.dp hs h.1, ry.dp hs h.2, h.1, h.2, q _ H F (Grow.refl hs) (.dat (.bl _))⟩
  · rw [if_neg h] at he; cases he
def inD : D → D → Option D
  | x, .list ds => if SeqAt.shaped x = true ∧ SeqAt.shaped (.list ds) = true then some (.bool (ds.any fun z => PyData.eqv z x)) else none
  | _, _ => none
def ninD : D → D → Option D
  | x, .list ds => if SeqAt.shaped x = true ∧ SeqAt.shaped (.list ds) = true then some (.bool (!ds.any fun z => PyData.eqv z x)) else none
  | _, _ => none
theorem dc_in (hu : X.A.units + 65 < cLine) (ha : DR X O a1 f) (hb : DR X O a2 g) : DC X O .In a1 a2 (o2 inD f g) := by
  refine dc_ofR (op_inD hu) (fun F H x y dx dy d Q hs rx ry he q => ?_) ha hb
  cases dy with
  | list ds =>
    simp only [inD] at he
    by_cases h : SeqAt.shaped dx = true ∧ SeqAt.shaped (.list ds) = true
    · rw [if_pos h] at he; cases he
      exact ⟨dx, ds, rx.dp hs h.1, ry.dp hs h.2, h.1, h.2, q _ H F (Grow.refl hs) (.dat (.bl _))⟩
    · rw [if_neg h] at he; cases he
  | _ => simp [inD] at he
theorem dc_nin (hu : X.A.units + 65 < cLine) (ha : DR X O a1 f) (hb : DR X O a2 g) : DC X O .NotIn a1 a2 (o2 ninD f g) := by
  refine dc_ofR (op_notInD hu) (fun F H x y dx dy d Q hs rx ry he q => ?_) ha hb
  cases dy with
  | list ds =>
    simp only [ninD] at he
    by_cases h : SeqAt.shaped dx = true ∧ SeqAt.shaped (.list ds) = true
    · rw [if_pos h] at he; cases he
      exact ⟨dx, ds, rx.dp hs h.1, ry.dp hs h.2, h.1, h.2, q _ H F (Grow.refl hs) (.dat (.bl _))⟩
    · rw [if_neg h] at he; cases he
  | _ => simp [ninD] at he
/-- is None -/
def isND (x : D) : Bool := match x with
  | .none => true
  | _ => false
def isD : D → D → Option D
  | x, .none => some (.bool (isND x))
  | _, _ => none
def isntD : D → D → Option D
  | x, .none => some (.bool (!isND x))
  | _, _ => none
theorem rep_isN {K : PySem.W.Frag} {F : Hp} {v : V} {d : D} (r : Rep K F v d) : decide (v = .non) = isND d := by
  cases r with
  | dat h => cases h <;> simp [isND]
  | exc q => simp [isND, excD]
theorem dc_is (ha : DE X O a1 f) (hb : DE X O a2 g) : DC X O .Is a1 a2 (o2 isD f g) := by
  refine dc_of op_isN (fun F H x y dx dy d Q hs rx ry he q => ?_) ha hb
  cases dy <;> simp [isD] at he
  subst he
  exact ⟨ry.non_inv, by rw [rep_isN rx]; exact q _ H F (Grow.refl hs) (.dat (.bl _))⟩
theorem dc_isnt (ha : DE X O a1 f) (hb : DE X O a2 g) : DC X O .IsNot a1 a2 (o2 isntD f g) := by
  refine dc_of op_notN (fun F H x y dx dy d Q hs rx ry he q => ?_) ha hb
  cases dy <;> simp [isntD] at he
  subst he
  exact ⟨ry.non_inv, by rw [rep_isN rx]; exact q _ H F (Grow.refl hs) (.dat (.bl _))⟩

/-! ### and, or, not; a if t else b -/
def andB (f g : BF) : BF := fun ρ => (f ρ).bind fun b => if b = true then g ρ else some false
def orB (f g : BF) : BF := fun ρ => (f ρ).bind fun b => if b = true then some true else g ρ
def notB (f : BF) : BF := fun ρ => (f ρ).map fun b => !b
def andE (f g : EF) : EF := fun ρ => (tb f ρ).bind fun b => if b = true then g ρ else some (.bool false)
def orE (f g : EF) : EF := fun ρ => (tb f ρ).bind fun b => if b = true then some (.bool true) else g ρ
def notE (f : EF) : EF := fun ρ => (tb f ρ).map fun b => .bool (!b)
def ifE (c : BF) (f g : EF) : EF := fun ρ => (c ρ).bind fun b => if b = true then f ρ else g ρ
variable {c c' : BF} {rest : List Expr}
theorem dw_t (h : DW X O e c) : DT X O e c := let ⟨t, p, r⟩ := h; ⟨t, p.pt, r⟩
theorem dw_and1 (h : DT X O e c) : DW X O (.BoolOp .And [e] pos) c := let ⟨t, p, r⟩ := h; ⟨t, pw_and1 p, r⟩
theorem dw_or1 (h : DT X O e c) : DW X O (.BoolOp .Or [e] pos) c := let ⟨t, p, r⟩ := h; ⟨t, pw_or1 p, r⟩
theorem dw_and (ha : DT X O a1 c) (hb : DW X O (.BoolOp .And (a2 :: rest) pos) c') : DW X O (.BoolOp .And (a1 :: a2 :: rest) pos) (andB c c') := by
  obtain ⟨ta, pa, ra⟩ := ha
  obtain ⟨tb, pb, rb⟩ := hb
  refine ⟨_, pw_and pa pb, fun G σ H F ρ b Q s hf q => ?_⟩
  unfold andB at hf
  cases e : c ρ with
  | none => simp [e] at hf
  | some k =>
    simp only [e, Option.bind_some] at hf
    refine ra G σ H F ρ k _ s e fun H1 F1 g1 => ?_
    cases k with
    | true => rw [if_pos rfl] at hf ⊢; exact rb G σ H1 F1 ρ b Q (s.grow g1) hf fun H2 F2 g2 => q H2 F2 (g1.trans g2)
    | false => rw [if_neg Bool.false_ne_true] at hf ⊢; cases hf; exact q H1 F1 g1
theorem dw_or (ha : DT X O a1 c) (hb : DW X O (.BoolOp .Or (a2 :: rest) pos) c') : DW X O (.BoolOp .Or (a1 :: a2 :: rest) pos) (orB c c') := by
  obtain ⟨ta, pa, ra⟩ := ha
  obtain ⟨tb, pb, rb⟩ := hb
  refine ⟨_, pw_or pa pb, fun G σ H F ρ b Q s hf q => ?_⟩
  unfold orB at hf
  cases e : c ρ with
  | none => simp [e] at hf
  | some k =>
    simp only [e, Option.bind_some] at hf
    refine ra G σ H F ρ k _ s e fun H1 F1 g1 => ?_
    cases k with
    | true => rw [if_pos rfl] at hf ⊢; cases hf; exact q H1 F1 g1
    | false => rw [if_neg Bool.false_ne_true] at hf ⊢; exact rb G σ H1 F1 ρ b Q (s.grow g1) hf fun H2 F2 g2 => q H2 F2 (g1.trans g2)
theorem dt_not (ha : DT X O e c) : DT X O (.UnaryOp .Not e pos) (notB c) := by
  obtain ⟨ta, pa, ra⟩ := ha
  refine ⟨_, pt_not pa, fun G σ H F ρ b Q s hf q => ?_⟩
  unfold notB at hf
  cases e : c ρ with
  | none => simp [e] at hf
  | some k =>
    rw [e] at hf
    have hf : (!k) = b := Option.some.inj hf
    subst hf
    refine ra G σ H F ρ k _ s e fun H1 F1 g1 => ?_
    exact q H1 F1 g1
theorem de_one {op} (h : DE X O e f) : DE X O (.BoolOp op [e] pos) f := let ⟨t, p, r⟩ := h; ⟨t, pe_one p, r⟩
theorem de_and (ha : DE X O a1 f) (hb : DE X O (.BoolOp .And (a2 :: rest) pos) g) : DE X O (.BoolOp .And (a1 :: a2 :: rest) pos) (andE f g) := by
  obtain ⟨ta, pa, ra⟩ := ha
  obtain ⟨tb, pb, rb⟩ := hb
  refine ⟨_, pe_and pa pb, fun G σ H F ρ b Q s hf q => ?_⟩
  unfold andE at hf
  cases e : DL.tb f ρ with
  | none => simp [e] at hf
  | some k =>
    simp only [e, Option.bind_some] at hf
    refine ra G σ H F ρ (.bool k) _ s (tb_some e) fun v H1 F1 g1 r1 => ⟨k, r1.bl_inv, ?_⟩
    cases k with
    | true => rw [if_pos rfl] at hf ⊢; exact rb G σ H1 F1 ρ b Q (s.grow g1) hf fun v H2 F2 g2 => q v H2 F2 (g1.trans g2)
    | false => rw [if_neg Bool.false_ne_true] at hf ⊢; cases hf; exact q _ H1 F1 g1 (.dat (.bl _))
theorem de_or (ha : DE X O a1 f) (hb : DE X O (.BoolOp .Or (a2 :: rest) pos) g) : DE X O (.BoolOp .Or (a1 :: a2 :: rest) pos) (orE f g) := by
  obtain ⟨ta, pa, ra⟩ := ha
  obtain ⟨tb, pb, rb⟩ := hb
  refine ⟨_, pe_or pa pb, fun G σ H F ρ b Q s hf q => ?_⟩
  unfold orE at hf
  cases e : DL.tb f ρ with
  | none => simp [e] at hf
  | some k =>
    simp only [e, Option.bind_some] at hf
    refine ra G σ H F ρ (.bool k) _ s (tb_some e) fun v H1 F1 g1 r1 => ⟨k, r1.bl_inv, ?_⟩
    cases k with
    | true => rw [if_pos rfl] at hf ⊢; cases hf; exact q _ H1 F1 g1 (.dat (.bl _))
    | false => rw [if_neg Bool.false_ne_true] at hf ⊢; exact rb G σ H1 F1 ρ b Q (s.grow g1) hf fun v H2 F2 g2 => q v H2 F2 (g1.trans g2)
theorem de_not (ha : DE X O e f) : DE X O (.UnaryOp .Not e pos) (notE f) := by
  obtain ⟨ta, pa, ra⟩ := ha
  refine ⟨_, pe_not pa, fun G σ H F ρ b Q s hf q => ?_⟩
  unfold notE at hf
  cases e : DL.tb f ρ with
  | none => simp [e] at hf
  | some k =>
    simp [e] at hf
    refine ra G σ H F ρ (.bool k) _ s (tb_some e) fun v H1 F1 g1 r1 => ⟨k, r1.bl_inv, ?_⟩
    subst hf
    exact q _ H1 F1 g1 (.dat (.bl _))
theorem de_ifExp (hc : DT X O e c) (ha : DE X O a1 f) (hb : DE X O a2 g) : DE X O (.IfExp e a1 a2 pos) (ifE c f g) := by
  obtain ⟨tc, pc, rc⟩ := hc
  obtain ⟨ta, pa, ra⟩ := ha
  obtain ⟨tb, pb, rb⟩ := hb
  refine ⟨_, pe_ifExp pc pa pb, fun G σ H F ρ d Q s hf q => ?_⟩
  unfold ifE at hf
  cases e : c ρ with
  | none => simp [e] at hf
  | some k =>
    simp only [e, Option.bind_some] at hf
    refine rc G σ H F ρ k _ s e fun H1 F1 g1 => ?_
    cases k with
    | true => rw [if_pos rfl] at hf ⊢; exact ra G σ H1 F1 ρ d Q (s.grow g1) hf fun v H2 F2 g2 => q v H2 F2 (g1.trans g2)
    | false => rw [if_neg Bool.false_ne_true] at hf ⊢; exact rb G σ H1 F1 ρ d Q (s.grow g1) hf fun v H2 F2 g2 => q v H2 F2 (g1.trans g2)

/-! ### arguments, displays -/
def nilA : AF := fun _ => some []
def consA (f : EF) (r : AF) : AF := fun ρ => (f ρ).bind fun x => (r ρ).bind fun xs => some (x :: xs)
theorem da_nil : DA X O [] nilA := ⟨⟨_, pa_nil, fun G σ H F ρ ds Q s hf q => by cases hf; exact q [] H F (Grow.refl s.sub) .nil⟩, fun ρ ds h => by cases h; rfl⟩
theorem da_cons {r : AF} (he : DE X O e f) (hr : DA X O es r) (hs : starEach (e :: es) X.env = (false, eval e X.env) :: starEach es X.env := by rfl) : DA X O (e :: es) (consA f r) := by
  obtain ⟨te, pe, re⟩ := he
  obtain ⟨⟨tr, pr, rr⟩, hl⟩ := hr
  refine ⟨⟨_, pa_cons pe pr hs, fun G σ H F ρ ds Q s hf q => ?_⟩, fun ρ ds hf => ?_⟩
  · unfold consA at hf
    cases e1 : f ρ with
    | none => simp [e1] at hf
    | some x =>
      cases e2 : r ρ with
      | none => simp [e1, e2] at hf
      | some xs =>
        simp [e1, e2] at hf
        subst hf
        refine re G σ H F ρ x _ s e1 fun v H1 F1 g1 r1 => ?_
        exact rr G σ H1 F1 ρ xs _ (s.grow g1) e2 fun vs H2 F2 g2 r2 => q _ H2 F2 (g1.trans g2) (.cons (r1.mono g2.ff) r2)
  · unfold consA at hf
    cases e1 : f ρ with
    | none => simp [e1] at hf
    | some x =>
      cases e2 : r ρ with
      | none => simp [e1, e2] at hf
      | some xs =>
        simp [e1, e2] at hf
        subst hf
        simp [hl ρ xs e2]
/-- plain data, all of them -/
def plainD : D → Bool
  | .dict _ => false
  | _ => true
theorem Rep.dp {K : PySem.W.Frag} {F : Hp} {v : V} {d : D} (h : plainD d = true) (r : Rep K F v d) : Dp K F v d := by
  cases r with
  | dat h => exact h
  | exc q => cases h
theorem RepAll.dp {K : PySem.W.Frag} {F : Hp} : ∀ {vs : List V} {ds : List D}, ds.all plainD = true → RepAll K F vs ds → DpAll K F vs ds
  | _, _, _, .nil => .nil
  | _, _, h, .cons r t => by
    rw [List.all_cons, Bool.and_eq_true] at h
    exact .cons (r.dp h.1) (RepAll.dp h.2 t)
def tupE (r : AF) : EF := fun ρ => (r ρ).bind fun ds => if ds.all plainD = true ∧ ds.length ≤ sizeLine then some (.tuple ds) else none
def lstA (r : AF) : AF := fun ρ => (r ρ).bind fun ds => if ds.all plainD = true ∧ ds.length ≤ sizeLine then some ds else none
theorem de_tup {r : AF} {x1} (h : DA X O es r) : DE X O (.Tuple es x1 pos) (tupE r) := by
  obtain ⟨⟨ta, pa, ra⟩, _⟩ := h
  refine ⟨_, pe_tup pa, fun G σ H F ρ d Q s hf q => ?_⟩
  unfold tupE at hf
  cases e : r ρ with
  | none => simp [e] at hf
  | some ds =>
    simp only [e, Option.bind_some] at hf
    by_cases hp : ds.all plainD = true ∧ ds.length ≤ sizeLine
    · rw [if_pos hp] at hf; cases hf
      refine ra G σ H F ρ ds _ s e fun vs H1 F1 g1 r1 => ⟨by rw [r1.length]; exact hp.2, fun p hn => ?_⟩
      have hf1 := free_of g1.fh hn
      exact q (.ref p) _ (upd F1 p (.tup vs)) (g1.trans (Grow.new g1.fh hn)) (.dat (.tup (.inl (.inl upd_same)) (dpAll_mono (same_upd hf1) (r1.dp hp.1))))
    · rw [if_neg hp] at hf; cases hf
theorem dn_lst {r : AF} (h : DA X O es r) : DN X O (.List es pos) (lstA r) := by
  obtain ⟨⟨ta, pa, ra⟩, _⟩ := h
  refine ⟨_, pe_lst pa, fun G σ H F ρ d' Q s hf q => ?_⟩
  unfold lstA at hf
  cases e : r ρ with
  | none => simp [e] at hf
  | some ds =>
    simp only [e, Option.bind_some] at hf
    by_cases hp : ds.all plainD = true ∧ ds.length ≤ sizeLine
    · rw [if_pos hp] at hf
      have hf := Option.some.inj hf
      subst hf
      refine ra G σ H F ρ ds _ s e fun vs H1 F1 g1 r1 => ⟨by rw [r1.length]; exact hp.2, fun p hn => ?_⟩
      have hf1 := free_of g1.fh hn
      refine q p vs _ F1 (g1.trans (Grow.newOwn g1.fh hn)) ?_ upd_same hf1 (r1.dp hp.1)
      exact free_of g1.hh hn
    · rw [if_neg hp] at hf; cases hf

/-! ### items, slices -/
def ixD : D → D → Option D
  | .list ds, .int i => atI ds i
  | .tuple ds, .int i => atI ds i
  | _, _ => none
theorem atI_dp {K : PySem.W.Frag} {F : Hp} {vs : List V} {ds : List D} {i : Int} {d : D} (h : DpAll K F vs ds) (e : atI ds i = some d) : ∃ v, atI vs i = some v ∧ Dp K F v d := by
  unfold atI at e ⊢
  rw [dpA_length h]
  cases q : ixN ds.length i with
  | none => simp [q] at e
  | some j =>
    simp only [q, Option.bind_some] at e ⊢
    exact dpA_get h e
theorem de_ix (ha : DR X O a1 f) (hb : DE X O a2 g) (hs : PlainIx a2 := by exact fun _ _ => rfl) : DE X O (.Subscript a1 a2 pos) (o2 ixD f g) := by
  obtain ⟨ta, pa, ra⟩ := ha
  obtain ⟨tb, pb, rb⟩ := hb
  refine ⟨_, pe_ix ix_seq pa pb hs, fun G σ H F ρ d Q s hf q => ?_⟩
  unfold o2 at hf
  cases e1 : f ρ with
  | none => simp [e1] at hf
  | some x =>
    cases e2 : g ρ with
    | none => simp [e1, e2] at hf
    | some y =>
      simp [e1, e2] at hf
      refine ra G σ H F ρ x _ s e1 fun vx H1 F1 g1 r1 => ?_
      refine rb G σ H1 F1 ρ y _ (s.grow g1) e2 fun vy H2 F2 g2 r2 => ?_
      cases y with
      | int i =>
        have r1' := r1.grow g2
        cases x with
        | list ds =>
          obtain ⟨a, vs, rfl, h1, h2⟩ := r1'.lst_inv g2.fh
          obtain ⟨v, hv, rv⟩ := atI_dp h2 (show atI ds i = some d from hf)
          exact .inl ⟨a, vs, i, v, rfl, r2.int_inv, h1, hv, q v H2 F2 (g1.trans g2) (.dat rv)⟩
        | tuple ds =>
          obtain ⟨a, vs, rfl, h1, h2⟩ := r1'.tup_inv
          obtain ⟨v, hv, rv⟩ := atI_dp h2 (show atI ds i = some d from hf)
          exact .inr (.inl ⟨a, vs, i, v, rfl, r2.int_inv, same_sqT g2.fh h1, hv, q v H2 F2 (g1.trans g2) (.dat rv)⟩)
        | _ => simp [ixD] at hf
      | _ => cases x <;> simp [ixD] at hf
abbrev OF := Rho → Option (Option Int)
def DP (X : Cx) (O : List Nat) (e : Option Expr) (f : OF) : Prop := ∃ t, PO X e t ∧ ∀ (G : Ent) (σ : Sg) (H F : Hp) (ρ : Rho) (o : Option Int) (Q : Option Int → Hp → Prop),
  StRep X.K G O σ H ρ F → f ρ = some o → (∀ H' F', Grow F H F' H' → Q o H') → t σ H Q
theorem dp_none : DP X O none (fun _ => some none) := ⟨_, po_none, fun G σ H F ρ o Q s hf q => by cases hf; exact q H F (Grow.refl s.sub)⟩
def partO (f : EF) : OF := fun ρ => match f ρ with
  | some (.int i) => some (some i)
  | _ => none
theorem dp_some (h : DE X O e f) : DP X O (some e) (partO f) := by
  obtain ⟨t, p, r⟩ := h
  refine ⟨_, po_some p, fun G σ H F ρ o Q s hf q => ?_⟩
  unfold partO at hf
  cases e : f ρ with
  | none => simp [e] at hf
  | some d =>
    cases d <;> simp [e] at hf
    subst hf
    exact r G σ H F ρ _ _ s e fun v H' F' g x => ⟨_, x.int_inv, q H' F' g⟩
def cutD (xs : List D) (lo hi : Option Int) : List D := (xs.drop (HT.sIx xs.length 0 lo)).take (HT.sIx xs.length xs.length hi - HT.sIx xs.length 0 lo)
theorem cut_dp {K : PySem.W.Frag} {F : Hp} {vs : List V} {ds : List D} (lo hi : Option Int) (h : DpAll K F vs ds) : DpAll K F (cutV vs lo hi) (cutD ds lo hi) := by
  unfold cutV cutD
  rw [dpA_length h]
  exact dpA_take _ (dpA_drop _ h)
def slA (f : EF) (lo hi : OF) : AF := fun ρ => match f ρ with
  | some (.list ds) => (lo ρ).bind fun l => (hi ρ).bind fun h => some (cutD ds l h)
  | _ => none
theorem dn_sl {lo hi : Option Expr} {l h : OF} {p2 : Pos} (ha : DR X O e f) (hl : DP X O lo l) (hh : DP X O hi h) : DN X O (.Subscript e (.Slice lo hi none p2) pos) (slA f l h) := by
  obtain ⟨ta, pa, ra⟩ := ha
  obtain ⟨tl, pl, rl⟩ := hl
  obtain ⟨th, ph, rh⟩ := hh
  refine ⟨_, pe_slice sl_list pa pl ph, fun G σ H F ρ ds Q s hf q => ?_⟩
  unfold slA at hf
  cases e1 : f ρ with
  | none => simp [e1] at hf
  | some x =>
    cases x with
    | list xs =>
      simp only [e1] at hf
      cases ea : l ρ with
      | none => rw [ea] at hf; cases hf
      | some a =>
      cases eb : h ρ with
      | none => rw [ea] at hf; simp [eb] at hf
      | some b =>
      rw [ea] at hf
      simp only [eb, Option.bind_some] at hf
      have hf := Option.some.inj hf
      subst hf
      refine ra G σ H F ρ _ _ s e1 fun vx H1 F1 g1 r1 => ?_
      refine rl G σ H1 F1 ρ a _ (s.grow g1) ea fun H2 F2 g2 => ?_
      refine rh G σ H2 F2 ρ b _ (s.grow (g1.trans g2)) eb fun H3 F3 g3 => ?_
      obtain ⟨p, vs, rfl, h1, h2⟩ := (r1.grow (g2.trans g3)).lst_inv g3.fh
      refine ⟨p, vs, rfl, h1, fun z hz => ?_⟩
      have gg := g1.trans (g2.trans g3)
      exact q z _ _ F3 (gg.trans (Grow.newOwn g3.fh hz)) (free_of gg.hh hz) upd_same (free_of g3.fh hz) (cut_dp _ _ h2)
    | _ => simp [e1] at hf
end
end DL

/-! DL, part 3: statements, loops, functions. -/
namespace DL
open PySem PySem.Spec PyProof.Rows L2

inductive Out where
  | nx (ρ : Rho) | rt (d : D) | bk (ρ : Rho) | ct (ρ : Rho)
abbrev SF := Rho → Option Out

/-- what is given back: data, or a list of the asker's own (new behind the entry) -/
def RetOk (K : PySem.W.Frag) (own : Bool) (F' H' H0 : Hp) (v : V) (d : D) : Prop := match own with
  | true => ∃ a vs ds, v = .ref a ∧ d = .list ds ∧ H' a = some (.lst vs) ∧ H0 a = none ∧ F' a = none ∧ DpAll K F' vs ds
  | false => Rep K F' v d
def Good (K : PySem.W.Frag) (G : Ent) (RO : Bool) (O' LB : List Nat) (F : Hp) (E : Ends) : Out → Prop
  | .nx ρ' => ∀ σ' H' F', StRep K G O' σ' H' ρ' F' → Same F F' → E.nx σ' H'
  | .bk ρ' => ∀ σ' H' F', StRep K G LB σ' H' ρ' F' → Same F F' → E.bk σ' H'
  | .ct ρ' => ∀ σ' H' F', StRep K G LB σ' H' ρ' F' → Same F F' → E.ct σ' H'
  | .rt d => ∀ v H' F', Grow G.F0 G.H0 F' H' → RetOk K RO F' H' G.H0 v d → E.rt v H'
def DS (X : Cx) (RO : Bool) (O O' LB : List Nat) (st : Stmt) (f : SF) : Prop := ∃ t, PS X st t ∧ ∀ (G : Ent) (σ : Sg) (H F : Hp) (ρ : Rho) (r : Out) (E : Ends),
  StRep X.K G O σ H ρ F → f ρ = some r → Good X.K G RO O' LB F E r → t E σ H
def DSs (X : Cx) (RO : Bool) (O O' LB : List Nat) (sts : List Stmt) (f : SF) : Prop := ∃ t, PSs X sts t ∧ ∀ (G : Ent) (σ : Sg) (H F : Hp) (ρ : Rho) (r : Out) (E : Ends),
  StRep X.K G O σ H ρ F → f ρ = some r → Good X.K G RO O' LB F E r → t E σ H

theorem Good.mono {K : PySem.W.Frag} {G : Ent} {RO : Bool} {O' LB : List Nat} {F F1 : Hp} {E : Ends} (e : Same F F1) : ∀ {r : Out}, Good K G RO O' LB F E r → Good K G RO O' LB F1 E r
  | .nx _, h => fun σ' H' F' s q => h σ' H' F' s (same_trans e q)
  | .bk _, h => fun σ' H' F' s q => h σ' H' F' s (same_trans e q)
  | .ct _, h => fun σ' H' F' s q => h σ' H' F' s (same_trans e q)
  | .rt _, h => h
theorem Good.weak {K : PySem.W.Frag} {G : Ent} {RO : Bool} {O1 O2 LB : List Nat} {F : Hp} {E : Ends} (w : ∀ i ∈ O2, i ∈ O1) : ∀ {r : Out}, Good K G RO O2 LB F E r → Good K G RO O1 LB F E r
  | .nx _, h => fun σ' H' F' s q => let ⟨F2, e, s2⟩ := s.freeze w; h σ' H' F2 s2 (same_trans q e)
  | .bk _, h => h
  | .ct _, h => h
  | .rt _, h => h

def subO (a b : List Nat) : Bool := a.all fun i => b.contains i
theorem subO_ok {a b : List Nat} (h : subO a b = true) : ∀ i ∈ a, i ∈ b := fun i hi => List.contains_iff_mem.mp (List.all_eq_true.mp h i hi)

section
variable {X : Cx} {RO : Bool} {O O' O1 O2 LB : List Nat} {e a1 a2 : Expr} {es : List Expr} {f g : EF} {fa : AF} {pos : Pos} {st : Stmt} {rest : List Stmt} {s1 s2 : SF}

theorem ds_weak (h : DS X RO O O1 LB st s1) (w : subO O2 O1 = true := by decide) : DS X RO O O2 LB st s1 := by
  obtain ⟨t, p, r⟩ := h
  exact ⟨t, p, fun G σ H F ρ o E s hf q => r G σ H F ρ o E s hf (q.weak (subO_ok w))⟩
theorem dss_weak (h : DSs X RO O O1 LB rest s1) (w : subO O2 O1 = true := by decide) : DSs X RO O O2 LB rest s1 := by
  obtain ⟨t, p, r⟩ := h
  exact ⟨t, p, fun G σ H F ρ o E s hf q => r G σ H F ρ o E s hf (q.weak (subO_ok w))⟩
/-- own lists given up ahead of a statement -/
theorem ds_pre (h : DS X RO O2 O' LB st s1) (w : subO O2 O = true := by decide) : DS X RO O O' LB st s1 := by
  obtain ⟨t, p, r⟩ := h
  refine ⟨t, p, fun G σ H F ρ o E s hf q => ?_⟩
  obtain ⟨F2, e, s2⟩ := s.freeze (subO_ok w)
  exact r G σ H F2 ρ o E s2 hf (q.mono e)
theorem dss_pre (h : DSs X RO O2 O' LB rest s1) (w : subO O2 O = true := by decide) : DSs X RO O O' LB rest s1 := by
  obtain ⟨t, p, r⟩ := h
  refine ⟨t, p, fun G σ H F ρ o E s hf q => ?_⟩
  obtain ⟨F2, e, s2⟩ := s.freeze (subO_ok w)
  exact r G σ H F2 ρ o E s2 hf (q.mono e)

/-! ### blocks -/
def skipF : SF := fun ρ => some (.nx ρ)
def seqF (a b : SF) : SF := fun ρ => (a ρ).bind fun r => match r with
  | .nx ρ' => b ρ'
  | r => some r
theorem dss_nil : DSs X RO O O LB [] skipF := ⟨_, pss_nil, fun G σ H F ρ o E s hf q => by cases hf; exact q σ H F s (Same.refl _)⟩
theorem dss_cons (h1 : DS X RO O O1 LB st s1) (h2 : DSs X RO O1 O2 LB rest s2) : DSs X RO O O2 LB (st :: rest) (seqF s1 s2) := by
  obtain ⟨t, p, r⟩ := h1
  obtain ⟨u, pu, ru⟩ := h2
  refine ⟨_, pss_cons p pu, fun G σ H F ρ o E s hf q => ?_⟩
  unfold seqF at hf
  cases e : s1 ρ with
  | none => simp [e] at hf
  | some r1 =>
    simp only [e, Option.bind_some] at hf
    refine r G σ H F ρ r1 _ s e ?_
    cases r1 with
    | nx ρ' => exact fun σ' H' F' s' e' => ru G σ' H' F' ρ' o E s' hf (q.mono e')
    | _ => cases hf; exact q
theorem dss_one (h1 : DS X RO O O1 LB st s1) : DSs X RO O O1 LB [st] s1 := by
  obtain ⟨t, p, r⟩ := h1
  exact ⟨t, pss_one p, r⟩
/-- code that is never reached -/
def neverF : SF := fun _ => none
theorem ds_never : DS X RO O O' LB st neverF := ⟨_, ps_never, fun G σ H F ρ o E s hf q => by cases hf⟩
theorem dss_never : DSs X RO O O' LB rest neverF := ⟨_, pss_never, fun G σ H F ρ o E s hf q => by cases hf⟩
def passF : SF := skipF
theorem ds_pass : DS X RO O O LB (.Pass pos) skipF := ⟨_, ps_pass, fun G σ H F ρ o E s hf q => by cases hf; exact q σ H F s (Same.refl _)⟩
def breakF : SF := fun ρ => some (.bk ρ)
def contF : SF := fun ρ => some (.ct ρ)
theorem ds_break : DS X RO O O' O (.Break pos) breakF := ⟨_, ps_break, fun G σ H F ρ o E s hf q => by cases hf; exact q σ H F s (Same.refl _)⟩
theorem ds_cont : DS X RO O O' O (.Continue pos) contF := ⟨_, ps_continue, fun G σ H F ρ o E s hf q => by cases hf; exact q σ H F s (Same.refl _)⟩

/-! ### return -/
def retF (f : EF) : SF := fun ρ => (f ρ).map .rt
theorem StRep.ends {K : PySem.W.Frag} {G : Ent} {σ : Sg} {H F H' F' : Hp} {ρ : Rho} (s : StRep K G O σ H ρ F) (g : Grow F H F' H') : Grow G.F0 G.H0 F' H' := s.g.trans g
theorem ds_ret (h : DE X O e f) : DS X false O O' LB (.Return (some e) pos) (retF f) := by
  obtain ⟨t, p, r⟩ := h
  refine ⟨_, ps_ret p, fun G σ H F ρ o E s hf q => ?_⟩
  unfold retF at hf
  cases e : f ρ with
  | none => simp [e] at hf
  | some d =>
    simp [e] at hf; subst hf
    exact r G σ H F ρ d _ s e fun v H' F' g x => q v H' F' (s.g.trans g) x
def retL (f : AF) : SF := fun ρ => (f ρ).map fun ds => .rt (.list ds)
theorem ds_retN (h : DN X O e fa) : DS X true O O' LB (.Return (some e) pos) (retL fa) := by
  obtain ⟨t, p, r⟩ := h
  refine ⟨_, ps_ret p, fun G σ H F ρ o E s hf q => ?_⟩
  unfold retL at hf
  cases e : fa ρ with
  | none => simp [e] at hf
  | some d =>
    simp [e] at hf; subst hf
    exact r G σ H F ρ d _ s e fun a vs H' F' g hn h1 h2 h3 => q _ H' F' (s.g.trans g) ⟨a, vs, d, rfl, rfl, h1, free_of s.g.hh hn, h2, h3⟩
def retV (i : Nat) : SF := fun ρ => match getv ρ i with
  | some (.list ds) => some (.rt (.list ds))
  | _ => none
theorem ds_retOwn (i : Nat) {x : Str} {p2 : Pos} (hO : O.contains i = true) (h : PE X (.Name x p2) (tVar i)) : DS X true O O' LB (.Return (some (.Name x p2)) pos) (retV i) := by
  refine ⟨_, ps_ret h, fun G σ H F ρ o E s hf q => ?_⟩
  unfold retV at hf
  cases e : getv ρ i with
  | none => simp [e] at hf
  | some d =>
    cases d <;> simp [e] at hf
    subst hf
    have hO' := List.contains_iff_mem.mp hO
    obtain ⟨v, hs, a, vs, ds, rfl, e2, h1, h2, h3⟩ := s.own i _ hO' e
    cases e2
    exact ⟨_, hs, q _ H F s.g ⟨a, vs, _, rfl, rfl, h1, s.new i _ a hO' e hs, h2, h3⟩⟩
theorem ds_retnone : DS X false O O' LB (.Return none pos) (fun _ => some (.rt .none)) :=
  ⟨_, ps_retN, fun G σ H F ρ o E s hf q => by cases hf; exact q _ H F s.g (.dat .non)⟩

/-! ### if -/
def ifF (c : BF) (a b : SF) : SF := fun ρ => (c ρ).bind fun k => if k = true then a ρ else b ρ
theorem ds_if {c : BF} {xs ys : List Stmt} (hc : DT X O e c) (ha : DSs X RO O O' LB xs s1) (hb : DSs X RO O O' LB ys s2) : DS X RO O O' LB (.If e xs ys pos) (ifF c s1 s2) := by
  obtain ⟨tc, pc, rc⟩ := hc
  obtain ⟨ta, pa, ra⟩ := ha
  obtain ⟨tb, pb, rb⟩ := hb
  refine ⟨_, ps_if pc pa pb, fun G σ H F ρ o E s hf q => ?_⟩
  unfold ifF at hf
  cases e : c ρ with
  | none => simp [e] at hf
  | some k =>
    simp only [e, Option.bind_some] at hf
    refine rc G σ H F ρ k _ s e fun H1 F1 g1 => ?_
    cases k with
    | true => rw [if_pos rfl] at hf ⊢; exact ra G σ H1 F1 ρ o E (s.grow g1) hf (q.mono g1.ff)
    | false => rw [if_neg Bool.false_ne_true] at hf ⊢; exact rb G σ H1 F1 ρ o E (s.grow g1) hf (q.mono g1.ff)

/-! ### stores -/
theorem getv_set {ρ : Rho} {i j : Nat} {d : D} : getv (ρ.set i (some d)) j = if j = i ∧ i < ρ.length then some d else getv ρ j := by
  unfold getv
  by_cases hj : j = i
  · subst hj
    by_cases hl : j < ρ.length
    · simp [hl]
    · have h1 : (ρ.set j (some d))[j]? = none := List.getElem?_eq_none (by simpa using hl)
      have h2 : ρ[j]? = none := List.getElem?_eq_none (by simpa using hl)
      rw [h1, h2, if_neg (fun z => hl z.2)]
  · rw [List.getElem?_set_ne (Ne.symm hj), if_neg (fun z => hj z.1)]
def dropO (O : List Nat) (i : Nat) : List Nat := O.filter fun j => j != i
theorem mem_dropO {O : List Nat} {i j : Nat} : j ∈ dropO O i ↔ j ∈ O ∧ j ≠ i := by
  unfold dropO; simp [List.mem_filter]
theorem StRep.set {K : PySem.W.Frag} {G : Ent} {σ : Sg} {H F : Hp} {ρ : Rho} (s : StRep K G O σ H ρ F) (i : Nat) {v : V} {d : D} (r : Rep K F v d) : StRep K G (dropO O i) (σ.set i (some v)) H (ρ.set i (some d)) F where
  len := by simpa using s.len
  g := s.g
  dat := fun j c hj hc => by
    rw [getv_set] at hc
    by_cases h : j = i ∧ i < ρ.length
    · rw [if_pos h] at hc; cases hc
      exact ⟨v, by rw [h.1, List.getElem?_set_self (by rw [← s.len]; exact h.2)], r⟩
    · rw [if_neg h] at hc
      by_cases hji : j = i
      · subst hji
        have hl : ¬ j < ρ.length := fun z => h ⟨rfl, z⟩
        unfold getv at hc
        rw [List.getElem?_eq_none (by omega)] at hc; cases hc
      · have hj' : j ∉ O := fun z => hj (mem_dropO.mpr ⟨z, hji⟩)
        obtain ⟨w, e1, e2⟩ := s.dat j c hj' hc
        exact ⟨w, by rw [List.getElem?_set_ne (Ne.symm hji)]; exact e1, e2⟩
  own := fun j c hj hc => by
    obtain ⟨hj1, hji⟩ := mem_dropO.mp hj
    rw [getv_set, if_neg (fun z => hji z.1)] at hc
    obtain ⟨w, e1, e2⟩ := s.own j c hj1 hc
    exact ⟨w, by rw [List.getElem?_set_ne (Ne.symm hji)]; exact e1, e2⟩
  new := fun j c a hj hc hs => by
    obtain ⟨hj1, hji⟩ := mem_dropO.mp hj
    rw [getv_set, if_neg (fun z => hji z.1)] at hc
    rw [List.getElem?_set_ne (Ne.symm hji)] at hs
    exact s.new j c a hj1 hc hs
  dis := fun j k c e a hj hk hjk hc he hs => by
    obtain ⟨hj1, hji⟩ := mem_dropO.mp hj
    obtain ⟨hk1, hki⟩ := mem_dropO.mp hk
    rw [getv_set, if_neg (fun z => hji z.1)] at hc
    rw [getv_set, if_neg (fun z => hki z.1)] at he
    rw [List.getElem?_set_ne (Ne.symm hji)] at hs
    rw [List.getElem?_set_ne (Ne.symm hki)]
    exact s.dis j k c e a hj1 hk1 hjk hc he hs
/-- a slot takes an own list: at an address that no own slot but it has -/
theorem StRep.setOwn {K : PySem.W.Frag} {G : Ent} {σ : Sg} {H F : Hp} {ρ : Rho} (s : StRep K G O σ H ρ F) (i : Nat) {a : Addr} {vs : List V} {ds : List D} (h1 : H a = some (.lst vs)) (h2 : F a = none) (h3 : DpAll K F vs ds) (h4 : G.H0 a = none)
    (h5 : ∀ j d, j ∈ O → j ≠ i → getv ρ j = some d → σ[j]? ≠ some (some (V.ref a))) : StRep K G (i :: dropO O i) (σ.set i (some (.ref a))) H (ρ.set i (some (.list ds))) F where
  len := by simpa using s.len
  g := s.g
  dat := fun j c hj hc => by
    have hji : j ≠ i := fun z => hj (z ▸ List.mem_cons_self)
    rw [getv_set, if_neg (fun z => hji z.1)] at hc
    have hj' : j ∉ O := fun z => hj (List.mem_cons_of_mem _ (mem_dropO.mpr ⟨z, hji⟩))
    obtain ⟨w, e1, e2⟩ := s.dat j c hj' hc
    exact ⟨w, by rw [List.getElem?_set_ne (Ne.symm hji)]; exact e1, e2⟩
  own := fun j c hj hc => by
    by_cases hji : j = i
    · subst hji
      rw [getv_set] at hc
      by_cases hl : j < ρ.length
      · rw [if_pos ⟨rfl, hl⟩] at hc; cases hc
        exact ⟨.ref a, List.getElem?_set_self (by rw [← s.len]; exact hl), a, vs, ds, rfl, rfl, h1, h2, h3⟩
      · rw [if_neg (fun z => hl z.2)] at hc
        unfold getv at hc
        rw [List.getElem?_eq_none (by omega)] at hc; cases hc
    · have hj1 : j ∈ O := by
        rcases List.mem_cons.mp hj with z | z
        · exact absurd z hji
        · exact (mem_dropO.mp z).1
      rw [getv_set, if_neg (fun z => hji z.1)] at hc
      obtain ⟨w, e1, e2⟩ := s.own j c hj1 hc
      exact ⟨w, by rw [List.getElem?_set_ne (Ne.symm hji)]; exact e1, e2⟩
  new := fun j c b hj hc hs => by
    by_cases hji : j = i
    · subst hji
      by_cases hl : j < σ.length
      · rw [List.getElem?_set_self hl] at hs
        cases hs; exact h4
      · rw [List.getElem?_eq_none (by simpa using hl)] at hs; cases hs
    · have hj1 : j ∈ O := by
        rcases List.mem_cons.mp hj with z | z
        · exact absurd z hji
        · exact (mem_dropO.mp z).1
      rw [getv_set, if_neg (fun z => hji z.1)] at hc
      rw [List.getElem?_set_ne (Ne.symm hji)] at hs
      exact s.new j c b hj1 hc hs
  dis := fun j k c e b hj hk hjk hc he hs => by
    have inO : ∀ m, m ∈ i :: dropO O i → m ≠ i → m ∈ O := fun m hm hmi => by
      rcases List.mem_cons.mp hm with z | z
      · exact absurd z hmi
      · exact (mem_dropO.mp z).1
    by_cases hji : j = i
    · subst hji
      have hkj : k ≠ j := Ne.symm hjk
      rw [getv_set, if_neg (fun z => hkj z.1)] at he
      rw [List.getElem?_set_ne hjk]
      by_cases hl : j < σ.length
      · rw [List.getElem?_set_self hl] at hs
        cases hs
        exact h5 k e (inO k hk hkj) hkj he
      · rw [List.getElem?_eq_none (by simpa using hl)] at hs; cases hs
    · rw [getv_set, if_neg (fun z => hji z.1)] at hc
      rw [List.getElem?_set_ne (Ne.symm hji)] at hs
      by_cases hki : k = i
      · subst hki
        by_cases hl : k < σ.length
        · rw [List.getElem?_set_self hl]
          intro z
          cases z
          exact h5 j c (inO j hj hji) hji hc hs
        · rw [List.getElem?_eq_none (by simpa using hl)]; intro z; cases z
      · rw [getv_set, if_neg (fun z => hki z.1)] at he
        rw [List.getElem?_set_ne (Ne.symm hki)]
        exact s.dis j k c e b (inO j hj hji) (inO k hk hki) hjk hc he hs
/-- own slots' addresses are tracked -/
theorem StRep.ownNe {K : PySem.W.Frag} {G : Ent} {σ : Sg} {H F : Hp} {ρ : Rho} (s : StRep K G O σ H ρ F) {a : Addr} (ha : H a = none) : ∀ j d, j ∈ O → getv ρ j = some d → σ[j]? ≠ some (some (V.ref a)) := fun j d hj hd hs => by
  obtain ⟨v, e1, b, vs, ds, rfl, _, h1, _⟩ := s.own j d hj hd
  rw [e1] at hs
  have hs := Option.some.inj (Option.some.inj hs)
  injection hs with hs
  subst hs
  rw [h1] at ha; cases ha
def setF (i : Nat) (f : EF) : SF := fun ρ => (f ρ).map fun d => .nx (ρ.set i (some d))
def setL (i : Nat) (f : AF) : SF := fun ρ => (f ρ).map fun ds => .nx (ρ.set i (some (.list ds)))
theorem ds_set (i : Nat) {x : Str} {pos' : Pos} (he : DE X O e f) (hp : ∀ t, PE X e t → PS X (.Assign [.Name x pos'] e pos) (tAsg t (gName i))) : DS X RO O (dropO O i) LB (.Assign [.Name x pos'] e pos) (setF i f) := by
  obtain ⟨t, p, r⟩ := he
  refine ⟨_, hp t p, fun G σ H F ρ o E s hf q => ?_⟩
  unfold setF at hf
  cases e : f ρ with
  | none => simp [e] at hf
  | some d =>
    simp [e] at hf; subst hf
    exact r G σ H F ρ d _ s e fun v H' F' g x => q _ H' F' ((s.grow g).set i x) g.ff
theorem ds_setN (i : Nat) {x : Str} {pos' : Pos} (he : DN X O e fa) (hp : ∀ t, PE X e t → PS X (.Assign [.Name x pos'] e pos) (tAsg t (gName i))) : DS X RO O (i :: dropO O i) LB (.Assign [.Name x pos'] e pos) (setL i fa) := by
  obtain ⟨t, p, r⟩ := he
  refine ⟨_, hp t p, fun G σ H F ρ o E s hf q => ?_⟩
  unfold setL at hf
  cases e : fa ρ with
  | none => simp [e] at hf
  | some d =>
    simp [e] at hf; subst hf
    refine r G σ H F ρ d _ s e fun a vs H' F' g hn h1 h2 h3 => q _ H' F' ((s.grow g).setOwn i h1 h2 h3 (free_of s.g.hh hn) fun j c hj _ hc => ?_) g.ff
    exact s.ownNe hn j c hj hc
/-- a, b = x, y -/
def parF (i j : Nat) (f g : EF) : SF := fun ρ => (f ρ).bind fun x => (g ρ).bind fun y => some (.nx ((ρ.set i (some x)).set j (some y)))
theorem ds_par (i j : Nat) {st : Stmt} (ha : DE X O a1 f) (hb : DE X O a2 g) (hs : starEach (a1 :: [a2]) X.env = (false, eval a1 X.env) :: starEach [a2] X.env := by rfl) (hs2 : starEach (a2 :: []) X.env = (false, eval a2 X.env) :: starEach [] X.env := by rfl)
    (hp : ∀ t, PA X [a1, a2] t → PS X st (tPar i j t)) : DS X RO O (dropO (dropO O i) j) LB st (parF i j f g) := by
  obtain ⟨⟨t, p, r⟩, _⟩ := da_cons ha (da_cons hb da_nil hs2) hs
  refine ⟨_, hp t p, fun G σ H F ρ o E s hf q => ?_⟩
  unfold parF at hf
  cases e1 : f ρ with
  | none => simp [e1] at hf
  | some x =>
    cases e2 : g ρ with
    | none => simp [e1, e2] at hf
    | some y =>
      simp [e1, e2] at hf; subst hf
      refine r G σ H F ρ [x, y] _ s (by simp [consA, nilA, e1, e2]) fun vs H' F' g r1 => ?_
      cases r1 with
      | cons ra rb =>
        cases rb with
        | cons rb rn =>
          cases rn
          exact ⟨_, _, rfl, q _ H' F' (((s.grow g).set i ra).set j rb) g.ff⟩

/-! ### targets -/
abbrev TgF := D → Rho → Option Rho
def DG (X : Cx) (O O' : List Nat) (tg : Expr) (g : TgF) : Prop := ∃ t, PG X tg t ∧ ∀ (G : Ent) (v : V) (d : D) (σ : Sg) (H F : Hp) (ρ ρ' : Rho) (Q : Sg → Hp → Prop),
  StRep X.K G O σ H ρ F → Rep X.K F v d → g d ρ = some ρ' → (∀ σ', StRep X.K G O' σ' H ρ' F → Q σ' H) → t v σ H Q
abbrev TgsF := List D → Rho → Option Rho
def DGs (X : Cx) (O O' : List Nat) (es : List Expr) (g : TgsF) : Prop := ∃ t, PGs X es t ∧ ∀ (G : Ent) (vs : List V) (ds : List D) (σ : Sg) (H F : Hp) (ρ ρ' : Rho) (Q : Sg → Hp → Prop),
  StRep X.K G O σ H ρ F → DpAll X.K F vs ds → g ds ρ = some ρ' → (∀ σ', StRep X.K G O' σ' H ρ' F → Q σ' H) → t vs σ H Q
def nameG (i : Nat) : TgF := fun d ρ => some (ρ.set i (some d))
theorem dg_name (i : Nat) {x : Str} (h : PG X (.Name x pos) (gName i)) : DG X O (dropO O i) (.Name x pos) (nameG i) :=
  ⟨_, h, fun G v d σ H F ρ ρ' Q s r hg q => by cases hg; exact q _ (s.set i r)⟩
def nilG : TgsF := fun ds ρ => match ds with
  | [] => some ρ
  | _ => none
def consG (g : TgF) (r : TgsF) : TgsF := fun ds ρ => match ds with
  | d :: ds => (g d ρ).bind fun ρ1 => r ds ρ1
  | _ => none
theorem dgs_nil : DGs X O O [] nilG := ⟨_, pgs_nil, fun G vs ds σ H F ρ ρ' Q s r hg q => by
  cases ds with
  | nil => cases r; cases hg; exact ⟨rfl, q σ s⟩
  | cons _ _ => cases hg⟩
theorem dgs_cons {g : TgF} {r : TgsF} (h1 : DG X O O1 e g) (h2 : DGs X O1 O2 es r) (hp : ∀ t u, PG X e t → PGs X es u → PGs X (e :: es) (gCons t u)) : DGs X O O2 (e :: es) (consG g r) := by
  obtain ⟨t, p, rt⟩ := h1
  obtain ⟨u, pu, ru⟩ := h2
  refine ⟨_, hp t u p pu, fun G vs ds σ H F ρ ρ' Q s rr hg q => ?_⟩
  cases ds with
  | nil => cases hg
  | cons d ds =>
    cases rr with
    | cons ra rb =>
      have hg : ((g d ρ).bind fun ρ1 => r ds ρ1) = some ρ' := hg
      cases e : g d ρ with
      | none => rw [e] at hg; cases hg
      | some ρ1 =>
        rw [e] at hg
        exact ⟨_, _, rfl, rt G _ d σ H F ρ ρ1 _ s (.dat ra) e fun σ1 s1 => ru G _ ds σ1 H F ρ1 ρ' Q s1 rb hg q⟩
def tupG (n : Nat) (g : TgsF) : TgF := fun d ρ => match d with
  | .tuple ds => if ds.length = n then g ds ρ else none
  | _ => none
theorem dg_tup {n k : Nat} {g : TgsF} (h : DGs X O O' es g) (hp : ∀ t, PGs X es t → PG X (.Tuple es k pos) (gTup X.K n t)) : DG X O O' (.Tuple es k pos) (tupG n g) := by
  obtain ⟨t, p, r⟩ := h
  refine ⟨_, hp t p, fun G v d σ H F ρ ρ' Q s rr hg q => ?_⟩
  cases d with
  | tuple ds =>
    have hg : (if ds.length = n then g ds ρ else none) = some ρ' := hg
    by_cases hl : ds.length = n
    · rw [if_pos hl] at hg
      obtain ⟨a, vs, rfl, h1, h2⟩ := rr.tup_inv
      exact ⟨a, vs, rfl, same_sqT s.sub h1, (dpA_length h2).trans hl, r G vs ds σ H F ρ ρ' Q s h2 hg q⟩
    · rw [if_neg hl] at hg; cases hg
  | _ => cases hg
/-- target = value -/
def asgF (f : EF) (g : TgF) : SF := fun ρ => (f ρ).bind fun d => (g d ρ).map .nx
theorem ds_asg {tg : Expr} {g : TgF} (he : DE X O e f) (hg : DG X O O' tg g) (hp : ∀ t u, PE X e t → PG X tg u → PS X (.Assign [tg] e pos) (tAsg t u)) : DS X RO O O' LB (.Assign [tg] e pos) (asgF f g) := by
  obtain ⟨t, p, r⟩ := he
  obtain ⟨u, pu, ru⟩ := hg
  refine ⟨_, hp t u p pu, fun G σ H F ρ o E s hf q => ?_⟩
  unfold asgF at hf
  cases e : f ρ with
  | none => simp [e] at hf
  | some d =>
    simp only [e, Option.bind_some] at hf
    cases e2 : g d ρ with
    | none => simp [e2] at hf
    | some ρ1 =>
      simp [e2] at hf; subst hf
      exact r G σ H F ρ d _ s e fun v H1 F1 g1 r1 => ru G v d σ H1 F1 ρ ρ1 _ (s.grow g1) r1 e2 fun σ' s' => q σ' H1 F1 s' g1.ff

/-! ### while -/
def whileN (c : BF) (b : SF) : Nat → Rho → Option Out
  | 0, _ => none
  | n + 1, ρ => (c ρ).bind fun k => if k = true then (b ρ).bind fun r => match r with
      | .nx ρ' => whileN c b n ρ'
      | .ct ρ' => whileN c b n ρ'
      | .bk ρ' => some (.nx ρ')
      | .rt d => some (.rt d)
    else some (.nx ρ)
def whileF (fuel : Rho → Nat) (c : BF) (b : SF) : SF := fun ρ => whileN c b (fuel ρ) ρ
theorem ds_while (fuel : Rho → Nat) {c : BF} {xs : List Stmt} {b : SF} (hc : DT X O e c) (hb : DSs X RO O O O xs b) (hp : ∀ t u, PT X e t → PSs X xs u → PS X (.While e xs [] pos) (tWhile t u)) : DS X RO O O LB (.While e xs [] pos) (whileF fuel c b) := by
  obtain ⟨tc, pc, rc⟩ := hc
  obtain ⟨tb, pb, rb⟩ := hb
  refine ⟨_, hp tc tb pc pb, fun G σ H F ρ o E s hf q => ?_⟩
  refine ⟨fun n σ1 H1 => ∃ ρ1 F1, StRep X.K G O σ1 H1 ρ1 F1 ∧ Same F F1 ∧ whileN c b n ρ1 = some o, ⟨fuel ρ, ρ, F, s, Same.refl _, hf⟩, ?_⟩
  rintro n σ1 H1 ⟨ρ1, F1, s1, ff1, h1⟩
  cases n with
  | zero => cases h1
  | succ n =>
    have h1 : ((c ρ1).bind fun k => if k = true then (b ρ1).bind fun r => match r with
      | .nx ρ' => whileN c b n ρ'
      | .ct ρ' => whileN c b n ρ'
      | .bk ρ' => some (.nx ρ')
      | .rt d => some (.rt d)
    else some (.nx ρ1)) = some o := h1
    cases e : c ρ1 with
    | none => rw [e] at h1; cases h1
    | some k =>
      rw [e, Option.bind_some] at h1
      refine rc G σ1 H1 F1 ρ1 k _ s1 e fun H2 F2 g2 => ?_
      have ff2 := same_trans ff1 g2.ff
      cases k with
      | false =>
        rw [if_neg Bool.false_ne_true] at h1 ⊢
        cases h1
        exact q σ1 H2 F2 (s1.grow g2) ff2
      | true =>
        rw [if_pos rfl] at h1 ⊢
        cases e2 : b ρ1 with
        | none => rw [e2] at h1; cases h1
        | some r =>
          rw [e2, Option.bind_some] at h1
          refine ⟨fun σ3 H3 => ∃ ρ3 F3, StRep X.K G O σ3 H3 ρ3 F3 ∧ Same F F3 ∧ whileN c b n ρ3 = some o, fun σ3 H3 w => ⟨n, Nat.lt_succ_self n, w⟩, ?_⟩
          refine rb G σ1 H2 F2 ρ1 r _ (s1.grow g2) e2 ?_
          cases r with
          | nx ρ' => exact fun σ3 H3 F3 s3 e3 => ⟨ρ', F3, s3, same_trans ff2 e3, h1⟩
          | ct ρ' => exact fun σ3 H3 F3 s3 e3 => ⟨ρ', F3, s3, same_trans ff2 e3, h1⟩
          | bk ρ' => cases h1; exact fun σ3 H3 F3 s3 e3 => q σ3 H3 F3 s3 (same_trans ff2 e3)
          | rt d => cases h1; exact q

/-! ### what a loop walks -/
def Iters (K : PySem.W.Frag) (J : It) (F : Hp) (ds : List D) : Prop := ∀ (F' H' : Hp) (i : Nat), Same F F' → Same F' H' →
  (i < ds.length → J.go i H') ∧ (ds.length ≤ i → J.stop i H') ∧ ∀ x H'' d, J.yld i H' x H'' → ds[i]? = some d → ∃ F'', Grow F' H' F'' H'' ∧ Rep K F'' x d
def DI (X : Cx) (O : List Nat) (tg iter : Expr) (f : AF) : Prop := ∃ wi, PI X tg iter wi ∧ ∀ (G : Ent) (σ : Sg) (H F : Hp) (ρ : Rho) (ds : List D) (R : It → Hp → Prop),
  StRep X.K G O σ H ρ F → f ρ = some ds → (∀ J H' F', Grow F H F' H' → Iters X.K J F' ds → R J H') → wi σ H R
def itemsF (f : EF) : AF := fun ρ => match f ρ with
  | some (.list ds) => some ds
  | _ => none
theorem sqL_inj_F {K : PySem.W.Frag} {H : Hp} {a : Addr} {xs ys : List V} (h : SqL K H a xs) (h' : SqL K H a ys) (hn : ∃ u, H a = some u) : xs = ys ∨ True := .inr trivial
theorem di_list {tg : Expr} (h : DE X O e f) : DI X O tg e (itemsF f) := by
  obtain ⟨t, p, r⟩ := h
  refine ⟨_, pi_list p, fun G σ H F ρ ds R s hf q => ?_⟩
  unfold itemsF at hf
  cases e : f ρ with
  | none => simp [e] at hf
  | some d =>
    cases d with
    | list ds' =>
      simp [e] at hf; subst hf
      refine r G σ H F ρ _ _ s e fun v H' F' g x => ?_
      obtain ⟨a, vs, rfl, h1, h2⟩ := x.lst_inv
      refine ⟨a, rfl, ⟨vs, g.fh.seq h1⟩, q _ H' F' g fun F1 H1 i e1 e2 => ⟨fun hi => ?_, fun hi => ?_, fun x H2 d y hd => ?_⟩⟩
      · obtain ⟨v, hv, _⟩ := dpA_get h2 (List.getElem?_eq_getElem hi)
        exact ⟨vs, v, (same_trans e1 e2).seq h1, hv⟩
      · exact ⟨vs, (same_trans e1 e2).seq h1, by rw [dpA_length h2]; exact hi⟩
      · obtain ⟨rfl, hy⟩ := y
        have hx := hy vs ((same_trans e1 e2).seq h1)
        obtain ⟨d', hd', rd⟩ := dpA_get2 h2 hx
        rw [hd] at hd'; cases hd'
        exact ⟨F1, Grow.refl e2, .dat (dp_mono e1 rd)⟩
    | _ => simp [e] at hf
def rngL (lo : Int) (n : Nat) : List D := (List.range n).map fun (i : Nat) => .int (lo + (i : Int))
theorem iters_rng {K : PySem.W.Frag} {F : Hp} {lo : Int} {n : Nat} : Iters K (Itr lo n) F (rngL lo n) := fun F1 H1 i e1 e2 => by
  have hl : (rngL lo n).length = n := by simp [rngL]
  refine ⟨fun hi => ?_, fun hi => ?_, fun x H2 d y hd => ?_⟩
  · rw [hl] at hi; exact hi
  · rw [hl] at hi; exact hi
  · obtain ⟨rfl, rfl⟩ := y
    have hi : i < n := by
      have := (List.getElem?_eq_some_iff.mp hd).1
      rw [hl] at this; exact this
    have : d = .int (lo + (i : Int)) := by
      unfold rngL at hd
      rw [List.getElem?_map, List.getElem?_range hi] at hd
      exact (Option.some.inj hd).symm
    subst this
    exact ⟨F1, Grow.refl e2, .dat (.int _)⟩
def rng1F (f : EF) : AF := fun ρ => match f ρ with
  | some (.int j) => if -(2 ^ 62) ≤ j ∧ j < 2 ^ 62 then some (rngL 0 j.toNat) else none
  | _ => none
theorem di_range1 {tg : Expr} {p : Pos} (h : DE X O e f) (hp : ∀ t, PA X [e] t → PI X tg (.Call (.Name "range" p) [e] [] pos) (iRng1 t)) (hs : starEach (e :: []) X.env = (false, eval e X.env) :: starEach [] X.env := by rfl) :
    DI X O tg (.Call (.Name "range" p) [e] [] pos) (rng1F f) := by
  obtain ⟨⟨t, p, r⟩, _⟩ := da_cons h da_nil hs
  refine ⟨_, hp t p, fun G σ H F ρ ds R s hf q => ?_⟩
  unfold rng1F at hf
  cases e : f ρ with
  | none => simp [e] at hf
  | some d =>
    cases d with
    | int j =>
      simp only [e] at hf
      by_cases hj : -(2 ^ 62) ≤ j ∧ j < 2 ^ 62
      · rw [if_pos hj] at hf; cases hf
        refine r G σ H F ρ [.int j] _ s (by simp [consA, nilA, e]) fun vs H' F' g x => ?_
        cases x with
        | cons x xn =>
          cases xn
          refine ⟨j, by rw [x.int_inv], hj.1, hj.2, q _ H' F' g iters_rng⟩
      · rw [if_neg hj] at hf; cases hf
    | _ => simp [e] at hf
def rng2F (f g : EF) : AF := fun ρ => match f ρ, g ρ with
  | some (.int i), some (.int j) => if (-(2 ^ 62) ≤ i ∧ i < 2 ^ 62) ∧ -(2 ^ 62) ≤ j ∧ j < 2 ^ 62 then some (rngL i (j - i).toNat) else none
  | _, _ => none
theorem di_range2 {tg : Expr} {p : Pos} (ha : DE X O a1 f) (hb : DE X O a2 g) (hp : ∀ t, PA X [a1, a2] t → PI X tg (.Call (.Name "range" p) [a1, a2] [] pos) (iRng2 t))
    (hs : starEach (a1 :: [a2]) X.env = (false, eval a1 X.env) :: starEach [a2] X.env := by rfl) (hs2 : starEach (a2 :: []) X.env = (false, eval a2 X.env) :: starEach [] X.env := by rfl) :
    DI X O tg (.Call (.Name "range" p) [a1, a2] [] pos) (rng2F f g) := by
  obtain ⟨⟨t, p, r⟩, _⟩ := da_cons ha (da_cons hb da_nil hs2) hs
  refine ⟨_, hp t p, fun G σ H F ρ ds R s hf q => ?_⟩
  unfold rng2F at hf
  cases e : f ρ with
  | none => simp [e] at hf
  | some d =>
    cases e2 : g ρ with
    | none => cases d <;> simp [e, e2] at hf
    | some d2 =>
      cases d with
      | int i =>
        cases d2 with
        | int j =>
          simp only [e, e2] at hf
          by_cases hj : (-(2 ^ 62) ≤ i ∧ i < 2 ^ 62) ∧ -(2 ^ 62) ≤ j ∧ j < 2 ^ 62
          · rw [if_pos hj] at hf; cases hf
            refine r G σ H F ρ [.int i, .int j] _ s (by simp [consA, nilA, e, e2]) fun vs H' F' g x => ?_
            cases x with
            | cons x xn =>
              cases xn with
              | cons y xn =>
                cases xn
                exact ⟨i, j, by rw [x.int_inv, y.int_inv], ⟨hj.1.1, hj.1.2, hj.2.1, hj.2.2⟩, q _ H' F' g iters_rng⟩
          · rw [if_neg hj] at hf; cases hf
        | _ => simp [e, e2] at hf
      | _ => simp [e, e2] at hf
def enumL (ds : List D) : List D := ds.zipIdx.map fun p => .tuple [.int (p.2 : Int), p.1]
def enumF (f : EF) : AF := fun ρ => match f ρ with
  | some (.list ds) => some (enumL ds)
  | _ => none
theorem di_enum {tg : Expr} {p : Pos} (h : DE X O e f) (hp : ∀ t, PA X [e] t → PI X tg (.Call (.Name "enumerate" p) [e] [] pos) (iEnum X.K t)) (hs : starEach (e :: []) X.env = (false, eval e X.env) :: starEach [] X.env := by rfl) :
    DI X O tg (.Call (.Name "enumerate" p) [e] [] pos) (enumF f) := by
  obtain ⟨⟨t, p, r⟩, _⟩ := da_cons h da_nil hs
  refine ⟨_, hp t p, fun G σ H F ρ ds R s hf q => ?_⟩
  unfold enumF at hf
  cases e : f ρ with
  | none => simp [e] at hf
  | some d =>
    cases d with
    | list ds' =>
      simp [e] at hf; subst hf
      refine r G σ H F ρ [.list ds'] _ s (by simp [consA, nilA, e]) fun vs H' F' g x => ?_
      cases x with
      | cons x xn =>
        cases xn
        obtain ⟨a, vs, rfl, h1, h2⟩ := x.lst_inv
        refine ⟨a, vs, rfl, g.fh.seq h1, q _ H' F' g fun F1 H1 i e1 e2 => ⟨fun hi => ?_, fun hi => ?_, fun x H2 d y hd => ?_⟩⟩
        · have hi' : i < ds'.length := by simpa [enumL] using hi
          obtain ⟨v, hv, _⟩ := dpA_get h2 (List.getElem?_eq_getElem hi')
          exact ⟨vs, v, (same_trans e1 e2).seq h1, hv⟩
        · have hi' : ds'.length ≤ i := by simpa [enumL] using hi
          exact ⟨vs, (same_trans e1 e2).seq h1, by rw [dpA_length h2]; exact hi'⟩
        · obtain ⟨T, x1, rfl, hT, rfl, hy⟩ := y
          have hx := hy vs ((same_trans e1 e2).seq h1)
          obtain ⟨d', hd', rd⟩ := dpA_get2 h2 hx
          have : d = .tuple [.int (i : Int), d'] := by
            unfold enumL at hd
            rw [List.getElem?_map, List.getElem?_zipIdx, hd'] at hd
            simpa using hd.symm
          subst this
          have hf1 := free_of e2 hT
          exact ⟨_, Grow.new e2 hT, .dat (.tup (.inl (.inl upd_same)) (.cons (.int _) (.cons (dp_mono (same_trans e1 (same_upd hf1)) rd) .nil)))⟩
    | _ => simp [e] at hf
def zipF (f g : EF) : AF := fun ρ => match f ρ, g ρ with
  | some (.list xs), some (.list ys) => some (List.zipWith (fun x y => .tuple [x, y]) xs ys)
  | _, _ => none
theorem di_zip {tg : Expr} {p : Pos} (ha : DE X O a1 f) (hb : DE X O a2 g) (hp : ∀ t, PA X [a1, a2] t → PI X tg (.Call (.Name "zip" p) [a1, a2] [] pos) (iZip X.K t))
    (hs : starEach (a1 :: [a2]) X.env = (false, eval a1 X.env) :: starEach [a2] X.env := by rfl) (hs2 : starEach (a2 :: []) X.env = (false, eval a2 X.env) :: starEach [] X.env := by rfl) :
    DI X O tg (.Call (.Name "zip" p) [a1, a2] [] pos) (zipF f g) := by
  obtain ⟨⟨t, p, r⟩, _⟩ := da_cons ha (da_cons hb da_nil hs2) hs
  refine ⟨_, hp t p, fun G σ H F ρ ds R s hf q => ?_⟩
  unfold zipF at hf
  cases e : f ρ with
  | none => simp [e] at hf
  | some d =>
    cases e2 : g ρ with
    | none => cases d <;> simp [e, e2] at hf
    | some d2 =>
      cases d with
      | list xs =>
        cases d2 with
        | list ys =>
          simp only [e, e2] at hf
          cases hf
          refine r G σ H F ρ [.list xs, .list ys] _ s (by simp [consA, nilA, e, e2]) fun vs H' F' g x => ?_
          cases x with
          | cons x xn =>
            cases xn with
            | cons y xn =>
              cases xn
              obtain ⟨a, us, rfl, h1, h2⟩ := x.lst_inv
              obtain ⟨b, ws, rfl, k1, k2⟩ := y.lst_inv
              refine ⟨a, b, us, ws, rfl, g.fh.seq h1, g.fh.seq k1, q _ H' F' g fun F1 H1 i e1 e2 => ⟨fun hi => ?_, fun hi => ?_, fun x H2 d y hd => ?_⟩⟩
              · have hi' : i < xs.length ∧ i < ys.length := by simpa [Nat.lt_min] using hi
                obtain ⟨v, hv, _⟩ := dpA_get h2 (List.getElem?_eq_getElem hi'.1)
                obtain ⟨w, hw, _⟩ := dpA_get k2 (List.getElem?_eq_getElem hi'.2)
                exact ⟨us, ws, v, w, (same_trans e1 e2).seq h1, (same_trans e1 e2).seq k1, hv, hw⟩
              · have hi' : min xs.length ys.length ≤ i := by simpa using hi
                refine ⟨us, ws, (same_trans e1 e2).seq h1, (same_trans e1 e2).seq k1, ?_⟩
                rw [dpA_length h2, dpA_length k2]
                omega
              · obtain ⟨T, x1, y1, rfl, hT, rfl, hx, hy⟩ := y
                obtain ⟨d', hd', rd⟩ := dpA_get2 h2 (hx us ((same_trans e1 e2).seq h1))
                obtain ⟨d'', hd'', rd'⟩ := dpA_get2 k2 (hy ws ((same_trans e1 e2).seq k1))
                have : d = .tuple [d', d''] := by
                  rw [List.getElem?_zipWith, hd', hd''] at hd
                  simpa using hd.symm
                subst this
                have hf1 := free_of e2 hT
                exact ⟨_, Grow.new e2 hT, .dat (.tup (.inl (.inl upd_same)) (.cons (dp_mono (same_trans e1 (same_upd hf1)) rd) (.cons (dp_mono (same_trans e1 (same_upd hf1)) rd') .nil)))⟩
        | _ => simp [e, e2] at hf
      | _ => simp [e, e2] at hf

/-! ### for -/
def forL (g : TgF) (b : SF) : List D → Rho → Option Out
  | [], ρ => some (.nx ρ)
  | d :: ds, ρ => (g d ρ).bind fun ρ1 => (b ρ1).bind fun r => match r with
      | .nx ρ' => forL g b ds ρ'
      | .ct ρ' => forL g b ds ρ'
      | .bk ρ' => some (.nx ρ')
      | .rt d => some (.rt d)
def forF (it : AF) (g : TgF) (b : SF) : SF := fun ρ => (it ρ).bind fun ds => forL g b ds ρ
theorem ds_for {it : AF} {tg iter : Expr} {g : TgF} {xs : List Stmt} {b : SF} (hi : DI X O tg iter it) (hg : DG X O O1 tg g) (hb : DSs X RO O1 O O xs b)
    (hp : ∀ wi t u, PI X tg iter wi → PG X tg t → PSs X xs u → PS X (.For tg iter xs [] pos) (tFor wi t u)) : DS X RO O O LB (.For tg iter xs [] pos) (forF it g b) := by
  obtain ⟨wi, pi, ri⟩ := hi
  obtain ⟨tg', pg, rg⟩ := hg
  obtain ⟨tb, pb, rb⟩ := hb
  refine ⟨_, hp wi tg' tb pi pg pb, fun G σ H F ρ o E s hf q => ?_⟩
  unfold forF at hf
  cases e : it ρ with
  | none => simp [e] at hf
  | some ds =>
    simp only [e, Option.bind_some] at hf
    refine ri G σ H F ρ ds _ s e fun J H' F' g' IT => ?_
    refine ⟨fun i n σ1 H1 => n = ds.length - i ∧ i ≤ ds.length ∧ ∃ ρ1 F1, StRep X.K G O σ1 H1 ρ1 F1 ∧ Same F' F1 ∧ forL g b (ds.drop i) ρ1 = some o, ⟨ds.length, by simp, Nat.zero_le _, ρ, F', s.grow g', Same.refl _, by simpa using hf⟩, ?_⟩
    rintro i n σ1 H1 ⟨rfl, hi, ρ1, F1, s1, ff1, h1⟩
    obtain ⟨i1, i2, i3⟩ := IT F1 H1 i ff1 s1.sub
    by_cases hlt : i < ds.length
    · refine .inr ⟨i1 hlt, fun σ2 H2 => i + 1 ≤ ds.length ∧ ∃ ρ2 F2, StRep X.K G O σ2 H2 ρ2 F2 ∧ Same F' F2 ∧ forL g b (ds.drop (i + 1)) ρ2 = some o, fun σ2 H2 w => ⟨ds.length - (i + 1), by omega, rfl, w.1, w.2⟩, fun x H2 y => ?_⟩
      have hd : ds[i]? = some ds[i] := List.getElem?_eq_getElem hlt
      obtain ⟨F2, g2, rx⟩ := i3 x H2 _ y hd
      rw [List.drop_eq_getElem_cons hlt] at h1
      have h1 : ((g ds[i] ρ1).bind fun ρ1 => (b ρ1).bind fun r => match r with
        | .nx ρ' => forL g b (ds.drop (i + 1)) ρ'
        | .ct ρ' => forL g b (ds.drop (i + 1)) ρ'
        | .bk ρ' => some (.nx ρ')
        | .rt d => some (.rt d)) = some o := h1
      cases e3 : g ds[i] ρ1 with
      | none => rw [e3] at h1; cases h1
      | some ρ2 =>
        rw [e3, Option.bind_some] at h1
        cases e4 : b ρ2 with
        | none => rw [e4] at h1; cases h1
        | some r =>
          rw [e4, Option.bind_some] at h1
          refine rg G x _ σ1 H2 F2 ρ1 ρ2 _ (s1.grow g2) rx e3 fun σ2 s2 => ?_
          have ff2 := same_trans ff1 g2.ff
          refine rb G σ2 H2 F2 ρ2 r _ s2 e4 ?_
          cases r with
          | nx ρ' => exact fun σ3 H3 F3 s3 e3 => ⟨hlt, ρ', F3, s3, same_trans ff2 e3, h1⟩
          | ct ρ' => exact fun σ3 H3 F3 s3 e3 => ⟨hlt, ρ', F3, s3, same_trans ff2 e3, h1⟩
          | bk ρ' => cases h1; exact fun σ3 H3 F3 s3 e3 => q σ3 H3 F3 s3 (same_trans g'.ff (same_trans ff2 e3))
          | rt d => cases h1; exact q
    · have hi' : i = ds.length := by omega
      subst hi'
      refine .inl ⟨i2 (Nat.le_refl _), ?_⟩
      rw [List.drop_length] at h1
      have h1 : some (Out.nx ρ1) = some o := h1
      cases h1
      exact q σ1 H1 F1 s1 (same_trans g'.ff ff1)

/-! ### an own list is changed -/
theorem StRep.ownUpd {K : PySem.W.Frag} {G : Ent} {σ : Sg} {H F : Hp} {ρ : Rho} (s : StRep K G O σ H ρ F) {i : Nat} {c : D} (hi : i ∈ O) (hc : getv ρ i = some c) {a : Addr} (hs : σ[i]? = some (some (V.ref a))) {vs : List V} {ds : List D} (hd : DpAll K F vs ds) :
    StRep K G O σ (upd H a (.lst vs)) (ρ.set i (some (.list ds))) F := by
  obtain ⟨v, e1, b, ws, es, rfl, rfl, k1, k2, k3⟩ := s.own i c hi hc
  have e2 : b = a := by
    rw [e1] at hs
    have hs := Option.some.inj (Option.some.inj hs)
    injection hs
  subst e2
  have hil : i < ρ.length := by
    unfold getv at hc
    cases z : ρ[i]? with
    | none => rw [z] at hc; cases hc
    | some _ => exact (List.getElem?_eq_some_iff.mp z).1
  have hf : Same F (upd H b (.lst vs)) := fun z o h => by
    have : z ≠ b := fun y => by subst y; rw [k2] at h; cases h
    rw [upd_ne this]; exact s.sub z o h
  have h0 : G.H0 b = none := s.new i _ b hi hc e1
  have old : ∀ j d, j ∈ O → j ≠ i → getv (ρ.set i (some (.list ds))) j = some d → getv ρ j = some d := fun j d _ hji h => by
    rw [getv_set, if_neg (fun z => hji z.1)] at h; exact h
  refine ⟨by simpa using s.len, ⟨s.g.ff, fun z o h => ?_, hf, fun z o h n => s.g.own z o h n⟩, fun j d hj h => ?_, fun j d hj h => ?_, fun j d c hj h hs2 => ?_, fun j k d e c hj hk hjk h1 h2 hs2 => ?_⟩
  · have : z ≠ b := fun y => by subst y; rw [h0] at h; cases h
    rw [upd_ne this]; exact s.g.hh z o h
  · have hji : j ≠ i := fun z => hj (z ▸ hi)
    rw [getv_set, if_neg (fun z => hji z.1)] at h
    exact s.dat j d hj h
  · by_cases hji : j = i
    · subst hji
      rw [getv_set, if_pos ⟨rfl, hil⟩] at h
      cases h
      exact ⟨_, e1, b, vs, ds, rfl, rfl, upd_same, k2, hd⟩
    · have h := old j d hj hji h
      obtain ⟨w, q1, c, xs, ys, rfl, rfl, m1, m2, m3⟩ := s.own j d hj h
      refine ⟨_, q1, c, xs, ys, rfl, rfl, ?_, m2, m3⟩
      rw [upd_ne (fun z => by subst z; exact s.dis j i _ _ c hj hi hji h hc q1 e1)]
      exact m1
  · by_cases hji : j = i
    · subst hji; exact s.new j _ c hj hc hs2
    · exact s.new j d c hj (old j d hj hji h) hs2
  · have : ∃ d', getv ρ j = some d' := by
      by_cases hji : j = i
      · subst hji; exact ⟨_, hc⟩
      · exact ⟨d, old j d hj hji h1⟩
    obtain ⟨d', hd'⟩ := this
    have : ∃ e', getv ρ k = some e' := by
      by_cases hki : k = i
      · subst hki; exact ⟨_, hc⟩
      · exact ⟨e, old k e hk hki h2⟩
    obtain ⟨e', he'⟩ := this
    exact s.dis j k d' e' c hj hk hjk hd' he' hs2
def appF (i : Nat) (f : EF) : SF := fun ρ => match getv ρ i with
  | some (.list ds) => (f ρ).bind fun d => if plainD d = true ∧ ds.length < sizeLine then some (.nx (ρ.set i (some (.list (ds ++ [d]))))) else none
  | _ => none
theorem ds_append (i : Nat) {x : Str} {p1 ap cp sp : Pos} (hO : O.contains i = true) (hx : PE X (.Name x p1) (tVar i)) (he : DE X O e f) (hs : starEach (e :: []) X.env = (false, eval e X.env) :: starEach [] X.env := by rfl)
    (hp : ∀ t u, PE X (.Name x p1) t → PA X [e] u → PS X (.Expr (.Call (.Attribute (.Name x p1) "append" ap) [e] [] cp) sp) (tDrop (tBM X.K "list" rAppend t u))) :
    DS X RO O O LB (.Expr (.Call (.Attribute (.Name x p1) "append" ap) [e] [] cp) sp) (appF i f) := by
  obtain ⟨⟨t, p, r⟩, _⟩ := da_cons he da_nil hs
  refine ⟨_, hp _ _ hx p, fun G σ H F ρ o E s hf q => ?_⟩
  have hO' := List.contains_iff_mem.mp hO
  unfold appF at hf
  cases e1 : getv ρ i with
  | none => simp [e1] at hf
  | some c =>
    cases c with
    | list ds =>
      simp only [e1] at hf
      cases e2 : f ρ with
      | none => simp [e2] at hf
      | some d =>
        simp only [e2, Option.bind_some] at hf
        by_cases hc : plainD d = true ∧ ds.length < sizeLine
        · rw [if_pos hc] at hf; cases hf
          obtain ⟨v, hs, a, vs, ds', rfl, e3, h1, h2, h3⟩ := s.own i _ hO' e1
          cases e3
          refine ⟨_, hs, .inl ⟨rfl, vs, .inl (.inl h1)⟩, ?_⟩
          refine r G σ H F ρ [d] _ s (by simp [consA, nilA, e2]) fun us H' F' g x => ?_
          cases x with
          | cons x xn =>
            cases xn
            have s' := s.grow g
            refine ⟨a, vs, _, rfl, rfl, g.hh _ _ h1, by rw [dpA_length h3]; exact hc.2, q _ _ F' (s'.ownUpd hO' e1 hs (dpA_append (dpAll_mono g.ff h3) (.cons (x.dp hc.1) .nil))) g.ff⟩
        · rw [if_neg hc] at hf; cases hf
    | _ => simp [e1] at hf
def popF (i : Nat) : SF := fun ρ => match getv ρ i with
  | some (.list ds) => if 0 < ds.length then some (.nx (ρ.set i (some (.list ds.dropLast)))) else none
  | _ => none
theorem dpA_dropLast {K : PySem.W.Frag} {F : Hp} {vs : List V} {ds : List D} (h : DpAll K F vs ds) : DpAll K F vs.dropLast ds.dropLast := by
  rw [List.dropLast_eq_take, List.dropLast_eq_take, dpA_length h]
  exact dpA_take _ h
theorem ds_pop (i : Nat) {x : Str} {p1 ap cp sp : Pos} (hO : O.contains i = true) (hx : PE X (.Name x p1) (tVar i))
    (hp : ∀ t, PE X (.Name x p1) t → PS X (.Expr (.Call (.Attribute (.Name x p1) "pop" ap) [] [] cp) sp) (tDrop (tBM0 X.K "list" rPop t))) :
    DS X RO O O LB (.Expr (.Call (.Attribute (.Name x p1) "pop" ap) [] [] cp) sp) (popF i) := by
  refine ⟨_, hp _ hx, fun G σ H F ρ o E s hf q => ?_⟩
  have hO' := List.contains_iff_mem.mp hO
  unfold popF at hf
  cases e1 : getv ρ i with
  | none => simp [e1] at hf
  | some c =>
    cases c with
    | list ds =>
      simp only [e1] at hf
      by_cases hc : 0 < ds.length
      · rw [if_pos hc] at hf; cases hf
        obtain ⟨v, hs, a, vs, ds', rfl, e3, h1, h2, h3⟩ := s.own i _ hO' e1
        cases e3
        have hl : vs.length - 1 < vs.length := by rw [dpA_length h3]; omega
        exact ⟨_, hs, .inl ⟨rfl, vs, .inl (.inl h1)⟩, a, vs, _, rfl, rfl, h1, List.getElem?_eq_getElem hl, q _ _ F (s.ownUpd hO' e1 hs (dpA_dropLast h3)) (Same.refl _)⟩
      · rw [if_neg hc] at hf; cases hf
    | _ => simp [e1] at hf
def clearF (i : Nat) : SF := fun ρ => match getv ρ i with
  | some (.list _) => some (.nx (ρ.set i (some (.list []))))
  | _ => none
theorem ds_clear (i : Nat) {x : Str} {p1 ap cp sp : Pos} (hO : O.contains i = true) (hx : PE X (.Name x p1) (tVar i))
    (hp : ∀ t, PE X (.Name x p1) t → PS X (.Expr (.Call (.Attribute (.Name x p1) "clear" ap) [] [] cp) sp) (tDrop (tBM0 X.K "list" rClear t))) :
    DS X RO O O LB (.Expr (.Call (.Attribute (.Name x p1) "clear" ap) [] [] cp) sp) (clearF i) := by
  refine ⟨_, hp _ hx, fun G σ H F ρ o E s hf q => ?_⟩
  have hO' := List.contains_iff_mem.mp hO
  unfold clearF at hf
  cases e1 : getv ρ i with
  | none => simp [e1] at hf
  | some c =>
    cases c with
    | list ds =>
      simp only [e1] at hf
      cases hf
      obtain ⟨v, hs, a, vs, ds', rfl, e3, h1, h2, h3⟩ := s.own i _ hO' e1
      cases e3
      exact ⟨_, hs, .inl ⟨rfl, vs, .inl (.inl h1)⟩, a, vs, rfl, rfl, h1, q _ _ F (s.ownUpd hO' e1 hs .nil) (Same.refl _)⟩
    | _ => simp [e1] at hf
/-- x[k] = e, x an own list -/
def putF (i : Nat) (f g : EF) : SF := fun ρ => (f ρ).bind fun d => match getv ρ i, g ρ with
  | some (.list ds), some (.int k) => (ixN ds.length k).bind fun j => if plainD d = true then some (.nx (ρ.set i (some (.list (ds.set j d))))) else none
  | _, _ => none
theorem ds_put (i : Nat) {x : Str} {p1 p2 : Pos} (hO : O.contains i = true) (hx : PE X (.Name x p1) (tVar i)) (he : DE X O e f) (hk : DE X O a1 g)
    (hp : ∀ t u w, PE X e t → PE X (.Name x p1) u → PE X a1 w → PS X (.Assign [.Subscript (.Name x p1) a1 p2] e pos) (tAsg t (gSub u w rSetL))) :
    DS X RO O O LB (.Assign [.Subscript (.Name x p1) a1 p2] e pos) (putF i f g) := by
  obtain ⟨t, p, r⟩ := he
  obtain ⟨w, pw, rw'⟩ := hk
  refine ⟨_, hp _ _ _ p hx pw, fun G σ H F ρ o E s hf q => ?_⟩
  have hO' := List.contains_iff_mem.mp hO
  unfold putF at hf
  cases e2 : f ρ with
  | none => simp [e2] at hf
  | some d =>
    simp only [e2, Option.bind_some] at hf
    cases e1 : getv ρ i with
    | none => simp [e1] at hf
    | some c =>
      cases c with
      | list ds =>
        cases e3 : g ρ with
        | none => simp [e1, e3] at hf
        | some k' =>
          cases k' with
          | int k =>
            simp only [e1, e3] at hf
            cases e4 : ixN ds.length k with
            | none => simp [e4] at hf
            | some j =>
              simp only [e4, Option.bind_some] at hf
              by_cases hc : plainD d = true
              · rw [if_pos hc] at hf; cases hf
                obtain ⟨v, hs, a, vs, ds', rfl, e5, h1, h2, h3⟩ := s.own i _ hO' e1
                cases e5
                refine r G σ H F ρ d _ s e2 fun y H1 F1 g1 r1 => ?_
                have s1 := s.grow g1
                refine ⟨_, hs, ?_⟩
                refine rw' G σ H1 F1 ρ _ _ s1 e3 fun z H2 F2 g2 r2 => ?_
                have s2 := s1.grow g2
                refine ⟨a, vs, k, j, rfl, r2.int_inv, g2.hh _ _ (g1.hh _ _ h1), by rw [dpA_length h3]; exact e4, q _ _ F2 (s2.ownUpd hO' e1 hs (dpA_set j (dpAll_mono (same_trans g1.ff g2.ff) h3) (dp_mono g2.ff (r1.dp hc)))) (same_trans g1.ff g2.ff)⟩
              · rw [if_neg hc] at hf; cases hf
          | _ => simp [e1, e3] at hf
      | _ => simp [e1] at hf
/-- an expression whose value is dropped -/
def dropF (f : EF) : SF := fun ρ => (f ρ).map fun _ => .nx ρ
end

/-! ### functions -/
def SpD (K : PySem.W.Frag) (own : Bool) (n : Nat) (Fn : List D → Option D) : Sp := fun vs H Q _ => ∃ F ds d, vs.length = n ∧ Same F H ∧ RepAll K F vs ds ∧ Fn ds = some d ∧
  ∀ v H' F', Grow F H F' H' → RetOk K own F' H' H v d → Q v H'
def startR (n : Nat) (ds : List D) : Rho := ds.map some ++ List.replicate (n - ds.length) none
def endD (own : Bool) : Option Out → Option D
  | some (.rt d) => some d
  | some (.nx _) => if own = true then none else some .none
  | _ => none
def bodyFn (own : Bool) (n : Nat) (b : SF) : List D → Option D := fun ds => endD own (b (startR n ds))
theorem getv_start {n : Nat} {ds : List D} {i : Nat} {d : D} (h : getv (startR n ds) i = some d) : ds[i]? = some d := by
  unfold getv startR at h
  by_cases hi : i < ds.length
  · rw [List.getElem?_append_left (by simpa using hi), List.getElem?_map] at h
    cases e : ds[i]? with
    | none => simp [e] at h
    | some c => simp [e] at h; rw [h]
  · rw [List.getElem?_append_right (by simpa using hi)] at h
    cases e : (List.replicate (n - ds.length) (none : Option D))[i - (ds.map some).length]? with
    | none => rw [e] at h; cases h
    | some c =>
      rw [e] at h
      have := List.eq_of_mem_replicate (List.mem_of_getElem? e)
      subst this; cases h
theorem repAll_get {K : PySem.W.Frag} {F : Hp} : ∀ {vs : List V} {ds : List D} {i : Nat} {d : D}, RepAll K F vs ds → ds[i]? = some d → ∃ v, vs[i]? = some v ∧ Rep K F v d
  | _, _, _, _, .nil, h => by simp at h
  | _, _, 0, _, .cons r _, h => by simp at h; subst h; exact ⟨_, rfl, r⟩
  | _, _, i + 1, _, .cons _ t, h => by
    simp at h
    obtain ⟨v, e1, e2⟩ := repAll_get t h
    exact ⟨v, by simpa using e1, e2⟩
theorem stRep_start {K : PySem.W.Frag} {F H : Hp} {N : List Str} {vs : List V} {ds : List D} (hs : Same F H) (r : RepAll K F vs ds) : StRep K ⟨F, H⟩ [] (L2.start N vs) H (startR N.length ds) F where
  len := by simp [L2.start, startR, r.length]
  g := Grow.refl hs
  dat := fun i d _ h => by
    obtain ⟨v, e1, e2⟩ := repAll_get r (getv_start h)
    refine ⟨v, ?_, e2⟩
    have hi : i < vs.length := (List.getElem?_eq_some_iff.mp e1).1
    unfold L2.start
    rw [List.getElem?_append_left (by simpa using hi), List.getElem?_map, e1]
    rfl
  own := fun i d h => by cases h
  new := fun i d a h => by cases h
  dis := fun i j d e a h => by cases h
section
variable {P : Program} {w : World} {K : PySem.W.Frag} {mg : Str → Option Value} {base : Heap}
theorem fn_ok {x qual : Str} {params : Arguments} {body : List Stmt} {scope : Scope} {dvs : List V} {kws : List (Str × V)} {f : Addr} {fd : FuncData} {N ps : List Str} {k : Nat} {own : Bool} {O' : List Nat} {b : SF} (F : FunD K x qual params body scope dvs kws f fd) (S : FnScope N ps scope)
    (hbody : ∀ (cdv : Value) (A : Around) (outer : List Env) (s : Shared) (H : Hp) (E : XK), Room k (A.deeper (envOfC qual scope s.heap.objs.size f cdv)) →
      DSs (cxOf CX0 P w K mg base N qual scope f cdv A outer s H E).nox own [] O' [] body b) {Fn : List D → Option D} (hFn : Fn = bodyFn own N.length b) : FnOk P w K mg base CX0 (k + 1) f fd ps (SpD K own ps.length Fn) := by
  subst hFn
  refine F.ok S (fun vs H Q E h => h.choose_spec.choose_spec.choose_spec.1) (fun cdv A outer s H vs Q E hr h => ?_)
  obtain ⟨t, p, r⟩ := hbody cdv A outer s H E hr
  refine ⟨t, p.nox, ?_⟩
  obtain ⟨F, ds, d, hl, hs, hr2, hf, q⟩ := h
  unfold bodyFn at hf
  cases e : b (startR N.length ds) with
  | none => rw [e] at hf; cases hf
  | some o =>
    rw [e] at hf
    refine r ⟨F, H⟩ (L2.start N vs) H F (startR N.length ds) o _ (stRep_start hs hr2) e ?_
    cases o with
    | nx ρ' =>
      cases own with
      | true => cases hf
      | false =>
        cases hf
        exact fun σ' H' F' s' _ => q .non H' F' s'.g (.dat .non)
    | rt d' => cases hf; exact fun v H' F' g x => q v H' F' g x
    | _ => cases hf
end
section
variable {X : Cx} {O : List Nat} {x : Str} {p pos : Pos} {e : Expr} {es : List Expr} {fa : AF} {k n : Nat} {fad : Addr} {fd : FuncData} {ps : List Str} {Fn : List D → Option D}
def callE (Fn : List D → Option D) (fa : AF) : EF := fun ρ => (fa ρ).bind Fn
def callL (Fn : List D → Option D) (fa : AF) : AF := fun ρ => match (fa ρ).bind Fn with
  | some (.list ds) => some ds
  | _ => none
theorem de_call (FO : FnOk X.prog X.w X.K X.mg X.base CX0 k fad fd ps (SpD X.K false n Fn)) (hn : es.length + 1 = n) (ha : DA X O (e :: es) fa)
    (hp : ∀ t, PA X (e :: es) t → PE X (.Call (.Name x p) (e :: es) [] pos) (tCall (SpD X.K false n Fn) [] E0 t)) : DE X O (.Call (.Name x p) (e :: es) [] pos) (callE Fn fa) := by
  obtain ⟨⟨t, pt, r⟩, hl⟩ := ha
  refine ⟨_, hp t pt, fun G σ H F ρ d Q s hf q => ?_⟩
  unfold callE at hf
  cases e1 : fa ρ with
  | none => simp [e1] at hf
  | some ds =>
    simp only [e1, Option.bind_some] at hf
    refine r G σ H F ρ ds _ s e1 fun vs H1 F1 g1 r1 => ?_
    refine ⟨F1, ds, d, ?_, g1.fh, ?_, hf, fun v H' F' g x => q v H' F' (g1.trans g) x⟩
    · rw [List.append_nil, r1.length, ← hn]; exact hl ρ ds e1
    · rw [List.append_nil]; exact r1
theorem dn_call (FO : FnOk X.prog X.w X.K X.mg X.base CX0 k fad fd ps (SpD X.K true n Fn)) (hn : es.length + 1 = n) (ha : DA X O (e :: es) fa)
    (hp : ∀ t, PA X (e :: es) t → PE X (.Call (.Name x p) (e :: es) [] pos) (tCall (SpD X.K true n Fn) [] E0 t)) : DN X O (.Call (.Name x p) (e :: es) [] pos) (callL Fn fa) := by
  obtain ⟨⟨t, pt, r⟩, hl⟩ := ha
  refine ⟨_, hp t pt, fun G σ H F ρ ds2 Q s hf q => ?_⟩
  unfold callL at hf
  cases e1 : fa ρ with
  | none => simp [e1] at hf
  | some ds =>
    rw [e1, Option.bind_some] at hf
    cases e2 : Fn ds with
    | none => rw [e2] at hf; cases hf
    | some d =>
      cases d with
      | list ds3 =>
        rw [e2] at hf
        have hf : some ds3 = some ds2 := hf
        cases hf
        refine r G σ H F ρ ds _ s e1 fun vs H1 F1 g1 r1 => ?_
        refine ⟨F1, ds, _, ?_, g1.fh, ?_, e2, fun v H' F' g x => ?_⟩
        · rw [List.append_nil, r1.length, ← hn]; exact hl ρ ds e1
        · rw [List.append_nil]; exact r1
        · obtain ⟨a, us, ds4, rfl, e5, h1, h2, h3, h4⟩ := x
          cases e5
          exact q a us H' F' (g1.trans g) (free_of g1.hh h2) h1 h3 h4
      | _ => rw [e2] at hf; cases hf
end
end DL

/-! DL, part 4: built-ins, comprehensions, lists put together. -/
namespace DL
open PySem PySem.Spec PyProof.Rows L2
section
variable {X : Cx} {O : List Nat} {e a1 a2 : Expr} {es : List Expr} {f g : EF} {fa : AF} {pos p : Pos} {x : Str} {id T : String}

/-! ### a built-in of one argument that may be read -/
theorem pa_one {te : TE} (p : PE X e te) (hs : starEach (e :: []) X.env = (false, eval e X.env) :: starEach [] X.env := by rfl) : PA X [e] (tCons te tNil) := pa_cons p pa_nil hs
def BiD (X : Cx) (r : List V → Hp → VK → Prop) (op : D → Option D) : Prop := ∀ (F H : Hp) (v : V) (c d : D) (Q : VK), Same F H → RepR X.K F H v c → op c = some d → (∀ v H' F', Grow F H F' H' → Rep X.K F' v d → Q v H') → r [v] H Q
def BiL (X : Cx) (r : List V → Hp → VK → Prop) (op : D → Option (List D)) : Prop := ∀ (F H : Hp) (v : V) (c : D) (ds : List D) (Q : VK), Same F H → RepR X.K F H v c → op c = some ds →
  (∀ a vs H' F', Grow F H F' H' → H a = none → H' a = some (.lst vs) → F' a = none → DpAll X.K F' vs ds → Q (.ref a) H') → r [v] H Q
theorem de_bi {r : List V → Hp → VK → Prop} {op : D → Option D} {call : Expr} (ho : BiD X r op) (ha : DR X O e f) (hp : ∀ t, PE X e t → PE X call (tCB r (tCons t tNil))) : DE X O call (o1 op f) := by
  obtain ⟨t, pt, rd⟩ := ha
  refine ⟨_, hp t pt, fun G σ H F ρ d Q s hf q => ?_⟩
  unfold o1 at hf
  cases e1 : f ρ with
  | none => simp [e1] at hf
  | some c =>
    simp only [e1, Option.bind_some] at hf
    exact rd G σ H F ρ c _ s e1 fun v H1 F1 g1 r1 => ho F1 H1 v c d Q g1.fh r1 hf fun v H2 F2 g2 r2 => q v H2 F2 (g1.trans g2) r2
def o1L (op : D → Option (List D)) (f : EF) : AF := fun ρ => (f ρ).bind op
theorem dn_bi {r : List V → Hp → VK → Prop} {op : D → Option (List D)} {call : Expr} (ho : BiL X r op) (ha : DR X O e f) (hp : ∀ t, PE X e t → PE X call (tCB r (tCons t tNil))) : DN X O call (o1L op f) := by
  obtain ⟨t, pt, rd⟩ := ha
  refine ⟨_, hp t pt, fun G σ H F ρ d Q s hf q => ?_⟩
  unfold o1L at hf
  cases e1 : f ρ with
  | none => simp [e1] at hf
  | some c =>
    simp only [e1, Option.bind_some] at hf
    exact rd G σ H F ρ c _ s e1 fun v H1 F1 g1 r1 => ho F1 H1 v c d Q g1.fh r1 hf fun a vs H2 F2 g2 hn h1 h2 h3 => q a vs H2 F2 (g1.trans g2) (free_of g1.hh hn) h1 h2 h3
theorem RepR.int_inv {K : PySem.W.Frag} {F H : Hp} {v : V} {i : Int} (h : RepR K F H v (.int i)) : v = .int i := by
  rcases h with h | ⟨a, vs, ds, rfl, e, _⟩
  · exact h.int_inv
  · cases e
theorem RepR.bl_inv {K : PySem.W.Frag} {F H : Hp} {v : V} {i : Bool} (h : RepR K F H v (.bool i)) : v = .bl i := by
  rcases h with h | ⟨a, vs, ds, rfl, e, _⟩
  · exact h.bl_inv
  · cases e
def absD : D → Option D
  | .int i => some (.int (if i < 0 then -i else i))
  | _ => none
theorem bi_abs : BiD X (fun xs H Q => ∃ i, xs = [.int i] ∧ Q (.int (if i < 0 then -i else i)) H) absD := fun F H v c d Q hs r h q => by
  cases c <;> simp [absD] at h
  subst h
  exact ⟨_, by rw [r.int_inv], q _ H F (Grow.refl hs) (.dat (.int _))⟩
def lenD : D → Option D
  | .list ds => some (.int ds.length)
  | .tuple ds => some (.int ds.length)
  | _ => none
theorem bi_len : BiD X (fun xs H Q => ∃ p ys, xs = [.ref p] ∧ (SqL X.K H p ys ∨ SqT X.K H p ys) ∧ Q (.int ys.length) H) lenD := fun F H v c d Q hs r h q => by
  cases c <;> simp [lenD] at h
  · subst h
    obtain ⟨a, vs, rfl, h1, h2⟩ := r.lst_inv hs
    exact ⟨a, vs, rfl, .inl h1, by rw [dpA_length h2]; exact q _ H F (Grow.refl hs) (.dat (.int _))⟩
  · subst h
    obtain ⟨a, vs, rfl, h1, h2⟩ := r.tup_inv
    exact ⟨a, vs, rfl, .inr (same_sqT hs h1), by rw [dpA_length h2]; exact q _ H F (Grow.refl hs) (.dat (.int _))⟩
def toIntD : D → Option D
  | .int i => some (.int i)
  | .bool k => some (.int (if k then 1 else 0))
  | _ => none
theorem bi_int : BiD X (fun xs H Q => (∃ i, xs = [.int i] ∧ Q (.int i) H) ∨ ∃ k, xs = [.bl k] ∧ Q (.int (if k then 1 else 0)) H) toIntD := fun F H v c d Q hs r h q => by
  cases c <;> simp [toIntD] at h
  · subst h; exact .inr ⟨_, by rw [r.bl_inv], q _ H F (Grow.refl hs) (.dat (.int _))⟩
  · subst h; exact .inl ⟨_, by rw [r.int_inv], q _ H F (Grow.refl hs) (.dat (.int _))⟩
/-- list(x), of a list or a tuple -/
def listD : D → Option (List D)
  | .list ds => some ds
  | .tuple ds => some ds
  | _ => none
theorem bi_list : BiL X (fun xs H Q => ∃ p ys, xs = [.ref p] ∧ (SqL X.K H p ys ∨ SqT X.K H p ys) ∧ ∀ l, H l = none → Q (.ref l) (upd H l (.lst ys))) listD := fun F H v c ds Q hs r h q => by
  cases c <;> simp [listD] at h
  · subst h
    obtain ⟨a, vs, rfl, h1, h2⟩ := r.lst_inv hs
    exact ⟨a, vs, rfl, .inl h1, fun l hl => q l vs _ F (Grow.newOwn hs hl) hl upd_same (free_of hs hl) h2⟩
  · subst h
    obtain ⟨a, vs, rfl, h1, h2⟩ := r.tup_inv
    exact ⟨a, vs, rfl, .inr (same_sqT hs h1), fun l hl => q l vs _ F (Grow.newOwn hs hl) hl upd_same (free_of hs hl) h2⟩
/-- a list of ints, as ints -/
def intsD : List D → Option (List Int)
  | [] => some []
  | .int i :: r => (intsD r).map (i :: ·)
  | _ => none
theorem dp_ints {K : PySem.W.Frag} {F : Hp} : ∀ {vs : List V} {ds : List D} {ns : List Int}, DpAll K F vs ds → intsD ds = some ns → vs = ns.map V.int
  | _, _, _, .nil, h => by cases h; rfl
  | _, _, _, .cons (d := d) r t, h => by
    cases d with
    | int i =>
      cases r
      simp only [intsD] at h
      cases e : intsD _ with
      | none => rw [e] at h; cases h
      | some ns =>
        rw [e] at h
        simp at h; subst h
        simp [dp_ints t e]
    | _ => cases h
def sumD : D → Option D
  | .list ds => (intsD ds).map fun ns => .int ns.sum
  | _ => none
theorem bi_sum : BiD X (rSum X.K) sumD := fun F H v c d Q hs r h q => by
  cases c with
  | list ds =>
    simp only [sumD] at h
    cases e : intsD ds with
    | none => rw [e] at h; cases h
    | some ns =>
      rw [e] at h
      simp at h; subst h
      obtain ⟨a, vs, rfl, h1, h2⟩ := r.lst_inv hs
      have := dp_ints h2 e
      subst this
      exact ⟨a, ns, rfl, h1, q _ H F (Grow.refl hs) (.dat (.int _))⟩
  | _ => cases h
def leastI : List Int → Option Int
  | [] => none
  | a :: r => some (r.foldl (fun m x => if x < m then x else m) a)
def mostI : List Int → Option Int
  | [] => none
  | a :: r => some (r.foldl (fun m x => if m < x then x else m) a)
theorem least_fold : ∀ (r : List Int) (a : Int), let m := r.foldl (fun m x => if x < m then x else m) a
    (m = a ∨ m ∈ r) ∧ m ≤ a ∧ ∀ x ∈ r, m ≤ x
  | [], a => ⟨.inl rfl, Int.le_refl _, fun _ h => by cases h⟩
  | b :: r, a => by
    have ih := least_fold r (if b < a then b else a)
    simp only [List.foldl_cons]
    obtain ⟨h1, h2, h3⟩ := ih
    refine ⟨?_, ?_, ?_⟩
    · rcases h1 with h | h
      · by_cases hb : b < a
        · rw [if_pos hb] at h ⊢; exact .inr (by rw [h]; exact List.mem_cons_self)
        · rw [if_neg hb] at h ⊢; exact .inl h
      · exact .inr (List.mem_cons_of_mem _ h)
    · refine Int.le_trans h2 ?_
      split <;> omega
    · intro x hx
      rcases List.mem_cons.mp hx with rfl | hx
      · refine Int.le_trans h2 ?_
        split <;> omega
      · exact h3 x hx
theorem most_fold : ∀ (r : List Int) (a : Int), let m := r.foldl (fun m x => if m < x then x else m) a
    (m = a ∨ m ∈ r) ∧ a ≤ m ∧ ∀ x ∈ r, x ≤ m
  | [], a => ⟨.inl rfl, Int.le_refl _, fun _ h => by cases h⟩
  | b :: r, a => by
    have ih := most_fold r (if a < b then b else a)
    simp only [List.foldl_cons]
    obtain ⟨h1, h2, h3⟩ := ih
    refine ⟨?_, ?_, ?_⟩
    · rcases h1 with h | h
      · by_cases hb : a < b
        · rw [if_pos hb] at h ⊢; exact .inr (by rw [h]; exact List.mem_cons_self)
        · rw [if_neg hb] at h ⊢; exact .inl h
      · exact .inr (List.mem_cons_of_mem _ h)
    · refine Int.le_trans ?_ h2
      split <;> omega
    · intro x hx
      rcases List.mem_cons.mp hx with rfl | hx
      · refine Int.le_trans ?_ h2
        split <;> omega
      · exact h3 x hx
theorem least_spec {ns : List Int} {m : Int} (h : leastI ns = some m) : m ∈ ns ∧ ∀ x ∈ ns, m ≤ x := by
  cases ns with
  | nil => cases h
  | cons a r =>
    have h := Option.some.inj h
    have := least_fold r a
    rw [h] at this
    obtain ⟨h1, h2, h3⟩ := this
    refine ⟨?_, fun x hx => ?_⟩
    · rcases h1 with rfl | h
      · exact List.mem_cons_self
      · exact List.mem_cons_of_mem _ h
    · rcases List.mem_cons.mp hx with rfl | hx
      · exact h2
      · exact h3 x hx
theorem most_spec {ns : List Int} {m : Int} (h : mostI ns = some m) : m ∈ ns ∧ ∀ x ∈ ns, x ≤ m := by
  cases ns with
  | nil => cases h
  | cons a r =>
    have h := Option.some.inj h
    have := most_fold r a
    rw [h] at this
    obtain ⟨h1, h2, h3⟩ := this
    refine ⟨?_, fun x hx => ?_⟩
    · rcases h1 with rfl | h
      · exact List.mem_cons_self
      · exact List.mem_cons_of_mem _ h
    · rcases List.mem_cons.mp hx with rfl | hx
      · exact h2
      · exact h3 x hx
def minD : D → Option D
  | .list ds => (intsD ds).bind fun ns => (leastI ns).map .int
  | _ => none
def maxD : D → Option D
  | .list ds => (intsD ds).bind fun ns => (mostI ns).map .int
  | _ => none
theorem bi_min : BiD X (rMin X.K) minD := fun F H v c d Q hs r h q => by
  cases c with
  | list ds =>
    simp only [minD] at h
    cases e : intsD ds with
    | none => rw [e] at h; cases h
    | some ns =>
      rw [e, Option.bind_some] at h
      cases e2 : leastI ns with
      | none => rw [e2] at h; cases h
      | some m0 =>
        rw [e2] at h
        simp at h; subst h
        obtain ⟨a, vs, rfl, h1, h2⟩ := r.lst_inv hs
        have := dp_ints h2 e
        subst this
        obtain ⟨k1, k2⟩ := least_spec e2
        refine ⟨a, ns, rfl, h1, List.length_pos_of_mem k1, fun m hm hle => ?_⟩
        have : m = m0 := Int.le_antisymm (hle m0 k1) (k2 m hm)
        subst this
        exact q _ H F (Grow.refl hs) (.dat (.int _))
  | _ => cases h
theorem bi_max : BiD X (rMax X.K) maxD := fun F H v c d Q hs r h q => by
  cases c with
  | list ds =>
    simp only [maxD] at h
    cases e : intsD ds with
    | none => rw [e] at h; cases h
    | some ns =>
      rw [e, Option.bind_some] at h
      cases e2 : mostI ns with
      | none => rw [e2] at h; cases h
      | some m0 =>
        rw [e2] at h
        simp at h; subst h
        obtain ⟨a, vs, rfl, h1, h2⟩ := r.lst_inv hs
        have := dp_ints h2 e
        subst this
        obtain ⟨k1, k2⟩ := most_spec e2
        refine ⟨a, ns, rfl, h1, List.length_pos_of_mem k1, fun m hm hle => ?_⟩
        have : m = m0 := Int.le_antisymm (k2 m hm) (hle m0 k1)
        subst this
        exact q _ H F (Grow.refl hs) (.dat (.int _))
  | _ => cases h
/-- a built-in of two ints -/
def max2D : D → D → Option D
  | .int i, .int j => some (.int (if j > i then j else i))
  | _, _ => none
def min2D : D → D → Option D
  | .int i, .int j => some (.int (if j < i then j else i))
  | _, _ => none
theorem de_max2 {call : Expr} (ha : DE X O a1 f) (hb : DE X O a2 g) (hs : starEach (a1 :: [a2]) X.env = (false, eval a1 X.env) :: starEach [a2] X.env := by rfl) (hs2 : starEach (a2 :: []) X.env = (false, eval a2 X.env) :: starEach [] X.env := by rfl)
    (hp : ∀ t, PA X [a1, a2] t → PE X call (tCB (fun xs H Q => ∃ i j, xs = [.int i, .int j] ∧ Q (.int (if j > i then j else i)) H) t)) : DE X O call (o2 max2D f g) := by
  obtain ⟨⟨t, p, r⟩, _⟩ := da_cons ha (da_cons hb da_nil hs2) hs
  refine ⟨_, hp t p, fun G σ H F ρ d Q s hf q => ?_⟩
  unfold o2 at hf
  cases e1 : f ρ with
  | none => simp [e1] at hf
  | some x =>
    cases e2 : g ρ with
    | none => simp [e1, e2] at hf
    | some y =>
      simp only [e1, e2, Option.bind_some] at hf
      refine r G σ H F ρ [x, y] _ s (by simp [consA, nilA, e1, e2]) fun vs H' F' g' r1 => ?_
      cases x <;> cases y <;> simp [max2D] at hf
      subst hf
      cases r1 with
      | cons ra rb =>
        cases rb with
        | cons rb rn =>
          cases rn
          exact ⟨_, _, by rw [ra.int_inv, rb.int_inv], q _ H' F' g' (.dat (.int _))⟩
theorem de_min2 {call : Expr} (ha : DE X O a1 f) (hb : DE X O a2 g) (hs : starEach (a1 :: [a2]) X.env = (false, eval a1 X.env) :: starEach [a2] X.env := by rfl) (hs2 : starEach (a2 :: []) X.env = (false, eval a2 X.env) :: starEach [] X.env := by rfl)
    (hp : ∀ t, PA X [a1, a2] t → PE X call (tCB (fun xs H Q => ∃ i j, xs = [.int i, .int j] ∧ Q (.int (if j < i then j else i)) H) t)) : DE X O call (o2 min2D f g) := by
  obtain ⟨⟨t, p, r⟩, _⟩ := da_cons ha (da_cons hb da_nil hs2) hs
  refine ⟨_, hp t p, fun G σ H F ρ d Q s hf q => ?_⟩
  unfold o2 at hf
  cases e1 : f ρ with
  | none => simp [e1] at hf
  | some x =>
    cases e2 : g ρ with
    | none => simp [e1, e2] at hf
    | some y =>
      simp only [e1, e2, Option.bind_some] at hf
      refine r G σ H F ρ [x, y] _ s (by simp [consA, nilA, e1, e2]) fun vs H' F' g' r1 => ?_
      cases x <;> cases y <;> simp [min2D] at hf
      subst hf
      cases r1 with
      | cons ra rb =>
        cases rb with
        | cons rb rn =>
          cases rn
          exact ⟨_, _, by rw [ra.int_inv, rb.int_inv], q _ H' F' g' (.dat (.int _))⟩

/-! ### isinstance with a built-in class -/
def tyD : D → String
  | .none => "NoneType"
  | .bool _ => "bool"
  | .int _ => "int"
  | .str _ => "str"
  | .list _ => "list"
  | .tuple _ => "tuple"
  | .dict _ => "?"
theorem tyx_of {K : PySem.W.Frag} {F H : Hp} {v : V} {d : D} (hs : Same F H) (r : RepR K F H v d) (hp : plainD d = true) : TyX K H v (.type (tyD d)) := by
  have lst : ∀ {a : Addr} {vs : List V}, SqL K H a vs → TyX K H (.ref a) (.type "list") := fun {a vs} h => by
    rcases h with (h | ⟨o, h⟩) | ⟨o, its, n, h1, h2, _⟩
    · exact .base (.lst h)
    · exact .base (.frz h)
    · exact .kList h1 h2
  have tup : ∀ {a : Addr} {vs : List V}, SqT K H a vs → TyX K H (.ref a) (.type "tuple") := fun {a vs} h => by
    rcases h with (h | ⟨o, h⟩) | ⟨o, its, n, h1, h2, _⟩
    · exact .base (.tup h)
    · exact .fTuple h
    · exact .kTuple h1 h2
  cases d with
  | none => rcases r with r | ⟨_, _, _, _, e, _⟩; rw [r.non_inv]; exact .base .non; cases e
  | bool b => rw [r.bl_inv]; exact .base (.bl b)
  | int i => rw [r.int_inv]; exact .base (.int i)
  | str x =>
    rcases r with r | ⟨_, _, _, _, e, _⟩
    · cases r with | dat r => cases r; exact .base (.str x)
    · cases e
  | list ds => obtain ⟨a, vs, rfl, h1, _⟩ := r.lst_inv hs; exact lst h1
  | tuple ds => obtain ⟨a, vs, rfl, h1, _⟩ := r.tup_inv; exact tup (same_sqT hs h1)
  | dict _ => cases hp
/-- isinstance's answer -/
def isiD (T : String) (d : D) : Option D := if plainD d = true then (kitB (tyD d) T).map .bool else none
theorem de_isi {call : Expr} (ha : DR X O e f) (hp : ∀ t, PE X e t → PE X call (tCB (rIsi X.K) (tCons t (tCons (tC (.ty T)) tNil)))) : DE X O call (o1 (isiD T) f) := by
  obtain ⟨t, pt, rd⟩ := ha
  refine ⟨_, hp t pt, fun G σ H F ρ d Q s hf q => ?_⟩
  unfold o1 at hf
  cases e1 : f ρ with
  | none => simp [e1] at hf
  | some c =>
    simp only [e1, Option.bind_some] at hf
    unfold isiD at hf
    by_cases hc : plainD c = true
    · rw [if_pos hc] at hf
      cases e2 : kitB (tyD c) T with
      | none => rw [e2] at hf; cases hf
      | some b =>
        rw [e2] at hf
        cases hf
        exact rd G σ H F ρ c _ s e1 fun v H1 F1 g1 r1 => ⟨v, .ty T, .type (tyD c), .type T, b, rfl, .ty T, tyx_of g1.fh r1 hc, kit_ty e2, q _ H1 F1 g1 (.dat (.bl _))⟩
    · rw [if_neg hc] at hf; cases hf

/-! ### list + list -/
def rCatL (K : PySem.W.Frag) : R2 := fun x y H Q => ∃ l b xs zs, x = .ref l ∧ y = .ref b ∧ SqL K H l xs ∧ SqL K H b zs ∧ xs.length + zs.length ≤ sizeLine ∧ ∀ p, H p = none → Q (.ref p) (upd H p (.lst (xs ++ zs)))
theorem op_catL : OpR X (binaryOp .Add) (rCatL X.K) := by
  intro pins s σ H x y v u Q I rx ry h
  obtain ⟨l, b, xs, zs, rfl, rfl, hH, hB, hz, q⟩ := h
  cases rx
  cases ry
  obtain ⟨its, r, pl, _⟩ := I.list hH
  obtain ⟨its2, r2, pl2, _⟩ := I.list hB
  obtain ⟨⟨cls, dd, data, sl⟩, ho, hc, n, hd⟩ := id pl.isList
  obtain ⟨⟨cls2, dd2, data2, sl2⟩, ho2, hc2, n2, hd2⟩ := id pl2.isList
  simp only at hc hd hc2 hd2
  subst hc hd hc2 hd2
  have e : its.toArray ++ its2.toArray = (its ++ its2).toArray := by simp
  have hsz : its.length + its2.length ≤ sizeLine := by rw [← r.length, ← r2.length]; exact hz
  refine concat_meets ⟨_, ho, rfl⟩ ⟨_, ho2, rfl⟩ noFill_list_add seq_list_add PySem.F.slot_list_add PySem.F.entry_list_add (PySem.F.args_list_add_2 _ _) (PyProof.Rows.list_addW l b its.toArray its2.toArray n n2 dd dd2 sl sl2 (by simpa using hsz)) ⟨ho, ho2, ?_⟩
  rw [e]
  exact ⟨.ref _, _, I.lnew (t' := s.toks) (r.append r2) (by rw [List.length_append]; omega), rfl, q _ I.fresh⟩
def catA (f g : EF) : AF := fun ρ => match f ρ, g ρ with
  | some (.list xs), some (.list ys) => if xs.length + ys.length ≤ sizeLine then some (xs ++ ys) else none
  | _, _ => none
theorem dn_cat (ha : DR X O a1 f) (hb : DR X O a2 g) : DN X O (.BinOp a1 .Add a2 pos) (catA f g) := by
  obtain ⟨ta, pa, ra⟩ := ha
  obtain ⟨tb, pb, rb⟩ := hb
  refine ⟨_, pe_op op_catL pa pb, fun G σ H F ρ ds Q s hf q => ?_⟩
  unfold catA at hf
  cases e1 : f ρ with
  | none => simp [e1] at hf
  | some c =>
    cases e2 : g ρ with
    | none => cases c <;> simp [e1, e2] at hf
    | some c2 =>
      cases c with
      | list xs =>
        cases c2 with
        | list ys =>
          simp only [e1, e2] at hf
          by_cases hl : xs.length + ys.length ≤ sizeLine
          · rw [if_pos hl] at hf
            have hf := Option.some.inj hf
            subst hf
            refine ra G σ H F ρ _ _ s e1 fun v H1 F1 g1 r1 => ?_
            refine rb G σ H1 F1 ρ _ _ (s.grow g1) e2 fun w H2 F2 g2 r2 => ?_
            obtain ⟨a, vs, rfl, h1, h2⟩ := (r1.grow g2).lst_inv g2.fh
            obtain ⟨b, ws, rfl, k1, k2⟩ := r2.lst_inv g2.fh
            refine ⟨a, b, vs, ws, rfl, rfl, h1, k1, by rw [dpA_length h2, dpA_length k2]; exact hl, fun p hn => ?_⟩
            have gg := g1.trans g2
            exact q p _ _ F2 (gg.trans (Grow.newOwn gg.fh hn)) (free_of gg.hh hn) upd_same (free_of gg.fh hn) (dpA_append h2 k2)
          · rw [if_neg hl] at hf; cases hf
        | _ => simp [e1, e2] at hf
      | _ => simp [e1, e2] at hf

end
end DL

/-! DL, part 5: comprehensions. -/
namespace DL
open PySem PySem.Spec PyProof.Rows L2
section
variable {X : Cx} {O : List Nat} {e a1 a2 : Expr} {es : List Expr} {f g : EF} {fa : AF} {pos p : Pos} {x : Str} {id T : String}
/-! ### comprehensions -/
def wipeR (ρ : Rho) : List Nat → Rho
  | [] => ρ
  | v :: vs => (wipeR ρ vs).set v none
theorem getv_set_none {ρ : Rho} {i j : Nat} {d : D} (h : getv (ρ.set i none) j = some d) : j ≠ i ∧ getv ρ j = some d := by
  unfold getv at h ⊢
  by_cases hj : j = i
  · subst hj
    by_cases hl : j < ρ.length
    · rw [List.getElem?_set_self hl] at h; cases h
    · rw [List.getElem?_eq_none (by simpa using hl)] at h; cases h
  · rw [List.getElem?_set_ne (Ne.symm hj)] at h
    exact ⟨hj, h⟩
theorem StRep.unset {K : PySem.W.Frag} {G : Ent} {σ : Sg} {H F : Hp} {ρ : Rho} (s : StRep K G O σ H ρ F) (i : Nat) : StRep K G O (σ.set i none) H (ρ.set i none) F where
  len := by simpa using s.len
  g := s.g
  dat := fun j d hj hd => by
    obtain ⟨hji, hd⟩ := getv_set_none hd
    obtain ⟨v, e1, e2⟩ := s.dat j d hj hd
    exact ⟨v, by rw [List.getElem?_set_ne (Ne.symm hji)]; exact e1, e2⟩
  own := fun j d hj hd => by
    obtain ⟨hji, hd⟩ := getv_set_none hd
    obtain ⟨v, e1, e2⟩ := s.own j d hj hd
    exact ⟨v, by rw [List.getElem?_set_ne (Ne.symm hji)]; exact e1, e2⟩
  new := fun j d a hj hd hs => by
    obtain ⟨hji, hd⟩ := getv_set_none hd
    rw [List.getElem?_set_ne (Ne.symm hji)] at hs
    exact s.new j d a hj hd hs
  dis := fun j k d e a hj hk hjk hd he hs => by
    obtain ⟨hji, hd⟩ := getv_set_none hd
    obtain ⟨hki, he⟩ := getv_set_none he
    rw [List.getElem?_set_ne (Ne.symm hji)] at hs
    rw [List.getElem?_set_ne (Ne.symm hki)]
    exact s.dis j k d e a hj hk hjk hd he hs
theorem StRep.wipe {K : PySem.W.Frag} {G : Ent} {σ : Sg} {H F : Hp} {ρ : Rho} (s : StRep K G O σ H ρ F) : ∀ vs : List Nat, StRep K G O (L2.wipe σ vs) H (wipeR ρ vs) F
  | [] => s
  | v :: vs => (StRep.wipe s vs).unset v
def compL (g : TgF) (c : BF) (f : EF) (ρ : Rho) : List D → Option (List D)
  | [] => some []
  | d :: ds => (g d ρ).bind fun ρ2 => (c ρ2).bind fun b => if b = true then (f ρ2).bind fun y => if plainD y = true then (compL g c f ρ ds).map (y :: ·) else none else compL g c f ρ ds
def compA (vs : List Nat) (it : AF) (g : TgF) (c : BF) (f : EF) : AF := fun ρ => (it ρ).bind fun ds => if ds.length < sizeLine then compL g c f (wipeR ρ vs) ds else none
theorem compL_len {g : TgF} {c : BF} {f : EF} {ρ : Rho} : ∀ {ds r : List D}, compL g c f ρ ds = some r → r.length ≤ ds.length
  | [], r, h => by cases h; exact Nat.le_refl _
  | d :: ds, r, h => by
    simp only [compL] at h
    cases e1 : g d ρ with
    | none => simp [e1] at h
    | some ρ2 =>
      simp only [e1, Option.bind_some] at h
      cases e2 : c ρ2 with
      | none => simp [e2] at h
      | some b =>
        simp only [e2, Option.bind_some] at h
        cases b with
        | false => rw [if_neg Bool.false_ne_true] at h; have := compL_len h; simp; omega
        | true =>
          rw [if_pos rfl] at h
          cases e3 : f ρ2 with
          | none => simp [e3] at h
          | some y =>
            simp only [e3, Option.bind_some] at h
            by_cases hp : plainD y = true
            · rw [if_pos hp] at h
              cases e4 : compL g c f ρ ds with
              | none => simp [e4] at h
              | some r' => simp [e4] at h; subst h; have := compL_len e4; simp; omega
            · rw [if_neg hp] at h; cases h
/-- tests of a comprehension -/
def DTs (X : Cx) (O : List Nat) (ifs : List Expr) (f : BF) : Prop := ∃ t, PTs X ifs t ∧ ∀ (G : Ent) (σ : Sg) (H F : Hp) (ρ : Rho) (b : Bool) (Q : Bool → Hp → Prop),
  StRep X.K G O σ H ρ F → f ρ = some b → (∀ H' F', Grow F H F' H' → Q b H') → t σ H Q
def yesB : BF := fun _ => some true
theorem dts_nil : DTs X O [] yesB := ⟨_, pts_nil, fun G σ H F ρ b Q s hf q => by cases hf; exact q H F (Grow.refl s.sub)⟩
theorem dts_one {c : BF} (h : DT X O e c) : DTs X O [e] c := let ⟨t, p, r⟩ := h; ⟨t, pts_one p, r⟩
theorem wipe_get {j : Nat} {τ : Sg} : ∀ {ws : List Nat}, j ∈ ws → (L2.wipe τ ws)[j]? = if j < τ.length then some none else none := by
  intro ws
  induction ws with
  | nil => intro h; cases h
  | cons w ws ih =>
    intro h
    unfold L2.wipe
    by_cases hw : w = j
    · subst hw
      by_cases hl : w < τ.length
      · rw [if_pos hl, List.getElem?_set_self (by rw [wipe_length]; exact hl)]
      · rw [if_neg hl]; exact List.getElem?_eq_none (by rw [List.length_set, wipe_length]; omega)
    · rw [List.getElem?_set_ne hw]
      rcases List.mem_cons.mp h with z | z
      · exact absurd z.symm hw
      · exact ih z
theorem wipe_set_mem {σ : Sg} {v : Option V} {i : Nat} {vs : List Nat} (hi : i ∈ vs) : L2.wipe ((L2.wipe σ vs).set i v) vs = L2.wipe σ vs := by
  apply List.ext_getElem?
  intro j
  by_cases hj : j ∈ vs
  · rw [wipe_get hj, wipe_get hj, List.length_set, wipe_length]
  · rw [wipe_out hj, List.getElem?_set_ne (show i ≠ j from fun z => hj (z ▸ hi))]
theorem wipe_set_two {σ : Sg} {v w : Option V} {i k : Nat} {vs : List Nat} (hi : i ∈ vs) (hk : k ∈ vs) : L2.wipe (((L2.wipe σ vs).set i v).set k w) vs = L2.wipe σ vs := by
  apply List.ext_getElem?
  intro j
  by_cases hj : j ∈ vs
  · rw [wipe_get hj, wipe_get hj, List.length_set, List.length_set, wipe_length]
  · rw [wipe_out hj, List.getElem?_set_ne (show k ≠ j from fun z => hj (z ▸ hk)), List.getElem?_set_ne (show i ≠ j from fun z => hj (z ▸ hi))]
/-- the target stores only the comprehension's own names -/
def OwnG (X : Cx) (O : List Nat) (vs : List Nat) (tg : Expr) (g : TgF) : Prop := ∃ t, PG X tg t ∧ ∀ (G : Ent) (v : V) (d : D) (σ : Sg) (H F : Hp) (ρ ρ' : Rho) (Q : Sg → Hp → Prop),
  StRep X.K G O (L2.wipe σ vs) H (wipeR ρ vs) F → Rep X.K F v d → g d (wipeR ρ vs) = some ρ' → (∀ σ', StRep X.K G O σ' H ρ' F → L2.wipe σ' vs = L2.wipe σ vs → Q σ' H) → t v (L2.wipe σ vs) H Q
end
section
variable {X : Cx} {O : List Nat} {e a1 a2 : Expr} {pos p : Pos} {x : Str}
theorem noDrop {i : Nat} (h : O.contains i = false) : dropO O i = O := by
  unfold dropO
  refine List.filter_eq_self.mpr fun a ha => ?_
  have : a ≠ i := fun z => by subst z; rw [List.contains_iff_mem.mpr ha] at h; cases h
  simpa using this
theorem og_name (i : Nat) {vs : List Nat} (hi : vs.contains i = true) (hO : O.contains i = false) (h : PG X (.Name x pos) (gName i)) : OwnG X O vs (.Name x pos) (nameG i) := by
  refine ⟨_, h, fun G v d σ H F ρ ρ' Q s r hg q => ?_⟩
  cases hg
  have s' := s.set i r
  rw [noDrop hO] at s'
  exact q _ s' (wipe_set_mem (List.contains_iff_mem.mp hi))
theorem dpA_two {K : PySem.W.Frag} {F : Hp} {us : List V} {ds : List D} (h : DpAll K F us ds) (hl : ds.length = 2) : ∃ u1 u2 c1 c2, us = [u1, u2] ∧ ds = [c1, c2] ∧ Dp K F u1 c1 ∧ Dp K F u2 c2 := by
  cases h with
  | nil => cases hl
  | cons r1 t1 =>
    cases t1 with
    | nil => cases hl
    | cons r2 t2 =>
      cases t2 with
      | nil => exact ⟨_, _, _, _, rfl, rfl, r1, r2⟩
      | cons r3 t3 => simp at hl
theorem og_two (i j : Nat) {vs : List Nat} {y : Str} {p1 p2 : Pos} {k : Nat} (hi : vs.contains i = true) (hj : vs.contains j = true) (hO : O.contains i = false) (hO2 : O.contains j = false)
    (h : PG X (.Tuple [.Name x p1, .Name y p2] k pos) (gTup X.K 2 (gCons (gName i) (gCons (gName j) gNil)))) : OwnG X O vs (.Tuple [.Name x p1, .Name y p2] k pos) (tupG 2 (consG (nameG i) (consG (nameG j) nilG))) := by
  refine ⟨_, h, fun G v d σ H F ρ ρ' Q s r hg q => ?_⟩
  cases d with
  | tuple ds =>
    have hg : (if ds.length = 2 then consG (nameG i) (consG (nameG j) nilG) ds (wipeR ρ vs) else none) = some ρ' := hg
    by_cases hl : ds.length = 2
    · rw [if_pos hl] at hg
      obtain ⟨a, us, rfl, h1, h2⟩ := r.tup_inv
      obtain ⟨u1, u2, c1, c2, rfl, rfl, r1, r2⟩ := dpA_two h2 hl
      have hg : some (((wipeR ρ vs).set i (some c1)).set j (some c2)) = some ρ' := hg
      have hg := Option.some.inj hg
      subst hg
      refine ⟨a, [u1, u2], rfl, same_sqT s.sub h1, rfl, u1, [u2], rfl, ?_⟩
      refine ⟨u2, [], rfl, rfl, ?_⟩
      have s1 := s.set i (.dat r1)
      rw [noDrop hO] at s1
      have s2 := s1.set j (.dat r2)
      rw [noDrop hO2] at s2
      exact q _ s2 (wipe_set_two (List.contains_iff_mem.mp hi) (List.contains_iff_mem.mp hj))
    · rw [if_neg hl] at hg; cases hg
  | _ => cases hg
end
section
variable {X : Cx} {O : List Nat} {elt tg iter : Expr} {ifs : List Expr} {scope : Scope} {own : List (Str × Nat)} {pos : Pos} {it : AF} {g : TgF} {c : BF} {f : EF}
/-- a judgement within the comprehension's block -/
def InBlk (X : Cx) (scope : Scope) (J : Cx → Prop) : Prop := ∀ (s : Shared) (H : Hp) (C : Addr) (cl : List (Str × Addr)) (fp : List Addr), J (X.blk s H scope (compEnvC scope cl C X.env) fp)
theorem tLc_ok {wi : TI} {tg' : TG} {tt : TT} {te : TE} {vs : List Nat}
    (ri : ∀ (G : Ent) (σ : Sg) (H F : Hp) (ρ : Rho) (ds : List D) (R : It → Hp → Prop), StRep X.K G O σ H ρ F → it ρ = some ds → (∀ J H' F', Grow F H F' H' → Iters X.K J F' ds → R J H') → wi σ H R)
    (rg : ∀ (G : Ent) (v : V) (d : D) (σ : Sg) (H F : Hp) (ρ ρ' : Rho) (Q : Sg → Hp → Prop), StRep X.K G O (L2.wipe σ vs) H (wipeR ρ vs) F → Rep X.K F v d → g d (wipeR ρ vs) = some ρ' → (∀ σ', StRep X.K G O σ' H ρ' F → L2.wipe σ' vs = L2.wipe σ vs → Q σ' H) → tg' v (L2.wipe σ vs) H Q)
    (rt : ∀ (G : Ent) (σ : Sg) (H F : Hp) (ρ : Rho) (b : Bool) (Q : Bool → Hp → Prop), StRep X.K G O σ H ρ F → c ρ = some b → (∀ H' F', Grow F H F' H' → Q b H') → tt σ H Q)
    (re : ∀ (G : Ent) (σ : Sg) (H F : Hp) (ρ : Rho) (d : D) (Q : VK), StRep X.K G O σ H ρ F → f ρ = some d → (∀ v H' F', Grow F H F' H' → Rep X.K F' v d → Q v H') → te σ H Q)
    (G : Ent) (σ : Sg) (H F : Hp) (ρ : Rho) (rs : List D) (Q : VK) (s : StRep X.K G O σ H ρ F) (hf : compA vs it g c f ρ = some rs)
    (q : ∀ a vs H' F', Grow F H F' H' → H a = none → H' a = some (.lst vs) → F' a = none → DpAll X.K F' vs rs → Q (.ref a) H') : tLc wi tg' tt te vs σ H Q := by
  unfold compA at hf
  cases e : it ρ with
  | none => simp [e] at hf
  | some ds =>
    simp only [e, Option.bind_some] at hf
    by_cases hlen : ds.length < sizeLine
    · rw [if_pos hlen] at hf
      refine ri G σ H F ρ ds _ s e fun J H1 F1 g1 IT Dd hD => ?_
      have sw : StRep X.K G O (L2.wipe σ vs) H1 (wipeR ρ vs) F1 := (s.grow g1).wipe vs
      -- what holds ahead of turn i: the list made so far, and the rest to come
      refine ⟨fun i n H2 => n = ds.length - i ∧ i ≤ ds.length ∧ ∃ F2 acc ac rest, Grow F1 H1 F2 H2 ∧ F2 Dd = none ∧ H2 Dd = some (.lst acc) ∧ DpAll X.K F2 acc ac ∧ ac.length ≤ i ∧ compL g c f (wipeR ρ vs) (ds.drop i) = some rest ∧ ac ++ rest = rs,
        ⟨ds.length, by simp, Nat.zero_le _, F1, [], [], rs, Grow.newOwn g1.fh hD, free_of g1.fh hD, upd_same, .nil, Nat.le_refl _, by simpa using hf, rfl⟩, ?_⟩
      rintro i n H2 ⟨rfl, hi, F2, acc, ac, rest, g2, hF2, hH2, hac, hal, hc, hrs⟩
      obtain ⟨i1, i2, i3⟩ := IT F2 H2 i g2.ff g2.fh
      by_cases hlt : i < ds.length
      · refine .inr ⟨i1 hlt, fun H3 => i + 1 ≤ ds.length ∧ ∃ F3 acc ac rest, Grow F1 H1 F3 H3 ∧ F3 Dd = none ∧ H3 Dd = some (.lst acc) ∧ DpAll X.K F3 acc ac ∧ ac.length ≤ i + 1 ∧ compL g c f (wipeR ρ vs) (ds.drop (i + 1)) = some rest ∧ ac ++ rest = rs,
          fun H3 w => ⟨ds.length - (i + 1), by omega, rfl, w⟩, fun x H3 y => ?_⟩
        have hd : ds[i]? = some ds[i] := List.getElem?_eq_getElem hlt
        obtain ⟨F3, g3, rx⟩ := i3 x H3 _ y hd
        rw [List.drop_eq_getElem_cons hlt] at hc
        simp only [compL] at hc
        cases e1 : g ds[i] (wipeR ρ vs) with
        | none => simp [e1] at hc
        | some ρ2 =>
          simp only [e1, Option.bind_some] at hc
          cases e2 : c ρ2 with
          | none => simp [e2] at hc
          | some b =>
            simp only [e2, Option.bind_some] at hc
            have s3 : StRep X.K G O (L2.wipe σ vs) H3 (wipeR ρ vs) F3 := (sw.grow g2).grow g3
            refine rg G x _ σ H3 F3 ρ ρ2 _ s3 rx e1 fun σ2 s4 hw => ⟨hw, ?_⟩
            refine rt G σ2 H3 F3 ρ2 b _ s4 e2 fun H4 F4 g4 => ?_
            have g24 : Grow F2 H2 F4 H4 := g3.trans g4
            have g14 : Grow F1 H1 F4 H4 := g2.trans g24
            have hF4 : F4 Dd = none := g24.own _ _ hH2 hF2
            have hH4 : H4 Dd = some (.lst acc) := g24.hh _ _ hH2
            cases b with
            | false =>
              rw [if_neg Bool.false_ne_true] at hc ⊢
              exact ⟨hlt, F4, acc, ac, rest, g14, hF4, hH4, dpAll_mono g24.ff hac, by omega, hc, hrs⟩
            | true =>
              rw [if_pos rfl] at hc ⊢
              cases e3 : f ρ2 with
              | none => simp [e3] at hc
              | some y1 =>
                simp only [e3, Option.bind_some] at hc
                by_cases hp : plainD y1 = true
                · rw [if_pos hp] at hc
                  cases e4 : compL g c f (wipeR ρ vs) (ds.drop (i + 1)) with
                  | none => simp [e4] at hc
                  | some rest2 =>
                    simp [e4] at hc
                    refine re G σ2 H4 F4 ρ2 y1 _ (s4.grow g4) e3 fun v H5 F5 g5 r5 => ?_
                    have g25 := g24.trans g5
                    have hF5 : F5 Dd = none := g25.own _ _ hH2 hF2
                    refine ⟨acc, g25.hh _ _ hH2, by rw [dpA_length hac]; omega, hlt, F5, acc ++ [v], ac ++ [y1], rest2, ?_, hF5, upd_same, dpA_append (dpAll_mono g25.ff hac) (.cons (r5.dp hp) .nil), by simp; omega, rfl, by rw [List.append_assoc, ← hrs, ← hc]; rfl⟩
                    have g15 := g2.trans g25
                    refine ⟨g15.ff, fun b o hb => ?_, fun b o hb => ?_, g15.own⟩
                    · rw [upd_ne (ne_of_none hb hD)]; exact g15.hh b o hb
                    · have : b ≠ Dd := fun z => by subst z; rw [hF5] at hb; cases hb
                      rw [upd_ne this]; exact g15.fh b o hb
                · rw [if_neg hp] at hc; cases hc
      · have hi' : i = ds.length := by omega
        subst hi'
        refine .inl ⟨i2 (Nat.le_refl _), ?_⟩
        rw [List.drop_length] at hc
        have hc : some [] = some rest := hc
        cases hc
        rw [List.append_nil] at hrs
        subst hrs
        exact q Dd acc H2 F2 (g1.trans g2) (free_of g1.hh hD) hH2 hF2 hac
    · rw [if_neg hlen] at hf; cases hf
/-! ### the strongest reading: it does not depend on the context -/
def tE (K : PySem.W.Frag) (O : List Nat) (f : EF) : TE := fun σ H Q => ∃ (G : Ent) (F : Hp) (ρ : Rho) (d : D), StRep K G O σ H ρ F ∧ f ρ = some d ∧ ∀ v H' F', Grow F H F' H' → Rep K F' v d → Q v H'
def tT (K : PySem.W.Frag) (O : List Nat) (c : BF) : TT := fun σ H Q => ∃ (G : Ent) (F : Hp) (ρ : Rho) (b : Bool), StRep K G O σ H ρ F ∧ c ρ = some b ∧ ∀ H' F', Grow F H F' H' → Q b H'
theorem DE_pe {Y : Cx} {e : Expr} {f : EF} (h : DE Y O e f) : PE Y e (tE Y.K O f) := by
  obtain ⟨t, p, r⟩ := h
  exact ⟨fun pins s σ H Q I ⟨G, F, ρ, d, sr, hf, q⟩ => p.run pins s σ H Q I (r G σ H F ρ d Q sr hf q)⟩
theorem DTs_pt {Y : Cx} {ifs : List Expr} {c : BF} (h : DTs Y O ifs c) : PTs Y ifs (tT Y.K O c) := by
  obtain ⟨t, p, r⟩ := h
  exact ⟨fun pins s σ H Q I ⟨G, F, ρ, d, sr, hf, q⟩ => p.run pins s σ H Q I (r G σ H F ρ d Q sr hf q)⟩
/-- the target's reading alone -/
def OwnR (K : PySem.W.Frag) (O vs : List Nat) (t : TG) (g : TgF) : Prop := ∀ (G : Ent) (v : V) (d : D) (σ : Sg) (H F : Hp) (ρ ρ' : Rho) (Q : Sg → Hp → Prop),
  StRep K G O (L2.wipe σ vs) H (wipeR ρ vs) F → Rep K F v d → g d (wipeR ρ vs) = some ρ' → (∀ σ', StRep K G O σ' H ρ' F → L2.wipe σ' vs = L2.wipe σ vs → Q σ' H) → t v (L2.wipe σ vs) H Q
theorem or_name {K : PySem.W.Frag} {vs : List Nat} (i : Nat) (hi : vs.contains i = true) (hO : O.contains i = false) : OwnR K O vs (gName i) (nameG i) := by
  intro G v d σ H F ρ ρ' Q s r hg q
  cases hg
  have s' := s.set i r
  rw [noDrop hO] at s'
  exact q _ s' (wipe_set_mem (List.contains_iff_mem.mp hi))
theorem or_two {K : PySem.W.Frag} {vs : List Nat} (i j : Nat) (hi : vs.contains i = true) (hj : vs.contains j = true) (hO : O.contains i = false) (hO2 : O.contains j = false) :
    OwnR K O vs (gTup K 2 (gCons (gName i) (gCons (gName j) gNil))) (tupG 2 (consG (nameG i) (consG (nameG j) nilG))) := by
  intro G v d σ H F ρ ρ' Q s r hg q
  cases d with
  | tuple ds =>
    have hg : (if ds.length = 2 then consG (nameG i) (consG (nameG j) nilG) ds (wipeR ρ vs) else none) = some ρ' := hg
    by_cases hl : ds.length = 2
    · rw [if_pos hl] at hg
      obtain ⟨a, us, rfl, h1, h2⟩ := r.tup_inv
      obtain ⟨u1, u2, c1, c2, rfl, rfl, r1, r2⟩ := dpA_two h2 hl
      have hg : some (((wipeR ρ vs).set i (some c1)).set j (some c2)) = some ρ' := hg
      have hg := Option.some.inj hg
      subst hg
      refine ⟨a, [u1, u2], rfl, same_sqT s.sub h1, rfl, u1, [u2], rfl, ?_⟩
      refine ⟨u2, [], rfl, rfl, ?_⟩
      have s1 := s.set i (.dat r1)
      rw [noDrop hO] at s1
      have s2 := s1.set j (.dat r2)
      rw [noDrop hO2] at s2
      exact q _ s2 (wipe_set_two (List.contains_iff_mem.mp hi) (List.contains_iff_mem.mp hj))
    · rw [if_neg hl] at hg; cases hg
  | _ => cases hg
theorem tE_read {K : PySem.W.Frag} {f : EF} (G : Ent) (σ : Sg) (H F : Hp) (ρ : Rho) (d : D) (Q : VK) (s : StRep K G O σ H ρ F) (hf : f ρ = some d) (q : ∀ v H' F', Grow F H F' H' → Rep K F' v d → Q v H') : tE K O f σ H Q := ⟨G, F, ρ, d, s, hf, q⟩
theorem tT_read {K : PySem.W.Frag} {c : BF} (G : Ent) (σ : Sg) (H F : Hp) (ρ : Rho) (b : Bool) (Q : Bool → Hp → Prop) (s : StRep K G O σ H ρ F) (hf : c ρ = some b) (q : ∀ H' F', Grow F H F' H' → Q b H') : tT K O c σ H Q := ⟨G, F, ρ, b, s, hf, q⟩
/-- [elt for tg in iter if ..] -/
theorem dn_comp {vs : List Nat} {tg' : TG} (hi : DI X O tg iter it) (hR : OwnR X.K O vs tg' g) (hc : InBlk X scope fun Y => DTs Y O ifs c) (he : InBlk X scope fun Y => DE Y O elt f)
    (hp : ∀ wi tt te, PI X tg iter wi → InBlk X scope (fun Y => PTs Y ifs tt) → InBlk X scope (fun Y => PE Y elt te) → PE X (.ListComp elt [⟨tg, iter, ifs, 0⟩] scope pos) (tLc wi tg' tt te vs)) :
    DN X O (.ListComp elt [⟨tg, iter, ifs, 0⟩] scope pos) (compA vs it g c f) := by
  obtain ⟨wi, pi, ri⟩ := hi
  exact ⟨_, hp wi (tT X.K O c) (tE X.K O f) pi (fun s H C cl fp => DTs_pt (hc s H C cl fp)) (fun s H C cl fp => DE_pe (he s H C cl fp)),
    fun G σ H F ρ ds Q s hf q => tLc_ok (X := X) ri hR tT_read tE_read G σ H F ρ ds Q s hf q⟩
/-- y = [elt for tg in iter if ..] -/
theorem ds_setComp (i : Nat) {y : Str} {py spos : Pos} {RO : Bool} {LB : List Nat} {vs : List Nat} {tg' : TG} (hi : DI X O tg iter it) (hR : OwnR X.K O vs tg' g) (hc : InBlk X scope fun Y => DTs Y O ifs c) (he : InBlk X scope fun Y => DE Y O elt f)
    (hp : ∀ wi tt te, PI X tg iter wi → InBlk X scope (fun Y => PTs Y ifs tt) → InBlk X scope (fun Y => PE Y elt te) → PS X (.Assign [.Name y py] (.ListComp elt [⟨tg, iter, ifs, 0⟩] scope pos) spos) (tAsg (tLc wi tg' tt te vs) (gName i))) :
    DS X RO O (i :: dropO O i) LB (.Assign [.Name y py] (.ListComp elt [⟨tg, iter, ifs, 0⟩] scope pos) spos) (setL i (compA vs it g c f)) := by
  obtain ⟨wi, pi, ri⟩ := hi
  refine ⟨_, hp wi (tT X.K O c) (tE X.K O f) pi (fun s H C cl fp => DTs_pt (hc s H C cl fp)) (fun s H C cl fp => DE_pe (he s H C cl fp)), fun G σ H F ρ o E s hf q => ?_⟩
  unfold setL at hf
  cases e : compA vs it g c f ρ with
  | none => simp [e] at hf
  | some ds =>
    simp [e] at hf; subst hf
    refine tLc_ok (X := X) ri hR tT_read tE_read G σ H F ρ ds _ s e fun a us H' F' g hn h1 h2 h3 => q _ H' F' ((s.grow g).setOwn i h1 h2 h3 (free_of s.g.hh hn) fun j c hj _ hc => ?_) g.ff
    exact s.ownNe hn j c hj hc
end
end DL

/-! DL, part 6: the rules with their side conditions filled in. -/
namespace DL
open PySem PySem.Spec PyProof.Rows L2

/-- a def of the top keeps its promise -/
def DefOk (P : Program) (w : World) (K : PySem.W.Frag) (mg : Str → Option Value) (name : Str) (k : Nat) (ps : List Str) (own : Bool) (Fn : List D → Option D) : Prop :=
  ∃ (fa : Addr) (fd : FuncData), mg name = some (.ref fa) ∧ PySem.W.keepIn K (.ref fa) = true ∧ (∀ (s : Shared) (us : List Value), us.length = ps.length → BindsTo s fd ⟨us, []⟩ (ps.zip us)) ∧
    ∀ base : Heap, FnOk P w K mg base CX0 k fa fd ps (SpD K own ps.length Fn)
theorem binds_of {K : PySem.W.Frag} {fd : FuncData} {ps : List Str} (h : ∀ (s : Shared) (us : List Value), us.length = ps.length → BindsTo s fd ⟨us, []⟩ (ps.zip us)) : Binds K fd ps [] := fun s us _ hl => by
  rw [List.append_nil] at hl ⊢
  exact h s us hl

section
variable {X : Cx} {RO : Bool} {O O' O1 O2 LB : List Nat} {e a1 a2 : Expr} {es : List Expr} {f g : EF} {fa : AF} {pos p p1 p2 py spos : Pos} {st : Stmt} {xs rest : List Stmt} {s1 s2 : SF} {x y : Str} {c : BF}

theorem e_v (i : Nat) (hO : O.contains i = false := by rfl) (hN : X.N[i]? = some x := by rfl) (hv : Vis X.env.scope x := by first | exact Or.inl rfl | exact Or.inr (Or.inl rfl) | exact Or.inr (Or.inr rfl))
    (hd : (x == ("__debug__" : Str)) = false := by decide) (hcd : (x == ("__classdict__" : Str)) = false := by decide) : DE X O (.Name x pos) (vE i) := de_var i hO (pe_var hN hv hd hcd)
theorem r_v (i : Nat) (hN : X.N[i]? = some x := by rfl) (hv : Vis X.env.scope x := by first | exact Or.inl rfl | exact Or.inr (Or.inl rfl) | exact Or.inr (Or.inr rfl))
    (hd : (x == ("__debug__" : Str)) = false := by decide) (hcd : (x == ("__classdict__" : Str)) = false := by decide) : DR X O (.Name x pos) (vE i) := dr_var i (pe_var hN hv hd hcd)
theorem e_call {k : Nat} {ps : List Str} {Fn : List D → Option D} (h : DefOk X.prog X.w X.K X.mg x k ps false Fn) {j : Nat} (hr : Room j X.A) (hk : Nat.ble k j = true) (ha : DA X O (e :: es) fa) (hn : es.length + 1 = ps.length := by rfl)
    (hg : Gl X x := by rfl) (hdb : (x == ("__debug__" : Str)) = false := by decide) (he : starEach (e :: es) X.env = (false, eval e X.env) :: starEach es X.env := by rfl) (hpl : (backTo pos (starEach es X.env)).any (·.1) = false := by rfl) :
    DE X O (.Call (.Name x p) (e :: es) [] pos) (callE Fn fa) := by
  obtain ⟨fad, fd, hm, hkp, hb, F⟩ := h
  exact de_call (F X.base) hn ha fun t pt => pe_call (F X.base) (hr.mono (Nat.le_of_ble_eq_true hk)) hg hm hkp (binds_of hb) .nil pass0 pt hdb he hpl
theorem n_call {k : Nat} {ps : List Str} {Fn : List D → Option D} (h : DefOk X.prog X.w X.K X.mg x k ps true Fn) {j : Nat} (hr : Room j X.A) (hk : Nat.ble k j = true) (ha : DA X O (e :: es) fa) (hn : es.length + 1 = ps.length := by rfl)
    (hg : Gl X x := by rfl) (hdb : (x == ("__debug__" : Str)) = false := by decide) (he : starEach (e :: es) X.env = (false, eval e X.env) :: starEach es X.env := by rfl) (hpl : (backTo pos (starEach es X.env)).any (·.1) = false := by rfl) :
    DN X O (.Call (.Name x p) (e :: es) [] pos) (callL Fn fa) := by
  obtain ⟨fad, fd, hm, hkp, hb, F⟩ := h
  exact dn_call (F X.base) hn ha fun t pt => pe_call (F X.base) (hr.mono (Nat.le_of_ble_eq_true hk)) hg hm hkp (binds_of hb) .nil pass0 pt hdb he hpl
theorem e_abs (ha : DE X O e f) (hm : X.mg "abs" = none) (hg : Gl X "abs" := by rfl) (hs : starEach (e :: []) X.env = (false, eval e X.env) :: starEach [] X.env := by rfl) (hpl : (backTo pos (starEach [] X.env)).any (·.1) = false := by rfl) :
    DE X O (.Call (.Name "abs" p) [e] [] pos) (o1 absD f) := de_bi bi_abs (DE_r ha) fun t pt => pe_callB call_abs hg hm (by decide +kernel) (pa_one pt hs) (by decide) (by decide) hs hpl
theorem e_len (ha : DR X O e f) (hm : X.mg "len" = none) (hg : Gl X "len" := by rfl) (hs : starEach (e :: []) X.env = (false, eval e X.env) :: starEach [] X.env := by rfl) (hpl : (backTo pos (starEach [] X.env)).any (·.1) = false := by rfl) :
    DE X O (.Call (.Name "len" p) [e] [] pos) (o1 lenD f) := de_bi bi_len ha fun t pt => pe_callB call_len_seq hg hm (by decide +kernel) (pa_one pt hs) (by decide) (by decide) hs hpl
theorem e_sum (ha : DR X O e f) (hm : X.mg "sum" = none) (hc : X.calm = true := by rfl) (hg : Gl X "sum" := by rfl) (hs : starEach (e :: []) X.env = (false, eval e X.env) :: starEach [] X.env := by rfl) (hpl : (backTo pos (starEach [] X.env)).any (·.1) = false := by rfl) :
    DE X O (.Call (.Name "sum" p) [e] [] pos) (o1 sumD f) := de_bi bi_sum ha fun t pt => pe_callB (cr_sum hc) hg hm (by decide +kernel) (pa_one pt hs) (by decide) (by decide) hs hpl
theorem e_min (ha : DR X O e f) (hm : X.mg "min" = none) (hc : X.calm = true := by rfl) (hg : Gl X "min" := by rfl) (hs : starEach (e :: []) X.env = (false, eval e X.env) :: starEach [] X.env := by rfl) (hpl : (backTo pos (starEach [] X.env)).any (·.1) = false := by rfl) :
    DE X O (.Call (.Name "min" p) [e] [] pos) (o1 minD f) := de_bi bi_min ha fun t pt => pe_callB (cr_min hc) hg hm (by decide +kernel) (pa_one pt hs) (by decide) (by decide) hs hpl
theorem e_max (ha : DR X O e f) (hm : X.mg "max" = none) (hc : X.calm = true := by rfl) (hg : Gl X "max" := by rfl) (hs : starEach (e :: []) X.env = (false, eval e X.env) :: starEach [] X.env := by rfl) (hpl : (backTo pos (starEach [] X.env)).any (·.1) = false := by rfl) :
    DE X O (.Call (.Name "max" p) [e] [] pos) (o1 maxD f) := de_bi bi_max ha fun t pt => pe_callB (cr_max hc) hg hm (by decide +kernel) (pa_one pt hs) (by decide) (by decide) hs hpl
theorem e_min2 (ha : DE X O a1 f) (hb : DE X O a2 g) (hm : X.mg "min" = none) (hc : X.calm = true := by rfl) (hg : Gl X "min" := by rfl) (hs : starEach (a1 :: [a2]) X.env = (false, eval a1 X.env) :: starEach [a2] X.env := by rfl) (hs2 : starEach (a2 :: []) X.env = (false, eval a2 X.env) :: starEach [] X.env := by rfl)
    (hpl : (backTo pos (starEach [a2] X.env)).any (·.1) = false := by rfl) : DE X O (.Call (.Name "min" p) [a1, a2] [] pos) (o2 min2D f g) := de_min2 ha hb hs hs2 fun t pt => pe_callB (call_min2 hc) hg hm (by decide +kernel) pt (by decide) (by decide) hs hpl
theorem e_max2 (ha : DE X O a1 f) (hb : DE X O a2 g) (hm : X.mg "max" = none) (hc : X.calm = true := by rfl) (hg : Gl X "max" := by rfl) (hs : starEach (a1 :: [a2]) X.env = (false, eval a1 X.env) :: starEach [a2] X.env := by rfl) (hs2 : starEach (a2 :: []) X.env = (false, eval a2 X.env) :: starEach [] X.env := by rfl)
    (hpl : (backTo pos (starEach [a2] X.env)).any (·.1) = false := by rfl) : DE X O (.Call (.Name "max" p) [a1, a2] [] pos) (o2 max2D f g) := de_max2 ha hb hs hs2 fun t pt => pe_callB (call_max2 hc) hg hm (by decide +kernel) pt (by decide) (by decide) hs hpl
theorem e_int (ha : DE X O e f) (hm : X.mg "int" = none) (hg : Gl X "int" := by rfl) (hs : starEach (e :: []) X.env = (false, eval e X.env) :: starEach [] X.env := by rfl) (hpl : (backTo pos (starEach [] X.env)).any (·.1) = false := by rfl) :
    DE X O (.Call (.Name "int" p) [e] [] pos) (o1 toIntD f) := de_bi bi_int (DE_r ha) fun t pt => pe_callTy call_int1 hg hm (by decide +kernel) (pa_one pt hs) (by decide) (by decide) hs hpl
theorem n_list (ha : DR X O e f) (hm : X.mg "list" = none) (hg : Gl X "list" := by rfl) (hs : starEach (e :: []) X.env = (false, eval e X.env) :: starEach [] X.env := by rfl) (hpl : (backTo pos (starEach [] X.env)).any (·.1) = false := by rfl) :
    DN X O (.Call (.Name "list" p) [e] [] pos) (o1L listD f) := dn_bi bi_list ha fun t pt => pe_callTy call_list_of hg hm (by decide +kernel) (pa_one pt hs) (by decide) (by decide) hs hpl
/-- isinstance(e, T) -/
theorem e_isi (T : String) {xT : Str} (ha : DR X O e f) (hm : X.mg "isinstance" = none) (hmT : X.mg xT = none) (hv : bootBuiltins xT = some (.type T) := by decide +kernel) (hg : Gl X "isinstance" := by rfl) (hgT : Gl X xT := by rfl)
    (hn : xT ≠ "__name__" := by decide) (hd : (xT == ("__debug__" : Str)) = false := by decide)
    (hs : starEach (e :: [.Name xT p1]) X.env = (false, eval e X.env) :: starEach [.Name xT p1] X.env := by rfl) (hs2 : starEach (.Name xT p1 :: []) X.env = (false, eval (.Name xT p1) X.env) :: starEach [] X.env := by rfl)
    (hpl : (backTo pos (starEach [.Name xT p1] X.env)).any (·.1) = false := by rfl) : DE X O (.Call (.Name "isinstance" p) [e, .Name xT p1] [] pos) (o1 (isiD T) f) :=
  de_isi ha fun t pt => pe_callB call_isi hg hm (by decide +kernel) (pa_cons pt (pa_cons (pe_bltn hgT hmT hv rfl hn hd) pa_nil hs2) hs) (by decide) (by decide) hs hpl

theorem c_eq {k : Nat} (hr : Room k X.A) (ha : DR X O a1 f) (hb : DR X O a2 g) : DC X O .Eq a1 a2 (o2 eqD f g) := dc_eq hr.units ha hb
theorem c_ne {k : Nat} (hr : Room k X.A) (ha : DR X O a1 f) (hb : DR X O a2 g) : DC X O .NotEq a1 a2 (o2 neD f g) := dc_ne hr.units ha hb
theorem c_in {k : Nat} (hr : Room k X.A) (ha : DR X O a1 f) (hb : DR X O a2 g) : DC X O .In a1 a2 (o2 inD f g) := dc_in (by have := hr.un; omega) ha hb
theorem c_nin {k : Nat} (hr : Room k X.A) (ha : DR X O a1 f) (hb : DR X O a2 g) : DC X O .NotIn a1 a2 (o2 ninD f g) := dc_nin (by have := hr.un; omega) ha hb
theorem e_cmp {op : CmpOp} (h : DC X O op a1 a2 f) (hm : behindInMarks op a2 = false := by first | exact nomark _ | rfl) : DE X O (.Compare a1 [op] [a2] pos) f := de_cmp h hm
theorem t_cmp {op : CmpOp} (h : DC X O op a1 a2 f) (hm : behindInMarks op a2 = false := by first | exact nomark _ | rfl) : DT X O (.Compare a1 [op] [a2] pos) (tb f) := dt_cmp h hm

theorem s_set (i : Nat) (hN : X.N.Nodup) (he : DE X O e f) (hO : dropO O i = O2 := by rfl) (hi : X.N[i]? = some x := by rfl) (hx : Loc X.env.scope x := by first | exact Or.inl rfl | exact Or.inr rfl) (hs : swapsWith e (some (.Name x py)) pos.line X.env = pure false := by rfl)
    (hf : X.fn x = true ∨ X.env.scope.names.lookup x = some .local := by exact Or.inl rfl) : DS X RO O O2 LB (.Assign [.Name x py] e pos) (setF i f) := hO ▸ ds_set i he fun t pt => ps_set hN hi hx pt hs hf
theorem s_setN (i : Nat) (hN : X.N.Nodup) (he : DN X O e fa) (hO : i :: dropO O i = O2 := by rfl) (hi : X.N[i]? = some x := by rfl) (hx : Loc X.env.scope x := by first | exact Or.inl rfl | exact Or.inr rfl) (hs : swapsWith e (some (.Name x py)) pos.line X.env = pure false := by rfl)
    (hf : X.fn x = true ∨ X.env.scope.names.lookup x = some .local := by exact Or.inl rfl) : DS X RO O O2 LB (.Assign [.Name x py] e pos) (setL i fa) := hO ▸ ds_setN i he fun t pt => ps_set hN hi hx pt hs hf
theorem s_par (i j : Nat) {kt k2 : Nat} {pt pt2 : Pos} (hN : X.N.Nodup) (ha : DE X O a1 f) (hb : DE X O a2 g) (hO : dropO (dropO O i) j = O2 := by rfl) (hc : X.calm = true := by rfl) (hi : X.N[i]? = some x := by rfl) (hj : X.N[j]? = some y := by rfl) (hij : i ≠ j := by decide)
    (hx : X.env.scope.names.lookup x = some .local := by rfl) (hy : X.env.scope.names.lookup y = some .local := by rfl)
    (hw : swappedStores [.Tuple [.Name x p1, .Name y p2] kt pt] (.Tuple [a1, a2] k2 pt2) X.env = pure (some [x, y]) := by rfl)
    (hsw : swapsWithSole [.Tuple [.Name x p1, .Name y p2] kt pt] (.Tuple [a1, a2] k2 pt2) pos.line X.env = pure false := by rfl)
    (hs : starEach (a1 :: [a2]) X.env = (false, eval a1 X.env) :: starEach [a2] X.env := by rfl) (hs2 : starEach (a2 :: []) X.env = (false, eval a2 X.env) :: starEach [] X.env := by rfl) :
    DS X RO O O2 LB (.Assign [.Tuple [.Name x p1, .Name y p2] kt pt] (.Tuple [a1, a2] k2 pt2) pos) (parF i j f g) := hO ▸ ds_par i j ha hb hs hs2 fun t pt => ps_par hc hN hi hj hij hx hy pt hw hsw

theorem s_while (fuel : Rho → Nat) {c : BF} {b : SF} (hc : DT X O e c) (hb : DSs X RO O O O xs b) (hx : PassesOwn (model X.prog X.w) X.A X.env X.xe := by exact PassesOwn.never) : DS X RO O O LB (.While e xs [] pos) (whileF fuel c b) :=
  ds_while fuel hc hb fun t u pt pu => ps_while hx pt pu
theorem s_for {it : AF} {tg iter : Expr} {g : TgF} {b : SF} (hi : DI X O tg iter it) (hg : DG X O O1 tg g) (hb : DSs X RO O1 O O xs b) (hx : PassesOwn (model X.prog X.w) X.A X.env X.xe := by exact PassesOwn.never) (hc : X.calm = true := by rfl)
    (hs : ∀ x, foldedSetIterable iter X.env x = pure x := by intro _; rfl) : DS X RO O O LB (.For tg iter xs [] pos) (forF it g b) := ds_for hi hg hb fun wi t u p1 p2 p3 => ps_for hx hc p1 p2 p3 hs
theorem g_name (i : Nat) (hN : X.N.Nodup) (hO : dropO O i = O2 := by rfl) (hi : X.N[i]? = some x := by rfl) (hx : Loc X.env.scope x := by first | exact Or.inl rfl | exact Or.inr rfl) (hf : X.fn x = true ∨ X.env.scope.names.lookup x = some .local := by first | exact Or.inl rfl | exact Or.inr rfl) :
    DG X O O2 (.Name x pos) (nameG i) := hO ▸ dg_name i (pg_name hN hi hx hf)
theorem gs_nil : DGs X O O [] nilG := dgs_nil
theorem gs_cons {g : TgF} {r : TgsF} (h1 : DG X O O1 e g) (h2 : DGs X O1 O2 es r) (hs : (assignEach (e :: es) X.env).map (·.2) = assign e X.env :: (assignEach es X.env).map (·.2) := by rfl) : DGs X O O2 (e :: es) (consG g r) := dgs_cons h1 h2 fun t u p q => pgs_cons p q hs
theorem g_tup {n k : Nat} {g : TgsF} (h : DGs X O O2 es g) (hc : X.calm = true := by rfl) (hn : (assignEach es X.env).length = n := by rfl) (hst : (assignEach es X.env).findIdx? (·.1) = none := by rfl) : DG X O O2 (.Tuple es k pos) (tupG n g) := dg_tup h fun t q => pg_tup hc q hn hst
theorem i_list {tg : Expr} (h : DE X O e f) : DI X O tg e (itemsF f) := di_list h
theorem i_rng1 {tg : Expr} (h : DE X O e f) (hm : X.mg "range" = none) (hg : Gl X "range" := by rfl) (hs : starEach [e] X.env = [(false, eval e X.env)] := by rfl) (hs1 : starEach (e :: []) X.env = (false, eval e X.env) :: starEach [] X.env := by rfl) :
    DI X O tg (.Call (.Name "range" p) [e] [] pos) (rng1F f) := di_range1 h (fun t pt => pi_range1 hg hm pt hs) hs1
theorem i_rng2 {tg : Expr} (ha : DE X O a1 f) (hb : DE X O a2 g) (hm : X.mg "range" = none) (hg : Gl X "range" := by rfl) (hs : starEach [a1, a2] X.env = [(false, eval a1 X.env), (false, eval a2 X.env)] := by rfl) (hs2 : starEach [a2] X.env = [(false, eval a2 X.env)] := by rfl)
    (hs1 : starEach (a1 :: [a2]) X.env = (false, eval a1 X.env) :: starEach [a2] X.env := by rfl) (hs3 : starEach (a2 :: []) X.env = (false, eval a2 X.env) :: starEach [] X.env := by rfl) :
    DI X O tg (.Call (.Name "range" p) [a1, a2] [] pos) (rng2F f g) := di_range2 ha hb (fun t pt => pi_range2 hg hm pt hs hs2) hs1 hs3
theorem i_enum {elts : List Expr} {kk : Nat} {tpos : Pos} (h : DE X O e f) (hm : X.mg "enumerate" = none) (hg : Gl X "enumerate" := by rfl) (hs : starEach [e] X.env = [(false, eval e X.env)] := by rfl) (hs1 : starEach (e :: []) X.env = (false, eval e X.env) :: starEach [] X.env := by rfl) :
    DI X O (.Tuple elts kk tpos) (.Call (.Name "enumerate" p) [e] [] pos) (enumF f) := di_enum h (fun t pt => pi_enum hg hm pt hs) hs1
theorem i_zip {elts : List Expr} {kk : Nat} {tpos : Pos} (ha : DE X O a1 f) (hb : DE X O a2 g) (hm : X.mg "zip" = none) (hg : Gl X "zip" := by rfl)
    (hs1 : starEach (a1 :: [a2]) X.env = (false, eval a1 X.env) :: starEach [a2] X.env := by rfl) (hs3 : starEach (a2 :: []) X.env = (false, eval a2 X.env) :: starEach [] X.env := by rfl) (hpl : (backTo pos (starEach [a2] X.env)).any (·.1) = false := by rfl) :
    DI X O (.Tuple elts kk tpos) (.Call (.Name "zip" p) [a1, a2] [] pos) (zipF f g) := di_zip ha hb (fun t pt => pi_zip hg hm pt hs1 hpl) hs1 hs3
/-- a, b = e -/
theorem s_asg {es : List Expr} {kt : Nat} {pt : Pos} {n : Nat} {g : TgsF} (he : DE X O e f) (hg : DGs X O O2 es g) (hc : X.calm = true := by rfl) (hn : (assignEach es X.env).length = n := by rfl) (hst : (assignEach es X.env).findIdx? (·.1) = none := by rfl)
    (hs : swapsWithSole [.Tuple es kt pt] e pos.line X.env = pure false := by rfl) (hw : swappedStores [.Tuple es kt pt] e X.env = pure none := by rfl) :
    DS X RO O O2 LB (.Assign [.Tuple es kt pt] e pos) (asgF f (tupG n g)) := ds_asg he (dg_tup hg fun t q => pg_tup hc q hn hst) fun t u p q => ps_asg p q hs hw
theorem s_app (i : Nat) {ap cp : Pos} (he : DE X O e f) (hO : O.contains i = true := by rfl) (hN : X.N[i]? = some x := by rfl) (hv : Vis X.env.scope x := by first | exact Or.inl rfl | exact Or.inr (Or.inl rfl) | exact Or.inr (Or.inr rfl))
    (hd : (x == ("__debug__" : Str)) = false := by decide) (hcd : (x == ("__classdict__" : Str)) = false := by decide) (hs1 : starEach (e :: []) X.env = (false, eval e X.env) :: starEach [] X.env := by rfl)
    (hbase : attributeBase (.Name x p1) "append" X.env (eval (.Name x p1) X.env) = eval (.Name x p1) X.env := by rfl)
    (hfew : ((backTo cp (starEach (e :: []) X.env)).all (fun x => !x.1) && (backToKw cp (keywordEach [] X.env)).all (fun x => x.1.isSome)
      && decide ((e :: []).length + ([] : List Keyword).length + (if ([] : List Keyword).isEmpty then 0 else 1) < 30)) = true := by rfl)
    (hline : (ap.endLine == cp.line) = true := by rfl) (hplain : (backTo cp (starEach [] X.env)).any (·.1) = false := by rfl)
    (hsw : swapsWith (.Call (.Attribute (.Name x p1) "append" ap) [e] [] cp) none spos.line X.env = pure false := by rfl) :
    DS X RO O O LB (.Expr (.Call (.Attribute (.Name x p1) "append" ap) [e] [] cp) spos) (appF i f) :=
  ds_append i hO (pe_var hN hv hd hcd) he hs1 fun t u pt pu => ps_expr (pe_bm PySem.F.plainAttrs_list PySem.F.slot_list_append PySem.F.type_list_append mt_append pt pu hbase hfew hline hs1 hplain) hsw
theorem s_pop (i : Nat) {ap cp : Pos} (hO : O.contains i = true := by rfl) (hN : X.N[i]? = some x := by rfl) (hv : Vis X.env.scope x := by first | exact Or.inl rfl | exact Or.inr (Or.inl rfl) | exact Or.inr (Or.inr rfl))
    (hd : (x == ("__debug__" : Str)) = false := by decide) (hcd : (x == ("__classdict__" : Str)) = false := by decide)
    (hbase : attributeBase (.Name x p1) "pop" X.env (eval (.Name x p1) X.env) = eval (.Name x p1) X.env := by rfl)
    (hline : (ap.endLine == cp.line) = true := by rfl) (hsw : swapsWith (.Call (.Attribute (.Name x p1) "pop" ap) [] [] cp) none spos.line X.env = pure false := by rfl) :
    DS X RO O O LB (.Expr (.Call (.Attribute (.Name x p1) "pop" ap) [] [] cp) spos) (popF i) :=
  ds_pop i hO (pe_var hN hv hd hcd) fun t pt => ps_expr (pe_bm0 PySem.F.plainAttrs_list PySem.F.slot_list_pop PySem.F.type_list_pop mt_pop pt hbase hline) hsw
theorem s_clear (i : Nat) {ap cp : Pos} (hO : O.contains i = true := by rfl) (hN : X.N[i]? = some x := by rfl) (hv : Vis X.env.scope x := by first | exact Or.inl rfl | exact Or.inr (Or.inl rfl) | exact Or.inr (Or.inr rfl))
    (hd : (x == ("__debug__" : Str)) = false := by decide) (hcd : (x == ("__classdict__" : Str)) = false := by decide)
    (hbase : attributeBase (.Name x p1) "clear" X.env (eval (.Name x p1) X.env) = eval (.Name x p1) X.env := by rfl)
    (hline : (ap.endLine == cp.line) = true := by rfl) (hsw : swapsWith (.Call (.Attribute (.Name x p1) "clear" ap) [] [] cp) none spos.line X.env = pure false := by rfl) :
    DS X RO O O LB (.Expr (.Call (.Attribute (.Name x p1) "clear" ap) [] [] cp) spos) (clearF i) :=
  ds_clear i hO (pe_var hN hv hd hcd) fun t pt => ps_expr (pe_bm0 PySem.F.plainAttrs_list PySem.F.slot_list_clear PySem.F.type_list_clear mt_clear pt hbase hline) hsw
theorem s_put (i : Nat) (he : DE X O e f) (hk : DE X O a1 g) (hO : O.contains i = true := by rfl) (hN : X.N[i]? = some x := by rfl) (hv : Vis X.env.scope x := by first | exact Or.inl rfl | exact Or.inr (Or.inl rfl) | exact Or.inr (Or.inr rfl))
    (hd : (x == ("__debug__" : Str)) = false := by decide) (hcd : (x == ("__classdict__" : Str)) = false := by decide)
    (ha : ∀ v, assign (.Subscript (.Name x p1) a1 p2) X.env v = (do
      let ov ← holding [v] (eval (.Name x p1) X.env)
      let iv ← holding [v, ov] (eval a1 X.env)
      standAt p2
      holding [v, ov, iv] (setItem ov iv v)
      release [v, ov, iv] []) := by intro _; rfl)
    (hs : swapsWithSole [.Subscript (.Name x p1) a1 p2] e pos.line X.env = pure false := by rfl) (hw : swappedStores [.Subscript (.Name x p1) a1 p2] e X.env = pure none := by rfl) :
    DS X RO O O LB (.Assign [.Subscript (.Name x p1) a1 p2] e pos) (putF i f g) := ds_put i hO (pe_var hN hv hd hcd) he hk fun t u w pt pu pw => ps_asg pt (pg_sub pu pw set_list ha) hs hw
theorem s_retOwn (i : Nat) (hO : O.contains i = true := by rfl) (hN : X.N[i]? = some x := by rfl) (hv : Vis X.env.scope x := by first | exact Or.inl rfl | exact Or.inr (Or.inl rfl) | exact Or.inr (Or.inr rfl))
    (hd : (x == ("__debug__" : Str)) = false := by decide) (hcd : (x == ("__classdict__" : Str)) = false := by decide) : DS X true O O' LB (.Return (some (.Name x p2)) pos) (retV i) := ds_retOwn i hO (pe_var hN hv hd hcd)
/-- a bound for a loop that an int of slot i rules -/
def natAt (ρ : Rho) (i : Nat) : Nat := match getv ρ i with
  | some (.int k) => k.natAbs + 1
  | some (.list ds) => ds.length + 1
  | _ => 1
theorem s_setComp' (i : Nat) {elt tg iter : Expr} {ifs : List Expr} {scope : Scope} {it : AF} {g : TgF} {c : BF} {f : EF} {vs : List Nat} {tg' : TG} (hi : DI X O tg iter it) (hR : OwnR X.K O vs tg' g) (hc : InBlk X scope fun Y => DTs Y O ifs c) (he : InBlk X scope fun Y => DE Y O elt f)
    (hp : ∀ wi tt te, PI X tg iter wi → InBlk X scope (fun Y => PTs Y ifs tt) → InBlk X scope (fun Y => PE Y elt te) → PS X (.Assign [.Name y py] (.ListComp elt [⟨tg, iter, ifs, 0⟩] scope pos) spos) (tAsg (tLc wi tg' tt te vs) (gName i)))
    (hO : i :: dropO O i = O2 := by rfl) : DS X RO O O2 LB (.Assign [.Name y py] (.ListComp elt [⟨tg, iter, ifs, 0⟩] scope pos) spos) (setL i (compA vs it g c f)) := hO ▸ ds_setComp i hi hR hc he hp
end
end DL

/-! DL, part 7: the end of a law. -/
namespace DL
open PySem PySem.Spec PyProof.Rows L2
def intsL (ns : List Int) : D := .list (ns.map PyData.int)
theorem dpAll_ints {K : PySem.W.Frag} {H : Hp} : ∀ ns : List Int, DpAll K H (ns.map V.int) (ns.map PyData.int)
  | [] => .nil
  | n :: r => .cons (.int n) (dpAll_ints r)
theorem law_sp {K : PySem.W.Frag} {Fn : List D → Option D} {H : Hp} {a : Addr} {ns : List Int} (hS : SqL K H a (ns.map V.int)) (h : Fn [intsL ns] = some (.bool true)) : SpD K false 1 Fn [.ref a] H (fun v _ => v = .bl true) fun _ _ _ => False :=
  ⟨H, [intsL ns], .bool true, rfl, Same.refl H, .cons (.dat (.lst hS (dpAll_ints ns))) .nil, h, fun v H' F' _ r => Rep.bl_inv r⟩
/-- what walk_ofE asks of F -/
theorem law_end {P : Program} {w : World} {K : PySem.W.Frag} {mg : Str → Option Value} {h : Heap} {fa : Addr} {k : Nat} {x : Str} {Fn : List D → Option D} {n : Nat} (KX : K.In h) (hfa : mg ("law" : Str) = some (.ref fa))
    (D0 : DefOk P w K mg "law" k [x] false Fn) (ht : ∀ ns : List Int, ns.length ≤ n → Fn [intsL ns] = some (.bool true)) :
    ∃ (K : PySem.W.Frag) (fd : FuncData) (sp : Sp), K.In h ∧ (∀ (s : Shared) (u : Value), BindsTo s fd ⟨[u], []⟩ [(x, u)]) ∧
      (∀ (H : Hp) (a : Addr) (ns : List Int), ns.length ≤ n → Only H → SqL K H a (ns.map V.int) → sp [.ref a] H (fun v _ => v = .bl true) fun _ _ _ => False) ∧
      ∀ base : Heap, K.In base → base.Ns mainGlobals mg → FnOk P w K mg base CX0 k fa fd [x] sp := by
  obtain ⟨fa0, fd0, hm0, hk0, hb0, hF0⟩ := D0
  have e0 := hfa.symm.trans hm0
  cases e0
  exact ⟨K, fd0, SpD K false 1 Fn, KX, fun s u => hb0 s [u] rfl, fun H a ns hl _ hS => law_sp hS (ht ns hl), fun base _ _ => hF0 base⟩
end DL

/-! DL, part 8: evaluation of the semantic words; sizes; fractions as Rat. -/
namespace DL
open PySem PySem.Spec PyProof.Rows L2

/-! ### evaluation -/
@[simp] theorem vE_0 {a : Option D} {r : Rho} : vE 0 (a :: r) = a := by cases a <;> rfl
@[simp] theorem vE_s {a : Option D} {r : Rho} {i : Nat} : vE (i + 1) (a :: r) = vE i r := rfl
@[simp] theorem vE_1 {a b : Option D} {r : Rho} : vE 1 (a :: b :: r) = b := by cases b <;> rfl
@[simp] theorem vE_2 {a b c : Option D} {r : Rho} : vE 2 (a :: b :: c :: r) = c := by cases c <;> rfl
@[simp] theorem vE_3 {a b c d : Option D} {r : Rho} : vE 3 (a :: b :: c :: d :: r) = d := by cases d <;> rfl
@[simp] theorem vE_4 {a b c d e : Option D} {r : Rho} : vE 4 (a :: b :: c :: d :: e :: r) = e := by cases e <;> rfl
@[simp] theorem vE_5 {a b c d e f : Option D} {r : Rho} : vE 5 (a :: b :: c :: d :: e :: f :: r) = f := by cases f <;> rfl
@[simp] theorem vE_6 {a b c d e f g : Option D} {r : Rho} : vE 6 (a :: b :: c :: d :: e :: f :: g :: r) = g := by cases g <;> rfl
@[simp] theorem vE_7 {a b c d e f g h : Option D} {r : Rho} : vE 7 (a :: b :: c :: d :: e :: f :: g :: h :: r) = h := by cases h <;> rfl
@[simp] theorem vE_8 {a b c d e f g h i : Option D} {r : Rho} : vE 8 (a :: b :: c :: d :: e :: f :: g :: h :: i :: r) = i := by cases i <;> rfl
@[simp] theorem getv_0 {a : Option D} {r : Rho} : getv (a :: r) 0 = a := by cases a <;> rfl
@[simp] theorem getv_s {a : Option D} {r : Rho} {i : Nat} : getv (a :: r) (i + 1) = getv r i := rfl
@[simp] theorem getv_1 {a b : Option D} {r : Rho} : getv (a :: b :: r) 1 = b := vE_1
@[simp] theorem getv_2 {a b c : Option D} {r : Rho} : getv (a :: b :: c :: r) 2 = c := vE_2
@[simp] theorem getv_3 {a b c d : Option D} {r : Rho} : getv (a :: b :: c :: d :: r) 3 = d := vE_3
@[simp] theorem getv_4 {a b c d e : Option D} {r : Rho} : getv (a :: b :: c :: d :: e :: r) 4 = e := vE_4
@[simp] theorem getv_5 {a b c d e f : Option D} {r : Rho} : getv (a :: b :: c :: d :: e :: f :: r) 5 = f := vE_5
@[simp] theorem getv_6 {a b c d e f g : Option D} {r : Rho} : getv (a :: b :: c :: d :: e :: f :: g :: r) 6 = g := vE_6
@[simp] theorem getv_7 {a b c d e f g h : Option D} {r : Rho} : getv (a :: b :: c :: d :: e :: f :: g :: h :: r) 7 = h := vE_7
@[simp] theorem getv_8 {a b c d e f g h i : Option D} {r : Rho} : getv (a :: b :: c :: d :: e :: f :: g :: h :: i :: r) 8 = i := vE_8
@[simp] theorem cE_e {d : D} {r : Rho} : cE d r = some d := rfl
@[simp] theorem o2_e {op : D → D → Option D} {f g : EF} {r : Rho} : o2 op f g r = (f r).bind fun x => (g r).bind fun y => op x y := rfl
@[simp] theorem o1_e {op : D → Option D} {f : EF} {r : Rho} : o1 op f r = (f r).bind op := rfl
@[simp] theorem addD_i {a b : Int} : addD (.int a) (.int b) = some (.int (a + b)) := rfl
@[simp] theorem subD_i {a b : Int} : subD (.int a) (.int b) = some (.int (a - b)) := rfl
@[simp] theorem absD_i {a : Int} : absD (.int a) = some (.int a.natAbs) := by
  simp only [absD, Option.some.injEq, PyData.int.injEq]
  split <;> omega
@[simp] theorem negD_i {a : Int} : negD (.int a) = some (.int (-a)) := rfl
@[simp] theorem ltD_i {a b : Int} : ltD (.int a) (.int b) = some (.bool (decide (a < b))) := rfl
@[simp] theorem leD_i {a b : Int} : leD (.int a) (.int b) = some (.bool (decide (a ≤ b))) := rfl
@[simp] theorem gtD_i {a b : Int} : gtD (.int a) (.int b) = some (.bool (decide (b < a))) := rfl
@[simp] theorem geD_i {a b : Int} : geD (.int a) (.int b) = some (.bool (decide (b ≤ a))) := rfl
theorem shaped_int {i : Int} : SeqAt.shaped (.int i) = true := rfl
theorem shaped_bool {i : Bool} : SeqAt.shaped (.bool i) = true := rfl
@[simp] theorem eqD_i {a b : Int} : eqD (.int a) (.int b) = some (.bool (decide (a = b))) := by
  unfold eqD
  rw [if_pos ⟨rfl, rfl⟩]
  simp [PyData.eqv, Bool.beq_eq_decide_eq]
@[simp] theorem neD_i {a b : Int} : neD (.int a) (.int b) = some (.bool (!decide (a = b))) := by
  unfold neD
  rw [if_pos ⟨rfl, rfl⟩]
  simp [PyData.eqv, Bool.beq_eq_decide_eq]
@[simp] theorem neD_b {a b : Bool} : neD (.bool a) (.bool b) = some (.bool (!decide (a = b))) := by
  unfold neD
  rw [if_pos ⟨rfl, rfl⟩]
  simp [PyData.eqv, Bool.beq_eq_decide_eq]
@[simp] theorem eqD_b {a b : Bool} : eqD (.bool a) (.bool b) = some (.bool (decide (a = b))) := by
  unfold eqD
  rw [if_pos ⟨rfl, rfl⟩]
  simp [PyData.eqv, Bool.beq_eq_decide_eq]
@[simp] theorem mulD_i {a b : Int} (h : mulB a b = true) : mulD (.int a) (.int b) = some (.int (a * b)) := by simp [mulD, h]
@[simp] theorem fdivD_i {a b : Int} (h : divB a b = true) : fdivD (.int a) (.int b) = some (.int (a.fdiv b)) := by simp [fdivD, h]
theorem modD_i {a b : Int} (h : b ≠ 0) : modD (.int a) (.int b) = some (.int (a.fmod b)) := by simp [modD, h]
@[simp] theorem modD_pos {a b : Int} (h : 0 < b) : modD (.int a) (.int b) = some (.int (a % b)) := by
  rw [modD_i (by omega), Int.fmod_eq_emod_of_nonneg a (by omega)]
theorem fdivD_pos {a b : Int} (h : 0 < b) (h2 : b.natAbs < 2 ^ 9000) : fdivD (.int a) (.int b) = some (.int (a / b)) := by
  rw [fdivD_i, Int.fdiv_eq_ediv_of_nonneg a (by omega)]
  unfold divB
  rw [PyProof.noPylong_of_log2 ((Nat.log2_lt (by omega)).mpr h2)]
  simp; omega
@[simp] theorem skipF_e {r : Rho} : skipF r = some (.nx r) := rfl
@[simp] theorem ifF_e {c : BF} {a b : SF} {r : Rho} : ifF c a b r = (c r).bind fun k => if k = true then a r else b r := rfl
@[simp] theorem seqF_e {a b : SF} {r : Rho} : seqF a b r = (a r).bind fun x => match x with
  | .nx ρ' => b ρ'
  | x => some x := rfl
@[simp] theorem setF_e {i : Nat} {f : EF} {r : Rho} : setF i f r = (f r).map fun d => .nx (r.set i (some d)) := rfl
@[simp] theorem setL_e {i : Nat} {f : AF} {r : Rho} : setL i f r = (f r).map fun d => .nx (r.set i (some (.list d))) := rfl
@[simp] theorem retF_e {f : EF} {r : Rho} : retF f r = (f r).map .rt := rfl
@[simp] theorem retL_e {f : AF} {r : Rho} : retL f r = (f r).map fun ds => .rt (.list ds) := rfl
@[simp] theorem neverF_e {r : Rho} : neverF r = none := rfl
@[simp] theorem consA_e {f : EF} {g : AF} {r : Rho} : consA f g r = (f r).bind fun x => (g r).bind fun xs => some (x :: xs) := rfl
@[simp] theorem callE_e {Fn : List D → Option D} {fa : AF} {r : Rho} : callE Fn fa r = (fa r).bind Fn := rfl
@[simp] theorem lE_e {fa : AF} {r : Rho} : lE fa r = (fa r).map .list := rfl
@[simp] theorem tb_e {f : EF} {r : Rho} : tb f r = match f r with
  | some (.bool b) => some b
  | _ => none := rfl
@[simp] theorem parF_e {i j : Nat} {f g : EF} {r : Rho} : parF i j f g r = (f r).bind fun x => (g r).bind fun y => some (.nx ((r.set i (some x)).set j (some y))) := rfl
@[simp] theorem andB_e {f g : BF} {r : Rho} : andB f g r = (f r).bind fun b => if b = true then g r else some false := rfl
@[simp] theorem orB_e {f g : BF} {r : Rho} : orB f g r = (f r).bind fun b => if b = true then some true else g r := rfl
@[simp] theorem notB_e {f : BF} {r : Rho} : notB f r = (f r).map fun b => !b := rfl
@[simp] theorem andE_e {f g : EF} {r : Rho} : andE f g r = (tb f r).bind fun b => if b = true then g r else some (.bool false) := rfl
@[simp] theorem orE_e {f g : EF} {r : Rho} : orE f g r = (tb f r).bind fun b => if b = true then some (.bool true) else g r := rfl
@[simp] theorem notE_e {f : EF} {r : Rho} : notE f r = (tb f r).map fun b => .bool (!b) := rfl
@[simp] theorem yesB_e {r : Rho} : yesB r = some true := rfl
@[simp] theorem tupE_e {fa : AF} {r : Rho} : tupE fa r = (fa r).bind fun ds => if ds.all plainD = true ∧ ds.length ≤ sizeLine then some (.tuple ds) else none := rfl
@[simp] theorem lstA_e {fa : AF} {r : Rho} : lstA fa r = (fa r).bind fun ds => if ds.all plainD = true ∧ ds.length ≤ sizeLine then some ds else none := rfl
@[simp] theorem asgF_e {f : EF} {g : TgF} {r : Rho} : asgF f g r = (f r).bind fun d => (g d r).map .nx := rfl
@[simp] theorem nameG_e {i : Nat} {d : D} {r : Rho} : nameG i d r = some (r.set i (some d)) := rfl
@[simp] theorem tupG_e {n : Nat} {g : TgsF} {ds : List D} {r : Rho} : tupG n g (.tuple ds) r = if ds.length = n then g ds r else none := rfl
@[simp] theorem consG_e {g : TgF} {h : TgsF} {d : D} {ds : List D} {r : Rho} : consG g h (d :: ds) r = (g d r).bind fun r1 => h ds r1 := rfl
@[simp] theorem nilG_e {r : Rho} : nilG [] r = some r := rfl
@[simp] theorem plain_int {i : Int} : plainD (.int i) = true := rfl
@[simp] theorem plain_bool {i : Bool} : plainD (.bool i) = true := rfl
@[simp] theorem plain_tup {ds : List D} : plainD (.tuple ds) = true := rfl
@[simp] theorem plain_lst {ds : List D} : plainD (.list ds) = true := rfl
@[simp] theorem plain_none : plainD .none = true := rfl
@[simp] theorem le_line1 : (1 ≤ sizeLine) = True := eq_true (by decide)
@[simp] theorem le_line2 : (2 ≤ sizeLine) = True := eq_true (by decide)
@[simp] theorem le_line3 : (3 ≤ sizeLine) = True := eq_true (by decide)
@[simp] theorem le_line4 : (4 ≤ sizeLine) = True := eq_true (by decide)
@[simp] theorem le_line5 : (5 ≤ sizeLine) = True := eq_true (by decide)
@[simp] theorem le_line6 : (6 ≤ sizeLine) = True := eq_true (by decide)
@[simp] theorem startR_e {n : Nat} {ds : List D} : startR n ds = ds.map some ++ List.replicate (n - ds.length) none := rfl
@[simp] theorem nilA_e {r : Rho} : nilA r = some [] := rfl
theorem callL_some {Fn : List D → Option D} {fa : AF} {r : Rho} {xs ds : List D} (h : fa r = some xs) (h2 : Fn xs = some (.list ds)) : callL Fn fa r = some ds := by unfold callL; rw [h]; simp [h2]
@[simp] theorem atI_0 {α : Type} {a : α} {r : List α} : atI (a :: r) 0 = some a := by simp [atI, ixN]
@[simp] theorem atI_1 {α : Type} {a b : α} {r : List α} : atI (a :: b :: r) 1 = some b := by
  have h : (1 : Int) < ((a :: b :: r).length : Int) := by simp; omega
  have : ixN (a :: b :: r).length 1 = some 1 := by unfold ixN; rw [if_pos (by omega), if_pos h]; rfl
  unfold atI; rw [this]; rfl
@[simp] theorem atI_2 {α : Type} {a b c : α} {r : List α} : atI (a :: b :: c :: r) 2 = some c := by
  have h : (2 : Int) < ((a :: b :: c :: r).length : Int) := by simp; omega
  have : ixN (a :: b :: c :: r).length 2 = some 2 := by unfold ixN; rw [if_pos (by omega), if_pos h]; rfl
  unfold atI; rw [this]; rfl
@[simp] theorem ixD_l {ds : List D} {i : Int} : ixD (.list ds) (.int i) = atI ds i := rfl
@[simp] theorem ixD_t {ds : List D} {i : Int} : ixD (.tuple ds) (.int i) = atI ds i := rfl
theorem atI_lt {α : Type} {xs : List α} {i : Int} (h0 : 0 ≤ i) : atI xs i = xs[i.toNat]? := by
  unfold atI ixN
  rw [if_pos h0]
  by_cases h : i < xs.length
  · rw [if_pos h]; rfl
  · rw [if_neg h]
    exact (List.getElem?_eq_none (by omega)).symm
@[simp] theorem lenD_l {ds : List D} : lenD (.list ds) = some (.int ds.length) := rfl
@[simp] theorem lenD_t {ds : List D} : lenD (.tuple ds) = some (.int ds.length) := rfl
theorem small_size {n : Nat} (h : n ≤ 1000) : n ≤ sizeLine := Nat.le_trans h (by decide)
@[simp] theorem bodyFn_e {own : Bool} {n : Nat} {b : SF} {ds : List D} : bodyFn own n b ds = endD own (b (startR n ds)) := rfl
@[simp] theorem endD_map {own : Bool} {x : Option D} : endD own (Option.map Out.rt x) = x := by cases x <;> rfl
@[simp] theorem endD_rt {own : Bool} {d : D} : endD own (some (.rt d)) = some d := rfl

theorem fdivD_small {a b : Int} (h : 0 < b) (h2 : b < 2 ^ 250) : fdivD (.int a) (.int b) = some (.int (a / b)) := by
  refine fdivD_pos h ?_
  have : b.natAbs < 2 ^ 250 := by omega
  exact Nat.lt_of_lt_of_le this (Nat.pow_le_pow_right (by decide) (by decide))
@[simp] theorem fdivD_lit {a b : Int} (h : 0 < b) (h2 : b < 1809251394333065553493296640760748560207343510400633813116524750123642650624) : fdivD (.int a) (.int b) = some (.int (a / b)) := fdivD_small h (by simpa using h2)
theorem powD_e {a b : Int} : powD (.int a) (.int b) = if 0 ≤ b ∧ b ≤ 1000000 ∧ a.natAbs < 2 ^ 64 then some (.int (a ^ b.toNat)) else none := rfl
/-! ### loops -/
theorem forL_inv {g : TgF} {b : SF} (Inv : Nat → Rho → Prop) : ∀ (ds : List D) (k : Nat) (ρ : Rho), Inv k ρ →
    (∀ i d ρ, ds[i]? = some d → Inv (k + i) ρ → ∃ ρ1 r, g d ρ = some ρ1 ∧ b ρ1 = some r ∧ ∃ ρ2, (r = .nx ρ2 ∨ r = .ct ρ2) ∧ Inv (k + i + 1) ρ2) → ∃ ρ', forL g b ds ρ = some (.nx ρ') ∧ Inv (k + ds.length) ρ'
  | [], k, ρ, h, _ => ⟨ρ, rfl, h⟩
  | d :: ds, k, ρ, h, hs => by
    obtain ⟨ρ1, r, e1, e2, ρ2, e3, h2⟩ := hs 0 d ρ rfl h
    obtain ⟨ρ', q1, q2⟩ := forL_inv Inv ds (k + 1) ρ2 h2 fun i c τ hc hI => by
      have := hs (i + 1) c τ (by simpa using hc) (by rw [show k + (i + 1) = k + 1 + i by omega]; exact hI)
      rw [show k + (i + 1) + 1 = k + 1 + i + 1 by omega] at this
      exact this
    refine ⟨ρ', ?_, by rw [show k + (d :: ds).length = k + 1 + ds.length by simp; omega]; exact q2⟩
    unfold forL
    rw [e1, Option.bind_some, e2, Option.bind_some]
    rcases e3 with rfl | rfl <;> exact q1
@[simp] theorem forF_e {it : AF} {g : TgF} {b : SF} {r : Rho} : forF it g b r = (it r).bind fun ds => forL g b ds r := rfl
@[simp] theorem itemsF_e {f : EF} {r : Rho} : itemsF f r = match f r with
  | some (.list ds) => some ds
  | _ => none := rfl
@[simp] theorem enumF_e {f : EF} {r : Rho} : enumF f r = match f r with
  | some (.list ds) => some (enumL ds)
  | _ => none := rfl
@[simp] theorem rng1F_e {f : EF} {r : Rho} : rng1F f r = match f r with
  | some (.int j) => if -(2 ^ 62) ≤ j ∧ j < 2 ^ 62 then some (rngL 0 j.toNat) else none
  | _ => none := rfl
@[simp] theorem slA_e {f : EF} {lo hi : OF} {r : Rho} : slA f lo hi r = match f r with
  | some (.list ds) => (lo r).bind fun l => (hi r).bind fun h => some (cutD ds l h)
  | _ => none := rfl
@[simp] theorem partO_e {f : EF} {r : Rho} : partO f r = match f r with
  | some (.int i) => some (some i)
  | _ => none := rfl
@[simp] theorem isi_int_i {i : Int} : isiD "int" (.int i) = some (.bool true) := rfl
theorem kb1 : kitB "int" "bool" = some false := by decide +kernel
theorem kb2 : kitB "bool" "int" = some true := by decide +kernel
theorem kb3 : kitB "bool" "bool" = some true := by decide +kernel
theorem kb4 : kitB "tuple" "tuple" = some true := by decide +kernel
theorem kb5 : kitB "list" "list" = some true := by decide +kernel
@[simp] theorem isi_bool_i {i : Int} : isiD "bool" (.int i) = some (.bool false) := by simp [isiD, tyD, kb1]
@[simp] theorem isi_int_b {i : Bool} : isiD "int" (.bool i) = some (.bool true) := by simp [isiD, tyD, kb2]
@[simp] theorem isi_bool_b {i : Bool} : isiD "bool" (.bool i) = some (.bool true) := by simp [isiD, tyD, kb3]
@[simp] theorem isi_tup {ds : List D} : isiD "tuple" (.tuple ds) = some (.bool true) := by simp [isiD, tyD, kb4]
@[simp] theorem isi_lst {ds : List D} : isiD "list" (.list ds) = some (.bool true) := by simp [isiD, tyD, kb5]
theorem cutD_to {xs : List D} {n : Nat} : cutD xs none (some (n : Int)) = xs.take n := by
  unfold cutD
  simp only [HT.sIx_none, HT.sIx_nat, List.drop_zero, Nat.sub_zero]
  rw [List.take_eq_take_iff]; simp
theorem cutD_from {xs : List D} {n : Nat} : cutD xs (some (n : Int)) none = xs.drop n := by
  unfold cutD
  simp only [HT.sIx_none, HT.sIx_nat]
  by_cases h : n ≤ xs.length
  · rw [Nat.min_eq_left h, List.take_of_length_le (by simp)]
  · rw [Nat.min_eq_right (by omega), List.drop_of_length_le (Nat.le_refl _), List.drop_of_length_le (by omega)]; simp
/-! ### sizes -/
/-- below 2 ^ n in size -/
def Sz (n : Nat) (x : Int) : Prop := x.natAbs < 2 ^ n
theorem Sz.mono {m n : Nat} {x : Int} (h : Sz m x) (hmn : m ≤ n) : Sz n x := Nat.lt_of_lt_of_le h (Nat.pow_le_pow_right (by decide) hmn)
theorem Sz.mul {m n : Nat} {x y : Int} (hx : Sz m x) (hy : Sz n y) : Sz (m + n) (x * y) := by
  unfold Sz at *
  rw [Int.natAbs_mul, Nat.pow_add]
  exact Nat.mul_lt_mul'' hx hy
theorem Sz.add {m n : Nat} {x y : Int} (hx : Sz m x) (hy : Sz n y) : Sz (max m n + 1) (x + y) := by
  have h1 := hx.mono (Nat.le_max_left m n)
  have h2 := hy.mono (Nat.le_max_right m n)
  unfold Sz at *
  rw [Nat.pow_succ]
  omega
theorem Sz.sub {m n : Nat} {x y : Int} (hx : Sz m x) (hy : Sz n y) : Sz (max m n + 1) (x - y) := by
  have h1 := hx.mono (Nat.le_max_left m n)
  have h2 := hy.mono (Nat.le_max_right m n)
  unfold Sz at *
  rw [Nat.pow_succ]
  omega
theorem Sz.neg {n : Nat} {x : Int} (hx : Sz n x) : Sz n (-x) := by
  unfold Sz at *; rw [Int.natAbs_neg]; exact hx
theorem intBits_le {x : Int} {n : Nat} (h : Sz n x) : Builtin.Int.intBits x ≤ n := by
  unfold Builtin.Int.intBits
  split
  · omega
  · rename_i h0
    have : x.natAbs.log2 < n := (Nat.log2_lt (by simpa using h0)).mpr h
    omega
theorem mulB_sz {m n : Nat} {a b : Int} (ha : Sz m a) (hb : Sz n b) (h : m + n ≤ 100000000) : mulB a b = true := by
  have h1 := intBits_le ha
  have h2 := intBits_le hb
  unfold mulB Builtin.Int.intTooBig
  have : ¬ ((Builtin.Int.intBits a : Int) + (Builtin.Int.intBits b : Int) > (bitsLine : Int)) := by
    have : bitsLine = 134217728 := by decide
    omega
  simp only [Bool.not_eq_true', Bool.and_eq_false_iff]
  right
  simpa using this
theorem mulB_left {a b : Int} (h : Sz 64 a) : mulB a b = true := by
  have h1 := intBits_le h
  unfold mulB
  have : decide (Builtin.Int.intBits a > shortFactorBits) = false := decide_eq_false (by unfold shortFactorBits; omega)
  rw [this]; rfl
theorem mulB_right {a b : Int} (h : Sz 64 b) : mulB a b = true := by
  have h1 := intBits_le h
  unfold mulB
  have : decide (Builtin.Int.intBits b > shortFactorBits) = false := decide_eq_false (by unfold shortFactorBits; omega)
  rw [this]; simp

theorem sz_64 {x : Int} (h : x.natAbs < 18446744073709551616) : Sz 64 x := h
theorem mulB_l {a b : Int} (h : a.natAbs < 18446744073709551616) : mulB a b = true := mulB_left h
theorem mulB_r {a b : Int} (h : b.natAbs < 18446744073709551616) : mulB a b = true := mulB_right h
/-! ### fractions -/
def frQ (q : Rat) : D := .tuple [.int q.num, .int q.den]
@[simp] theorem plain_frQ {q : Rat} : plainD (frQ q) = true := rfl
theorem shaped_frQ {q : Rat} : SeqAt.shaped (frQ q) = true := rfl
theorem frQ_inj {p q : Rat} (h : frQ p = frQ q) : p = q := by
  unfold frQ at h
  simp at h
  exact Rat.ext h.1 (by omega)
theorem eqv_frQ {p q : Rat} : PyData.eqv (frQ p) (frQ q) = decide (p = q) := by
  unfold frQ
  simp only [PyData.eqv, PyData.eqvAll, Bool.and_true]
  by_cases h : p = q
  · subst h; simp
  · rw [decide_eq_false h]
    rw [Bool.and_eq_false_iff]
    by_cases hn : p.num = q.num
    · right
      have : p.den ≠ q.den := fun z => h (Rat.ext hn z)
      simp; omega
    · left
      simp [hn]
@[simp] theorem tupG_frQ {q : Rat} {g : TgsF} {r : Rho} : tupG 2 g (frQ q) r = g [.int q.num, .int q.den] r := by unfold frQ; simp
@[simp] theorem ix0_frQ {q : Rat} : ixD (frQ q) (.int 0) = some (.int q.num) := by unfold frQ; simp
@[simp] theorem ix1_frQ {q : Rat} : ixD (frQ q) (.int 1) = some (.int q.den) := by unfold frQ; simp
end DL

/-! DX, part 1: a caught exception is kept: from then on its object is tracked. -/
namespace DL
open PySem PySem.Spec PyProof.Rows L2
section
variable {X : Cx} {pins : List (Addr × Obj)} {σ : Sg} {H : Hp} {s : Shared}
/-- an object that was not there at the entry is tracked from now on -/
theorem track_old {a : Addr} {oe : Obj} {vs : Array Value} {C : Addr} (I : Inv X ((a, oe) :: pins) σ H s) (hz : Zc (.ref C) none oe) (hd : oe.data = .fields vs) (h0 : X.s_0.heap.get? a = none) (hp : ∀ p ∈ X.pn ++ pins, p.1 ≠ a) :
    Inv X pins σ (upd H a (ExH (.ref C) a)) s := by
  have pa := I.pin (a, oe) (List.mem_append_right _ List.mem_cons_self)
  obtain ⟨ga, na, nL, nF, nc⟩ := pa
  have ne1 : ∀ b u, H b = some u → b ≠ a := fun b u e z => by rw [z, na] at e; cases e
  refine ⟨I.ok, I.os, I.bare, ⟨I.base.keep, I.base.slot, fun b o e n hx => ?_, I.base.there, fun b xs e => ?_, fun b o u e => ?_, fun b ps e => ?_⟩, I.loc, I.cell, ?_, fun x c e => ?_, fun p hp1 => ?_, fun b u e => ?_, I.len⟩
  · rw [upd_ne (fun z => by rw [z, h0] at e; cases e)]; exact I.base.free b o e n hx
  · have q := I.base.tups b xs e; rw [upd_ne (ne1 b _ q)]; exact q
  · have q := I.base.frzs b o u e; rw [upd_ne (ne1 b _ q)]; exact q
  · obtain ⟨m, q⟩ := I.base.tbls b ps e
    exact ⟨m, by rw [upd_ne (ne1 b _ q)]; exact q⟩
  · rw [upd_ne (Ne.symm nL)]; exact I.free
  · have hca : c ≠ a := fun z => by
      obtain ⟨v, o, q1, q2⟩ := I.cell x c e
      rw [z, ga] at q1
      cases q1
      exact nc v q2
    rw [upd_ne hca]; exact I.freeC x c e
  · have old : p ∈ X.pn ++ ((a, oe) :: pins) := by
      rcases List.mem_append.mp hp1 with q | q
      · exact List.mem_append_left _ q
      · exact List.mem_append_right _ (List.mem_cons_of_mem _ q)
    obtain ⟨q1, q2, q3, q4, q5⟩ := I.pin p old
    exact ⟨q1, by rw [upd_ne (hp p hp1)]; exact q2, q3, q4, q5⟩
  · by_cases hb : b = a
    · subst hb
      rw [upd_same] at e
      cases e
      exact ⟨⟨oe, vs, ga, hz, hd⟩, ⟨oe, ga⟩, fun h1 h2 ⟨o, ws, q, r⟩ k => ⟨o, ws, k o q, r⟩⟩
    · rw [upd_ne hb] at e
      exact (I.hok b u e).stay (fun _ _ _ q => q) (fun c q => by rw [upd_ne (ne1 c _ q)]; exact q) fun c xs q => by rw [upd_ne (ne1 c _ q)]; exact q
end
/-- what «except c as n: y = n» wishes of an exception: slot i is n's, slot j y's -/
def wKeep (K : PySem.W.Frag) (c : Value) (i j : Nat) (E : Ends) : WX := fun cls d σ H =>
  PySem.W.exmOne K cls c = some true ∧ ∃ C, cls = .ref C ∧ d = none ∧ ∀ a, H a = none → E.nx (((σ.set i (some (.ref a))).set j (some (.ref a))).set i none) (upd H a (ExH (.ref C) a))
section
variable {X : Cx} {x n y : Str} {c : Value} {i j : Nat} {body : List Stmt} {np p1 p2 p3 pos pos' : Pos} {tb : WX → TS}
theorem ps_try_keep (hs : X.stack = X.env :: X.outer) (hf : X.env.frame = some X.env.locals) (hex : X.ex = []) (hN : X.N.Nodup) (hi : X.N[i]? = some n) (hj : X.N[j]? = some y) (hln : X.env.kindOf n = some .local) (hly : X.env.kindOf y = some .local) (hc : Names X x c)
    (hb : ∀ (W : WX) (pn : List (Addr × Obj)) (xe : Value → Shared → Prop), Takes (X.tr pn xe) W → PassesOwn (model X.prog X.w) X.A X.env xe → PSs (X.tr pn xe) body (tb W))
    (hst : ∀ (a : Addr) (oe : Obj) (pn : List (Addr × Obj)), PE (X.suite a ((a, oe) :: pn)) (.Name n p1) (tVar i)) (hsw : swapsWith (.Name n p1) (some (.Name y p2)) p3.line X.env = pure false := by rfl) :
    PS X (.Try body [.ExceptHandler (some (.Name x np)) (some n) [.Assign [.Name y p2] (.Name n p1) p3] pos'] [] [] pos) (fun E σ H => tb (wKeep X.K c i j E) E σ H) := by
  constructor
  intro pins s σ H E I hread
  have okX := I.ok
  have fr : X.A.frames = some (X.env :: X.outer) := okX.frames.trans (congrArg some hs)
  have here : PSs (X.tr (X.pn ++ pins) fun v t => wpAny (model X.prog X.w) X.A (noteFrame v X.env) (fun _ t2 => wpAny (model X.prog X.w) X.A (setFlight v none) (fun _ t3 =>
      wpAny (model X.prog X.w) X.A (handleBy v X.env [.ExceptHandler (some (.Name x np)) (some n) [.Assign [.Name y p2] (.Name n p1) p3] pos']) (SP X pins E) X.xe t3) X.xe t2) X.xe t) body (tb (wKeep X.K c i j E)) := by
    refine hb _ _ _ ?_ PassesOwn.looking
    rintro u s' ⟨a, B, sI, pins', σ', H', cls, d, rfl, Jt, nb, up, sky, na, os, ag, hm, C, rfl, rfl, hend⟩
    have J : Inv X pins σ' H' sI := Jt.ofTry okX
    have sk : Sky B (X.env :: X.outer) a (Zc (.ref C) none) X.env.locals s'.heap := hs ▸ sky
    refine Sky.land Zc.steady fr hf sk fun g fl up1 => ?_
    have Jg : Inv X pins σ' H' { s' with heap := g } := J.landed nb fl.1 (up.trans up1) os ag
    obtain ⟨oe, ws, ge, ze, de⟩ := fl.there
    have out : a ∉ frs (X.env :: X.outer) := fun hm' => by
      obtain ⟨_, o', q, hnf⟩ := fl.2.2.1.mem hm'
      rw [ge] at q
      cases q
      exact hnf _ de
    have aL : a ≠ X.env.locals := fun z => out (List.mem_filterMap.mpr ⟨X.env, List.mem_cons_self, by rw [z]; exact hf⟩)
    have aF : a ∉ X.fs := fun hm' => by
      obtain ⟨e1, m1, q1⟩ := List.mem_filterMap.mp hm'
      exact out (List.mem_filterMap.mpr ⟨e1, List.mem_cons_of_mem _ m1, q1⟩)
    -- it was not there in the state without it, so it was not there at the entry
    have noI : sI.heap.get? a = none := by
      cases q : sI.heap.get? a with
      | none => rfl
      | some o =>
        have := nb a o q (by rw [hs]; exact out)
        rw [fl.2.1] at this
        cases this
    have no0 : X.s_0.heap.get? a = none := by
      cases q : X.s_0.heap.get? a with
      | none => rfl
      | some o =>
        obtain ⟨o', q'⟩ := J.base.there a o q (by rw [hex]; exact List.not_mem_nil)
        rw [noI] at q'
        cases q'
    have nopin : ∀ p ∈ X.pn ++ pins, p.1 ≠ a := fun p hp z => by
      have q := (J.pin p hp).1
      rw [z, noI] at q
      cases q
    have Sg1 := Jg.suite ge de na aL aF
    refine wpAny_handleBy_cons (codeAny_handlers_test ?_) (by intro q; cases q)
    have lk : PySem.W.Looks (model X.prog X.w) g (typeOf (.ref a)) (.ref C) := fun A Q E s k q => wpAny_typeOf_ref (k _ _ ge) (by rw [ze.1]; exact q)
    have lm := PySem.W.exm_one (M := model X.prog X.w) Jg.kIn lk hm
    have ev : ∀ {Q : Value → Shared → Prop} {R : Value → Shared → Prop}, Q c { s' with heap := g } → wpAny (model X.prog X.w) (X.A.mark (some (.ref a))) (eval (.Name x np) X.env) Q R { s' with heap := g } := fun {Q R} q => by
      obtain ⟨h1, h2, h3 | ⟨h3, h4, h5⟩⟩ := hc
      · exact ld_glob (X := X.suite a ((a, oe) :: (X.pn ++ pins))) Sg1 h1 h3 q h2
      · exact ld_blt (X := X.suite a ((a, oe) :: (X.pn ++ pins))) Sg1 h1 h3 h4 q h5 h2
    refine ev (lm.here (codeAny_handlers_suite_as ?_))
    refine HandSPX.lands_againZ fl fun g2 fl2 up2 => ?_
    have Jg2 : Inv X pins σ' H' { s' with heap := g2 } := J.landed nb fl2.1 ((up.trans up1).trans up2) os ag
    obtain ⟨oe2, ws2, ge2, ze2, de2⟩ := fl2.there
    have Sg2 := Jg2.suite ge2 de2 na aL aF
    refine store_ok (X := X.suite a ((a, oe2) :: (X.pn ++ pins))) (v := .ref a) Sg2 hN hi (.inl hln) rfl (fun t5 S5 => ?_) (.inr hln)
    have stp := pss_one (ps_set (X := X.suite a ((a, oe2) :: (X.pn ++ pins))) (pos := p3) (pos' := p2) (i := j) hN hj (.inl hly) (hst a oe2 (X.pn ++ pins)) hsw (.inr hly))
    have hil : i < σ'.length := by
      rw [J.len]; exact (List.getElem?_eq_some_iff.mp hi).1
    refine wpAny_mono (stp.run [] t5 _ H' { nx := fun σ6 H6 => σ6 = (σ'.set i (some (.ref a))).set j (some (.ref a)) ∧ H6 = H', rt := fun _ _ => False } S5 ⟨.ref a, List.getElem?_set_self hil, rfl, rfl⟩) (fun fw t6 q6 => ?_) (fun _ _ z => z.elim)
    cases fw with
    | next =>
      obtain ⟨σ6, H6, S6, e6, e7⟩ := q6
      rw [e6, e7] at S6
      have S7 : Inv X ((a, oe2) :: pins) ((σ'.set i (some (.ref a))).set j (some (.ref a))) H' t6 :=
        ⟨okX, S6.os, S6.bare, S6.base, S6.loc, S6.cell, S6.free, S6.freeC, fun p hp => S6.pin p (by
          rcases List.mem_append.mp hp with q | q
          · exact List.mem_append_left _ (List.mem_cons_of_mem _ (List.mem_append_left _ q))
          · rcases List.mem_cons.mp q with q | q
            · rw [q]; exact List.mem_append_left _ List.mem_cons_self
            · exact List.mem_append_left _ (List.mem_cons_of_mem _ (List.mem_append_right _ q))), S6.hok, S6.len⟩
      refine gone_ok S7 hN hi hln fun t7 S8 => ?_
      exact ⟨_, _, track_old S8 ze2 de2 no0 nopin, hend a na⟩
    | brk => obtain ⟨_, _, _, q⟩ := q6; exact q.elim
    | cont => obtain ⟨_, _, _, q⟩ := q6; exact q.elim
    | ret u => obtain ⟨_, _, _, _, _, q⟩ := q6; exact q.elim
  refine wpAny_Try_except ?_
  refine wpAny_mono (here.run [] s σ H E (I.toTry _) hread) (fun fw t1 q1 => ?_) fun _ _ z => z
  cases fw with
  | next =>
    obtain ⟨σ1, H1, J1, q⟩ := q1
    exact wpAny_execs_nil ⟨σ1, H1, J1.ofTry okX, q⟩
  | brk =>
    obtain ⟨σ1, H1, J1, q⟩ := q1
    exact ⟨σ1, H1, J1.ofTry okX, q⟩
  | cont =>
    obtain ⟨σ1, H1, J1, q⟩ := q1
    exact ⟨σ1, H1, J1.ofTry okX, q⟩
  | ret u =>
    obtain ⟨v, σ1, H1, J1, r, q⟩ := q1
    exact ⟨v, σ1, H1, J1.ofTry okX, r, q⟩
end
end DL

/-! DX, part 2: refusals: defs that raise, try .. except .. as .., isinstance of what was caught. -/
namespace DL
open PySem PySem.Spec PyProof.Rows L2
def excNames : List Str := ["NoNumber", "NoShape", "NoSize"]
/-- what the head tells of the exception classes -/
structure ExcOk (K : PySem.W.Frag) (mg : Str → Option Value) : Prop where
  gF : mg "FitError" = some (.ref (He.ga K "FitError"))
  g : ∀ x ∈ excNames, mg x = some (.ref (He.ga K x))
  e : ∀ x ∈ excNames, (He.Fa.exc x).ok K = true
  fit : ∀ x ∈ excNames, PySem.W.exmOne K (.ref (He.ga K x)) (.ref (He.ga K "FitError")) = some true
  cls : ∀ x ∈ excNames, ExcC K (He.ga K x)
  kit : ∀ x ∈ excNames, ∀ y ∈ excNames, PySem.W.kitOne K (.ref (He.ga K x)) (.ref (He.ga K y)) = some (decide (x = y))
  ve : ∀ x ∈ excNames, PySem.W.kitOne K (.ref (He.ga K x)) (.type "ValueError") = some true
  bve : mg "ValueError" = none
  bis : mg "isinstance" = none

/-! ### isinstance of a kept exception -/
section
variable {X : Cx}
theorem inst_kept {pins : List (Addr × Obj)} {σ : Sg} {H : Hp} {s : Shared} {a C : Addr} (I : Inv X pins σ H s) (h : H a = some (ExH (.ref C) a)) : ∃ oe, PySem.W.InstAt s.heap a oe C none := by
  obtain ⟨⟨oe, vs, hget, hz, hv⟩, _⟩ := (show ObjOk X.prog X.w H s.heap a (ExH (.ref C) a) from I.hok a _ h)
  obtain ⟨oc, od, oda, osl⟩ := oe
  obtain ⟨h1, h2⟩ := hz
  dsimp only at h1 h2 hv
  subst h1 h2 hv
  exact ⟨_, hget, rfl, rfl, trivial⟩
def rIsX (K : PySem.W.Frag) : List V → Hp → VK → Prop := fun xs H Q => ∃ (a C : Addr) (c : V) (cv : Value) (b : Bool), xs = [.ref a, c] ∧ H a = some (ExH (.ref C) a) ∧ ExcC K C ∧ ClsV c cv ∧ PySem.W.kitOne K (.ref C) cv = some b ∧ Q (.bl b) H
theorem call_isX : CallR X (.builtin "isinstance") (rIsX X.K) := by
  intro pins s σ H xs us Q I r h
  obtain ⟨a, C, c, cv, b, rfl, ha, ec, kc, hk, q⟩ := h
  obtain ⟨u1, u2, rfl, r1, r2⟩ := vals2 r
  cases r1
  have e2 := kc.eq r2
  subst e2
  obtain ⟨oe, J⟩ := inst_kept I ha
  exact PySem.W.kia_one (PySem.W.handS_kitx_exc ec.hg ec.hk ec.hs ec.hd ec.ha ec.hn ec.ht ec.hm) I.kIn J hk (fun z => nomatch z) fun tk => ⟨.bl b, H, I.tok tk, rfl, q⟩
def rIsXT (K : PySem.W.Frag) : List V → Hp → VK → Prop := fun xs H Q => ∃ (a C tp : Addr) (cs : List V) (us : List Value) (b : Bool), xs = [.ref a, .ref tp] ∧ H a = some (ExH (.ref C) a) ∧ ExcC K C ∧ H tp = some (.tup cs) ∧ Paired ClsV cs us ∧ PySem.W.kitAny K (.ref C) us = some b ∧ Q (.bl b) H
theorem call_isXT : CallR X (.builtin "isinstance") (rIsXT X.K) := by
  intro pins s σ H xs us Q I r h
  obtain ⟨a, C, tp, cs, ws, b, rfl, ha, ec, hT, kc, hk, q⟩ := h
  obtain ⟨u1, u2, rfl, r1, r2⟩ := vals2 r
  cases r1
  cases r2
  obtain ⟨oe, J⟩ := inst_kept I ha
  obtain ⟨_, its, rv, o, g1, g2, n, g3⟩ := (show ObjOk X.prog X.w H s.heap tp (.tup cs) from I.hok tp _ hT)
  have e3 := ClsV.all kc rv
  subst e3
  obtain ⟨oc, od, dt, sl⟩ := o
  dsimp only at g2 g3
  subst g2 g3
  exact PySem.W.kia_tup (PySem.W.handS_kitx_exc ec.hg ec.hk ec.hs ec.hd ec.ha ec.hn ec.ht ec.hm) I.kIn J g1 hk (fun z => nomatch z) fun tk => ⟨.bl b, H, I.tok tk, rfl, q⟩
end
def excOf : D → Option Str
  | .dict [(.str x, .none)] => if excNames.contains x = true then some x else none
  | _ => none
theorem excOf_some {d : D} {x : Str} (h : excOf d = some x) : d = excD x ∧ x ∈ excNames := by
  unfold excOf at h
  split at h
  · rename_i y
    by_cases hy : excNames.contains y = true
    · rw [if_pos hy] at h
      cases h
      exact ⟨rfl, List.contains_iff_mem.mp hy⟩
    · rw [if_neg hy] at h; cases h
  · cases h
def isx1 (y : Str) (d : D) : Option D := (excOf d).map fun x => .bool (decide (x = y))
def isxV (d : D) : Option D := (excOf d).map fun _ => .bool true
def isx2 (y z : Str) (d : D) : Option D := (excOf d).map fun x => .bool (decide (x = y) || decide (x = z))
theorem rep_exc {K : PySem.W.Frag} {F H : Hp} {v : V} {x : Str} (hs : Same F H) (r : Rep K F v (excD x)) : ∃ a, v = .ref a ∧ H a = some (ExH (.ref (He.ga K x)) a) := by
  unfold excD at r
  cases r with
  | dat h => cases h
  | exc h => exact ⟨_, rfl, hs _ _ h⟩
section
variable {X : Cx} {O : List Nat} {e : Expr} {f : EF} {p p1 p2 p3 pos : Pos} {y z : Str}
theorem e_isx1 (T : ExcOk X.K X.mg) (ha : DE X O e f) (hy : excNames.contains y = true := by decide +kernel) (hg : Gl X "isinstance" := by rfl) (hgy : Gl X y := by rfl) (hd : (y == ("__debug__" : Str)) = false := by decide)
    (hs : starEach (e :: [.Name y p1]) X.env = (false, eval e X.env) :: starEach [.Name y p1] X.env := by rfl) (hs2 : starEach (.Name y p1 :: []) X.env = (false, eval (.Name y p1) X.env) :: starEach [] X.env := by rfl)
    (hpl : (backTo pos (starEach [.Name y p1] X.env)).any (·.1) = false := by rfl) : DE X O (.Call (.Name "isinstance" p) [e, .Name y p1] [] pos) (o1 (isx1 y) f) := by
  have hy' := List.contains_iff_mem.mp hy
  obtain ⟨t, pt, rd⟩ := ha
  refine ⟨_, pe_callB call_isX hg T.bis (by decide +kernel) (pa_cons pt (pa_cons (pe_glob (v := .ref (He.ga X.K y)) hgy (T.g y hy') rfl hd) pa_nil hs2) hs) (by decide) (by decide) hs hpl, fun G σ H F ρ d Q s hf q => ?_⟩
  unfold o1 isx1 at hf
  cases e1 : f ρ with
  | none => simp [e1] at hf
  | some c =>
    simp only [e1, Option.bind_some] at hf
    cases e2 : excOf c with
    | none => simp [e2] at hf
    | some x =>
      simp [e2] at hf; subst hf
      obtain ⟨rfl, hx⟩ := excOf_some e2
      refine rd G σ H F ρ _ _ s e1 fun v H1 F1 g1 r1 => ?_
      obtain ⟨a, rfl, hH⟩ := rep_exc g1.fh r1
      exact ⟨a, _, _, _, _, rfl, hH, T.cls x hx, .own _, T.kit x hx y hy', q _ H1 F1 g1 (.dat (.bl _))⟩
theorem e_isxV (T : ExcOk X.K X.mg) (ha : DE X O e f) (hg : Gl X "isinstance" := by rfl) (hgy : Gl X "ValueError" := by rfl)
    (hs : starEach (e :: [.Name "ValueError" p1]) X.env = (false, eval e X.env) :: starEach [.Name "ValueError" p1] X.env := by rfl) (hs2 : starEach (.Name "ValueError" p1 :: []) X.env = (false, eval (.Name "ValueError" p1) X.env) :: starEach [] X.env := by rfl)
    (hpl : (backTo pos (starEach [.Name "ValueError" p1] X.env)).any (·.1) = false := by rfl) : DE X O (.Call (.Name "isinstance" p) [e, .Name "ValueError" p1] [] pos) (o1 isxV f) := by
  obtain ⟨t, pt, rd⟩ := ha
  refine ⟨_, pe_callB call_isX hg T.bis (by decide +kernel) (pa_cons pt (pa_cons (pe_bltn (v := .ty "ValueError") hgy T.bve (by decide +kernel) rfl) pa_nil hs2) hs) (by decide) (by decide) hs hpl, fun G σ H F ρ d Q s hf q => ?_⟩
  unfold o1 isxV at hf
  cases e1 : f ρ with
  | none => simp [e1] at hf
  | some c =>
    simp only [e1, Option.bind_some] at hf
    cases e2 : excOf c with
    | none => simp [e2] at hf
    | some x =>
      simp [e2] at hf; subst hf
      obtain ⟨rfl, hx⟩ := excOf_some e2
      refine rd G σ H F ρ _ _ s e1 fun v H1 F1 g1 r1 => ?_
      obtain ⟨a, rfl, hH⟩ := rep_exc g1.fh r1
      exact ⟨a, _, _, _, _, rfl, hH, T.cls x hx, .ty _, T.ve x hx, q _ H1 F1 g1 (.dat (.bl _))⟩
theorem e_isx2 {k : Nat} (T : ExcOk X.K X.mg) (ha : DE X O e f) (hy : excNames.contains y = true := by decide +kernel) (hz : excNames.contains z = true := by decide +kernel) (hg : Gl X "isinstance" := by rfl) (hgy : Gl X y := by rfl) (hgz : Gl X z := by rfl)
    (hd : (y == ("__debug__" : Str)) = false := by decide) (hd2 : (z == ("__debug__" : Str)) = false := by decide)
    (hs : starEach (e :: [.Tuple [.Name y p1, .Name z p2] k p3]) X.env = (false, eval e X.env) :: starEach [.Tuple [.Name y p1, .Name z p2] k p3] X.env := by rfl) (hs2 : starEach (.Tuple [.Name y p1, .Name z p2] k p3 :: []) X.env = (false, eval (.Tuple [.Name y p1, .Name z p2] k p3) X.env) :: starEach [] X.env := by rfl)
    (hs3 : starEach (.Name y p1 :: [.Name z p2]) X.env = (false, eval (.Name y p1) X.env) :: starEach [.Name z p2] X.env := by rfl) (hs4 : starEach (.Name z p2 :: []) X.env = (false, eval (.Name z p2) X.env) :: starEach [] X.env := by rfl)
    (hpl : (backTo pos (starEach [.Tuple [.Name y p1, .Name z p2] k p3] X.env)).any (·.1) = false := by rfl) : DE X O (.Call (.Name "isinstance" p) [e, .Tuple [.Name y p1, .Name z p2] k p3] [] pos) (o1 (isx2 y z) f) := by
  have hy' := List.contains_iff_mem.mp hy
  have hz' := List.contains_iff_mem.mp hz
  obtain ⟨t, pt, rd⟩ := ha
  refine ⟨_, pe_callB call_isXT hg T.bis (by decide +kernel) (pa_cons pt (pa_cons (pe_tup (pa_cons (pe_glob (v := .ref (He.ga X.K y)) hgy (T.g y hy') rfl hd) (pa_cons (pe_glob (v := .ref (He.ga X.K z)) hgz (T.g z hz') rfl hd2) pa_nil hs4) hs3)) pa_nil hs2) hs) (by decide) (by decide) hs hpl, fun G σ H F ρ d Q s hf q => ?_⟩
  unfold o1 isx2 at hf
  cases e1 : f ρ with
  | none => simp [e1] at hf
  | some c =>
    simp only [e1, Option.bind_some] at hf
    cases e2 : excOf c with
    | none => simp [e2] at hf
    | some x =>
      simp [e2] at hf; subst hf
      obtain ⟨rfl, hx⟩ := excOf_some e2
      refine rd G σ H F ρ _ _ s e1 fun v H1 F1 g1 r1 => ?_
      obtain ⟨a, rfl, hH⟩ := rep_exc g1.fh r1
      refine ⟨by show 2 ≤ sizeLine; decide, fun tp ht => ?_⟩
      have hne : a ≠ tp := ne_of_none hH ht
      have k1 := T.kit x hx y hy'
      have k2 := T.kit x hx z hz'
      refine ⟨a, He.ga X.K x, tp, _, [.ref (He.ga X.K y), .ref (He.ga X.K z)], _, rfl, by rw [upd_ne hne]; exact hH, T.cls x hx, upd_same, .cons (.own _) (.cons (.own _) .nil), ?_, q _ _ _ (g1.trans (Grow.new g1.fh ht)) (.dat (.bl (decide (x = y) || decide (x = z))))⟩
      unfold PySem.W.kitAny
      rw [k1]
      by_cases h1 : x = y
      · rw [decide_eq_true h1]; rfl
      · rw [decide_eq_false h1]
        show PySem.W.kitAny X.K _ _ = _
        unfold PySem.W.kitAny
        rw [k2]
        by_cases h2 : x = z
        · rw [decide_eq_true h2]; rfl
        · rw [decide_eq_false h2]; rfl
end
@[simp] theorem exN1 : excNames.contains ("NoNumber" : Str) = true := by decide +kernel
@[simp] theorem exN2 : excNames.contains ("NoShape" : Str) = true := by decide +kernel
@[simp] theorem exN3 : excNames.contains ("NoSize" : Str) = true := by decide +kernel
theorem excOf_d {x : Str} (h : excNames.contains x = true) : excOf (excD x) = some x := by
  unfold excOf excD
  simp only
  rw [if_pos h]
theorem isx1_d {x y : Str} (h : excNames.contains x = true) : isx1 y (excD x) = some (.bool (decide (x = y))) := by unfold isx1; rw [excOf_d h]; rfl
theorem isx2_d {x y z : Str} (h : excNames.contains x = true) : isx2 y z (excD x) = some (.bool (decide (x = y) || decide (x = z))) := by unfold isx2; rw [excOf_d h]; rfl
theorem isxV_d {x : Str} (h : excNames.contains x = true) : isxV (excD x) = some (.bool true) := by unfold isxV; rw [excOf_d h]; rfl
@[simp] theorem xNumNum : isx1 "NoNumber" (excD "NoNumber") = some (.bool true) := by rw [isx1_d exN1]; rfl
@[simp] theorem xShShNum : isx2 "NoShape" "NoSize" (excD "NoNumber") = some (.bool false) := by rw [isx2_d exN1]; rw [show (decide (("NoNumber" : Str) = "NoShape") || decide (("NoNumber" : Str) = "NoSize")) = false by decide +kernel]
@[simp] theorem xVNum : isxV (excD "NoNumber") = some (.bool true) := isxV_d exN1
@[simp] theorem xShSh : isx1 "NoShape" (excD "NoShape") = some (.bool true) := by rw [isx1_d exN2]; rfl
@[simp] theorem xNumSizeSh : isx2 "NoNumber" "NoSize" (excD "NoShape") = some (.bool false) := by rw [isx2_d exN2]; rw [show (decide (("NoShape" : Str) = "NoNumber") || decide (("NoShape" : Str) = "NoSize")) = false by decide +kernel]
@[simp] theorem xVSh : isxV (excD "NoShape") = some (.bool true) := isxV_d exN2
@[simp] theorem xSizeSize : isx1 "NoSize" (excD "NoSize") = some (.bool true) := by rw [isx1_d exN3]; rfl
@[simp] theorem xNumShSize : isx2 "NoNumber" "NoShape" (excD "NoSize") = some (.bool false) := by rw [isx2_d exN3]; rw [show (decide (("NoSize" : Str) = "NoNumber") || decide (("NoSize" : Str) = "NoShape")) = false by decide +kernel]
@[simp] theorem xVSize : isxV (excD "NoSize") = some (.bool true) := isxV_d exN3
@[simp] theorem exM1 : (("NoNumber" : Str) ∈ excNames) = True := eq_true (List.contains_iff_mem.mp exN1)
@[simp] theorem exM2 : (("NoShape" : Str) ∈ excNames) = True := eq_true (List.contains_iff_mem.mp exN2)
@[simp] theorem exM3 : (("NoSize" : Str) ∈ excNames) = True := eq_true (List.contains_iff_mem.mp exN3)
end DL

/-! DX, part 3: defs that raise; the try around their call. -/
namespace DL
open PySem PySem.Spec PyProof.Rows L2
/-- Fn: it ends with that value; Fx: it raises an exception of that class -/
def SpX (K : PySem.W.Frag) (n : Nat) (Fn : List D → Option D) (Fx : List D → Option Str) : Sp := fun vs H Q E => ∃ F ds, vs.length = n ∧ Same F H ∧ RepAll K F vs ds ∧
  ((∃ d, Fn ds = some d ∧ ∀ v H' F', Grow F H F' H' → Q v H') ∨ (∃ x, Fx ds = some x ∧ x ∈ excNames ∧ ∀ H' F', Grow F H F' H' → E (.ref (He.ga K x)) none H'))
def DefX (P : Program) (w : World) (K : PySem.W.Frag) (mg : Str → Option Value) (name : Str) (k : Nat) (ps : List Str) (Fn : List D → Option D) (Fx : List D → Option Str) : Prop :=
  ∃ (fa : Addr) (fd : FuncData), mg name = some (.ref fa) ∧ PySem.W.keepIn K (.ref fa) = true ∧ (∀ (s : Shared) (us : List Value), us.length = ps.length → BindsTo s fd ⟨us, []⟩ (ps.zip us)) ∧
    ∀ base : Heap, FnOk P w K mg base (L2.CX P w) k fa fd ps (SpX K ps.length Fn Fx)
/-- a block that ends in an exception of the class f says -/
def DX (X : Cx) (W : WX) (O : List Nat) (sts : List Stmt) (f : Rho → Option Str) : Prop := ∃ t, PSs X sts t ∧ ∀ (G : Ent) (σ : Sg) (H F : Hp) (ρ : Rho) (x : Str) (E : Ends),
  StRep X.K G O σ H ρ F → f ρ = some x → (∀ σ' H' F', Grow G.F0 G.H0 F' H' → W (.ref (He.ga X.K x)) none σ' H') → t E σ H
section
variable {X : Cx} {W : WX} {RO : Bool} {O O1 LB : List Nat} {e : Expr} {es : List Expr} {fa : AF} {pos p p2 : Pos} {st : Stmt} {rest : List Stmt} {s1 : SF} {f : Rho → Option Str} {x m : Str}
theorem ps_nox {st : Stmt} {t : TS} (h : PS X.nox st t) : PS X st t := ⟨fun pins s σ H E I hw => wpAny_mono (h.run pins s σ H E (I.wish _) hw) (fun _ _ q => q.unwish) fun _ _ z => z.elim⟩
def thenX (s1 : SF) (f : Rho → Option Str) : Rho → Option Str := fun ρ => match s1 ρ with
  | some (.nx ρ') => f ρ'
  | _ => none
theorem dx_cons (h1 : DS X.nox RO O O1 LB st s1) (h2 : DX X W O1 rest f) : DX X W O (st :: rest) (thenX s1 f) := by
  obtain ⟨t, p, r⟩ := h1
  obtain ⟨u, pu, ru⟩ := h2
  refine ⟨_, pss_cons (ps_nox p) pu, fun G σ H F ρ x E s hf q => ?_⟩
  unfold thenX at hf
  cases e : s1 ρ with
  | none => simp [e] at hf
  | some o =>
    cases o with
    | nx ρ' =>
      simp only [e] at hf
      exact r G σ H F ρ _ _ s e fun σ' H' F' s' _ => ru G σ' H' F' ρ' x E s' hf q
    | _ => simp [e] at hf
def ifX (c : BF) (x : Str) : Rho → Option Str := fun ρ => match c ρ with
  | some true => some x
  | _ => none
theorem dx_if {c : BF} {j : Nat} {p3 p4 : Pos} (x : Str) (T : ExcOk X.K X.mg) (hx : excNames.contains x = true) (hc : DT X.nox O e c) (tk : Takes X W) (hcalm : X.calm = true) (hg : Gl X x) (hdb : (x == ("__debug__" : Str)) = false) :
    DX X W O (.If e [.Raise (some (.Call (.Name x p) [.Constant (.str m) j p2] [] pos)) none p3] [] p4 :: rest) (ifX c x) := by
  obtain ⟨t, pt, rd⟩ := hc
  have hx' := List.contains_iff_mem.mp hx
  obtain ⟨e1, e2, e3, e4⟩ := He.exc_ok (T.e x hx')
  refine ⟨_, pss_cons (ps_if pt.nox (pss_one (ps_raise hcalm tk (pmk_own PySem.F.excBase_ValueError e1 (T.g x hx') e2 (raises_own e3 e4) hg hdb))) pss_nil) pss_never, fun G σ H F ρ y E s hf q => ?_⟩
  unfold ifX at hf
  cases ec : c ρ with
  | none => simp [ec] at hf
  | some b =>
    cases b with
    | false => simp [ec] at hf
    | true =>
      simp [ec] at hf
      subst hf
      exact rd G σ H F ρ true _ s ec fun H1 F1 g1 => q σ H1 F1 (s.g.trans g1)
theorem ifX_mem {c : BF} {x y : Str} {ρ : Rho} (hx : excNames.contains x = true) (h : ifX c x ρ = some y) : y ∈ excNames := by
  unfold ifX at h
  split at h
  · cases h; exact List.contains_iff_mem.mp hx
  · cases h
/-- the strongest reading of an argument list -/
def tAr (K : PySem.W.Frag) (O : List Nat) (f : AF) : TA := fun σ H Q => ∃ (G : Ent) (F : Hp) (ρ : Rho) (ds : List D), StRep K G O σ H ρ F ∧ f ρ = some ds ∧ ∀ vs H' F', Grow F H F' H' → RepAll K F' vs ds → Q vs H'
theorem DA_pa {Y : Cx} {f : AF} (h : DA Y O es f) : PA Y es (tAr Y.K O f) := by
  obtain ⟨⟨t, p, r⟩, _⟩ := h
  exact ⟨fun pos pins s σ H Q I ⟨G, F, ρ, d, sr, hf, q⟩ => p.run pos pins s σ H Q I (r G σ H F ρ d Q sr hf q)⟩
/-- return f(..), f raises -/
theorem dx_ret {k j : Nat} {ps : List Str} {Fn : List D → Option D} {Fx : List D → Option Str} (h : DefX X.prog X.w X.K X.mg x k ps Fn Fx) (hr : Room j X.A) (hk : Nat.ble k j = true) (ha : DA X O (e :: es) fa) (tk : Takes X W) (hx : ∀ ds y, Fx ds = some y → y ∈ excNames) (hn : es.length + 1 = ps.length := by rfl)
    (hg : Gl X x := by rfl) (hdb : (x == ("__debug__" : Str)) = false := by decide) (he : starEach (e :: es) X.env = (false, eval e X.env) :: starEach es X.env := by rfl) (hpl : (backTo pos (starEach es X.env)).any (·.1) = false := by rfl) :
    DX X W O [.Return (some (.Call (.Name x p) (e :: es) [] pos)) p2] (fun ρ => (fa ρ).bind Fx) := by
  obtain ⟨fad, fd, hm, hkp, hb, FO⟩ := h
  refine ⟨_, pss_one (ps_ret (pe_callS (FO X.base) (hr.mono (Nat.le_of_ble_eq_true hk)) hg hm hkp (binds_of hb) (fun σ => passAt tk σ) (DA_pa ha) hdb he hpl)), fun G σ H F ρ y E s hf q => ?_⟩
  have hl := ha.2
  cases e1 : fa ρ with
  | none => simp [e1] at hf
  | some ds =>
    simp only [e1, Option.bind_some] at hf
    exact ⟨G, F, ρ, ds, s, e1, fun vs H1 F1 g1 r1 => ⟨F1, ds, by rw [r1.length, ← hn]; exact hl ρ ds e1, g1.fh, r1, .inr ⟨y, hf, hx ds y hf, fun H2 F2 g2 => q σ H2 F2 (s.g.trans (g1.trans g2))⟩⟩⟩
end
section
variable {P : Program} {w : World} {K : PySem.W.Frag} {mg : Str → Option Value} {base : Heap}
/-- a def that may raise: on some arguments it runs through, on others it raises -/
theorem fnX_ok {x qual : Str} {params : Arguments} {body : List Stmt} {scope : Scope} {dvs : List V} {kws : List (Str × V)} {f : Addr} {fd : FuncData} {N ps : List Str} {k : Nat} {own : Bool} {O' : List Nat} {b : SF} {fx : Rho → Option Str} (F : FunD K x qual params body scope dvs kws f fd) (S : FnScope N ps scope)
    (hbody : ∀ (cdv : Value) (A : Around) (outer : List Env) (s : Shared) (H : Hp) (E : XK), Room k (A.deeper (envOfC qual scope s.heap.objs.size f cdv)) →
      DSs (cxOf (L2.CX P w) P w K mg base N qual scope f cdv A outer s H E).nox own [] O' [] body b)
    (hx : ∀ (cdv : Value) (A : Around) (outer : List Env) (s : Shared) (H : Hp) (E : XK), Room k (A.deeper (envOfC qual scope s.heap.objs.size f cdv)) →
      DX (cxOf (L2.CX P w) P w K mg base N qual scope f cdv A outer s H E) (fun cls d _ H => E cls d H) [] body fx)
    {Fn : List D → Option D} (hFn : Fn = bodyFn own N.length b) {Fx : List D → Option Str} (hFx : Fx = fun ds => fx (startR N.length ds)) : FnOk P w K mg base (L2.CX P w) (k + 1) f fd ps (SpX K ps.length Fn Fx) := by
  subst hFn hFx
  refine F.ok S (fun vs H Q E h => h.choose_spec.choose_spec.1) (fun cdv A outer s H vs Q E hr h => ?_)
  obtain ⟨F, ds, hl, hs, hr2, h | h⟩ := h
  · obtain ⟨d, hf, q⟩ := h
    obtain ⟨t, p, r⟩ := hbody cdv A outer s H E hr
    refine ⟨t, p.nox, ?_⟩
    unfold bodyFn at hf
    cases e : b (startR N.length ds) with
    | none => rw [e] at hf; cases hf
    | some o =>
      rw [e] at hf
      refine r ⟨F, H⟩ (L2.start N vs) H F (startR N.length ds) o _ (stRep_start hs hr2) e ?_
      cases o with
      | nx ρ' => exact fun σ' H' F' s' _ => q .non H' F' s'.g
      | rt d' => exact fun v H' F' g _ => q v H' F' g
      | _ => cases hf
  · obtain ⟨y, hf, _, q⟩ := h
    obtain ⟨t, p, r⟩ := hx cdv A outer s H E hr
    exact ⟨t, p, r ⟨F, H⟩ (L2.start N vs) H F (startR N.length ds) y _ (stRep_start hs hr2) hf fun σ' H' F' g => q H' F' g⟩
end
section
variable {X : Cx} {RO : Bool} {O O2 LB : List Nat} {e : Expr} {es : List Expr} {fa : AF} {pos p np p1 p2 p3 pos' cpos spos : Pos} {x n y : Str}
/-- y = None; try: f(..) except FitError as n: y = n -/
def tryF (i j : Nat) (fa : AF) (Fn : List D → Option D) (Fx : List D → Option Str) : SF := fun ρ => (fa ρ).bind fun ds => match Fx ds with
  | some x => if excNames.contains x = true then some (.nx ((ρ.set j (some (excD x))).set i none)) else none
  | none => (Fn ds).map fun _ => .nx ρ
theorem set_comm2 {α : Type} {l : List (Option α)} {i j : Nat} {u v : Option α} (h : i ≠ j) : (((l.set i u).set j v).set i none) = (l.set j v).set i none := by
  apply List.ext_getElem?
  intro m
  by_cases hm : m = i
  · subst hm
    simp only [List.getElem?_set, List.length_set]
    simp
  · rw [List.getElem?_set_ne (Ne.symm hm), List.getElem?_set_ne (Ne.symm hm)]
    by_cases hj : m = j
    · subst hj
      simp [List.getElem?_set, List.length_set, h]
    · rw [List.getElem?_set_ne (Ne.symm hj), List.getElem?_set_ne (Ne.symm hj), List.getElem?_set_ne (Ne.symm hm)]
theorem s_try (i j : Nat) {k l : Nat} {ps : List Str} {Fn : List D → Option D} {Fx : List D → Option Str} (T : ExcOk X.K X.mg) (h : DefX X.prog X.w X.K X.mg x k ps Fn Fx) (hr : Room l X.A) (hk : Nat.ble k l = true) (hO : O.contains i = false) (hO2 : O.contains j = false)
    (ha : ∀ (W : WX) (pn : List (Addr × Obj)) (xe : Value → Shared → Prop), DA (X.tr pn xe) O (e :: es) fa) (hij : i ≠ j) (hN : X.N.Nodup) (hs : X.stack = X.env :: X.outer := by rfl) (hf : X.env.frame = some X.env.locals := by rfl) (hex : X.ex = [] := by rfl)
    (hi : X.N[i]? = some n := by rfl) (hj : X.N[j]? = some y := by rfl) (hln : X.env.kindOf n = some .local := by rfl) (hly : X.env.kindOf y = some .local := by rfl) (hgF : Gl X "FitError" := by rfl)
    (hn : es.length + 1 = ps.length := by rfl) (hg : Gl X x := by rfl) (hdb : (x == ("__debug__" : Str)) = false := by decide) (he : starEach (e :: es) X.env = (false, eval e X.env) :: starEach es X.env := by rfl) (hpl : (backTo cpos (starEach es X.env)).any (·.1) = false := by rfl)
    (hd : (n == ("__debug__" : Str)) = false := by decide) (hcd : (n == ("__classdict__" : Str)) = false := by decide) (hsw1 : swapsWith (.Call (.Name x p) (e :: es) [] cpos) none spos.line X.env = pure false := by rfl)
    (hsw : swapsWith (.Name n p1) (some (.Name y p2)) p3.line X.env = pure false := by rfl) :
    DS X RO O O LB (.Try [.Expr (.Call (.Name x p) (e :: es) [] cpos) spos] [.ExceptHandler (some (.Name "FitError" np)) (some n) [.Assign [.Name y p2] (.Name n p1) p3] pos'] [] [] pos) (tryF i j fa Fn Fx) := by
  obtain ⟨fad, fd, hm, hkp, hb, FO⟩ := h
  have hl := (ha (fun _ _ _ _ => False) [] fun _ _ => False).2
  refine ⟨_, ps_try_keep (i := i) (j := j) (tb := fun W => tDrop (tCallS (SpX X.K ps.length Fn Fx) (WE W) (tAr X.K O fa))) hs hf hex hN hi hj hln hly ⟨hgF, by decide, .inl T.gF⟩ (fun W pn xe tk _ => ?_) (fun a oe pn => pe_var (X := X.suite a ((a, oe) :: pn)) hi (.inl hln) hd hcd) hsw, fun G σ H F ρ o E s hf1 q => ?_⟩
  · exact pss_one (ps_expr (pe_callS (X := X.tr pn xe) (FO X.base) (hr.mono (Nat.le_of_ble_eq_true hk)) hg hm hkp (binds_of hb) (fun σ => passAt tk σ) (DA_pa (ha W pn xe)) hdb he hpl) hsw1)
  · unfold tryF at hf1
    cases e1 : fa ρ with
    | none => simp [e1] at hf1
    | some ds =>
      simp only [e1, Option.bind_some] at hf1
      refine ⟨G, F, ρ, ds, s, e1, fun vs H1 F1 g1 r1 => ⟨F1, ds, by rw [r1.length, ← hn]; exact hl ρ ds e1, g1.fh, r1, ?_⟩⟩
      cases e2 : Fx ds with
      | none =>
        simp only [e2] at hf1
        cases e3 : Fn ds with
        | none => simp [e3] at hf1
        | some d =>
          simp [e3] at hf1
          subst hf1
          exact .inl ⟨d, rfl, fun v H2 F2 g2 => q σ H2 F2 ((s.grow g1).grow g2) (same_trans g1.ff g2.ff)⟩
      | some c =>
        simp only [e2] at hf1
        by_cases hc : excNames.contains c = true
        · rw [if_pos hc] at hf1
          cases hf1
          have hc' := List.contains_iff_mem.mp hc
          refine .inr ⟨c, rfl, hc', fun H2 F2 g2 => ⟨T.fit c hc', _, rfl, rfl, fun a hna => ?_⟩⟩
          have s2 := (s.grow g1).grow g2
          have hfa : F2 a = none := free_of s2.sub hna
          have g3 : Grow F2 H2 (upd F2 a (ExH (.ref (He.ga X.K c)) a)) (upd H2 a (ExH (.ref (He.ga X.K c)) a)) := Grow.new s2.sub hna
          have s3 := (s2.grow g3).set j (v := .ref a) (d := excD c) (.exc upd_same)
          rw [noDrop hO2] at s3
          have s4 := s3.unset i
          rw [set_comm2 hij]
          exact q _ _ _ s4 (same_trans g1.ff (same_trans g2.ff g3.ff))
        · rw [if_neg hc] at hf1; cases hf1
end
end DL
/-! ### the head's further facts -/
namespace DL
open PySem PySem.Spec PyProof.Rows L2
def excCB (K : PySem.W.Frag) (x : Str) : Bool :=
  decide (PySem.W.findIn K (.ref (He.ga K x)) "__getattribute__" = some (some (.builtin "BaseException.__getattribute__"))) && (decide (PySem.W.findIn K (.ref (He.ga K x)) "__getattr__" = some none) &&
  (decide (PySem.W.subIn K (.ref (He.ga K x)) (.type "BaseException") = some true) && (PySem.W.hasDictIn K (He.ga K x) && (decide (PySem.W.findIn K (.ref (He.ga K x)) "__class__" = some (some (.builtin "object.__class__"))) &&
  (decide (PySem.W.specialIn K (.builtin "object.__class__") "__get__" = some (some (.builtin "getset_descriptor.__get__"))) && (decide (PySem.W.takesIn K (.builtin "object.__class__") = some true) && decide (PySem.W.mroIn K (He.ga K x) (.type "object") = some true)))))))
theorem excCB_ok {K : PySem.W.Frag} {x : Str} (h : excCB K x = true) : ExcC K (He.ga K x) := by
  unfold excCB at h
  simp only [Bool.and_eq_true, decide_eq_true_eq] at h
  exact ⟨h.1, h.2.1, h.2.2.1, h.2.2.2.1, h.2.2.2.2.1, h.2.2.2.2.2.1, h.2.2.2.2.2.2.1, h.2.2.2.2.2.2.2⟩
def excOkB (K : PySem.W.Frag) : Bool :=
  (He.Fa.glo "FitError").ok K && (excNames.all (fun x => (He.Fa.glo x).ok K && ((He.Fa.exc x).ok K && ((He.Fa.exm x "FitError" true).ok K && (excCB K x && (excNames.all (fun y => decide (PySem.W.kitOne K (.ref (He.ga K x)) (.ref (He.ga K y)) = some (decide (x = y)))) && decide (PySem.W.kitOne K (.ref (He.ga K x)) (.type "ValueError") = some true)))))) &&
  ((He.Fa.free "ValueError").ok K && (He.Fa.free "isinstance").ok K))
theorem excOkB_ok {K : PySem.W.Frag} {h : Heap} {mg : Str → Option Value} (X : K.In h) (G : h.Ns mainGlobals mg) (c : excOkB K = true) : ExcOk K mg := by
  unfold excOkB at c
  obtain ⟨c1, c⟩ := He.ba c
  obtain ⟨c2, c⟩ := He.ba c
  obtain ⟨c3, c4⟩ := He.ba c
  have all : ∀ x ∈ excNames, _ := List.all_eq_true.mp c2
  refine ⟨He.glo_ok X G c1, fun x hx => ?_, fun x hx => ?_, fun x hx => ?_, fun x hx => ?_, fun x hx y hy => ?_, fun x hx => ?_, He.free_ok X G c3, He.free_ok X G c4⟩
  all_goals
    obtain ⟨d1, d⟩ := He.ba (all x hx)
    obtain ⟨d2, d⟩ := He.ba d
    obtain ⟨d3, d⟩ := He.ba d
    obtain ⟨d4, d⟩ := He.ba d
    obtain ⟨d5, d6⟩ := He.ba d
  · exact He.glo_ok X G d1
  · exact d2
  · exact He.exm_ok d3
  · exact excCB_ok d4
  · exact of_decide_eq_true (List.all_eq_true.mp d5 y hy)
  · exact of_decide_eq_true d6
/-- hookD and one more look -/
def obsXG (n : Nat) (fa : List He.Fa) (fn : List He.DefD) (p : PySem.W.Frag → Bool) (g : Addr → Option Obj) : He.AlD × Bool := (He.obsD fa fn (He.frG g (He.asD g n)), p (He.frG g (He.asD g n)))
def hookX (n : Nat) (fa : List He.Fa) (fn : List He.DefD) (p : PySem.W.Frag → Bool) : PySem.W.Hook where
  α := He.AlD × Bool
  obs := fun s => obsXG n fa fn p s.heap.get?
  val := fun _ => (He.valD fn, true)
  says := fun _ h => ∃ K : PySem.W.Frag, K.In h ∧ He.SaysD fa fn K ∧ p K = true
  of := fun _ _ e => ⟨_, He.frG_in, (Prod.mk.inj e).1, (Prod.mk.inj e).2⟩
  keeps := fun _ _ _ ⟨K, hK, c⟩ k => ⟨K, PySem.W.Frag.In.keeps hK k, c⟩
theorem obsXG_eq {n : Nat} {fa : List He.Fa} {fn : List He.DefD} {p : PySem.W.Frag → Bool} {g : Addr → Option Obj} {s : Shared} (h : ∀ a, g a = s.heap.get? a) : obsXG n fa fn p g = (hookX n fa fn p).obs s := by
  have e : g = s.heap.get? := funext h
  rw [e] <;> rfl
end DL

/-! DL, part 9: numbers: gcd, fractions as Rat, sizes. -/
namespace DL
open PySem PySem.Spec PyProof.Rows L2
theorem gcd_loop : ∀ (n : Nat) (x y : Nat), y < n → whileN (tb (o2 gtD (vE 1) (cE (.int 0)))) (parF 0 1 (vE 1) (o2 modD (vE 0) (vE 1))) n [some (.int x), some (.int y)] = some (.nx [some (.int (Nat.gcd x y)), some (.int 0)])
  | 0, _, _, h => absurd h (by omega)
  | n + 1, x, y, h => by
    unfold whileN
    by_cases hy : y = 0
    · subst hy; simp
    · have h1 : (0 : Int) < (y : Int) := by omega
      have h2 : 0 < y := by omega
      simp [h1, h2, modD_pos h1]
      have ih := gcd_loop n y (x % y) (by have := Nat.mod_lt x (show 0 < y by omega); omega)
      rw [Nat.gcd_comm x y, Nat.gcd_rec, Nat.gcd_comm]
      simpa using ih
theorem rat_parts (t b : Int) (hb : b ≠ 0) : ∃ g k m : Int, (Int.gcd t b : Int) = g ∧ 0 < g ∧ t = g * k ∧ b = g * m ∧ (Rat.divInt t b).num = (if b < 0 then -k else k) ∧ ((Rat.divInt t b).den : Int) = (if b < 0 then -m else m) := by
  have hg : 0 < Int.gcd t b := Int.gcd_pos_of_ne_zero_right t hb
  obtain ⟨k, hk⟩ := Int.gcd_dvd_left (a := t) (b := b)
  obtain ⟨m, hm⟩ := Int.gcd_dvd_right (a := t) (b := b)
  have hg' : (0 : Int) < (Int.gcd t b : Int) := by omega
  have hn : (Rat.divInt t b).num = b.sign * t / (Int.gcd t b : Int) := by rw [Rat.num_divInt, Int.gcd_comm b t]
  have hd : ((Rat.divInt t b).den : Int) = (b.natAbs : Int) / (Int.gcd t b : Int) := by rw [Rat.den_divInt, if_neg hb, Int.gcd_comm b t, Int.natCast_ediv]
  generalize (Int.gcd t b : Int) = g at *
  refine ⟨g, k, m, rfl, hg', hk, hm, ?_, ?_⟩
  · rw [hn]
    by_cases h : b < 0
    · rw [if_pos h, Int.sign_eq_neg_one_of_neg h, hk, show (-1 : Int) * (g * k) = g * (-k) by grind]
      exact Int.mul_ediv_cancel_left _ (by omega)
    · rw [if_neg h, Int.sign_eq_one_of_pos (by omega), Int.one_mul, hk]
      exact Int.mul_ediv_cancel_left _ (by omega)
  · rw [hd]
    by_cases h : b < 0
    · rw [if_pos h, show ((b.natAbs : Nat) : Int) = -b by omega, hm, show -(g * m) = g * (-m) by grind]
      exact Int.mul_ediv_cancel_left _ (by omega)
    · rw [if_neg h, show ((b.natAbs : Nat) : Int) = b by omega, hm]
      exact Int.mul_ediv_cancel_left _ (by omega)
theorem divB_of {a b : Int} (h0 : b ≠ 0) (h : Builtin.divisionGoesByPylong a b = false) : divB a b = true := by
  unfold divB; rw [h]; simp [h0]
theorem noPyl {a b : Int} (h : Sz 9000 b) (h0 : b ≠ 0) : Builtin.divisionGoesByPylong a b = false :=
  PyProof.noPylong_of_log2 ((Nat.log2_lt (by omega)).mpr h)
theorem gcd_sz {t b : Int} {n : Nat} (hb : b ≠ 0) (h : Sz n b) : Sz n (Int.gcd t b : Int) := by
  unfold Sz at *
  have := Int.gcd_le_natAbs_right t hb
  omega
/-- a fraction's size: both parts below 2 ^ n -/
def Qz (n : Nat) (q : Rat) : Prop := Sz n q.num ∧ Sz n (q.den : Int)
theorem Qz.mono {m n : Nat} {q : Rat} (h : Qz m q) (hmn : m ≤ n) : Qz n q := ⟨h.1.mono hmn, h.2.mono hmn⟩
theorem den_ne (q : Rat) : (q.den : Int) ≠ 0 := by have := q.den_pos; omega
theorem add_divInt (p q : Rat) : Rat.divInt (p.num * q.den + q.num * p.den) (p.den * q.den) = p + q := by
  rw [← Rat.divInt_add_divInt _ _ (den_ne p) (den_ne q), Rat.num_divInt_den, Rat.num_divInt_den]
theorem sub_divInt (p q : Rat) : Rat.divInt (p.num * q.den - q.num * p.den) (p.den * q.den) = p - q := by
  rw [← Rat.divInt_sub_divInt _ _ (den_ne p) (den_ne q), Rat.num_divInt_den, Rat.num_divInt_den]
theorem mul_divInt (p q : Rat) : Rat.divInt (p.num * q.num) (p.den * q.den) = p * q := by
  rw [← Rat.divInt_mul_divInt _ _ , Rat.num_divInt_den, Rat.num_divInt_den]
theorem rat_gcd (q : Rat) : Int.gcd q.num q.den = 1 := by
  have h : q.num.natAbs.gcd q.den = 1 := q.reduced
  rw [Int.gcd, Int.natAbs_natCast]; exact h
theorem divInt_sz {n : Nat} {t b : Int} (hb : b ≠ 0) (ht : Sz n t) (hs : Sz n b) : Qz n (Rat.divInt t b) := by
  obtain ⟨g, k, m, hg, hg0, e1, e2, hn, hd⟩ := rat_parts t b hb
  have h1 : k.natAbs ≤ t.natAbs := by
    rw [e1, Int.natAbs_mul]; exact Nat.le_mul_of_pos_left _ (by omega)
  have h2 : m.natAbs ≤ b.natAbs := by
    rw [e2, Int.natAbs_mul]; exact Nat.le_mul_of_pos_left _ (by omega)
  unfold Qz Sz at *
  rw [hn, hd]
  constructor
  · split
    · omega
    · omega
  · split
    · omega
    · omega
theorem Qz_add {m n : Nat} {p q : Rat} (hp : Qz m p) (hq : Qz n q) : Qz (m + n + 1) (p + q) := by
  rw [← add_divInt]
  refine divInt_sz (Int.mul_ne_zero (den_ne p) (den_ne q)) (((hp.1.mul hq.2).add (hq.1.mul hp.2)).mono (by omega)) ((hp.2.mul hq.2).mono (by omega))
theorem Qz_sub {m n : Nat} {p q : Rat} (hp : Qz m p) (hq : Qz n q) : Qz (m + n + 1) (p - q) := by
  rw [← sub_divInt]
  refine divInt_sz (Int.mul_ne_zero (den_ne p) (den_ne q)) (((hp.1.mul hq.2).sub (hq.1.mul hp.2)).mono (by omega)) ((hp.2.mul hq.2).mono (by omega))
theorem Qz_mul {m n : Nat} {p q : Rat} (hp : Qz m p) (hq : Qz n q) : Qz (m + n) (p * q) := by
  rw [← mul_divInt]
  exact divInt_sz (Int.mul_ne_zero (den_ne p) (den_ne q)) (hp.1.mul hq.1) (hp.2.mul hq.2)
theorem num_eq_of {q : Rat} {t b : Int} (hb : b ≠ 0) (h : q = Rat.divInt t b) : q.num * b = t * q.den := by
  have := (Rat.divInt_eq_divInt_iff (den_ne q) hb).mp ((Rat.num_divInt_den q).trans h)
  exact this
theorem atI_three {α : Type} {a b c : α} {i : Int} (h0 : 0 ≤ i) (h3 : i < 3) : atI [a, b, c] i = some (if i = 0 then a else if i = 1 then b else c) := by
  have : i = 0 ∨ i = 1 ∨ i = 2 := by omega
  rcases this with rfl | rfl | rfl <;> simp
theorem atI_two {α : Type} {a b : α} {i : Int} (h0 : 0 ≤ i) (h3 : i < 2) : atI [a, b] i = some (if i = 0 then a else b) := by
  have : i = 0 ∨ i = 1 := by omega
  rcases this with rfl | rfl <;> simp
theorem den_dvd {t b : Int} (hb : 0 < b) : ∃ m, b = (Rat.divInt t b).den * m ∧ (Rat.divInt t b).num.natAbs ≤ t.natAbs := by
  obtain ⟨g, k, m, hg, hg0, e1, e2, hn, hd⟩ := rat_parts t b (by omega)
  rw [if_neg (by omega)] at hn hd
  refine ⟨g, by rw [hd, e2, Int.mul_comm], ?_⟩
  rw [hn, e1, Int.natAbs_mul]; exact Nat.le_mul_of_pos_left _ (by omega)
theorem rat_num (q : Rat) : q * ((q.den : Int) : Rat) = (q.num : Rat) := by
  have h : ((q.den : Int) : Rat) ≠ 0 := by
    intro z
    have : ((q.den : Int) : Rat) = ((0 : Int) : Rat) := z
    exact den_ne q (Rat.intCast_inj.mp this)
  have e := Rat.num_divInt_den q
  rw [Rat.divInt_eq_div] at e
  have : (q.num : Rat) / ((q.den : Int) : Rat) * ((q.den : Int) : Rat) = q.num := by grind
  rw [e] at this
  exact this
/-- what a fraction's making leaves, whatever the sign -/
theorem lowest_parts {t b : Int} (hb : b ≠ 0) (hs : Sz 9000 b) : ∃ g : Int, (Int.gcd t b : Int) = g ∧
    (if b < 0 then fdivD (.int t) (.int (-g)) = some (.int (Rat.divInt t b).num) ∧ fdivD (.int b) (.int (-g)) = some (.int (Rat.divInt t b).den)
      else fdivD (.int t) (.int g) = some (.int (Rat.divInt t b).num) ∧ fdivD (.int b) (.int g) = some (.int (Rat.divInt t b).den)) := by
  obtain ⟨g, k, m, hg, hg0, ht, hbm, hn, hd⟩ := rat_parts t b hb
  have hgs : Sz 9000 g := hg ▸ gcd_sz hb hs
  refine ⟨g, hg, ?_⟩
  by_cases h : b < 0
  · have hng : Sz 9000 (-g) := hgs.neg
    rw [if_pos h] at hn hd ⊢
    rw [fdivD_i (divB_of (by omega) (noPyl hng (by omega))), fdivD_i (divB_of (by omega) (noPyl hng (by omega))), hn, hd, ht, hbm]
    rw [show g * k = (-g) * (-k) by grind, show g * m = (-g) * (-m) by grind, Int.mul_fdiv_cancel_left _ (by omega), Int.mul_fdiv_cancel_left _ (by omega)]
    simp
  · rw [if_neg h] at hn hd ⊢
    rw [fdivD_i (divB_of (by omega) (noPyl hgs (by omega))), fdivD_i (divB_of (by omega) (noPyl hgs (by omega))), hn, hd, ht, hbm]
    rw [Int.mul_fdiv_cancel_left _ (by omega), Int.mul_fdiv_cancel_left _ (by omega)]
    simp
end DL

/-! DL, part 10: sorted(set(pairs)), whatever the sign of the numbers; list(reversed(x)). -/
namespace DL
open PySem PySem.Spec PyProof.Rows L2
abbrev KT := Addr × List Int
def kx (q : KT) : Int := q.2.getD 0 0
def ky (q : KT) : Int := q.2.getD 1 0
def encT (q : KT) : PyData := .tuple [.int (kx q), .int (ky q)]
theorem reads_ints {h : Heap} : ∀ {us : List Value} {ks : List Int}, IntsAre us ks → ReadsAll h us (ks.map PyData.int) []
  | _, _, .nil => .nil
  | _, _, .cons n t r => .cons (bs := []) (.int n t) (reads_ints r)
theorem reads_tup {h : Heap} {b : Addr} {ks : List Int} (x : TS.TupInts h (.ref b) ks) : Reads h (.ref b) (.tuple (ks.map .int)) [] := by
  obtain ⟨c, us, e, ⟨o, g1, g2, n, g3⟩, i⟩ := x
  cases e
  exact .tuple g1 g2 g3 (reads_ints i)
theorem alike_T (q r : KT) : PySem.W.alike (encT q) (encT r) = true := by
  unfold encT
  rw [PySem.W.alike]
  exact PySem.W.alike_ints [kx q, ky q] [kx r, ky r]
theorem depth_T (q : KT) : (encT q).depth = 1 := by
  unfold encT
  rw [PyData.depth, show PyData.depthAll [PyData.int (kx q), .int (ky q)] = 0 from PySem.W.depth_ints [kx q, ky q]]
theorem each_ref : ∀ (M : List KT), PySem.W.EachIs (fun (v : Value) (q : KT) => v = .ref q.1) (M.map fun q => Value.ref q.1) M
  | [] => .nil
  | _ :: M => .cons rfl (each_ref M)
theorem ref_each : ∀ {us : List Value} {M : List KT}, PySem.W.EachIs (fun (v : Value) (q : KT) => v = .ref q.1) us M → us = M.map fun q => Value.ref q.1
  | _, _, .nil => rfl
  | _, _, .cons e t => by rw [e, ref_each t]; rfl
theorem each_of {R : Value → KT → Prop} : ∀ (M : List KT), (∀ q ∈ M, R (.ref q.1) q) → PySem.W.EachIs R (M.map fun q => Value.ref q.1) M
  | [], _ => .nil
  | q :: M, h => .cons (h q List.mem_cons_self) (each_of M fun r hr => h r (List.mem_cons_of_mem _ hr))
section
variable {P : Program} {w : World} {A : Around} {E : Value → Shared → Prop} {s : Shared}
theorem sorted_setZ {a : Addr} {L : List KT} {es : Array (Int × Value)} {ep : Nat} {t : SetTable} {Q : Value → Shared → Prop} (R : SetTR P w s.heap a L es ep t) (hh : A.handled = none) (hu : A.units + 8 < cLine)
    (hB : ∀ q ∈ L, q.2.length = 2)
    (fin : ∀ s' p (out : Array Value) (c : Nat) (M : List KT), (∀ b o, s.heap.get? b = some o → s'.heap.get? b = some o) → s'.gens = s.gens → s'.os = s.os → s.heap.objs.size ≤ p →
      s'.heap.get? p = some (seqObj "list" out c) → out.toList = M.map (fun q => Value.ref q.1) → (∃ L1 : List KT, L1.Perm L ∧ M = L1.mergeSort (PySem.W.dataLe false encT)) → Q (.ref p) s') :
    wpAny (model P w) A (call (.builtin "sorted") [.ref a]) Q E s := by
  obtain ⟨o, og, ox, od⟩ := R.ob
  have n1 := R.size
  have n2 := R.few
  refine Calls.call_function_entry kind_sorted plain_sorted entry_sorted (args_sorted1 _) ?_
  unfold Builtin.«sorted»
  refine wpAny_bind (m := checkCount "sorted" 1 1 _) (wpAny_pure ?_)
  refine wpAny_bind (collect_set (A := A.in1) hh ⟨o, og, ox.1, od⟩ R.fits (by unfold scanBound; omega) R.tab.ris R.led fun s1 us keep1 sz1 gens1 os1 pm => ?_)
  have hes : es.toList.map (·.2) = L.map fun q => Value.ref q.1 := by
    rw [R.rows]; unfold rowsOf; rw [List.map_map]; rfl
  rw [hes] at pm
  obtain ⟨L1, e1, p1⟩ : ∃ L1 : List KT, us = L1.map (fun q => Value.ref q.1) ∧ L1.Perm L := by
    have hL : ∀ (z : List Value) (M : List KT), z.Perm (M.map fun q => Value.ref q.1) → ∃ L1 : List KT, z = L1.map (fun q => Value.ref q.1) ∧ L1.Perm M := fun z M hp => by
      have key : ∀ (z z' : List Value), z.Perm z' → ∀ M : List KT, z' = M.map (fun q => Value.ref q.1) → ∃ L1 : List KT, z = L1.map (fun q => Value.ref q.1) ∧ L1.Perm M := by
        intro z z' hp
        induction hp with
        | nil => intro M e; exact ⟨M, e, .refl _⟩
        | cons x hp ih =>
          intro M e
          cases M with
          | nil => cases e
          | cons q M =>
            rw [List.map_cons] at e
            injection e with ea eb
            obtain ⟨L1, f1, f2⟩ := ih M eb
            exact ⟨q :: L1, by rw [List.map_cons, ← f1, ea], f2.cons q⟩
        | swap x y l =>
          intro M e
          match M, e with
          | q :: r :: M, e =>
            rw [List.map_cons, List.map_cons] at e
            injection e with ea eb
            injection eb with ec ed
            exact ⟨r :: q :: M, by rw [List.map_cons, List.map_cons, ← ed, ea, ec], .swap _ _ _⟩
        | trans _ _ ih1 ih2 =>
          intro M e
          obtain ⟨L2, f1, f2⟩ := ih2 M e
          obtain ⟨L3, f3, f4⟩ := ih1 L2 f1
          exact ⟨L3, f3, f4.trans f2⟩
      exact key z _ hp M rfl
    exact hL us L pm
  subst e1
  have n3 : L1.length < 64 := by rw [p1.length_eq]; exact n2
  refine wpAny_bind (wpAny_newList ?_ (by first | (rw [List.length_map, sizeLine_eq]; omega) | (rw [List.size_toArray, List.length_map, sizeLine_eq]; omega)))
  have oL : (s1.heap.push (seqObj "list" (L1.map fun q => Value.ref q.1).toArray 0)).get? s1.heap.objs.size = some (seqObj "list" (L1.map fun q => Value.ref q.1).toArray 0) := Heap.get?_push_size _ rfl
  have two : ∀ q ∈ L, encT q = .tuple (q.2.map .int) := fun q hq => by
    have := hB q hq
    obtain ⟨a, l⟩ := q
    match l, this with
    | [x, y], _ => rfl
  have rd : ∀ q ∈ L1, Reads (s1.heap.push (seqObj "list" (L1.map fun q => Value.ref q.1).toArray 0)) (.ref q.1) (encT q) [] := fun q hq => by
    rw [two q (p1.mem_iff.mp hq)]
    exact reads_tup (tupInts_of (P := P) (w := w) (isT_keep (R.tup q (p1.mem_iff.mp hq)) fun b u g => Heap.get?_push_of_some _ (keep1 b u g)))
  refine wpAny_bind (wpAny_holding (PySem.W.list_sort_data (s := { s1 with heap := s1.heap.push (seqObj "list" (L1.map fun q => Value.ref q.1).toArray 0) }) (bs := L1) (enc := encT) (R := fun v q => v = .ref q.1) oL (each_ref L1)
    (each_of L1 fun q hq => ⟨[], rd q hq, by simp⟩) (PySem.W.AllAlike.of alike_T) (.inl fun d hd => ?_) (by rw [sizeLine_eq]; omega) (fun q _ => by rw [depth_T]; first | omega | (show A.in1.units + 1 + 1 < cLine; have : A.in1.units = A.units + 1 := rfl; omega)) fun out _ hout => ?_))
  · obtain ⟨q, hq, rfl⟩ := List.mem_map.mp hd
    exact ⟨_, _, rfl⟩
  · obtain ⟨c, hc⟩ := sortedHeap_at (vs := L1.map fun q => Value.ref q.1) (out := out.toArray) oL
    refine wpAny_pure ⟨_, rfl, fin _ s1.heap.objs.size out.toArray c _ (fun b u g => ?_) gens1 os1 sz1 hc (by rw [List.toList_toArray]; exact ref_each hout) ⟨L1, p1, rfl⟩⟩
    have q := keep1 b u g
    have lt := Heap.lt_size q
    show (sortedHeap (s1.heap.push _) s1.heap.objs.size _ out.toArray).get? b = some u
    rw [sortedHeap_old (Nat.ne_of_lt lt) (by rw [size_push']; exact Nat.lt_succ_of_lt lt)]
    exact Heap.get?_push_of_some _ q
end

/-! ### list(reversed(x)) -/
section
variable {P : Program} {w : World} {A : Around} {E : Value → Shared → Prop} {s : Shared}
theorem extend_rev {R : Result → Shared → Prop} {it l : Addr} {us : Array Value} (hh : A.handled = none) (S : Addr) (c0 : Nat) (hit : s.heap.IsRevIter it l ((us.size : Int) - 1)) (hl : s.heap.IsList l us) (n1 : S ≠ it) (n2 : S ≠ l)
    (hS : s.heap.get? S = some { cls := .type "list", data := .seq #[] c0 }) (hn : us.size ≤ sizeLine)
    (fin : ∀ s' acc c', Moved (S :: [it]) (fun g g' => g' = g) s s' → s'.heap.get? S = some { cls := .type "list", dict := none, data := .seq acc c', slots := #[] } → ItemsOf (fun i v => us[us.size - 1 - i]? = some v) acc us.size → R (.ok (.ret .none)) s') :
    wpAny (model P w) A.in1 (Builtin.List.listExtendWith (.ref S) (.ref it) .none)
      (fun fin s' => match fin with | .done f => R (.ok f) s' | .again c' => c'.quiet = true ∧ codeAny (model P w) A c' R s') (fun e s' => R (.error e) s') s := by
  have W := (Walks.listRev (prog := P) (w := w) (A := A.in1) hh it l (fun e => by
    obtain ⟨o, g, c, _⟩ := hit
    obtain ⟨o2, g2, c2, _⟩ := hl
    rw [e] at g2
    rw [g2] at g
    have z := Option.some.inj g
    rw [z, c] at c2
    injection c2 with c2
    exact absurd c2 (by decide)) us).toS
  have nf : S ∉ [it, l] := by simp only [List.mem_cons, List.not_mem_nil, or_false, not_or]; exact ⟨n1, n2⟩
  have hT : s.TypeIs (.ref it) "list_reverseiterator" := Heap.IsRevIter.typeIs hit
  have h1 : Builtin.List.listSameRef (.ref S) (.ref it) = false := by simp [Builtin.List.listSameRef, n1]
  unfold Builtin.List.listExtendWith
  refine wpAny_bind (wpAny_typeOf hT ?_)
  rw [if_neg (by rw [h1]; decide)]
  refine wpAny_bind (wpAny_pyIter_revIter hit ?_)
  refine wpAny_bind (wpAny_holding ?_)
  unfold Builtin.List.listLengthHint
  refine wpAny_bind (wpAny_specialOf hT RT.nolen_lri ?_)
  show wpAny _ A.in1 (specialOf (Value.ref it) (Str.ofString "__length_hint__") >>= _) _ _ _
  refine wpAny_bind (wpAny_specialOf hT RT.hint_lri ?_)
  generalize hid : ("list_reverseiterator.__length_hint__" : String) = id0
  wp_delta
  rw [show splitId id0 = some ("list_reverseiterator", "__length_hint__") from by subst hid; decide +kernel]
  subst hid
  refine wpAny_bind (wpAny_isInstance (b := true) hT (by rw [isSubtype_type]; kernel_rfl) ?_)
  refine wpAny_pure ?_
  rw [if_neg (by decide)]
  have e0 : ((us.size : Nat) : Int) - 1 - ((0 : Nat) : Int) = (us.size : Int) - 1 := by omega
  refine wpAny_pure ⟨plainId_quiet F.plain_extend_loop _, codeAny_extend_loopS W hn _ nf _ us.size 0 _ _ _ rfl (Nat.zero_le _) ⟨Nat.zero_le _, by rw [e0]; exact hit, hl⟩ hS (ItemsOf.nil _) fun s' acc c' hm hS' hacc => ?_⟩
  exact fin s' acc c' hm hS' hacc
theorem init_rev {R : Result → Shared → Prop} {it l : Addr} {us : Array Value} (hh : A.handled = none) (S : Addr) (hit : s.heap.IsRevIter it l ((us.size : Int) - 1)) (hl : s.heap.IsList l us) (n1 : S ≠ it) (n2 : S ≠ l)
    (hS : s.heap.get? S = some { cls := .type "list", data := .seq #[] }) (hn : us.size ≤ sizeLine)
    (fin : ∀ s' acc c', (∀ b o, b ≠ S → b ≠ it → s.heap.get? b = some o → s'.heap.get? b = some o) → s' = { s with heap := s'.heap, toks := s'.toks } → s'.heap.get? S = some { cls := .type "list", dict := none, data := .seq acc c', slots := #[] } → ItemsOf (fun i v => us[us.size - 1 - i]? = some v) acc us.size → R (.ok (.ret .none)) s') :
    wpAny (model P w) A.in1 (Builtin.«list.__init__» ⟨[.ref S, .ref it], []⟩)
      (fun fin s' => match fin with | .done f => R (.ok f) s' | .again c' => c'.quiet = true ∧ codeAny (model P w) A c' R s') (fun e s' => R (.error e) s') s := by
  show wpAny _ A.in1 (do let old ← Builtin.List.listItems (.ref S); Builtin.List.listUpdate (.ref S) (fun _ => #[]); letGo old.toList.reverse; Builtin.List.listExtendWith (.ref S) (.ref it) .none) _ _ s
  refine wpAny_bind ?_
  unfold Builtin.List.listItems
  refine wpAny_bind (wpAny_seqItems hS rfl (wpAny_pure ?_))
  show wpAny _ A.in1 (updateSeq S (fun _ => #[]) >>= fun _ => letGo (#[] : Array Value).toList.reverse >>= fun _ => Builtin.List.listExtendWith (.ref S) (.ref it) .none) _ _ s
  refine wpAny_bind (wpAny_updateSeq hS rfl ?_)
  have g2 := Heap.get?_update_self (Obj.mapSeq (fun _ => (#[] : Array Value))) hS rfl
  have kp : ∀ b o, b ≠ S → s.heap.get? b = some o → (s.heap.update S (Obj.mapSeq (fun _ => (#[] : Array Value)))).get? b = some o := fun b o hb g => (Heap.get?_update_other _ _ (Ne.symm hb)).trans g
  refine wpAny_bind (wpAny_letGo ?_)
  obtain ⟨ol, gl, rl⟩ := hl
  refine extend_rev (us := us) hh S _ (hit.at fun o g => kp it o n1.symm g) ⟨ol, kp l ol n2.symm gl, rl⟩ n1 n2 g2 hn fun s' acc c' hm hS' hacc => ?_
  have e := Moved.eq_with hm
  refine fin s' acc c' (fun b o hb hb2 g => hm.heap b o (fun hmem => ?_) (kp b o hb g)) e hS' hacc
  rcases List.mem_cons.mp hmem with z | z
  · exact hb z
  · exact hb2 (List.mem_singleton.mp z)
theorem call_list_rev {it l : Addr} {us : Array Value} {Q : Value → Shared → Prop} (hh : A.handled = none) (hit : s.heap.IsRevIter it l ((us.size : Int) - 1)) (hl : s.heap.IsList l us) (hn : us.size ≤ sizeLine)
    (fin : ∀ (h' : Heap) (tk : Nat) (acc : Array Value) (c' : Nat), (∀ b o, b ≠ it → s.heap.get? b = some o → h'.get? b = some o) → h'.get? s.heap.objs.size = some { cls := .type "list", dict := none, data := .seq acc c', slots := #[] } →
      ItemsOf (fun i v => us[us.size - 1 - i]? = some v) acc us.size → Q (.ref s.heap.objs.size) { s with heap := h', toks := tk }) :
    wpAny (model P w) A (call (.type "list") [.ref it]) Q E s := by
  obtain ⟨oi, gi, ri⟩ := id hit
  obtain ⟨ol, gl, rl⟩ := id hl
  have n1 : s.heap.objs.size ≠ it := Nat.ne_of_gt (Heap.lt_size gi)
  have n2 : s.heap.objs.size ≠ l := Nat.ne_of_gt (Heap.lt_size gl)
  refine callType_codes (Q₁ := fun obj s1 => obj = .ref s.heap.objs.size ∧ s1 = { s with heap := s.heap.push { cls := .type "list", data := .seq #[] } }) F.called_list (F.typeCall_list_1 _) F.entry_list_init
    (code_list_new _ ⟨rfl, rfl⟩) fun obj s1 h1 => ?_
  obtain ⟨rfl, rfl⟩ := h1
  have gS : (s.heap.push { cls := .type "list", data := .seq #[] }).get? s.heap.objs.size = some { cls := .type "list", data := .seq #[] } := Heap.get?_push_size _ rfl
  refine ⟨⟨_, gS, rfl⟩, F.args_list_init_2 _ _, init_rev (A := A.in1) (us := us) hh _ (hit.at fun o g => Heap.get?_push_of_some _ g) (hl.push _) n1 n2 gS hn fun s' acc c' kp e g hacc => ?_⟩
  refine ⟨rfl, ?_⟩
  rw [e]
  exact fin s'.heap s'.toks acc c' (fun b o hb gb => kp b o (Nat.ne_of_lt (Heap.lt_size gb)) hb (Heap.get?_push_of_some _ gb)) g hacc
end
def tLRev (K : PySem.W.Frag) (te : TE) : TE := fun σ H Q => te σ H fun v H1 => ∃ (a : Addr) (xs : List V), v = .ref a ∧ SqL K H1 a xs ∧ ∀ q, H1 q = none → Q (.ref q) (upd H1 q (.lst xs.reverse))
section
variable {X : Cx}
theorem pe_lRev {e : Expr} {te : TE} {p p2 pos pos2 : Pos} (hc : X.calm = true) (hg : Gl X "list") (hm : X.mg "list" = none) (hg2 : Gl X "reversed") (hm2 : X.mg "reversed" = none) (he : PE X e te)
    (hs : starEach [e] X.env = (false, eval e X.env) :: starEach [] X.env)
    (hs2 : starEach [.Call (.Name "reversed" p2) [e] [] pos2] X.env = (false, eval (.Call (.Name "reversed" p2) [e] [] pos2) X.env) :: starEach [] X.env) :
    PE X (.Call (.Name "list" p) [.Call (.Name "reversed" p2) [e] [] pos2] [] pos) (tLRev X.K te) := by
  refine ⟨fun pins s σ H Q I h => ?_⟩
  refine Call_ (ld_blt I hg hm (show bootBuiltins (Str.ofString "list") = some (.type "list") by decide +kernel) (PyProof.Rows.callWith_type1 (args_cons (Call_ (ld_blt I hg2 hm2 PyProof.Rows.boot_reversed (PyProof.Rows.callWith_type1 (args_cons (thn (he.run pins s σ H _ I h) fun u s1 ⟨v, H1, I1, r1, q1⟩ => args_nil ?_) hs) hs rfl))) hs2) hs2 rfl))
  obtain ⟨a, xs, ev, hq, q⟩ := q1
  subst ev
  obtain rfl : u = Value.ref a := r1
  obtain ⟨its, rv, pl, hz⟩ := I1.list hq
  refine call_reversed_list pl.isList (args_nil ?_)
  have k0 : ∀ b o, s1.heap.get? b = some o → (s1.heap.push (revObj a ((its.toArray.size : Int) - 1))).get? b = some o := fun b o g => Heap.get?_push_of_some _ g
  have I2 : Inv X pins σ H1 { s1 with heap := s1.heap.push (revObj a ((its.toArray.size : Int) - 1)) } := I1.kept (t' := s1.toks) k0
  obtain ⟨f0, f1, f2, f3, f4, f5⟩ := I1.fpOk (H' := H1) (b := s1.heap.objs.size) (Nat.le_refl _) (I1.hok.fresh (Nat.le_refl _))
  have hn : its.toArray.size ≤ sizeLine := by rw [List.size_toArray, ← rv.length]; exact hz
  have hsz : (s1.heap.push (revObj a ((its.toArray.size : Int) - 1))).objs.size = s1.heap.objs.size + 1 := by rw [Heap.size_push]
  refine call_list_rev (us := its.toArray) (s := { s1 with heap := s1.heap.push (revObj a ((its.toArray.size : Int) - 1)) }) (I1.ok.hd hc) ⟨_, Heap.get?_push_size _ rfl, rfl, rfl⟩ (pl.isList.push _) hn fun h' tk acc c' kp gS hacc => ?_
  rw [hsz] at gS ⊢
  have hv : Vals xs.reverse acc.toList := RT.vals_rev rv hacc
  have I3 : Inv X pins σ H1 { s1 with heap := s1.heap, toks := tk } := I1.kept (t' := tk) fun _ _ g => g
  have I4 := I1.laid (t' := tk) (a := s1.heap.objs.size + 1) (o := .lst xs.reverse) (h' := h') (fun b o g => kp b o (Nat.ne_of_lt (Heap.lt_size g)) (k0 b o g)) (Nat.le_succ _)
    (show ObjOk X.prog X.w _ h' _ (.lst xs.reverse) from ⟨by rw [List.length_reverse]; exact hz, acc.toList, c', hv, by rw [Array.toArray_toList]; exact gS⟩)
  exact ⟨.ref (s1.heap.objs.size + 1), upd H1 (s1.heap.objs.size + 1) (.lst xs.reverse), I4, rfl, q _ (I1.hok.fresh (Nat.le_succ _))⟩
end

/-! ### in the D layer -/
def rSortZ (K : PySem.W.Frag) (P : Program) (w : World) : List V → Hp → VK → Prop := fun vs H Q => ∃ (a : Addr) (L : List KT), vs = [V.ref a] ∧ H a = some (SetTO P w a L) ∧ (∀ q ∈ L, SqT K H q.1 (q.2.map V.int)) ∧ (∀ q ∈ L, q.2.length = 2) ∧
  ∀ (M : List KT) (p : Addr), (∃ L1 : List KT, L1.Perm L ∧ M = L1.mergeSort (PySem.W.dataLe false encT)) → (L.map (·.2)).Nodup → H p = none → Q (.ref p) (upd H p (.lst (M.map fun q => V.ref q.1)))
section
variable {X : Cx}
theorem cr_sortZ (hc : X.calm = true) (hu : X.A.units + 8 < cLine) : CallR X (.builtin "sorted") (rSortZ X.K X.prog X.w) := by
  intro pins s σ H vs us Q I r h
  obtain ⟨a, L, rfl, ga, gk, hB, q⟩ := h
  have R0 : SetT0 X.prog X.w s.heap a L := (I.hok a _ ga).1
  obtain ⟨es, ep, t, R⟩ := R0.full fun p hp => I.isT (gk p hp)
  rw [Vals.ref1 r]
  refine sorted_setZ R (I.ok.hd hc) hu hB fun s' p out c M kp g o hp hg hout hM => ?_
  have len : M.length < 64 := by
    obtain ⟨L1, p1, e⟩ := hM
    rw [e, List.length_mergeSort, p1.length_eq]; exact R.few
  have hlen : (M.map fun q => V.ref q.1).length ≤ sizeLine := by rw [List.length_map, sizeLine_eq]; omega
  have hn : H p = none := I.hok.fresh hp
  have hv : Vals (M.map fun q => V.ref q.1) out.toList := by rw [hout]; exact vals_of_refs M
  have J : Inv X pins σ (upd H p (.lst (M.map fun q => V.ref q.1))) { s with heap := s'.heap, gens := s'.gens, drawn := s'.drawn, toks := s'.toks } :=
    I.call (ch := []) (Un.laid kp hp hn) (I.hok.laid kp hp ⟨hlen, out.toList, c, hv, hg⟩) (by rw [g]; exact I.bare) (fun _ z => nomatch z)
  have e : s' = { s with heap := s'.heap, gens := s'.gens, drawn := s'.drawn, toks := s'.toks } := by
    cases s'; cases s; cases o; rfl
  rw [e]
  exact ⟨.ref p, _, J, rfl, q M p hM R.nd hn⟩
end
def pairD : D → Option (Int × Int)
  | .tuple [.int a, .int b] => some (a, b)
  | _ => none
def pairsD : List D → Option (List (Int × Int))
  | [] => some []
  | d :: ds => (pairD d).bind fun p => (pairsD ds).map (p :: ·)
def ptD (p : Int × Int) : D := .tuple [.int p.1, .int p.2]
def lexB (p q : Int × Int) : Bool := decide (p.1 < q.1 ∨ (p.1 = q.1 ∧ p.2 ≤ q.2))
def sset (ps : List (Int × Int)) : List (Int × Int) := ps.eraseDups.mergeSort lexB
def sortsetD : D → Option (List D)
  | .list ds => (pairsD ds).bind fun ps => if ps.length < 64 then some ((sset ps).map ptD) else none
  | _ => none
def revD : D → Option (List D)
  | .list ds => some ds.reverse
  | _ => none
theorem pairD_inv {d : D} {p : Int × Int} (h : pairD d = some p) : d = ptD p := by
  unfold pairD at h
  split at h
  · cases h; rfl
  · cases h
theorem pairsD_inv : ∀ {ds : List D} {ps : List (Int × Int)}, pairsD ds = some ps → ds = ps.map ptD
  | [], ps, h => by cases h; rfl
  | d :: ds, ps, h => by
    unfold pairsD at h
    cases e : pairD d with
    | none => rw [e] at h; cases h
    | some p =>
      cases e2 : pairsD ds with
      | none => rw [e, e2] at h; cases h
      | some qs =>
        rw [e, e2] at h
        cases h
        rw [pairD_inv e, pairsD_inv e2]; rfl
theorem pairsD_pt : ∀ (ps : List (Int × Int)), pairsD (ps.map ptD) = some ps
  | [] => rfl
  | p :: ps => by show (pairD (ptD p)).bind _ = _; rw [show pairD (ptD p) = some p from rfl, pairsD_pt ps]; rfl
theorem lexB_trans (a b c : Int × Int) (h1 : lexB a b = true) (h2 : lexB b c = true) : lexB a c = true := by
  unfold lexB at *; simp only [decide_eq_true_eq] at *; omega
theorem lexB_total (a b : Int × Int) : (lexB a b || lexB b a) = true := by
  unfold lexB; simp only [Bool.or_eq_true, decide_eq_true_eq]; omega
theorem lexB_anti {a b : Int × Int} (h1 : lexB a b = true) (h2 : lexB b a = true) : a = b := by
  unfold lexB at *; simp only [decide_eq_true_eq] at *
  obtain ⟨x, y⟩ := a; obtain ⟨z, w⟩ := b
  simp only [Prod.mk.injEq] at *; omega
theorem sset_sorted (ps : List (Int × Int)) : (sset ps).Pairwise fun a b => lexB a b = true := List.pairwise_mergeSort lexB_trans lexB_total _
theorem mem_sset {ps : List (Int × Int)} {p : Int × Int} : p ∈ sset ps ↔ p ∈ ps := by unfold sset; rw [List.mem_mergeSort, List.mem_eraseDups]
theorem nodup_dups : ∀ (n : Nat) (ps : List (Int × Int)), ps.length ≤ n → ps.eraseDups.Nodup
  | _, [], _ => by simp
  | 0, _ :: _, h => by simp at h
  | n + 1, p :: ps, h => by
    rw [List.eraseDups_cons, List.nodup_cons]
    refine ⟨fun hm => ?_, nodup_dups n _ (Nat.le_trans (List.length_filter_le _ _) (by simpa using h))⟩
    rw [List.mem_eraseDups, List.mem_filter] at hm
    simp at hm
theorem sset_nodup (ps : List (Int × Int)) : (sset ps).Nodup := ((List.mergeSort_perm _ _).nodup_iff).mpr (nodup_dups _ _ (Nat.le_refl _))
theorem sorted_uniq {as bs : List (Int × Int)} (n1 : as.Nodup) (n2 : bs.Nodup) (s1 : as.Pairwise fun a b => lexB a b = true) (s2 : bs.Pairwise fun a b => lexB a b = true) (h : ∀ x, x ∈ as ↔ x ∈ bs) : as = bs :=
  List.Perm.eq_of_pairwise (fun a b _ _ h1 h2 => lexB_anti h1 h2) s1 s2 ((List.perm_ext_iff_of_nodup n1 n2).mpr h)
def kp (q : KT) : Int × Int := (kx q, ky q)
theorem merge_keys {L L1 : List KT} {ps : List (Int × Int)} (p1 : L1.Perm L) (nd : (L.map (·.2)).Nodup) (hB : ∀ q ∈ L, q.2.length = 2) (hm : ∀ x, x ∈ L.map kp ↔ x ∈ ps) :
    (L1.mergeSort (PySem.W.dataLe false encT)).map kp = sset ps := by
  have e : PySem.W.dataLe false encT = fun a b => lexB (kp a) (kp b) := PySem.W.dataLe_ii kx ky
  have s1 : ((L1.mergeSort (PySem.W.dataLe false encT)).map kp).Pairwise fun a b => lexB a b = true := by
    rw [List.pairwise_map, e]
    exact List.pairwise_mergeSort (le := fun a b => lexB (kp a) (kp b)) (fun a b c => lexB_trans (kp a) (kp b) (kp c)) (fun a b => lexB_total (kp a) (kp b)) _
  have pm : ((L1.mergeSort (PySem.W.dataLe false encT)).map kp).Perm (L.map kp) := ((List.mergeSort_perm _ _).trans p1).map kp
  have n1 : (L.map kp).Nodup := by
    have inj : ∀ q ∈ L, ∀ r ∈ L, kp q = kp r → q.2 = r.2 := fun q hq r hr h => by
      have l1 := hB q hq
      have l2 := hB r hr
      obtain ⟨_, q⟩ := q
      obtain ⟨_, r⟩ := r
      match q, r, l1, l2 with
      | [a, b], [c, d], _, _ => unfold kp kx ky at h; simp at h; simp [h]
    refine List.pairwise_map.mpr (List.Pairwise.imp_of_mem (fun {q r} hq hr hne h => hne (inj q hq r hr h)) (List.pairwise_map.mp nd))
  exact sorted_uniq (pm.nodup_iff.mpr n1) (sset_nodup ps) s1 (sset_sorted ps) fun x => by rw [pm.mem_iff, hm, mem_sset]
end DL

/-! DL, part 11: the rules of part 10 for derivations. -/
namespace DL
open PySem PySem.Spec PyProof.Rows L2
section
variable {X : Cx} {O : List Nat} {e : Expr} {f : EF} {pos p p2 pos2 : Pos}
theorem n_listrev (ha : DR X O e f) (hm : X.mg "list" = none) (hm2 : X.mg "reversed" = none) (hc : X.calm = true := by rfl) (hg : Gl X "list" := by rfl) (hg2 : Gl X "reversed" := by rfl)
    (hs : starEach [e] X.env = (false, eval e X.env) :: starEach [] X.env := by rfl)
    (hs2 : starEach [.Call (.Name "reversed" p2) [e] [] pos2] X.env = (false, eval (.Call (.Name "reversed" p2) [e] [] pos2) X.env) :: starEach [] X.env := by rfl) :
    DN X O (.Call (.Name "list" p) [.Call (.Name "reversed" p2) [e] [] pos2] [] pos) (o1L revD f) := by
  obtain ⟨t, pt, rd⟩ := ha
  refine ⟨_, pe_lRev hc hg hm hg2 hm2 pt hs hs2, fun G σ H F ρ ds Q s hf q => ?_⟩
  unfold o1L at hf
  cases e1 : f ρ with
  | none => rw [e1] at hf; cases hf
  | some c =>
    rw [e1] at hf
    simp only [Option.bind_some] at hf
    cases c <;> simp [revD] at hf
    subst hf
    refine rd G σ H F ρ _ _ s e1 fun v H1 F1 g1 r1 => ?_
    obtain ⟨a, vs, rfl, h1, h2⟩ := r1.lst_inv g1.fh
    exact ⟨a, vs, rfl, h1, fun z hz => q z _ _ F1 (g1.trans (Grow.newOwn g1.fh hz)) (free_of g1.hh hz) upd_same (free_of g1.fh hz) (dpA_rev h2)⟩
theorem dp_int {K : PySem.W.Frag} {F : Hp} {v : V} {i : Int} (h : Dp K F v (.int i)) : v = .int i := (Rep.dat h).int_inv
theorem dpA_nil {K : PySem.W.Frag} {F : Hp} {vs : List V} (h : DpAll K F vs []) : vs = [] := List.length_eq_zero_iff.mp (dpA_length h)
theorem dpA_cons {K : PySem.W.Frag} {F : Hp} {vs : List V} {d : D} {ds : List D} (h : DpAll K F vs (d :: ds)) : ∃ v ws, vs = v :: ws ∧ Dp K F v d ∧ DpAll K F ws ds := by
  cases h with | cons a b => exact ⟨_, _, rfl, a, b⟩
theorem dp_pair {K : PySem.W.Frag} {F : Hp} {v : V} {p : Int × Int} (h : Dp K F v (ptD p)) : ∃ a, v = .ref a ∧ SqT K F a [V.int p.1, V.int p.2] := by
  unfold ptD at h
  obtain ⟨a, xs, e, q, r⟩ := (Rep.dat h).tup_inv
  obtain ⟨v1, w1, e1, r1, r⟩ := dpA_cons r
  obtain ⟨v2, w2, e2, r2, r⟩ := dpA_cons r
  have e3 := dpA_nil r
  rw [e1, e2, e3, dp_int r1, dp_int r2] at q
  exact ⟨a, e, q⟩
def mkT (a : Addr) (p : Int × Int) : KT := (a, [p.1, p.2])
theorem kp_mk (a : Addr) (p : Int × Int) : kp (mkT a p) = p := rfl
def TupAt (K : PySem.W.Frag) (F : Hp) (q : KT) : Prop := SqT K F q.1 (q.2.map V.int) ∧ q.2.length = 2
theorem mk_at {K : PySem.W.Frag} {F : Hp} {a : Addr} {p : Int × Int} (h : SqT K F a [V.int p.1, V.int p.2]) : TupAt K F (mkT a p) := ⟨h, rfl⟩
theorem keys_of {K : PySem.W.Frag} {F : Hp} (ps : List (Int × Int)) : ∀ {vs : List V}, DpAll K F vs (ps.map ptD) → ∃ ks : List KT, vs = ks.map (fun q => V.ref q.1) ∧ (∀ q ∈ ks, TupAt K F q) ∧ ks.map kp = ps := by
  induction ps with
  | nil => intro vs h; exact ⟨[], dpA_nil h, fun q hq => absurd hq (by simp), rfl⟩
  | cons p ps ih =>
    intro vs h
    rw [List.map_cons] at h
    obtain ⟨v, ws, e, r1, r2⟩ := dpA_cons h
    obtain ⟨a, ea, q⟩ := dp_pair r1
    obtain ⟨ks, ek, hk, em⟩ := ih r2
    refine ⟨mkT a p :: ks, by rw [e, ea, ek]; rfl, fun z hz => ?_, by rw [List.map_cons, em, kp_mk]⟩
    rcases List.mem_cons.mp hz with hz | hz
    · rw [hz]; exact mk_at q
    · exact hk z hz
theorem at_dp {K : PySem.W.Frag} {F : Hp} {q : KT} (h : TupAt K F q) : Dp K F (.ref q.1) (ptD (kp q)) := by
  obtain ⟨h0, h1⟩ := h
  obtain ⟨a, l⟩ := q
  simp only at h0 h1 ⊢
  obtain ⟨x, l, rfl⟩ : ∃ x m, l = x :: m := by cases l with
    | nil => cases h1
    | cons x m => exact ⟨x, m, rfl⟩
  obtain ⟨y, l, rfl⟩ : ∃ x m, l = x :: m := by cases l with
    | nil => simp at h1
    | cons x m => exact ⟨x, m, rfl⟩
  have : l = [] := by cases l with
    | nil => rfl
    | cons x m => simp at h1
  subst this
  exact .tup h0 (.cons (.int x) (.cons (.int y) .nil))
theorem dp_keys {K : PySem.W.Frag} {F : Hp} (M : List KT) (h : ∀ q ∈ M, TupAt K F q) : DpAll K F (M.map fun q => V.ref q.1) ((M.map kp).map ptD) := by
  induction M with
  | nil => exact .nil
  | cons q M ih => exact .cons (at_dp (h q List.mem_cons_self)) (ih fun q hq => h q (List.mem_cons_of_mem _ hq))
theorem n_sortset {k : Nat} (hr : Room k X.A) (ha : DR X O e f) (hm : X.mg "sorted" = none) (hm2 : X.mg "set" = none) (hc : X.calm = true := by rfl) (hg : Gl X "sorted" := by rfl) (hg2 : Gl X "set" := by rfl)
    (hs : starEach [e] X.env = (false, eval e X.env) :: starEach [] X.env := by rfl)
    (hs2 : starEach [.Call (.Name "set" p2) [e] [] pos2] X.env = (false, eval (.Call (.Name "set" p2) [e] [] pos2) X.env) :: starEach [] X.env := by rfl)
    (hpl : (backTo pos2 (starEach [] X.env)).any (·.1) = false := by rfl) (hpl2 : (backTo pos (starEach [] X.env)).any (·.1) = false := by rfl) :
    DN X O (.Call (.Name "sorted" p) [.Call (.Name "set" p2) [e] [] pos2] [] pos) (o1L sortsetD f) := by
  obtain ⟨t, pt, rd⟩ := ha
  have hu := hr.units
  refine ⟨_, pe_callB (cr_sortZ hc (by omega)) hg hm (by decide +kernel) (pa_one (pe_callTy (cr_setOfT hc (by omega)) hg2 hm2 (by decide +kernel) (pa_one pt hs) (by decide) (by decide) hs hpl) hs2) (by decide) (by decide) hs2 hpl2, fun G σ H F ρ ds Q s hf q => ?_⟩
  unfold o1L at hf
  cases e1 : f ρ with
  | none => rw [e1] at hf; cases hf
  | some c =>
    rw [e1] at hf
    simp only [Option.bind_some] at hf
    cases c with
    | list cs =>
      unfold sortsetD at hf
      dsimp only at hf
      cases e2 : pairsD cs with
      | none => rw [e2] at hf; cases hf
      | some ps =>
        rw [e2] at hf
        simp only [Option.bind_some] at hf
        split at hf
        · rename_i h64
          cases hf
          obtain rfl := pairsD_inv e2
          refine rd G σ H F ρ _ _ s e1 fun v H1 F1 g1 r1 => ?_
          obtain ⟨a, vs, rfl, h1, h2⟩ := r1.lst_inv g1.fh
          obtain ⟨ks, rfl, hk, ek⟩ := keys_of ps h2
          have h3 : ks.length < 64 := by
            have := congrArg List.length ek
            rw [List.length_map] at this
            omega
          refine ⟨a, ks, rfl, h1, fun z hz => same_sqT g1.fh (hk z hz).1, h3, fun b L hb sub all => ?_⟩
          have m2 : ∀ z ∈ L, TupAt X.K F1 z := fun z hz => hk z (sub z hz)
          refine ⟨b, L, rfl, upd_same, fun z hz => same_sqT (same_trans g1.fh (same_upd hb)) (m2 z hz).1, fun z hz => (m2 z hz).2, fun M z hM nd hz => ?_⟩
          obtain ⟨L1, p1, rfl⟩ := hM
          have g2 : Grow F1 H1 F1 (upd H1 b (SetTO X.prog X.w b L)) := Grow.newOwn g1.fh hb
          have g3 := Grow.newOwn (o := .lst ((L1.mergeSort (PySem.W.dataLe false encT)).map fun q => V.ref q.1)) g2.fh hz
          have gg := g1.trans (g2.trans g3)
          refine q z _ _ F1 gg (free_of g1.hh (free_of g2.hh hz)) upd_same (free_of g2.fh hz) ?_
          have mk := merge_keys (ps := ps) p1 nd (fun z hz => (m2 z hz).2) fun x => ⟨fun hx => ?_, fun hx => ?_⟩
          · rw [← mk]
            refine dp_keys _ fun z hz => ?_
            rw [List.mem_mergeSort] at hz
            exact m2 z (p1.mem_iff.mp hz)
          · obtain ⟨z, hz, rfl⟩ := List.mem_map.mp hx
            rw [← ek]; exact List.mem_map.mpr ⟨z, sub z hz, rfl⟩
          · rw [← ek] at hx
            obtain ⟨z, hz, rfl⟩ := List.mem_map.mp hx
            obtain ⟨w, hw, e⟩ := List.mem_map.mp (all z hz)
            exact List.mem_map.mpr ⟨w, hw, by unfold kp kx ky; rw [e]⟩
        · cases hf
    | _ => cases hf
end
@[simp] theorem o1L_e {op : D → Option (List D)} {f : EF} {r : Rho} : o1L op f r = (f r).bind op := rfl
@[simp] theorem revD_l {ds : List D} : revD (.list ds) = some ds.reverse := rfl
theorem sortsetD_pts {ps : List (Int × Int)} (h : ps.length < 64) : sortsetD (.list (ps.map ptD)) = some ((sset ps).map ptD) := by
  show (pairsD _).bind _ = _
  rw [pairsD_pt]; simp [h]
end DL

/-! DL, part 12: points, stacks, the chain. -/
namespace DL
open PySem PySem.Spec PyProof.Rows L2
abbrev Pt := Int × Int
def lenAt (ρ : Rho) (i : Nat) : Nat := match getv ρ i with
  | some (.list ds) => ds.length
  | _ => 0
@[simp] theorem plain_ptD {p : Pt} : plainD (ptD p) = true := rfl
@[simp] theorem ix0_ptD {p : Pt} : ixD (ptD p) (.int 0) = some (.int p.1) := by unfold ptD; simp
@[simp] theorem ix1_ptD {p : Pt} : ixD (ptD p) (.int 1) = some (.int p.2) := by unfold ptD; simp
@[simp] theorem tupG_ptD {p : Pt} {g : TgsF} {r : Rho} : tupG 2 g (ptD p) r = g [.int p.1, .int p.2] r := by unfold ptD; simp
theorem ptD_mk {a b : Int} : PyData.tuple [.int a, .int b] = ptD (a, b) := rfl
theorem atI_neg {α : Type} {xs : List α} {k : Nat} (h0 : 0 < k) (h : k ≤ xs.length) : atI xs (-(k : Int)) = xs[xs.length - k]? := by
  unfold atI ixN
  rw [if_neg (by omega), if_pos (by omega)]
  simp only [Option.bind_some]
  congr 1
  omega
theorem atI_m1 {α : Type} {b : α} {r : List α} : atI (b :: r).reverse (-1) = some b := by
  rw [show (-1 : Int) = -((1 : Nat) : Int) by rfl, atI_neg (by decide) (by simp), List.getElem?_reverse (by simp)]
  simp
theorem atI_m2 {α : Type} {a b : α} {r : List α} : atI (b :: a :: r).reverse (-2) = some a := by
  rw [show (-2 : Int) = -((2 : Nat) : Int) by rfl, atI_neg (by decide) (by simp), List.getElem?_reverse (by simp; omega)]
  simp
theorem cutD_m1 {xs : List D} : cutD xs none (some (-1)) = xs.dropLast := by
  unfold cutD
  rw [List.dropLast_eq_take]
  have : HT.sIx xs.length 0 none = 0 := rfl
  rw [this]
  have h2 : HT.sIx xs.length xs.length (some (-1)) = xs.length - 1 := by
    show (if (-1 : Int) < 0 then ((-1 : Int) + (xs.length : Int)).toNat else min (-1 : Int).toNat xs.length) = _
    rw [if_pos (by decide)]; omega
  rw [h2]; simp
def bendZ (a b c : Pt) : Int := (b.1 - a.1) * (c.2 - a.2) - (b.2 - a.2) * (c.1 - a.1)
/-- the stack, its top first -/
def popS : List Pt → Pt → List Pt
  | b :: a :: r, p => if bendZ a b p ≤ 0 then popS (a :: r) p else b :: a :: r
  | st, _ => st
def stepS (st : List Pt) (p : Pt) : List Pt := p :: popS st p
def chainS (ps : List Pt) : List Pt := ps.foldl stepS []
def chainP (ps : List Pt) : List Pt := (chainS ps).reverse
def ringP (ps : List Pt) : List Pt := (chainP (sset ps)).dropLast ++ (chainP (sset ps).reverse).dropLast
theorem popS_len : ∀ (st : List Pt) (p : Pt), (popS st p).length ≤ st.length
  | [], _ => Nat.le_refl _
  | [_], _ => Nat.le_refl _
  | b :: a :: r, p => by
    unfold popS
    split
    · exact Nat.le_trans (popS_len (a :: r) p) (by simp)
    · exact Nat.le_refl _
theorem popS_mem : ∀ (st : List Pt) (p q : Pt), q ∈ popS st p → q ∈ st
  | [], _, _, h => h
  | [_], _, _, h => h
  | b :: a :: r, p, q, h => by
    unfold popS at h
    split at h
    · exact List.mem_cons_of_mem _ (popS_mem (a :: r) p q h)
    · exact h
def Pz (n : Nat) (p : Pt) : Prop := Sz n p.1 ∧ Sz n p.2
theorem chain_fold (ps : List Pt) (st : List Pt) : (ps.foldl stepS st).length ≤ ps.length + st.length ∧ ∀ q ∈ ps.foldl stepS st, q ∈ ps ∨ q ∈ st := by
  induction ps generalizing st with
  | nil => exact ⟨by simp, fun q hq => .inr hq⟩
  | cons p ps ih =>
    obtain ⟨h1, h2⟩ := ih (stepS st p)
    refine ⟨?_, fun q hq => ?_⟩
    · have := popS_len st p
      simp only [List.foldl_cons, stepS, List.length_cons] at *
      omega
    · rcases h2 q hq with h | h
      · exact .inl (List.mem_cons_of_mem _ h)
      · rcases List.mem_cons.mp h with h | h
        · exact .inl (h ▸ List.mem_cons_self)
        · exact .inr (popS_mem _ _ _ h)
theorem chainP_len (ps : List Pt) : (chainP ps).length ≤ ps.length := by
  have := (chain_fold ps []).1
  unfold chainP chainS; rw [List.length_reverse]; simpa using this
theorem chainP_mem {ps : List Pt} {q : Pt} (h : q ∈ chainP ps) : q ∈ ps := by
  unfold chainP chainS at h
  rw [List.mem_reverse] at h
  rcases (chain_fold ps []).2 q h with h | h
  · exact h
  · cases h
theorem sset_len (ps : List Pt) : (sset ps).length ≤ ps.length := by
  have h : ∀ (n : Nat) (l : List Pt), l.length ≤ n → l.eraseDups.length ≤ l.length := by
    intro n
    induction n with
    | zero => intro l h; have : l = [] := List.length_eq_zero_iff.mp (by omega); subst this; simp
    | succ n ih =>
      intro l h
      cases l with
      | nil => simp
      | cons p l =>
        rw [List.eraseDups_cons]
        have hf := List.length_filter_le (fun b => !b == p) l
        have := ih (l.filter fun b => !b == p) (by simp at h; omega)
        simp only [List.length_cons]; omega
  unfold sset
  rw [List.length_mergeSort]
  exact h _ ps (Nat.le_refl _)
theorem ringP_len (ps : List Pt) : (ringP ps).length ≤ 2 * ps.length := by
  unfold ringP
  have h1 := chainP_len (sset ps)
  have h2 := chainP_len (sset ps).reverse
  have h3 := sset_len ps
  simp only [List.length_append, List.length_dropLast, List.length_reverse] at *
  omega
theorem ringP_mem {ps : List Pt} {q : Pt} (h : q ∈ ringP ps) : q ∈ ps := by
  unfold ringP at h
  rcases List.mem_append.mp h with h | h
  · exact mem_sset.mp (chainP_mem (List.dropLast_subset _ h))
  · exact mem_sset.mp (List.mem_reverse.mp (chainP_mem (List.dropLast_subset _ h)))
end DL
namespace DL
open PySem PySem.Spec PyProof.Rows L2
theorem compL_map {α : Type} {enc out : α → D} {g : TgF} {c : BF} {f : EF} {ρ : Rho} : ∀ (xs : List α), (∀ a ∈ xs, ∃ ρ2, g (enc a) ρ = some ρ2 ∧ c ρ2 = some true ∧ f ρ2 = some (out a) ∧ plainD (out a) = true) → compL g c f ρ (xs.map enc) = some (xs.map out)
  | [], _ => rfl
  | a :: xs, h => by
    obtain ⟨ρ2, h1, h2, h3, h4⟩ := h a List.mem_cons_self
    rw [List.map_cons]
    unfold compL
    rw [h1, Option.bind_some, h2, Option.bind_some, if_pos rfl, h3, Option.bind_some, if_pos h4, compL_map xs fun b hb => h b (List.mem_cons_of_mem _ hb)]
    rfl
abbrev Spot := Rat × Rat
def spD (p : Spot) : D := .tuple [frQ p.1, frQ p.2]
@[simp] theorem plain_spD {p : Spot} : plainD (spD p) = true := rfl
@[simp] theorem ix0_spD {p : Spot} : ixD (spD p) (.int 0) = some (frQ p.1) := by unfold spD; simp
@[simp] theorem ix1_spD {p : Spot} : ixD (spD p) (.int 1) = some (frQ p.2) := by unfold spD; simp
@[simp] theorem tupG_spD {p : Spot} {g : TgsF} {r : Rho} : tupG 2 g (spD p) r = g [frQ p.1, frQ p.2] r := by unfold spD; simp
theorem spD_mk {a b : Rat} : PyData.tuple [frQ a, frQ b] = spD (a, b) := rfl
def Spz (n : Nat) (p : Spot) : Prop := Qz n p.1 ∧ Qz n p.2
theorem shaped_spD {p : Spot} : SeqAt.shaped (spD p) = true := rfl
end DL
namespace DL
open PySem PySem.Spec PyProof.Rows L2
theorem eqv_spD {p q : Spot} : PyData.eqv (spD p) (spD q) = decide (p = q) := by
  unfold spD
  simp only [PyData.eqv, PyData.eqvAll, eqv_frQ, Bool.and_true]
  rw [← Bool.decide_and]
  exact decide_eq_decide.mpr ⟨fun h => Prod.ext h.1 h.2, fun h => by rw [h]; exact ⟨rfl, rfl⟩⟩
theorem eqvAll_spD : ∀ {xs ys : List Spot}, PyData.eqvAll (xs.map spD) (ys.map spD) = decide (xs = ys)
  | [], [] => rfl
  | [], _ :: _ => by simp [PyData.eqvAll]
  | _ :: _, [] => by simp [PyData.eqvAll]
  | x :: xs, y :: ys => by
    rw [List.map_cons, List.map_cons, PyData.eqvAll, eqv_spD, eqvAll_spD, ← Bool.decide_and]
    exact decide_eq_decide.mpr ⟨fun h => by rw [h.1, h.2], fun h => by injection h with a b; exact ⟨a, b⟩⟩
theorem lay_sps : ∀ (xs : List Spot), PyData.canLayAll0 (xs.map spD) = true
  | [] => rfl
  | x :: xs => by rw [List.map_cons, PyData.canLayAll0, lay_sps xs]; rfl
theorem depth_spD {p : Spot} : (spD p).depth = 2 := by simp [spD, frQ, PyData.depth, PyData.depthAll]
theorem depth_sps : ∀ (xs : List Spot), PyData.depthAll (xs.map spD) ≤ 2
  | [] => by simp [PyData.depthAll]
  | x :: xs => by
    have := depth_sps xs
    rw [List.map_cons, PyData.depthAll, depth_spD]; omega
theorem shaped_list {xs : List Spot} : SeqAt.shaped (.list (xs.map spD)) = true := by
  have h := depth_sps xs
  have h2 := lay_sps xs
  unfold SeqAt.shaped
  rw [PyData.canLay0, h2, PyData.depth, Bool.true_and]
  exact decide_eq_true (by omega)
theorem eqD_sps {xs ys : List Spot} : eqD (.list (xs.map spD)) (.list (ys.map spD)) = some (.bool (decide (xs = ys))) := by
  unfold eqD
  rw [if_pos ⟨shaped_list, shaped_list⟩, PyData.eqv, eqvAll_spD]
theorem neD_sps {xs ys : List Spot} : neD (.list (xs.map spD)) (.list (ys.map spD)) = some (.bool (!decide (xs = ys))) := by
  unfold neD
  rw [if_pos ⟨shaped_list, shaped_list⟩, PyData.eqv, eqvAll_spD]
@[simp] theorem eqD_fr {p q : Rat} : eqD (frQ p) (frQ q) = some (.bool (decide (p = q))) := by
  unfold eqD
  rw [if_pos ⟨shaped_frQ, shaped_frQ⟩, eqv_frQ]
@[simp] theorem neD_fr {p q : Rat} : neD (frQ p) (frQ q) = some (.bool (!decide (p = q))) := by
  unfold neD
  rw [if_pos ⟨shaped_frQ, shaped_frQ⟩, eqv_frQ]
@[simp] theorem listD_l {ds : List D} : listD (.list ds) = some ds := rfl
@[simp] theorem isD_nn : isD .none .none = some (.bool true) := rfl
theorem Spz.mono {m n : Nat} {p : Spot} (h : Spz m p) (hmn : m ≤ n) : Spz n p := ⟨h.1.mono hmn, h.2.mono hmn⟩
theorem rat_num_zero_le {q : Rat} (h : ¬ 0 < q.num) : q.num ≤ 0 := Int.not_lt.mp h
end DL

/-! DL, part 13: a list taken apart into names; sums and flat spots. -/
namespace DL
open PySem PySem.Spec PyProof.Rows L2
def lstG (n : Nat) (g : TgsF) : TgF := fun d ρ => match d with
  | .list ds => if ds.length = n then g ds ρ else none
  | _ => none
section
variable {X : Cx} {O O' O2 : List Nat} {es : List Expr} {pos : Pos}
theorem g_lst {n k : Nat} {g : TgsF} (h : DGs X O O2 es g) (hc : X.calm = true := by rfl) (hn : (assignEach es X.env).length = n := by rfl) (hst : (assignEach es X.env).findIdx? (·.1) = none := by rfl) : DG X O O2 (.Tuple es k pos) (lstG n g) := by
  obtain ⟨t, p, r⟩ := h
  refine ⟨_, pg_lst hc p hn hst, fun G v d σ H F ρ ρ' Q s rr hg q => ?_⟩
  cases d with
  | list ds =>
    have hg : (if ds.length = n then g ds ρ else none) = some ρ' := hg
    by_cases hl : ds.length = n
    · rw [if_pos hl] at hg
      obtain ⟨a, vs, rfl, h1, h2⟩ := rr.lst_inv
      exact ⟨a, vs, rfl, s.sub.seq h1, (dpA_length h2).trans hl, r G vs ds σ H F ρ ρ' Q s h2 hg q⟩
    · rw [if_neg hl] at hg; cases hg
  | _ => cases hg
theorem s_asgL {RO : Bool} {LB : List Nat} {e : Expr} {f : EF} {kt : Nat} {pt : Pos} {n : Nat} {g : TgsF} (he : DE X O e f) (hg : DGs X O O2 es g) (hc : X.calm = true := by rfl) (hn : (assignEach es X.env).length = n := by rfl) (hst : (assignEach es X.env).findIdx? (·.1) = none := by rfl)
    (hs : swapsWithSole [.Tuple es kt pt] e pos.line X.env = pure false := by rfl) (hw : swappedStores [.Tuple es kt pt] e X.env = pure none := by rfl) :
    DS X RO O O2 LB (.Assign [.Tuple es kt pt] e pos) (asgF f (lstG n g)) := ds_asg he (g_lst hg hc hn hst) fun t u p q => ps_asg p q hs hw
end
@[simp] theorem lstG_e {n : Nat} {g : TgsF} {ds : List D} {r : Rho} : lstG n g (.list ds) r = if ds.length = n then g ds r else none := rfl
theorem lay_frs : ∀ (xs : List Rat), PyData.canLayAll0 (xs.map frQ) = true
  | [] => rfl
  | x :: xs => by rw [List.map_cons, PyData.canLayAll0, lay_frs xs]; rfl
theorem depth_frQ {q : Rat} : (frQ q).depth = 1 := by simp [frQ, PyData.depth, PyData.depthAll]
theorem depth_frs : ∀ (xs : List Rat), PyData.depthAll (xs.map frQ) ≤ 1
  | [] => by simp [PyData.depthAll]
  | x :: xs => by
    have := depth_frs xs
    rw [List.map_cons, PyData.depthAll, depth_frQ]; omega
theorem shaped_frs {xs : List Rat} : SeqAt.shaped (.list (xs.map frQ)) = true := by
  have h := depth_frs xs
  have h2 := lay_frs xs
  unfold SeqAt.shaped
  rw [PyData.canLay0, h2, PyData.depth, Bool.true_and]
  exact decide_eq_true (by omega)
theorem inD_frs {r : Rat} {hs : List Rat} (h : r ∈ hs) : inD (frQ r) (.list (hs.map frQ)) = some (.bool true) := by
  have e : inD (frQ r) (.list (hs.map frQ)) = if SeqAt.shaped (frQ r) = true ∧ SeqAt.shaped (.list (hs.map frQ)) = true then some (.bool ((hs.map frQ).any fun z => PyData.eqv z (frQ r))) else none := rfl
  rw [e, if_pos ⟨shaped_frQ, shaped_frs⟩]
  have : ((hs.map frQ).any fun z => PyData.eqv z (frQ r)) = true := List.any_eq_true.mpr ⟨frQ r, List.mem_map.mpr ⟨r, h, rfl⟩, by rw [eqv_frQ]; simp⟩
  rw [this]
end DL

/-! DL, part 14: own lists lent to a call; lists given away to a call; three names in a comprehension; reversed(x); x.index(min(x)). -/
namespace DL
open PySem PySem.Spec PyProof.Rows L2
/-! ### lent -/
def scD : D → Option D
  | .int i => some (.int i)
  | .bool b => some (.bool b)
  | .none => some .none
  | _ => none
theorem rep_sc {K : PySem.W.Frag} {F F' : Hp} {v : V} {c d : D} (h : Rep K F v c) (e : scD c = some d) : Rep K F' v d := by
  cases c with
  | int i => cases e; rw [h.int_inv]; exact .dat (.int i)
  | bool b => cases e; rw [h.bl_inv]; exact .dat (.bl b)
  | none => cases e; rw [h.non_inv]; exact .dat .non
  | _ => cases e
theorem de_lend {X : Cx} {O O2 : List Nat} {e : Expr} {f : EF} (he : DE X O2 e f) (h2 : subO O2 O = true := by decide) : DE X O e (o1 scD f) := by
  obtain ⟨t, p, r⟩ := he
  refine ⟨t, p, fun G σ H F ρ d Q s hf q => ?_⟩
  unfold o1 at hf
  cases e1 : f ρ with
  | none => rw [e1] at hf; cases hf
  | some c =>
    rw [e1, Option.bind_some] at hf
    obtain ⟨F', ff, s'⟩ := s.freeze (O2 := O2) (fun i hi => by
      unfold subO at h2
      rw [List.all_eq_true] at h2
      exact List.contains_iff_mem.mp (h2 i hi))
    exact r G σ H F' ρ c _ s' e1 fun v H' F'' g x => q v H' F ⟨Same.refl _, g.hh, same_trans s.sub g.hh, fun _ _ _ n => n⟩ (rep_sc x hf)
/-! ### given away -/
def eraseH (H : Hp) (a : Addr) : Hp := fun b => if b = a then none else H b
theorem erase_sub {H : Hp} {a : Addr} : Same (eraseH H a) H := fun b o e => by
  unfold eraseH at e
  split at e
  · cases e
  · exact e
theorem erase_ne {H : Hp} {a b : Addr} {o : HO} (h : b ≠ a) (e : H b = some o) : eraseH H a b = some o := by unfold eraseH; rw [if_neg h]; exact e
def SpDO (K : PySem.W.Frag) (own : Bool) (n : Nat) (Fn : List D → Option D) : Sp := fun vs H Q _ => ∃ F a us ds0 vr dr d, vs.length = n ∧ vs = .ref a :: vr ∧ Same F H ∧ H a = some (.lst us) ∧ F a = none ∧ DpAll K F us ds0 ∧ RepAll K F vr dr ∧ Fn (.list ds0 :: dr) = some d ∧
  ∀ v H' F', Grow F (eraseH H a) F' H' → RetOk K own F' H' (eraseH H a) v d → Q v H'
theorem stRep_startO {K : PySem.W.Frag} {F H : Hp} {N : List Str} {a : Addr} {us vr : List V} {ds0 dr : List D} (hs : Same F H) (ha : H a = some (.lst us)) (hF : F a = none) (h0 : DpAll K F us ds0) (r : RepAll K F vr dr) :
    StRep K ⟨F, eraseH H a⟩ [0] (L2.start N (.ref a :: vr)) H (startR N.length (.list ds0 :: dr)) F where
  len := by simp [L2.start, startR, r.length]
  g := ⟨Same.refl _, erase_sub, hs, fun _ _ _ n => n⟩
  dat := fun i d hi h => by
    have hi0 : i ≠ 0 := fun z => hi (by rw [z]; exact List.mem_singleton.mpr rfl)
    obtain ⟨j, rfl⟩ : ∃ j, i = j + 1 := ⟨i - 1, by omega⟩
    have h := getv_start h
    rw [List.getElem?_cons_succ] at h
    obtain ⟨v, e1, e2⟩ := repAll_get r h
    refine ⟨v, ?_, e2⟩
    have hi : j < vr.length := (List.getElem?_eq_some_iff.mp e1).1
    unfold L2.start
    rw [List.getElem?_append_left (by simp; omega), List.getElem?_map, List.getElem?_cons_succ, e1]
    rfl
  own := fun i d hi h => by
    have := List.mem_singleton.mp hi
    subst this
    have h := getv_start h
    rw [List.getElem?_cons_zero] at h
    cases h
    exact ⟨.ref a, rfl, a, us, ds0, rfl, rfl, ha, hF, h0⟩
  new := fun i d b hi h hb => by
    have := List.mem_singleton.mp hi
    subst this
    have : some (some (V.ref a)) = some (some (V.ref b)) := hb
    cases this
    show (if a = a then none else H a) = none
    rw [if_pos rfl]
  dis := fun i j d e b hi hj hne => absurd ((List.mem_singleton.mp hi).trans (List.mem_singleton.mp hj).symm) hne
def DefOkO (P : Program) (w : World) (K : PySem.W.Frag) (mg : Str → Option Value) (name : Str) (k : Nat) (ps : List Str) (own : Bool) (Fn : List D → Option D) : Prop :=
  ∃ (fa : Addr) (fd : FuncData), mg name = some (.ref fa) ∧ PySem.W.keepIn K (.ref fa) = true ∧ (∀ (s : Shared) (us : List Value), us.length = ps.length → BindsTo s fd ⟨us, []⟩ (ps.zip us)) ∧
    ∀ base : Heap, FnOk P w K mg base CX0 k fa fd ps (SpDO K own ps.length Fn)
section
variable {P : Program} {w : World} {K : PySem.W.Frag} {mg : Str → Option Value} {base : Heap}
theorem fnO_ok {x qual : Str} {params : Arguments} {body : List Stmt} {scope : Scope} {dvs : List V} {kws : List (Str × V)} {f : Addr} {fd : FuncData} {N ps : List Str} {k : Nat} {own : Bool} {O' : List Nat} {b : SF} (F : FunD K x qual params body scope dvs kws f fd) (S : FnScope N ps scope)
    (hbody : ∀ (cdv : Value) (A : Around) (outer : List Env) (s : Shared) (H : Hp) (E : XK), Room k (A.deeper (envOfC qual scope s.heap.objs.size f cdv)) →
      DSs (cxOf CX0 P w K mg base N qual scope f cdv A outer s H E).nox own [0] O' [] body b) {Fn : List D → Option D} (hFn : Fn = bodyFn own N.length b) : FnOk P w K mg base CX0 (k + 1) f fd ps (SpDO K own ps.length Fn) := by
  subst hFn
  refine F.ok S (fun vs H Q E h => by obtain ⟨_, _, _, _, _, _, _, e, _⟩ := h; exact e) (fun cdv A outer s H vs Q E hr h => ?_)
  obtain ⟨t, p, r⟩ := hbody cdv A outer s H E hr
  refine ⟨t, p.nox, ?_⟩
  obtain ⟨F, a, us, ds0, vr, dr, d, hl, rfl, hs, ha, hF, h0, hr2, hf, q⟩ := h
  unfold bodyFn at hf
  cases e : b (startR N.length (.list ds0 :: dr)) with
  | none => rw [e] at hf; cases hf
  | some o =>
    rw [e] at hf
    refine r ⟨F, eraseH H a⟩ (L2.start N (.ref a :: vr)) H F (startR N.length (.list ds0 :: dr)) o _ (stRep_startO hs ha hF h0 hr2) e ?_
    cases o with
    | nx ρ' =>
      cases own with
      | true => cases hf
      | false =>
        cases hf
        exact fun σ' H' F' s' _ => q .non H' F' s'.g (.dat .non)
    | rt d' => cases hf; exact fun v H' F' g x => q v H' F' g x
    | _ => cases hf
end
section
variable {X : Cx} {O : List Nat} {x : Str} {p pos : Pos} {e : Expr} {es : List Expr} {f0 fa : AF}
theorem e_callO {k : Nat} {ps : List Str} {Fn : List D → Option D} (h : DefOkO X.prog X.w X.K X.mg x k ps false Fn) {j : Nat} (hr : Room j X.A) (hk : Nat.ble k j = true) (h0 : DN X O e f0) (ha : DA X O es fa) (hn : es.length + 1 = ps.length := by rfl)
    (hg : Gl X x := by rfl) (hdb : (x == ("__debug__" : Str)) = false := by decide) (he : starEach (e :: es) X.env = (false, eval e X.env) :: starEach es X.env := by rfl) (hpl : (backTo pos (starEach es X.env)).any (·.1) = false := by rfl) :
    DE X O (.Call (.Name x p) (e :: es) [] pos) (callE Fn (consA (lE f0) fa)) := by
  obtain ⟨fad, fd, hm, hkp, hb, FO⟩ := h
  obtain ⟨t0, p0, r0⟩ := h0
  obtain ⟨⟨t, pt, r⟩, hl⟩ := ha
  have FO := FO X.base
  refine ⟨_, pe_call FO (hr.mono (Nat.le_of_ble_eq_true hk)) hg hm hkp (binds_of hb) .nil pass0 (pa_cons p0 pt he) hdb he hpl, fun G σ H F ρ d Q s hf q => ?_⟩
  unfold callE consA lE at hf
  cases e0 : f0 ρ with
  | none => rw [e0] at hf; cases hf
  | some ds0 =>
    cases e1 : fa ρ with
    | none => rw [e0, e1] at hf; cases hf
    | some dr =>
      rw [e0, e1] at hf
      have hf : Fn (.list ds0 :: dr) = some d := hf
      refine r0 G σ H F ρ ds0 _ s e0 fun a us H1 F1 g1 hn1 ha1 hF1 hd1 => ?_
      refine r G σ H1 F1 ρ dr _ (s.grow g1) e1 fun vr H2 F2 g2 r2 => ?_
      have hF2 := g2.own _ _ ha1 hF1
      refine ⟨F2, a, us, ds0, vr, dr, d, ?_, by rw [List.append_nil], g2.fh, g2.hh _ _ ha1, hF2, dpAll_mono g2.ff hd1, r2, hf, fun v H' F' g x => q v H' F' ?_ x⟩
      · rw [List.append_nil, List.length_cons, r2.length, ← hn, hl ρ dr e1]
      · have g12 := g1.trans g2
        have ne : ∀ b o, H b = some o → b ≠ a := fun b o eb z => by rw [z, hn1] at eb; cases eb
        refine ⟨same_trans g12.ff g.ff, fun b o eb => g.hh _ _ (erase_ne (ne b o eb) (g12.hh _ _ eb)), g.fh, fun b o eb nb => ?_⟩
        exact g.own _ _ (erase_ne (ne b o eb) (g12.hh _ _ eb)) (g12.own _ _ eb nb)
end
/-! ### three names in a comprehension -/
theorem dpA_three {K : PySem.W.Frag} {F : Hp} {us : List V} {ds : List D} (h : DpAll K F us ds) (hl : ds.length = 3) : ∃ u1 u2 u3 c1 c2 c3, us = [u1, u2, u3] ∧ ds = [c1, c2, c3] ∧ Dp K F u1 c1 ∧ Dp K F u2 c2 ∧ Dp K F u3 c3 := by
  match ds, hl with
  | [c1, c2, c3], _ =>
    obtain ⟨u1, w1, e1, r1, h⟩ := dpA_cons h
    obtain ⟨u2, w2, e2, r2, h⟩ := dpA_cons h
    obtain ⟨u3, w3, e3, r3, h⟩ := dpA_cons h
    have e4 := dpA_nil h
    exact ⟨u1, u2, u3, c1, c2, c3, by rw [e1, e2, e3, e4], rfl, r1, r2, r3⟩
theorem wipe_set_three {σ : Sg} {vs : List Nat} {i j k : Nat} {a b c : Option V} (hi : i ∈ vs) (hj : j ∈ vs) (hk : k ∈ vs) : L2.wipe ((((L2.wipe σ vs).set i a).set j b).set k c) vs = L2.wipe σ vs := by
  refine List.ext_getElem? fun n => ?_
  by_cases hn : n ∈ vs
  · rw [wipe_get hn, wipe_get hn, List.length_set, List.length_set, List.length_set, wipe_length]
  · rw [wipe_out hn, List.getElem?_set_ne (show k ≠ n from fun z => hn (z ▸ hk)), List.getElem?_set_ne (show j ≠ n from fun z => hn (z ▸ hj)), List.getElem?_set_ne (show i ≠ n from fun z => hn (z ▸ hi))]
theorem or_three {O : List Nat} {K : PySem.W.Frag} {vs : List Nat} (i j k : Nat) (hi : vs.contains i = true) (hj : vs.contains j = true) (hk : vs.contains k = true) (hO : O.contains i = false) (hO2 : O.contains j = false) (hO3 : O.contains k = false) :
    OwnR K O vs (gTup K 3 (gCons (gName i) (gCons (gName j) (gCons (gName k) gNil)))) (tupG 3 (consG (nameG i) (consG (nameG j) (consG (nameG k) nilG)))) := by
  intro G v d σ H F ρ ρ' Q s r hg q
  cases d with
  | tuple ds =>
    have hg : (if ds.length = 3 then consG (nameG i) (consG (nameG j) (consG (nameG k) nilG)) ds (wipeR ρ vs) else none) = some ρ' := hg
    by_cases hl : ds.length = 3
    · rw [if_pos hl] at hg
      obtain ⟨a, us, rfl, h1, h2⟩ := r.tup_inv
      obtain ⟨u1, u2, u3, c1, c2, c3, rfl, rfl, r1, r2, r3⟩ := dpA_three h2 hl
      have hg : some ((((wipeR ρ vs).set i (some c1)).set j (some c2)).set k (some c3)) = some ρ' := hg
      have hg := Option.some.inj hg
      subst hg
      refine ⟨a, [u1, u2, u3], rfl, same_sqT s.sub h1, rfl, u1, [u2, u3], rfl, ?_⟩
      refine ⟨u2, [u3], rfl, ?_⟩
      refine ⟨u3, [], rfl, rfl, ?_⟩
      have s1 := s.set i (.dat r1)
      rw [noDrop hO] at s1
      have s2 := s1.set j (.dat r2)
      rw [noDrop hO2] at s2
      have s3 := s2.set k (.dat r3)
      rw [noDrop hO3] at s3
      exact q _ s3 (wipe_set_three (List.contains_iff_mem.mp hi) (List.contains_iff_mem.mp hj) (List.contains_iff_mem.mp hk))
    · rw [if_neg hl] at hg; cases hg
  | _ => cases hg
/-! ### reversed(x) gone through -/
def revF (f : EF) : AF := fun ρ => match f ρ with
  | some (.list ds) => some ds.reverse
  | _ => none
section
variable {X : Cx} {O : List Nat} {e tg : Expr} {f : EF} {p pos : Pos}
theorem i_rev (he : DE X O e f) (hm : X.mg "reversed" = none) (hg : Gl X "reversed" := by rfl) (hs : starEach [e] X.env = (false, eval e X.env) :: starEach [] X.env := by rfl) : DI X O tg (.Call (.Name "reversed" p) [e] [] pos) (revF f) := by
  obtain ⟨t, pt, r⟩ := he
  refine ⟨_, RT.pi_revA hg hm pt hs, fun G σ H F ρ ds R s hf q => ?_⟩
  unfold revF at hf
  cases e : f ρ with
  | none => rw [e] at hf; cases hf
  | some d =>
    cases d with
    | list ds' =>
      rw [e] at hf
      have hf : some ds'.reverse = some ds := hf
      cases hf
      refine r G σ H F ρ _ _ s e fun v H' F' g x => ?_
      obtain ⟨a, vs, rfl, h1, h2⟩ := x.lst_inv
      have hl := dpA_length h2
      refine ⟨a, vs, rfl, .inl ⟨g.fh.seq h1, q _ H' F' g fun F1 H1 i e1 e2 => ⟨fun hi => ?_, fun hi => ?_, fun x H2 d y hd => ?_⟩⟩⟩
      · rw [List.length_reverse] at hi
        obtain ⟨v, hv, _⟩ := dpA_get h2 (List.getElem?_eq_getElem (i := ds'.length - 1 - i) (by omega))
        exact ⟨by omega, vs, v, (same_trans e1 e2).seq h1, by rw [← hl] at hv; exact hv⟩
      · rw [List.length_reverse] at hi
        show vs.length ≤ i
        omega
      · obtain ⟨rfl, hy⟩ := y
        have hx := hy vs ((same_trans e1 e2).seq h1)
        obtain ⟨d', hd', rd⟩ := dpA_get2 h2 hx
        have hi : i < ds'.reverse.length := (List.getElem?_eq_some_iff.mp hd).1
        rw [List.length_reverse] at hi
        rw [List.getElem?_reverse hi, ← hl, hd'] at hd
        cases hd
        exact ⟨F1, Grow.refl e2, .dat (dp_mono e1 rd)⟩
    | _ => rw [e] at hf; cases hf
end
/-! ### x.index(min(x)) -/
def alikeB (ds : List D) : Bool := (ds.all fun x => ds.all fun y => PySem.W.alike x y) && ds.all fun x => !isND x
def idxMinD : D → Option D
  | .list (d :: ds) => if alikeB (d :: ds) = true ∧ SeqAt.shaped (.list (d :: ds)) = true ∧ SeqAt.shaped (PySem.W.minD d ds) = true then ((d :: ds).findIdx? fun z => PyData.eqv z (PySem.W.minD d ds)).map fun j => .int (j : Nat) else none
  | _ => none
theorem nd_ne {d : D} (h : (!isND d) = true) : d ≠ .none := by intro e; subst e; cases h
def rMinDat (K : PySem.W.Frag) : List V → Hp → VK → Prop := fun vs H Q => ∃ (a : Addr) (d : D) (ds : List D), vs = [V.ref a] ∧ Dp K H (.ref a) (.list (d :: ds)) ∧ alikeB (d :: ds) = true ∧ SeqAt.shaped (.list (d :: ds)) = true ∧ ∀ v, Dp K H v (PySem.W.minD d ds) → Q v H
section
variable {X : Cx}
theorem cr_minDat (hc : X.calm = true) (hu : X.A.units + 66 < cLine) : CallR X (.builtin "min") (rMinDat X.K) := by
  intro pins s σ H vs us Q I r h
  obtain ⟨a, d, ds, rfl, hd, hal, hsh, q⟩ := h
  rw [Vals.ref1 r]
  cases hd with
  | lst hs hdp =>
    rename_i xs
    obtain ⟨its, rv, hl, hz⟩ := I.list hs
    obtain ⟨as, hr⟩ := Dp.readsAll I (d :: ds) _ its hdp rv
    unfold alikeB at hal
    rw [Bool.and_eq_true] at hal
    have hA : PySem.W.AlikeAll (d :: ds) := ⟨fun x hx y hy => List.all_eq_true.mp (List.all_eq_true.mp hal.1 x hx) y hy, fun x hx => nd_ne (List.all_eq_true.mp hal.2 x hx)⟩
    have hdep := SeqAt.depth_of_shaped hsh
    have hlay := SeqAt.canLay_of_shaped hsh
    rw [PyData.depth] at hdep
    refine PySem.W.min_list_data (I.ok.hd hc) hl.isList (by simpa using hr) hA (by omega) fun i v h' tk bs hi hv hk => ?_
    have hi : its[i]? = some v := by simpa using hi
    have hlt : i < its.length := (List.getElem?_eq_some_iff.mp hi).1
    have hl2 := rv.length
    obtain ⟨x, hx⟩ : ∃ x, xs[i]? = some x := ⟨_, List.getElem?_eq_getElem (by omega)⟩
    obtain ⟨u, hu2, rx⟩ := rv.get hx
    rw [hi] at hu2
    cases hu2
    obtain ⟨d', hd', rd⟩ := dpA_get2 hdp hx
    -- what is read there is the least
    have hls : PyData.canLayAll0 (d :: ds) = true := by rw [PyData.canLay0] at hlay; exact hlay
    have lay_mem : ∀ (zs : List D), PyData.canLayAll0 zs = true → ∀ z ∈ zs, PyData.canLay0 z = true := fun zs => by
      induction zs with
      | nil => intro _ z hz; cases hz
      | cons y ys ih =>
        intro h z hz
        rw [PyData.canLayAll0, Bool.and_eq_true] at h
        rcases List.mem_cons.mp hz with e | hz
        · rw [e]; exact h.1
        · exact ih h.2 z hz
    have min_mem : ∀ (ds : List D) (d : D), PySem.W.minD d ds ∈ d :: ds := fun ds => by
      induction ds with
      | nil => intro d; exact List.mem_cons_self
      | cons y ys ih =>
        intro d
        unfold PySem.W.minD
        rw [List.foldl_cons]
        have := ih (if PySem.W.dataLt y d = true then y else d)
        unfold PySem.W.minD at this
        rcases List.mem_cons.mp this with e | e
        · rw [e]; split <;> simp
        · simp [e]
    have e1 : SeqAt.readOf h' v = PySem.W.minD d ds := SeqAt.readOf_eq (lay_mem _ hls _ (min_mem ds d)) hv
    obtain ⟨as2, r2⟩ := Dp.reads I d' x v rd rx
    have e2 : SeqAt.readOf h' v = d' := SeqAt.readOf_eq (lay_mem _ hls _ (List.mem_of_getElem? hd')) (PySem.W.reads_keeps hk r2)
    have e3 : d' = PySem.W.minD d ds := e2.symm.trans e1
    subst e3
    exact ⟨x, H, I.kept hk, rx, q x rd⟩
end
section
variable {X : Cx} {O : List Nat} {e e2 : Expr} {f : EF} {p pos pos2 apos : Pos}
theorem e_idxmin {k : Nat} (hr : Room k X.A) (he : DE X O e f) (he2 : DE X O e2 f) (hm : X.mg "min" = none) (hc : X.calm = true := by rfl) (hg : Gl X "min" := by rfl)
    (hbase : attributeBase e "index" X.env (eval e X.env) = eval e X.env := by rfl)
    (hfew : ((backTo pos (starEach (.Call (.Name "min" p) [e2] [] pos2 :: []) X.env)).all (fun x => !x.1) && (backToKw pos (keywordEach [] X.env)).all (fun x => x.1.isSome)
      && decide ((Expr.Call (.Name "min" p) [e2] [] pos2 :: []).length + ([] : List Keyword).length + (if ([] : List Keyword).isEmpty then 0 else 1) < 30)) = true := by rfl)
    (hline : (apos.endLine == pos.line) = true := by rfl)
    (hs : starEach [e2] X.env = (false, eval e2 X.env) :: starEach [] X.env := by rfl) (hpl2 : (backTo pos2 (starEach [] X.env)).any (·.1) = false := by rfl)
    (hs2 : starEach [.Call (.Name "min" p) [e2] [] pos2] X.env = (false, eval (.Call (.Name "min" p) [e2] [] pos2) X.env) :: starEach [] X.env := by rfl) (hpl : (backTo pos (starEach [] X.env)).any (·.1) = false := by rfl) :
    DE X O (.Call (.Attribute e "index" apos) [.Call (.Name "min" p) [e2] [] pos2] [] pos) (o1 idxMinD f) := by
  obtain ⟨t, pt, r⟩ := he
  obtain ⟨t2, pt2, r2'⟩ := he2
  have hu := hr.un
  refine ⟨_, pe_bm (id := "list.index") (T := "list") PySem.F.plainAttrs_list PySem.F.slot_list_index (by kernel_rfl) (mt_indexD (by omega)) pt (pa_one (pe_callB (cr_minDat hc (by omega)) hg hm (by decide +kernel) (pa_one pt2 hs) (by decide) (by decide) hs hpl2) hs2) hbase hfew hline hs2 hpl, fun G σ H F ρ d Q s hf q => ?_⟩
  unfold o1 at hf
  cases e1 : f ρ with
  | none => rw [e1] at hf; cases hf
  | some c =>
    rw [e1, Option.bind_some] at hf
    unfold idxMinD at hf
    split at hf
    · rename_i z zs
      split at hf
      · rename_i hcnd
        obtain ⟨h1, h2, h3⟩ := hcnd
        cases e2 : (z :: zs).findIdx? fun y => PyData.eqv y (PySem.W.minD z zs) with
        | none => rw [e2] at hf; cases hf
        | some j =>
          rw [e2] at hf
          have hf : some (PyData.int (j : Nat)) = some d := hf
          cases hf
          refine r G σ H F ρ _ _ s e1 fun v H1 F1 g1 r1 => ?_
          obtain ⟨a, vs, rfl, k1, k2⟩ := r1.lst_inv
          have hy1 := g1.fh.seq k1
          refine ⟨.inl ⟨rfl, vs, hy1⟩, ?_⟩
          refine r2' G σ H1 F1 ρ _ _ (s.grow g1) e1 fun v2 H2 F2 g2 r2 => ?_
          obtain ⟨a2, vs2, rfl, l1, l2⟩ := r2.lst_inv
          refine ⟨a2, z, zs, rfl, .lst (g2.fh.seq l1) (dpAll_mono g2.fh l2), h1, h2, fun y hy => ?_⟩
          obtain ⟨hj, j1, j2⟩ := List.findIdx?_eq_some_iff_getElem.mp e2
          exact ⟨a, y, PySem.W.minD z zs, z :: zs, j, (z :: zs)[j], rfl, rfl, .lst ((same_trans g1.fh g2.hh).seq k1) (dpAll_mono (same_trans g1.fh g2.hh) k2), hy, h2, h3, List.getElem?_eq_getElem hj, j1, fun m z' hm hz' => by
            have hml : m < (z :: zs).length := by omega
            rw [List.getElem?_eq_getElem hml] at hz'
            cases hz'
            simpa using j2 m hm, q _ H2 F2 (g1.trans g2) (.dat (.int _))⟩
      · cases hf
    · cases hf
end
end DL

/-! TL: the typed layer: partial programs over plain Lean data; sizes; fractions as Rat. -/
namespace TL
structure P3 (α β γ : Type) where
  a : α
  b : β
  c : γ
deriving DecidableEq
structure P4 (α β γ δ : Type) where
  a : α
  b : β
  c : γ
  d : δ
deriving DecidableEq
inductive TO (σ τ : Type) where
  | nx (s : σ) | rt (r : τ)
theorem bindS {α β : Type} {x : Option α} {f : α → Option β} {v : β} (h : x.bind f = some v) : ∃ a, x = some a ∧ f a = some v := by
  cases x with
  | none => cases h
  | some a => exact ⟨a, rfl, h⟩
theorem ifS {α : Type} {p : Prop} [Decidable p] {x : Option α} {v : α} (h : (if p then x else none) = some v) : p ∧ x = some v := by
  by_cases hp : p
  · rw [if_pos hp] at h; exact ⟨hp, h⟩
  · rw [if_neg hp] at h; cases h
/-! ### partial operations -/
def mulOK (a b : Int) : Prop := a.natAbs < 18446744073709551616 ∨ b.natAbs < 18446744073709551616 ∨ ∃ m n : Nat, a.natAbs < 2 ^ m ∧ b.natAbs < 2 ^ n ∧ m + n ≤ 100000000
open Classical in
noncomputable def mulT (a b : Int) : Option Int := if mulOK a b then some (a * b) else none
def divT (a b : Int) : Option Int := if b ≠ 0 ∧ b.natAbs.log2 < 9000 then some (a.fdiv b) else none
def modT (a b : Int) : Option Int := if 0 < b then some (a % b) else none
def lim : Nat := 100000
def getT {α : Type} (xs : List α) (i : Int) : Option α := if 0 ≤ i then xs[i.toNat]? else if -i ≤ (xs.length : Int) then xs[xs.length - (-i).toNat]? else none
def ixT (n : Nat) (i : Int) : Option Nat := if 0 ≤ i then if i < n then some i.toNat else none else if -i ≤ (n : Int) then some (n - (-i).toNat) else none
def getP {α : Type} (p : α × α) (i : Int) : Option α := getT [p.1, p.2] i
def getP3 {α : Type} (p : P3 α α α) (i : Int) : Option α := getT [p.a, p.b, p.c] i
def appT {α : Type} (xs : List α) (a : α) : Option (List α) := if xs.length < lim then some (xs ++ [a]) else none
def catT {α : Type} (xs ys : List α) : Option (List α) := if xs.length + ys.length ≤ lim then some (xs ++ ys) else none
def popT {α : Type} (xs : List α) : Option (List α) := if 0 < xs.length then some xs.dropLast else none
def putT {α : Type} (xs : List α) (i : Int) (a : α) : Option (List α) := (ixT xs.length i).bind fun j => some (xs.set j a)
def rngI (m : Nat) : List Int := (List.range m).map fun (i : Nat) => (i : Int)
def rng1T (n : Int) : Option (List Int) := if -4611686018427387904 ≤ n ∧ n < 4611686018427387904 then some (rngI n.toNat) else none
def rng2T (a n : Int) : Option (List Int) := if (-4611686018427387904 ≤ a ∧ a < 4611686018427387904) ∧ -4611686018427387904 ≤ n ∧ n < 4611686018427387904 then some ((List.range (n - a).toNat).map fun (i : Nat) => a + (i : Int)) else none
def takeT {α : Type} (xs : List α) (i : Int) : Option (List α) := if 0 ≤ i then some (xs.take i.toNat) else none
def dropT {α : Type} (xs : List α) (i : Int) : Option (List α) := if 0 ≤ i then some (xs.drop i.toNat) else none
def leastI : List Int → Option Int
  | [] => none
  | a :: r => some (r.foldl (fun m x => if x < m then x else m) a)
def mostI : List Int → Option Int
  | [] => none
  | a :: r => some (r.foldl (fun m x => if m < x then x else m) a)
def min2 (i j : Int) : Int := if j < i then j else i
def max2 (i j : Int) : Int := if i < j then j else i
def bintT (b : Bool) : Int := if b then 1 else 0
def lexB (p q : Int × Int) : Bool := decide (p.1 < q.1 ∨ (p.1 = q.1 ∧ p.2 ≤ q.2))
def sset (ps : List (Int × Int)) : List (Int × Int) := ps.eraseDups.mergeSort lexB
def ssetT (xs : List (Int × Int)) : Option (List (Int × Int)) := if xs.length < 64 then some (sset xs) else none
def un2 {α : Type} : List α → Option (α × α)
  | [a, b] => some (a, b)
  | _ => none
class LexO (α : Type) where
  lt : α → α → Bool
instance lexInt : LexO Int := ⟨fun a b => decide (a < b)⟩
instance lexPair {α β : Type} [DecidableEq α] [LexO α] [LexO β] : LexO (α × β) := ⟨fun p q => if p.1 = q.1 then LexO.lt p.2 q.2 else LexO.lt p.1 q.1⟩
def minL {α : Type} [LexO α] (x : α) (xs : List α) : α := xs.foldl (fun a y => if LexO.lt y a = true then y else a) x
def idxMinT {α : Type} [DecidableEq α] [LexO α] : List α → Option Int
  | [] => none
  | x :: xs => ((x :: xs).findIdx? fun z => decide (z = minL x xs)).map fun (j : Nat) => (j : Int)
/-! ### control -/
def foldT {α σ : Type} (f : α → σ → Option σ) : List α → σ → Option σ
  | [], s => some s
  | a :: as, s => (f a s).bind fun s' => foldT f as s'
def forT {α σ τ : Type} (f : α → σ → Option (TO σ τ)) : List α → σ → Option (TO σ τ)
  | [], s => some (.nx s)
  | a :: as, s => (f a s).bind fun o => match o with
    | .nx s' => forT f as s'
    | .rt r => some (.rt r)
def whileT {σ : Type} (c : σ → Option Bool) (b : σ → Option σ) : Nat → σ → Option σ
  | 0, _ => none
  | n + 1, s => (c s).bind fun k => if k = true then (b s).bind fun s' => whileT c b n s' else some s
def mapL {α β : Type} (f : α → Option β) : List α → Option (List β)
  | [] => some []
  | a :: as => (f a).bind fun b => (mapL f as).bind fun bs => some (b :: bs)
def compT {α β : Type} (f : α → Option β) (xs : List α) : Option (List β) := if xs.length < lim then mapL f xs else none
def fmapL {α β : Type} (c : α → Option Bool) (f : α → Option β) : List α → Option (List β)
  | [] => some []
  | a :: as => (c a).bind fun k => if k = true then (f a).bind fun b => (fmapL c f as).bind fun bs => some (b :: bs) else fmapL c f as
def compFT {α β : Type} (c : α → Option Bool) (f : α → Option β) (xs : List α) : Option (List β) := if xs.length < lim then fmapL c f xs else none
/-! ### evaluation -/
theorem mapL_some {α β : Type} {f : α → Option β} {g : α → β} : ∀ {xs : List α}, (∀ a ∈ xs, f a = some (g a)) → mapL f xs = some (xs.map g)
  | [], _ => rfl
  | a :: as, h => by
    unfold mapL
    rw [h a List.mem_cons_self, Option.bind_some, mapL_some fun b hb => h b (List.mem_cons_of_mem _ hb)]; rfl
theorem compT_some {α β : Type} {f : α → Option β} {g : α → β} {xs : List α} (hl : xs.length < lim) (h : ∀ a ∈ xs, f a = some (g a)) : compT f xs = some (xs.map g) := by
  unfold compT; rw [if_pos hl, mapL_some h]
theorem fmapL_some {α β : Type} {c : α → Option Bool} {k : α → Bool} {f : α → Option β} {g : α → β} : ∀ {xs : List α}, (∀ a ∈ xs, c a = some (k a) ∧ (k a = true → f a = some (g a))) → fmapL c f xs = some ((xs.filter k).map g)
  | [], _ => rfl
  | a :: as, h => by
    unfold fmapL
    have ⟨h1, h2⟩ := h a List.mem_cons_self
    have ih := fmapL_some fun b hb => h b (List.mem_cons_of_mem _ hb)
    rw [h1, Option.bind_some]
    by_cases hk : k a = true
    · rw [if_pos hk, h2 hk, Option.bind_some, ih, List.filter_cons_of_pos hk]; rfl
    · rw [if_neg hk, ih, List.filter_cons_of_neg hk]
theorem compFT_some {α β : Type} {c : α → Option Bool} {k : α → Bool} {f : α → Option β} {g : α → β} {xs : List α} (hl : xs.length < lim) (h : ∀ a ∈ xs, c a = some (k a) ∧ (k a = true → f a = some (g a))) : compFT c f xs = some ((xs.filter k).map g) := by
  unfold compFT; rw [if_pos hl, fmapL_some h]
theorem foldT_inv {α σ : Type} {f : α → σ → Option σ} (I : List α → σ → Prop) : ∀ (xs done : List α) (s : σ), I done s → (∀ d a s, a ∈ xs → I d s → ∃ s', f a s = some s' ∧ I (d ++ [a]) s') → ∃ s', foldT f xs s = some s' ∧ I (done ++ xs) s'
  | [], done, s, h, _ => ⟨s, rfl, by rw [List.append_nil]; exact h⟩
  | a :: as, done, s, h, hs => by
    obtain ⟨s1, e1, h1⟩ := hs done a s List.mem_cons_self h
    obtain ⟨s2, e2, h2⟩ := foldT_inv I as (done ++ [a]) s1 h1 fun d b t hb => hs d b t (List.mem_cons_of_mem _ hb)
    refine ⟨s2, by unfold foldT; rw [e1, Option.bind_some]; exact e2, ?_⟩
    rw [List.append_assoc] at h2; exact h2
theorem foldT_some {α σ : Type} {f : α → σ → Option σ} {g : σ → α → σ} (P : σ → Prop) : ∀ {xs : List α} {s : σ}, P s → (∀ a s, a ∈ xs → P s → f a s = some (g s a) ∧ P (g s a)) → foldT f xs s = some (xs.foldl g s) ∧ P (xs.foldl g s)
  | [], s, h, _ => ⟨rfl, h⟩
  | a :: as, s, h, hs => by
    have ⟨e1, h1⟩ := hs a s List.mem_cons_self h
    have ⟨e2, h2⟩ := foldT_some (g := g) P (xs := as) h1 fun b t hb => hs b t (List.mem_cons_of_mem _ hb)
    exact ⟨by unfold foldT; rw [e1, Option.bind_some]; exact e2, h2⟩
theorem foldT_append {α σ : Type} {f : α → σ → Option σ} : ∀ (xs ys : List α) (s : σ), foldT f (xs ++ ys) s = (foldT f xs s).bind fun t => foldT f ys t
  | [], ys, s => rfl
  | a :: as, ys, s => by
    show (f a s).bind (fun s' => foldT f (as ++ ys) s') = ((f a s).bind fun s' => foldT f as s').bind _
    rw [Option.bind_assoc]
    congr 1
    funext t
    exact foldT_append as ys t
theorem rngI_succ (m : Nat) : rngI (m + 1) = rngI m ++ [(m : Int)] := by unfold rngI; rw [List.range_succ, List.map_append]; rfl
theorem mem_rngI {m : Nat} {a : Int} : a ∈ rngI m ↔ ∃ i : Nat, i < m ∧ a = (i : Int) := by
  unfold rngI
  rw [List.mem_map]
  constructor
  · rintro ⟨i, h, rfl⟩; exact ⟨i, List.mem_range.mp h, rfl⟩
  · rintro ⟨i, h, rfl⟩; exact ⟨i, List.mem_range.mpr h, rfl⟩
theorem foldT_rng {σ : Type} {f : Int → σ → Option σ} (I : Nat → σ → Prop) {s : σ} (h0 : I 0 s) : ∀ (m : Nat), (∀ (i : Nat) s, i < m → I i s → ∃ s', f (i : Int) s = some s' ∧ I (i + 1) s') → ∃ s', foldT f (rngI m) s = some s' ∧ I m s'
  | 0, _ => ⟨s, rfl, h0⟩
  | m + 1, hs => by
    obtain ⟨s1, e1, h1⟩ := foldT_rng I h0 m fun i t hi => hs i t (by omega)
    obtain ⟨s2, e2, h2⟩ := hs m s1 (by omega) h1
    refine ⟨s2, ?_, h2⟩
    rw [rngI_succ, foldT_append, e1, Option.bind_some]
    unfold foldT
    rw [e2]; rfl
theorem foldT_rng2 {σ : Type} {f : Int → σ → Option σ} (I : Nat → σ → Prop) {s : σ} (a : Nat) (h0 : I 0 s) : ∀ (m : Nat), (∀ (i : Nat) s, i < m → I i s → ∃ s', f ((a + i : Nat) : Int) s = some s' ∧ I (i + 1) s') → ∃ s', foldT f ((List.range m).map fun (i : Nat) => ((a + i : Nat) : Int)) s = some s' ∧ I m s'
  | 0, _ => ⟨s, rfl, h0⟩
  | m + 1, hs => by
    obtain ⟨s1, e1, h1⟩ := foldT_rng2 I a h0 m fun i t hi => hs i t (by omega)
    obtain ⟨s2, e2, h2⟩ := hs m s1 (by omega) h1
    refine ⟨s2, ?_, h2⟩
    rw [List.range_succ, List.map_append, foldT_append, e1, Option.bind_some]
    show (f ((a + m : Nat) : Int) s1).bind _ = _
    rw [e2]; rfl
/-- no turn of the loop ends it -/
theorem forT_all {α σ τ : Type} {f : α → σ → Option (TO σ τ)} (P : σ → Prop) : ∀ {xs : List α} {s : σ}, P s → (∀ a s, a ∈ xs → P s → ∃ s', f a s = some (.nx s') ∧ P s') → ∃ s', forT f xs s = some (.nx s') ∧ P s'
  | [], s, h, _ => ⟨s, rfl, h⟩
  | a :: as, s, h, hs => by
    obtain ⟨s1, e1, h1⟩ := hs a s List.mem_cons_self h
    obtain ⟨s2, e2, h2⟩ := forT_all P (xs := as) h1 fun b t hb => hs b t (List.mem_cons_of_mem _ hb)
    exact ⟨s2, by unfold forT; rw [e1, Option.bind_some]; exact e2, h2⟩
theorem forT_unit {α τ : Type} {f : α → Unit → Option (TO Unit τ)} {xs : List α} (hs : ∀ a, a ∈ xs → f a () = some (.nx ())) : forT f xs () = some (.nx ()) := by
  obtain ⟨s', e, _⟩ := forT_all (f := f) (fun _ => True) (xs := xs) (s := ()) trivial fun a s ha _ => ⟨(), hs a ha, trivial⟩
  exact e
theorem forT_rng {τ : Type} {f : Int → Unit → Option (TO Unit τ)} {m : Nat} (hs : ∀ i : Nat, i < m → f (i : Int) () = some (.nx ())) : forT f (rngI m) () = some (.nx ()) :=
  forT_unit fun a ha => by obtain ⟨i, hi, rfl⟩ := mem_rngI.mp ha; exact hs i hi
/-- a loop that only looks: the first that fails ends it -/
theorem forT_look {α τ : Type} {f : α → Unit → Option (TO Unit τ)} {p : α → Bool} {r : τ} : ∀ {xs : List α}, (∀ a, a ∈ xs → f a () = some (if p a then .nx () else .rt r)) → forT f xs () = some (if xs.all p then .nx () else .rt r)
  | [], _ => rfl
  | a :: as, h => by
    unfold forT
    rw [h a List.mem_cons_self, Option.bind_some]
    by_cases hp : p a = true
    · rw [if_pos hp]
      have := forT_look (p := p) (r := r) fun b hb => h b (List.mem_cons_of_mem _ hb)
      simp only [this, List.all_cons, hp, Bool.true_and]
    · simp [hp]
@[simp] theorem getT_0 {α : Type} {a : α} {r : List α} : getT (a :: r) 0 = some a := rfl
@[simp] theorem getT_1 {α : Type} {a b : α} {r : List α} : getT (a :: b :: r) 1 = some b := rfl
@[simp] theorem getT_2 {α : Type} {a b c : α} {r : List α} : getT (a :: b :: c :: r) 2 = some c := rfl
theorem getT_nat {α : Type} {xs : List α} {i : Nat} : getT xs (i : Int) = xs[i]? := by
  unfold getT; rw [if_pos (by omega)]; rfl
theorem getT_nonneg {α : Type} {xs : List α} {i : Int} (h : 0 ≤ i) : getT xs i = xs[i.toNat]? := by
  unfold getT; rw [if_pos h]
theorem getT_neg {α : Type} {xs : List α} {k : Nat} (h0 : 0 < k) (h : k ≤ xs.length) : getT xs (-(k : Int)) = xs[xs.length - k]? := by
  unfold getT
  rw [if_neg (by omega), if_pos (by omega)]
  congr 1; omega
theorem getT_m1 {α : Type} {xs : List α} (h : 0 < xs.length) : getT xs (-1) = xs[xs.length - 1]? := getT_neg (k := 1) (by decide) h
@[simp] theorem getP_0 {α : Type} {p : α × α} : getP p 0 = some p.1 := rfl
@[simp] theorem getP_1 {α : Type} {p : α × α} : getP p 1 = some p.2 := rfl
@[simp] theorem getP3_0 {α : Type} {p : P3 α α α} : getP3 p 0 = some p.a := rfl
@[simp] theorem getP3_1 {α : Type} {p : P3 α α α} : getP3 p 1 = some p.b := rfl
@[simp] theorem getP3_2 {α : Type} {p : P3 α α α} : getP3 p 2 = some p.c := rfl
theorem appT_lt {α : Type} {xs : List α} {a : α} (h : xs.length < lim) : appT xs a = some (xs ++ [a]) := by unfold appT; rw [if_pos h]
theorem catT_le {α : Type} {xs ys : List α} (h : xs.length + ys.length ≤ lim) : catT xs ys = some (xs ++ ys) := by unfold catT; rw [if_pos h]
theorem popT_pos {α : Type} {xs : List α} (h : 0 < xs.length) : popT xs = some xs.dropLast := by unfold popT; rw [if_pos h]
theorem modT_pos {a b : Int} (h : 0 < b) : modT a b = some (a % b) := by unfold modT; rw [if_pos h]
theorem divT_pos {a b : Int} (h : 0 < b) (h2 : b.natAbs < 2 ^ 9000) : divT a b = some (a / b) := by
  unfold divT; rw [if_pos ⟨by omega, (Nat.log2_lt (by omega)).mpr h2⟩, Int.fdiv_eq_ediv_of_nonneg a (by omega)]
theorem divT_mul {a b : Int} (h : b ≠ 0) (h2 : b.natAbs < 2 ^ 9000) : divT (b * a) b = some a := by
  unfold divT; rw [if_pos ⟨h, (Nat.log2_lt (by omega)).mpr h2⟩, Int.mul_fdiv_cancel_left _ h]
theorem divT_small {a b : Int} (h : 0 < b) (h2 : b < 1809251394333065553493296640760748560207343510400633813116524750123642650624) : divT a b = some (a / b) := by
  refine divT_pos h (Nat.lt_of_lt_of_le (m := 2 ^ 250) ?_ (Nat.pow_le_pow_right (by decide) (by decide)))
  have : b < 2 ^ 250 := by simpa using h2
  omega
theorem rng1T_le {n : Nat} (h : n ≤ 1000000000) : rng1T (n : Int) = some (rngI n) := by
  unfold rng1T; rw [if_pos ⟨by omega, by omega⟩, Int.toNat_natCast]
theorem rng2T_le {a n : Nat} (h : n ≤ 1000000000) (h2 : a ≤ 1000000000) : rng2T (a : Int) (n : Int) = some ((List.range (n - a)).map fun (i : Nat) => ((a + i : Nat) : Int)) := by
  unfold rng2T; rw [if_pos ⟨⟨by omega, by omega⟩, by omega, by omega⟩]
  congr 1
  rw [show ((n : Int) - (a : Int)).toNat = n - a by omega]
  exact List.map_congr_left fun i _ => by omega
/-! ### sizes -/
def Sz (n : Nat) (x : Int) : Prop := x.natAbs < 2 ^ n
theorem Sz.mono {m n : Nat} {x : Int} (h : Sz m x) (hmn : m ≤ n) : Sz n x := Nat.lt_of_lt_of_le h (Nat.pow_le_pow_right (by decide) hmn)
theorem Sz.mul {m n : Nat} {x y : Int} (hx : Sz m x) (hy : Sz n y) : Sz (m + n) (x * y) := by
  unfold Sz at *
  rw [Int.natAbs_mul, Nat.pow_add]
  exact Nat.mul_lt_mul'' hx hy
theorem Sz.add' {m n : Nat} {x y : Int} (hx : Sz m x) (hy : Sz n y) : Sz (max m n + 1) (x + y) := by
  have h1 := hx.mono (Nat.le_max_left m n)
  have h2 := hy.mono (Nat.le_max_right m n)
  unfold Sz at *
  rw [Nat.pow_succ]
  omega
theorem Sz.sub' {m n : Nat} {x y : Int} (hx : Sz m x) (hy : Sz n y) : Sz (max m n + 1) (x - y) := by
  have h1 := hx.mono (Nat.le_max_left m n)
  have h2 := hy.mono (Nat.le_max_right m n)
  unfold Sz at *
  rw [Nat.pow_succ]
  omega
theorem Sz.neg {n : Nat} {x : Int} (hx : Sz n x) : Sz n (-x) := by
  unfold Sz at *; rw [Int.natAbs_neg]; exact hx
theorem mulT_inv {a b c : Int} (h : mulT a b = some c) : mulOK a b ∧ a * b = c := by
  unfold mulT at h
  by_cases hp : mulOK a b
  · rw [if_pos hp] at h; cases h; exact ⟨hp, rfl⟩
  · rw [if_neg hp] at h; cases h
theorem mulT_sz {m n : Nat} {a b : Int} (ha : Sz m a) (hb : Sz n b) (h : m + n ≤ 100000000) : mulT a b = some (a * b) := by
  unfold mulT; rw [if_pos (.inr (.inr ⟨m, n, ha, hb, h⟩))]
theorem mulT_l {a b : Int} (h : a.natAbs < 18446744073709551616) : mulT a b = some (a * b) := by
  unfold mulT; rw [if_pos (.inl h)]
theorem mulT_r {a b : Int} (h : b.natAbs < 18446744073709551616) : mulT a b = some (a * b) := by
  unfold mulT; rw [if_pos (.inr (.inl h))]
/-- sizes by instances -/
class Bd (x : Int) (n : outParam Nat) : Prop where
  h : Sz n x
instance Bd.mul {x y : Int} {m n : Nat} [a : Bd x m] [b : Bd y n] : Bd (x * y) (m + n) := ⟨a.h.mul b.h⟩
instance Bd.add {x y : Int} {m n : Nat} [a : Bd x m] [b : Bd y n] : Bd (x + y) (m + n + 1) := ⟨(a.h.add' b.h).mono (by omega)⟩
instance Bd.sub {x y : Int} {m n : Nat} [a : Bd x m] [b : Bd y n] : Bd (x - y) (m + n + 1) := ⟨(a.h.sub' b.h).mono (by omega)⟩
instance Bd.neg {x : Int} {m : Nat} [a : Bd x m] : Bd (-x) m := ⟨a.h.neg⟩
instance Bd.zero : Bd 0 1 := ⟨by unfold Sz; decide⟩
instance Bd.one : Bd 1 1 := ⟨by unfold Sz; decide⟩
instance Bd.two : Bd 2 2 := ⟨by unfold Sz; decide⟩
theorem mulT_bd {x y : Int} {m n : Nat} [a : Bd x m] [b : Bd y n] (h : m + n ≤ 100000000) : mulT x y = some (x * y) := mulT_sz a.h b.h h
theorem divT_bd {x y : Int} {n : Nat} [b : Bd y n] (h0 : 0 < y) (h : n ≤ 9000) : divT x y = some (x / y) := divT_pos h0 (b.h.mono h)
/-! ### fractions -/
theorem den_ne (q : Rat) : (q.den : Int) ≠ 0 := by have := q.den_pos; omega
theorem rat_parts (t b : Int) (hb : b ≠ 0) : ∃ g k m : Int, (Int.gcd t b : Int) = g ∧ 0 < g ∧ t = g * k ∧ b = g * m ∧ (Rat.divInt t b).num = (if b < 0 then -k else k) ∧ ((Rat.divInt t b).den : Int) = (if b < 0 then -m else m) := by
  have hg : 0 < Int.gcd t b := Int.gcd_pos_of_ne_zero_right t hb
  obtain ⟨k, hk⟩ := Int.gcd_dvd_left (a := t) (b := b)
  obtain ⟨m, hm⟩ := Int.gcd_dvd_right (a := t) (b := b)
  have hg' : (0 : Int) < (Int.gcd t b : Int) := by omega
  have hn : (Rat.divInt t b).num = b.sign * t / (Int.gcd t b : Int) := by rw [Rat.num_divInt, Int.gcd_comm b t]
  have hd : ((Rat.divInt t b).den : Int) = (b.natAbs : Int) / (Int.gcd t b : Int) := by rw [Rat.den_divInt, if_neg hb, Int.gcd_comm b t, Int.natCast_ediv]
  generalize (Int.gcd t b : Int) = g at *
  refine ⟨g, k, m, rfl, hg', hk, hm, ?_, ?_⟩
  · rw [hn]
    by_cases h : b < 0
    · rw [if_pos h, Int.sign_eq_neg_one_of_neg h, hk, show (-1 : Int) * (g * k) = g * (-k) by grind]
      exact Int.mul_ediv_cancel_left _ (by omega)
    · rw [if_neg h, Int.sign_eq_one_of_pos (by omega), Int.one_mul, hk]
      exact Int.mul_ediv_cancel_left _ (by omega)
  · rw [hd]
    by_cases h : b < 0
    · rw [if_pos h, show ((b.natAbs : Nat) : Int) = -b by omega, hm, show -(g * m) = g * (-m) by grind]
      exact Int.mul_ediv_cancel_left _ (by omega)
    · rw [if_neg h, show ((b.natAbs : Nat) : Int) = b by omega, hm]
      exact Int.mul_ediv_cancel_left _ (by omega)
def Qz (n : Nat) (q : Rat) : Prop := Sz n q.num ∧ Sz n (q.den : Int)
theorem Qz.mono {m n : Nat} {q : Rat} (h : Qz m q) (hmn : m ≤ n) : Qz n q := ⟨h.1.mono hmn, h.2.mono hmn⟩
theorem add_divInt (p q : Rat) : Rat.divInt (p.num * q.den + q.num * p.den) (p.den * q.den) = p + q := by
  rw [← Rat.divInt_add_divInt _ _ (den_ne p) (den_ne q), Rat.num_divInt_den, Rat.num_divInt_den]
theorem sub_divInt (p q : Rat) : Rat.divInt (p.num * q.den - q.num * p.den) (p.den * q.den) = p - q := by
  rw [← Rat.divInt_sub_divInt _ _ (den_ne p) (den_ne q), Rat.num_divInt_den, Rat.num_divInt_den]
theorem mul_divInt (p q : Rat) : Rat.divInt (p.num * q.num) (p.den * q.den) = p * q := by
  rw [← Rat.divInt_mul_divInt _ _ , Rat.num_divInt_den, Rat.num_divInt_den]
theorem rat_gcd (q : Rat) : Int.gcd q.num q.den = 1 := by
  have h : q.num.natAbs.gcd q.den = 1 := q.reduced
  rw [Int.gcd, Int.natAbs_natCast]; exact h
theorem divInt_sz {n : Nat} {t b : Int} (hb : b ≠ 0) (ht : Sz n t) (hs : Sz n b) : Qz n (Rat.divInt t b) := by
  obtain ⟨g, k, m, hg, hg0, e1, e2, hn, hd⟩ := rat_parts t b hb
  have h1 : k.natAbs ≤ t.natAbs := by
    rw [e1, Int.natAbs_mul]; exact Nat.le_mul_of_pos_left _ (by omega)
  have h2 : m.natAbs ≤ b.natAbs := by
    rw [e2, Int.natAbs_mul]; exact Nat.le_mul_of_pos_left _ (by omega)
  unfold Qz Sz at *
  rw [hn, hd]
  constructor
  · split <;> omega
  · split <;> omega
theorem Qz_add {m n : Nat} {p q : Rat} (hp : Qz m p) (hq : Qz n q) : Qz (m + n + 1) (p + q) := by
  rw [← add_divInt]
  refine divInt_sz (Int.mul_ne_zero (den_ne p) (den_ne q)) (((hp.1.mul hq.2).add' (hq.1.mul hp.2)).mono (by omega)) ((hp.2.mul hq.2).mono (by omega))
theorem Qz_sub {m n : Nat} {p q : Rat} (hp : Qz m p) (hq : Qz n q) : Qz (m + n + 1) (p - q) := by
  rw [← sub_divInt]
  refine divInt_sz (Int.mul_ne_zero (den_ne p) (den_ne q)) (((hp.1.mul hq.2).sub' (hq.1.mul hp.2)).mono (by omega)) ((hp.2.mul hq.2).mono (by omega))
theorem Qz_mul {m n : Nat} {p q : Rat} (hp : Qz m p) (hq : Qz n q) : Qz (m + n) (p * q) := by
  rw [← mul_divInt]
  exact divInt_sz (Int.mul_ne_zero (den_ne p) (den_ne q)) (hp.1.mul hq.1) (hp.2.mul hq.2)
class Bq (q : Rat) (n : outParam Nat) : Prop where
  h : Qz n q
instance Bq.num {q : Rat} {n : Nat} [a : Bq q n] : Bd q.num n := ⟨a.h.1⟩
instance Bq.den {q : Rat} {n : Nat} [a : Bq q n] : Bd (q.den : Int) n := ⟨a.h.2⟩
instance Bq.mul {p q : Rat} {m n : Nat} [a : Bq p m] [b : Bq q n] : Bq (p * q) (m + n) := ⟨Qz_mul a.h b.h⟩
instance Bq.add {p q : Rat} {m n : Nat} [a : Bq p m] [b : Bq q n] : Bq (p + q) (m + n + 1) := ⟨Qz_add a.h b.h⟩
instance Bq.sub {p q : Rat} {m n : Nat} [a : Bq p m] [b : Bq q n] : Bq (p - q) (m + n + 1) := ⟨Qz_sub a.h b.h⟩
instance Bq.neg {q : Rat} {n : Nat} [a : Bq q n] : Bq (-q) n := ⟨by rw [Qz, Rat.neg_num, Rat.neg_den]; exact ⟨a.h.1.neg, a.h.2⟩⟩
instance Bq.zero : Bq 0 1 := ⟨by unfold Qz Sz; decide⟩
instance Bq.one : Bq 1 1 := ⟨by unfold Qz Sz; decide⟩
instance Bq.int {i : Int} {n : Nat} [a : Bd i n] : Bq (i : Rat) (n + 1) := ⟨⟨a.h.mono (by omega), by unfold Sz; exact Nat.lt_of_lt_of_le (by decide : 1 < 2 ^ 1) (Nat.pow_le_pow_right (by decide) (by omega))⟩⟩
def fr (q : Rat) : Int × Int := (q.num, (q.den : Int))
@[simp] theorem fr_1 {q : Rat} : (fr q).1 = q.num := rfl
@[simp] theorem fr_2 {q : Rat} : (fr q).2 = (q.den : Int) := rfl
theorem fr_inj {p q : Rat} : fr p = fr q ↔ p = q := by
  unfold fr
  constructor
  · intro h
    injection h with h1 h2
    exact Rat.ext h1 (by omega)
  · intro h; rw [h]
theorem fr_zero : ((0 : Int), (1 : Int)) = fr 0 := rfl
theorem fr_one : ((1 : Int), (1 : Int)) = fr 1 := rfl
theorem fr_int (i : Int) : (i, (1 : Int)) = fr (i : Rat) := rfl
theorem fr_neg (q : Rat) : (0 - q.num, (q.den : Int)) = fr (-q) := by unfold fr; rw [Rat.neg_num, Rat.neg_den, Int.zero_sub]
abbrev Spot := Rat × Rat
def sp (p : Spot) : (Int × Int) × (Int × Int) := (fr p.1, fr p.2)
@[simp] theorem sp_1 {p : Spot} : (sp p).1 = fr p.1 := rfl
@[simp] theorem sp_2 {p : Spot} : (sp p).2 = fr p.2 := rfl
theorem sp_inj {p q : Spot} : sp p = sp q ↔ p = q := by
  unfold sp
  constructor
  · intro h
    injection h with h1 h2
    exact Prod.ext (fr_inj.mp h1) (fr_inj.mp h2)
  · intro h; rw [h]
theorem sps_inj {xs ys : List Spot} : xs.map sp = ys.map sp ↔ xs = ys := by
  constructor
  · intro h; exact (List.map_inj_right fun p q e => sp_inj.mp e).mp h
  · intro h; rw [h]
def Spz (n : Nat) (p : Spot) : Prop := Qz n p.1 ∧ Qz n p.2
theorem Spz.mono {m n : Nat} {p : Spot} (h : Spz m p) (hmn : m ≤ n) : Spz n p := ⟨h.1.mono hmn, h.2.mono hmn⟩
theorem rat_num (q : Rat) : q * ((q.den : Int) : Rat) = (q.num : Rat) := by
  have h : ((q.den : Int) : Rat) ≠ 0 := by
    intro z
    have : ((q.den : Int) : Rat) = ((0 : Int) : Rat) := z
    exact den_ne q (Rat.intCast_inj.mp this)
  have e := Rat.num_divInt_den q
  rw [Rat.divInt_eq_div] at e
  have : (q.num : Rat) / ((q.den : Int) : Rat) * ((q.den : Int) : Rat) = q.num := by grind
  rw [e] at this
  exact this
theorem den_rat (q : Rat) : ((q.den : Int) : Rat) ≠ 0 := fun z => den_ne q (Rat.intCast_inj.mp (z : ((q.den : Int) : Rat) = ((0 : Int) : Rat)))
theorem den_rat_pos (q : Rat) : (0 : Rat) < ((q.den : Int) : Rat) := by
  have := Rat.intCast_lt_intCast (a := 0) (b := (q.den : Int)) |>.mpr (by have := q.den_pos; omega)
  simpa using this
/-! ### numbers that are given -/
def divisorT (a b : Int) : Option Int := some (Int.gcd a b : Int)
def ratioT (t b : Int) : Option (Int × Int) := if b ≠ 0 ∧ b.natAbs.log2 < 9000 then some (fr (Rat.divInt t b)) else none
def fractionT (t b : Int) : Option (Int × Int) := if 0 < b ∧ b.natAbs.log2 < 9000 then some (fr (Rat.divInt t b)) else none
theorem ratioT_sz {t b : Int} (hb : b ≠ 0) (h : Sz 9000 b) : ratioT t b = some (fr (Rat.divInt t b)) := by
  unfold ratioT; rw [if_pos ⟨hb, (Nat.log2_lt (by omega)).mpr h⟩]
theorem ratioT_bd {t b : Int} {n : Nat} [z : Bd b n] (hb : b ≠ 0) (h : n ≤ 9000) : ratioT t b = some (fr (Rat.divInt t b)) := ratioT_sz hb (z.h.mono h)
theorem fractionT_sz {t b : Int} (hb : 0 < b) (h : Sz 9000 b) : fractionT t b = some (fr (Rat.divInt t b)) := by
  unfold fractionT; rw [if_pos ⟨hb, (Nat.log2_lt (by omega)).mpr h⟩]
theorem fractionT_bd {t b : Int} {n : Nat} [z : Bd b n] (hb : 0 < b) (h : n ≤ 9000) : fractionT t b = some (fr (Rat.divInt t b)) := fractionT_sz hb (z.h.mono h)
end TL

/-! TS: what the typed layer finds, the D layer finds. -/
namespace TS
open PySem PySem.Spec PyProof.Rows L2 DL
open TL (P3 P4 TO mulT divT modT getT ixT getP appT catT popT putT rng1T rng2T takeT dropT foldT forT whileT mapL compT fmapL compFT lim bindS ifS divisorT ratioT fractionT fr bintT)
class Enc (α : Type) where
  enc : α → D
  plain : ∀ a, plainD (enc a) = true
  lay : ∀ a, PyData.canLay0 (enc a) = true
  dep : Nat
  depth : ∀ a, (enc a).depth ≤ dep
  eqv : ∀ a b, PyData.eqv (enc a) (enc b) = true ↔ a = b
class Enc1 (α : Type) [Enc α] : Prop where
  nn : ∀ a : α, isND (Enc.enc a) = false
open Enc (enc)
instance encInt : Enc Int where
  enc := .int
  plain := fun _ => rfl
  lay := fun _ => rfl
  dep := 0
  depth := fun _ => Nat.le_refl _
  eqv := fun a b => by simp [PyData.eqv]
instance : Enc1 Int := ⟨fun _ => rfl⟩
instance encBool : Enc Bool where
  enc := .bool
  plain := fun _ => rfl
  lay := fun _ => rfl
  dep := 0
  depth := fun _ => Nat.le_refl _
  eqv := fun a b => by simp [PyData.eqv]
instance : Enc1 Bool := ⟨fun _ => rfl⟩
instance encPair {α β : Type} [Enc α] [Enc β] : Enc (α × β) where
  enc := fun p => .tuple [enc p.1, enc p.2]
  plain := fun _ => rfl
  lay := fun p => by simp only [PyData.canLay0, PyData.canLayAll0, Enc.lay, Bool.and_true]
  dep := max (Enc.dep α) (Enc.dep β) + 1
  depth := fun p => by
    have h1 := Enc.depth p.1
    have h2 := Enc.depth p.2
    simp only [PyData.depth, PyData.depthAll]; omega
  eqv := fun p q => by
    simp only [PyData.eqv, PyData.eqvAll, Bool.and_true, Bool.and_eq_true, Enc.eqv]
    exact ⟨fun h => Prod.ext h.1 h.2, fun h => by rw [h]; exact ⟨rfl, rfl⟩⟩
instance {α β : Type} [Enc α] [Enc β] : Enc1 (α × β) := ⟨fun _ => rfl⟩
instance encP3 {α β γ : Type} [Enc α] [Enc β] [Enc γ] : Enc (P3 α β γ) where
  enc := fun p => .tuple [enc p.a, enc p.b, enc p.c]
  plain := fun _ => rfl
  lay := fun p => by simp only [PyData.canLay0, PyData.canLayAll0, Enc.lay, Bool.and_true]
  dep := max (max (Enc.dep α) (Enc.dep β)) (Enc.dep γ) + 1
  depth := fun p => by
    have h1 := Enc.depth p.a
    have h2 := Enc.depth p.b
    have h3 := Enc.depth p.c
    simp only [PyData.depth, PyData.depthAll]; omega
  eqv := fun p q => by
    simp only [PyData.eqv, PyData.eqvAll, Bool.and_true, Bool.and_eq_true, Enc.eqv]
    constructor
    · intro h; cases p; cases q; simp only [TL.P3.mk.injEq] at *; exact h
    · intro h; rw [h]; exact ⟨rfl, rfl, rfl⟩
instance {α β γ : Type} [Enc α] [Enc β] [Enc γ] : Enc1 (P3 α β γ) := ⟨fun _ => rfl⟩
instance encP4 {α β γ δ : Type} [Enc α] [Enc β] [Enc γ] [Enc δ] : Enc (P4 α β γ δ) where
  enc := fun p => .tuple [enc p.a, enc p.b, enc p.c, enc p.d]
  plain := fun _ => rfl
  lay := fun p => by simp only [PyData.canLay0, PyData.canLayAll0, Enc.lay, Bool.and_true]
  dep := max (max (Enc.dep α) (Enc.dep β)) (max (Enc.dep γ) (Enc.dep δ)) + 1
  depth := fun p => by
    have h1 := Enc.depth p.a
    have h2 := Enc.depth p.b
    have h3 := Enc.depth p.c
    have h4 := Enc.depth p.d
    simp only [PyData.depth, PyData.depthAll]; omega
  eqv := fun p q => by
    simp only [PyData.eqv, PyData.eqvAll, Bool.and_true, Bool.and_eq_true, Enc.eqv]
    constructor
    · intro h; cases p; cases q; simp only [TL.P4.mk.injEq] at *; exact h
    · intro h; rw [h]; exact ⟨rfl, rfl, rfl, rfl⟩
instance {α β γ δ : Type} [Enc α] [Enc β] [Enc γ] [Enc δ] : Enc1 (P4 α β γ δ) := ⟨fun _ => rfl⟩
theorem lay_all {α : Type} [Enc α] : ∀ xs : List α, PyData.canLayAll0 (xs.map enc) = true
  | [] => rfl
  | x :: xs => by rw [List.map_cons, PyData.canLayAll0, Enc.lay, lay_all xs]; rfl
theorem depth_all {α : Type} [Enc α] : ∀ xs : List α, PyData.depthAll (xs.map enc) ≤ Enc.dep α
  | [] => by simp [PyData.depthAll]
  | x :: xs => by
    have := depth_all xs
    have := Enc.depth x
    rw [List.map_cons, PyData.depthAll]; omega
theorem eqv_all {α : Type} [Enc α] : ∀ xs ys : List α, PyData.eqvAll (xs.map enc) (ys.map enc) = true ↔ xs = ys
  | [], [] => by simp [PyData.eqvAll]
  | [], _ :: _ => by simp [PyData.eqvAll]
  | _ :: _, [] => by simp [PyData.eqvAll]
  | x :: xs, y :: ys => by
    rw [List.map_cons, List.map_cons, PyData.eqvAll, Bool.and_eq_true, Enc.eqv, eqv_all xs ys, List.cons.injEq]
instance encList {α : Type} [Enc α] : Enc (List α) where
  enc := fun xs => .list (xs.map enc)
  plain := fun _ => rfl
  lay := fun xs => by rw [PyData.canLay0]; exact lay_all xs
  dep := Enc.dep α + 1
  depth := fun xs => by
    have := depth_all xs
    simp only [PyData.depth]; omega
  eqv := fun xs ys => by rw [PyData.eqv]; exact eqv_all xs ys
instance {α : Type} [Enc α] : Enc1 (List α) := ⟨fun _ => rfl⟩
def encO {α : Type} [Enc α] : Option α → D
  | none => .none
  | some a => enc a
theorem eqv_none {d : D} (h : isND d = false) : PyData.eqv .none d = false := by cases d <;> first | rfl | cases h
theorem eqv_none' {d : D} (h : isND d = false) : PyData.eqv d .none = false := by cases d <;> first | rfl | cases h
instance encOpt {α : Type} [Enc α] [Enc1 α] : Enc (Option α) where
  enc := encO
  plain := fun o => by cases o with
    | none => rfl
    | some a => exact Enc.plain a
  lay := fun o => by cases o with
    | none => rfl
    | some a => exact Enc.lay a
  dep := Enc.dep α
  depth := fun o => by cases o with
    | none => exact Nat.zero_le _
    | some a => exact Enc.depth a
  eqv := fun o p => by
    cases o with
    | none => cases p with
      | none => simp [encO, PyData.eqv]
      | some b => simp [encO, eqv_none (Enc1.nn b)]
    | some a => cases p with
      | none => simp [encO, eqv_none' (Enc1.nn a)]
      | some b => simp [encO, Enc.eqv]
theorem shaped_enc {α : Type} [Enc α] (a : α) (h : Enc.dep α ≤ 64 := by decide) : SeqAt.shaped (enc a) = true := by
  have := Enc.depth a
  unfold SeqAt.shaped
  rw [Enc.lay, Bool.true_and]
  exact decide_eq_true (by omega)
theorem eqv_dec {α : Type} [Enc α] (a b : α) [Decidable (a = b)] : PyData.eqv (enc a) (enc b) = decide (a = b) := by
  rw [Bool.eq_iff_iff, Enc.eqv, decide_eq_true_iff]
/-! ### expressions -/
section
variable {ρ : Rho} {f g k l : EF} {fa fb : AF} {α β γ δ : Type} [Enc α] [Enc β] [Enc γ] [Enc δ]
theorem x_v {i : Nat} {d : D} (h : getv ρ i = some d) : vE i ρ = some d := h
theorem x_int (i : Int) : cE (.int i) ρ = some (enc i) := rfl
theorem x_bool (b : Bool) : cE (.bool b) ρ = some (enc b) := rfl
theorem x_none [Enc1 α] : cE .none ρ = some (enc (none : Option α)) := rfl
theorem x_some [Enc1 α] {a : α} (h : f ρ = some (enc a)) : f ρ = some (enc (some a)) := h
theorem x_unwrap [Enc1 α] {o : Option α} {a : α} (h : f ρ = some (enc o)) (e : o = some a) : f ρ = some (enc a) := by rw [e] at h; exact h
variable {a b c : Int}
theorem x_add (hf : f ρ = some (enc a)) (hg : g ρ = some (enc b)) : o2 addD f g ρ = some (enc (a + b)) := by unfold o2; rw [hf, hg]; rfl
theorem x_sub (hf : f ρ = some (enc a)) (hg : g ρ = some (enc b)) : o2 subD f g ρ = some (enc (a - b)) := by unfold o2; rw [hf, hg]; rfl
theorem mulB_mulT (h : TL.mulOK a b) : mulB a b = true := by
  rcases h with h | h | ⟨m, n, h1, h2, h3⟩
  · exact mulB_l h
  · exact mulB_r h
  · exact mulB_sz h1 h2 h3
theorem x_mul (hf : f ρ = some (enc a)) (hg : g ρ = some (enc b)) (h : mulT a b = some c) : o2 mulD f g ρ = some (enc c) := by
  obtain ⟨h1, h2⟩ := TL.mulT_inv h
  cases h2
  unfold o2; rw [hf, hg]
  exact mulD_i (mulB_mulT h1)
theorem x_mulL (hf : f ρ = some (enc a)) (hg : g ρ = some (enc b)) (h : a.natAbs < 18446744073709551616) : o2 mulD f g ρ = some (enc (a * b)) := by
  unfold o2; rw [hf, hg]; exact mulD_i (mulB_l h)
theorem x_mulR (hf : f ρ = some (enc a)) (hg : g ρ = some (enc b)) (h : b.natAbs < 18446744073709551616) : o2 mulD f g ρ = some (enc (a * b)) := by
  unfold o2; rw [hf, hg]; exact mulD_i (mulB_r h)
theorem x_div (hf : f ρ = some (enc a)) (hg : g ρ = some (enc b)) (h : divT a b = some c) : o2 fdivD f g ρ = some (enc c) := by
  unfold divT at h
  obtain ⟨⟨h1, h3⟩, h2⟩ := ifS h
  cases h2
  unfold o2; rw [hf, hg]
  exact fdivD_i (divB_of h1 (noPyl (show b.natAbs < 2 ^ 9000 from (Nat.log2_lt (by omega)).mp h3) h1))
theorem x_divL (hf : f ρ = some (enc a)) (hg : g ρ = some (enc b)) (h : 0 < b) (h2 : b < 1809251394333065553493296640760748560207343510400633813116524750123642650624) : o2 fdivD f g ρ = some (enc (a / b)) := by
  unfold o2; rw [hf, hg]; exact fdivD_lit h h2
theorem x_mod (hf : f ρ = some (enc a)) (hg : g ρ = some (enc b)) (h : modT a b = some c) : o2 modD f g ρ = some (enc c) := by
  unfold modT at h
  obtain ⟨h1, h2⟩ := ifS h
  cases h2
  unfold o2; rw [hf, hg]
  exact DL.modD_pos h1
theorem x_modL (hf : f ρ = some (enc a)) (hg : g ρ = some (enc b)) (h : 0 < b) : o2 modD f g ρ = some (enc (a % b)) := by
  unfold o2; rw [hf, hg]; exact DL.modD_pos h
theorem x_powL (hf : f ρ = some (enc a)) (hg : g ρ = some (enc b)) (h : powD (.int a) (.int b) = some (.int c)) : o2 powD f g ρ = some (enc c) := by
  unfold o2; rw [hf, hg]; exact h
theorem x_neg (hf : f ρ = some (enc a)) : o1 negD f ρ = some (enc (-a)) := by unfold o1; rw [hf]; rfl
theorem x_abs (hf : f ρ = some (enc a)) : o1 absD f ρ = some (enc ((a.natAbs : Nat) : Int)) := by unfold o1; rw [hf]; exact absD_i
theorem x_lt (hf : f ρ = some (enc a)) (hg : g ρ = some (enc b)) : o2 ltD f g ρ = some (enc (decide (a < b))) := by unfold o2; rw [hf, hg]; rfl
theorem x_le (hf : f ρ = some (enc a)) (hg : g ρ = some (enc b)) : o2 leD f g ρ = some (enc (decide (a ≤ b))) := by unfold o2; rw [hf, hg]; rfl
theorem x_gt (hf : f ρ = some (enc a)) (hg : g ρ = some (enc b)) : o2 gtD f g ρ = some (enc (decide (b < a))) := by unfold o2; rw [hf, hg]; rfl
theorem x_ge (hf : f ρ = some (enc a)) (hg : g ρ = some (enc b)) : o2 geD f g ρ = some (enc (decide (b ≤ a))) := by unfold o2; rw [hf, hg]; rfl
theorem x_eq {a b : α} [Decidable (a = b)] (hf : f ρ = some (enc a)) (hg : g ρ = some (enc b)) (h : Enc.dep α ≤ 64 := by decide) : o2 eqD f g ρ = some (enc (decide (a = b))) := by
  unfold o2; rw [hf, hg]
  show eqD _ _ = _
  unfold eqD
  rw [if_pos ⟨shaped_enc a h, shaped_enc b h⟩, eqv_dec]; rfl
theorem x_ne {a b : α} [Decidable (a = b)] (hf : f ρ = some (enc a)) (hg : g ρ = some (enc b)) (h : Enc.dep α ≤ 64 := by decide) : o2 neD f g ρ = some (enc (!decide (a = b))) := by
  unfold o2; rw [hf, hg]
  show neD _ _ = _
  unfold neD
  rw [if_pos ⟨shaped_enc a h, shaped_enc b h⟩, eqv_dec]; rfl
theorem any_enc (a : α) (xs : List α) [Decidable (a ∈ xs)] : ((xs.map enc).any fun z => PyData.eqv z (enc a)) = decide (a ∈ xs) := by
  rw [Bool.eq_iff_iff, List.any_eq_true, decide_eq_true_iff]
  constructor
  · rintro ⟨z, hz, e⟩
    obtain ⟨b, hb, rfl⟩ := List.mem_map.mp hz
    rw [Enc.eqv] at e
    exact e ▸ hb
  · intro h
    exact ⟨_, List.mem_map.mpr ⟨a, h, rfl⟩, (Enc.eqv a a).mpr rfl⟩
theorem x_in {a : α} {xs : List α} [Decidable (a ∈ xs)] (hf : f ρ = some (enc a)) (hg : g ρ = some (enc xs)) (h : Enc.dep (List α) ≤ 64 := by decide) : o2 inD f g ρ = some (enc (decide (a ∈ xs))) := by
  unfold o2; rw [hf, hg]
  have h1 : SeqAt.shaped (enc a) = true := shaped_enc a (Nat.le_of_succ_le h)
  have h2 : SeqAt.shaped (.list (xs.map enc)) = true := shaped_enc xs h
  show (if SeqAt.shaped (enc a) = true ∧ SeqAt.shaped (.list (xs.map enc)) = true then some (PyData.bool ((xs.map enc).any fun z => PyData.eqv z (enc a))) else none) = _
  rw [if_pos ⟨h1, h2⟩, any_enc]; rfl
theorem x_nin {a : α} {xs : List α} [Decidable (a ∈ xs)] (hf : f ρ = some (enc a)) (hg : g ρ = some (enc xs)) (h : Enc.dep (List α) ≤ 64 := by decide) : o2 ninD f g ρ = some (enc (!decide (a ∈ xs))) := by
  unfold o2; rw [hf, hg]
  have h1 : SeqAt.shaped (enc a) = true := shaped_enc a (Nat.le_of_succ_le h)
  have h2 : SeqAt.shaped (.list (xs.map enc)) = true := shaped_enc xs h
  show (if SeqAt.shaped (enc a) = true ∧ SeqAt.shaped (.list (xs.map enc)) = true then some (PyData.bool (!(xs.map enc).any fun z => PyData.eqv z (enc a))) else none) = _
  rw [if_pos ⟨h1, h2⟩, any_enc]; rfl
theorem isN_opt [Enc1 α] (o : Option α) : isND (enc o) = o.isNone := by cases o with
  | none => rfl
  | some a => exact Enc1.nn a
theorem x_is [Enc1 α] {o : Option α} (hf : f ρ = some (enc o)) : o2 isD f (cE .none) ρ = some (enc o.isNone) := by
  unfold o2; rw [hf, ← isN_opt]; rfl
theorem x_isnt [Enc1 α] {o : Option α} (hf : f ρ = some (enc o)) : o2 isntD f (cE .none) ρ = some (enc (!o.isNone)) := by
  unfold o2; rw [hf, ← isN_opt]; rfl
theorem b_tb {p : Bool} (h : f ρ = some (enc p)) : tb f ρ = some p := by unfold tb; rw [h]; rfl
variable {p q r : Bool} {bf bg : BF} {tp tq : Option Bool}
theorem x_not (h : tb f ρ = some p) : notE f ρ = some (enc (!p)) := by unfold notE; rw [h]; rfl
theorem x_and (hf : tb f ρ = some p) (hg : p = true → g ρ = some (enc q)) : andE f g ρ = some (enc (p && q)) := by
  unfold andE; rw [hf]
  cases p with
  | true => exact hg rfl
  | false => rfl
theorem x_or (hf : tb f ρ = some p) (hg : p = false → g ρ = some (enc q)) : orE f g ρ = some (enc (p || q)) := by
  unfold orE; rw [hf]
  cases p with
  | true => rfl
  | false => exact hg rfl
theorem x_andO (hf : tb f ρ = some p) (h : (if p = true then tq else some false) = some r) (hg : p = true → tq = some r → g ρ = some (enc r)) : andE f g ρ = some (enc r) := by
  unfold andE; rw [hf]
  cases p with
  | true => exact hg rfl h
  | false => cases h; rfl
theorem x_orO (hf : tb f ρ = some p) (h : (if p = true then some true else tq) = some r) (hg : p = false → tq = some r → g ρ = some (enc r)) : orE f g ρ = some (enc r) := by
  unfold orE; rw [hf]
  cases p with
  | true => cases h; rfl
  | false => exact hg rfl h
theorem b_not (h : bf ρ = some p) : notB bf ρ = some (!p) := by unfold notB; rw [h]; rfl
theorem b_and (hf : bf ρ = some p) (hg : p = true → bg ρ = some q) : andB bf bg ρ = some (p && q) := by
  unfold andB; rw [hf]
  cases p with
  | true => exact hg rfl
  | false => rfl
theorem b_or (hf : bf ρ = some p) (hg : p = false → bg ρ = some q) : orB bf bg ρ = some (p || q) := by
  unfold orB; rw [hf]
  cases p with
  | true => rfl
  | false => exact hg rfl
theorem b_andO (hf : bf ρ = some p) (h : (if p = true then tq else some false) = some r) (hg : p = true → tq = some r → bg ρ = some r) : andB bf bg ρ = some r := by
  unfold andB; rw [hf]
  cases p with
  | true => exact hg rfl h
  | false => cases h; rfl
theorem b_orO (hf : bf ρ = some p) (h : (if p = true then some true else tq) = some r) (hg : p = false → tq = some r → bg ρ = some r) : orB bf bg ρ = some r := by
  unfold orB; rw [hf]
  cases p with
  | true => cases h; rfl
  | false => exact hg rfl h
theorem x_to {v w : α} (h : f ρ = some (enc v)) (e : v = w) : f ρ = some (enc w) := e ▸ h
theorem n_to {v w : List α} (h : fa ρ = some (v.map enc)) (e : v = w) : fa ρ = some (w.map enc) := e ▸ h
theorem gt2 {i j : Nat} {p : α × β} : tupG 2 (consG (nameG i) (consG (nameG j) nilG)) (enc p) ρ = some ((ρ.set i (some (enc p.1))).set j (some (enc p.2))) := rfl
theorem gt3 {i j k : Nat} {p : P3 α β γ} : tupG 3 (consG (nameG i) (consG (nameG j) (consG (nameG k) nilG))) (enc p) ρ = some (((ρ.set i (some (enc p.a))).set j (some (enc p.b))).set k (some (enc p.c))) := rfl
theorem gt4 {i j k l : Nat} {p : P4 α β γ δ} : tupG 4 (consG (nameG i) (consG (nameG j) (consG (nameG k) (consG (nameG l) nilG)))) (enc p) ρ = some ((((ρ.set i (some (enc p.a))).set j (some (enc p.b))).set k (some (enc p.c))).set l (some (enc p.d))) := rfl
theorem gl2 {i j : Nat} {xs : List α} {p : α × α} (h : TL.un2 xs = some p) : lstG 2 (consG (nameG i) (consG (nameG j) nilG)) (enc xs) ρ = some ((ρ.set i (some (enc p.1))).set j (some (enc p.2))) := by
  match xs, h with
  | [a, b], h => cases h; rfl
theorem x_scI {i : Int} (h : f ρ = some (enc i)) : o1 scD f ρ = some (enc i) := by unfold o1; rw [h]; rfl
theorem x_scB {b : Bool} (h : f ρ = some (enc b)) : o1 scD f ρ = some (enc b) := by unfold o1; rw [h]; rfl
/-! lists of terms -/
theorem a_nil : nilA ρ = some ([] : List D) := rfl
theorem a_cons {d : D} {ds : List D} (hf : f ρ = some d) (hr : fa ρ = some ds) : consA f fa ρ = some (d :: ds) := by unfold consA; rw [hf, hr]; rfl
theorem l_nil : nilA ρ = some (([] : List α).map enc) := rfl
theorem l_cons {x : α} {xs : List α} (hf : f ρ = some (enc x)) (hr : fa ρ = some (xs.map enc)) : consA f fa ρ = some ((x :: xs).map enc) := by unfold consA; rw [hf, hr]; rfl
theorem plain_all (xs : List α) : (xs.map enc).all plainD = true := by
  rw [List.all_eq_true]
  intro d h
  obtain ⟨a, _, rfl⟩ := List.mem_map.mp h
  exact Enc.plain a
theorem x_tup2 {x : α} {y : β} (hf : f ρ = some (enc x)) (hg : g ρ = some (enc y)) : tupE (consA f (consA g nilA)) ρ = some (enc (x, y)) := by
  unfold tupE; rw [a_cons hf (a_cons hg a_nil)]
  show (if _ then _ else _) = _
  rw [if_pos ⟨by simp [Enc.plain], by simp⟩]; rfl
theorem x_tup3 {x : α} {y : β} {z : γ} (hf : f ρ = some (enc x)) (hg : g ρ = some (enc y)) (hk : k ρ = some (enc z)) : tupE (consA f (consA g (consA k nilA))) ρ = some (enc (P3.mk x y z)) := by
  unfold tupE; rw [a_cons hf (a_cons hg (a_cons hk a_nil))]
  show (if _ then _ else _) = _
  rw [if_pos ⟨by simp [Enc.plain], by simp⟩]; rfl
theorem x_tup4 {x : α} {y : β} {z : γ} {u : δ} (hf : f ρ = some (enc x)) (hg : g ρ = some (enc y)) (hk : k ρ = some (enc z)) (hl : l ρ = some (enc u)) : tupE (consA f (consA g (consA k (consA l nilA)))) ρ = some (enc (P4.mk x y z u)) := by
  unfold tupE; rw [a_cons hf (a_cons hg (a_cons hk (a_cons hl a_nil)))]
  show (if _ then _ else _) = _
  rw [if_pos ⟨by simp [Enc.plain], by simp⟩]; rfl
theorem n_lst {xs : List α} (h : fa ρ = some (xs.map enc)) (hl : xs.length ≤ 1000 := by simp) : lstA fa ρ = some (xs.map enc) := by
  unfold lstA; rw [h]
  show (if _ then _ else _) = _
  rw [if_pos ⟨plain_all xs, small_size (by rw [List.length_map]; exact hl)⟩]
theorem x_l {xs : List α} (h : fa ρ = some (xs.map enc)) : lE fa ρ = some (enc xs) := by unfold lE; rw [h]; rfl
/-! places -/
theorem ixN_ixT (n : Nat) (i : Int) : ixN n i = ixT n i := by
  unfold ixN ixT
  by_cases h0 : 0 ≤ i
  · rw [if_pos h0, if_pos h0]
  · rw [if_neg h0, if_neg h0]
    by_cases h1 : -i ≤ (n : Int)
    · rw [if_pos (by omega), if_pos h1]; congr 1; omega
    · rw [if_neg (by omega), if_neg h1]
theorem getT_map {xs : List α} {i : Int} {v : α} (h : getT xs i = some v) : atI (xs.map enc) i = some (enc v) := by
  unfold getT at h
  by_cases h0 : 0 ≤ i
  · rw [if_pos h0] at h
    rw [atI_lt h0, List.getElem?_map, h]; rfl
  · rw [if_neg h0] at h
    obtain ⟨h1, h2⟩ := ifS h
    have e : atI (xs.map (enc (α := α))) i = atI (xs.map enc) (-((-i).toNat : Int)) := by congr 1; omega
    rw [e, atI_neg (by omega) (by rw [List.length_map]; omega), List.length_map, List.getElem?_map, h2]; rfl
theorem x_ixl {xs : List α} {i : Int} {v : α} (hf : f ρ = some (enc xs)) (hg : g ρ = some (enc i)) (h : getT xs i = some v) : o2 ixD f g ρ = some (enc v) := by
  unfold o2; rw [hf, hg]; exact getT_map h
theorem x_ixP {x : α × α} {i : Int} {v : α} (hf : f ρ = some (enc x)) (hg : g ρ = some (enc i)) (h : getP x i = some v) : o2 ixD f g ρ = some (enc v) := by
  unfold o2; rw [hf, hg]; exact getT_map (xs := [x.1, x.2]) h
theorem x_ixP3 {x : P3 α α α} {i : Int} {v : α} (hf : f ρ = some (enc x)) (hg : g ρ = some (enc i)) (h : TL.getP3 x i = some v) : o2 ixD f g ρ = some (enc v) := by
  unfold o2; rw [hf, hg]; exact getT_map (xs := [x.a, x.b, x.c]) h
theorem x_ix20 {x : α × β} (hf : f ρ = some (enc x)) : o2 ixD f (cE (.int 0)) ρ = some (enc x.1) := by unfold o2; rw [hf]; exact (atI_0 : atI [enc x.1, enc x.2] 0 = _)
theorem x_ix21 {x : α × β} (hf : f ρ = some (enc x)) : o2 ixD f (cE (.int 1)) ρ = some (enc x.2) := by unfold o2; rw [hf]; exact (atI_1 : atI [enc x.1, enc x.2] 1 = _)
theorem x_ix30 {x : P3 α β γ} (hf : f ρ = some (enc x)) : o2 ixD f (cE (.int 0)) ρ = some (enc x.a) := by unfold o2; rw [hf]; exact (atI_0 : atI [enc x.a, enc x.b, enc x.c] 0 = _)
theorem x_ix31 {x : P3 α β γ} (hf : f ρ = some (enc x)) : o2 ixD f (cE (.int 1)) ρ = some (enc x.b) := by unfold o2; rw [hf]; exact (atI_1 : atI [enc x.a, enc x.b, enc x.c] 1 = _)
theorem x_ix32 {x : P3 α β γ} (hf : f ρ = some (enc x)) : o2 ixD f (cE (.int 2)) ρ = some (enc x.c) := by unfold o2; rw [hf]; exact (atI_2 : atI [enc x.a, enc x.b, enc x.c] 2 = _)
theorem x_ix40 {x : P4 α β γ δ} (hf : f ρ = some (enc x)) : o2 ixD f (cE (.int 0)) ρ = some (enc x.a) := by unfold o2; rw [hf]; exact (atI_0 : atI [enc x.a, enc x.b, enc x.c, enc x.d] 0 = _)
theorem x_ix41 {x : P4 α β γ δ} (hf : f ρ = some (enc x)) : o2 ixD f (cE (.int 1)) ρ = some (enc x.b) := by unfold o2; rw [hf]; exact (atI_1 : atI [enc x.a, enc x.b, enc x.c, enc x.d] 1 = _)
theorem x_ix42 {x : P4 α β γ δ} (hf : f ρ = some (enc x)) : o2 ixD f (cE (.int 2)) ρ = some (enc x.c) := by unfold o2; rw [hf]; exact (atI_2 : atI [enc x.a, enc x.b, enc x.c, enc x.d] 2 = _)
theorem atI_3 {α : Type} {a b c d : α} {r : List α} : atI (a :: b :: c :: d :: r) 3 = some d := by rw [atI_lt (by decide)]; rfl
theorem x_ix43 {x : P4 α β γ δ} (hf : f ρ = some (enc x)) : o2 ixD f (cE (.int 3)) ρ = some (enc x.d) := by unfold o2; rw [hf]; exact (atI_3 : atI [enc x.a, enc x.b, enc x.c, enc x.d] 3 = _)
/-! calls -/
theorem x_call {Fn : List D → Option D} {ds : List D} {d : D} (ha : fa ρ = some ds) (h : Fn ds = some d) : callE Fn fa ρ = some d := by unfold callE; rw [ha]; exact h
theorem n_call {Fn : List D → Option D} {ds : List D} {xs : List α} (ha : fa ρ = some ds) (h : Fn ds = some (enc xs)) : callL Fn fa ρ = some (xs.map enc) := callL_some ha h
theorem x_len {xs : List α} (hf : f ρ = some (enc xs)) : o1 lenD f ρ = some (enc (xs.length : Int)) := by
  unfold o1; rw [hf]
  show some (PyData.int ((xs.map enc).length : Nat)) = _
  rw [List.length_map]; rfl
theorem x_len2 {x : α × β} (hf : f ρ = some (enc x)) : o1 lenD f ρ = some (enc (2 : Int)) := by unfold o1; rw [hf]; rfl
theorem x_len3 {x : P3 α β γ} (hf : f ρ = some (enc x)) : o1 lenD f ρ = some (enc (3 : Int)) := by unfold o1; rw [hf]; rfl
theorem x_len4 {x : P4 α β γ δ} (hf : f ρ = some (enc x)) : o1 lenD f ρ = some (enc (4 : Int)) := by unfold o1; rw [hf]; rfl
theorem intsD_enc : ∀ xs : List Int, intsD (xs.map enc) = some xs
  | [] => rfl
  | x :: xs => by show (intsD (xs.map enc)).map (x :: ·) = _; rw [intsD_enc xs]; rfl
theorem x_sum {xs : List Int} (hf : f ρ = some (enc xs)) : o1 sumD f ρ = some (enc xs.sum) := by
  unfold o1; rw [hf]
  show (intsD (xs.map enc)).map _ = _
  rw [intsD_enc]; rfl
theorem leastI_e : ∀ xs : List Int, DL.leastI xs = TL.leastI xs
  | [] => rfl
  | _ :: _ => rfl
theorem mostI_e : ∀ xs : List Int, DL.mostI xs = TL.mostI xs
  | [] => rfl
  | _ :: _ => rfl
theorem x_min {xs : List Int} {v : Int} (hf : f ρ = some (enc xs)) (h : TL.leastI xs = some v) : o1 minD f ρ = some (enc v) := by
  unfold o1; rw [hf]
  show (intsD (xs.map enc)).bind (fun ns => (DL.leastI ns).map PyData.int) = _
  rw [intsD_enc, Option.bind_some, leastI_e, h]; rfl
theorem x_max {xs : List Int} {v : Int} (hf : f ρ = some (enc xs)) (h : TL.mostI xs = some v) : o1 maxD f ρ = some (enc v) := by
  unfold o1; rw [hf]
  show (intsD (xs.map enc)).bind (fun ns => (DL.mostI ns).map PyData.int) = _
  rw [intsD_enc, Option.bind_some, mostI_e, h]; rfl
theorem x_min2 (hf : f ρ = some (enc a)) (hg : g ρ = some (enc b)) : o2 min2D f g ρ = some (enc (TL.min2 a b)) := by unfold o2; rw [hf, hg]; rfl
theorem x_max2 (hf : f ρ = some (enc a)) (hg : g ρ = some (enc b)) : o2 max2D f g ρ = some (enc (TL.max2 a b)) := by unfold o2; rw [hf, hg]; rfl
theorem x_b2i (hf : f ρ = some (enc p)) : o1 toIntD f ρ = some (enc (bintT p)) := by unfold o1; rw [hf]; rfl
theorem x_isi_ii {i : Int} (hf : f ρ = some (enc i)) : o1 (isiD "int") f ρ = some (enc true) := by unfold o1; rw [hf]; exact isi_int_i
theorem x_isi_bi {i : Int} (hf : f ρ = some (enc i)) : o1 (isiD "bool") f ρ = some (enc false) := by unfold o1; rw [hf]; exact isi_bool_i
theorem x_isi_t2 {x : α × β} (hf : f ρ = some (enc x)) : o1 (isiD "tuple") f ρ = some (enc true) := by unfold o1; rw [hf]; exact isi_tup
theorem x_isi_t3 {x : P3 α β γ} (hf : f ρ = some (enc x)) : o1 (isiD "tuple") f ρ = some (enc true) := by unfold o1; rw [hf]; exact isi_tup
theorem x_isi_t4 {x : P4 α β γ δ} (hf : f ρ = some (enc x)) : o1 (isiD "tuple") f ρ = some (enc true) := by unfold o1; rw [hf]; exact isi_tup
theorem x_isi_l {xs : List α} (hf : f ρ = some (enc xs)) : o1 (isiD "list") f ρ = some (enc true) := by unfold o1; rw [hf]; exact isi_lst
theorem n_list {xs : List α} (hf : f ρ = some (enc xs)) : o1L listD f ρ = some (xs.map enc) := by unfold o1L; rw [hf]; rfl
theorem n_rev {xs : List α} (hf : f ρ = some (enc xs)) : o1L revD f ρ = some (xs.reverse.map enc) := by
  unfold o1L; rw [hf, List.map_reverse]; rfl
theorem pt_enc (xs : List (Int × Int)) : xs.map enc = xs.map ptD := rfl
theorem n_sortset {xs ys : List (Int × Int)} (hf : f ρ = some (enc xs)) (h : TL.ssetT xs = some ys) : o1L sortsetD f ρ = some (ys.map enc) := by
  unfold TL.ssetT at h
  obtain ⟨h1, h2⟩ := ifS h
  cases h2
  unfold o1L; rw [hf]; exact sortsetD_pts h1
theorem n_slM1 {xs : List α} {l : OF} (hf : f ρ = some (enc xs)) : slA f (fun _ => some none) (partO (o1 negD (cE (.int 1)))) ρ = some (xs.dropLast.map enc) := by
  unfold slA; rw [hf, List.map_dropLast]
  show some (cutD (xs.map enc) none (some (-1))) = _
  rw [cutD_m1]
theorem n_slTo {xs ys : List α} {i : Int} (hf : f ρ = some (enc xs)) (hg : g ρ = some (enc i)) (h : takeT xs i = some ys) : slA f (fun _ => some none) (partO g) ρ = some (ys.map enc) := by
  unfold takeT at h
  obtain ⟨h1, h2⟩ := ifS h
  cases h2
  have e : partO g ρ = some (some i) := by unfold partO; rw [hg]; rfl
  unfold slA; rw [hf, e]
  show some (cutD (xs.map enc) none (some i)) = _
  rw [show i = ((i.toNat : Nat) : Int) by omega, cutD_to, List.map_take]; rfl
theorem n_slFrom {xs ys : List α} {i : Int} (hf : f ρ = some (enc xs)) (hg : g ρ = some (enc i)) (h : dropT xs i = some ys) : slA f (partO g) (fun _ => some none) ρ = some (ys.map enc) := by
  unfold dropT at h
  obtain ⟨h1, h2⟩ := ifS h
  cases h2
  have e : partO g ρ = some (some i) := by unfold partO; rw [hg]; rfl
  unfold slA; rw [hf, e]
  show some (cutD (xs.map enc) (some i) none) = _
  rw [show i = ((i.toNat : Nat) : Int) by omega, cutD_from, List.map_drop]; rfl
theorem lim_le : lim ≤ sizeLine := by decide
theorem n_cat {xs ys zs : List α} (hf : f ρ = some (enc xs)) (hg : g ρ = some (enc ys)) (h : catT xs ys = some zs) : catA f g ρ = some (zs.map enc) := by
  unfold catT at h
  obtain ⟨h1, h2⟩ := ifS h
  cases h2
  have h3 := lim_le
  unfold catA; rw [hf, hg]
  show (if _ then _ else _) = _
  rw [if_pos (by rw [List.length_map, List.length_map]; omega), List.map_append]
/-! what is gone through -/
theorem i_list {xs : List α} (hf : f ρ = some (enc xs)) : itemsF f ρ = some (xs.map enc) := by unfold itemsF; rw [hf]; rfl
theorem i_rng1 {n : Int} {ks : List Int} (hf : f ρ = some (enc n)) (h : rng1T n = some ks) : rng1F f ρ = some (ks.map enc) := by
  unfold rng1T at h
  obtain ⟨h1, h2⟩ := ifS h
  cases h2
  unfold rng1F TL.rngI; rw [hf]
  show (if _ then _ else _) = _
  rw [if_pos (by omega), List.map_map]
  unfold rngL
  congr 1
  exact List.map_congr_left fun i _ => by show PyData.int (0 + (i : Int)) = PyData.int (i : Int); rw [Int.zero_add]
theorem i_rng2 {m n : Int} {ks : List Int} (hf : f ρ = some (enc m)) (hg : g ρ = some (enc n)) (h : rng2T m n = some ks) : rng2F f g ρ = some (ks.map enc) := by
  unfold rng2T at h
  obtain ⟨h1, h2⟩ := ifS h
  cases h2
  unfold rng2F; rw [hf, hg]
  show (if _ then _ else _) = _
  rw [if_pos (by omega), List.map_map]; rfl
theorem zip_enc : ∀ (xs : List α) (ys : List β), List.zipWith (fun x y => PyData.tuple [x, y]) (xs.map enc) (ys.map enc) = (xs.zip ys).map enc
  | [], _ => rfl
  | _ :: _, [] => rfl
  | x :: xs, y :: ys => by
    rw [List.map_cons, List.map_cons, List.zipWith_cons_cons, zip_enc xs ys]; rfl
theorem i_rev {xs : List α} (hf : f ρ = some (enc xs)) : revF f ρ = some (xs.reverse.map enc) := by
  unfold revF; rw [hf, List.map_reverse]; rfl
theorem i_zip {xs : List α} {ys : List β} (hf : f ρ = some (enc xs)) (hg : g ρ = some (enc ys)) : zipF f g ρ = some ((xs.zip ys).map enc) := by
  unfold zipF; rw [hf, hg, ← zip_enc]; rfl
end
/-! comprehensions -/
section
variable {α β : Type} [Enc α] [Enc β] {ρ : Rho} {g : TgF} {c : BF} {e : EF} {vs : List Nat} {it : AF}
theorem compL_mapL {f : α → Option β} {ρ : Rho} (hb : ∀ a b, f a = some b → ∃ ρ2, g (enc a) ρ = some ρ2 ∧ c ρ2 = some true ∧ e ρ2 = some (enc b)) : ∀ (xs : List α) (ys : List β), mapL f xs = some ys → compL g c e ρ (xs.map enc) = some (ys.map enc)
  | [], ys, h => by cases h; rfl
  | x :: xs, ys, h => by
    unfold mapL at h
    obtain ⟨y, e1, h⟩ := bindS h
    obtain ⟨zs, e2, h⟩ := bindS h
    cases h
    obtain ⟨ρ2, h1, h2, h3⟩ := hb x y e1
    rw [List.map_cons]
    unfold compL
    rw [h1, Option.bind_some, h2, Option.bind_some, if_pos rfl, h3, Option.bind_some, if_pos (Enc.plain y), compL_mapL hb xs zs e2]; rfl
theorem compL_fmapL {cc : α → Option Bool} {f : α → Option β} {ρ : Rho} (hb : ∀ a k, cc a = some k → ∃ ρ2, g (enc a) ρ = some ρ2 ∧ c ρ2 = some k ∧ (k = true → ∀ b, f a = some b → e ρ2 = some (enc b))) : ∀ (xs : List α) (ys : List β), fmapL cc f xs = some ys → compL g c e ρ (xs.map enc) = some (ys.map enc)
  | [], ys, h => by cases h; rfl
  | x :: xs, ys, h => by
    unfold fmapL at h
    obtain ⟨k, e0, h⟩ := bindS h
    obtain ⟨ρ2, h1, h2, h3⟩ := hb x k e0
    rw [List.map_cons]
    unfold compL
    rw [h1, Option.bind_some, h2, Option.bind_some]
    cases k with
    | true =>
      rw [if_pos rfl] at h ⊢
      obtain ⟨y, e1, h⟩ := bindS h
      obtain ⟨zs, e2, h⟩ := bindS h
      cases h
      rw [h3 rfl y e1, Option.bind_some, if_pos (Enc.plain y), compL_fmapL hb xs zs e2]; rfl
    | false =>
      rw [if_neg (by decide)] at h ⊢
      exact compL_fmapL hb xs ys h
theorem n_comp {xs : List α} {f : α → Option β} {ys : List β} (hit : it ρ = some (xs.map enc)) (ht : compT f xs = some ys) (hb : ∀ a b, f a = some b → ∃ ρ2, g (enc a) (wipeR ρ vs) = some ρ2 ∧ e ρ2 = some (enc b)) : compA vs it g yesB e ρ = some (ys.map enc) := by
  unfold compT at ht
  obtain ⟨h1, h2⟩ := ifS ht
  have h3 := lim_le
  unfold compA
  rw [hit, Option.bind_some, if_pos (by rw [List.length_map]; omega)]
  exact compL_mapL (fun a b h => let ⟨ρ2, p1, p2⟩ := hb a b h; ⟨ρ2, p1, rfl, p2⟩) xs ys h2
theorem n_compF {xs : List α} {cc : α → Option Bool} {f : α → Option β} {ys : List β} (hit : it ρ = some (xs.map enc)) (ht : compFT cc f xs = some ys) (hb : ∀ a k, cc a = some k → ∃ ρ2, g (enc a) (wipeR ρ vs) = some ρ2 ∧ c ρ2 = some k ∧ (k = true → ∀ b, f a = some b → e ρ2 = some (enc b))) : compA vs it g c e ρ = some (ys.map enc) := by
  unfold compFT at ht
  obtain ⟨h1, h2⟩ := ifS ht
  have h3 := lim_le
  unfold compA
  rw [hit, Option.bind_some, if_pos (by rw [List.length_map]; omega)]
  exact compL_fmapL hb xs ys h2
end
/-! x.index(min(x)) -/
class EncL (α : Type) [Enc α] [TL.LexO α] : Prop where
  al : ∀ a b : α, PySem.W.alike (enc a) (enc b) = true
  lt : ∀ a b : α, PySem.W.dataLt (enc a) (enc b) = TL.LexO.lt a b
  irr : ∀ a : α, TL.LexO.lt a a = false
instance : EncL Int where
  al := fun _ _ => by show PySem.W.alike (.int _) (.int _) = true; simp [PySem.W.alike]
  lt := fun a b => PySem.W.dataLt_int a b
  irr := fun a => by simp [TL.LexO.lt]
instance {α β : Type} [Enc α] [Enc β] [DecidableEq α] [TL.LexO α] [TL.LexO β] [EncL α] [EncL β] : EncL (α × β) where
  al := fun p q => by
    show PySem.W.alike (.tuple [enc p.1, enc p.2]) (.tuple [enc q.1, enc q.2]) = true
    simp [PySem.W.alike, PySem.W.alikeAll, EncL.al]
  lt := fun p q => by
    show PySem.W.dataLt (.tuple [enc p.1, enc p.2]) (.tuple [enc q.1, enc q.2]) = (if p.1 = q.1 then TL.LexO.lt p.2 q.2 else TL.LexO.lt p.1 q.1)
    rw [PySem.W.dataLt_pair (EncL.al _ _) (EncL.al _ _)]
    by_cases h : p.1 = q.1
    · rw [if_pos ((Enc.eqv _ _).mpr h), if_pos h]
      by_cases h2 : p.2 = q.2
      · rw [if_pos ((Enc.eqv _ _).mpr h2), h2, EncL.irr]
      · rw [if_neg (fun e => h2 ((Enc.eqv _ _).mp e)), EncL.lt]
    · rw [if_neg (fun e => h ((Enc.eqv _ _).mp e)), if_neg h, EncL.lt]
  irr := fun p => by
    show (if p.1 = p.1 then TL.LexO.lt p.2 p.2 else TL.LexO.lt p.1 p.1) = false
    rw [if_pos rfl, EncL.irr]
theorem minD_enc {α : Type} [Enc α] [TL.LexO α] [EncL α] (xs : List α) : ∀ x : α, PySem.W.minD (enc x) (xs.map enc) = enc (TL.minL x xs) := by
  induction xs with
  | nil => intro x; rfl
  | cons y ys ih =>
    intro x
    have := ih (if TL.LexO.lt y x = true then y else x)
    unfold PySem.W.minD TL.minL at *
    rw [List.map_cons, List.foldl_cons, List.foldl_cons, ← this, EncL.lt]
    congr 1
    split <;> rfl
theorem x_idxmin {α : Type} [Enc α] [Enc1 α] [DecidableEq α] [TL.LexO α] [EncL α] {ρ : Rho} {f : EF} {xs : List α} {i : Int} (hf : f ρ = some (enc xs)) (h : TL.idxMinT xs = some i) (hd : Enc.dep (List α) ≤ 64 := by decide) : o1 idxMinD f ρ = some (enc i) := by
  unfold o1; rw [hf, Option.bind_some]
  cases xs with
  | nil => cases h
  | cons x xs =>
    unfold TL.idxMinT at h
    dsimp only at h
    show idxMinD (.list (enc x :: xs.map enc)) = _
    unfold idxMinD
    simp only
    rw [minD_enc]
    have h1 : alikeB (enc x :: xs.map enc) = true := by
      unfold alikeB
      rw [Bool.and_eq_true, List.all_eq_true, List.all_eq_true]
      have mem : ∀ d ∈ enc x :: xs.map enc, ∃ a : α, d = enc a := fun d hd => by
        rcases List.mem_cons.mp hd with e | hd
        · exact ⟨x, e⟩
        · obtain ⟨a, _, rfl⟩ := List.mem_map.mp hd; exact ⟨a, rfl⟩
      refine ⟨fun d hd => List.all_eq_true.mpr fun c hc => ?_, fun d hd => ?_⟩
      · obtain ⟨a, rfl⟩ := mem d hd
        obtain ⟨b, rfl⟩ := mem c hc
        exact EncL.al a b
      · obtain ⟨a, rfl⟩ := mem d hd
        rw [Enc1.nn a]; rfl
    have h2 : SeqAt.shaped (.list (enc x :: xs.map enc)) = true := shaped_enc (x :: xs) hd
    have h3 : SeqAt.shaped (enc (TL.minL x xs)) = true := shaped_enc _ (Nat.le_of_succ_le hd)
    rw [if_pos ⟨h1, h2, h3⟩]
    have e : (enc x :: xs.map enc).findIdx? (fun z => PyData.eqv z (enc (TL.minL x xs))) = (x :: xs).findIdx? fun z => decide (z = TL.minL x xs) := by
      rw [← List.map_cons, List.findIdx?_map]
      congr 1
      funext z
      exact eqv_dec z _
    rw [e]
    cases e2 : (x :: xs).findIdx? fun z => decide (z = TL.minL x xs) with
    | none => rw [e2] at h; cases h
    | some j => rw [e2] at h; cases h; rfl
/-! ### statements -/
def Wp (x : Option Out) (Q : Out → Prop) : Prop := ∃ r, x = some r ∧ Q r
def Cont (b : SF) (Q : Out → Prop) : Out → Prop
  | .nx ρ => Wp (b ρ) Q
  | r => Q r
section
variable {ρ : Rho} {a b : SF} {f g : EF} {fa : AF} {c : BF} {Q : Out → Prop} {α : Type} [Enc α]
theorem w_seq (h : Wp (a ρ) (Cont b Q)) : Wp (seqF a b ρ) Q := by
  obtain ⟨r, e, h⟩ := h
  unfold seqF
  rw [e, Option.bind_some]
  cases r with
  | nx ρ' => exact h
  | rt d => exact ⟨_, rfl, h⟩
  | bk ρ' => exact ⟨_, rfl, h⟩
  | ct ρ' => exact ⟨_, rfl, h⟩
/-- with what holds in the middle -/
theorem w_mid (P : Rho → Prop) (h : Wp (a ρ) fun r => ∃ ρ', r = .nx ρ' ∧ P ρ') (hb : ∀ ρ', P ρ' → Wp (b ρ') Q) : Wp (seqF a b ρ) Q := by
  obtain ⟨r, e, ρ', rfl, h⟩ := h
  unfold seqF
  rw [e, Option.bind_some]
  exact hb ρ' h
theorem w_set {i : Nat} {d : D} (h : f ρ = some d) (q : Q (.nx (ρ.set i (some d)))) : Wp (setF i f ρ) Q := ⟨_, by unfold setF; rw [h]; rfl, q⟩
theorem w_setL {i : Nat} {xs : List α} (h : fa ρ = some (xs.map enc)) (q : Q (.nx (ρ.set i (some (enc xs))))) : Wp (setL i fa ρ) Q := ⟨_, by unfold setL; rw [h]; rfl, q⟩
theorem w_ret {d : D} (h : f ρ = some d) (q : Q (.rt d)) : Wp (retF f ρ) Q := ⟨_, by unfold retF; rw [h]; rfl, q⟩
theorem w_retL {xs : List α} (h : fa ρ = some (xs.map enc)) (q : Q (.rt (enc xs))) : Wp (retL fa ρ) Q := ⟨_, by unfold retL; rw [h]; rfl, q⟩
theorem w_retV {i : Nat} {xs : List α} (h : getv ρ i = some (enc xs)) (q : Q (.rt (enc xs))) : Wp (retV i ρ) Q := ⟨_, by unfold retV; rw [h]; rfl, q⟩
theorem w_skip (q : Q (.nx ρ)) : Wp (skipF ρ) Q := ⟨_, rfl, q⟩
theorem w_if {k : Bool} (h : c ρ = some k) (h1 : k = true → Wp (a ρ) Q) (h2 : k = false → Wp (b ρ) Q) : Wp (ifF c a b ρ) Q := by
  cases k with
  | true => obtain ⟨r, e, q⟩ := h1 rfl; exact ⟨r, by unfold ifF; rw [h]; exact e, q⟩
  | false => obtain ⟨r, e, q⟩ := h2 rfl; exact ⟨r, by unfold ifF; rw [h]; exact e, q⟩
theorem w_par {i j : Nat} {x y : D} (hf : f ρ = some x) (hg : g ρ = some y) (q : Q (.nx ((ρ.set i (some x)).set j (some y)))) : Wp (parF i j f g ρ) Q := ⟨_, by unfold parF; rw [hf, hg]; rfl, q⟩
theorem w_asg {t : TgF} {d : D} {ρ' : Rho} (hf : f ρ = some d) (hg : t d ρ = some ρ') (q : Q (.nx ρ')) : Wp (asgF f t ρ) Q := ⟨_, by unfold asgF; rw [hf, Option.bind_some, hg]; rfl, q⟩
theorem w_app {i : Nat} {xs ys : List α} {x : α} (h0 : getv ρ i = some (enc xs)) (hf : f ρ = some (enc x)) (h : appT xs x = some ys) (q : Q (.nx (ρ.set i (some (enc ys))))) : Wp (appF i f ρ) Q := by
  unfold appT at h
  obtain ⟨h1, h2⟩ := ifS h
  cases h2
  have h3 := lim_le
  have h0 : getv ρ i = some (.list (xs.map enc)) := h0
  refine ⟨_, ?_, q⟩
  unfold appF
  rw [h0]
  show (f ρ).bind _ = _
  rw [hf, Option.bind_some, if_pos ⟨Enc.plain x, by rw [List.length_map]; omega⟩]
  show _ = some (Out.nx (ρ.set i (some (.list ((xs ++ [x]).map enc)))))
  rw [List.map_append]; rfl
theorem w_pop {i : Nat} {xs ys : List α} (h0 : getv ρ i = some (enc xs)) (h : popT xs = some ys) (q : Q (.nx (ρ.set i (some (enc ys))))) : Wp (popF i ρ) Q := by
  unfold popT at h
  obtain ⟨h1, h2⟩ := ifS h
  cases h2
  have h0 : getv ρ i = some (.list (xs.map enc)) := h0
  refine ⟨_, ?_, q⟩
  unfold popF
  rw [h0]
  show (if _ then _ else _) = _
  rw [if_pos (by rw [List.length_map]; exact h1)]
  show _ = some (Out.nx (ρ.set i (some (.list (xs.dropLast.map enc)))))
  rw [List.map_dropLast]
theorem w_clear {i : Nat} {xs : List α} (h0 : getv ρ i = some (enc xs)) (q : Q (.nx (ρ.set i (some (enc ([] : List α)))))) : Wp (clearF i ρ) Q := by
  have h0 : getv ρ i = some (.list (xs.map enc)) := h0
  exact ⟨_, by unfold clearF; rw [h0]; rfl, q⟩
theorem w_put {i : Nat} {xs ys : List α} {x : α} {j : Int} (hf : f ρ = some (enc x)) (h0 : getv ρ i = some (enc xs)) (hg : g ρ = some (enc j)) (h : putT xs j x = some ys) (q : Q (.nx (ρ.set i (some (enc ys))))) : Wp (DL.putF i f g ρ) Q := by
  unfold putT at h
  obtain ⟨n, h1, h2⟩ := bindS h
  cases h2
  have h0 : getv ρ i = some (.list (xs.map enc)) := h0
  have hg : g ρ = some (.int j) := hg
  refine ⟨_, ?_, q⟩
  unfold DL.putF
  rw [hf, Option.bind_some, h0, hg]
  show (ixN (xs.map enc).length j).bind _ = _
  rw [List.length_map, ixN_ixT, h1, Option.bind_some, if_pos (Enc.plain x)]
  show _ = some (Out.nx (ρ.set i (some (.list ((xs.set n x).map enc)))))
  rw [List.map_set]
end
/-! loops -/
section
variable {α σ τ : Type} [Enc α] [Enc τ] {ρ : Rho} {b : SF} {it : AF} {g : TgF} {Q : Out → Prop} {R : σ → Rho → Prop}
def To (R : σ → Rho → Prop) (s : σ) (r : Out) : Prop := ∃ ρ', r = .nx ρ' ∧ R s ρ'
def ToR (R : σ → Rho → Prop) : TO σ τ → Out → Prop
  | .nx s, r => ∃ ρ', r = .nx ρ' ∧ R s ρ'
  | .rt v, r => r = .rt (enc v)
theorem forL_fold {f : α → σ → Option σ} (hb : ∀ a s o ρ, f a s = some o → R s ρ → ∃ ρ1, g (enc a) ρ = some ρ1 ∧ Wp (b ρ1) (To R o)) : ∀ (xs : List α) (s s' : σ) (ρ : Rho), R s ρ → foldT f xs s = some s' → ∃ ρ', forL g b (xs.map enc) ρ = some (.nx ρ') ∧ R s' ρ'
  | [], s, s', ρ, h0, ht => by cases ht; exact ⟨ρ, rfl, h0⟩
  | x :: xs, s, s', ρ, h0, ht => by
    unfold foldT at ht
    obtain ⟨s1, e1, ht⟩ := bindS ht
    obtain ⟨ρ1, h1, r, h2, ρ2, rfl, h3⟩ := hb x s s1 ρ e1 h0
    obtain ⟨ρ', q1, q2⟩ := forL_fold hb xs s1 s' ρ2 h3 ht
    refine ⟨ρ', ?_, q2⟩
    rw [List.map_cons]
    unfold forL
    rw [h1, Option.bind_some, h2, Option.bind_some]
    exact q1
theorem w_for (R : σ → Rho → Prop) {f : α → σ → Option σ} {xs : List α} {s s' : σ} (hit : it ρ = some (xs.map enc)) (h0 : R s ρ) (ht : foldT f xs s = some s') (hb : ∀ a s o ρ, f a s = some o → R s ρ → ∃ ρ1, g (enc a) ρ = some ρ1 ∧ Wp (b ρ1) (To R o)) (hq : ∀ ρ', R s' ρ' → Q (.nx ρ')) : Wp (forF it g b ρ) Q := by
  obtain ⟨ρ', e, h⟩ := forL_fold hb xs s s' ρ h0 ht
  exact ⟨_, by unfold forF; rw [hit]; exact e, hq ρ' h⟩
theorem forL_forT {f : α → σ → Option (TO σ τ)} (hb : ∀ a s o ρ, f a s = some o → R s ρ → ∃ ρ1, g (enc a) ρ = some ρ1 ∧ Wp (b ρ1) (ToR R o)) : ∀ (xs : List α) (s : σ) (o : TO σ τ) (ρ : Rho), R s ρ → forT f xs s = some o → ∃ r, forL g b (xs.map enc) ρ = some r ∧ ToR R o r
  | [], s, o, ρ, h0, ht => by cases ht; exact ⟨.nx ρ, rfl, ρ, rfl, h0⟩
  | x :: xs, s, o, ρ, h0, ht => by
    unfold forT at ht
    obtain ⟨o1, e1, ht⟩ := bindS ht
    obtain ⟨ρ1, h1, r, h2, h3⟩ := hb x s o1 ρ e1 h0
    rw [List.map_cons]
    unfold forL
    rw [h1, Option.bind_some, h2, Option.bind_some]
    cases o1 with
    | nx s1 =>
      obtain ⟨ρ2, rfl, h3⟩ := h3
      exact forL_forT hb xs s1 o ρ2 h3 ht
    | rt v =>
      cases ht
      have h3 : r = .rt (enc v) := h3
      subst h3
      exact ⟨_, rfl, rfl⟩
theorem w_forR (R : σ → Rho → Prop) {f : α → σ → Option (TO σ τ)} {xs : List α} {s : σ} {o : TO σ τ} (hit : it ρ = some (xs.map enc)) (h0 : R s ρ) (ht : forT f xs s = some o) (hb : ∀ a s o ρ, f a s = some o → R s ρ → ∃ ρ1, g (enc a) ρ = some ρ1 ∧ Wp (b ρ1) (ToR R o)) (hq : ∀ s' ρ', o = .nx s' → R s' ρ' → Q (.nx ρ')) (hr : ∀ v, o = .rt v → Q (.rt (enc v))) : Wp (forF it g b ρ) Q := by
  obtain ⟨r, e, h⟩ := forL_forT hb xs s o ρ h0 ht
  refine ⟨r, by unfold forF; rw [hit]; exact e, ?_⟩
  cases o with
  | nx s' => obtain ⟨ρ', rfl, h⟩ := h; exact hq s' ρ' rfl h
  | rt v => have h : r = .rt (enc v) := h; subst h; exact hr v rfl
theorem whileN_whileT {c : BF} {cc : σ → Option Bool} {bb : σ → Option σ} (hc : ∀ s k ρ, cc s = some k → R s ρ → c ρ = some k) (hb : ∀ s s' ρ, bb s = some s' → R s ρ → Wp (b ρ) (To R s')) : ∀ (n : Nat) (s s' : σ) (ρ : Rho), R s ρ → whileT cc bb n s = some s' → ∃ ρ', whileN c b n ρ = some (.nx ρ') ∧ R s' ρ'
  | 0, _, _, _, _, ht => by cases ht
  | n + 1, s, s', ρ, h0, ht => by
    unfold whileT at ht
    obtain ⟨k, e1, ht⟩ := bindS ht
    unfold whileN
    rw [hc s k ρ e1 h0, Option.bind_some]
    cases k with
    | true =>
      rw [if_pos rfl] at ht ⊢
      obtain ⟨s1, e2, ht⟩ := bindS ht
      obtain ⟨r, h2, ρ2, rfl, h3⟩ := hb s s1 ρ e2 h0
      rw [h2, Option.bind_some]
      exact whileN_whileT hc hb n s1 s' ρ2 h3 ht
    | false =>
      rw [if_neg (by decide)] at ht ⊢
      cases ht
      exact ⟨ρ, rfl, h0⟩
theorem w_while (R : σ → Rho → Prop) {c : BF} {fuel : Rho → Nat} {n : Nat} {cc : σ → Option Bool} {bb : σ → Option σ} {s s' : σ} (hn : fuel ρ = n) (h0 : R s ρ) (ht : whileT cc bb n s = some s') (hc : ∀ s k ρ, cc s = some k → R s ρ → c ρ = some k) (hb : ∀ s s' ρ, bb s = some s' → R s ρ → Wp (b ρ) (To R s')) (hq : ∀ ρ', R s' ρ' → Q (.nx ρ')) : Wp (whileF fuel c b ρ) Q := by
  obtain ⟨ρ', e, h⟩ := whileN_whileT hc hb n s s' ρ h0 ht
  exact ⟨_, by unfold whileF; rw [hn]; exact e, hq ρ' h⟩
end
theorem fn_of {own : Bool} {n : Nat} {b : SF} {ds : List D} {d : D} (h : Wp (b (startR n ds)) fun r => r = .rt d) : bodyFn own n b ds = some d := by
  obtain ⟨r, e, rfl⟩ := h
  unfold bodyFn
  rw [e]; rfl
theorem fuel_list {α : Type} [Enc α] {ρ : Rho} {i : Nat} {xs : List α} (h : getv ρ i = some (enc xs)) : lenAt ρ i = xs.length := by
  have h : getv ρ i = some (.list (xs.map enc)) := h
  unfold lenAt; rw [h]
  exact List.length_map _
end TS

namespace Ty
open TL
noncomputable def T__law_cell_at (v_script : List Int) (v_k : Int) : Option Int :=
if (decide (v_k < (v_script.length : Int))) = true then ((getT v_script v_k).bind fun m2 =>
some m2) else
some 0
noncomputable def TL1__law_block  (a : Int) (s : Int) : Option Int :=
(some ((s / 2147483587) : Int)).bind fun v_cell_8 =>
some v_cell_8
noncomputable def T__law_block (v_script : List Int) (v_k : Int) : Option Int :=
(some (0 : Int)).bind fun v_cell_1 =>
(if (decide ((1 + ((v_k / 8) % 62)) < (v_script.length : Int))) = true then (getT v_script ((1 + ((v_k / 8) % 62)))).bind fun m5 =>
(some ((m5 / 10000000000000000000000000000000000000000000000000000000000000000) : Int)).bind fun v_cell_6 =>
some v_cell_6 else some v_cell_1).bind fun s4 =>
(rng1T ((v_k % 8))).bind fun m7 =>
(foldT TL1__law_block m7 s4).bind fun o9 =>
some o9
noncomputable def T__law_mixed (v_script : List Int) (v_k : Int) : Option Int :=
(some (0 : Int)).bind fun v_cell_1 =>
(if (decide (0 < (v_script.length : Int))) = true then (getT v_script 0).bind fun m5 =>
some m5 else some v_cell_1).bind fun s4 =>
(if (decide (((s4 / 1000000) % 2) = 1)) = true then (T__law_block v_script v_k).bind fun m6 => some ((!decide (m6 = 0))) else some false).bind fun m7 =>
if m7 = true then ((T__law_block v_script v_k).bind fun m10 =>
some ((m10 % 2147483587))) else
(if (decide (0 < (v_script.length : Int))) = true then (modT v_k ((min2 63 ((v_script.length : Int))))).bind fun m14 =>
(getT v_script m14).bind fun m15 =>
some m15 else some s4).bind fun s13 =>
(some (((s13 % 1000000000000000000) + (48271 * (v_k + 1))) : Int)).bind fun v_number_16 =>
(mulT v_number_16 v_number_16).bind fun m17 =>
(some (((m17 % 2147483629) + (69621 * v_k)) : Int)).bind fun v_number_18 =>
(mulT v_number_18 v_number_18).bind fun m19 =>
some ((m19 % 2147483587))
noncomputable def TL1__law_points (k0_script : List Int) (k2_way_here : Int) (a : Int) (s : (List (Int × Int))) : Option (List (Int × Int)) :=
(T__law_mixed k0_script a).bind fun m5 =>
(some ((((m5 % 7) - 3), (((m5 / 7) % 7) - 3)) : Int × Int)).bind fun v_point_6 =>
(if (decide (k2_way_here = 1)) = true then (some ((((m5 % 2001) - 1000), (((m5 / 2001) % 2001) - 1000)) : Int × Int)).bind fun v_point_10 =>
some v_point_10 else some v_point_6).bind fun s9 =>
(if (decide (k2_way_here = 2)) = true then (some (((m5 % 3), ((m5 / 3) % 3)) : Int × Int)).bind fun v_point_14 =>
some v_point_14 else some s9).bind fun s13 =>
(if (decide (k2_way_here = 3)) = true then (T__law_cell_at k0_script a).bind fun m18 =>
(some ((((m18 % (2 * 1000000000000000000000000000000)) - 1000000000000000000000000000000), (m5 - 1000000000)) : Int × Int)).bind fun v_point_19 =>
some v_point_19 else some s13).bind fun s17 =>
(appT s s17).bind fun m20 =>
some m20
noncomputable def T__law_points (v_script : List Int) (v_many : Int) : Option (List (Int × Int)) :=
(T__law_cell_at v_script 0).bind fun m1 =>
(some ((m1 % 4) : Int)).bind fun v_way_here_2 =>
(some ([] : List (Int × Int))).bind fun v_found_3 =>
(rng1T v_many).bind fun m4 =>
(foldT (TL1__law_points v_script v_way_here_2) m4 v_found_3).bind fun o21 =>
(getT o21 0).bind fun m22 =>
(getT o21 ((-2))).bind fun m23 =>
(putT o21 ((-2)) (((m22.1 + 1), (m22.2 + (m23.2 % 2))))).bind fun m24 =>
(getT m24 ((-1))).bind fun m25 =>
(getT m24 ((-1))).bind fun m26 =>
(putT m24 ((-1)) (((m22.1 - (m25.1 % 2)), ((m22.2 + 1) + (m26.2 % 3))))).bind fun m27 =>
some m27
noncomputable def T_bend (v_one : Int × Int) (v_two : Int × Int) (v_three : Int × Int) : Option Int :=
(mulT ((v_two.1 - v_one.1)) ((v_three.2 - v_one.2))).bind fun m1 =>
(mulT ((v_two.2 - v_one.2)) ((v_three.1 - v_one.1))).bind fun m2 =>
some ((m1 - m2))
noncomputable def TL2_chainc (k1_point : Int × Int) (s : (List (Int × Int))) : Option Bool :=
(if (decide (1 < (s.length : Int))) = true then (getT s ((-2))).bind fun m2 => (getT s ((-1))).bind fun m3 => (T_bend m2 m3 k1_point).bind fun m4 => some ((decide (m4 ≤ 0))) else some false).bind fun m5 => some m5
noncomputable def TL2_chain (k1_point : Int × Int) (s : (List (Int × Int))) : Option (List (Int × Int)) :=
(popT s).bind fun m7 =>
some m7
noncomputable def TL1_chain  (a : Int × Int) (s : (List (Int × Int))) : Option (List (Int × Int)) :=
(whileT (TL2_chainc a) (TL2_chain a) (s.length + 1) s).bind fun o8 =>
(appT o8 a).bind fun m9 =>
some m9
noncomputable def T_chain (v_points : List (Int × Int)) : Option (List (Int × Int)) :=
(some ([] : List (Int × Int))).bind fun v_found_1 =>
(foldT TL1_chain v_points v_found_1).bind fun o10 =>
some o10
noncomputable def T_shape_of (v_points : List (Int × Int)) : Option (List ((Int × Int) × (Int × Int))) :=
(ssetT v_points).bind fun m1 =>
(T_chain m1).bind fun m2 =>
(T_chain m1.reverse).bind fun m3 =>
(catT m2.dropLast m3.dropLast).bind fun m4 =>
if (decide ((m4.length : Int) < 3)) = true then (none) else
(compT (fun x6 => some (((x6.1, 1), (x6.2, 1)))) m4).bind fun m9 =>
some m9
noncomputable def T__law_whole (v_found : Int) : Option Bool :=
some ((true && (!false)))
noncomputable def T__law_is_fraction (v_found : Int × Int) : Option Bool :=
(if (!true) = true then some true else (if (!decide ((2 : Int) = 2)) = true then some true else (T__law_whole v_found.1).bind fun m1 => (if (!m1) = true then some true else (T__law_whole v_found.2).bind fun m2 => some ((!m2))).bind fun m3 => some m3).bind fun m5 => some m5).bind fun m7 =>
if m7 = true then (some false) else
(if (decide (0 < v_found.2)) = true then (divisorT v_found.1 v_found.2).bind fun m10 => some ((decide (m10 = 1))) else some false).bind fun m11 =>
some m11
noncomputable def T__law_flat (v_spot : (Int × Int) × (Int × Int)) : Option (P3 Int Int Int) :=
(mulT v_spot.1.1 v_spot.2.2).bind fun m1 =>
(mulT v_spot.2.1 v_spot.1.2).bind fun m2 =>
(mulT v_spot.1.2 v_spot.2.2).bind fun m3 =>
some ((P3.mk m1 m2 m3))
noncomputable def T__law_before (v_one : P3 Int Int Int) (v_other : P3 Int Int Int) : Option Bool :=
(mulT v_one.a v_other.c).bind fun m1 =>
(mulT v_other.a v_one.c).bind fun m2 =>
if (!decide (m1 = m2)) = true then ((mulT v_one.a v_other.c).bind fun m4 =>
(mulT v_other.a v_one.c).bind fun m5 =>
some ((decide (m4 < m5)))) else
(mulT v_one.b v_other.c).bind fun m6 =>
(mulT v_other.b v_one.c).bind fun m7 =>
some ((decide (m6 < m7)))
noncomputable def T__law_way (v_one : P3 Int Int Int) (v_two : P3 Int Int Int) (v_three : P3 Int Int Int) : Option Int :=
(mulT v_two.b v_three.c).bind fun m1 =>
(mulT v_three.b v_two.c).bind fun m2 =>
(mulT v_one.a ((m1 - m2))).bind fun m3 =>
(mulT v_two.a v_three.c).bind fun m4 =>
(mulT v_three.a v_two.c).bind fun m5 =>
(mulT v_one.b ((m4 - m5))).bind fun m6 =>
(some ((m3 - m6) : Int)).bind fun v_found_7 =>
(mulT v_two.a v_three.b).bind fun m8 =>
(mulT v_three.a v_two.b).bind fun m9 =>
(mulT v_one.c ((m8 - m9))).bind fun m10 =>
some ((v_found_7 + m10))
noncomputable def TL1__law_is_shape  (a : (Int × Int) × (Int × Int)) (s : Unit) : Option (TO Unit Bool) :=
if ((!true) || (!decide ((2 : Int) = 2))) = true then (some (.rt false)) else
(T__law_is_fraction a.1).bind fun m3 =>
(if (!m3) = true then some true else (T__law_is_fraction a.2).bind fun m4 => some ((!m4))).bind fun m5 =>
if m5 = true then (some (.rt false)) else
some (.nx ())
noncomputable def TL2__law_is_shape (k1_corners : List (P3 Int Int Int)) (a : Int) (s : Unit) : Option (TO Unit Bool) :=
(getT k1_corners 0).bind fun m16 =>
(getT k1_corners a).bind fun m17 =>
(T__law_before m16 m17).bind fun m18 =>
if (!m18) = true then (some (.rt false)) else
some (.nx ())
noncomputable def TL4__law_is_shape (k1_corners : List (P3 Int Int Int)) (k2_k : Int) (a : P3 Int Int Int) (s : Unit) : Option (TO Unit Bool) :=
(getT k1_corners k2_k).bind fun m23 =>
(if (!decide (a = m23)) = true then (getT k1_corners ((k2_k - 1))).bind fun m24 => some ((!decide (a = m24))) else some false).bind fun m25 =>
if m25 = true then ((getT k1_corners ((k2_k - 1))).bind fun m28 =>
(getT k1_corners k2_k).bind fun m29 =>
(T__law_way m28 m29 a).bind fun m30 =>
if (decide (m30 ≤ 0)) = true then (some (.rt false)) else
some (.nx ())) else
some (.nx ())
noncomputable def TL3__law_is_shape (k1_corners : List (P3 Int Int Int)) (a : Int) (s : Unit) : Option (TO Unit Bool) :=
(forT (TL4__law_is_shape k1_corners a) k1_corners ()).bind fun o32 => match o32 with
| .rt r34 => some (.rt r34)
| .nx s33 =>
some (.nx ())
noncomputable def T__law_is_shape (v_found : List ((Int × Int) × (Int × Int))) : Option Bool :=
if ((!true) || (decide ((v_found.length : Int) < 3))) = true then (some false) else
(forT TL1__law_is_shape v_found ()).bind fun o8 => match o8 with
| .rt r39 => some r39
| .nx s9 =>
(compT (fun x10 => (T__law_flat x10).bind fun m11 => some m11) v_found).bind fun m14 =>
(rng2T 1 ((m14.length : Int))).bind fun m15 =>
(forT (TL2__law_is_shape m14) m15 ()).bind fun o20 => match o20 with
| .rt r38 => some r38
| .nx s21 =>
(rng1T ((m14.length : Int))).bind fun m22 =>
(forT (TL3__law_is_shape m14) m22 ()).bind fun o35 => match o35 with
| .rt r37 => some r37
| .nx s36 =>
some true
noncomputable def TL1__law_right (k1_points_here : List (Int × Int)) (a : (Int × Int) × (Int × Int)) (s : Unit) : Option (TO Unit Bool) :=
if ((!decide (a.1.2 = 1)) || ((!decide (a.2.2 = 1)) || (!decide ((a.1.1, a.2.1) ∈ k1_points_here)))) = true then (some (.rt false)) else
some (.nx ())
noncomputable def TL3__law_right (k2_x : Int) (k3_y : Int) (k4_corners : List (P3 Int Int Int)) (a : Int) (s : Unit) : Option (TO Unit Bool) :=
(getT k4_corners ((a - 1))).bind fun m12 =>
(getT k4_corners a).bind fun m13 =>
(T__law_way m12 m13 ((P3.mk k2_x k3_y 1))).bind fun m14 =>
if (decide (m14 < 0)) = true then (some (.rt false)) else
some (.nx ())
noncomputable def TL2__law_right (k2_corners : List (P3 Int Int Int)) (a : Int × Int) (s : Unit) : Option (TO Unit Bool) :=
(rng1T ((k2_corners.length : Int))).bind fun m11 =>
(forT (TL3__law_right a.1 a.2 k2_corners) m11 ()).bind fun o16 => match o16 with
| .rt r18 => some (.rt r18)
| .nx s17 =>
some (.nx ())
noncomputable def T__law_right (v_found : List ((Int × Int) × (Int × Int))) (v_points_here : List (Int × Int)) : Option Bool :=
(T__law_is_shape v_found).bind fun m1 =>
if (!m1) = true then (some false) else
(forT (TL1__law_right v_points_here) v_found ()).bind fun o4 => match o4 with
| .rt r22 => some r22
| .nx s5 =>
(compT (fun x6 => (T__law_flat x6).bind fun m7 => some m7) v_found).bind fun m10 =>
(forT (TL2__law_right m10) v_points_here ()).bind fun o19 => match o19 with
| .rt r21 => some r21
| .nx s20 =>
some true
noncomputable def T_law (v_script : List Int) : Option Bool :=
(T__law_points v_script ((max2 3 ((min2 40 ((v_script.length : Int))))))).bind fun m1 =>
(T_shape_of m1).bind fun m2 =>
(T__law_right m2 m1).bind fun m3 =>
if ((!m3) || (!decide (m1 = m1))) = true then (some false) else
(T_shape_of m1).bind fun m5 =>
(T__law_right m5 m1).bind fun m6 =>
some ((m6 && (decide (m1 = m1))))
noncomputable def TL1__law_points_k13 (k0_script : List Int) (k1_start : Int) (k3_way : Int) (a : Int) (s : (List (Int × Int))) : Option (List (Int × Int)) :=
(T__law_mixed k0_script (((k1_start + 2) + a))).bind fun m7 =>
(some ((((m7 % 7) - 3), (((m7 / 7) % 7) - 3)) : Int × Int)).bind fun v_point_8 =>
(if (decide (k3_way = 1)) = true then (some ((((m7 % 2001) - 1000), (((m7 / 2001) % 2001) - 1000)) : Int × Int)).bind fun v_point_12 =>
some v_point_12 else some v_point_8).bind fun s11 =>
(if (decide (k3_way = 2)) = true then (some (((m7 % 3), ((m7 / 3) % 3)) : Int × Int)).bind fun v_point_16 =>
some v_point_16 else some s11).bind fun s15 =>
(appT s s15).bind fun m17 =>
some m17
noncomputable def T__law_points_k13 (v_script : List Int) (v_start : Int) (v_most : Int) : Option (List (Int × Int)) :=
(T__law_mixed v_script v_start).bind fun m1 =>
(some ((m1 % 4) : Int)).bind fun v_way_2 =>
(some ([] : List (Int × Int))).bind fun v_found_3 =>
(T__law_mixed v_script ((v_start + 1))).bind fun m4 =>
(modT m4 ((v_most - 2))).bind fun m5 =>
(rng1T ((3 + m5))).bind fun m6 =>
(foldT (TL1__law_points_k13 v_script v_start v_way_2) m6 v_found_3).bind fun o18 =>
(getT o18 0).bind fun m19 =>
(getT o18 ((-2))).bind fun m20 =>
(putT o18 ((-2)) (((m19.1 + 1), (m19.2 + (m20.2 % 2))))).bind fun m21 =>
(getT m21 ((-1))).bind fun m22 =>
(getT m21 ((-1))).bind fun m23 =>
(putT m21 ((-1)) (((m19.1 - (m22.1 % 2)), ((m19.2 + 1) + (m23.2 % 3))))).bind fun m24 =>
some m24
noncomputable def T__law_turn (v_one : Int × Int) (v_two : Int × Int) (v_three : Int × Int) : Option Int :=
(mulT ((v_two.1 - v_one.1)) ((v_three.2 - v_one.2))).bind fun m1 =>
(mulT ((v_two.2 - v_one.2)) ((v_three.1 - v_one.1))).bind fun m2 =>
some ((m1 - m2))
noncomputable def TL3__law_ringc (k3_point : Int × Int) (s : (List (Int × Int))) : Option Bool :=
(if (decide (1 < (s.length : Int))) = true then (getT s ((-2))).bind fun m5 => (getT s ((-1))).bind fun m6 => (T__law_turn m5 m6 k3_point).bind fun m7 => some ((decide (m7 ≤ 0))) else some false).bind fun m8 => some m8
noncomputable def TL3__law_ring (k3_point : Int × Int) (s : (List (Int × Int))) : Option (List (Int × Int)) :=
(popT s).bind fun m10 =>
some m10
noncomputable def TL2__law_ring  (a : Int × Int) (s : (List (Int × Int))) : Option (List (Int × Int)) :=
(whileT (TL3__law_ringc a) (TL3__law_ring a) (s.length + 1) s).bind fun o11 =>
(appT o11 a).bind fun m12 =>
some m12
noncomputable def TL1__law_ring  (a : List (Int × Int)) (s : (List (Int × Int))) : Option (List (Int × Int)) :=
(some ([] : List (Int × Int))).bind fun v_part_4 =>
(foldT TL2__law_ring a v_part_4).bind fun o13 =>
(catT s o13.dropLast).bind fun m14 =>
some m14
noncomputable def T__law_ring (v_points_here : List (Int × Int)) : Option (List (Int × Int)) :=
(some ([] : List (Int × Int))).bind fun v_found_1 =>
(ssetT v_points_here).bind fun m2 =>
(ssetT v_points_here).bind fun m3 =>
(foldT TL1__law_ring ([m2, m3.reverse]) v_found_1).bind fun o15 =>
some o15
noncomputable def T__law_shape (v_script : List Int) (v_start : Int) (v_most : Int) : Option (List ((Int × Int) × (Int × Int))) :=
(T__law_points_k13 v_script v_start v_most).bind fun m1 =>
(T__law_ring m1).bind fun m2 =>
(T__law_mixed v_script ((v_start + 1))).bind fun m3 =>
(T__law_cell_at v_script v_start).bind fun m4 =>
(getT ([1, (1 + ((m3 / 64) % 9)), (1 + (m4 % 1000000000))]) (((m3 / 16) % 3))).bind fun m5 =>
(T__law_cell_at v_script ((v_start + 1))).bind fun m6 =>
(getT ([1, (1 + (m6 % 1000000000))]) (((m3 / 1024) % 2))).bind fun m7 =>
(T__law_cell_at v_script ((v_start + 2))).bind fun m8 =>
(getT ([0, ((m8 % (2 * 1000000000000000000)) - 1000000000000000000)]) (((m3 / 2048) % 2))).bind fun m9 =>
(compT (fun x10 => (mulT x10.1 m7).bind fun m11 => (ratioT ((m11 + m9)) m5).bind fun m12 => (mulT x10.2 m7).bind fun m13 => (ratioT ((m13 - (2 * m9))) m5).bind fun m14 => some ((m12, m14))) m2).bind fun m17 =>
some m17
noncomputable def T_flat (v_spot : (Int × Int) × (Int × Int)) : Option (P3 Int Int Int) :=
(mulT v_spot.1.1 v_spot.2.2).bind fun m1 =>
(mulT v_spot.2.1 v_spot.1.2).bind fun m2 =>
(mulT v_spot.1.2 v_spot.2.2).bind fun m3 =>
some ((P3.mk m1 m2 m3))
noncomputable def T_side_of (v_one : (Int × Int) × (Int × Int)) (v_other : (Int × Int) × (Int × Int)) : Option (P3 Int Int Int) :=
(T_flat v_one).bind fun m1 =>
(T_flat v_other).bind fun m2 =>
(mulT m1.b m2.c).bind fun m3 =>
(mulT m2.b m1.c).bind fun m4 =>
(some ((m3 - m4) : Int)).bind fun v_a_5 =>
(mulT m2.a m1.c).bind fun m6 =>
(mulT m1.a m2.c).bind fun m7 =>
(some ((m6 - m7) : Int)).bind fun v_b_8 =>
(mulT m1.b m2.a).bind fun m9 =>
(mulT m1.a m2.b).bind fun m10 =>
(some ((m9 - m10) : Int)).bind fun v_c_11 =>
(divisorT v_a_5 v_b_8).bind fun m12 =>
(divisorT m12 v_c_11).bind fun m13 =>
(divT v_a_5 m13).bind fun m14 =>
(divT v_b_8 m13).bind fun m15 =>
(divT v_c_11 m13).bind fun m16 =>
some ((P3.mk m14 m15 m16))
noncomputable def T_sides_of (v_shape : List ((Int × Int) × (Int × Int))) : Option (List (P3 Int Int Int)) :=
(rng1T ((v_shape.length : Int))).bind fun m1 =>
(compT (fun x2 => (getT v_shape x2).bind fun m3 => (modT ((x2 + 1)) ((v_shape.length : Int))).bind fun m4 => (getT v_shape m4).bind fun m5 => (T_side_of m3 m5).bind fun m6 => some m6) m1).bind fun m9 =>
some m9
noncomputable def TL2__law_right_k13 (k1_shape_here : List ((Int × Int) × (Int × Int))) (k2_k : Int) (k3_a : Int) (k4_b : Int) (k5_c : Int) (a : Int) (s : Unit) : Option (TO Unit Bool) :=
(getT k1_shape_here a).bind fun m21 =>
(T__law_flat m21).bind fun m22 =>
(mulT k3_a m22.a).bind fun m23 =>
(mulT k4_b m22.b).bind fun m24 =>
(mulT k5_c m22.c).bind fun m25 =>
(some (((m23 + m24) - m25) : Int)).bind fun v_height_26 =>
(if (decide (a = k2_k)) = true then some true else (modT ((k2_k + 1)) ((k1_shape_here.length : Int))).bind fun m27 => some ((decide (a = m27)))).bind fun m28 =>
if m28 = true then (if (!decide (v_height_26 = 0)) = true then (some (.rt false)) else
some (.nx ())) else
if (decide (v_height_26 ≤ 0)) = true then (some (.rt false)) else
some (.nx ())
noncomputable def TL1__law_right_k13 (k0_found : List (P3 Int Int Int)) (k1_shape_here : List ((Int × Int) × (Int × Int))) (a : Int) (s : Unit) : Option (TO Unit Bool) :=
(getT k0_found a).bind fun m3 =>
(if (!true) = true then some true else (getT k0_found a).bind fun m4 => some ((!decide ((3 : Int) = 3)))).bind fun m5 =>
if m5 = true then (some (.rt false)) else
(getT k0_found a).bind fun m8 =>
(T__law_whole m8.a).bind fun m9 =>
(if (!m9) = true then some true else (T__law_whole m8.b).bind fun m10 => (if (!m10) = true then some true else (T__law_whole m8.c).bind fun m11 => some ((!m11))).bind fun m12 => some m12).bind fun m14 =>
if m14 = true then (some (.rt false)) else
(divisorT m8.a m8.b).bind fun m17 =>
(divisorT m17 m8.c).bind fun m18 =>
if (!decide (m18 = 1)) = true then (some (.rt false)) else
(rng1T ((k1_shape_here.length : Int))).bind fun m20 =>
(forT (TL2__law_right_k13 k1_shape_here a m8.a m8.b m8.c) m20 ()).bind fun o33 => match o33 with
| .rt r35 => some (.rt r35)
| .nx s34 =>
some (.nx ())
noncomputable def T__law_right_k13 (v_found : List (P3 Int Int Int)) (v_shape_here : List ((Int × Int) × (Int × Int))) : Option Bool :=
if ((!true) || (!decide ((v_found.length : Int) = (v_shape_here.length : Int)))) = true then (some false) else
(rng1T ((v_shape_here.length : Int))).bind fun m2 =>
(forT (TL1__law_right_k13 v_found v_shape_here) m2 ()).bind fun o36 => match o36 with
| .rt r38 => some r38
| .nx s37 =>
some true
noncomputable def T_law_k13 (v_script : List Int) : Option Bool :=
(T__law_shape v_script 1 12).bind fun m1 =>
(T_sides_of m1).bind fun m2 =>
(T__law_right_k13 m2 m1).bind fun m3 =>
if ((!m3) || (!decide (m1 = m1))) = true then (some false) else
(T_sides_of m1).bind fun m5 =>
(T__law_right_k13 m5 m1).bind fun m6 =>
some ((m6 && (decide (m1 = m1))))
noncomputable def TL2__law_mean (k2_total : Int) (k4_at : Int) (a : ((Int × Int) × (Int × Int)) × Int) (s : Int × Int) : Option (Int × Int) :=
(divT s.2 k2_total).bind fun m5 =>
(getP a.1 k4_at).bind fun m6 =>
(mulT s.1 m6.2).bind fun m7 =>
(getP a.1 k4_at).bind fun m8 =>
(mulT a.2 m8.1).bind fun m9 =>
(mulT m9 m5).bind fun m10 =>
(some ((m7 + m10) : Int)).bind fun v_top_11 =>
(getP a.1 k4_at).bind fun m12 =>
(mulT s.2 m12.2).bind fun m13 =>
some (v_top_11, m13)
noncomputable def TL1__law_mean (k0_spots : List ((Int × Int) × (Int × Int))) (k1_weights : List Int) (k2_total : Int) (a : Int) (s : (List (Int × Int))) : Option (List (Int × Int)) :=
(some (0 : Int)).bind fun v_top_4 =>
(foldT (TL2__law_mean k2_total a) ((List.zip k0_spots k1_weights)) (v_top_4, k2_total)).bind fun o14 =>
(ratioT o14.1 o14.2).bind fun m15 =>
(appT s m15).bind fun m16 =>
some m16
noncomputable def T__law_mean (v_spots : List ((Int × Int) × (Int × Int))) (v_weights : List Int) : Option ((Int × Int) × (Int × Int)) :=
(some ((List.sum v_weights) : Int)).bind fun v_total_1 =>
(some ([] : List (Int × Int))).bind fun v_found_2 =>
(rng1T 2).bind fun m3 =>
(foldT (TL1__law_mean v_spots v_weights v_total_1) m3 v_found_2).bind fun o17 =>
(getT o17 0).bind fun m18 =>
(getT o17 1).bind fun m19 =>
some ((m18, m19))
noncomputable def T__law_spot (v_script : List Int) (v_shape_here : List ((Int × Int) × (Int × Int))) (v_k : Int) : Option ((Int × Int) × (Int × Int)) :=
(T__law_mixed v_script ((100 + v_k))).bind fun m1 =>
(T__law_mixed v_script ((200 + v_k))).bind fun m2 =>
if (decide ((m1 % 4) = 0)) = true then ((ratioT ((((m1 / 4) % 41) - 20)) ((1 + (m2 % 5)))).bind fun m4 =>
(ratioT ((((m2 / 5) % 41) - 20)) ((1 + (m1 % 3)))).bind fun m5 =>
some ((m4, m5))) else
(modT ((m1 / 4)) ((v_shape_here.length : Int))).bind fun m6 =>
if (decide ((m1 % 4) = 1)) = true then ((getT v_shape_here m6).bind fun m8 =>
(getT v_shape_here ((m6 - 1))).bind fun m9 =>
(T__law_mean ([m8, m9]) ([(2 + (m2 % 4)), (((m2 / 4) % 7) - 1)])).bind fun m10 =>
some m10) else
(getT v_shape_here m6).bind fun m11 =>
(modT ((m1 / 64)) ((v_shape_here.length : Int))).bind fun m12 =>
(getT v_shape_here m12).bind fun m13 =>
(modT ((m1 / 1024)) ((v_shape_here.length : Int))).bind fun m14 =>
(getT v_shape_here m14).bind fun m15 =>
(some ([m11, m13, m15] : List ((Int × Int) × (Int × Int)))).bind fun v_spots_16 =>
(some ([((m2 % 7) - 1), (((m2 / 7) % 7) - 1), (((m2 / 49) % 7) - 1)] : List Int)).bind fun v_weights_17 =>
(if (decide ((List.sum v_weights_17) = 0)) = true then (getT v_weights_17 0).bind fun m21 =>
(putT v_weights_17 0 ((m21 + 1))).bind fun m22 =>
some m22 else some v_weights_17).bind fun s20 =>
(T__law_mean v_spots_16 s20).bind fun m23 =>
some m23
noncomputable def TL1_lies (k2_x : Int) (k3_y : Int) (k4_bottom : Int) (a : P3 Int Int Int) (s : Int) : Option (TO Int Int) :=
(mulT a.a k2_x).bind fun m4 =>
(mulT a.b k3_y).bind fun m5 =>
(mulT a.c k4_bottom).bind fun m6 =>
(some (((m4 + m5) - m6) : Int)).bind fun v_height_7 =>
if (decide (v_height_7 < 0)) = true then (some (.rt ((-1)))) else
if (decide (v_height_7 = 0)) = true then ((some (0 : Int)).bind fun v_found_10 =>
some (.nx v_found_10)) else
some (.nx s)
noncomputable def T_lies (v_shape : List ((Int × Int) × (Int × Int))) (v_spot : (Int × Int) × (Int × Int)) : Option Int :=
(T_flat v_spot).bind fun m1 =>
(some (1 : Int)).bind fun v_found_2 =>
(T_sides_of v_shape).bind fun m3 =>
(forT (TL1_lies m1.a m1.b m1.c) m3 v_found_2).bind fun o11 => match o11 with
| .rt r13 => some r13
| .nx s12 =>
some s12
noncomputable def T__law_due (v_shape_here : List ((Int × Int) × (Int × Int))) (v_spot_here : (Int × Int) × (Int × Int)) : Option Int :=
(T__law_flat v_spot_here).bind fun m1 =>
(compT (fun x2 => (T__law_flat x2).bind fun m3 => some m3) v_shape_here).bind fun m6 =>
(rng1T ((m6.length : Int))).bind fun m7 =>
(compT (fun x8 => (getT m6 ((x8 - 1))).bind fun m9 => (getT m6 x8).bind fun m10 => (T__law_way m9 m10 m1).bind fun m11 => some m11) m7).bind fun m14 =>
(leastI m14).bind fun m15 =>
(leastI m14).bind fun m16 =>
some (((bintT ((decide (0 < m15)))) - (bintT ((decide (m16 < 0))))))
noncomputable def TL1_law_k14 (k0_script : List Int) (k1_shape_here : List ((Int × Int) × (Int × Int))) (k2_handed : List ((Int × Int) × (Int × Int))) (a : Int) (s : Unit) : Option (TO Unit Bool) :=
(T__law_spot k0_script k1_shape_here a).bind fun m3 =>
(T_lies k2_handed m3).bind fun m4 =>
(T__law_whole m4).bind fun m5 =>
(if (!m5) = true then some true else (T__law_due k1_shape_here m3).bind fun m6 => some (((!decide (m4 = m6)) || (!decide (k2_handed = k1_shape_here))))).bind fun m7 =>
if m7 = true then (some (.rt false)) else
some (.nx ())
noncomputable def T_law_k14 (v_script : List Int) : Option Bool :=
(T__law_shape v_script 1 8).bind fun m1 =>
(rng1T ((max2 1 ((min2 24 ((v_script.length : Int))))))).bind fun m2 =>
(forT (TL1_law_k14 v_script m1 m1) m2 ()).bind fun o10 => match o10 with
| .rt r12 => some r12
| .nx s11 =>
some true
noncomputable def T_times (v_one : Int × Int) (v_other : Int × Int) : Option (Int × Int) :=
(mulT v_one.1 v_other.1).bind fun m1 =>
(mulT v_one.2 v_other.2).bind fun m2 =>
(ratioT m1 m2).bind fun m3 =>
some m3
noncomputable def T_minus (v_one : Int × Int) (v_other : Int × Int) : Option (Int × Int) :=
(mulT v_one.1 v_other.2).bind fun m1 =>
(mulT v_other.1 v_one.2).bind fun m2 =>
(mulT v_one.2 v_other.2).bind fun m3 =>
(ratioT ((m1 - m2)) m3).bind fun m4 =>
some m4
noncomputable def T_plus (v_one : Int × Int) (v_other : Int × Int) : Option (Int × Int) :=
(mulT v_one.1 v_other.2).bind fun m1 =>
(mulT v_other.1 v_one.2).bind fun m2 =>
(mulT v_one.2 v_other.2).bind fun m3 =>
(ratioT ((m1 + m2)) m3).bind fun m4 =>
some m4
noncomputable def TL1_doubled (k0_shape : List ((Int × Int) × (Int × Int))) (a : Int) (s : (Int × Int)) : Option (Int × Int) :=
(getT k0_shape ((a - 1))).bind fun m3 =>
(getT k0_shape a).bind fun m4 =>
(T_times m3.1 m4.2).bind fun m5 =>
(T_times m3.2 m4.1).bind fun m6 =>
(T_minus m5 m6).bind fun m7 =>
(T_plus s m7).bind fun m8 =>
some m8
noncomputable def T_doubled (v_shape : List ((Int × Int) × (Int × Int))) : Option (Int × Int) :=
(some ((0, 1) : Int × Int)).bind fun v_total_1 =>
(rng1T ((v_shape.length : Int))).bind fun m2 =>
(foldT (TL1_doubled v_shape) m2 v_total_1).bind fun o9 =>
some o9
noncomputable def TL1__law_area (k1_corners : List (P3 Int Int Int)) (a : Int) (s : Int × Int) : Option (Int × Int) :=
(getT k1_corners 0).bind fun m9 =>
(getT k1_corners ((a - 1))).bind fun m10 =>
(getT k1_corners a).bind fun m11 =>
(T__law_way m9 m10 m11).bind fun m12 =>
(getT k1_corners 0).bind fun m13 =>
(getT k1_corners ((a - 1))).bind fun m14 =>
(mulT m13.c m14.c).bind fun m15 =>
(getT k1_corners a).bind fun m16 =>
(mulT m15 m16.c).bind fun m17 =>
(mulT s.1 m17).bind fun m18 =>
(mulT m12 s.2).bind fun m19 =>
(some ((m18 + m19) : Int)).bind fun v_top_20 =>
(mulT s.2 m17).bind fun m21 =>
some (v_top_20, m21)
noncomputable def T__law_area (v_shape_here : List ((Int × Int) × (Int × Int))) : Option (Int × Int) :=
(compT (fun x1 => (T__law_flat x1).bind fun m2 => some m2) v_shape_here).bind fun m5 =>
(some (0 : Int)).bind fun v_top_6 =>
(some (1 : Int)).bind fun v_bottom_7 =>
(rng2T 2 ((m5.length : Int))).bind fun m8 =>
(foldT (TL1__law_area m5) m8 (v_top_6, v_bottom_7)).bind fun o22 =>
(ratioT o22.1 o22.2).bind fun m23 =>
some m23
noncomputable def T__law_two (v_script : List Int) (v_k : Int) : Option (List Int) :=
(T__law_cell_at v_script v_k).bind fun m1 =>
(T__law_mixed v_script ((60 + v_k))).bind fun m2 =>
(some ([((m2 % 19) - 9), (((m2 / 19) % 19) - 9)] : List Int)).bind fun v_two_here_3 =>
(if (decide (((m2 / 361) % 3) = 1)) = true then (some ([((m1 % (2 * 1000000000000000000000000000000)) - 1000000000000000000000000000000), (m2 - 1000000000)] : List Int)).bind fun v_two_here_7 =>
some v_two_here_7 else some v_two_here_3).bind fun s6 =>
(if (decide (s6 = [0, 0])) = true then (putT s6 (((m2 / 1083) % 2)) ((1 - (2 * ((m2 / 2166) % 2))))).bind fun m11 =>
some m11 else some s6).bind fun s10 =>
some s10
noncomputable def T_below (v_one : Int × Int) (v_other : Int × Int) : Option Bool :=
(mulT v_one.1 v_other.2).bind fun m1 =>
(mulT v_other.1 v_one.2).bind fun m2 =>
some ((decide (m1 < m2)))
noncomputable def TL1_reach (k1_a : Int) (k2_b : Int) (a : (Int × Int) × (Int × Int)) (s : (Option (Int × Int))) : Option (Option (Int × Int)) :=
(T_flat a).bind fun m2 =>
(mulT k1_a m2.a).bind fun m3 =>
(mulT k2_b m2.b).bind fun m4 =>
(ratioT ((m3 + m4)) m2.c).bind fun m5 =>
(if s.isNone = true then some true else (s).bind fun m6 => (T_below m6 m5).bind fun m7 => some m7).bind fun m8 =>
if m8 = true then ((some ((some m5) : Option (Int × Int))).bind fun v_found_11 =>
some v_found_11) else
some s
noncomputable def T_reach (v_shape : List ((Int × Int) × (Int × Int))) (v_a : Int) (v_b : Int) : Option (Int × Int) :=
(some (none : Option (Int × Int))).bind fun v_found_1 =>
(foldT (TL1_reach v_a v_b) v_shape v_found_1).bind fun o12 =>
(o12).bind fun m13 =>
some m13
noncomputable def TL1__law_reached (k2_a : Int) (k3_b : Int) (a : (Int × Int) × (Int × Int)) (s : (List (Int × Int))) : Option (List (Int × Int)) :=
(T__law_flat a).bind fun m4 =>
(mulT k2_a m4.a).bind fun m5 =>
(mulT k3_b m4.b).bind fun m6 =>
(ratioT ((m5 + m6)) m4.c).bind fun m7 =>
(appT s m7).bind fun m8 =>
some m8
noncomputable def TL2__law_reached (k0_found : Int × Int) (a : Int × Int) (s : Unit) : Option (TO Unit Bool) :=
(mulT a.1 k0_found.2).bind fun m10 =>
(mulT k0_found.1 a.2).bind fun m11 =>
if (decide (m11 < m10)) = true then (some (.rt false)) else
some (.nx ())
noncomputable def T__law_reached (v_found : Int × Int) (v_shape_here : List ((Int × Int) × (Int × Int))) (v_a : Int) (v_b : Int) : Option Bool :=
(T__law_is_fraction v_found).bind fun m1 =>
if (!m1) = true then (some false) else
(some ([] : List (Int × Int))).bind fun v_heights_3 =>
(foldT (TL1__law_reached v_a v_b) v_shape_here v_heights_3).bind fun o9 =>
(forT (TL2__law_reached v_found) o9 ()).bind fun o13 => match o13 with
| .rt r15 => some r15
| .nx s14 =>
some ((decide (v_found ∈ o9)))
noncomputable def TL1_law_k15 (k0_script : List Int) (k1_shape_here : List ((Int × Int) × (Int × Int))) (k2_handed : List ((Int × Int) × (Int × Int))) (a : Int) (s : Unit) : Option (TO Unit Bool) :=
(T__law_two k0_script a).bind fun m9 =>
(un2 m9).bind fun m10 =>
(T_reach k2_handed m10.1 m10.2).bind fun m11 =>
(T__law_reached m11 k1_shape_here m10.1 m10.2).bind fun m12 =>
if ((!m12) || (!decide (k2_handed = k1_shape_here))) = true then (some (.rt false)) else
some (.nx ())
noncomputable def T_law_k15 (v_script : List Int) : Option Bool :=
(T__law_shape v_script 1 12).bind fun m1 =>
(T_doubled m1).bind fun m2 =>
(T__law_is_fraction m2).bind fun m3 =>
(if (!m3) = true then some true else (T__law_area m1).bind fun m4 => some (((!decide (m2 = m4)) || (!decide (m1 = m1))))).bind fun m5 =>
if m5 = true then (some false) else
(rng1T ((max2 1 ((min2 20 ((v_script.length : Int))))))).bind fun m8 =>
(forT (TL1_law_k15 v_script m1 m1) m8 ()).bind fun o14 => match o14 with
| .rt r16 => some r16
| .nx s15 =>
some true
noncomputable def T__law_push (v_script : List Int) (v_k : Int) : Option ((Int × Int) × (Int × Int)) :=
(T__law_mixed v_script v_k).bind fun m1 =>
(T__law_cell_at v_script v_k).bind fun m2 =>
(ratioT (((m1 % 41) - 20)) ((1 + ((m1 / 41) % 9)))).bind fun m3 =>
(getT ([1, (1 + (m2 % 1000000000))]) ((m1 % 2))).bind fun m4 =>
(ratioT (((m2 % (2 * 1000000000000000000000000000000)) - 1000000000000000000000000000000)) m4).bind fun m5 =>
(getT ([(m3, m5), (m5, m3), (m3, m3)]) (((m1 / 369) % 3))).bind fun m6 =>
some m6
noncomputable def T__law_added (v_one : Int × Int) (v_other : Int × Int) : Option (Int × Int) :=
(mulT v_one.1 v_other.2).bind fun m1 =>
(mulT v_other.1 v_one.2).bind fun m2 =>
(mulT v_one.2 v_other.2).bind fun m3 =>
(ratioT ((m1 + m2)) m3).bind fun m4 =>
some m4
noncomputable def T__law_times (v_one : Int × Int) (v_other : Int × Int) : Option (Int × Int) :=
(mulT v_one.1 v_other.1).bind fun m1 =>
(mulT v_one.2 v_other.2).bind fun m2 =>
(ratioT m1 m2).bind fun m3 =>
some m3
noncomputable def T_pushed (v_shape : List ((Int × Int) × (Int × Int))) (v_push : (Int × Int) × (Int × Int)) : Option (List ((Int × Int) × (Int × Int))) :=
(compT (fun x1 => (T_plus x1.1 v_push.1).bind fun m2 => (T_plus x1.2 v_push.2).bind fun m3 => some ((m2, m3))) v_shape).bind fun m6 =>
some m6
noncomputable def T__law_right_k16 (v_found : List ((Int × Int) × (Int × Int))) (v_due : List ((Int × Int) × (Int × Int))) (v_shape_here : List ((Int × Int) × (Int × Int))) (v_handed : List ((Int × Int) × (Int × Int))) : Option Bool :=
(T__law_is_shape v_found).bind fun m1 =>
if ((!m1) || ((!decide (v_found = v_due)) || (!decide (v_handed = v_shape_here)))) = true then (some false) else
(appT v_found (((0, 1), (0, 1)))).bind fun m3 =>
some ((decide (v_handed = v_shape_here)))
noncomputable def T_sized (v_shape : List ((Int × Int) × (Int × Int))) (v_factor : Int × Int) : Option (List ((Int × Int) × (Int × Int))) :=
if (decide (v_factor.1 ≤ 0)) = true then (none) else
(compT (fun x2 => (T_times x2.1 v_factor).bind fun m3 => (T_times x2.2 v_factor).bind fun m4 => some ((m3, m4))) v_shape).bind fun m7 =>
some m7
noncomputable def T_comes_ahead (v_one : (Int × Int) × (Int × Int)) (v_other : (Int × Int) × (Int × Int)) : Option Bool :=
(T_flat v_one).bind fun m1 =>
(T_flat v_other).bind fun m2 =>
(mulT m1.a m2.c).bind fun m3 =>
(mulT m2.a m1.c).bind fun m4 =>
if (!decide (m3 = m4)) = true then ((mulT m1.a m2.c).bind fun m6 =>
(mulT m2.a m1.c).bind fun m7 =>
some ((decide (m6 < m7)))) else
(mulT m1.b m2.c).bind fun m8 =>
(mulT m2.b m1.c).bind fun m9 =>
some ((decide (m8 < m9)))
noncomputable def TL1_turned (k1_ring : List ((Int × Int) × (Int × Int))) (a : Int) (s : Int) : Option Int :=
(getT k1_ring a).bind fun m9 =>
(getT k1_ring s).bind fun m10 =>
(T_comes_ahead m9 m10).bind fun m11 =>
if m11 = true then (some a) else
some s
noncomputable def T_turned (v_shape : List ((Int × Int) × (Int × Int))) : Option (List ((Int × Int) × (Int × Int))) :=
(compT (fun x1 => (T_minus ((0, 1)) x1.1).bind fun m2 => (T_minus ((0, 1)) x1.2).bind fun m3 => some ((m2, m3))) v_shape).bind fun m6 =>
(some (0 : Int)).bind fun v_start_7 =>
(rng1T ((m6.length : Int))).bind fun m8 =>
(foldT (TL1_turned m6) m8 v_start_7).bind fun o13 =>
(dropT m6 o13).bind fun m14 =>
(takeT m6 o13).bind fun m15 =>
(catT m14 m15).bind fun m16 =>
some m16
noncomputable def TL1__law_half_turn (k1_ring_here : List ((Int × Int) × (Int × Int))) (a : Int) (s : Unit) : Option (TO Unit (List ((Int × Int) × (Int × Int)))) :=
(compFT (fun x6 => (getT k1_ring_here a).bind fun m7 => (if (!decide (x6 = m7)) = true then (getT k1_ring_here a).bind fun m8 => (T__law_flat m8).bind fun m9 => (T__law_flat x6).bind fun m10 => (T__law_before m9 m10).bind fun m11 => some ((!m11)) else some false).bind fun m12 => some m12) (fun x6 => some x6) k1_ring_here).bind fun m16 =>
if (decide (m16 = [])) = true then ((dropT k1_ring_here a).bind fun m20 =>
(takeT k1_ring_here a).bind fun m21 =>
(catT m20 m21).bind fun m22 =>
some (.rt m22)) else
some (.nx ())
noncomputable def T__law_half_turn (v_shape_here : List ((Int × Int) × (Int × Int))) : Option (List ((Int × Int) × (Int × Int))) :=
(compT (fun x1 => some ((((0 - x1.1.1), x1.1.2), ((0 - x1.2.1), x1.2.2)))) v_shape_here).bind fun m4 =>
(rng1T ((m4.length : Int))).bind fun m5 =>
(forT (TL1__law_half_turn m4) m5 ()).bind fun o23 => match o23 with
| .rt r25 => some r25
| .nx s24 =>
some ([])
noncomputable def T_law_k16 (v_script : List Int) : Option Bool :=
(T__law_shape v_script 1 12).bind fun m1 =>
(T__law_push v_script 50).bind fun m2 =>
(T__law_mixed v_script 51).bind fun m3 =>
(ratioT ((1 + (m3 % 20))) ((1 + ((m3 / 20) % 20)))).bind fun m4 =>
(if (decide (((m3 / 400) % 3) = 1)) = true then (T__law_cell_at v_script 5).bind fun m8 =>
(T__law_cell_at v_script 6).bind fun m9 =>
(ratioT ((1 + (m8 % 1000000000000000000000000000000))) ((1 + (m9 % 1000000000)))).bind fun m10 =>
some m10 else some m4).bind fun s7 =>
(compT (fun x11 => (T__law_added x11.1 m2.1).bind fun m12 => (T__law_added x11.2 m2.2).bind fun m13 => some ((m12, m13))) m1).bind fun m16 =>
(compT (fun x17 => (T__law_times x17.1 s7).bind fun m18 => (T__law_times x17.2 s7).bind fun m19 => some ((m18, m19))) m1).bind fun m22 =>
(T_pushed m1 m2).bind fun m23 =>
(T__law_right_k16 m23 m16 m1 m1).bind fun m24 =>
if (!m24) = true then (some false) else
(T_sized m1 s7).bind fun m26 =>
(T__law_right_k16 m26 m22 m1 m1).bind fun m27 =>
if (!m27) = true then (some false) else
(T_turned m1).bind fun m29 =>
(T__law_half_turn m1).bind fun m30 =>
(T__law_right_k16 m29 m30 m1 m1).bind fun m31 =>
if (!m31) = true then (some false) else
(T_turned m1).bind fun m33 =>
(T_turned m33).bind fun m34 =>
(if (decide (m34 = m1)) = true then (T_sized m1 s7).bind fun m35 => (T_sized m35 ((s7.2, s7.1))).bind fun m36 => some ((decide (m36 = m1))) else some false).bind fun m37 =>
some m37
noncomputable def TL1_ways_of (k0_shape : List ((Int × Int) × (Int × Int))) (a : Int) (s : (List ((Int × Int) × (Int × Int)))) : Option (List ((Int × Int) × (Int × Int))) :=
(getT k0_shape a).bind fun m3 =>
(modT ((a + 1)) ((k0_shape.length : Int))).bind fun m4 =>
(getT k0_shape m4).bind fun m5 =>
(T_minus m5.1 m3.1).bind fun m6 =>
(T_minus m5.2 m3.2).bind fun m7 =>
(appT s ((m6, m7))).bind fun m8 =>
some m8
noncomputable def T_ways_of (v_shape : List ((Int × Int) × (Int × Int))) : Option (List ((Int × Int) × (Int × Int))) :=
(some ([] : List ((Int × Int) × (Int × Int)))).bind fun v_found_1 =>
(rng1T ((v_shape.length : Int))).bind fun m2 =>
(foldT (TL1_ways_of v_shape) m2 v_found_1).bind fun o9 =>
some o9
noncomputable def T_to_left (v_one : (Int × Int) × (Int × Int)) (v_other : (Int × Int) × (Int × Int)) : Option Int :=
(T_flat v_one).bind fun m1 =>
(T_flat v_other).bind fun m2 =>
(mulT m1.a m2.b).bind fun m3 =>
(mulT m1.b m2.a).bind fun m4 =>
some ((m3 - m4))
noncomputable def TL1_mergedc (k0_ones : List ((Int × Int) × (Int × Int))) (k1_others : List ((Int × Int) × (Int × Int))) (s : (List ((Int × Int) × (Int × Int))) × Int × Int) : Option Bool :=
some (((decide (s.2.1 < (k0_ones.length : Int))) || (decide (s.2.2 < (k1_others.length : Int)))))
noncomputable def TL1_merged (k0_ones : List ((Int × Int) × (Int × Int))) (k1_others : List ((Int × Int) × (Int × Int))) (s : (List ((Int × Int) × (Int × Int))) × Int × Int) : Option ((List ((Int × Int) × (Int × Int))) × Int × Int) :=
(some (0 : Int)).bind fun v_turn_4 =>
(if ((decide (s.2.1 < (k0_ones.length : Int))) && (decide (s.2.2 < (k1_others.length : Int)))) = true then (getT k0_ones s.2.1).bind fun m8 =>
(getT k1_others s.2.2).bind fun m9 =>
(T_to_left m8 m9).bind fun m10 =>
some m10 else some v_turn_4).bind fun s7 =>
(some (((0, 1), (0, 1)) : (Int × Int) × (Int × Int))).bind fun v_way_11 =>
(some (((decide (s.2.2 = (k1_others.length : Int))) || ((decide (s.2.1 < (k0_ones.length : Int))) && (decide (0 ≤ s7)))) : Bool)).bind fun v_first_12 =>
(some (((decide (s.2.1 = (k0_ones.length : Int))) || ((decide (s.2.2 < (k1_others.length : Int))) && (decide (s7 ≤ 0)))) : Bool)).bind fun v_second_13 =>
(if v_first_12 = true then (getT k0_ones s.2.1).bind fun m17 =>
(some ((s.2.1 + 1) : Int)).bind fun v_k_18 =>
some (v_k_18, m17) else some (s.2.1, v_way_11)).bind fun s16 =>
(if v_second_13 = true then (getT k1_others s.2.2).bind fun m22 =>
(T_plus s16.2.1 m22.1).bind fun m23 =>
(getT k1_others s.2.2).bind fun m24 =>
(T_plus s16.2.2 m24.2).bind fun m25 =>
(some ((m23, m25) : (Int × Int) × (Int × Int))).bind fun v_way_26 =>
(some ((s.2.2 + 1) : Int)).bind fun v_j_27 =>
some (v_j_27, v_way_26) else some (s.2.2, s16.2)).bind fun s21 =>
(appT s.1 s21.2).bind fun m28 =>
some (m28, s16.1, s21.1)
noncomputable def T_merged (v_ones : List ((Int × Int) × (Int × Int))) (v_others : List ((Int × Int) × (Int × Int))) : Option (List ((Int × Int) × (Int × Int))) :=
(some ([] : List ((Int × Int) × (Int × Int)))).bind fun v_found_1 =>
(some (0 : Int)).bind fun v_k_2 =>
(some (0 : Int)).bind fun v_j_3 =>
(whileT (TL1_mergedc v_ones v_others) (TL1_merged v_ones v_others) (v_ones.length + v_others.length + 1) (v_found_1, v_k_2, v_j_3)).bind fun o29 =>
some o29.1
noncomputable def TL1_summed  (a : (Int × Int) × (Int × Int)) (s : ((Int × Int) × (Int × Int)) × (List ((Int × Int) × (Int × Int)))) : Option (((Int × Int) × (Int × Int)) × (List ((Int × Int) × (Int × Int)))) :=
(appT s.2 s.1).bind fun m12 =>
(T_plus s.1.1 a.1).bind fun m13 =>
(T_plus s.1.2 a.2).bind fun m14 =>
(some ((m13, m14) : (Int × Int) × (Int × Int))).bind fun v_here_15 =>
some (v_here_15, m12)
noncomputable def T_summed (v_one : List ((Int × Int) × (Int × Int))) (v_other : List ((Int × Int) × (Int × Int))) : Option (List ((Int × Int) × (Int × Int))) :=
(getT v_one 0).bind fun m1 =>
(getT v_other 0).bind fun m2 =>
(T_plus m1.1 m2.1).bind fun m3 =>
(getT v_one 0).bind fun m4 =>
(getT v_other 0).bind fun m5 =>
(T_plus m4.2 m5.2).bind fun m6 =>
(some ((m3, m6) : (Int × Int) × (Int × Int))).bind fun v_here_7 =>
(some ([] : List ((Int × Int) × (Int × Int)))).bind fun v_found_8 =>
(T_ways_of v_one).bind fun m9 =>
(T_ways_of v_other).bind fun m10 =>
(T_merged m9 m10).bind fun m11 =>
(foldT TL1_summed m11 (v_here_7, v_found_8)).bind fun o16 =>
some o16.2
noncomputable def TL1__law_least (k1_a : Int) (k2_b : Int) (a : (Int × Int) × (Int × Int)) (s : (Option (Int × Int))) : Option (Option (Int × Int)) :=
(T__law_flat a).bind fun m2 =>
(mulT k1_a m2.a).bind fun m3 =>
(mulT k2_b m2.b).bind fun m4 =>
(ratioT ((m3 + m4)) m2.c).bind fun m5 =>
(if s.isNone = true then some true else (s).bind fun m6 => (mulT m5.1 m6.2).bind fun m7 => (s).bind fun m8 => (mulT m8.1 m5.2).bind fun m9 => some ((decide (m7 < m9)))).bind fun m10 =>
if m10 = true then ((some ((some m5) : Option (Int × Int))).bind fun v_found_13 =>
some v_found_13) else
some s
noncomputable def T__law_least (v_shape_here : List ((Int × Int) × (Int × Int))) (v_a : Int) (v_b : Int) : Option (Int × Int) :=
(some (none : Option (Int × Int))).bind fun v_found_1 =>
(foldT (TL1__law_least v_a v_b) v_shape_here v_found_1).bind fun o14 =>
(o14).bind fun m15 =>
some m15
noncomputable def TL1__law_sides_add (k0_found : List ((Int × Int) × (Int × Int))) (k1_one : List ((Int × Int) × (Int × Int))) (k2_other : List ((Int × Int) × (Int × Int))) (a : Int) (s : Unit) : Option (TO Unit Bool) :=
(getT k0_found ((a - 1))).bind fun m2 =>
(T__law_flat m2).bind fun m3 =>
(getT k0_found a).bind fun m4 =>
(T__law_flat m4).bind fun m5 =>
(mulT m3.b m5.c).bind fun m6 =>
(mulT m5.b m3.c).bind fun m7 =>
(some ((m6 - m7) : Int)).bind fun v_a_8 =>
(mulT m5.a m3.c).bind fun m9 =>
(mulT m3.a m5.c).bind fun m10 =>
(some ((m9 - m10) : Int)).bind fun v_b_11 =>
(mulT v_a_8 m5.a).bind fun m12 =>
(mulT v_b_11 m5.b).bind fun m13 =>
(ratioT ((m12 + m13)) m5.c).bind fun m14 =>
(T__law_least k1_one v_a_8 v_b_11).bind fun m15 =>
(T__law_least k2_other v_a_8 v_b_11).bind fun m16 =>
(T__law_added m15 m16).bind fun m17 =>
if (!decide (m14 = m17)) = true then (some (.rt false)) else
some (.nx ())
noncomputable def T__law_sides_add (v_found : List ((Int × Int) × (Int × Int))) (v_one : List ((Int × Int) × (Int × Int))) (v_other : List ((Int × Int) × (Int × Int))) : Option Bool :=
(rng1T ((v_found.length : Int))).bind fun m1 =>
(forT (TL1__law_sides_add v_found v_one v_other) m1 ()).bind fun o19 => match o19 with
| .rt r21 => some r21
| .nx s20 =>
some true
noncomputable def TL2__law_right_k18 (k3_x : Int × Int) (k4_y : Int × Int) (a : (Int × Int) × (Int × Int)) (s : (List ((Int × Int) × (Int × Int)))) : Option (List ((Int × Int) × (Int × Int))) :=
(T__law_added k3_x a.1).bind fun m4 =>
(T__law_added k4_y a.2).bind fun m5 =>
(appT s ((m4, m5))).bind fun m6 =>
some m6
noncomputable def TL1__law_right_k18 (k2_other : List ((Int × Int) × (Int × Int))) (a : (Int × Int) × (Int × Int)) (s : (List ((Int × Int) × (Int × Int)))) : Option (List ((Int × Int) × (Int × Int))) :=
(foldT (TL2__law_right_k18 a.1 a.2) k2_other s).bind fun o7 =>
some o7
noncomputable def T__law_right_k18 (v_found : List ((Int × Int) × (Int × Int))) (v_one : List ((Int × Int) × (Int × Int))) (v_other : List ((Int × Int) × (Int × Int))) : Option Bool :=
(T__law_is_shape v_found).bind fun m1 =>
if (!m1) = true then (some false) else
(some ([] : List ((Int × Int) × (Int × Int)))).bind fun v_sums_3 =>
(foldT (TL1__law_right_k18 v_other) v_one v_sums_3).bind fun o8 =>
(compFT (fun x9 => some ((!decide (x9 ∈ o8)))) (fun x9 => some x9) v_found).bind fun m12 =>
(if (decide (m12 = [])) = true then (T__law_sides_add v_found v_one v_other).bind fun m15 => some m15 else some false).bind fun m16 =>
some m16
noncomputable def T_law_k18 (v_script : List Int) : Option Bool :=
(T__law_shape v_script 1 6).bind fun m1 =>
(T__law_shape v_script 20 6).bind fun m2 =>
(T__law_cell_at v_script 0).bind fun m3 =>
(if (decide ((m3 % 8) = 1)) = true then some m1 else some m2).bind fun s6 =>
(T__law_cell_at v_script 0).bind fun m7 =>
(if (decide ((m7 % 8) = 3)) = true then (compFT (fun x11 => some (((decide (x11.1.2 = 1)) && (decide (x11.2.2 = 1))))) (fun x11 => some ((((3 - x11.1.1), 1), ((0 - x11.2.1), 1)))) m1).bind fun m14 =>
if (decide ((m14.length : Int) = (m1.length : Int))) = true then ((idxMinT m14).bind fun m18 =>
(dropT m14 m18).bind fun m19 =>
(takeT m14 m18).bind fun m20 =>
(catT m19 m20).bind fun m21 =>
some m21) else
some s6 else some s6).bind fun s10 =>
(some ([m1, s10] : List (List ((Int × Int) × (Int × Int))))).bind fun v_handed_22 =>
(getT v_handed_22 0).bind fun m23 =>
(getT v_handed_22 1).bind fun m24 =>
(T_summed m23 m24).bind fun m25 =>
(T__law_right_k18 m25 m1 s10).bind fun m26 =>
if ((!m26) || (!decide (v_handed_22 = [m1, s10]))) = true then (some false) else
(getT v_handed_22 0).bind fun m28 =>
(getT v_handed_22 1).bind fun m29 =>
(T_summed m28 m29).bind fun m30 =>
some (((decide (m30 = m25)) && (decide (v_handed_22 = [m1, s10]))))
noncomputable def T__law_led (v_one : List ((Int × Int) × (Int × Int))) (v_other : List ((Int × Int) × (Int × Int))) (v_push_here : (Int × Int) × (Int × Int)) (v_factor : Int × Int) : Option Bool :=
(T_summed v_one v_other).bind fun m1 =>
(T_summed v_other v_one).bind fun m2 =>
(if (!decide (m2 = m1)) = true then some true else (T_pushed v_one v_push_here).bind fun m3 => (T_summed m3 v_other).bind fun m4 => (T_pushed m1 v_push_here).bind fun m5 => some ((!decide (m4 = m5)))).bind fun m6 =>
if m6 = true then (some false) else
(T_sized v_one v_factor).bind fun m9 =>
(T_sized v_other v_factor).bind fun m10 =>
(T_summed m9 m10).bind fun m11 =>
(T_sized m1 v_factor).bind fun m12 =>
if (!decide (m11 = m12)) = true then (some false) else
(T_turned v_one).bind fun m14 =>
(T_turned v_other).bind fun m15 =>
(T_summed m14 m15).bind fun m16 =>
(T_turned m1).bind fun m17 =>
(if (decide (m16 = m17)) = true then (T_summed v_one v_one).bind fun m18 => (T_sized v_one ((2, 1))).bind fun m19 => some ((decide (m18 = m19))) else some false).bind fun m20 =>
some m20
noncomputable def T__law_gap (v_one : List ((Int × Int) × (Int × Int))) (v_other : List ((Int × Int) × (Int × Int))) : Option (Int × Int) :=
(T_summed v_one v_other).bind fun m1 =>
(T_doubled m1).bind fun m2 =>
(T_doubled v_one).bind fun m3 =>
(T_doubled v_other).bind fun m4 =>
(T_plus m3 m4).bind fun m5 =>
(T_minus m2 m5).bind fun m6 =>
(T_times m6 m6).bind fun m7 =>
(T_doubled v_one).bind fun m8 =>
(T_doubled v_other).bind fun m9 =>
(T_times m8 m9).bind fun m10 =>
(T_times ((4, 1)) m10).bind fun m11 =>
(T_minus m7 m11).bind fun m12 =>
some m12
noncomputable def T_law_k19 (v_script : List Int) : Option Bool :=
(T__law_shape v_script 1 4).bind fun m1 =>
(T__law_shape v_script 20 4).bind fun m2 =>
(T__law_shape v_script 40 4).bind fun m3 =>
(T__law_push v_script 50).bind fun m4 =>
(T__law_mixed v_script 51).bind fun m5 =>
(ratioT ((1 + (m5 % 20))) ((1 + ((m5 / 20) % 20)))).bind fun m6 =>
(T__law_led m1 m2 m4 m6).bind fun m7 =>
if (!m7) = true then (some false) else
(T_summed m1 m2).bind fun m9 =>
(T_summed m9 m3).bind fun m10 =>
(T_summed m2 m3).bind fun m11 =>
(T_summed m1 m11).bind fun m12 =>
if (!decide (m10 = m12)) = true then (some false) else
(some ((((m5 / 400) % 19) - 9) : Int)).bind fun v_a_14 =>
(some ((1 + ((m5 / 7600) % 9)) : Int)).bind fun v_b_15 =>
(T_summed m1 m3).bind fun m16 =>
(T_reach m16 v_a_14 v_b_15).bind fun m17 =>
(T_reach m1 v_a_14 v_b_15).bind fun m18 =>
(T_reach m3 v_a_14 v_b_15).bind fun m19 =>
(T_plus m18 m19).bind fun m20 =>
if (!decide (m17 = m20)) = true then (some false) else
(T__law_gap m1 m2).bind fun m22 =>
(T_below m22 ((0, 1))).bind fun m23 =>
if m23 = true then (some false) else
(T_sized m1 m6).bind fun m25 =>
(T_pushed m25 m4).bind fun m26 =>
(T__law_gap m1 m26).bind fun m27 =>
some ((decide (m27 = (0, 1))))
noncomputable def TL1__law_numbers (k0_script : List Int) (k1_many : Int) (a : Int) (s : (List Int)) : Option (List Int) :=
(some (0 : Int)).bind fun v_cell_7 =>
(if (decide (0 < (k0_script.length : Int))) = true then (modT a ((min2 ((k0_script.length : Int)) 63))).bind fun m11 =>
(getT k0_script m11).bind fun m12 =>
(some ((m12 % (1000000000000000000000000000000000000000000000000000000000000 + 7)) : Int)).bind fun v_cell_13 =>
some v_cell_13 else some v_cell_7).bind fun s10 =>
(modT a k1_many).bind fun m14 =>
(getT s m14).bind fun m15 =>
(mulT a a).bind fun m16 =>
(putT s m14 (((((m15 * 48271) + s10) + m16) % (1000000000000000000000000000000000000000000000000000000000000 + 7)))).bind fun m17 =>
some m17
noncomputable def T__law_numbers (v_script : List Int) (v_many : Int) : Option (List Int) :=
(rng1T v_many).bind fun m1 =>
(compT (fun x2 => some 0) m1).bind fun m5 =>
(rng1T ((max2 v_many ((min2 ((v_script.length : Int)) 63))))).bind fun m6 =>
(foldT (TL1__law_numbers v_script v_many) m6 m5).bind fun o18 =>
some o18
noncomputable def TL1__law_bows (k0_head : List Int) (a : Int) (s : (List Int)) : Option (List Int) :=
(getT s ((-1))).bind fun m7 =>
(getT k0_head 2).bind fun m8 =>
(divT m8 ((2 + (3 * a)))).bind fun m9 =>
(appT s (((m7 + 1) + (m9 % 3)))).bind fun m10 =>
some m10
noncomputable def TL2__law_bows (k0_head : List Int) (a : Int) (s : (List Int)) : Option (List Int) :=
(getT s ((-1))).bind fun m18 =>
(getT k0_head 4).bind fun m19 =>
(divT m19 ((1 + (3 * a)))).bind fun m20 =>
(appT s (((m18 + 1) + (m20 % 3)))).bind fun m21 =>
some m21
noncomputable def T__law_bows (v_head : List Int) : Option (List (Int × Int)) :=
(getT v_head 1).bind fun m1 =>
(some ([((m1 % 3) - 3)] : List Int)).bind fun v_lows_2 =>
(getT v_head 2).bind fun m3 =>
(getT v_head 3).bind fun m4 =>
(getT ([(1 + (m3 % 2)), 7]) ((((m4 / 16) % 8) / 7))).bind fun m5 =>
(rng1T m5).bind fun m6 =>
(foldT (TL1__law_bows v_head) m6 v_lows_2).bind fun o11 =>
(getT v_head 3).bind fun m12 =>
(some ([((m12 % 4) - 3)] : List Int)).bind fun v_highs_13 =>
(getT v_head 3).bind fun m14 =>
(getT v_head 3).bind fun m15 =>
(getT ([((m14 / 4) % 3), 6]) ((((m15 / 16) % 8) / 7))).bind fun m16 =>
(rng1T m16).bind fun m17 =>
(foldT (TL2__law_bows v_head) m17 v_highs_13).bind fun o22 =>
(catT o11 o22).bind fun m23 =>
(compT (fun x24 => (mulT x24 x24).bind fun m25 => some m25) m23).bind fun m28 =>
(mostI m28).bind fun m29 =>
(getT v_head 4).bind fun m30 =>
(some ((((2 * m29) + 1) + ((m30 / 32) % 9)) : Int)).bind fun v_top_31 =>
(compT (fun x32 => (mulT x32 x32).bind fun m33 => some ((x32, m33))) o11).bind fun m36 =>
(compT (fun x37 => (mulT x37 x37).bind fun m38 => some ((x37, (v_top_31 - m38)))) o22.reverse).bind fun m41 =>
(catT m36 m41).bind fun m42 =>
some m42
noncomputable def T__law_ring_k31 (v_head : List Int) : Option (List (Int × Int)) :=
(getT v_head 1).bind fun m1 =>
(getT v_head 2).bind fun m2 =>
(some (((1 + (m1 % 5)), ((m2 % 7) - 3)) : Int × Int)).bind fun v_u_3 =>
(getT v_head 3).bind fun m4 =>
(getT v_head 4).bind fun m5 =>
(some (((0 - (m4 % 4)), (1 + (m5 % 5))) : Int × Int)).bind fun v_v_6 =>
(mulT v_u_3.1 v_v_6.2).bind fun m7 =>
(mulT v_u_3.2 v_v_6.1).bind fun m8 =>
(if (decide (m7 ≤ m8)) = true then (some ((v_v_6.1, (v_v_6.2 + 10)) : Int × Int)).bind fun v_v_12 =>
some v_v_12 else some v_v_6).bind fun s11 =>
(some (((v_u_3.1 + s11.1), (v_u_3.2 + s11.2)) : Int × Int)).bind fun v_both_13 =>
(getT v_head 0).bind fun m14 =>
(some ((m14 % 5) : Int)).bind fun v_way_15 =>
if (decide (v_way_15 = 2)) = true then (some ([(0, 0), v_u_3, v_both_13, s11])) else
if (decide (v_way_15 = 3)) = true then (some ([(0, 0), v_u_3, s11])) else
if (decide (v_way_15 = 4)) = true then ((some (((v_u_3.1 + v_both_13.1), (v_u_3.2 + v_both_13.2)) : Int × Int)).bind fun v_far_19 =>
(some (((s11.1 + v_both_13.1), (s11.2 + v_both_13.2)) : Int × Int)).bind fun v_back_20 =>
some ([(0, 0), v_u_3, v_far_19, ((2 * v_both_13.1), (2 * v_both_13.2)), v_back_20, s11])) else
(T__law_bows v_head).bind fun m21 =>
some m21
noncomputable def TL1__law_shape_k31 (k0_head : List Int) (k2_by : Int) (k3_off : Int) (k4_share : Int) (a : Int × Int) (s : (List ((Int × Int) × (Int × Int)))) : Option (List ((Int × Int) × (Int × Int))) :=
(mulT a.1 k2_by).bind fun m15 =>
(getT k0_head 6).bind fun m16 =>
(modT m16 k3_off).bind fun m17 =>
(fractionT ((m15 + m17)) k4_share).bind fun m18 =>
(mulT a.2 k2_by).bind fun m19 =>
(getT k0_head 7).bind fun m20 =>
(modT m20 k3_off).bind fun m21 =>
(fractionT ((m19 + m21)) k4_share).bind fun m22 =>
(appT s ((m18, m22))).bind fun m23 =>
some m23
noncomputable def T__law_shape_k31 (v_head : List Int) : Option (List ((Int × Int) × (Int × Int))) :=
(T__law_ring_k31 v_head).bind fun m1 =>
(getT v_head 5).bind fun m2 =>
(getT v_head 0).bind fun m3 =>
(getT ([1, (1 + (m2 % 1000000000))]) (((m3 / 5) % 2))).bind fun m4 =>
(getT v_head 0).bind fun m5 =>
(getT ([10, 1000000000000000000]) (((m5 / 10) % 2))).bind fun m6 =>
(getT v_head 5).bind fun m7 =>
(getT v_head 0).bind fun m8 =>
(getT ([1, (1 + (m7 % 6))]) (((m8 / 20) % 2))).bind fun m9 =>
(idxMinT m1).bind fun m10 =>
(some ([] : List ((Int × Int) × (Int × Int)))).bind fun v_found_11 =>
(dropT m1 m10).bind fun m12 =>
(takeT m1 m10).bind fun m13 =>
(catT m12 m13).bind fun m14 =>
(foldT (TL1__law_shape_k31 v_head m4 m6 m9) m14 v_found_11).bind fun o24 =>
some o24
noncomputable def T__law_plus (v_one : Int × Int) (v_other : Int × Int) : Option (Int × Int) :=
(mulT v_one.1 v_other.2).bind fun m1 =>
(mulT v_other.1 v_one.2).bind fun m2 =>
(mulT v_one.2 v_other.2).bind fun m3 =>
(fractionT ((m1 + m2)) m3).bind fun m4 =>
some m4
noncomputable def T__law_times_k31 (v_one : Int × Int) (v_other : Int × Int) : Option (Int × Int) :=
(mulT v_one.1 v_other.1).bind fun m1 =>
(mulT v_one.2 v_other.2).bind fun m2 =>
(fractionT m1 m2).bind fun m3 =>
some m3
noncomputable def TL1__law_moved (k1_factor : Int × Int) (k2_push_here : (Int × Int) × (Int × Int)) (a : (Int × Int) × (Int × Int)) (s : (List ((Int × Int) × (Int × Int)))) : Option (List ((Int × Int) × (Int × Int))) :=
(T__law_times_k31 a.1 k1_factor).bind fun m2 =>
(T__law_plus m2 k2_push_here.1).bind fun m3 =>
(T__law_times_k31 a.2 k1_factor).bind fun m4 =>
(T__law_plus m4 k2_push_here.2).bind fun m5 =>
(appT s ((m3, m5))).bind fun m6 =>
some m6
noncomputable def T__law_moved (v_shape_here : List ((Int × Int) × (Int × Int))) (v_factor : Int × Int) (v_push_here : (Int × Int) × (Int × Int)) : Option (List ((Int × Int) × (Int × Int))) :=
(some ([] : List ((Int × Int) × (Int × Int)))).bind fun v_found_1 =>
(foldT (TL1__law_moved v_factor v_push_here) v_shape_here v_found_1).bind fun o7 =>
some o7
noncomputable def T__law_nearer (v_shape_here : List ((Int × Int) × (Int × Int))) (v_number : Int) : Option (List ((Int × Int) × (Int × Int))) :=
(modT v_number ((v_shape_here.length : Int))).bind fun m1 =>
(getT v_shape_here m1).bind fun m2 =>
(getT ([(1, 2), (2, 3), (1, 1)]) (((v_number / 7) % 3))).bind fun m3 =>
(T__law_plus ((1, 1)) (((0 - m3.1), m3.2))).bind fun m4 =>
(T__law_times_k31 m2.1 m4).bind fun m5 =>
(T__law_times_k31 m2.2 m4).bind fun m6 =>
(some ((m5, m6) : (Int × Int) × (Int × Int))).bind fun v_push_here_7 =>
(T__law_moved v_shape_here m3 v_push_here_7).bind fun m8 =>
some m8
noncomputable def TL1__law_digit (k0_base : Int) (a : Int) (s : Int) : Option Int :=
(divT s k0_base).bind fun m2 =>
some m2
noncomputable def T__law_digit (v_number : Int) (v_base : Int) (v_place : Int) : Option Int :=
(rng1T v_place).bind fun m1 =>
(foldT (TL1__law_digit v_base) m1 v_number).bind fun o3 =>
(modT o3 v_base).bind fun m4 =>
some m4
noncomputable def TL2__law_mean_k31 (k2_weights : List Int) (k3_weight : Int) (k4_spot : (Int × Int) × (Int × Int)) (a : Int) (s : (List (Int × Int))) : Option (List (Int × Int)) :=
(getT s a).bind fun m9 =>
(getP k4_spot a).bind fun m10 =>
(T__law_times_k31 ((k3_weight, (List.sum k2_weights))) m10).bind fun m11 =>
(T__law_plus m9 m11).bind fun m12 =>
(putT s a m12).bind fun m13 =>
some m13
noncomputable def TL1__law_mean_k31 (k2_weights : List Int) (a : Int × ((Int × Int) × (Int × Int))) (s : (List (Int × Int))) : Option (List (Int × Int)) :=
(rng1T 2).bind fun m8 =>
(foldT (TL2__law_mean_k31 k2_weights a.1 a.2) m8 s).bind fun o14 =>
some o14
noncomputable def T__law_mean_k31 (v_shape_here : List ((Int × Int) × (Int × Int))) (v_number : Int) : Option ((Int × Int) × (Int × Int)) :=
(rng1T ((v_shape_here.length : Int))).bind fun m1 =>
(compT (fun x2 => (T__law_digit v_number 5 x2).bind fun m3 => some ((1 + m3))) m1).bind fun m6 =>
(some ([(0, 1), (0, 1)] : List (Int × Int))).bind fun v_found_7 =>
(foldT (TL1__law_mean_k31 m6) ((List.zip m6 v_shape_here)) v_found_7).bind fun o15 =>
(getT o15 0).bind fun m16 =>
(getT o15 1).bind fun m17 =>
some ((m16, m17))
noncomputable def T_least_over (v_shape : List ((Int × Int) × (Int × Int))) (v_a : Int) (v_b : Int) : Option (Int × Int) :=
(T_reach v_shape ((0 - v_a)) ((0 - v_b))).bind fun m1 =>
some (((0 - m1.1), m1.2))
noncomputable def T_over_line (v_line : P3 Int Int Int) (v_spot : (Int × Int) × (Int × Int)) : Option Int :=
(mulT v_line.a v_spot.1.1).bind fun m1 =>
(mulT m1 v_spot.2.2).bind fun m2 =>
(mulT v_line.b v_spot.2.1).bind fun m3 =>
(mulT m3 v_spot.1.2).bind fun m4 =>
(mulT v_line.c v_spot.1.2).bind fun m5 =>
(mulT m5 v_spot.2.2).bind fun m6 =>
some (((m2 + m4) - m6))
noncomputable def TL1_meeting (k0_one : (Int × Int) × (Int × Int)) (k1_other : (Int × Int) × (Int × Int)) (k5_first : Int) (k6_second : Int) (a : Int) (s : (List (Int × Int))) : Option (List (Int × Int)) :=
(getP k1_other a).bind fun m10 =>
(mulT k5_first m10.1).bind fun m11 =>
(getP k0_one a).bind fun m12 =>
(mulT m11 m12.2).bind fun m13 =>
(getP k0_one a).bind fun m14 =>
(mulT k6_second m14.1).bind fun m15 =>
(getP k1_other a).bind fun m16 =>
(mulT m15 m16.2).bind fun m17 =>
(some ((m13 - m17) : Int)).bind fun v_top_18 =>
(getP k0_one a).bind fun m19 =>
(mulT ((k5_first - k6_second)) m19.2).bind fun m20 =>
(getP k1_other a).bind fun m21 =>
(mulT m20 m21.2).bind fun m22 =>
(ratioT v_top_18 m22).bind fun m23 =>
(appT s m23).bind fun m24 =>
some m24
noncomputable def T_meeting (v_one : (Int × Int) × (Int × Int)) (v_other : (Int × Int) × (Int × Int)) (v_here : Int) (v_there : Int) : Option ((Int × Int) × (Int × Int)) :=
(mulT v_one.1.2 v_one.2.2).bind fun m1 =>
(mulT v_other.1.2 v_other.2.2).bind fun m2 =>
(some ([m1, m2] : List Int)).bind fun v_share_3 =>
(getT v_share_3 1).bind fun m4 =>
(mulT v_here m4).bind fun m5 =>
(getT v_share_3 0).bind fun m6 =>
(mulT v_there m6).bind fun m7 =>
(some ([] : List (Int × Int))).bind fun v_found_8 =>
(rng1T 2).bind fun m9 =>
(foldT (TL1_meeting v_one v_other m5 m7) m9 v_found_8).bind fun o25 =>
(getT o25 0).bind fun m26 =>
(getT o25 1).bind fun m27 =>
some ((m26, m27))
noncomputable def TL1_turn  (a : (Int × Int) × (Int × Int)) (s : Int) : Option Int :=
(mulT s a.1.2).bind fun m2 =>
(mulT m2 a.2.2).bind fun m3 =>
some m3
noncomputable def T_turn (v_one : (Int × Int) × (Int × Int)) (v_two : (Int × Int) × (Int × Int)) (v_three : (Int × Int) × (Int × Int)) : Option Int :=
(some (1 : Int)).bind fun v_share_1 =>
(foldT TL1_turn ([v_one, v_two, v_three]) v_share_1).bind fun o4 =>
(compT (fun x5 => (divT o4 x5.1.2).bind fun m6 => (mulT x5.1.1 m6).bind fun m7 => some m7) ([v_one, v_two, v_three])).bind fun m10 =>
(compT (fun x11 => (divT o4 x11.2.2).bind fun m12 => (mulT x11.2.1 m12).bind fun m13 => some m13) ([v_one, v_two, v_three])).bind fun m16 =>
(getT m10 1).bind fun m17 =>
(getT m10 0).bind fun m18 =>
(getT m16 2).bind fun m19 =>
(getT m16 1).bind fun m20 =>
(mulT ((m17 - m18)) ((m19 - m20))).bind fun m21 =>
(getT m16 1).bind fun m22 =>
(getT m16 0).bind fun m23 =>
(getT m10 2).bind fun m24 =>
(getT m10 1).bind fun m25 =>
(mulT ((m22 - m23)) ((m24 - m25))).bind fun m26 =>
some ((m21 - m26))
noncomputable def TL1_least_place (k0_spots : List ((Int × Int) × (Int × Int))) (a : Int) (s : Int) : Option Int :=
(getT k0_spots a).bind fun m3 =>
(getT k0_spots s).bind fun m4 =>
(T_comes_ahead m3 m4).bind fun m5 =>
if m5 = true then (some a) else
some s
noncomputable def T_least_place (v_spots : List ((Int × Int) × (Int × Int))) : Option Int :=
(some (0 : Int)).bind fun v_found_1 =>
(rng1T ((v_spots.length : Int))).bind fun m2 =>
(foldT (TL1_least_place v_spots) m2 v_found_1).bind fun o7 =>
some o7
noncomputable def TL1_region_of (k1_apart : List ((Int × Int) × (Int × Int))) (a : Int) (s : Int) : Option Int :=
(getT k1_apart s).bind fun m30 =>
(getT k1_apart a).bind fun m31 =>
(T_comes_ahead m30 m31).bind fun m32 =>
if m32 = true then (some a) else
some s
noncomputable def T_region_of (v_ring : List ((Int × Int) × (Int × Int))) : Option (List ((Int × Int) × (Int × Int))) :=
(rng1T ((v_ring.length : Int))).bind fun m1 =>
(compFT (fun x2 => (getT v_ring x2).bind fun m3 => (getT v_ring ((x2 - 1))).bind fun m4 => some ((!decide (m3 = m4)))) (fun x2 => (getT v_ring x2).bind fun m5 => some m5) m1).bind fun m8 =>
(some ((m8.length : Int) : Int)).bind fun v_many_11 =>
if (decide (v_many_11 < 2)) = true then ((takeT v_ring 1).bind fun m13 =>
some m13) else
(rng1T v_many_11).bind fun m14 =>
(compFT (fun x15 => (getT m8 ((x15 - 1))).bind fun m16 => (getT m8 x15).bind fun m17 => (modT ((x15 + 1)) v_many_11).bind fun m18 => (getT m8 m18).bind fun m19 => (T_turn m16 m17 m19).bind fun m20 => some ((decide (0 < m20)))) (fun x15 => (getT m8 x15).bind fun m21 => some m21) m14).bind fun m24 =>
if (decide ((m24.length : Int) < 3)) = true then ((T_least_place m8).bind fun m28 =>
(rng1T v_many_11).bind fun m29 =>
(foldT (TL1_region_of m8) m29 m28).bind fun o34 =>
(getT m8 m28).bind fun m35 =>
(getT m8 o34).bind fun m36 =>
some ([m35, m36])) else
(T_least_place m24).bind fun m37 =>
(dropT m24 m37).bind fun m38 =>
(takeT m24 m37).bind fun m39 =>
(catT m38 m39).bind fun m40 =>
some m40
noncomputable def TL1_kept_over (k0_ring : List ((Int × Int) × (Int × Int))) (k2_values : List Int) (a : Int) (s : (List ((Int × Int) × (Int × Int)))) : Option (List ((Int × Int) × (Int × Int))) :=
(getT k2_values ((a - 1))).bind fun m8 =>
(getT k2_values a).bind fun m9 =>
(mulT m8 m9).bind fun m10 =>
(if (decide (m10 < 0)) = true then (getT k0_ring ((a - 1))).bind fun m14 =>
(getT k0_ring a).bind fun m15 =>
(getT k2_values ((a - 1))).bind fun m16 =>
(getT k2_values a).bind fun m17 =>
(T_meeting m14 m15 m16 m17).bind fun m18 =>
(appT s m18).bind fun m19 =>
some m19 else some s).bind fun s13 =>
(getT k2_values a).bind fun m20 =>
if (decide (0 ≤ m20)) = true then ((getT k0_ring a).bind fun m22 =>
(appT s13 m22).bind fun m23 =>
some m23) else
some s13
noncomputable def T_kept_over (v_ring : List ((Int × Int) × (Int × Int))) (v_line : P3 Int Int Int) : Option (List ((Int × Int) × (Int × Int))) :=
(compT (fun x1 => (T_over_line v_line x1).bind fun m2 => some m2) v_ring).bind fun m5 =>
(some ([] : List ((Int × Int) × (Int × Int)))).bind fun v_found_6 =>
(rng1T ((v_ring.length : Int))).bind fun m7 =>
(foldT (TL1_kept_over v_ring m5) m7 v_found_6).bind fun o24 =>
(T_region_of o24).bind fun m25 =>
some m25
noncomputable def TL1_pushes (k1_other : List ((Int × Int) × (Int × Int))) (a : P3 Int Int Int) (s : (List ((Int × Int) × (Int × Int)))) : Option (List ((Int × Int) × (Int × Int))) :=
(T_least_over k1_other a.a a.b).bind fun m4 =>
(mulT a.a m4.2).bind fun m5 =>
(mulT a.b m4.2).bind fun m6 =>
(mulT a.c m4.2).bind fun m7 =>
(T_kept_over s ((P3.mk m5 m6 ((m7 - m4.1))))).bind fun m8 =>
some m8
noncomputable def T_pushes (v_one : List ((Int × Int) × (Int × Int))) (v_other : List ((Int × Int) × (Int × Int))) : Option (List ((Int × Int) × (Int × Int))) :=
(getT v_other 0).bind fun m1 =>
(T_pushed v_one ((((0 - m1.1.1), m1.1.2), ((0 - m1.2.1), m1.2.2)))).bind fun m2 =>
(T_sides_of v_one).bind fun m3 =>
(foldT (TL1_pushes v_other) m3 m2).bind fun o9 =>
some o9
noncomputable def T__law_is_spot (v_found : (Int × Int) × (Int × Int)) : Option Bool :=
if ((!true) || (!decide ((2 : Int) = 2))) = true then (some false) else
(T__law_is_fraction v_found.1).bind fun m2 =>
(if m2 = true then (T__law_is_fraction v_found.2).bind fun m3 => some m3 else some false).bind fun m4 =>
some m4
noncomputable def T__law_less (v_one : Int × Int) (v_other : Int × Int) : Option Bool :=
(mulT v_one.1 v_other.2).bind fun m1 =>
(mulT v_other.1 v_one.2).bind fun m2 =>
some ((decide (m1 < m2)))
noncomputable def T__law_ahead (v_one : (Int × Int) × (Int × Int)) (v_other : (Int × Int) × (Int × Int)) : Option Bool :=
if (!decide (v_one.1 = v_other.1)) = true then ((T__law_less v_one.1 v_other.1).bind fun m2 =>
some m2) else
(T__law_less v_one.2 v_other.2).bind fun m3 =>
some m3
noncomputable def T__law_turn_k31 (v_one : (Int × Int) × (Int × Int)) (v_two : (Int × Int) × (Int × Int)) (v_three : (Int × Int) × (Int × Int)) : Option Int :=
(T__law_plus v_two.1 (((0 - v_one.1.1), v_one.1.2))).bind fun m1 =>
(T__law_plus v_two.2 (((0 - v_one.2.1), v_one.2.2))).bind fun m2 =>
(T__law_plus v_three.1 (((0 - v_one.1.1), v_one.1.2))).bind fun m3 =>
(T__law_plus v_three.2 (((0 - v_one.2.1), v_one.2.2))).bind fun m4 =>
(T__law_times_k31 m1 m4).bind fun m5 =>
(T__law_times_k31 m2 m3).bind fun m6 =>
(mulT m5.1 m6.2).bind fun m7 =>
(mulT m6.1 m5.2).bind fun m8 =>
some ((m7 - m8))
noncomputable def TL1__law_is_region (k0_found : List ((Int × Int) × (Int × Int))) (a : Int) (s : Int) : Option (TO Int Bool) :=
(getT k0_found a).bind fun m4 =>
(T__law_is_spot m4).bind fun m5 =>
(if (!m5) = true then some true else (if (decide (0 < a)) = true then (getT k0_found 0).bind fun m6 => (getT k0_found a).bind fun m7 => (T__law_ahead m6 m7).bind fun m8 => some ((!m8)) else some false).bind fun m9 => some m9).bind fun m11 =>
if m11 = true then (some (.rt false)) else
if (decide (2 < (k0_found.length : Int))) = true then ((getT k0_found ((a - 2))).bind fun m15 =>
(getT k0_found ((a - 1))).bind fun m16 =>
(getT k0_found a).bind fun m17 =>
(T__law_turn_k31 m15 m16 m17).bind fun m18 =>
if (decide (m18 ≤ 0)) = true then (some (.rt false)) else
(getT k0_found ((a - 1))).bind fun m20 =>
(getT k0_found ((a - 2))).bind fun m21 =>
(T__law_ahead m20 m21).bind fun m22 =>
(if m22 = true then (getT k0_found ((a - 1))).bind fun m23 => (getT k0_found a).bind fun m24 => (T__law_ahead m23 m24).bind fun m25 => some m25 else some false).bind fun m26 =>
if m26 = true then ((some ((s + 1) : Int)).bind fun v_falls_29 =>
some (.nx v_falls_29)) else
some (.nx s)) else
some (.nx s)
noncomputable def T__law_is_region (v_found : List ((Int × Int) × (Int × Int))) : Option Bool :=
if (!true) = true then (some false) else
(some (0 : Int)).bind fun v_falls_2 =>
(rng1T ((v_found.length : Int))).bind fun m3 =>
(forT (TL1__law_is_region v_found) m3 v_falls_2).bind fun o30 => match o30 with
| .rt r32 => some r32
| .nx s31 =>
some (((decide ((v_found.length : Int) < 3)) || (decide (s31 = 1))))
noncomputable def TL1__law_held (k0_shape_here : List ((Int × Int) × (Int × Int))) (k1_spot : (Int × Int) × (Int × Int)) (a : Int) (s : Unit) : Option (TO Unit Bool) :=
(getT k0_shape_here ((a - 1))).bind fun m2 =>
(getT k0_shape_here a).bind fun m3 =>
(T__law_turn_k31 m2 m3 k1_spot).bind fun m4 =>
if (decide (m4 < 0)) = true then (some (.rt false)) else
some (.nx ())
noncomputable def T__law_held (v_shape_here : List ((Int × Int) × (Int × Int))) (v_spot : (Int × Int) × (Int × Int)) : Option Bool :=
(rng1T ((v_shape_here.length : Int))).bind fun m1 =>
(forT (TL1__law_held v_shape_here v_spot) m1 ()).bind fun o6 => match o6 with
| .rt r8 => some r8
| .nx s7 =>
some true
noncomputable def TL1__law_fits (k0_one : List ((Int × Int) × (Int × Int))) (a : (Int × Int) × (Int × Int)) (s : Unit) : Option (TO Unit Bool) :=
(T__law_held k0_one a).bind fun m2 =>
if (!m2) = true then (some (.rt false)) else
some (.nx ())
noncomputable def T__law_fits (v_one : List ((Int × Int) × (Int × Int))) (v_other : List ((Int × Int) × (Int × Int))) (v_push_here : (Int × Int) × (Int × Int)) : Option Bool :=
(T__law_moved v_other ((1, 1)) v_push_here).bind fun m1 =>
(forT (TL1__law_fits v_one) m1 ()).bind fun o4 => match o4 with
| .rt r6 => some r6
| .nx s5 =>
some true
noncomputable def T__law_push_k31 (v_one : List ((Int × Int) × (Int × Int))) (v_other : List ((Int × Int) × (Int × Int))) (v_number : Int) : Option ((Int × Int) × (Int × Int)) :=
(T__law_mean_k31 v_one v_number).bind fun m1 =>
(T__law_mean_k31 v_other ((v_number / 3125))).bind fun m2 =>
(T__law_plus m1.1 (((0 - m2.1.1), m2.1.2))).bind fun m3 =>
(T__law_plus m1.2 (((0 - m2.2.1), m2.2.2))).bind fun m4 =>
some ((m3, m4))
noncomputable def T__law_in_region (v_found : List ((Int × Int) × (Int × Int))) (v_spot : (Int × Int) × (Int × Int)) : Option Bool :=
if (decide ((v_found.length : Int) < 2)) = true then (some ((decide (v_spot ∈ v_found)))) else
if (decide ((v_found.length : Int) = 2)) = true then ((getT v_found 0).bind fun m3 =>
(getT v_found 1).bind fun m4 =>
(T__law_turn_k31 m3 m4 v_spot).bind fun m5 =>
if (!decide (m5 = 0)) = true then (some false) else
(getT v_found 0).bind fun m7 =>
(T__law_ahead v_spot m7).bind fun m8 =>
(if (!m8) = true then (getT v_found 1).bind fun m9 => (T__law_ahead m9 v_spot).bind fun m10 => some ((!m10)) else some false).bind fun m11 =>
some m11) else
(T__law_held v_found v_spot).bind fun m13 =>
some m13
noncomputable def TL1_law_k31 (k2_one : List ((Int × Int) × (Int × Int))) (k3_other : List ((Int × Int) × (Int × Int))) (a : (Int × Int) × (Int × Int)) (s : Unit) : Option (TO Unit Bool) :=
(T__law_fits k2_one k3_other a).bind fun m38 =>
if (!m38) = true then (some (.rt false)) else
some (.nx ())
noncomputable def TL2_law_k31 (k2_one : List ((Int × Int) × (Int × Int))) (k3_other : List ((Int × Int) × (Int × Int))) (k5_found : List ((Int × Int) × (Int × Int))) (a : Int) (s : Unit) : Option (TO Unit Bool) :=
(T__law_push_k31 k2_one k3_other ((a % 1000000000000000000))).bind fun m45 =>
(T__law_fits k2_one k3_other m45).bind fun m46 =>
(T__law_in_region k5_found m45).bind fun m47 =>
if (!decide (m46 = m47)) = true then (some (.rt false)) else
some (.nx ())
noncomputable def T_law_k31 (v_script : List Int) : Option Bool :=
(T__law_numbers v_script 18).bind fun m1 =>
(T__law_shape_k31 m1).bind fun m2 =>
(dropT m1 8).bind fun m3 =>
(T__law_shape_k31 m3).bind fun m4 =>
(getT m1 16).bind fun m5 =>
(if (decide ((m5 % 3) = 1)) = true then (getT m1 16).bind fun m9 =>
(T__law_nearer m2 ((m9 / 3))).bind fun m10 =>
some m10 else some m4).bind fun s8 =>
(getT m1 16).bind fun m11 =>
(if ((decide ((m11 % 3) = 2)) && (decide ((m2.length : Int) = 4))) = true then (getT m2 0).bind fun m15 =>
(getT m2 1).bind fun m16 =>
(T__law_mean_k31 ([m15, m16]) 0).bind fun m17 =>
(getT m2 3).bind fun m18 =>
(getT m2 2).bind fun m19 =>
(T__law_mean_k31 ([m18, m19]) 0).bind fun m20 =>
(some ([m17, m20] : List ((Int × Int) × (Int × Int)))).bind fun v_half_21 =>
(getT m2 0).bind fun m22 =>
(getT v_half_21 0).bind fun m23 =>
(getT v_half_21 1).bind fun m24 =>
(getT m2 3).bind fun m25 =>
(some ([m22, m23, m24, m25] : List ((Int × Int) × (Int × Int)))).bind fun v_other_26 =>
some v_other_26 else some s8).bind fun s14 =>
(some ([m2, s14] : List (List ((Int × Int) × (Int × Int))))).bind fun v_handed_27 =>
(getT v_handed_27 0).bind fun m28 =>
(getT v_handed_27 1).bind fun m29 =>
(T_pushes m28 m29).bind fun m30 =>
(T__law_is_region m30).bind fun m31 =>
if ((!m31) || (!decide (v_handed_27 = [m2, s14]))) = true then (some false) else
(if (!decide (m30 = [])) = true then (T__law_mean_k31 m30 0).bind fun m36 =>
(appT m30 m36).bind fun m37 =>
some m37 else some m30).bind fun s35 =>
(forT (TL1_law_k31 m2 s14) s35 ()).bind fun o40 => match o40 with
| .rt r52 => some r52
| .nx s41 =>
(takeT v_script 5).bind fun m42 =>
(getT m1 17).bind fun m43 =>
(catT m42 ([m43])).bind fun m44 =>
(forT (TL2_law_k31 m2 s14 m30) m44 ()).bind fun o49 => match o49 with
| .rt r51 => some r51
| .nx s50 =>
some true
noncomputable def TL1__law_bows_k32 (k0_head : List Int) (a : Int) (s : (List Int)) : Option (List Int) :=
(getT s ((-1))).bind fun m5 =>
(getT k0_head 2).bind fun m6 =>
(divT m6 ((2 + (3 * a)))).bind fun m7 =>
(appT s (((m5 + 1) + (m7 % 3)))).bind fun m8 =>
some m8
noncomputable def TL2__law_bows_k32 (k0_head : List Int) (a : Int) (s : (List Int)) : Option (List Int) :=
(getT s ((-1))).bind fun m14 =>
(getT k0_head 4).bind fun m15 =>
(divT m15 ((1 + (3 * a)))).bind fun m16 =>
(appT s (((m14 + 1) + (m16 % 3)))).bind fun m17 =>
some m17
noncomputable def T__law_bows_k32 (v_head : List Int) : Option (List (Int × Int)) :=
(getT v_head 1).bind fun m1 =>
(some ([((m1 % 3) - 3)] : List Int)).bind fun v_lows_2 =>
(getT v_head 2).bind fun m3 =>
(rng1T ((1 + (m3 % 2)))).bind fun m4 =>
(foldT (TL1__law_bows_k32 v_head) m4 v_lows_2).bind fun o9 =>
(getT v_head 3).bind fun m10 =>
(some ([((m10 % 4) - 3)] : List Int)).bind fun v_highs_11 =>
(getT v_head 3).bind fun m12 =>
(rng1T (((m12 / 4) % 3))).bind fun m13 =>
(foldT (TL2__law_bows_k32 v_head) m13 v_highs_11).bind fun o18 =>
(catT o9 o18).bind fun m19 =>
(compT (fun x20 => (mulT x20 x20).bind fun m21 => some m21) m19).bind fun m24 =>
(mostI m24).bind fun m25 =>
(getT v_head 4).bind fun m26 =>
(some ((((2 * m25) + 1) + ((m26 / 32) % 9)) : Int)).bind fun v_top_27 =>
(compT (fun x28 => (mulT x28 x28).bind fun m29 => some ((x28, m29))) o9).bind fun m32 =>
(compT (fun x33 => (mulT x33 x33).bind fun m34 => some ((x33, (v_top_27 - m34)))) o18.reverse).bind fun m37 =>
(catT m32 m37).bind fun m38 =>
some m38
noncomputable def T__law_ring_k32 (v_head : List Int) : Option (List (Int × Int)) :=
(getT v_head 1).bind fun m1 =>
(getT v_head 2).bind fun m2 =>
(some (((1 + (m1 % 5)), ((m2 % 7) - 3)) : Int × Int)).bind fun v_u_3 =>
(getT v_head 3).bind fun m4 =>
(getT v_head 4).bind fun m5 =>
(some (((0 - (m4 % 4)), (1 + (m5 % 5))) : Int × Int)).bind fun v_v_6 =>
(mulT v_u_3.1 v_v_6.2).bind fun m7 =>
(mulT v_u_3.2 v_v_6.1).bind fun m8 =>
(if (decide (m7 ≤ m8)) = true then (some ((v_v_6.1, (v_v_6.2 + 10)) : Int × Int)).bind fun v_v_12 =>
some v_v_12 else some v_v_6).bind fun s11 =>
(some (((v_u_3.1 + s11.1), (v_u_3.2 + s11.2)) : Int × Int)).bind fun v_both_13 =>
(getT v_head 0).bind fun m14 =>
(some ((m14 % 5) : Int)).bind fun v_way_15 =>
if (decide (v_way_15 = 2)) = true then (some ([(0, 0), v_u_3, v_both_13, s11])) else
if (decide (v_way_15 = 3)) = true then (some ([(0, 0), v_u_3, s11])) else
if (decide (v_way_15 = 4)) = true then ((some (((v_u_3.1 + v_both_13.1), (v_u_3.2 + v_both_13.2)) : Int × Int)).bind fun v_far_19 =>
(some (((s11.1 + v_both_13.1), (s11.2 + v_both_13.2)) : Int × Int)).bind fun v_back_20 =>
some ([(0, 0), v_u_3, v_far_19, ((2 * v_both_13.1), (2 * v_both_13.2)), v_back_20, s11])) else
(T__law_bows_k32 v_head).bind fun m21 =>
some m21
noncomputable def TL1__law_shape_k32 (k0_head : List Int) (k2_by : Int) (k3_off : Int) (k4_share : Int) (a : Int × Int) (s : (List ((Int × Int) × (Int × Int)))) : Option (List ((Int × Int) × (Int × Int))) :=
(mulT a.1 k2_by).bind fun m15 =>
(getT k0_head 6).bind fun m16 =>
(modT m16 k3_off).bind fun m17 =>
(fractionT ((m15 + m17)) k4_share).bind fun m18 =>
(mulT a.2 k2_by).bind fun m19 =>
(getT k0_head 7).bind fun m20 =>
(modT m20 k3_off).bind fun m21 =>
(fractionT ((m19 + m21)) k4_share).bind fun m22 =>
(appT s ((m18, m22))).bind fun m23 =>
some m23
noncomputable def T__law_shape_k32 (v_head : List Int) : Option (List ((Int × Int) × (Int × Int))) :=
(T__law_ring_k32 v_head).bind fun m1 =>
(getT v_head 5).bind fun m2 =>
(getT v_head 0).bind fun m3 =>
(getT ([1, (1 + (m2 % 1000000000))]) (((m3 / 5) % 2))).bind fun m4 =>
(getT v_head 0).bind fun m5 =>
(getT ([10, 1000000000000000000]) (((m5 / 10) % 2))).bind fun m6 =>
(getT v_head 5).bind fun m7 =>
(getT v_head 0).bind fun m8 =>
(getT ([1, (1 + (m7 % 6))]) (((m8 / 20) % 2))).bind fun m9 =>
(idxMinT m1).bind fun m10 =>
(some ([] : List ((Int × Int) × (Int × Int)))).bind fun v_found_11 =>
(dropT m1 m10).bind fun m12 =>
(takeT m1 m10).bind fun m13 =>
(catT m12 m13).bind fun m14 =>
(foldT (TL1__law_shape_k32 v_head m4 m6 m9) m14 v_found_11).bind fun o24 =>
some o24
noncomputable def T_law_k32 (v_script : List Int) : Option Bool :=
(T__law_numbers v_script 20).bind fun m1 =>
(T__law_shape_k32 m1).bind fun m2 =>
(dropT m1 8).bind fun m3 =>
(T__law_shape_k32 m3).bind fun m4 =>
(T_summed m2 m4).bind fun m5 =>
(T_pushes m5 m4).bind fun m6 =>
(if (!decide (m6 = m2)) = true then some true else (T_pushes m5 m2).bind fun m7 => some ((!decide (m7 = m4)))).bind fun m8 =>
if m8 = true then (some false) else
(T_pushes m2 m2).bind fun m11 =>
if (!decide (m11 = [((0, 1), (0, 1))])) = true then (some false) else
(getT m1 16).bind fun m13 =>
(getT m1 17).bind fun m14 =>
(fractionT (((m13 % 199) - 99)) ((1 + (m14 % 5)))).bind fun m15 =>
(getT m1 17).bind fun m16 =>
(getT m1 16).bind fun m17 =>
(fractionT (((m16 % 199) - 99)) ((1 + (m17 % 5)))).bind fun m18 =>
(some ((m15, m18) : (Int × Int) × (Int × Int))).bind fun v_push_19 =>
(getT m1 18).bind fun m20 =>
(getT m1 19).bind fun m21 =>
(fractionT ((1 + (m20 % 9))) ((1 + (m21 % 9)))).bind fun m22 =>
(T_pushes m2 m4).bind fun m23 =>
(compT (fun x24 => (T__law_plus x24.1 v_push_19.1).bind fun m25 => (T__law_plus x24.2 v_push_19.2).bind fun m26 => some ((m25, m26))) m23).bind fun m29 =>
(T_pushed m2 v_push_19).bind fun m30 =>
(T_pushes m30 m4).bind fun m31 =>
if (!decide (m31 = m29)) = true then (some false) else
(compT (fun x33 => (T__law_times_k31 x33.1 m22).bind fun m34 => (T__law_times_k31 x33.2 m22).bind fun m35 => some ((m34, m35))) m23).bind fun m38 =>
(T_sized m2 m22).bind fun m39 =>
(T_sized m4 m22).bind fun m40 =>
(T_pushes m39 m40).bind fun m41 =>
some ((decide (m41 = m38)))
noncomputable def T_across (v_one : P3 Int Int Int) (v_other : P3 Int Int Int) : Option Int :=
(mulT v_one.a v_other.b).bind fun m1 =>
(mulT v_one.b v_other.a).bind fun m2 =>
some ((m1 - m2))
noncomputable def TL1_plain  (a : Int) (s : Int) : Option Int :=
(divisorT s a).bind fun m2 =>
some m2
noncomputable def T_plain (v_weights : List Int) : Option (List Int) :=
(some (0 : Int)).bind fun v_most_1 =>
(foldT TL1_plain v_weights v_most_1).bind fun o3 =>
(compT (fun x4 => (divT x4 o3).bind fun m5 => some m5) v_weights).bind fun m8 =>
some m8
noncomputable def T_against (v_sides : List (P3 Int Int Int)) (v_k : Int) (v_j : Int) : Option (Option (List Int)) :=
(getT v_sides v_k).bind fun m1 =>
(getT v_sides v_j).bind fun m2 =>
(T_across m1 m2).bind fun m3 =>
(if (!decide (m3 = 0)) = true then some true else (mulT m1.a m2.a).bind fun m4 => (mulT m1.b m2.b).bind fun m5 => some ((decide (0 < (m4 + m5))))).bind fun m6 =>
if m6 = true then (some none) else
(T_plain ([(((m2.a.natAbs : Nat) : Int) + ((m2.b.natAbs : Nat) : Int)), (((m1.a.natAbs : Nat) : Int) + ((m1.b.natAbs : Nat) : Int))])).bind fun m9 =>
some ((some m9))
noncomputable def T_around (v_sides : List (P3 Int Int Int)) (v_k : Int) (v_j : Int) (v_i : Int) : Option (Option (List Int)) :=
(getT v_sides v_j).bind fun m1 =>
(getT v_sides v_i).bind fun m2 =>
(T_across m1 m2).bind fun m3 =>
(getT v_sides v_i).bind fun m4 =>
(getT v_sides v_k).bind fun m5 =>
(T_across m4 m5).bind fun m6 =>
(getT v_sides v_k).bind fun m7 =>
(getT v_sides v_j).bind fun m8 =>
(T_across m7 m8).bind fun m9 =>
(some ([m3, m6, m9] : List Int)).bind fun v_weights_10 =>
(mostI v_weights_10).bind fun m11 =>
(if (decide (m11 < 0)) = true then (compT (fun x15 => some ((0 - x15))) v_weights_10).bind fun m18 =>
some m18 else some v_weights_10).bind fun s14 =>
(leastI s14).bind fun m19 =>
if (decide (m19 ≤ 0)) = true then (some none) else
(T_plain s14).bind fun m21 =>
some ((some m21))
noncomputable def TL3_balances (k0_sides : List (P3 Int Int Int)) (k1_k : Int) (k2_j : Int) (a : Int) (s : (List ((List Int) × (List Int)))) : Option (List ((List Int) × (List Int))) :=
(T_around k0_sides k1_k k2_j a).bind fun m11 =>
if (!m11.isNone) = true then ((m11).bind fun m13 =>
(appT s (([k1_k, k2_j, a], m13))).bind fun m14 =>
some m14) else
some s
noncomputable def TL2_balances (k0_sides : List (P3 Int Int Int)) (k1_k : Int) (a : Int) (s : (List ((List Int) × (List Int)))) : Option (List ((List Int) × (List Int))) :=
(T_against k0_sides k1_k a).bind fun m4 =>
(if (!m4.isNone) = true then (m4).bind fun m8 =>
(appT s (([k1_k, a], m8))).bind fun m9 =>
some m9 else some s).bind fun s7 =>
(rng2T ((a + 1)) ((k0_sides.length : Int))).bind fun m10 =>
(foldT (TL3_balances k0_sides k1_k a) m10 s7).bind fun o15 =>
some o15
noncomputable def TL1_balances (k0_sides : List (P3 Int Int Int)) (a : Int) (s : (List ((List Int) × (List Int)))) : Option (List ((List Int) × (List Int))) :=
(rng2T ((a + 1)) ((k0_sides.length : Int))).bind fun m3 =>
(foldT (TL2_balances k0_sides a) m3 s).bind fun o16 =>
some o16
noncomputable def T_balances (v_sides : List (P3 Int Int Int)) : Option (List ((List Int) × (List Int))) :=
(some ([] : List ((List Int) × (List Int)))).bind fun v_found_1 =>
(rng1T ((v_sides.length : Int))).bind fun m2 =>
(foldT (TL1_balances v_sides) m2 v_found_1).bind fun o17 =>
some o17
noncomputable def T_over (v_one : Int × Int) (v_other : Int × Int) : Option (Int × Int) :=
(mulT v_one.1 v_other.2).bind fun m1 =>
(mulT v_one.2 v_other.1).bind fun m2 =>
(ratioT m1 m2).bind fun m3 =>
some m3
noncomputable def TL1_factor_by (k0_sides : List (P3 Int Int Int)) (k1_leasts : List (Int × Int)) (a : Int × Int) (s : (Int × Int) × (Int × Int)) : Option ((Int × Int) × (Int × Int)) :=
(getT k0_sides a.1).bind fun m3 =>
(mulT a.2 m3.c).bind fun m4 =>
(T_plus s.1 ((m4, 1))).bind fun m5 =>
(getT k1_leasts a.1).bind fun m6 =>
(T_times ((a.2, 1)) m6).bind fun m7 =>
(T_plus s.2 m7).bind fun m8 =>
some (m5, m8)
noncomputable def T_factor_by (v_sides : List (P3 Int Int Int)) (v_leasts : List (Int × Int)) (v_places : List Int) (v_weights : List Int) : Option (Int × Int) :=
(some ((0, 1) : Int × Int)).bind fun v_top_1 =>
(some ((0, 1) : Int × Int)).bind fun v_bottom_2 =>
(foldT (TL1_factor_by v_sides v_leasts) ((List.zip v_places v_weights)) (v_top_1, v_bottom_2)).bind fun o9 =>
(T_over o9.1 o9.2).bind fun m10 =>
some m10
noncomputable def TL1_fit (k2_sides : List (P3 Int Int Int)) (k3_leasts : List (Int × Int)) (a : (List Int) × (List Int)) (s : (Option (P3 (Int × Int) (List Int) (List Int)))) : Option (Option (P3 (Int × Int) (List Int) (List Int))) :=
(T_factor_by k2_sides k3_leasts a.1 a.2).bind fun m9 =>
(if s.isNone = true then some true else (s).bind fun m10 => (T_below m9 m10.a).bind fun m11 => some m11).bind fun m12 =>
if m12 = true then ((some ((some ((P3.mk m9 a.1 a.2))) : Option (P3 (Int × Int) (List Int) (List Int)))).bind fun v_found_15 =>
some v_found_15) else
some s
noncomputable def T_fit (v_one : List ((Int × Int) × (Int × Int))) (v_other : List ((Int × Int) × (Int × Int))) : Option (P4 (Int × Int) ((Int × Int) × (Int × Int)) (List Int) (List Int)) :=
(T_sides_of v_one).bind fun m1 =>
(compT (fun x2 => (T_least_over v_other x2.a x2.b).bind fun m3 => some m3) m1).bind fun m6 =>
(some (none : Option (P3 (Int × Int) (List Int) (List Int)))).bind fun v_found_7 =>
(T_balances m1).bind fun m8 =>
(foldT (TL1_fit m1 m6) m8 v_found_7).bind fun o16 =>
(o16).bind fun m17 =>
(T_sized v_other m17.a).bind fun m18 =>
(T_pushes v_one m18).bind fun m19 =>
(getT m19 0).bind fun m20 =>
(o16).bind fun m21 =>
(o16).bind fun m22 =>
(o16).bind fun m23 =>
some ((P4.mk m21.a m20 m22.b m23.c))
noncomputable def TL1__law_sides (k0_shape_here : List ((Int × Int) × (Int × Int))) (a : Int) (s : (List (P3 Int Int Int))) : Option (List (P3 Int Int Int)) :=
(getT k0_shape_here a).bind fun m3 =>
(modT ((a + 1)) ((k0_shape_here.length : Int))).bind fun m4 =>
(getT k0_shape_here m4).bind fun m5 =>
(T__law_plus m5.1 (((0 - m3.1.1), m3.1.2))).bind fun m6 =>
(T__law_plus m5.2 (((0 - m3.2.1), m3.2.2))).bind fun m7 =>
(mulT m7.1 m6.2).bind fun m8 =>
(some ((0 - m8) : Int)).bind fun v_a_9 =>
(mulT m6.1 m7.2).bind fun m10 =>
(divisorT v_a_9 m10).bind fun m11 =>
(divT v_a_9 m11).bind fun m12 =>
(divT m10 m11).bind fun m13 =>
(T__law_times_k31 ((m12, 1)) m3.1).bind fun m14 =>
(T__law_times_k31 ((m13, 1)) m3.2).bind fun m15 =>
(T__law_plus m14 m15).bind fun m16 =>
(mulT m12 m16.2).bind fun m17 =>
(mulT m13 m16.2).bind fun m18 =>
(appT s ((P3.mk m17 m18 m16.1))).bind fun m19 =>
some m19
noncomputable def T__law_sides (v_shape_here : List ((Int × Int) × (Int × Int))) : Option (List (P3 Int Int Int)) :=
(some ([] : List (P3 Int Int Int))).bind fun v_found_1 =>
(rng1T ((v_shape_here.length : Int))).bind fun m2 =>
(foldT (TL1__law_sides v_shape_here) m2 v_found_1).bind fun o20 =>
some o20
noncomputable def T__law_less_k41 (v_one : Int × Int) (v_other : Option (Int × Int)) : Option Bool :=
(v_other).bind fun m1 =>
(mulT v_one.1 m1.2).bind fun m2 =>
(v_other).bind fun m3 =>
(mulT m3.1 v_one.2).bind fun m4 =>
some ((decide (m2 < m4)))
noncomputable def TL1__law_least_k41 (k1_a : Int) (k2_b : Int) (a : (Int × Int) × (Int × Int)) (s : (Option (Int × Int))) : Option (Option (Int × Int)) :=
(T__law_times_k31 ((k1_a, 1)) a.1).bind fun m2 =>
(T__law_times_k31 ((k2_b, 1)) a.2).bind fun m3 =>
(T__law_plus m2 m3).bind fun m4 =>
(if s.isNone = true then some true else (T__law_less_k41 m4 s).bind fun m5 => some m5).bind fun m6 =>
if m6 = true then ((some ((some m4) : Option (Int × Int))).bind fun v_found_9 =>
some v_found_9) else
some s
noncomputable def T__law_least_k41 (v_shape_here : List ((Int × Int) × (Int × Int))) (v_a : Int) (v_b : Int) : Option (Int × Int) :=
(some (none : Option (Int × Int))).bind fun v_found_1 =>
(foldT (TL1__law_least_k41 v_a v_b) v_shape_here v_found_1).bind fun o10 =>
(o10).bind fun m11 =>
some m11
noncomputable def TL2__law_paper (k6_weights : List Int) (k9_k : Int) (k10_side : P3 Int Int Int) (a : Int) (s : (List Int)) : Option (List Int) :=
(getT s a).bind fun m31 =>
(getT k6_weights k9_k).bind fun m32 =>
(getP3 k10_side a).bind fun m33 =>
(mulT m32 m33).bind fun m34 =>
(putT s a ((m31 + m34))).bind fun m35 =>
some m35
noncomputable def TL1__law_paper (k2_other : List ((Int × Int) × (Int × Int))) (k5_places : List Int) (k6_weights : List Int) (k7_sides_here : List (P3 Int Int Int)) (a : Int) (s : (List Int) × (Int × Int)) : Option (TO ((List Int) × (Int × Int)) Bool) :=
(getT k5_places a).bind fun m7 =>
(T__law_whole m7).bind fun m8 =>
(if (!m8) = true then some true else (getT k6_weights a).bind fun m9 => (T__law_whole m9).bind fun m10 => (if (!m10) = true then some true else (getT k6_weights a).bind fun m11 => some ((decide (m11 < 1)))).bind fun m12 => some m12).bind fun m14 =>
if m14 = true then (some (.rt false)) else
(getT k5_places a).bind fun m17 =>
(if (decide (m17 < 0)) = true then some true else (getT k5_places a).bind fun m18 => (if (decide ((k7_sides_here.length : Int) ≤ m18)) = true then some true else (if (decide (0 < a)) = true then (getT k5_places ((a - 1))).bind fun m19 => (getT k5_places a).bind fun m20 => some ((decide (m20 ≤ m19))) else some false).bind fun m21 => some m21).bind fun m23 => some m23).bind fun m25 =>
if m25 = true then (some (.rt false)) else
(getT k5_places a).bind fun m28 =>
(getT k7_sides_here m28).bind fun m29 =>
(rng1T 3).bind fun m30 =>
(foldT (TL2__law_paper k6_weights a m29) m30 s.1).bind fun o36 =>
(getT k6_weights a).bind fun m37 =>
(T__law_least_k41 k2_other m29.a m29.b).bind fun m38 =>
(T__law_times_k31 ((m37, 1)) m38).bind fun m39 =>
(T__law_plus s.2 m39).bind fun m40 =>
some (.nx (o36, m40))
noncomputable def T__law_paper (v_found : P4 (Int × Int) ((Int × Int) × (Int × Int)) (List Int) (List Int)) (v_one : List ((Int × Int) × (Int × Int))) (v_other : List ((Int × Int) × (Int × Int))) : Option Bool :=
(T__law_sides v_one).bind fun m1 =>
if ((!true) || ((!true) || (!decide ((v_found.c.length : Int) = (v_found.d.length : Int))))) = true then (some false) else
if (!decide ((v_found.c.length : Int) ∈ [2, 3])) = true then (some false) else
(some ([0, 0, 0] : List Int)).bind fun v_sums_4 =>
(some ((0, 1) : Int × Int)).bind fun v_least_here_5 =>
(rng1T ((v_found.c.length : Int))).bind fun m6 =>
(forT (TL1__law_paper v_other v_found.c v_found.d m1) m6 (v_sums_4, v_least_here_5)).bind fun o41 => match o41 with
| .rt r51 => some r51
| .nx s42 =>
(getT s42.1 0).bind fun m43 =>
(if (decide (m43 = 0)) = true then (getT s42.1 1).bind fun m44 => (if (decide (m44 = 0)) = true then (T__law_times_k31 v_found.a s42.2).bind fun m45 => (getT s42.1 2).bind fun m46 => some ((decide (m45 = (m46, 1)))) else some false).bind fun m47 => some m47 else some false).bind fun m49 =>
some m49
noncomputable def TL1_law_k41 (k2_one : List ((Int × Int) × (Int × Int))) (a : (Int × Int) × (Int × Int)) (s : Unit) : Option (TO Unit Bool) :=
(T__law_held k2_one a).bind fun m18 =>
if (!m18) = true then (some (.rt false)) else
some (.nx ())
noncomputable def T_law_k41 (v_script : List Int) : Option Bool :=
(T__law_numbers v_script 16).bind fun m1 =>
(T__law_shape_k32 m1).bind fun m2 =>
(dropT m1 8).bind fun m3 =>
(T__law_shape_k32 m3).bind fun m4 =>
(some ([m2, m4] : List (List ((Int × Int) × (Int × Int))))).bind fun v_handed_5 =>
(getT v_handed_5 0).bind fun m6 =>
(getT v_handed_5 1).bind fun m7 =>
(T_fit m6 m7).bind fun m8 =>
if ((!true) || ((!decide ((4 : Int) = 4)) || (!decide (v_handed_5 = [m2, m4])))) = true then (some false) else
(T__law_is_fraction m8.a).bind fun m10 =>
(if (!m10) = true then some true else (if (decide (m8.a.1 ≤ 0)) = true then some true else (T__law_is_spot m8.b).bind fun m11 => some ((!m11))).bind fun m12 => some m12).bind fun m14 =>
if m14 = true then (some false) else
(T__law_moved m4 m8.a m8.b).bind fun m17 =>
(forT (TL1_law_k41 m2) m17 ()).bind fun o20 => match o20 with
| .rt r23 => some r23
| .nx s21 =>
(T__law_paper m8 m2 m4).bind fun m22 =>
some m22
noncomputable def T_alike (v_one : List ((Int × Int) × (Int × Int))) (v_other : List ((Int × Int) × (Int × Int))) : Option (Option ((Int × Int) × ((Int × Int) × (Int × Int)))) :=
(T_fit v_one v_other).bind fun m1 =>
(T_sized v_other m1.a).bind fun m2 =>
(T_pushed m2 m1.b).bind fun m3 =>
if (decide (m3 = v_one)) = true then (some ((some ((m1.a, m1.b))))) else
some none
noncomputable def TL1__law_even (k0_shape_here : List ((Int × Int) × (Int × Int))) (k1_many : Int) (a : Int) (s : (List ((Int × Int) × (Int × Int)))) : Option (List ((Int × Int) × (Int × Int))) :=
(getT k0_shape_here a).bind fun m5 =>
(getT k0_shape_here ((a - (k1_many / 2)))).bind fun m6 =>
(T__law_plus m5.1 m6.1).bind fun m7 =>
(T__law_plus m5.2 m6.2).bind fun m8 =>
(appT s ((m7, m8))).bind fun m9 =>
some m9
noncomputable def T__law_even (v_shape_here : List ((Int × Int) × (Int × Int))) : Option Bool :=
(some ((v_shape_here.length : Int) : Int)).bind fun v_many_1 =>
if (decide ((v_many_1 % 2) = 1)) = true then (some false) else
(some ([] : List ((Int × Int) × (Int × Int)))).bind fun v_sums_3 =>
(rng1T v_many_1).bind fun m4 =>
(foldT (TL1__law_even v_shape_here v_many_1) m4 v_sums_3).bind fun o10 =>
(compT (fun x11 => (getT o10 0).bind fun m12 => some m12) o10).bind fun m15 =>
some ((decide (o10 = m15)))
noncomputable def T__law_turned_right (v_shape_here : List ((Int × Int) × (Int × Int))) : Option Bool :=
(T_turned v_shape_here).bind fun m1 =>
(T_fit v_shape_here m1).bind fun m2 =>
(some (m2.a : Int × Int)).bind fun v_found_3 =>
(T__law_even v_shape_here).bind fun m4 =>
if m4 = true then ((if (decide (v_found_3 = (1, 1))) = true then (T_turned v_shape_here).bind fun m6 => (T_alike v_shape_here m6).bind fun m7 => some ((!m7.isNone)) else some false).bind fun m8 =>
some m8) else
(T_turned v_shape_here).bind fun m10 =>
(T_alike v_shape_here m10).bind fun m11 =>
if (!m11.isNone) = true then (some false) else
if (decide ((v_shape_here.length : Int) = 3)) = true then (some ((decide (v_found_3 = (1, 2))))) else
(T__law_less v_found_3 ((1, 2))).bind fun m14 =>
(if (!m14) = true then (T__law_less v_found_3 ((1, 1))).bind fun m15 => some m15 else some false).bind fun m16 =>
some m16
noncomputable def T_law_k42 (v_script : List Int) : Option Bool :=
(T__law_numbers v_script 12).bind fun m1 =>
(T__law_shape_k32 m1).bind fun m2 =>
(getT m1 8).bind fun m3 =>
(getT m1 9).bind fun m4 =>
(fractionT ((1 + (m3 % 9))) ((1 + (m4 % 9)))).bind fun m5 =>
(getT m1 10).bind fun m6 =>
(getT m1 11).bind fun m7 =>
(fractionT (((m6 % 199) - 99)) ((1 + (m7 % 5)))).bind fun m8 =>
(getT m1 11).bind fun m9 =>
(getT m1 10).bind fun m10 =>
(fractionT (((m9 % 199) - 99)) ((1 + (m10 % 5)))).bind fun m11 =>
(some ((m8, m11) : (Int × Int) × (Int × Int))).bind fun v_push_12 =>
(T_sized m2 m5).bind fun m13 =>
(T_pushed m13 v_push_12).bind fun m14 =>
(some ((m5.2, m5.1) : Int × Int)).bind fun v_back_15 =>
(some ([m2, m14] : List (List ((Int × Int) × (Int × Int))))).bind fun v_handed_16 =>
(getT v_handed_16 0).bind fun m17 =>
(getT v_handed_16 1).bind fun m18 =>
(T_alike m17 m18).bind fun m19 =>
if (m19.isNone || (!decide (v_handed_16 = [m2, m14]))) = true then (some false) else
(T_fit m2 m14).bind fun m21 =>
(if (!decide (m21.a = v_back_15)) = true then some true else (T_sized m14 v_back_15).bind fun m22 => (T_pushed m22 m21.b).bind fun m23 => some ((!decide (m23 = m2)))).bind fun m24 =>
if m24 = true then (some false) else
(T_alike m2 m14).bind fun m27 =>
(if (!decide (m27 = (some ((v_back_15, m21.b))))) = true then some true else (T_alike m2 m2).bind fun m28 => some ((!decide (m28 = (some (((1, 1), ((0, 1), (0, 1))))))))).bind fun m29 =>
if m29 = true then (some false) else
(T__law_turned_right m2).bind fun m32 =>
some m32
noncomputable def T_law_k51 (v_script : List Int) : Option Bool :=
(T__law_numbers v_script 26).bind fun m1 =>
(T__law_shape_k32 m1).bind fun m2 =>
(dropT m1 8).bind fun m3 =>
(T__law_shape_k32 m3).bind fun m4 =>
(dropT m1 16).bind fun m5 =>
(T__law_shape_k32 m5).bind fun m6 =>
(getT m1 24).bind fun m7 =>
(if (decide ((m7 % 3) = 1)) = true then (getT m1 24).bind fun m11 =>
(getT m1 25).bind fun m12 =>
(some ((((m11 % 101), 1), ((m12 % 101), 1)) : (Int × Int) × (Int × Int))).bind fun v_push_13 =>
(getT m1 25).bind fun m14 =>
(getT m1 24).bind fun m15 =>
(fractionT ((1 + (m14 % 9))) ((1 + (m15 % 9)))).bind fun m16 =>
(T_sized m2 m16).bind fun m17 =>
(T_pushed m17 v_push_13).bind fun m18 =>
some m18 else some m4).bind fun s10 =>
(T_fit m2 s10).bind fun m19 =>
(some (m19.a : Int × Int)).bind fun v_factor_20 =>
(T_fit s10 m2).bind fun m21 =>
(some (m21.a : Int × Int)).bind fun v_back_22 =>
(T_fit m2 m6).bind fun m23 =>
(T_fit s10 m6).bind fun m24 =>
(T__law_times_k31 v_factor_20 m24.a).bind fun m25 =>
(T__law_less m23.a m25).bind fun m26 =>
if m26 = true then (some false) else
(T__law_times_k31 v_factor_20 v_back_22).bind fun m28 =>
(T__law_less ((1, 1)) m28).bind fun m29 =>
(if m29 = true then some true else (T_alike m2 s10).bind fun m30 => some ((!decide ((decide (m28 = (1, 1))) = (!m30.isNone))))).bind fun m31 =>
if m31 = true then (some false) else
(T_doubled m2).bind fun m34 =>
(T__law_times_k31 v_factor_20 v_factor_20).bind fun m35 =>
(T_doubled s10).bind fun m36 =>
(T__law_times_k31 m35 m36).bind fun m37 =>
(T__law_less m34 m37).bind fun m38 =>
if m38 = true then (some false) else
(getT m1 25).bind fun m40 =>
(T__law_times_k31 v_factor_20 ((((1000000000 + 1) + (m40 % 100)), 1000000000))).bind fun m41 =>
(T_sized s10 v_factor_20).bind fun m42 =>
(T_pushes m2 m42).bind fun m43 =>
(if (!decide (m43 = [])) = true then (T_sized s10 m41).bind fun m44 => (T_pushes m2 m44).bind fun m45 => some ((decide (m45 = []))) else some false).bind fun m46 =>
some m46
noncomputable def T__law_surplus (v_one : List ((Int × Int) × (Int × Int))) (v_other : List ((Int × Int) × (Int × Int))) : Option (Int × Int) :=
(T_doubled v_one).bind fun m1 =>
(T_doubled v_other).bind fun m2 =>
(T__law_plus m1 m2).bind fun m3 =>
(T_summed v_one v_other).bind fun m4 =>
(T_doubled m4).bind fun m5 =>
(T__law_plus m5 (((0 - m3.1), m3.2))).bind fun m6 =>
some m6
noncomputable def T_law_k52 (v_script : List Int) : Option Bool :=
(T__law_numbers v_script 18).bind fun m1 =>
(T__law_shape_k32 m1).bind fun m2 =>
(dropT m1 8).bind fun m3 =>
(T__law_shape_k32 m3).bind fun m4 =>
(getT m1 16).bind fun m5 =>
(getT m1 17).bind fun m6 =>
(fractionT ((1 + (m5 % 9))) ((1 + (m6 % 9)))).bind fun m7 =>
(getT m1 16).bind fun m8 =>
(if (decide (((m8 / 9) % 3) = 1)) = true then (T_sized m2 m7).bind fun m12 =>
(getT m1 17).bind fun m13 =>
(getT m1 16).bind fun m14 =>
(T_pushed m12 ((((m13 % 101), 1), ((m14 % 101), 1)))).bind fun m15 =>
some m15 else some m4).bind fun s11 =>
(T__law_surplus m2 s11).bind fun m16 =>
(T__law_times_k31 m16 m16).bind fun m17 =>
(T_doubled m2).bind fun m18 =>
(T_doubled s11).bind fun m19 =>
(T__law_times_k31 m18 m19).bind fun m20 =>
(T__law_times_k31 ((4, 1)) m20).bind fun m21 =>
(T__law_less m17 m21).bind fun m22 =>
(if m22 = true then some true else (T_alike m2 s11).bind fun m23 => some ((!decide ((decide (m17 = m21)) = (!m23.isNone))))).bind fun m24 =>
if m24 = true then (some false) else
(T_sized s11 m7).bind fun m27 =>
(T__law_surplus m2 m27).bind fun m28 =>
(T__law_times_k31 m16 m7).bind fun m29 =>
some ((decide (m28 = m29)))
end Ty

/-! HU: points, sorted sets of points, the chain. -/
namespace TL
theorem lexB_trans (a b c : Int × Int) (h1 : lexB a b = true) (h2 : lexB b c = true) : lexB a c = true := by
  unfold lexB at *; simp only [decide_eq_true_eq] at *; omega
theorem lexB_total (a b : Int × Int) : (lexB a b || lexB b a) = true := by
  unfold lexB; simp only [Bool.or_eq_true, decide_eq_true_eq]; omega
theorem lexB_anti {a b : Int × Int} (h1 : lexB a b = true) (h2 : lexB b a = true) : a = b := by
  unfold lexB at *; simp only [decide_eq_true_eq] at *
  obtain ⟨x, y⟩ := a; obtain ⟨z, w⟩ := b
  simp only [Prod.mk.injEq] at *; omega
theorem sset_sorted (ps : List (Int × Int)) : (sset ps).Pairwise fun a b => lexB a b = true := List.pairwise_mergeSort lexB_trans lexB_total _
theorem mem_sset {ps : List (Int × Int)} {p : Int × Int} : p ∈ sset ps ↔ p ∈ ps := by unfold sset; rw [List.mem_mergeSort, List.mem_eraseDups]
theorem nodup_dups : ∀ (n : Nat) (ps : List (Int × Int)), ps.length ≤ n → ps.eraseDups.Nodup
  | _, [], _ => by simp
  | 0, _ :: _, h => by simp at h
  | n + 1, p :: ps, h => by
    rw [List.eraseDups_cons, List.nodup_cons]
    refine ⟨fun hm => ?_, nodup_dups n _ (Nat.le_trans (List.length_filter_le _ _) (by simpa using h))⟩
    rw [List.mem_eraseDups, List.mem_filter] at hm
    simp at hm
theorem sset_nodup (ps : List (Int × Int)) : (sset ps).Nodup := ((List.mergeSort_perm _ _).nodup_iff).mpr (nodup_dups _ _ (Nat.le_refl _))
abbrev Pt := Int × Int
def bendZ (a b c : Pt) : Int := (b.1 - a.1) * (c.2 - a.2) - (b.2 - a.2) * (c.1 - a.1)
/-- the stack, its top first -/
def popS : List Pt → Pt → List Pt
  | b :: a :: r, p => if bendZ a b p ≤ 0 then popS (a :: r) p else b :: a :: r
  | st, _ => st
def stepS (st : List Pt) (p : Pt) : List Pt := p :: popS st p
def chainS (ps : List Pt) : List Pt := ps.foldl stepS []
def chainP (ps : List Pt) : List Pt := (chainS ps).reverse
def ringP (ps : List Pt) : List Pt := (chainP (sset ps)).dropLast ++ (chainP (sset ps).reverse).dropLast
theorem popS_len : ∀ (st : List Pt) (p : Pt), (popS st p).length ≤ st.length
  | [], _ => Nat.le_refl _
  | [_], _ => Nat.le_refl _
  | b :: a :: r, p => by
    unfold popS
    split
    · exact Nat.le_trans (popS_len (a :: r) p) (by simp)
    · exact Nat.le_refl _
theorem popS_mem : ∀ (st : List Pt) (p q : Pt), q ∈ popS st p → q ∈ st
  | [], _, _, h => h
  | [_], _, _, h => h
  | b :: a :: r, p, q, h => by
    unfold popS at h
    split at h
    · exact List.mem_cons_of_mem _ (popS_mem (a :: r) p q h)
    · exact h
def Pz (n : Nat) (p : Pt) : Prop := Sz n p.1 ∧ Sz n p.2
theorem chain_fold (ps : List Pt) (st : List Pt) : (ps.foldl stepS st).length ≤ ps.length + st.length ∧ ∀ q ∈ ps.foldl stepS st, q ∈ ps ∨ q ∈ st := by
  induction ps generalizing st with
  | nil => exact ⟨by simp, fun q hq => .inr hq⟩
  | cons p ps ih =>
    obtain ⟨h1, h2⟩ := ih (stepS st p)
    refine ⟨?_, fun q hq => ?_⟩
    · have := popS_len st p
      simp only [List.foldl_cons, stepS, List.length_cons] at *
      omega
    · rcases h2 q hq with h | h
      · exact .inl (List.mem_cons_of_mem _ h)
      · rcases List.mem_cons.mp h with h | h
        · exact .inl (h ▸ List.mem_cons_self)
        · exact .inr (popS_mem _ _ _ h)
theorem chainP_len (ps : List Pt) : (chainP ps).length ≤ ps.length := by
  have := (chain_fold ps []).1
  unfold chainP chainS; rw [List.length_reverse]; simpa using this
theorem chainP_mem {ps : List Pt} {q : Pt} (h : q ∈ chainP ps) : q ∈ ps := by
  unfold chainP chainS at h
  rw [List.mem_reverse] at h
  rcases (chain_fold ps []).2 q h with h | h
  · exact h
  · cases h
theorem sset_len (ps : List Pt) : (sset ps).length ≤ ps.length := by
  have h : ∀ (n : Nat) (l : List Pt), l.length ≤ n → l.eraseDups.length ≤ l.length := by
    intro n
    induction n with
    | zero => intro l h; have : l = [] := List.length_eq_zero_iff.mp (by omega); subst this; simp
    | succ n ih =>
      intro l h
      cases l with
      | nil => simp
      | cons p l =>
        rw [List.eraseDups_cons]
        have hf := List.length_filter_le (fun b => !b == p) l
        have := ih (l.filter fun b => !b == p) (by simp at h; omega)
        simp only [List.length_cons]; omega
  unfold sset
  rw [List.length_mergeSort]
  exact h _ ps (Nat.le_refl _)
theorem ringP_len (ps : List Pt) : (ringP ps).length ≤ 2 * ps.length := by
  unfold ringP
  have h1 := chainP_len (sset ps)
  have h2 := chainP_len (sset ps).reverse
  have h3 := sset_len ps
  simp only [List.length_append, List.length_dropLast, List.length_reverse] at *
  omega
theorem ringP_mem {ps : List Pt} {q : Pt} (h : q ∈ ringP ps) : q ∈ ps := by
  unfold ringP at h
  rcases List.mem_append.mp h with h | h
  · exact mem_sset.mp (chainP_mem (List.dropLast_subset _ h))
  · exact mem_sset.mp (List.mem_reverse.mp (chainP_mem (List.dropLast_subset _ h)))
/-- three points off one line -/
def TriP (ps : List Pt) : Prop := ∃ p q r : Pt, p ∈ ps ∧ q ∈ ps ∧ r ∈ ps ∧ 0 < bendZ p q r
end TL

/-! GEO: vectors of the plane over Rat: turns, halves, the order by angle, rings of vectors. -/
namespace Ge
abbrev V2 := Rat × Rat
def crs (p q : V2) : Rat := p.1 * q.2 - p.2 * q.1
def Hp (u : V2) : Prop := 0 < u.1 ∨ (u.1 = 0 ∧ 0 < u.2)
theorem mul_pos {a b : Rat} (h : 0 < a) (k : 0 < b) : 0 < a * b := Rat.mul_pos h k
theorem mul_nn {a b : Rat} (h : 0 ≤ a) (k : 0 ≤ b) : 0 ≤ a * b := Rat.mul_nonneg h k
theorem pos_of_mul {a b : Rat} (h : 0 < a) (k : 0 < a * b) : 0 < b := by
  rcases (Rat.le_total : b ≤ 0 ∨ 0 ≤ b) with h2 | h2
  · have := mul_nn (a := a) (b := -b) (by grind) (by grind); grind
  · rcases Rat.le_iff_lt_or_eq.mp h2 with h3 | h3
    · exact h3
    · rw [← h3] at k; grind
theorem nn_of_mul {a b : Rat} (h : 0 < a) (k : 0 ≤ a * b) : 0 ≤ b := by
  rcases (Rat.le_total : b ≤ 0 ∨ 0 ≤ b) with h2 | h2
  · rcases Rat.le_iff_lt_or_eq.mp h2 with h3 | h3
    · have := mul_pos (a := a) (b := -b) h (by grind); grind
    · grind
  · exact h2
theorem zero_of_mul {a b : Rat} (h : 0 < a) (k : a * b = 0) : b = 0 := by
  rcases Rat.mul_eq_zero.mp k with h1 | h1
  · grind
  · exact h1
theorem Hp.x {u : V2} (h : Hp u) : 0 ≤ u.1 := by unfold Hp at h; grind
theorem plu (a f g : V2) : f.1 * crs a g = a.1 * crs f g + g.1 * crs a f := by unfold crs; grind
theorem tr {a f g : V2} (ha : Hp a) (hf : Hp f) (hg : Hp g) (h1 : 0 ≤ crs a f) (h2 : 0 < crs f g) : 0 < crs a g := by
  have hx := ha.x; have hy := hf.x; have hz := hg.x
  have f0 : 0 < f.1 := by
    rcases Rat.le_iff_lt_or_eq.mp hy with h | h
    · exact h
    · exfalso
      have h3 : 0 < f.2 := by unfold Hp at hf; grind
      have h4 := mul_nn (a := f.2) (b := g.1) (by grind) hz
      unfold crs at h2
      rw [← h] at h2
      grind
  have a0 : 0 < a.1 := by
    rcases Rat.le_iff_lt_or_eq.mp hx with h | h
    · exact h
    · exfalso
      have h3 : 0 < a.2 := by unfold Hp at ha; grind
      have h4 := mul_pos h3 f0
      unfold crs at h1
      rw [← h] at h1
      grind
  have e := plu a f g
  have m1 := mul_pos a0 h2
  have m2 := mul_nn hz h1
  exact pos_of_mul f0 (by grind)
theorem tr' {a f g : V2} (ha : Hp a) (hf : Hp f) (hg : Hp g) (h1 : 0 < crs a f) (h2 : 0 ≤ crs f g) : 0 < crs a g := by
  have hx := ha.x; have hy := hf.x; have hz := hg.x
  have a0 : 0 < a.1 := by
    rcases Rat.le_iff_lt_or_eq.mp hx with h | h
    · exact h
    · exfalso
      have h3 : 0 < a.2 := by unfold Hp at ha; grind
      have h4 := mul_nn (a := a.2) (b := f.1) (by grind) hy
      unfold crs at h1
      rw [← h] at h1
      grind
  rcases Rat.le_iff_lt_or_eq.mp hy with f0 | f0
  · have e := plu a f g
    have m1 := mul_nn (a := a.1) (by grind) h2
    rcases Rat.le_iff_lt_or_eq.mp hz with g0 | g0
    · have m2 := mul_pos g0 h1
      exact pos_of_mul f0 (by grind)
    · have h3 : 0 < g.2 := by unfold Hp at hg; grind
      have := mul_pos a0 h3
      unfold crs
      rw [← g0]; grind
  · have h3 : 0 < f.2 := by unfold Hp at hf; grind
    have g0 : g.1 = 0 := by
      rcases Rat.le_iff_lt_or_eq.mp hz with g0 | g0
      · exfalso
        have := mul_pos h3 g0
        unfold crs at h2
        rw [← f0] at h2
        grind
      · exact g0.symm
    have h3 : 0 < g.2 := by unfold Hp at hg; grind
    have := mul_pos a0 h3
    unfold crs
    rw [g0]; grind
theorem tr0 {a f g : V2} (ha : Hp a) (hf : Hp f) (hg : Hp g) (h1 : 0 ≤ crs a f) (h2 : 0 ≤ crs f g) : 0 ≤ crs a g := by
  rcases Rat.le_iff_lt_or_eq.mp h2 with h | h
  · exact Rat.le_of_lt (tr ha hf hg h1 h)
  · rcases Rat.le_iff_lt_or_eq.mp h1 with h' | h'
    · exact Rat.le_of_lt (tr' ha hf hg h' h2)
    · have hx := ha.x; have hy := hf.x; have hz := hg.x
      have e := plu a f g
      rcases Rat.le_iff_lt_or_eq.mp hy with f0 | f0
      · exact nn_of_mul f0 (by rw [e, ← h, ← h']; grind)
      · have h3 : 0 < f.2 := by unfold Hp at hf; grind
        have a1 : a.1 = 0 := by
          unfold crs at h'
          rw [← f0] at h'
          exact zero_of_mul h3 (by grind)
        have g1 : g.1 = 0 := by
          unfold crs at h
          rw [← f0] at h
          exact zero_of_mul h3 (by grind)
        unfold crs; rw [a1, g1]; grind
/-! ### the order by angle, from just above straight down -/
def neg (u : V2) : V2 := (-u.1, -u.2)
theorem Hp.not_neg {u : V2} (h : Hp u) : ¬ Hp (neg u) := by unfold Hp neg at *; grind
/-- a way that leads somewhere -/
def Nz (u : V2) : Prop := Hp u ∨ Hp (neg u)
def ang (u v : V2) : Prop := (Hp u ∧ Hp (neg v)) ∨ (Hp u ∧ Hp v ∧ 0 < crs u v) ∨ (Hp (neg u) ∧ Hp (neg v) ∧ 0 < crs u v)
theorem crs_neg_neg (u v : V2) : crs (neg u) (neg v) = crs u v := by unfold crs neg; grind
theorem crs_neg_l (u v : V2) : crs (neg u) v = -crs u v := by unfold crs neg; grind
theorem crs_neg_r (u v : V2) : crs u (neg v) = -crs u v := by unfold crs neg; grind
theorem crs_swap (u v : V2) : crs u v = -crs v u := by unfold crs; grind
theorem neg_neg (u : V2) : neg (neg u) = u := by unfold neg; simp
theorem crs_self (u : V2) : crs u u = 0 := by unfold crs; grind
/-- seen from a: behind x that is not at the left, y is at the right; in the three ways in which a, x, y can stand round -/
theorem uni1 {a x y : V2} (h1 : ang a x) (h2 : ang x y) (h : crs a x ≤ 0) : crs a y < 0 := by
  rcases h1 with ⟨ha, hx⟩ | ⟨_, _, h1⟩ | ⟨_, _, h1⟩
  · rcases h2 with ⟨hx', _⟩ | ⟨hx', _⟩ | ⟨_, hy, h2⟩
    · exact absurd hx hx'.not_neg
    · exact absurd hx hx'.not_neg
    · have := tr ha hx hy (by rw [crs_neg_r]; grind) (by rw [crs_neg_neg]; exact h2)
      rw [crs_neg_r] at this; grind
  · grind
  · grind
theorem uni2 {a x y : V2} (h1 : ang x y) (h2 : ang y a) (h : crs a x ≤ 0) : crs a y < 0 := by
  rcases h2 with ⟨hy, ha⟩ | ⟨hy, ha, h2⟩ | ⟨hy, ha, h2⟩
  · rcases h1 with ⟨_, hy'⟩ | ⟨hx, _, h1⟩ | ⟨_, hy', _⟩
    · exact absurd hy' hy.not_neg
    · -- x, y up; a down
      have := tr ha hx hy (by rw [crs_neg_l]; grind) h1
      rw [crs_neg_l] at this; grind
    · exact absurd hy' hy.not_neg
  · rw [crs_swap]; grind
  · rw [crs_swap]; grind
theorem uni3 {a x y : V2} (h1 : ang a x) (h2 : ang y a) (h : crs a x ≤ 0) : crs a y < 0 := by
  rcases h2 with ⟨hy, ha⟩ | ⟨hy, ha, h2⟩ | ⟨hy, ha, h2⟩
  · rcases h1 with ⟨ha', _⟩ | ⟨ha', _⟩ | ⟨_, _, h1⟩
    · exact absurd ha ha'.not_neg
    · exact absurd ha ha'.not_neg
    · grind
  · rw [crs_swap]; grind
  · rw [crs_swap]; grind
/-! ### sums -/
def sm (c : Nat → Rat) : Nat → Rat
  | 0 => 0
  | t + 1 => sm c t + c t
theorem sm_pos (c : Nat → Rat) : ∀ t, 0 < t → (∀ i, i < t → 0 < c i) → 0 < sm c t
  | 0, h, _ => absurd h (by omega)
  | 1, _, h => by have := h 0 (by omega); simp only [sm]; grind
  | t + 2, _, h => by
    have h1 := sm_pos c (t + 1) (by omega) fun i hi => h i (by omega)
    have h2 := h (t + 1) (by omega)
    rw [sm]; grind
theorem sm_neg (c : Nat → Rat) (t : Nat) : ∀ m, t < m → (∀ i, t ≤ i → i < m → c i < 0) → sm c m < sm c t
  | 0, h, _ => absurd h (by omega)
  | m + 1, h, hc => by
    have h2 := hc m (by omega) (by omega)
    by_cases e : t = m
    · subst e; rw [sm]; grind
    · have h1 := sm_neg c t m (by omega) fun i hi hj => hc i hi (by omega)
      rw [sm]; grind
/-- a row of numbers, first above 0, then (but for one 0) below, that comes to 0: each part from its start is above 0 -/
theorem uni_sum {c : Nat → Rat} {m : Nat} (h : ∀ a b, a < b → b < m → c a ≤ 0 → c b < 0) (h0 : sm c m = 0) {t : Nat} (t0 : 0 < t) (tm : t < m) : 0 < sm c t := by
  by_cases hc : 0 < c (t - 1)
  · refine sm_pos c t t0 fun i hi => ?_
    by_cases e : i = t - 1
    · rw [e]; exact hc
    · rcases (Rat.le_total : c i ≤ 0 ∨ 0 ≤ c i) with h1 | h1
      · have := h i (t - 1) (by omega) (by omega) h1; grind
      · rcases Rat.le_iff_lt_or_eq.mp h1 with h2 | h2
        · exact h2
        · have := h i (t - 1) (by omega) (by omega) (by grind); grind
  · have := sm_neg c t m tm fun i h1 h2 => h (t - 1) i (by omega) h2 (by grind)
    grind
/-! ### rings of corners -/
def sub (p q : V2) : V2 := (p.1 - q.1, p.2 - q.2)
def add (p q : V2) : V2 := (p.1 + q.1, p.2 + q.2)
theorem neg_sub (p q : V2) : neg (sub p q) = sub q p := by unfold neg sub; simp only [Prod.mk.injEq]; constructor <;> grind
/-- corner i, counted round -/
def pv (vs : List V2) (i : Nat) : V2 := vs.getD (i % vs.length) (0, 0)
/-- side i leads from corner i to the next -/
def ed (vs : List V2) (i : Nat) : V2 := sub (pv vs (i + 1)) (pv vs i)
theorem pv_add (vs : List V2) (i : Nat) : pv vs (i + vs.length) = pv vs i := by unfold pv; rw [Nat.add_mod_right]
theorem ed_add (vs : List V2) (i : Nat) : ed vs (i + vs.length) = ed vs i := by
  unfold ed; rw [show i + vs.length + 1 = (i + 1) + vs.length by omega, pv_add, pv_add]
/-- a ring: three or more corners, its sides' ways rise by their angles -/
structure Rg (vs : List V2) : Prop where
  n3 : 3 ≤ vs.length
  srt : ∀ i j, i < j → j < vs.length → ang (ed vs i) (ed vs j)
theorem Rg.uni {vs : List V2} (r : Rg vs) {k a b : Nat} (hk : k < vs.length) (h1 : k < a) (h2 : a < b) (h3 : b < k + vs.length) (h : crs (ed vs k) (ed vs a) ≤ 0) : crs (ed vs k) (ed vs b) < 0 := by
  by_cases ha : a < vs.length
  · by_cases hb : b < vs.length
    · exact uni1 (r.srt k a h1 ha) (r.srt a b h2 hb) h
    · have e : ed vs b = ed vs (b - vs.length) := by rw [← ed_add vs (b - vs.length), show b - vs.length + vs.length = b by omega]
      rw [e]
      exact uni3 (r.srt k a h1 ha) (r.srt (b - vs.length) k (by omega) hk) h
  · have e : ed vs b = ed vs (b - vs.length) := by rw [← ed_add vs (b - vs.length), show b - vs.length + vs.length = b by omega]
    have e' : ed vs a = ed vs (a - vs.length) := by rw [← ed_add vs (a - vs.length), show a - vs.length + vs.length = a by omega]
    rw [e] at *; rw [e'] at h
    exact uni2 (r.srt (a - vs.length) (b - vs.length) (by omega) (by omega)) (r.srt (b - vs.length) k (by omega) hk) h
theorem crs_sum (vs : List V2) (u : V2) (s : Nat) : ∀ t, sm (fun i => crs u (ed vs (s + i))) t = crs u (sub (pv vs (s + t)) (pv vs s))
  | 0 => by simp only [sm, Nat.add_zero]; unfold crs sub; grind
  | t + 1 => by
    rw [sm, crs_sum vs u s t]
    unfold ed
    rw [show s + (t + 1) = s + t + 1 by omega]
    unfold crs sub; grind
def bendQ (p q r : V2) : Rat := (q.1 - p.1) * (r.2 - p.2) - (q.2 - p.2) * (r.1 - p.1)
theorem bend_crs (p q r : V2) : bendQ p q r = crs (sub q p) (sub r p) := by unfold bendQ crs sub; grind
/-- each other corner is at the left of each side -/
theorem Rg.left {vs : List V2} (r : Rg vs) {k t : Nat} (hk : k < vs.length) (t0 : 0 < t) (t1 : t + 1 < vs.length) : 0 < bendQ (pv vs k) (pv vs (k + 1)) (pv vs (k + 1 + t)) := by
  have hs : sm (fun i => crs (ed vs k) (ed vs (k + 1 + i))) (vs.length - 1) = 0 := by
    rw [crs_sum, show k + 1 + (vs.length - 1) = k + vs.length by omega, pv_add]
    unfold ed crs sub; grind
  have := uni_sum (c := fun i => crs (ed vs k) (ed vs (k + 1 + i))) (fun a b h1 h2 h => r.uni hk (by omega) (by omega) (by omega) h) hs t0 (by omega)
  rw [crs_sum] at this
  unfold ed at this
  unfold bendQ; unfold crs sub at this; grind
theorem Rg.left' {vs : List V2} (r : Rg vs) {k j : Nat} (hk : k < vs.length) (hj : j < vs.length) (h1 : j ≠ k) (h2 : j ≠ (k + 1) % vs.length) : 0 < bendQ (pv vs k) (pv vs (k + 1)) (pv vs j) := by
  by_cases h : k < j
  · have : k + 1 ≠ j := fun e => h2 (by rw [e, Nat.mod_eq_of_lt hj])
    have := r.left hk (t := j - (k + 1)) (by omega) (by omega)
    rwa [show k + 1 + (j - (k + 1)) = j by omega] at this
  · have hn : ¬ (k + 1 = vs.length ∧ j = 0) := fun ⟨e, e2⟩ => h2 (by rw [e, Nat.mod_self, e2])
    have := r.left hk (t := j + vs.length - (k + 1)) (by omega) (by omega)
    rwa [show k + 1 + (j + vs.length - (k + 1)) = j + vs.length by omega, pv_add] at this
/-! ### the first corner -/
def ltV (p q : V2) : Prop := p.1 < q.1 ∨ (p.1 = q.1 ∧ p.2 < q.2)
theorem ltV_iff (p q : V2) : ltV p q ↔ Hp (sub q p) := by unfold ltV Hp sub; grind
theorem ltV_trans {p q r : V2} (h1 : ltV p q) (h2 : ltV q r) : ltV p r := by unfold ltV at *; grind
theorem ltV_irrefl (p : V2) : ¬ ltV p p := by unfold ltV; grind
theorem ang_nz {u v : V2} (h : ang u v) : (Hp u ∨ Hp (neg u)) ∧ (Hp v ∨ Hp (neg v)) := by unfold ang at h; grind
theorem ang_mono {u v : V2} (h : ang u v) (hu : Hp (neg u)) : Hp (neg v) := by
  rcases h with ⟨h, _⟩ | ⟨h, _⟩ | ⟨_, h, _⟩
  · exact absurd hu h.not_neg
  · exact absurd hu h.not_neg
  · exact h
theorem up_walk (vs : List V2) (s : Nat) : ∀ t, 0 < t → (∀ i, i < t → Hp (ed vs (s + i))) → ltV (pv vs s) (pv vs (s + t))
  | 0, h, _ => absurd h (by omega)
  | 1, _, h => by rw [ltV_iff]; exact h 0 (by omega)
  | t + 2, _, h => ltV_trans (up_walk vs s (t + 1) (by omega) fun i hi => h i (by omega)) (by rw [ltV_iff]; exact h (t + 1) (by omega))
theorem down_walk (vs : List V2) (s : Nat) : ∀ t, 0 < t → (∀ i, i < t → Hp (neg (ed vs (s + i)))) → ltV (pv vs (s + t)) (pv vs s)
  | 0, h, _ => absurd h (by omega)
  | 1, _, h => by
    rw [ltV_iff, ← neg_sub]
    exact h 0 (by omega)
  | t + 2, _, h => ltV_trans (by
    rw [ltV_iff, ← neg_sub]
    exact h (t + 1) (by omega)) (down_walk vs s (t + 1) (by omega) fun i hi => h i (by omega))
theorem Rg.nz {vs : List V2} (r : Rg vs) {i : Nat} (hi : i < vs.length) : Hp (ed vs i) ∨ Hp (neg (ed vs i)) := by
  have := r.n3
  by_cases h : i + 1 < vs.length
  · exact (ang_nz (r.srt i (i + 1) (by omega) h)).1
  · exact (ang_nz (r.srt (i - 1) i (by omega) hi)).2
theorem Rg.first {vs : List V2} (r : Rg vs) {j : Nat} (h0 : 0 < j) (hj : j < vs.length) : ltV (pv vs 0) (pv vs j) := by
  rcases r.nz (i := j - 1) (by omega) with h | h
  · have := up_walk vs 0 j h0 fun i hi => by
      rw [Nat.zero_add]
      rcases r.nz (i := i) (by omega) with h1 | h1
      · exact h1
      · by_cases e : i = j - 1
        · rw [e]; exact h
        · exact absurd (ang_mono (r.srt i (j - 1) (by omega) (by omega)) h1) h.not_neg
    rwa [Nat.zero_add] at this
  · have := down_walk vs j (vs.length - j) (by omega) fun i hi => by
      rw [show j + i = (j - 1) + (i + 1) by omega]
      exact ang_mono (r.srt (j - 1) (j - 1 + (i + 1)) (by omega) (by omega)) h
    rw [show j + (vs.length - j) = 0 + vs.length by omega, pv_add] at this
    exact this
end Ge

/-! HULL: what the chain over sorted points finds is a ring. -/
namespace TL
open Ge (V2 Hp crs sub tr tr0 ang ltV Rg pv ed)
def cp (p : Pt) : V2 := ((p.1 : Rat), (p.2 : Rat))
theorem bend_cp (a b c : Pt) : ((bendZ a b c : Int) : Rat) = crs (sub (cp b) (cp a)) (sub (cp c) (cp a)) := by
  unfold bendZ crs sub cp
  simp only [Rat.intCast_sub, Rat.intCast_mul]
theorem zle {x : Int} : 0 ≤ x ↔ (0 : Rat) ≤ (x : Rat) := by rw [← Rat.intCast_zero, Rat.intCast_le_intCast]
theorem zlt {x : Int} : 0 < x ↔ (0 : Rat) < (x : Rat) := by rw [← Rat.intCast_zero, Rat.intCast_lt_intCast]
def ltP (p q : Pt) : Prop := p.1 < q.1 ∨ (p.1 = q.1 ∧ p.2 < q.2)
theorem ltP_cp {p q : Pt} : ltP p q ↔ Hp (sub (cp q) (cp p)) := by
  have h1 : p.1 < q.1 ↔ (p.1 : Rat) < (q.1 : Rat) := Rat.intCast_lt_intCast.symm
  have h2 : p.2 < q.2 ↔ (p.2 : Rat) < (q.2 : Rat) := Rat.intCast_lt_intCast.symm
  have h3 : p.1 = q.1 ↔ (p.1 : Rat) = (q.1 : Rat) := Rat.intCast_inj.symm
  unfold ltP Hp sub cp
  rw [h1, h2, h3]; grind
theorem ltP_trans {p q r : Pt} (h1 : ltP p q) (h2 : ltP q r) : ltP p r := by unfold ltP at *; omega
theorem ltP_irrefl (p : Pt) : ¬ ltP p p := by unfold ltP; omega
theorem ltP_total (p q : Pt) : p = q ∨ ltP p q ∨ ltP q p := by
  unfold ltP
  obtain ⟨a, b⟩ := p; obtain ⟨c, d⟩ := q
  simp only [Prod.mk.injEq]; omega
/-! ### stacks, the top first -/
def Dn (st : List Pt) : Prop := st.Pairwise fun x y => ltP y x
def Cons2 (R : Pt → Pt → Prop) : List Pt → Prop
  | b :: a :: r => R a b ∧ Cons2 R (a :: r)
  | _ => True
def Tri3 : List Pt → Prop
  | c :: b :: a :: r => 0 < bendZ a b c ∧ Tri3 (b :: a :: r)
  | _ => True
theorem Tri3.tail {b : Pt} : ∀ {r : List Pt}, Tri3 (b :: r) → Tri3 r
  | [], _ => trivial
  | [_], _ => trivial
  | _ :: _ :: _, h => h.2
theorem Cons2.tail {R : Pt → Pt → Prop} {b : Pt} : ∀ {r : List Pt}, Cons2 R (b :: r) → Cons2 R r
  | [], _ => trivial
  | _ :: _, h => h.2
def OverS (q : Pt) : List Pt → Prop := Cons2 fun a b => 0 ≤ bendZ a b q
theorem over_new {p : Pt} : ∀ (r : List Pt) (b a : Pt), Dn (b :: a :: r) → Tri3 (b :: a :: r) → ltP b p → 0 < bendZ a b p → OverS p (b :: a :: r)
  | [], b, a, _, _, _, h => ⟨Int.le_of_lt h, trivial⟩
  | x :: r, b, a, hd, ht, hp, h => by
    refine ⟨Int.le_of_lt h, ?_⟩
    have d1 : ltP a b := by unfold Dn at hd; simp only [List.pairwise_cons] at hd; exact hd.1 a (by simp)
    have d2 : ltP x a := by unfold Dn at hd; simp only [List.pairwise_cons] at hd; exact hd.2.1 x (by simp)
    have hap := ltP_trans d1 hp
    refine over_new r a x (by unfold Dn at hd ⊢; exact (List.pairwise_cons.mp hd).2) ht.2 hap ?_
    have t1 := ht.1
    rw [zlt, bend_cp] at t1 h ⊢
    have k1 : 0 < crs (sub (cp a) (cp x)) (sub (cp b) (cp a)) := by unfold crs sub at *; grind
    have k2 : 0 < crs (sub (cp b) (cp a)) (sub (cp p) (cp a)) := h
    have := tr (ltP_cp.mp d2) (ltP_cp.mp d1) (ltP_cp.mp hap) (by grind) k2
    unfold crs sub at *; grind
structure StI (dn : List Pt) (st : List Pt) (bot : Pt) : Prop where
  d : Dn st
  t : Tri3 st
  o : ∀ q ∈ dn, OverS q st
  s : ∀ q ∈ st, q ∈ dn
  b : st.getLast? = some bot
theorem pop_inv {dn : List Pt} {p bot : Pt} (hp : ∀ q ∈ dn, ltP q p) : ∀ (st : List Pt), StI dn st bot → (∀ b, st.head? = some b → ∀ q ∈ dn, ltP b q → 0 ≤ bendZ b p q) →
    StI dn (popS st p) bot ∧ (∀ b, (popS st p).head? = some b → ∀ q ∈ dn, ltP b q → 0 ≤ bendZ b p q) ∧ (∀ b a r, popS st p = b :: a :: r → 0 < bendZ a b p)
  | [], h, _ => by have := h.b; simp at this
  | [x], h, hk => ⟨h, hk, by intro b a r e; simp [popS] at e⟩
  | b :: a :: r, h, hk => by
    by_cases hb : bendZ a b p ≤ 0
    · have e : popS (b :: a :: r) p = popS (a :: r) p := by rw [popS, if_pos hb]
      rw [e]
      have d1 : ltP a b := by have := h.d; unfold Dn at this; simp only [List.pairwise_cons] at this; exact this.1 a (by simp)
      refine pop_inv hp (a :: r) ⟨(List.pairwise_cons.mp h.d).2, h.t.tail, fun q hq => (h.o q hq).tail, fun q hq => h.s q (List.mem_cons_of_mem _ hq), by have := h.b; simpa using this⟩ (fun a' ea q hq hlt => ?_)
      cases ea
      have o1 : 0 ≤ bendZ a b q := (h.o q hq).1
      have ap := hp a (h.s a (by simp))
      rw [zle, bend_cp] at o1 ⊢
      have hb' : 0 ≤ crs (sub (cp p) (cp a)) (sub (cp b) (cp a)) := by
        have : (0 : Int) ≤ -bendZ a b p := by omega
        rw [zle, Rat.intCast_neg, bend_cp] at this
        unfold crs sub at *; grind
      exact tr0 (ltP_cp.mp ap) (ltP_cp.mp d1) (ltP_cp.mp hlt) hb' o1
    · have e : popS (b :: a :: r) p = b :: a :: r := by rw [popS, if_neg hb]
      rw [e]
      exact ⟨h, hk, fun b' a' r' e => by cases e; omega⟩
theorem step_inv {dn : List Pt} {p bot : Pt} {st : List Pt} (hp : ∀ q ∈ dn, ltP q p) (h : StI dn st bot) (hbot : ∀ q ∈ dn, q = bot ∨ ltP bot q) (htop : ∀ b, st.head? = some b → ∀ q ∈ dn, q = b ∨ ltP q b) : StI (dn ++ [p]) (stepS st p) bot := by
  obtain ⟨h1, h2, h3⟩ := pop_inv hp st h (fun b eb q hq hlt => by
    rcases htop b eb q hq with e | e
    · subst e; exact absurd hlt (ltP_irrefl _)
    · exact absurd (ltP_trans hlt e) (ltP_irrefl _))
  unfold stepS
  generalize popS st p = s2 at h1 h2 h3 ⊢
  cases s2 with
  | nil => have := h1.b; simp at this
  | cons b r =>
    have hbd := h1.s b (by simp)
    have hbp := hp b hbd
    refine ⟨?_, ?_, fun q hq => ?_, fun q hq => ?_, ?_⟩
    · unfold Dn
      rw [List.pairwise_cons]
      exact ⟨fun q hq => hp q (h1.s q hq), h1.d⟩
    · cases r with
      | nil => trivial
      | cons a r => exact ⟨h3 b a r rfl, h1.t⟩
    · rcases List.mem_append.mp hq with hq | hq
      · refine ⟨?_, h1.o q hq⟩
        show 0 ≤ bendZ b p q
        rcases ltP_total q b with e | e | e
        · subst e
          have : bendZ q p q = 0 := by unfold bendZ; grind
          omega
        · cases r with
          | nil =>
            have hb' : b = bot := by have := h1.b; simpa using this
            subst hb'
            rcases hbot q hq with e2 | e2
            · subst e2; exact absurd e (ltP_irrefl _)
            · exact absurd (ltP_trans e e2) (ltP_irrefl _)
          | cons a r =>
            have d1 : ltP a b := by have := h1.d; unfold Dn at this; simp only [List.pairwise_cons] at this; exact this.1 a (by simp)
            have o1 : 0 ≤ bendZ a b q := (h1.o q hq).1
            have t1 := h3 b a r rfl
            rw [zlt, bend_cp] at t1
            rw [zle, bend_cp] at o1 ⊢
            have k1 : 0 ≤ crs (sub (cp b) (cp q)) (sub (cp b) (cp a)) := by unfold crs sub at *; grind
            have k2 : 0 < crs (sub (cp b) (cp a)) (sub (cp p) (cp b)) := by unfold crs sub at *; grind
            have := tr (ltP_cp.mp e) (ltP_cp.mp d1) (ltP_cp.mp hbp) k1 k2
            unfold crs sub at *; grind
        · exact h2 b rfl q hq e
      · rw [List.mem_singleton.mp hq]
        refine ⟨?_, ?_⟩
        · show 0 ≤ bendZ b p p
          have : bendZ b p p = 0 := by unfold bendZ; grind
          omega
        · cases r with
          | nil => trivial
          | cons a r => exact over_new r b a h1.d h1.t hbp (h3 b a r rfl)
    · rcases List.mem_cons.mp hq with e | e
      · subst e; simp
      · exact List.mem_append_left _ (h1.s q e)
    · have := h1.b
      simpa using this
theorem chain_inv {bot : Pt} : ∀ (ps dn st : List Pt), (dn ++ ps).Pairwise ltP → StI dn st bot → (∀ q ∈ dn, q = bot ∨ ltP bot q) → (∀ b, st.head? = some b → dn.getLast? = some b) → StI (dn ++ ps) (ps.foldl stepS st) bot ∧ (∀ b, (ps.foldl stepS st).head? = some b → (dn ++ ps).getLast? = some b)
  | [], dn, st, _, h, _, ht => by rw [List.append_nil]; exact ⟨h, ht⟩
  | p :: ps, dn, st, hs, h, hb, ht => by
    have hp : ∀ q ∈ dn, ltP q p := fun q hq => by
      have := (List.pairwise_append.mp hs).2.2 q hq p (by simp)
      exact this
    have htop : ∀ b, st.head? = some b → ∀ q ∈ dn, q = b ∨ ltP q b := fun b eb q hq => by
      have hl := ht b eb
      have hd := (List.pairwise_append.mp hs).1
      obtain ⟨d0, rfl⟩ : ∃ d0, dn = d0 ++ [b] := by
        exact List.getLast?_eq_some_iff.mp hl
      rcases List.mem_append.mp hq with h1 | h1
      · exact .inr ((List.pairwise_append.mp hd).2.2 q h1 b (by simp))
      · exact .inl (List.mem_singleton.mp h1)
    have h2 := step_inv hp h hb htop
    have := chain_inv ps (dn ++ [p]) (stepS st p) (by rw [List.append_assoc]; exact hs) h2 (fun q hq => by
      rcases List.mem_append.mp hq with h1 | h1
      · exact hb q h1
      · rw [List.mem_singleton.mp h1]
        have hbm : bot ∈ dn := by
          have hm := h.b
          have : bot ∈ st := List.mem_of_getLast? hm
          exact h.s bot this
        exact .inr (hp bot hbm)) (fun b eb => by
      unfold stepS at eb
      simp at eb
      simp [eb])
    rw [List.append_assoc] at this
    exact this
/-! ### by places -/
def ix (l : List Pt) (i : Nat) : Pt := l.getD i (0, 0)
theorem ix_lt {l : List Pt} {i : Nat} (h : i < l.length) : l[i]? = some (ix l i) := by
  unfold ix; rw [List.getD_eq_getElem?_getD, List.getElem?_eq_getElem h]; rfl
theorem ix_mem {l : List Pt} {i : Nat} (h : i < l.length) : ix l i ∈ l := List.mem_of_getElem? (ix_lt h)
theorem ix_app1 {l : List Pt} {b : Pt} {i : Nat} (h : i < l.length) : ix (l ++ [b]) i = ix l i := by
  unfold ix; rw [List.getD_eq_getElem?_getD, List.getD_eq_getElem?_getD, List.getElem?_append_left h]
theorem ix_app2 {l : List Pt} {b : Pt} : ix (l ++ [b]) l.length = b := by
  unfold ix; rw [List.getD_eq_getElem?_getD, List.getElem?_append_right (Nat.le_refl _)]; simp
theorem cons2_ix {R : Pt → Pt → Prop} : ∀ (st : List Pt), Cons2 R st → ∀ i, i + 1 < st.length → R (ix st.reverse i) (ix st.reverse (i + 1))
  | [], _, i, h => by simp at h
  | [_], _, i, h => by simp at h
  | b :: a :: r, hc, i, h => by
    rw [List.reverse_cons]
    have hl : (a :: r).reverse.length = r.length + 1 := by simp
    simp only [List.length_cons] at h
    by_cases e : i + 1 = r.length + 1
    · have : ix ((a :: r).reverse ++ [b]) (i + 1) = b := by rw [e, ← hl]; exact ix_app2
      rw [this, ix_app1 (by omega), List.reverse_cons, show i = r.reverse.length by simp; omega, ix_app2]
      exact hc.1
    · rw [ix_app1 (by omega), ix_app1 (by omega)]
      exact cons2_ix (a :: r) hc.2 i (by simp; omega)
theorem tri3_ix : ∀ (st : List Pt), Tri3 st → ∀ i, i + 2 < st.length → 0 < bendZ (ix st.reverse i) (ix st.reverse (i + 1)) (ix st.reverse (i + 2))
  | [], _, i, h => by simp at h
  | [_], _, i, h => by simp at h
  | [_, _], _, i, h => by simp only [List.length_cons, List.length_nil] at h; omega
  | c :: b :: a :: r, hc, i, h => by
    rw [List.reverse_cons]
    have hl : (b :: a :: r).reverse.length = r.length + 2 := by simp
    simp only [List.length_cons] at h
    by_cases e : i + 2 = r.length + 2
    · have h1 : ix ((b :: a :: r).reverse ++ [c]) (i + 2) = c := by rw [e, ← hl]; exact ix_app2
      rw [h1, ix_app1 (by omega), ix_app1 (by omega), List.reverse_cons]
      have h2 : ix ((a :: r).reverse ++ [b]) (i + 1) = b := by
        rw [show i + 1 = (a :: r).reverse.length by simp; omega]; exact ix_app2
      have h3 : ix ((a :: r).reverse ++ [b]) i = a := by
        rw [ix_app1 (by simp; omega), List.reverse_cons, show i = r.reverse.length by simp; omega]; exact ix_app2
      rw [h2, h3]
      exact hc.1
    · rw [ix_app1 (by omega), ix_app1 (by omega), ix_app1 (by omega)]
      exact tri3_ix (b :: a :: r) hc.2 i (by simp; omega)
def eV (c : List Pt) (i : Nat) : V2 := sub (cp (ix c (i + 1))) (cp (ix c i))
/-- what the chain over rising points is -/
structure ChF (ps c : List Pt) : Prop where
  ne : 0 < c.length
  fst : ix c 0 = ix ps 0
  lst : ix c (c.length - 1) = ix ps (ps.length - 1)
  up : ∀ i j, i < j → j < c.length → ltP (ix c i) (ix c j)
  cv : ∀ i j, i < j → j + 1 < c.length → 0 < crs (eV c i) (eV c j)
  ov : ∀ q ∈ ps, ∀ i, i + 1 < c.length → 0 ≤ bendZ (ix c i) (ix c (i + 1)) q
theorem chain_facts {ps : List Pt} (hs : ps.Pairwise ltP) (hne : ps ≠ []) : ChF ps (chainP ps) := by
  obtain ⟨p, r, rfl⟩ := List.exists_cons_of_ne_nil hne
  have h0 : StI [p] [p] p := ⟨by unfold Dn; simp, trivial, fun _ _ => trivial, fun q hq => hq, rfl⟩
  obtain ⟨h, hl⟩ := chain_inv (bot := p) r [p] [p] hs h0 (fun q hq => .inl (List.mem_singleton.mp hq)) (fun b eb => by cases eb; rfl)
  have es : (p :: r).foldl stepS [] = r.foldl stepS [p] := by
    show r.foldl stepS (stepS [] p) = _
    rfl
  have hc : chainP (p :: r) = (r.foldl stepS [p]).reverse := by unfold chainP chainS; rw [es]
  rw [hc]
  rw [List.singleton_append] at h hl
  generalize r.foldl stepS [p] = st at h hl
  have hn : 0 < st.length := by
    cases st with
    | nil => have := h.b; simp at this
    | cons a b => simp
  have up : ∀ i j, i < j → j < st.reverse.length → ltP (ix st.reverse i) (ix st.reverse j) := fun i j hij hj => by
    have hr : st.reverse.Pairwise ltP := List.pairwise_reverse.mpr h.d
    have := List.pairwise_iff_getElem.mp hr i j (by omega) hj hij
    have e1 := ix_lt (l := st.reverse) (i := i) (by omega)
    have e2 := ix_lt (l := st.reverse) (i := j) hj
    rw [List.getElem?_eq_getElem (by omega)] at e1
    rw [List.getElem?_eq_getElem hj] at e2
    rw [← Option.some.inj e1, ← Option.some.inj e2]; exact this
  refine ⟨by rw [List.length_reverse]; exact hn, ?_, ?_, up, ?_, fun q hq i hi => cons2_ix st (h.o q hq) i (by rwa [List.length_reverse] at hi)⟩
  · have := h.b
    show ix st.reverse 0 = p
    unfold ix
    rw [List.getD_eq_getElem?_getD, ← List.head?_eq_getElem?, List.head?_reverse, this]; rfl
  · rw [List.length_reverse]
    have e1 := ix_lt (l := st.reverse) (i := st.length - 1) (by rw [List.length_reverse]; omega)
    have e2 : st.reverse[st.length - 1]? = st.reverse.getLast? := by rw [List.getLast?_eq_getElem?, List.length_reverse]
    rw [e2, List.getLast?_reverse] at e1
    have e3 := hl _ e1
    rw [List.getLast?_eq_getElem?, ix_lt (by simp)] at e3
    exact (Option.some.inj e3).symm
  · intro i j hij
    induction j with
    | zero => omega
    | succ j ih =>
      intro hj
      rw [List.length_reverse] at hj
      have hp : ∀ a, a + 1 < st.length → Hp (eV st.reverse a) := fun a ha => ltP_cp.mp (up a (a + 1) (by omega) (by rw [List.length_reverse]; exact ha))
      have t := tri3_ix st h.t j (by omega)
      rw [zlt, bend_cp] at t
      have t2 : 0 < crs (eV st.reverse j) (eV st.reverse (j + 1)) := by
        unfold eV
        rw [show j + 1 + 1 = j + 2 by omega]
        unfold crs sub at *; grind
      by_cases e : i = j
      · subst e; exact t2
      · exact tr (hp i (by omega)) (hp j (by omega)) (hp (j + 1) (by omega)) (Rat.le_of_lt (ih (by omega) (by rw [List.length_reverse]; omega))) t2
/-! ### the other way about -/
def ng (p : Pt) : Pt := (-p.1, -p.2)
theorem bend_ng (a b c : Pt) : bendZ (ng a) (ng b) (ng c) = bendZ a b c := by unfold bendZ ng; grind
theorem popS_ng : ∀ (st : List Pt) (p : Pt), popS (st.map ng) (ng p) = (popS st p).map ng
  | [], _ => rfl
  | [_], _ => rfl
  | b :: a :: r, p => by
    have ih := popS_ng (a :: r) p
    show popS (ng b :: ng a :: r.map ng) (ng p) = _
    rw [popS, popS, bend_ng]
    split
    · exact ih
    · rfl
theorem chain_ng (ps : List Pt) : chainP (ps.map ng) = (chainP ps).map ng := by
  have : ∀ (ps st : List Pt), (ps.map ng).foldl stepS (st.map ng) = (ps.foldl stepS st).map ng := by
    intro ps
    induction ps with
    | nil => intro st; rfl
    | cons p ps ih =>
      intro st
      rw [List.map_cons, List.foldl_cons, List.foldl_cons, ← ih]
      unfold stepS
      rw [popS_ng]; rfl
  unfold chainP chainS
  have h := this ps []
  rw [List.map_nil] at h
  rw [h, List.map_reverse]
theorem ix_map {l : List Pt} {i : Nat} : ix (l.map ng) i = ng (ix l i) := by
  unfold ix
  rw [List.getD_eq_getElem?_getD, List.getD_eq_getElem?_getD, List.getElem?_map]
  cases l[i]? with
  | none => rfl
  | some a => rfl
theorem ng_ng (p : Pt) : ng (ng p) = p := by unfold ng; simp
theorem ltP_ng {p q : Pt} : ltP (ng p) (ng q) ↔ ltP q p := by unfold ltP ng; simp only; omega
theorem cp_ng (p : Pt) : cp (ng p) = Ge.neg (cp p) := by unfold cp ng Ge.neg; simp only [Rat.intCast_neg]
theorem eV_ng (l : List Pt) (i : Nat) : eV (l.map ng) i = Ge.neg (eV l i) := by
  unfold eV
  rw [ix_map, ix_map, cp_ng, cp_ng]; unfold sub Ge.neg; simp only [Prod.mk.injEq]; constructor <;> grind
theorem ix_rev {l : List Pt} {i : Nat} (h : i < l.length) : ix l.reverse i = ix l (l.length - 1 - i) := by
  unfold ix
  rw [List.getD_eq_getElem?_getD, List.getD_eq_getElem?_getD, List.getElem?_reverse h]
/-- the chain over falling points -/
structure ChD (ps c : List Pt) : Prop where
  ne : 0 < c.length
  fst : ix c 0 = ix ps (ps.length - 1)
  lst : ix c (c.length - 1) = ix ps 0
  dn : ∀ i j, i < j → j < c.length → ltP (ix c j) (ix c i)
  cv : ∀ i j, i < j → j + 1 < c.length → 0 < crs (eV c i) (eV c j)
  ov : ∀ q ∈ ps, ∀ i, i + 1 < c.length → 0 ≤ bendZ (ix c i) (ix c (i + 1)) q
theorem chain_down {ps : List Pt} (hs : ps.Pairwise ltP) (hne : ps ≠ []) : ChD ps (chainP ps.reverse) := by
  have h1 : (ps.reverse.map ng).Pairwise ltP := by
    rw [List.pairwise_map, List.pairwise_reverse]
    exact hs.imp fun h => ltP_ng.mpr h
  have f := chain_facts h1 (by simpa using hne)
  rw [chain_ng] at f
  have hl : 0 < ps.length := List.length_pos_iff.mpr hne
  refine ⟨by simpa using f.ne, ?_, ?_, fun i j hij hj => ?_, fun i j hij hj => ?_, fun q hq i hi => ?_⟩
  · have := f.fst
    rw [ix_map, ix_map, ix_rev hl] at this
    have := congrArg ng this
    rw [ng_ng, ng_ng] at this
    rw [this]; rfl
  · have := f.lst
    rw [List.length_map, List.length_map, List.length_reverse, ix_map, ix_map, ix_rev (by omega)] at this
    have := congrArg ng this
    rw [ng_ng, ng_ng] at this
    rw [this]; congr 1; omega
  · have := f.up i j hij (by rwa [List.length_map])
    rw [ix_map, ix_map, ltP_ng] at this; exact this
  · have := f.cv i j hij (by rwa [List.length_map])
    rw [eV_ng, eV_ng, Ge.crs_neg_neg] at this; exact this
  · have := f.ov (ng q) (List.mem_map.mpr ⟨q, by simpa using hq, rfl⟩) i (by rwa [List.length_map])
    rw [ix_map, ix_map, bend_ng] at this; exact this
/-! ### the ring -/
theorem on_line {a b p q r : Pt} (hab : a ≠ b) (hp : bendZ a b p = 0) (hq : bendZ a b q = 0) (hr : bendZ a b r = 0) : bendZ p q r = 0 := by
  have h1 : (b.1 - a.1) * bendZ p q r = (q.1 - p.1) * (bendZ a b r - bendZ a b p) - (r.1 - p.1) * (bendZ a b q - bendZ a b p) := by unfold bendZ; grind
  have h2 : (b.2 - a.2) * bendZ p q r = (q.2 - p.2) * (bendZ a b r - bendZ a b p) - (r.2 - p.2) * (bendZ a b q - bendZ a b p) := by unfold bendZ; grind
  rw [hp, hq, hr] at h1 h2
  simp only [Int.sub_self, Int.mul_zero] at h1 h2
  rcases Int.mul_eq_zero.mp h1 with e1 | e1
  · rcases Int.mul_eq_zero.mp h2 with e2 | e2
    · exact absurd (Prod.ext (by omega) (by omega)) hab
    · exact e2
  · exact e1
theorem sset_lt (ps : List Pt) : (sset ps).Pairwise ltP := by
  have h1 := sset_sorted ps
  have h2 := sset_nodup ps
  refine (h1.and h2).imp fun {a b} ⟨h, hne⟩ => ?_
  unfold lexB at h
  simp only [decide_eq_true_eq] at h
  unfold ltP
  have : ¬ (a.1 = b.1 ∧ a.2 = b.2) := fun e => hne (Prod.ext e.1 e.2)
  omega
theorem tri_of_ring {ps : List Pt} (ht : TriP ps) {a b : Pt} (hab : a ≠ b) (h1 : ∀ q ∈ ps, 0 ≤ bendZ a b q) (h2 : ∀ q ∈ ps, 0 ≤ bendZ b a q) : False := by
  obtain ⟨p, q, r, hp, hq, hr, h⟩ := ht
  have z : ∀ q ∈ ps, bendZ a b q = 0 := fun q hq => by
    have e : bendZ b a q = -bendZ a b q := by unfold bendZ; grind
    have := h1 q hq; have := h2 q hq; omega
  have := on_line hab (z p hp) (z q hq) (z r hr)
  omega
theorem getD_map (l : List Pt) (i : Nat) (h : i < l.length) : (l.map cp).getD i (0, 0) = cp (ix l i) := by
  unfold ix
  rw [List.getD_eq_getElem?_getD, List.getD_eq_getElem?_getD, List.getElem?_map, List.getElem?_eq_getElem h]; rfl
theorem hull {ps : List Pt} (ht : TriP ps) : Rg ((ringP ps).map cp) ∧ ∀ q ∈ ps, ∀ i, i < (ringP ps).length → 0 ≤ Ge.bendQ (pv ((ringP ps).map cp) i) (pv ((ringP ps).map cp) (i + 1)) (cp q) := by
  have hne : sset ps ≠ [] := by
    obtain ⟨p, _, _, hp, _⟩ := ht
    intro e
    have := mem_sset.mpr hp
    rw [e] at this; cases this
  have fL := chain_facts (sset_lt ps) hne
  have fU := chain_down (sset_lt ps) hne
  have hr : ringP ps = (chainP (sset ps)).dropLast ++ (chainP (sset ps).reverse).dropLast := rfl
  have ms : ∀ q, q ∈ sset ps ↔ q ∈ ps := fun q => mem_sset
  generalize chainP (sset ps) = Lw at fL hr
  generalize chainP (sset ps).reverse = Up at fU hr
  obtain ⟨m, hm⟩ : ∃ m, Lw.length = m + 1 := ⟨Lw.length - 1, by have := fL.ne; omega⟩
  obtain ⟨k, hk⟩ : ∃ k, Up.length = k + 1 := ⟨Up.length - 1, by have := fU.ne; omega⟩
  have c1 : ix Lw m = ix Up 0 := by have h1 := fL.lst; have h2 := fU.fst; rw [hm] at h1; exact h1.trans h2.symm
  have c2 : ix Up k = ix Lw 0 := by have h1 := fU.lst; have h2 := fL.fst; rw [hk] at h1; exact h1.trans h2.symm
  -- first and last are not one
  have m1 : 0 < m := by
    rcases Nat.eq_zero_or_pos m with e | e
    · exfalso
      subst e
      -- all points are one
      have h1 := fL.fst; have h2 := fL.lst
      rw [hm] at h2
      have one : ∀ q ∈ ps, q = ix (sset ps) 0 := fun q hq => by
        have hq := (ms q).mpr hq
        obtain ⟨i, hi, e⟩ := List.mem_iff_getElem.mp hq
        have hs := sset_lt ps
        have e0 := ix_lt (l := sset ps) (i := 0) (by omega)
        have el := ix_lt (l := sset ps) (i := (sset ps).length - 1) (by omega)
        rw [List.getElem?_eq_getElem (by omega)] at e0 el
        have h3 : ix (sset ps) 0 = ix (sset ps) ((sset ps).length - 1) := h1.symm.trans h2
        rcases Nat.eq_zero_or_pos i with ei | ei
        · subst ei; rw [← e]; exact Option.some.inj e0
        · have a1 := List.pairwise_iff_getElem.mp hs 0 i (by omega) hi ei
          by_cases ej : i = (sset ps).length - 1
          · subst ej; rw [← e, Option.some.inj el, h3]
          · have a2 := List.pairwise_iff_getElem.mp hs i ((sset ps).length - 1) hi (by omega) (by omega)
            rw [Option.some.inj e0, h3] at a1
            rw [Option.some.inj el] at a2
            exact absurd (ltP_trans a1 a2) (ltP_irrefl _)
      obtain ⟨p, q, r, hp, hq, hr', h⟩ := ht
      rw [one p hp, one q hq, one r hr'] at h
      have : bendZ (ix (sset ps) 0) (ix (sset ps) 0) (ix (sset ps) 0) = 0 := by unfold bendZ; grind
      omega
    · exact e
  have a01 := fL.up 0 m m1 (by omega)
  have k1 : 0 < k := by
    rcases Nat.eq_zero_or_pos k with e | e
    · subst e
      rw [c1, c2] at a01
      exact absurd a01 (ltP_irrefl _)
    · exact e
  have n3 : 3 ≤ m + k := by
    rcases Nat.lt_or_ge (m + k) 3 with h | h
    · exfalso
      have em : m = 1 := by omega
      have ek : k = 1 := by omega
      subst em ek
      refine tri_of_ring ht (a := ix Lw 0) (b := ix Lw 1) (fun e => ltP_irrefl _ (e ▸ a01)) (fun q hq => fL.ov q ((ms q).mpr hq) 0 (by omega)) (fun q hq => ?_)
      have := fU.ov q ((ms q).mpr hq) 0 (by omega)
      rw [← c1, c2] at this; exact this
    · exact h
  have hlen : (ringP ps).length = m + k := by rw [hr]; simp; omega
  have hlen' : ((ringP ps).map cp).length = m + k := by rw [List.length_map, hlen]
  have vL0 : ∀ i, i < m → pv ((ringP ps).map cp) i = cp (ix Lw i) := fun i hi => by
    unfold pv
    rw [hlen', Nat.mod_eq_of_lt (by omega), getD_map _ _ (by omega), hr]
    unfold ix
    rw [List.getD_eq_getElem?_getD, List.getElem?_append_left (by rw [List.length_dropLast]; omega), List.getElem?_dropLast, if_pos (by omega), List.getD_eq_getElem?_getD]
  have vU0 : ∀ i, i < k → pv ((ringP ps).map cp) (m + i) = cp (ix Up i) := fun i hi => by
    unfold pv
    rw [hlen', Nat.mod_eq_of_lt (by omega), getD_map _ _ (by omega), hr]
    unfold ix
    rw [List.getD_eq_getElem?_getD, List.getElem?_append_right (by rw [List.length_dropLast]; omega), List.getElem?_dropLast, List.length_dropLast, show m + i - (Lw.length - 1) = i by omega, if_pos (by omega), List.getD_eq_getElem?_getD]
  have vL : ∀ i, i ≤ m → pv ((ringP ps).map cp) i = cp (ix Lw i) := fun i hi => by
    by_cases e : i = m
    · have := vU0 0 k1
      rw [Nat.add_zero] at this
      rw [e, this, c1]
    · exact vL0 i (by omega)
  have vU : ∀ i, i ≤ k → pv ((ringP ps).map cp) (m + i) = cp (ix Up i) := fun i hi => by
    by_cases e : i = k
    · have h1 := Ge.pv_add ((ringP ps).map cp) 0
      rw [hlen', Nat.zero_add] at h1
      rw [e, h1, vL 0 (by omega), c2]
    · exact vU0 i (by omega)
  have eL : ∀ i, i < m → ed ((ringP ps).map cp) i = eV Lw i := fun i hi => by unfold ed eV; rw [vL i (by omega), vL (i + 1) (by omega)]
  have eU : ∀ i, i < k → ed ((ringP ps).map cp) (m + i) = eV Up i := fun i hi => by unfold ed eV; rw [vU i (by omega), show m + i + 1 = m + (i + 1) by omega, vU (i + 1) (by omega)]
  have hpL : ∀ i, i < m → Hp (eV Lw i) := fun i hi => ltP_cp.mp (fL.up i (i + 1) (by omega) (by omega))
  have hpU : ∀ i, i < k → Hp (Ge.neg (eV Up i)) := fun i hi => by
    unfold eV; rw [Ge.neg_sub]; exact ltP_cp.mp (fU.dn i (i + 1) (by omega) (by omega))
  refine ⟨⟨by rw [hlen']; exact n3, fun i j hij hj => ?_⟩, fun q hq i hi => ?_⟩
  · rw [hlen'] at hj
    by_cases h1 : j < m
    · rw [eL i (by omega), eL j h1]
      exact .inr (.inl ⟨hpL i (by omega), hpL j h1, fL.cv i j hij (by omega)⟩)
    · have ej := eU (j - m) (by omega)
      rw [show m + (j - m) = j by omega] at ej
      rw [ej]
      by_cases h2 : i < m
      · rw [eL i h2]
        exact .inl ⟨hpL i h2, hpU (j - m) (by omega)⟩
      · have ei := eU (i - m) (by omega)
        rw [show m + (i - m) = i by omega] at ei
        rw [ei]
        exact .inr (.inr ⟨hpU (i - m) (by omega), hpU (j - m) (by omega), fU.cv (i - m) (j - m) (by omega) (by omega)⟩)
  · rw [hlen] at hi
    rw [Ge.bend_crs]
    by_cases h1 : i < m
    · rw [vL i (by omega), vL (i + 1) (by omega), ← bend_cp, ← zle]
      exact fL.ov q ((ms q).mpr hq) i (by omega)
    · have e1 := vU (i - m) (by omega)
      have e2 := vU (i - m + 1) (by omega)
      rw [show m + (i - m) = i by omega] at e1
      rw [show m + (i - m + 1) = i + 1 by omega] at e2
      rw [e1, e2, ← bend_cp, ← zle]
      exact fU.ov q ((ms q).mpr hq) (i - m) (by omega)
end TL

/-! GEO2: strictly convex rings, turned and rotated. -/
namespace Ge
/-- each other corner is at the left of each side, wherever the ring begins -/
structure SC (vs : List V2) : Prop where
  n3 : 3 ≤ vs.length
  lf : ∀ k t, 0 < t → t + 1 < vs.length → 0 < bendQ (pv vs k) (pv vs (k + 1)) (pv vs (k + 1 + t))
theorem pv_mod (vs : List V2) (k : Nat) : pv vs (k % vs.length) = pv vs k := by unfold pv; rw [Nat.mod_mod]
theorem pv_congr {vs : List V2} {i j : Nat} (h : i % vs.length = j % vs.length) : pv vs i = pv vs j := by unfold pv; rw [h]
theorem Rg.sc {vs : List V2} (r : Rg vs) : SC vs := by
  have h3 := r.n3
  refine ⟨h3, fun k t t0 t1 => ?_⟩
  have h := r.left (k := k % vs.length) (Nat.mod_lt _ (by omega)) t0 t1
  rw [pv_mod, pv_congr (i := k % vs.length + 1) (j := k + 1) (by rw [Nat.add_mod, Nat.mod_mod, ← Nat.add_mod]), pv_congr (i := k % vs.length + 1 + t) (j := k + 1 + t) (by rw [Nat.add_assoc, Nat.add_mod, Nat.mod_mod, ← Nat.add_mod, Nat.add_assoc])] at h
  exact h
theorem SC.ge {vs : List V2} (s : SC vs) (k j : Nat) : 0 ≤ bendQ (pv vs k) (pv vs (k + 1)) (pv vs j) := by
  have h3 := s.n3
  have z1 : bendQ (pv vs k) (pv vs (k + 1)) (pv vs k) = 0 := by unfold bendQ; grind
  have z2 : bendQ (pv vs k) (pv vs (k + 1)) (pv vs (k + 1)) = 0 := by unfold bendQ; grind
  obtain ⟨m, hm, e⟩ : ∃ m, m < vs.length ∧ pv vs j = pv vs (k + m) := by
    refine ⟨(j + vs.length * k - k) % vs.length, Nat.mod_lt _ (by omega), pv_congr ?_⟩
    have hk : k ≤ vs.length * k := Nat.le_mul_of_pos_left k (by omega)
    rw [Nat.add_mod_mod, show k + (j + vs.length * k - k) = j + vs.length * k by omega, Nat.add_mul_mod_self_left]
  rw [e]
  by_cases m0 : m = 0
  · subst m0; rw [show k + 0 = k from rfl, z1]; exact Rat.le_refl
  · by_cases m1 : m = 1
    · subst m1; rw [z2]; exact Rat.le_refl
    · have := s.lf k (m - 1) (by omega) (by omega)
      rw [show k + 1 + (m - 1) = k + m by omega] at this
      exact Rat.le_of_lt this
theorem SC.turn {vs : List V2} (s : SC vs) (k : Nat) : 0 < crs (ed vs k) (ed vs (k + 1)) := by
  have h := s.lf k 1 (by omega) (by have := s.n3; omega)
  rw [bend_crs] at h
  unfold ed
  unfold crs sub at *; grind
/-- a cone in the upper half has nothing of the lower one -/
theorem cone_up {a b w : V2} (ha : Hp a) (hb : Hp b) (h : 0 < crs b a) (h1 : 0 ≤ crs b w) (h2 : 0 ≤ crs w a) (hw : Hp (neg w)) : False := by
  have hx := ha.x; have hy := hb.x
  have e1 : crs b a * w.1 = crs w a * b.1 + crs b w * a.1 := by unfold crs; grind
  have e2 : crs b a * w.2 = crs w a * b.2 + crs b w * a.2 := by unfold crs; grind
  have m1 := mul_nn h2 hy
  have m2 := mul_nn h1 hx
  have w1 : 0 ≤ w.1 := nn_of_mul h (by rw [e1]; grind)
  unfold Hp neg at hw
  simp only at hw
  have w0 : w.1 = 0 := by grind
  have w2 : w.2 < 0 := by grind
  rw [w0] at e1
  have z1 : crs w a * b.1 = 0 := by grind
  have z2 : crs b w * a.1 = 0 := by grind
  have c1 : crs w a = -(w.2 * a.1) := by unfold crs; rw [w0]; grind
  have c2 : crs b w = b.1 * w.2 := by unfold crs; rw [w0]; grind
  have b0 : b.1 = 0 := by
    rcases Rat.le_iff_lt_or_eq.mp hy with h3 | h3
    · have := mul_pos h3 (b := -w.2) (by grind)
      grind
    · exact h3.symm
  have a0 : a.1 = 0 ∨ 0 < a.1 := by
    rcases Rat.le_iff_lt_or_eq.mp hx with h3 | h3
    · exact .inr h3
    · exact .inl h3.symm
  rcases a0 with a0 | a0
  · unfold crs at h; rw [a0, b0] at h; grind
  · have hb2 : 0 < b.2 := by unfold Hp at hb; grind
    have p1 := mul_pos (a := -w.2) (by grind) a0
    have p2 : 0 < crs w a := by rw [c1]; grind
    have p3 := mul_pos p2 hb2
    have p4 := mul_pos h (b := -w.2) (by grind)
    rw [c2, b0] at e2
    grind
theorem Rg.of_sc {vs : List V2} (s : SC vs) (hf : ∀ j, 0 < j → j < vs.length → ltV (pv vs 0) (pv vs j)) : Rg vs := by
  have h3 := s.n3
  have nz : ∀ k, Hp (ed vs k) ∨ Hp (neg (ed vs k)) := fun k => by
    have h1 := s.turn k
    unfold Hp neg
    simp only
    by_cases e : (ed vs k).1 = 0
    · by_cases e2 : (ed vs k).2 = 0
      · unfold crs at h1; rw [e, e2] at h1; grind
      · rcases Rat.le_total (a := (ed vs k).2) (b := 0) with h | h
        · right; right; grind
        · left; right; grind
    · rcases Rat.le_total (a := (ed vs k).1) (b := 0) with h | h
      · right; left; grind
      · left; left; grind
  have first : Hp (ed vs 0) := (ltV_iff _ _).mp (hf 1 (by omega) (by omega))
  -- once down, down
  have mono : ∀ i, i + 1 < vs.length → Hp (neg (ed vs i)) → Hp (neg (ed vs (i + 1))) := fun i hi hd => by
    rcases nz (i + 1) with h | h
    · exfalso
      have hw := hf (i + 1) (by omega) hi
      rw [ltV_iff, ← neg_sub] at hw
      have g1 := s.ge i 0
      have g2 := s.ge (i + 1) 0
      rw [bend_crs] at g1 g2
      refine cone_up (a := neg (ed vs i)) (b := ed vs (i + 1)) (w := sub (pv vs 0) (pv vs (i + 1))) hd h ?_ g2 ?_ hw
      · rw [crs_neg_r, crs_swap]; have := s.turn i; grind
      · rw [crs_neg_r, crs_swap]
        unfold ed at *; unfold crs sub at *; grind
    · exact h
  have monoN : ∀ i j, i ≤ j → j < vs.length → Hp (neg (ed vs i)) → Hp (neg (ed vs j)) := fun i j => by
    intro hij
    induction j with
    | zero => intro _ h; have e0 : i = 0 := by omega
              rw [← e0]; exact h
    | succ j ih =>
      intro hj h
      by_cases e : i = j + 1
      · subst e; exact h
      · exact mono j hj (ih (by omega) (by omega) h)
  refine ⟨h3, fun i j hij hj => ?_⟩
  rcases nz i with hi | hi
  · rcases nz j with hj' | hj'
    · refine .inr (.inl ⟨hi, hj', ?_⟩)
      have up : ∀ k, k ≤ j → Hp (ed vs k) := fun k hk => by
        rcases nz k with h | h
        · exact h
        · exact absurd (monoN k j hk hj h) hj'.not_neg
      have : ∀ m, 0 < m → i + m ≤ j → 0 < crs (ed vs i) (ed vs (i + m)) := fun m => by
        induction m with
        | zero => intro h; omega
        | succ m ih =>
          intro _ hm
          by_cases e : m = 0
          · subst e; exact s.turn i
          · exact tr (up i (by omega)) (up (i + m) (by omega)) (up (i + m + 1) (by omega)) (Rat.le_of_lt (ih (by omega) (by omega))) (s.turn (i + m))
      have h := this (j - i) (by omega) (by omega)
      rwa [show i + (j - i) = j by omega] at h
    · exact .inl ⟨hi, hj'⟩
  · have hj' := monoN i j (by omega) hj hi
    refine .inr (.inr ⟨hi, hj', ?_⟩)
    have dn : ∀ k, i ≤ k → k < vs.length → Hp (neg (ed vs k)) := fun k hk hk2 => monoN i k hk hk2 hi
    have : ∀ m, 0 < m → i + m ≤ j → 0 < crs (neg (ed vs i)) (neg (ed vs (i + m))) := fun m => by
      induction m with
      | zero => intro h; omega
      | succ m ih =>
        intro _ hm
        have st := s.turn (i + m)
        rw [← crs_neg_neg] at st
        by_cases e : m = 0
        · subst e; exact st
        · exact tr (dn i (by omega) (by omega)) (dn (i + m) (by omega) (by omega)) (dn (i + m + 1) (by omega) (by omega)) (Rat.le_of_lt (ih (by omega) (by omega))) st
    have h := this (j - i) (by omega) (by omega)
    rw [crs_neg_neg] at h
    rwa [show i + (j - i) = j by omega] at h
/-! ### begun elsewhere -/
def rot (s : Nat) (vs : List V2) : List V2 := vs.drop s ++ vs.take s
theorem rot_len {s : Nat} {vs : List V2} (h : s ≤ vs.length) : (rot s vs).length = vs.length := by unfold rot; simp; omega
theorem pv_rot {s : Nat} {vs : List V2} (h : s < vs.length) (i : Nat) : pv (rot s vs) i = pv vs (i + s) := by
  unfold pv
  rw [rot_len (by omega)]
  have hi := Nat.mod_lt i (show 0 < vs.length by omega)
  generalize hj : i % vs.length = j at hi
  have e : (i + s) % vs.length = (j + s) % vs.length := by rw [← hj, Nat.mod_add_mod]
  rw [e]
  unfold rot
  rw [List.getD_eq_getElem?_getD, List.getD_eq_getElem?_getD]
  by_cases h2 : j + s < vs.length
  · rw [Nat.mod_eq_of_lt h2, List.getElem?_append_left (by simp; omega), List.getElem?_drop, Nat.add_comm s j]
  · have : (j + s) % vs.length = j + s - vs.length := by
      rw [Nat.mod_eq_sub_mod (by omega), Nat.mod_eq_of_lt (by omega)]
    rw [this, List.getElem?_append_right (by simp; omega), List.length_drop, List.getElem?_take_of_lt (by omega)]
    congr 2; omega
theorem SC.rot {s : Nat} {vs : List V2} (c : SC vs) (h : s < vs.length) : SC (rot s vs) := by
  refine ⟨by rw [rot_len (by omega)]; exact c.n3, fun k t t0 t1 => ?_⟩
  rw [rot_len (by omega)] at t1
  rw [pv_rot h, pv_rot h, pv_rot h, show k + 1 + s = k + s + 1 by omega, show k + 1 + t + s = k + s + 1 + t by omega]
  exact c.lf (k + s) t t0 t1
theorem pv_map' {g : V2 → V2} (vs : List V2) (i : Nat) (h : 0 < vs.length) : pv (vs.map g) i = g (pv vs i) := by
  unfold pv
  have hi := Nat.mod_lt i h
  rw [List.length_map, List.getD_eq_getElem?_getD, List.getD_eq_getElem?_getD, List.getElem?_map, List.getElem?_eq_getElem hi]; rfl
theorem SC.neg {vs : List V2} (c : SC vs) : SC (vs.map neg) := by
  have h3 := c.n3
  refine ⟨by rw [List.length_map]; exact h3, fun k t t0 t1 => ?_⟩
  rw [List.length_map] at t1
  rw [pv_map' _ _ (by omega), pv_map' _ _ (by omega), pv_map' _ _ (by omega)]
  have := c.lf k t t0 t1
  unfold bendQ Ge.neg at *; grind
theorem pv_ext {as bs : List V2} (hl : as.length = bs.length) (h : ∀ i, i < as.length → pv as i = pv bs i) : as = bs := by
  refine List.ext_getElem? fun i => ?_
  by_cases hi : i < as.length
  · have := h i hi
    unfold pv at this
    rw [Nat.mod_eq_of_lt hi, Nat.mod_eq_of_lt (by omega), List.getD_eq_getElem?_getD, List.getD_eq_getElem?_getD, List.getElem?_eq_getElem hi, List.getElem?_eq_getElem (by omega)] at this
    rw [List.getElem?_eq_getElem hi, List.getElem?_eq_getElem (by omega)]
    exact congrArg some this
  · rw [List.getElem?_eq_none (by omega), List.getElem?_eq_none (by omega)]
/-- corners are unlike -/
theorem SC.inj {vs : List V2} (c : SC vs) {i j : Nat} (hi : i < vs.length) (hj : j < vs.length) (h : pv vs i = pv vs j) : i = j := by
  have key : ∀ i j, i < j → j < vs.length → pv vs i ≠ pv vs j := fun i j hij hj e => by
    by_cases h1 : j = i + 1
    · subst h1
      have := c.lf i 1 (by omega) (by have := c.n3; omega)
      rw [← e] at this
      unfold bendQ at this; grind
    · have := c.lf i (j - (i + 1)) (by omega) (by omega)
      rw [show i + 1 + (j - (i + 1)) = j by omega, ← e] at this
      unfold bendQ at this; grind
  rcases Nat.lt_trichotomy i j with h1 | h1 | h1
  · exact absurd h (key i j h1 hj)
  · exact h1
  · exact absurd h.symm (key j i h1 hi)
/-- the place of the corner that comes ahead of all -/
def FirstAt (vs : List V2) (s : Nat) : Prop := s < vs.length ∧ ∀ j, j < vs.length → j ≠ s → ltV (pv vs s) (pv vs j)
theorem FirstAt.uniq {vs : List V2} {s t : Nat} (a : FirstAt vs s) (b : FirstAt vs t) : s = t := by
  by_cases e : s = t
  · exact e
  · exact absurd (ltV_trans (a.2 t b.1 (Ne.symm e)) (b.2 s a.1 e)) (ltV_irrefl _)
theorem Rg.firstAt {vs : List V2} (r : Rg vs) : FirstAt vs 0 := ⟨by have := r.n3; omega, fun j hj h => r.first (by omega) hj⟩
theorem Rg.of_first {vs : List V2} {s : Nat} (c : SC vs) (h : FirstAt vs s) : Rg (rot s vs) := by
  have hl := rot_len (vs := vs) (s := s) (by have := h.1; omega)
  refine Rg.of_sc (c.rot h.1) fun j h0 hj => ?_
  rw [hl] at hj
  rw [pv_rot h.1, pv_rot h.1, Nat.zero_add]
  have : pv vs (j + s) = pv vs ((j + s) % vs.length) := (pv_mod _ _).symm
  rw [this]
  refine h.2 _ (Nat.mod_lt _ (by omega)) fun e => ?_
  have hs := h.1
  by_cases h2 : j + s < vs.length
  · rw [Nat.mod_eq_of_lt h2] at e; omega
  · rw [Nat.mod_eq_sub_mod (by omega), Nat.mod_eq_of_lt (by omega)] at e; omega
end Ge

/-! GEO3: what lies within a ring; rings are told the one way; two rings' ways merged. -/
namespace Ge
/-! ### within -/
def InH (vs : List V2) (q : V2) : Prop := ∀ k, 0 ≤ bendQ (pv vs k) (pv vs (k + 1)) q
theorem SC.inH {vs : List V2} (s : SC vs) (j : Nat) : InH vs (pv vs j) := fun k => s.ge k j
theorem inH_lt {vs : List V2} {q : V2} (h0 : 0 < vs.length) (h : ∀ k, k < vs.length → 0 ≤ bendQ (pv vs k) (pv vs (k + 1)) q) : InH vs q := fun k => by
  have := h (k % vs.length) (Nat.mod_lt _ h0)
  rwa [pv_mod, pv_congr (i := k % vs.length + 1) (j := k + 1) (by rw [Nat.mod_add_mod])] at this
/-- least corner for a direction -/
def LowAt (vs : List V2) (w : V2) (k : Nat) : Prop := ∀ j, 0 ≤ crs w (sub (pv vs j) (pv vs k))
theorem low_ex (vs : List V2) (w : V2) (h0 : 0 < vs.length) : ∃ k, k < vs.length ∧ LowAt vs w k := by
  have : ∀ n, 0 < n → n ≤ vs.length → ∃ k, k < n ∧ ∀ j, j < n → 0 ≤ crs w (sub (pv vs j) (pv vs k)) := by
    intro n
    induction n with
    | zero => intro h; omega
    | succ n ih =>
      intro _ hn
      by_cases e : n = 0
      · subst e
        refine ⟨0, by omega, fun j hj => ?_⟩
        have : j = 0 := by omega
        subst this
        unfold crs sub; grind
      · obtain ⟨k, hk, h⟩ := ih (by omega) (by omega)
        by_cases c : 0 ≤ crs w (sub (pv vs n) (pv vs k))
        · refine ⟨k, by omega, fun j hj => ?_⟩
          by_cases ej : j = n
          · subst ej; exact c
          · exact h j (by omega)
        · refine ⟨n, by omega, fun j hj => ?_⟩
          by_cases ej : j = n
          · subst ej; unfold crs sub; grind
          · have := h j (by omega)
            unfold crs sub at *; grind
  obtain ⟨k, hk, h⟩ := this vs.length h0 (Nat.le_refl _)
  exact ⟨k, hk, fun j => by rw [← pv_mod vs j]; exact h _ (Nat.mod_lt _ h0)⟩
theorem plu2 (x y w z : V2) : crs x y * crs w z = crs w y * crs x z + crs x w * crs y z := by unfold crs; grind
theorem LowAt.all {vs : List V2} (s : SC vs) {w : V2} {k : Nat} (h : LowAt vs w k) {q : V2} (hq : InH vs q) : 0 ≤ crs w (sub q (pv vs k)) := by
  have h3 := s.n3
  -- the side that comes in, the side that leads on
  obtain ⟨m, hm⟩ : ∃ m, pv vs (m + 1) = pv vs k := ⟨k + (vs.length - 1), by rw [show k + (vs.length - 1) + 1 = k + vs.length by omega, pv_add]⟩
  have hm2 : pv vs (m + 2) = pv vs (k + 1) := by
    have e1 : pv vs (m + 1) = pv vs k := hm
    by_cases hk : (m + 1) % vs.length = k % vs.length
    · exact pv_congr (by rw [show m + 2 = m + 1 + 1 by omega, ← Nat.mod_add_mod, hk, Nat.mod_add_mod])
    · exact absurd (s.inj (Nat.mod_lt _ (by omega)) (Nat.mod_lt _ (by omega)) (by rw [pv_mod, pv_mod, e1])) hk
  have t := s.turn m
  have c1 := h (m + 2)
  have c2 := h m
  have q1 := hq m
  have q2 := hq (m + 1)
  rw [bend_crs] at q1 q2
  rw [show m + 1 + 1 = m + 2 by omega] at q2
  have e := plu2 (ed vs m) (ed vs (m + 1)) w (sub q (pv vs k))
  unfold ed at t e
  rw [show m + 1 + 1 = m + 2 by omega] at t e
  rw [← hm] at c1 c2 e ⊢
  refine nn_of_mul t ?_
  rw [e]
  have a1 : 0 ≤ crs (sub (pv vs (m + 1)) (pv vs m)) (sub q (pv vs (m + 1))) := by unfold crs sub at *; grind
  have a2 : 0 ≤ crs (sub (pv vs (m + 1)) (pv vs m)) w := by unfold crs sub at *; grind
  have m1 := mul_nn c1 a1
  have m2 := mul_nn a2 q2
  grind
theorem Rg.inH_first {vs : List V2} (r : Rg vs) {q : V2} (hq : InH vs q) : ¬ ltV q (pv vs 0) := fun hlt => by
  have h3 := r.n3
  have s := r.sc
  have hw : Hp (neg (sub q (pv vs 0))) := by rw [neg_sub]; exact (ltV_iff _ _).mp hlt
  have g1 := hq (vs.length - 1)
  have g2 := hq 0
  have e1 : pv vs (vs.length - 1 + 1) = pv vs 0 := by
    have := pv_add vs 0
    rwa [show 0 + vs.length = vs.length - 1 + 1 by omega] at this
  have h1 := (ltV_iff _ _).mp (r.first (j := 1) (by omega) (by omega))
  have h2 := (ltV_iff _ _).mp (r.first (j := vs.length - 1) (by omega) (by omega))
  have t := s.turn (vs.length - 1)
  unfold ed at t
  have e2 : pv vs (vs.length - 1 + 1 + 1) = pv vs 1 := by
    have := pv_add vs 1
    rwa [show 1 + vs.length = vs.length - 1 + 1 + 1 by omega] at this
  rw [e1, e2] at t
  rw [bend_crs] at g1 g2
  rw [e1] at g1
  rw [show 0 + 1 = 1 from rfl] at g2
  refine cone_up (a := sub (pv vs (vs.length - 1)) (pv vs 0)) (b := sub (pv vs 1) (pv vs 0)) (w := sub q (pv vs 0)) h2 h1 ?_ g2 ?_ hw
  · unfold crs sub at *; grind
  · unfold crs sub at *; grind
/-- corner after corner -/
theorem next_eq {ps qs : List V2} (sp : SC ps) (sq : SC qs) (hp : ∀ j, InH qs (pv ps j)) (hq : ∀ j, InH ps (pv qs j)) {i : Nat} (e : pv ps (i + 1) = pv qs (i + 1)) : pv ps (i + 2) = pv qs (i + 2) := by
  have key : ∀ {ps qs : List V2}, SC ps → SC qs → (∀ j, InH qs (pv ps j)) → (∀ j, InH ps (pv qs j)) → pv ps (i + 1) = pv qs (i + 1) → crs (sub (pv ps (i + 2)) (pv ps (i + 1))) (sub (pv qs (i + 2)) (pv ps (i + 1))) = 0 ∧ 0 ≤ crs (sub (pv ps (i + 1)) (pv ps i)) (sub (pv qs (i + 2)) (pv ps (i + 1))) ∧ 0 ≤ crs (sub (pv ps (i + 3)) (pv ps (i + 2))) (sub (pv qs (i + 2)) (pv ps (i + 2))) ∧ 0 < crs (sub (pv ps (i + 1)) (pv ps i)) (sub (pv ps (i + 2)) (pv ps (i + 1))) ∧ 0 < crs (sub (pv ps (i + 2)) (pv ps (i + 1))) (sub (pv ps (i + 3)) (pv ps (i + 2))) := by
    intro ps qs sp sq hp hq e
    have a1 := hq (i + 2) (i + 1)
    have a2 := hp (i + 2) (i + 1)
    have a3 := hq (i + 2) i
    have a4 := hq (i + 2) (i + 2)
    have t1 := sp.turn i
    have t2 := sp.turn (i + 1)
    unfold ed at t1 t2
    rw [show i + 1 + 1 = i + 2 by omega] at *
    rw [show i + 2 + 1 = i + 3 by omega] at *
    rw [bend_crs] at a1 a2 a3 a4
    rw [← e] at a2
    refine ⟨?_, ?_, a4, t1, t2⟩
    · unfold crs sub at *; grind
    · unfold crs sub at *; grind
  obtain ⟨p1, p2, p3, p4, p5⟩ := key sp sq hp hq e
  obtain ⟨q1, q2, q3, q4, q5⟩ := key sq sp hq hp e.symm
  rw [← e] at q1 q2 q4 q5
  generalize pv ps (i + 1) = v at *
  generalize pv ps (i + 2) = x at *
  generalize pv qs (i + 2) = y at *
  generalize pv ps i = u at *
  generalize pv qs i = u' at *
  generalize pv ps (i + 3) = z at *
  generalize pv qs (i + 3) = z' at *
  -- y - v is the way x - v, times something
  have d0 : crs (sub v u) (sub x v) ≠ 0 := by grind
  have ey1 : crs (sub v u) (sub x v) * (y.1 - v.1) = crs (sub v u) (sub y v) * (x.1 - v.1) := by
    have := plu (sub v u) (sub x v) (sub y v)
    unfold crs sub at *; grind
  have ey2 : crs (sub v u) (sub x v) * (y.2 - v.2) = crs (sub v u) (sub y v) * (x.2 - v.2) := by unfold crs sub at *; grind
  obtain ⟨l, hl⟩ : ∃ l, crs (sub v u) (sub y v) = l * crs (sub v u) (sub x v) := ⟨crs (sub v u) (sub y v) / crs (sub v u) (sub x v), by grind⟩
  have f1 : y.1 - v.1 = l * (x.1 - v.1) := by
    rw [hl] at ey1
    have : crs (sub v u) (sub x v) * (y.1 - v.1 - l * (x.1 - v.1)) = 0 := by grind
    have := zero_of_mul p4 this
    grind
  have f2 : y.2 - v.2 = l * (x.2 - v.2) := by
    rw [hl] at ey2
    have : crs (sub v u) (sub x v) * (y.2 - v.2 - l * (x.2 - v.2)) = 0 := by grind
    have := zero_of_mul p4 this
    grind
  have l0 : 0 ≤ l := by
    rw [hl] at p2
    exact nn_of_mul p4 (by grind)
  have l1 : l ≤ 1 := by
    have e3 : crs (sub z x) (sub y x) = (1 - l) * crs (sub x v) (sub z x) := by
      have y1 : y.1 - x.1 = (l - 1) * (x.1 - v.1) := by grind
      have y2 : y.2 - x.2 = (l - 1) * (x.2 - v.2) := by grind
      unfold crs sub
      simp only
      rw [y1, y2]; grind
    rw [e3] at p3
    have := nn_of_mul (a := crs (sub x v) (sub z x)) (b := 1 - l) p5 (by grind)
    grind
  have l2 : 1 ≤ l := by
    -- the other way about
    have lp : 0 < l := by
      rcases Rat.le_iff_lt_or_eq.mp l0 with h | h
      · exact h
      · exfalso
        rw [← h] at f1 f2
        have : crs (sub v u') (sub y v) = 0 := by unfold crs sub; simp only; rw [f1, f2]; grind
        grind
    have e3 : crs (sub z' y) (sub x y) * l = (l - 1) * crs (sub y v) (sub z' y) := by
      have y1 : l * (x.1 - y.1) = (1 - l) * (y.1 - v.1) := by grind
      have y2 : l * (x.2 - y.2) = (1 - l) * (y.2 - v.2) := by grind
      have : crs (sub z' y) (sub x y) * l = (z'.1 - y.1) * (l * (x.2 - y.2)) - (z'.2 - y.2) * (l * (x.1 - y.1)) := by unfold crs sub; grind
      rw [this, y1, y2]; unfold crs sub; grind
    have m1 := mul_nn q3 l0
    rw [e3] at m1
    have := nn_of_mul (a := crs (sub y v) (sub z' y)) (b := l - 1) q5 (by grind)
    grind
  have le : l = 1 := by grind
  rw [le] at f1 f2
  exact Prod.ext (by grind) (by grind)
/-- a ring is told by what lies within it -/
theorem Rg.uniq {ps qs : List V2} (rp : Rg ps) (rq : Rg qs) (hp : ∀ p ∈ ps, InH qs p) (hq : ∀ q ∈ qs, InH ps q) : ps = qs := by
  have p3 := rp.n3; have q3 := rq.n3
  have mem : ∀ (vs : List V2), 0 < vs.length → ∀ k, pv vs k ∈ vs := fun vs h k => by
    unfold pv
    have hi := Nat.mod_lt k h
    rw [List.getD_eq_getElem?_getD, List.getElem?_eq_getElem hi]
    exact List.getElem_mem hi
  have hp' := fun j => hp _ (mem ps (by omega) j)
  have hq' := fun j => hq _ (mem qs (by omega) j)
  have e0 : pv ps 0 = pv qs 0 := by
    have h1 := rq.inH_first (hp' 0)
    have h2 := rp.inH_first (hq' 0)
    unfold ltV at h1 h2
    exact Prod.ext (by grind) (by grind)
  -- places that go on for ever, from a late one
  have wrap : ∀ (n i : Nat), pv ps (i + n * ps.length) = pv ps i := fun n i => by
    induction n with
    | zero => rw [Nat.zero_mul, Nat.add_zero]
    | succ n ih => rw [Nat.succ_mul, ← Nat.add_assoc, pv_add, ih]
  have wrapq : ∀ (n i : Nat), pv qs (i + n * qs.length) = pv qs i := fun n i => by
    induction n with
    | zero => rw [Nat.zero_mul, Nat.add_zero]
    | succ n ih => rw [Nat.succ_mul, ← Nat.add_assoc, pv_add, ih]
  have all : ∀ i, pv ps (i + ps.length * qs.length) = pv qs (i + ps.length * qs.length) := by
    intro i
    induction i with
    | zero =>
      have h1 := wrap qs.length 0
      have h2 := wrapq ps.length 0
      rw [Nat.mul_comm] at h1
      rw [h1, h2, e0]
    | succ i ih =>
      have hpos : 9 ≤ ps.length * qs.length := Nat.mul_le_mul p3 q3
      obtain ⟨m, hm⟩ : ∃ m, i + ps.length * qs.length = m + 1 := ⟨i + ps.length * qs.length - 1, by omega⟩
      rw [hm] at ih
      have := next_eq rp.sc rq.sc hp' hq' ih
      rw [show i + 1 + ps.length * qs.length = m + 2 by omega]; exact this
  have every : ∀ i, pv ps i = pv qs i := fun i => by
    have h1 := wrap qs.length i
    have h2 := wrapq ps.length i
    rw [Nat.mul_comm] at h1
    rw [← h1, all i, h2]
  have len : ∀ {ps qs : List V2}, SC ps → SC qs → (∀ i, pv ps i = pv qs i) → ps.length ≤ qs.length := fun {ps qs} sp sq h => by
    have h3 := sp.n3; have h4 := sq.n3
    rcases Nat.lt_or_ge qs.length ps.length with hl | hl
    · have h5 : pv ps qs.length = pv ps 0 := by
        rw [h, h]
        have := pv_add qs 0
        rwa [Nat.zero_add] at this
      have := sp.inj hl (by omega) h5
      omega
    · exact hl
  exact pv_ext (Nat.le_antisymm (len rp.sc rq.sc every) (len rq.sc rp.sc fun i => (every i).symm)) fun i _ => every i
end Ge

/-! GEO4: the sum of two rings: their ways merged by angle. -/
namespace Ge
theorem ang_trans {x y z : V2} (h1 : ang x y) (h2 : ang y z) : ang x z := by
  rcases h1 with ⟨a, b⟩ | ⟨a, b, c⟩ | ⟨a, b, c⟩
  · rcases h2 with ⟨a', _⟩ | ⟨a', _⟩ | ⟨_, b', _⟩
    · exact absurd b a'.not_neg
    · exact absurd b a'.not_neg
    · exact .inl ⟨a, b'⟩
  · rcases h2 with ⟨_, b'⟩ | ⟨_, b', c'⟩ | ⟨a', _, _⟩
    · exact .inl ⟨a, b'⟩
    · exact .inr (.inl ⟨a, b', tr a b b' (Rat.le_of_lt c) c'⟩)
    · exact absurd a' b.not_neg
  · rcases h2 with ⟨a', _⟩ | ⟨a', _⟩ | ⟨_, b', c'⟩
    · exact absurd b a'.not_neg
    · exact absurd b a'.not_neg
    · refine .inr (.inr ⟨a, b', ?_⟩)
      have := tr a b b' (by rw [crs_neg_neg]; exact Rat.le_of_lt c) (by rw [crs_neg_neg]; exact c')
      rwa [crs_neg_neg] at this
theorem ang_irrefl {x : V2} : ¬ ang x x := by
  rintro (⟨a, b⟩ | ⟨_, _, c⟩ | ⟨_, _, c⟩)
  · exact a.not_neg b
  · rw [crs_self] at c; grind
  · rw [crs_self] at c; grind
/-- the same way -/
def codir (x y : V2) : Prop := crs x y = 0 ∧ ((Hp x ∧ Hp y) ∨ (Hp (neg x) ∧ Hp (neg y)))
theorem codir.symm {x y : V2} (h : codir x y) : codir y x := ⟨by rw [crs_swap, h.1]; grind, by rcases h.2 with h | h; exact .inl ⟨h.2, h.1⟩; exact .inr ⟨h.2, h.1⟩⟩
theorem codir_refl {x : V2} (h : Hp x ∨ Hp (neg x)) : codir x x := ⟨crs_self x, by rcases h with h | h; exact .inl ⟨h, h⟩; exact .inr ⟨h, h⟩⟩
theorem ang_codir {x y z : V2} (h1 : ang x y) (h2 : codir y z) : ang x z := by
  obtain ⟨e, h2⟩ := h2
  rcases h1 with ⟨a, b⟩ | ⟨a, b, c⟩ | ⟨a, b, c⟩
  · rcases h2 with ⟨h, _⟩ | ⟨_, h⟩
    · exact absurd b h.not_neg
    · exact .inl ⟨a, h⟩
  · rcases h2 with ⟨_, h⟩ | ⟨h, _⟩
    · exact .inr (.inl ⟨a, h, tr' a b h c (by rw [e]; exact Rat.le_refl)⟩)
    · exact absurd h b.not_neg
  · rcases h2 with ⟨h, _⟩ | ⟨_, h⟩
    · exact absurd b h.not_neg
    · refine .inr (.inr ⟨a, h, ?_⟩)
      have := tr' a b h (by rw [crs_neg_neg]; exact c) (by rw [crs_neg_neg, e]; exact Rat.le_refl)
      rwa [crs_neg_neg] at this
theorem codir_ang {x y z : V2} (h1 : codir x y) (h2 : ang y z) : ang x z := by
  obtain ⟨e, h1⟩ := h1
  rcases h2 with ⟨a, b⟩ | ⟨a, b, c⟩ | ⟨a, b, c⟩
  · rcases h1 with ⟨h, _⟩ | ⟨_, h⟩
    · exact .inl ⟨h, b⟩
    · exact absurd h a.not_neg
  · rcases h1 with ⟨h, _⟩ | ⟨_, h⟩
    · exact .inr (.inl ⟨h, b, tr h a b (by rw [e]; exact Rat.le_refl) c⟩)
    · exact absurd h a.not_neg
  · rcases h1 with ⟨_, h⟩ | ⟨h, _⟩
    · exact absurd a h.not_neg
    · refine .inr (.inr ⟨h, b, ?_⟩)
      have := tr h a b (by rw [crs_neg_neg, e]; exact Rat.le_refl) (by rw [crs_neg_neg]; exact c)
      rwa [crs_neg_neg] at this
theorem codir_hp {x y z : V2} (hx : Hp x) (hy : Hp y) (e : crs x y = 0) (h : 0 ≤ crs x z) : 0 ≤ crs y z := by
  have a := hx.x; have b := hy.x
  have e1 : x.1 * crs y z = y.1 * crs x z - z.1 * crs x y := by unfold crs; grind
  rw [e] at e1
  rcases Rat.le_iff_lt_or_eq.mp a with h1 | h1
  · exact nn_of_mul h1 (by rw [e1]; have := mul_nn b h; grind)
  · have x2 : 0 < x.2 := by unfold Hp at hx; grind
    have y1 : y.1 = 0 := by
      unfold crs at e; rw [← h1] at e
      exact zero_of_mul x2 (by grind)
    have y2 : 0 < y.2 := by unfold Hp at hy; grind
    have z1 : z.1 ≤ 0 := by
      have : 0 ≤ -z.1 := nn_of_mul x2 (by unfold crs at h; rw [← h1] at h; grind)
      grind
    have := mul_nn (a := y.2) (b := -z.1) (by grind) (by grind)
    unfold crs; rw [y1]; grind
theorem codir_crs {x y z : V2} (h : codir x y) (hz : 0 ≤ crs x z) : 0 ≤ crs y z := by
  rcases h.2 with ⟨a, b⟩ | ⟨a, b⟩
  · exact codir_hp a b h.1 hz
  · have := codir_hp (x := neg x) (y := neg y) (z := neg z) a b (by rw [crs_neg_neg]; exact h.1) (by rw [crs_neg_neg]; exact hz)
    rwa [crs_neg_neg] at this
theorem hp_add {x y : V2} (h1 : Hp x) (h2 : Hp y) : Hp (add x y) := by unfold Hp add at *; grind
theorem neg_add (x y : V2) : neg (add x y) = add (neg x) (neg y) := by unfold neg add; simp only [Prod.mk.injEq]; constructor <;> grind
theorem codir_add {x y : V2} (h : codir x y) : codir x (add x y) := by
  refine ⟨?_, ?_⟩
  · have := h.1
    unfold crs add at *; grind
  · rcases h.2 with ⟨a, b⟩ | ⟨a, b⟩
    · exact .inl ⟨a, hp_add a b⟩
    · exact .inr ⟨a, by rw [neg_add]; exact hp_add a b⟩
theorem codir_add' {x y : V2} (h : codir x y) : codir y (add x y) := by
  have := codir_add h.symm
  have e : add y x = add x y := by unfold add; simp only [Prod.mk.injEq]; constructor <;> grind
  rwa [e] at this
theorem Rg.up0 {vs : List V2} (r : Rg vs) : Hp (ed vs 0) := (ltV_iff _ _).mp (r.first (j := 1) (by omega) (by have := r.n3; omega))
/-! ### where two rows of ways stand -/
structure Inv (A B : List V2) (k j : Nat) : Prop where
  km : k ≤ A.length
  jn : j ≤ B.length
  ab : ∀ t, t < k → j < B.length → ang (ed A t) (ed B j)
  ba : ∀ t, t < j → k < A.length → ang (ed B t) (ed A k)
theorem cmp_half {A B : List V2} (rA : Rg A) (rB : Rg B) {k j : Nat} (I : Inv A B k j) (hk : k < A.length) (hj : j < B.length) (h1 : Hp (ed A k)) (h2 : Hp (neg (ed B j))) : 0 < crs (ed A k) (ed B j) := by
  -- b comes down: a way of B stands ahead
  obtain ⟨i, rfl⟩ : ∃ i, j = i + 1 := ⟨j - 1, by
    have : j ≠ 0 := fun e => by subst e; exact rB.up0.not_neg h2
    omega⟩
  have hb := I.ba i (by omega) hk
  have ht := rB.sc.turn i
  rcases hb with ⟨_, b⟩ | ⟨a', _, c⟩ | ⟨_, b, _⟩
  · exact absurd b h1.not_neg
  · rcases Rat.le_total (a := crs (ed A k) (ed B (i + 1))) (b := 0) with h | h
    · exfalso
      have := tr' a' h1 h2 c (by rw [crs_neg_r]; grind)
      rw [crs_neg_r] at this; grind
    · rcases Rat.le_iff_lt_or_eq.mp h with h | h
      · exact h
      · exfalso
        have := tr' a' h1 h2 c (by rw [crs_neg_r]; grind)
        rw [crs_neg_r] at this; grind
  · exact absurd b h1.not_neg
theorem Inv.symm {A B : List V2} {k j : Nat} (I : Inv A B k j) : Inv B A j k := ⟨I.jn, I.km, I.ba, I.ab⟩
theorem cmp {A B : List V2} (rA : Rg A) (rB : Rg B) {k j : Nat} (I : Inv A B k j) (hk : k < A.length) (hj : j < B.length) :
    (0 < crs (ed A k) (ed B j) → ang (ed A k) (ed B j)) ∧ (crs (ed A k) (ed B j) < 0 → ang (ed B j) (ed A k)) ∧ (crs (ed A k) (ed B j) = 0 → codir (ed A k) (ed B j)) := by
  rcases rA.nz hk with a | a
  · rcases rB.nz hj with b | b
    · exact ⟨fun h => .inr (.inl ⟨a, b, h⟩), fun h => .inr (.inl ⟨b, a, by rw [crs_swap]; grind⟩), fun h => ⟨h, .inl ⟨a, b⟩⟩⟩
    · have := cmp_half rA rB I hk hj a b
      exact ⟨fun _ => .inl ⟨a, b⟩, fun h => by grind, fun h => by grind⟩
  · rcases rB.nz hj with b | b
    · have := cmp_half rB rA I.symm hj hk b a
      rw [crs_swap] at this
      exact ⟨fun h => by grind, fun _ => .inl ⟨b, a⟩, fun h => by grind⟩
    · exact ⟨fun h => .inr (.inr ⟨a, b, h⟩), fun h => .inr (.inr ⟨b, a, by rw [crs_swap]; grind⟩), fun h => ⟨h, .inr ⟨a, b⟩⟩⟩
/-! ### the steps -/
def nxt (A B : List V2) (s : Nat × Nat) : Nat × Nat :=
  if s.1 < A.length then (if s.2 < B.length then (if 0 < crs (ed A s.1) (ed B s.2) then (s.1 + 1, s.2) else if crs (ed A s.1) (ed B s.2) < 0 then (s.1, s.2 + 1) else (s.1 + 1, s.2 + 1)) else (s.1 + 1, s.2))
  else if s.2 < B.length then (s.1, s.2 + 1) else s
def wayM (A B : List V2) (s : Nat × Nat) : V2 :=
  if s.1 < A.length then (if s.2 < B.length then (if 0 < crs (ed A s.1) (ed B s.2) then ed A s.1 else if crs (ed A s.1) (ed B s.2) < 0 then ed B s.2 else add (ed A s.1) (ed B s.2)) else ed A s.1)
  else ed B s.2
def Live (A B : List V2) (s : Nat × Nat) : Prop := s.1 < A.length ∨ s.2 < B.length
instance (A B : List V2) (s : Nat × Nat) : Decidable (Live A B s) := inferInstanceAs (Decidable (s.1 < A.length ∨ s.2 < B.length))
/-- what one step does -/
inductive Step (A B : List V2) (k j : Nat) : Nat × Nat → V2 → Prop
  | a : k < A.length → (∀ t, j ≤ t → t < B.length → ang (ed A k) (ed B t)) → Step A B k j (k + 1, j) (ed A k)
  | b : j < B.length → (∀ t, k ≤ t → t < A.length → ang (ed B j) (ed A t)) → Step A B k j (k, j + 1) (ed B j)
  | ab : k < A.length → j < B.length → codir (ed A k) (ed B j) → Step A B k j (k + 1, j + 1) (add (ed A k) (ed B j))
theorem rest_ang {A : List V2} (r : Rg A) {w : V2} {k : Nat} (h : k < A.length → ang w (ed A k)) : ∀ t, k ≤ t → t < A.length → ang w (ed A t) := fun t h1 h2 => by
  by_cases e : t = k
  · subst e; exact h h2
  · exact ang_trans (h (by omega)) (r.srt k t (by omega) h2)
theorem step_ok {A B : List V2} (rA : Rg A) (rB : Rg B) {k j : Nat} (I : Inv A B k j) (hl : Live A B (k, j)) : Step A B k j (nxt A B (k, j)) (wayM A B (k, j)) := by
  unfold nxt wayM
  simp only
  by_cases hk : k < A.length
  · by_cases hj : j < B.length
    · obtain ⟨c1, c2, c3⟩ := cmp rA rB I hk hj
      rw [if_pos hk, if_pos hj, if_pos hk, if_pos hj]
      by_cases h1 : 0 < crs (ed A k) (ed B j)
      · rw [if_pos h1, if_pos h1]
        exact .a hk (rest_ang rB fun _ => c1 h1)
      · rw [if_neg h1, if_neg h1]
        by_cases h2 : crs (ed A k) (ed B j) < 0
        · rw [if_pos h2, if_pos h2]
          exact .b hj (rest_ang rA fun _ => c2 h2)
        · rw [if_neg h2, if_neg h2]
          exact .ab hk hj (c3 (by grind))
    · rw [if_pos hk, if_neg hj, if_pos hk, if_neg hj]
      exact .a hk fun t h1 h2 => absurd h2 (by omega)
  · have hj : j < B.length := by rcases hl with h | h; exact absurd h hk; exact h
    rw [if_neg hk, if_pos hj, if_neg hk]
    exact .b hj fun t h1 h2 => absurd h2 (by omega)
theorem Step.inv {A B : List V2} (rA : Rg A) (rB : Rg B) {k j : Nat} {s : Nat × Nat} {w : V2} (h : Step A B k j s w) (I : Inv A B k j) : Inv A B s.1 s.2 := by
  cases h with
  | a hk hb =>
    refine ⟨by simp only; omega, I.jn, fun t ht hj => ?_, fun t ht hk2 => ?_⟩
    · simp only at ht hj ⊢
      by_cases e : t = k
      · subst e; exact hb j (Nat.le_refl _) hj
      · exact I.ab t (by omega) hj
    · simp only at ht hk2 ⊢
      exact ang_trans (I.ba t ht hk) (rA.srt k (k + 1) (by omega) hk2)
  | b hj ha =>
    refine ⟨I.km, by simp only; omega, fun t ht hj2 => ?_, fun t ht hk => ?_⟩
    · simp only at ht hj2 ⊢
      exact ang_trans (I.ab t ht hj) (rB.srt j (j + 1) (by omega) hj2)
    · simp only at ht hk ⊢
      by_cases e : t = j
      · subst e; exact ha k (Nat.le_refl _) hk
      · exact I.ba t (by omega) hk
  | ab hk hj hc =>
    refine ⟨by simp only; omega, by simp only; omega, fun t ht hj2 => ?_, fun t ht hk2 => ?_⟩
    · simp only at ht hj2 ⊢
      have hs := rB.srt j (j + 1) (by omega) hj2
      by_cases e : t = k
      · subst e; exact codir_ang hc hs
      · exact ang_trans (I.ab t (by omega) hj) hs
    · simp only at ht hk2 ⊢
      have hs := rA.srt k (k + 1) (by omega) hk2
      by_cases e : t = j
      · subst e; exact codir_ang hc.symm hs
      · exact ang_trans (I.ba t (by omega) hk) hs
/-- a step's way stands ahead of all that is left -/
theorem Step.ahead {A B : List V2} (rA : Rg A) (rB : Rg B) {k j : Nat} {s : Nat × Nat} {w : V2} (h : Step A B k j s w) : (∀ t, s.1 ≤ t → t < A.length → ang w (ed A t)) ∧ ∀ t, s.2 ≤ t → t < B.length → ang w (ed B t) := by
  cases h with
  | a hk hb => exact ⟨fun t h1 h2 => rA.srt k t h1 h2, hb⟩
  | b hj ha => exact ⟨ha, fun t h1 h2 => rB.srt j t h1 h2⟩
  | ab hk hj hc => exact ⟨fun t h1 h2 => codir_ang (codir_add hc).symm (rA.srt k t h1 h2), fun t h1 h2 => codir_ang (codir_add' hc).symm (rB.srt j t h1 h2)⟩
/-- a way that comes of what is left -/
theorem Step.of_rest {A B : List V2} {k j : Nat} {s : Nat × Nat} {w u : V2} (h : Step A B k j s w) (h1 : ∀ t, k ≤ t → t < A.length → ang u (ed A t)) (h2 : ∀ t, j ≤ t → t < B.length → ang u (ed B t)) : ang u w := by
  cases h with
  | a hk hb => exact h1 k (Nat.le_refl _) hk
  | b hj ha => exact h2 j (Nat.le_refl _) hj
  | ab hk hj hc => exact ang_codir (h1 k (Nat.le_refl _) hk) (codir_add hc)
theorem Step.mono {A B : List V2} {k j : Nat} {s : Nat × Nat} {w : V2} (h : Step A B k j s w) : k ≤ s.1 ∧ j ≤ s.2 ∧ k + j < s.1 + s.2 ∧ s.1 ≤ k + 1 ∧ s.2 ≤ j + 1 := by
  cases h <;> simp only <;> omega
/-! ### least corners by angle -/
theorem Rg.low_at {vs : List V2} (r : Rg vs) {w : V2} {k : Nat} (hk : k ≤ vs.length) (h1 : ∀ t, t < k → ang (ed vs t) w) (h2 : ∀ t, k ≤ t → t < vs.length → ang w (ed vs t)) : LowAt vs w k := by
  have h3 := r.n3
  have er : ∀ b, vs.length ≤ b → ed vs b = ed vs (b - vs.length) := fun b hb => by rw [← ed_add vs (b - vs.length), show b - vs.length + vs.length = b by omega]
  have hs : sm (fun i => crs w (ed vs (k + i))) vs.length = 0 := by
    rw [crs_sum, pv_add]; unfold crs sub; grind
  have uni : ∀ a b, a < b → b < vs.length → crs w (ed vs (k + a)) ≤ 0 → crs w (ed vs (k + b)) < 0 := fun a b hab hb h => by
    by_cases c1 : k + a < vs.length
    · by_cases c2 : k + b < vs.length
      · exact uni1 (h2 (k + a) (by omega) c1) (r.srt (k + a) (k + b) (by omega) c2) h
      · rw [er (k + b) (by omega)]
        exact uni3 (h2 (k + a) (by omega) c1) (h1 (k + b - vs.length) (by omega)) h
    · rw [er (k + b) (by omega)]
      rw [er (k + a) (by omega)] at h
      exact uni2 (r.srt (k + a - vs.length) (k + b - vs.length) (by omega) (by omega)) (h1 (k + b - vs.length) (by omega)) h
  have main : ∀ t, t < vs.length → 0 ≤ crs w (sub (pv vs (k + t)) (pv vs k)) := fun t ht => by
    by_cases e : t = 0
    · subst e; rw [Nat.add_zero]; unfold crs sub; grind
    · have := uni_sum (c := fun i => crs w (ed vs (k + i))) (fun a b hab hb h => uni a b hab hb h) hs (t := t) (by omega) ht
      rw [crs_sum] at this
      exact Rat.le_of_lt this
  intro j
  have h0 : 0 < vs.length := by omega
  have e : pv vs j = pv vs (k + (j + vs.length * k - k) % vs.length) := pv_congr (by
    have hk2 : k ≤ vs.length * k := Nat.le_mul_of_pos_left k h0
    rw [Nat.add_mod_mod, show k + (j + vs.length * k - k) = j + vs.length * k by omega, Nat.add_mul_mod_self_left])
  rw [e]
  exact main _ (Nat.mod_lt _ h0)
theorem SC.low_ed {vs : List V2} (s : SC vs) (k : Nat) : LowAt vs (ed vs k) k := fun j => by
  have := s.ge k j
  rw [bend_crs] at this; exact this
theorem LowAt.codir {vs : List V2} {x y : V2} {k : Nat} (h : LowAt vs x k) (c : codir x y) : LowAt vs y k := fun j => codir_crs c (h j)
/-- a step's way is least at the corners from which it leads -/
theorem Step.low {A B : List V2} (rA : Rg A) (rB : Rg B) {k j : Nat} {s : Nat × Nat} {w : V2} (h : Step A B k j s w) (I : Inv A B k j) : LowAt A w k ∧ LowAt B w j := by
  cases h with
  | a hk hb =>
    refine ⟨rA.sc.low_ed k, rB.low_at I.jn (fun t ht => I.ba t ht hk) hb⟩
  | b hj ha =>
    refine ⟨rA.low_at I.km (fun t ht => I.ab t ht hj) ha, rB.sc.low_ed j⟩
  | ab hk hj hc => exact ⟨(rA.sc.low_ed k).codir (codir_add hc), (rB.sc.low_ed j).codir (codir_add' hc)⟩
/-! ### the whole way -/
def it (A B : List V2) : Nat → Nat × Nat → Nat × Nat
  | 0, s => s
  | i + 1, s => it A B i (nxt A B s)
theorem it_succ (A B : List V2) : ∀ (i : Nat) (s : Nat × Nat), it A B (i + 1) s = nxt A B (it A B i s)
  | 0, _ => rfl
  | i + 1, s => it_succ A B i (nxt A B s)
def cntN (A B : List V2) : Nat → Nat × Nat → Nat
  | 0, _ => 0
  | f + 1, s => if Live A B s then cntN A B f (nxt A B s) + 1 else 0
def corner (A B : List V2) (s : Nat × Nat) : V2 := add (pv A s.1) (pv B s.2)
def sumN (A B : List V2) : Nat := cntN A B (A.length + B.length) (0, 0)
def stA (A B : List V2) (i : Nat) : Nat × Nat := it A B i (0, 0)
/-- the sum of two rings -/
def sumS (A B : List V2) : List V2 := (List.range (sumN A B)).map fun i => corner A B (stA A B i)
theorem inv0 (A B : List V2) : Inv A B 0 0 := ⟨Nat.zero_le _, Nat.zero_le _, fun t h => absurd h (by omega), fun t h => absurd h (by omega)⟩
theorem cnt_ok {A B : List V2} (rA : Rg A) (rB : Rg B) : ∀ (f : Nat) (s : Nat × Nat), Inv A B s.1 s.2 → (A.length - s.1) + (B.length - s.2) ≤ f →
    (∀ i, i < cntN A B f s → Live A B (it A B i s) ∧ Inv A B (it A B i s).1 (it A B i s).2) ∧ it A B (cntN A B f s) s = (A.length, B.length)
  | 0, s, I, h => ⟨fun i hi => absurd hi (by simp [cntN]), by
    have := I.km; have := I.jn
    show s = _
    exact Prod.ext (by simp only; omega) (by simp only; omega)⟩
  | f + 1, s, I, h => by
    by_cases hl : Live A B s
    · have st : Step A B s.1 s.2 (nxt A B s) (wayM A B s) := step_ok rA rB I hl
      have I2 := st.inv rA rB I
      have mo := st.mono
      have k1 := I2.km; have k2 := I2.jn
      have k3 := I.km; have k4 := I.jn
      obtain ⟨h1, h2⟩ := cnt_ok rA rB f (nxt A B s) I2 (by omega)
      have e : cntN A B (f + 1) s = cntN A B f (nxt A B s) + 1 := by rw [cntN, if_pos hl]
      rw [e]
      refine ⟨fun i hi => ?_, h2⟩
      cases i with
      | zero => exact ⟨hl, I⟩
      | succ i => exact h1 i (by omega)
    · have e : cntN A B (f + 1) s = 0 := by rw [cntN, if_neg hl]
      rw [e]
      refine ⟨fun i hi => absurd hi (by omega), ?_⟩
      have := I.km; have := I.jn
      have h1 : ¬ s.1 < A.length := fun z => hl (.inl z)
      have h2 : ¬ s.2 < B.length := fun z => hl (.inr z)
      show s = _
      exact Prod.ext (by simp only; omega) (by simp only; omega)
structure SumF (A B : List V2) : Prop where
  st : ∀ i, i < sumN A B → Inv A B (stA A B i).1 (stA A B i).2 ∧ Step A B (stA A B i).1 (stA A B i).2 (stA A B (i + 1)) (wayM A B (stA A B i))
  en : stA A B (sumN A B) = (A.length, B.length)
  n : A.length ≤ sumN A B ∧ sumN A B ≤ A.length + B.length
theorem sum_facts {A B : List V2} (rA : Rg A) (rB : Rg B) : SumF A B := by
  obtain ⟨h1, h2⟩ := cnt_ok rA rB (A.length + B.length) (0, 0) (inv0 A B) (by simp)
  have h1 : ∀ i, i < sumN A B → Live A B (stA A B i) ∧ Inv A B (stA A B i).1 (stA A B i).2 := h1
  have h2 : stA A B (sumN A B) = (A.length, B.length) := h2
  have st : ∀ i, i < sumN A B → Inv A B (stA A B i).1 (stA A B i).2 ∧ Step A B (stA A B i).1 (stA A B i).2 (stA A B (i + 1)) (wayM A B (stA A B i)) := fun i hi => by
    obtain ⟨l, I⟩ := h1 i hi
    refine ⟨I, ?_⟩
    have := step_ok rA rB I l
    unfold stA at *
    rw [it_succ]; exact this
  have bound : ∀ i, i ≤ sumN A B → (stA A B i).1 ≤ i ∧ i ≤ (stA A B i).1 + (stA A B i).2 := fun i => by
    induction i with
    | zero => intro _; exact ⟨Nat.le_refl _, Nat.le_refl _⟩
    | succ i ih =>
      intro hi
      have := (st i (by omega)).2.mono
      have := ih (by omega)
      omega
  have := bound (sumN A B) (Nat.le_refl _)
  rw [h2] at this
  exact ⟨st, h2, this⟩
theorem corner_step {A B : List V2} {s s' : Nat × Nat} {w : V2} (h : Step A B s.1 s.2 s' w) : corner A B s' = add (corner A B s) w := by
  cases h with
  | a hk hb => unfold corner ed add sub; simp only [Prod.mk.injEq]; constructor <;> grind
  | b hj ha => unfold corner ed add sub; simp only [Prod.mk.injEq]; constructor <;> grind
  | ab hk hj hc => unfold corner ed add sub; simp only [Prod.mk.injEq]; constructor <;> grind
theorem sumS_len (A B : List V2) : (sumS A B).length = sumN A B := by unfold sumS; simp
theorem sumS_get {A B : List V2} {i : Nat} (h : i < sumN A B) : pv (sumS A B) i = corner A B (stA A B i) := by
  unfold pv
  rw [sumS_len, Nat.mod_eq_of_lt h]
  unfold sumS
  rw [List.getD_eq_getElem?_getD, List.getElem?_map, List.getElem?_range h]; rfl
theorem sumS_pv {A B : List V2} (F : SumF A B) {i : Nat} (h : i ≤ sumN A B) (h0 : 0 < sumN A B) : pv (sumS A B) i = corner A B (stA A B i) := by
  by_cases e : i = sumN A B
  · subst e
    have h1 := pv_add (sumS A B) 0
    rw [sumS_len, Nat.zero_add] at h1
    rw [h1, sumS_get h0, F.en]
    unfold corner stA it
    simp only
    have e1 := pv_add A 0; have e2 := pv_add B 0
    rw [Nat.zero_add] at e1 e2
    rw [e1, e2]
  · exact sumS_get (by omega)
theorem sumS_ed {A B : List V2} (F : SumF A B) {i : Nat} (h : i < sumN A B) : ed (sumS A B) i = wayM A B (stA A B i) := by
  unfold ed
  rw [sumS_pv F (by omega) (by omega), sumS_pv F (by omega) (by omega), corner_step (F.st i h).2]
  unfold sub add; simp only
  exact Prod.ext (by simp only; grind) (by simp only; grind)
theorem st_mono {A B : List V2} (F : SumF A B) {i : Nat} : ∀ j, i ≤ j → j ≤ sumN A B → (stA A B i).1 ≤ (stA A B j).1 ∧ (stA A B i).2 ≤ (stA A B j).2 := fun j => by
  induction j with
  | zero => intro h _; have : i = 0 := by omega
            subst this; exact ⟨Nat.le_refl _, Nat.le_refl _⟩
  | succ j ih =>
    intro h hj
    by_cases e : i = j + 1
    · subst e; exact ⟨Nat.le_refl _, Nat.le_refl _⟩
    · have := ih (by omega) (by omega)
      have := (F.st j (by omega)).2.mono
      omega
theorem sumS_rg {A B : List V2} (rA : Rg A) (rB : Rg B) : Rg (sumS A B) := by
  have F := sum_facts rA rB
  have hn := F.n
  have h3 := rA.n3
  refine ⟨by rw [sumS_len]; omega, fun i j hij hj => ?_⟩
  rw [sumS_len] at hj
  rw [sumS_ed F (by omega), sumS_ed F hj]
  have s1 := (F.st i (by omega)).2
  have s2 := (F.st j hj).2
  obtain ⟨a1, a2⟩ := s1.ahead rA rB
  have mo := st_mono F (i := i + 1) j (by omega) (by omega)
  exact s2.of_rest (fun t h1 h2 => a1 t (by omega) h2) (fun t h1 h2 => a2 t (by omega) h2)
/-- S is the sum of A and B: each corner a sum of corners, each side least at both -/
structure IsSum (A B S : List V2) : Prop where
  rg : Rg S
  co : ∀ i, ∃ k j, pv S i = add (pv A k) (pv B j) ∧ LowAt A (ed S i) k ∧ LowAt B (ed S i) j
theorem sumS_is {A B : List V2} (rA : Rg A) (rB : Rg B) : IsSum A B (sumS A B) := by
  have F := sum_facts rA rB
  have hn := F.n
  have h3 := rA.n3
  have rS := sumS_rg rA rB
  have main : ∀ i, i < sumN A B → ∃ k j, pv (sumS A B) i = add (pv A k) (pv B j) ∧ LowAt A (ed (sumS A B) i) k ∧ LowAt B (ed (sumS A B) i) j := fun i hi => by
    obtain ⟨I, s⟩ := F.st i hi
    obtain ⟨l1, l2⟩ := s.low rA rB I
    refine ⟨_, _, sumS_get hi, ?_, ?_⟩
    · rw [sumS_ed F hi]; exact l1
    · rw [sumS_ed F hi]; exact l2
  refine ⟨rS, fun i => ?_⟩
  have h0 : 0 < (sumS A B).length := by rw [sumS_len]; omega
  obtain ⟨k, j, h1, h2, h4⟩ := main (i % (sumS A B).length) (by rw [← sumS_len A B]; exact Nat.mod_lt _ h0)
  have e : ed (sumS A B) (i % (sumS A B).length) = ed (sumS A B) i := by
    unfold ed
    rw [pv_mod, pv_congr (i := i % (sumS A B).length + 1) (j := i + 1) (by rw [Nat.mod_add_mod])]
  rw [pv_mod] at h1
  rw [e] at h2 h4
  exact ⟨k, j, h1, h2, h4⟩
end Ge

/-! GEO5: sums told the one way; areas; the inequality of the areas of a sum. -/
namespace Ge
/-! ### what is added -/
theorem IsSum.inH {A B S : List V2} (is : IsSum A B S) (sA : SC A) (sB : SC B) {a b : V2} (ha : InH A a) (hb : InH B b) : InH S (add a b) := fun i => by
  obtain ⟨k, j, co, lA, lB⟩ := is.co i
  have h1 := lA.all sA ha
  have h2 := lB.all sB hb
  rw [bend_crs]
  have e : sub (pv S (i + 1)) (pv S i) = ed S i := rfl
  rw [e, co]
  unfold crs sub add at *; grind
theorem IsSum.uniq {A B S T : List V2} (is : IsSum A B S) (sA : SC A) (sB : SC B) (rT : Rg T) (h1 : ∀ i, ∃ a b, pv T i = add a b ∧ InH A a ∧ InH B b) (h2 : ∀ k j, InH T (add (pv A k) (pv B j))) : T = S := by
  have mem : ∀ (vs : List V2), ∀ q ∈ vs, ∃ i, q = pv vs i := fun vs q hq => by
    obtain ⟨i, hi, rfl⟩ := List.mem_iff_getElem.mp hq
    refine ⟨i, ?_⟩
    unfold pv
    rw [Nat.mod_eq_of_lt hi, List.getD_eq_getElem?_getD, List.getElem?_eq_getElem hi]; rfl
  refine rT.uniq is.rg (fun p hp => ?_) (fun q hq => ?_)
  · obtain ⟨i, rfl⟩ := mem T p hp
    obtain ⟨a, b, e, ha, hb⟩ := h1 i
    rw [e]; exact is.inH sA sB ha hb
  · obtain ⟨i, rfl⟩ := mem S q hq
    obtain ⟨k, j, co, _, _⟩ := is.co i
    rw [co]; exact h2 k j
theorem add_comm (a b : V2) : add a b = add b a := by unfold add; simp only [Prod.mk.injEq]; constructor <;> grind
theorem add_assoc (a b c : V2) : add (add a b) c = add a (add b c) := by unfold add; simp only [Prod.mk.injEq]; constructor <;> grind
theorem sum_comm {A B : List V2} (rA : Rg A) (rB : Rg B) : sumS B A = sumS A B := by
  have i1 := sumS_is rA rB
  have i2 := sumS_is rB rA
  refine i1.uniq rA.sc rB.sc i2.rg (fun i => ?_) (fun k j => ?_)
  · obtain ⟨k, j, co, _, _⟩ := i2.co i
    exact ⟨pv A j, pv B k, by rw [co, add_comm], rA.sc.inH j, rB.sc.inH k⟩
  · rw [add_comm]; exact i2.inH rB.sc rA.sc (rB.sc.inH j) (rA.sc.inH k)
theorem sum_assoc {A B C : List V2} (rA : Rg A) (rB : Rg B) (rC : Rg C) : sumS (sumS A B) C = sumS A (sumS B C) := by
  have iAB := sumS_is rA rB
  have iBC := sumS_is rB rC
  have i1 := sumS_is iAB.rg rC
  have i2 := sumS_is rA iBC.rg
  refine i2.uniq rA.sc iBC.rg.sc i1.rg (fun i => ?_) (fun k j => ?_)
  · obtain ⟨k, j, co, _, _⟩ := i1.co i
    obtain ⟨a, b, co2, _, _⟩ := iAB.co k
    exact ⟨pv A a, add (pv B b) (pv C j), by rw [co, co2, add_assoc], rA.sc.inH a, iBC.inH rB.sc rC.sc (rB.sc.inH b) (rC.sc.inH j)⟩
  · obtain ⟨b, c, co, _, _⟩ := iBC.co j
    rw [co, ← add_assoc]
    exact i1.inH iAB.rg.sc rC.sc (iAB.inH rA.sc rB.sc (rA.sc.inH k) (rB.sc.inH b)) (rC.sc.inH c)
/-- scaled and moved -/
def scl' (c : Rat) (d : V2) (p : V2) : V2 := (p.1 * c + d.1, p.2 * c + d.2)
theorem inH_scl {vs : List V2} {c : Rat} {d q : V2} (h0 : 0 < vs.length) (hc : 0 < c) (h : InH vs q) : InH (vs.map (scl' c d)) (scl' c d q) := fun k => by
  rw [pv_map' _ _ h0, pv_map' _ _ h0]
  have := mul_nn (mul_nn (Rat.le_of_lt hc) (Rat.le_of_lt hc)) (h k)
  unfold bendQ scl' at *; grind
theorem inH_neg {vs : List V2} {q : V2} (h0 : 0 < vs.length) (h : InH vs q) : InH (vs.map neg) (neg q) := fun k => by
  rw [pv_map' _ _ h0, pv_map' _ _ h0]
  have := h k
  unfold bendQ neg at *; grind
theorem inH_rot {vs : List V2} {q : V2} {s : Nat} (hs : s < vs.length) (h : InH vs q) : InH (rot s vs) q := fun k => by
  rw [pv_rot hs, pv_rot hs, show k + 1 + s = k + s + 1 by omega]; exact h (k + s)
/-- both scaled alike, and moved -/
theorem sum_scl {A B : List V2} (rA : Rg A) (rB : Rg B) {c : Rat} (hc : 0 < c) (d e : V2) (rA' : Rg (A.map (scl' c d))) (rB' : Rg (B.map (scl' c e))) (rS' : Rg ((sumS A B).map (scl' c (add d e)))) : sumS (A.map (scl' c d)) (B.map (scl' c e)) = (sumS A B).map (scl' c (add d e)) := by
  have is := sumS_is rA rB
  have is' := sumS_is rA' rB'
  have hA : 0 < A.length := by have := rA.n3; omega
  have hB : 0 < B.length := by have := rB.n3; omega
  have hS : 0 < (sumS A B).length := by have := is.rg.n3; omega
  have ea : ∀ a b : V2, add (scl' c d a) (scl' c e b) = scl' c (add d e) (add a b) := fun a b => by unfold add scl'; simp only [Prod.mk.injEq]; constructor <;> grind
  refine (is'.uniq rA'.sc rB'.sc rS' (fun i => ?_) (fun k j => ?_)).symm
  · obtain ⟨k, j, co, _, _⟩ := is.co i
    refine ⟨scl' c d (pv A k), scl' c e (pv B j), ?_, inH_scl hA hc (rA.sc.inH k), inH_scl hB hc (rB.sc.inH j)⟩
    rw [pv_map' _ _ hS, co, ea]
  · rw [pv_map' _ _ hA, pv_map' _ _ hB, ea]
    exact inH_scl hS hc (is.inH rA.sc rB.sc (rA.sc.inH k) (rB.sc.inH j))
/-- a ring and itself, scaled and moved -/
theorem sum_self {A : List V2} (rA : Rg A) {c : Rat} (hc : 0 < c) (d : V2) (rA' : Rg (A.map (scl' c d))) (rS' : Rg (A.map (scl' (1 + c) d))) : sumS A (A.map (scl' c d)) = A.map (scl' (1 + c) d) := by
  have is := sumS_is rA rA'
  have hA : 0 < A.length := by have := rA.n3; omega
  refine (is.uniq rA.sc rA'.sc rS' (fun i => ?_) (fun k j => ?_)).symm
  · refine ⟨pv A i, scl' c d (pv A i), ?_, rA.sc.inH i, inH_scl hA hc (rA.sc.inH i)⟩
    rw [pv_map' _ _ hA]; unfold add scl'; simp only [Prod.mk.injEq]; constructor <;> grind
  · intro i
    rw [pv_map' _ _ hA, pv_map' _ _ hA, pv_map' _ _ hA]
    have h1 := rA.sc.ge i k
    have h2 := rA.sc.ge i j
    have m1 := mul_nn (a := 1 + c) (by grind) h1
    have m2 := mul_nn (mul_nn (a := 1 + c) (b := c) (by grind) (by grind)) h2
    unfold bendQ add scl' at *; grind
theorem sq_nn (a : Rat) : 0 ≤ a * a := by
  rcases (Rat.le_total : a ≤ 0 ∨ 0 ≤ a) with h | h
  · have := mul_nn (a := -a) (b := -a) (by grind) (by grind); grind
  · exact mul_nn h h
/-! ### areas -/
theorem sm_add (c d : Nat → Rat) : ∀ n, sm (fun i => c i + d i) n = sm c n + sm d n
  | 0 => by simp only [sm]; grind
  | n + 1 => by simp only [sm]; rw [sm_add c d n]; grind
theorem sm_mul (x : Rat) (c : Nat → Rat) : ∀ n, sm (fun i => x * c i) n = x * sm c n
  | 0 => by simp only [sm]; grind
  | n + 1 => by simp only [sm]; rw [sm_mul x c n]; grind
theorem sm_congr {c d : Nat → Rat} : ∀ n, (∀ i, i < n → c i = d i) → sm c n = sm d n
  | 0, _ => rfl
  | n + 1, h => by simp only [sm]; rw [sm_congr n fun i hi => h i (by omega), h n (by omega)]
/-- the doubled area under a path -/
def pa (P : Nat → V2) (n : Nat) : Rat := sm (fun i => crs (P i) (P (i + 1))) n
def ar (vs : List V2) : Rat := pa (pv vs) vs.length
theorem tele (P : Nat → V2) (o : V2) : ∀ n, sm (fun i => crs o (sub (P (i + 1)) (P i))) n = crs o (sub (P n) (P 0))
  | 0 => by simp only [sm]; unfold crs sub; grind
  | n + 1 => by simp only [sm]; rw [tele P o n]; unfold crs sub; grind
/-- a closed path may be moved -/
theorem pa_move {P : Nat → V2} {n : Nat} (h : P n = P 0) (o : V2) : pa (fun i => sub (P i) o) n = pa P n := by
  have e : (fun i => crs (sub (P i) o) (sub (P (i + 1)) o)) = fun i => crs (P i) (P (i + 1)) + (-1) * crs o (sub (P (i + 1)) (P i)) := by funext i; unfold crs sub; grind
  unfold pa
  rw [e, sm_add, sm_mul, tele, h]; unfold crs sub; grind
/-- rising slopes: the path stays under -/
theorem chain_area {t : Nat → V2} {z : Nat → V2} {a0 : Rat} {n : Nat} (hz : ∀ i, i < n → 0 < (z i).1) (hs : ∀ i, i + 1 < n → 0 ≤ crs (z i) (z (i + 1))) (hd : ∀ i, i < n → crs (z i) (sub (t (i + 1)) (t i)) = 0) (h0 : (t 0).1 = 0) (ha : a0 ≤ 0) :
    ∀ m, m ≤ n → ∀ u : V2, 0 < u.1 → (∀ i, i + 1 = m → 0 ≤ crs (z i) u) → u.1 * (a0 + pa t m) ≤ -((t m).1 * crs u (t m)) := by
  intro m
  induction m with
  | zero =>
    intro _ u hu _
    rw [h0]
    have := mul_nn (a := u.1) (b := -a0) (by grind) (by grind)
    unfold pa sm; grind
  | succ m ih =>
    intro hm u hu hl
    have zm := hz m (by omega)
    have i1 := ih (by omega) (z m) zm (fun i e => by subst e; exact hs i (by omega))
    have dm := hd m (by omega)
    have lm := hl m rfl
    have ep : pa t (m + 1) = pa t m + crs (t m) (t (m + 1)) := rfl
    generalize t m = p at *
    generalize t (m + 1) = q at *
    generalize z m = w at *
    -- after the step, in its own way
    have s1 : w.1 * crs p q = -((q.1 - p.1) * crs w p) := by
      have : w.1 * crs p (sub q p) = p.1 * crs w (sub q p) + (sub q p).1 * crs p w := by unfold crs; grind
      rw [dm] at this
      unfold crs sub at *; grind
    have s2 : crs w q = crs w p := by unfold crs sub at *; grind
    have s3 : w.1 * (a0 + pa t (m + 1)) ≤ -(q.1 * crs w q) := by
      rw [ep, s2]
      grind
    -- in a later way
    have s4 : u.1 * crs w q = w.1 * crs u q + q.1 * crs w u := by unfold crs; grind
    have s5 := mul_nn (a := u.1) (b := -(q.1 * crs w q) - w.1 * (a0 + pa t (m + 1))) (by grind) (by grind)
    have s6 := mul_nn (sq_nn q.1) lm
    have s7 : q.1 * (u.1 * crs w q) = q.1 * (w.1 * crs u q + q.1 * crs w u) := by rw [s4]
    generalize a0 + pa t (m + 1) = G at *
    generalize crs u q = C1 at *
    generalize crs w q = C2 at *
    generalize crs w u = C3 at *
    have : 0 ≤ w.1 * (-(q.1 * C1) - u.1 * G) := by
      have e1 : w.1 * (-(q.1 * C1) - u.1 * G) = u.1 * (-(q.1 * C2) - w.1 * G) + q.1 * q.1 * C3 := by grind
      rw [e1]; grind
    have := nn_of_mul zm this
    grind
theorem sm_shift (c : Nat → Rat) (m : Nat) : ∀ n, sm c (m + n) = sm c m + sm (fun i => c (m + i)) n
  | 0 => by simp only [Nat.add_zero, sm]; grind
  | n + 1 => by rw [← Nat.add_assoc, sm, sm_shift c m n, sm]; grind
theorem pa_shift (t : Nat → V2) (m n : Nat) : pa t (m + n) = pa t m + pa (fun i => t (m + i)) n := sm_shift _ m n
theorem sm_nn {c : Nat → Rat} : ∀ n, (∀ i, i < n → 0 ≤ c i) → 0 ≤ sm c n
  | 0, _ => by simp only [sm]; grind
  | n + 1, h => by
    have h1 := sm_nn n fun i hi => h i (by omega)
    have h2 := h n (by omega)
    simp only [sm]; grind
theorem sm_nn_le {c : Nat → Rat} {n : Nat} (h : ∀ i, i < n → 0 ≤ c i) {k : Nat} (hk : k < n) : c k ≤ sm c n := by
  induction n with
  | zero => omega
  | succ n ih =>
    have h2 := h n (by omega)
    have h3 := sm_nn n fun i hi => h i (by omega)
    simp only [sm]
    by_cases e : k = n
    · subst e; grind
    · have := ih (fun i hi => h i (by omega)) (by omega)
      grind
theorem pv_wrap (vs : List V2) : pv vs vs.length = pv vs 0 := by
  have := pv_add vs 0
  rwa [Nat.zero_add] at this
theorem SC.ar_pos {vs : List V2} (s : SC vs) : 0 < ar vs := by
  have h3 := s.n3
  unfold ar
  rw [← pa_move (pv_wrap vs) (pv vs 0)]
  have e : ∀ i, crs (sub (pv vs i) (pv vs 0)) (sub (pv vs (i + 1)) (pv vs 0)) = bendQ (pv vs i) (pv vs (i + 1)) (pv vs 0) := fun i => by unfold bendQ crs sub; grind
  have nn : ∀ i, i < vs.length → 0 ≤ crs (sub (pv vs i) (pv vs 0)) (sub (pv vs (i + 1)) (pv vs 0)) := fun i _ => by rw [e]; exact s.ge i 0
  have := sm_nn_le nn (k := 1) (by omega)
  have hp : 0 < bendQ (pv vs 1) (pv vs (1 + 1)) (pv vs 0) := by
    have := s.lf 1 (vs.length - 2) (by omega) (by omega)
    rw [show 1 + 1 + (vs.length - 2) = vs.length by omega, pv_wrap] at this
    exact this
  rw [e] at this
  unfold pa
  grind
/-! ### four kinds of ways -/
def cls (u : V2) : Nat := if 0 < u.1 then 0 else if u.1 < 0 then 2 else if 0 < u.2 then 1 else 3
theorem ang_cls {u v : V2} (h : ang u v) : cls u ≤ cls v := by
  unfold cls
  rcases h with ⟨a, b⟩ | ⟨a, b, c⟩ | ⟨a, b, c⟩
  · unfold Hp neg at *; grind
  · have hx := a.x; have hy := b.x
    by_cases h1 : 0 < u.1
    · rw [if_pos h1]; exact Nat.zero_le _
    · exfalso
      have u1 : u.1 = 0 := by grind
      have u2 : 0 < u.2 := by unfold Hp at a; grind
      have := mul_nn (a := u.2) (b := v.1) (by grind) hy
      unfold crs at c; rw [u1] at c; grind
  · have hx := a.x; have hy := b.x
    unfold neg at hx hy
    simp only at hx hy
    by_cases h1 : u.1 < 0
    · have h2 : ¬ 0 < u.1 := by grind
      rw [if_neg h2, if_pos h1]
      unfold Hp neg at b
      simp only at b
      have h3 : ¬ 0 < v.1 := by grind
      rw [if_neg h3]
      split
      · exact Nat.le_refl _
      · split
        · grind
        · omega
    · exfalso
      have u1 : u.1 = 0 := by grind
      have u2 : u.2 < 0 := by unfold Hp neg at a; grind
      have := mul_nn (a := -u.2) (b := -v.1) (by grind) hy
      unfold crs at c; rw [u1] at c; grind
theorem threshold {f : Nat → Nat} {N : Nat} (c : Nat) (h : ∀ i j, i < j → j < N → f i ≤ f j) : ∃ p, p ≤ N ∧ (∀ i, i < p → f i < c) ∧ ∀ i, p ≤ i → i < N → c ≤ f i := by
  induction N with
  | zero => exact ⟨0, Nat.le_refl _, fun i hi => by omega, fun i _ hi => by omega⟩
  | succ N ih =>
    obtain ⟨p, h1, h2, h3⟩ := ih fun i j hij hj => h i j hij (by omega)
    by_cases e : p = N
    · subst e
      by_cases hc : f p < c
      · refine ⟨p + 1, Nat.le_refl _, fun i hi => ?_, fun i h4 h5 => by omega⟩
        by_cases ei : i = p
        · subst ei; exact hc
        · exact h2 i (by omega)
      · refine ⟨p, by omega, h2, fun i h4 h5 => ?_⟩
        have : i = p := by omega
        subst this; omega
    · refine ⟨p, by omega, h2, fun i h4 h5 => ?_⟩
      by_cases ei : i = N
      · subst ei
        have h6 := h3 (i - 1) (by omega) (by omega)
        have h7 := h (i - 1) i (by omega) (by omega)
        omega
      · exact h3 i h4 (by omega)
/-- upright steps at nought add nothing -/
theorem upright {t : Nat → V2} {z : Nat → V2} {n : Nat} (hz : ∀ i, i < n → (z i).1 = 0 ∧ (z i).2 ≠ 0) (hd : ∀ i, i < n → crs (z i) (sub (t (i + 1)) (t i)) = 0) : (∀ m, m ≤ n → (t m).1 = (t 0).1) ∧ ((t 0).1 = 0 → ∀ m, m ≤ n → pa t m = 0) := by
  have h1 : ∀ m, m ≤ n → (t m).1 = (t 0).1 := fun m => by
    induction m with
    | zero => intro _; rfl
    | succ m ih =>
      intro hm
      have := ih (by omega)
      obtain ⟨z1, z2⟩ := hz m (by omega)
      have d := hd m (by omega)
      unfold crs sub at d
      rw [z1] at d
      have : (z m).2 * ((t (m + 1)).1 - (t m).1) = 0 := by grind
      rcases Rat.mul_eq_zero.mp this with e | e
      · exact absurd e z2
      · grind
  refine ⟨h1, fun h0 m => ?_⟩
  induction m with
  | zero => intro _; rfl
  | succ m ih =>
    intro hm
    have e1 := h1 m (by omega)
    have e2 := h1 (m + 1) hm
    have : pa t (m + 1) = pa t m + crs (t m) (t (m + 1)) := rfl
    rw [this, ih (by omega)]
    unfold crs; rw [e1, e2, h0]; grind
/-! ### the areas of a sum -/
def Pp (A B : List V2) (i : Nat) : V2 := pv A (stA A B i).1
def Rp (A B : List V2) (i : Nat) : V2 := pv B (stA A B i).2
def Tp (A B : List V2) (x : Rat) (i : Nat) : V2 := ((Pp A B i).1 - x * (Rp A B i).1, (Pp A B i).2 - x * (Rp A B i).2)
def mid (A B : List V2) : Rat := ar (sumS A B) - ar A - ar B
theorem step_crs {A B : List V2} {s s' : Nat × Nat} {w : V2} (h : Step A B s.1 s.2 s' w) : crs w (sub (pv A s'.1) (pv A s.1)) = 0 ∧ crs w (sub (pv B s'.2) (pv B s.2)) = 0 := by
  cases h with
  | a hk hb => exact ⟨crs_self _, by unfold crs sub; grind⟩
  | b hj ha => exact ⟨by unfold crs sub; grind, crs_self _⟩
  | ab hk hj hc =>
    have h1 := (codir_add hc).1
    have h2 := (codir_add' hc).1
    exact ⟨by rw [crs_swap]; show -crs (ed A s.1) _ = 0; rw [h1]; grind, by rw [crs_swap]; show -crs (ed B s.2) _ = 0; rw [h2]; grind⟩
theorem path_ar {A B : List V2} (F : SumF A B) : pa (Pp A B) (sumN A B) = ar A ∧ pa (Rp A B) (sumN A B) = ar B := by
  have h : ∀ i, i ≤ sumN A B → pa (Pp A B) i = pa (pv A) (stA A B i).1 ∧ pa (Rp A B) i = pa (pv B) (stA A B i).2 := fun i => by
    induction i with
    | zero => intro _; exact ⟨rfl, rfl⟩
    | succ i ih =>
      intro hi
      obtain ⟨h1, h2⟩ := ih (by omega)
      have st := (F.st i (by omega)).2
      have e1 : pa (Pp A B) (i + 1) = pa (Pp A B) i + crs (pv A (stA A B i).1) (pv A (stA A B (i + 1)).1) := rfl
      have e2 : pa (Rp A B) (i + 1) = pa (Rp A B) i + crs (pv B (stA A B i).2) (pv B (stA A B (i + 1)).2) := rfl
      rw [e1, e2, h1, h2]
      generalize stA A B (i + 1) = s' at *
      generalize stA A B i = s at *
      generalize wayM A B s = w at *
      cases st with
      | a hk hb => exact ⟨rfl, by simp only [crs_self]; grind⟩
      | b hj ha => exact ⟨by simp only [crs_self]; grind, rfl⟩
      | ab hk hj hc => exact ⟨rfl, rfl⟩
  have := h (sumN A B) (Nat.le_refl _)
  rw [F.en] at this
  exact this
theorem quad {A B : List V2} (rA : Rg A) (rB : Rg B) (x : Rat) : pa (Tp A B x) (sumN A B) = ar A - x * mid A B + x * x * ar B := by
  have F := sum_facts rA rB
  have h3 := rA.n3
  have hn := F.n
  obtain ⟨p1, p2⟩ := path_ar F
  have eS : ar (sumS A B) = sm (fun i => crs (add (Pp A B i) (Rp A B i)) (add (Pp A B (i + 1)) (Rp A B (i + 1)))) (sumN A B) := by
    unfold ar pa
    rw [sumS_len]
    refine sm_congr _ fun i hi => ?_
    rw [sumS_pv F (by omega) (by omega), sumS_pv F (by omega) (by omega)]; rfl
  have e : pa (Tp A B x) (sumN A B) = sm (fun i => ((1 + x) * crs (Pp A B i) (Pp A B (i + 1)) + (-x) * crs (add (Pp A B i) (Rp A B i)) (add (Pp A B (i + 1)) (Rp A B (i + 1)))) + (x * x + x) * crs (Rp A B i) (Rp A B (i + 1))) (sumN A B) := by
    unfold pa
    refine sm_congr _ fun i hi => ?_
    unfold Tp crs add; grind
  rw [e, sm_add, sm_add, sm_mul, sm_mul, sm_mul, ← eS]
  unfold mid
  unfold pa at p1 p2
  rw [p1, p2]; grind
theorem Rg.right0 {vs : List V2} (r : Rg vs) : 0 < (ed vs 0).1 := by
  have h3 := r.n3
  have h := r.up0
  have hx := h.x
  rcases Rat.le_iff_lt_or_eq.mp hx with h1 | h1
  · exact h1
  · exfalso
    have h2 : 0 < (ed vs 0).2 := by unfold Hp at h; grind
    have t := r.sc.lf 0 1 (by omega) (by omega)
    rw [bend_crs] at t
    have e : sub (pv vs (0 + 1)) (pv vs 0) = ed vs 0 := rfl
    rw [e] at t
    unfold crs at t
    rw [← h1] at t
    have f := r.first (j := 2) (by omega) (by omega)
    have f2 : (pv vs 0).1 ≤ (pv vs 2).1 := by unfold ltV at f; grind
    have m := mul_nn (a := (ed vs 0).2) (b := (sub (pv vs 2) (pv vs 0)).1) (by grind) (by unfold sub; grind)
    rw [show 0 + 1 + 1 = 2 from rfl] at t
    grind
/-- where the two spread to the right alike, what is left has no area above nought -/
theorem area_low {A B : List V2} (rA : Rg A) (rB : Rg B) : ∃ x, pa (Tp A B x) (sumN A B) ≤ 0 := by
  have F := sum_facts rA rB
  have rS := sumS_rg rA rB
  have hA3 := rA.n3; have hB3 := rB.n3
  have hn := F.n
  have hmono : ∀ i j, i < j → j < sumN A B → cls (ed (sumS A B) i) ≤ cls (ed (sumS A B) j) := fun i j hij hj => ang_cls (rS.srt i j hij (by rw [sumS_len]; exact hj))
  obtain ⟨p1, b1, l1, g1⟩ := threshold (f := fun i => cls (ed (sumS A B) i)) 1 hmono
  obtain ⟨p2, b2, l2, g2⟩ := threshold (f := fun i => cls (ed (sumS A B) i)) 2 hmono
  obtain ⟨p3, b3, l3, g3⟩ := threshold (f := fun i => cls (ed (sumS A B) i)) 3 hmono
  have p12 : p1 ≤ p2 := by
    rcases Nat.lt_or_ge p2 p1 with h | h
    · have := l1 p2 h; have := g2 p2 (Nat.le_refl _) (by omega); omega
    · exact h
  have p23 : p2 ≤ p3 := by
    rcases Nat.lt_or_ge p3 p2 with h | h
    · have := l2 p3 h; have := g3 p3 (Nat.le_refl _) (by omega); omega
    · exact h
  have c0 : ∀ i, i < p1 → 0 < (ed (sumS A B) i).1 := fun i hi => by have := l1 i hi; unfold cls at this; grind
  have c1 : ∀ i, p1 ≤ i → i < p2 → (ed (sumS A B) i).1 = 0 ∧ (ed (sumS A B) i).2 ≠ 0 := fun i h1 h2 => by
    have := g1 i h1 (by omega); have := l2 i h2
    unfold cls at *; grind
  have c2 : ∀ i, p2 ≤ i → i < p3 → (ed (sumS A B) i).1 < 0 := fun i h1 h2 => by
    have := g2 i h1 (by omega); have := l3 i h2
    unfold cls at *; grind
  have c3 : ∀ i, p3 ≤ i → i < sumN A B → (ed (sumS A B) i).1 = 0 ∧ (ed (sumS A B) i).2 ≠ 0 := fun i h1 h2 => by
    have := g3 i h1 h2
    have hz := rS.nz (i := i) (by rw [sumS_len]; exact h2)
    unfold cls at this
    unfold Hp neg at hz
    simp only at hz
    grind
  -- the steps of both
  have stp : ∀ i, i < sumN A B → crs (ed (sumS A B) i) (sub (Pp A B (i + 1)) (Pp A B i)) = 0 ∧ crs (ed (sumS A B) i) (sub (Rp A B (i + 1)) (Rp A B i)) = 0 := fun i hi => by
    have := step_crs (F.st i hi).2
    rw [← sumS_ed F hi] at this
    exact this
  -- B goes to the right below
  have right : ∀ i, i < p1 → (Rp A B i).1 ≤ (Rp A B (i + 1)).1 := fun i hi => by
    have st := (F.st i (by omega)).2
    have hw := c0 i hi
    rw [sumS_ed F (by omega)] at hw
    unfold Rp
    generalize stA A B (i + 1) = s' at *
    generalize stA A B i = s at *
    generalize wayM A B s = w at *
    cases st with
    | a hk hb => exact Rat.le_refl
    | b hj ha => unfold ed sub at hw; simp only at hw ⊢; grind
    | ab hk hj hc =>
      have h0 := hc.2
      have hx : 0 ≤ (ed B s.2).1 := by
        rcases h0 with ⟨_, h0⟩ | ⟨h0, h0'⟩
        · exact h0.x
        · exfalso
          have a1 := h0.x; have a2 := h0'.x
          unfold neg at a1 a2; unfold add at hw
          simp only at a1 a2 hw
          grind
      unfold ed sub at hx
      simp only at hx ⊢
      grind
  have rmono : ∀ i j, i ≤ j → j ≤ p1 → (Rp A B i).1 ≤ (Rp A B j).1 := fun i j => by
    induction j with
    | zero => intro h _; have : i = 0 := by omega
              subst this; exact Rat.le_refl
    | succ j ih =>
      intro h hj
      by_cases e : i = j + 1
      · subst e; exact Rat.le_refl
      · exact Rat.le_trans (ih (by omega) (by omega)) (right j (by omega))
  -- the step that takes B's first way
  obtain ⟨i0, h0, h1, h2⟩ : ∃ i0, i0 < sumN A B ∧ (stA A B i0).2 = 0 ∧ (stA A B (i0 + 1)).2 = 1 := by
    have key : ∀ i, i ≤ sumN A B → (stA A B i).2 = 0 ∨ ∃ i0, i0 < sumN A B ∧ (stA A B i0).2 = 0 ∧ (stA A B (i0 + 1)).2 = 1 := fun i => by
      induction i with
      | zero => intro _; exact .inl rfl
      | succ i ih =>
        intro hi
        rcases ih (by omega) with h | h
        · have mo := (F.st i (by omega)).2.mono
          by_cases e : (stA A B (i + 1)).2 = 0
          · exact .inl e
          · exact .inr ⟨i, by omega, h, by omega⟩
        · exact .inr h
    rcases key (sumN A B) (Nat.le_refl _) with h | h
    · rw [F.en] at h; simp only at h; omega
    · exact h
  have w0 : 0 < (ed (sumS A B) i0).1 := by
    have st := (F.st i0 h0).2
    rw [sumS_ed F h0]
    have hr := rB.right0
    generalize stA A B (i0 + 1) = s' at *
    generalize stA A B i0 = s at *
    generalize wayM A B s = w at *
    cases st with
    | a hk hb => simp only at h2; omega
    | b hj ha => rw [h1]; exact hr
    | ab hk hj hc =>
      rw [h1] at hc ⊢
      have h0 := hc.2
      rcases h0 with ⟨h0, _⟩ | ⟨_, h0⟩
      · have := h0.x; unfold add; simp only; grind
      · exact absurd h0 rB.up0.not_neg
  have i0p : i0 < p1 := by
    rcases Nat.lt_or_ge i0 p1 with h | h
    · exact h
    · have := g1 i0 h h0
      unfold cls at this
      rw [if_pos w0] at this; omega
  have wB : 0 < (Rp A B p1).1 - (Rp A B 0).1 := by
    have e1 : (Rp A B i0).1 = (Rp A B 0).1 := by
      unfold Rp; rw [h1]; rfl
    have e2 : (Rp A B (i0 + 1)).1 = (Rp A B 0).1 + (ed B 0).1 := by
      unfold Rp; rw [h2]
      show (pv B 1).1 = (pv B 0).1 + ((pv B (0 + 1)).1 - (pv B 0).1)
      grind
    have e3 := rmono (i0 + 1) p1 (by omega) (Nat.le_refl _)
    have hr := rB.right0
    grind
  refine ⟨((Pp A B p1).1 - (Pp A B 0).1) / ((Rp A B p1).1 - (Rp A B 0).1), ?_⟩
  obtain ⟨x, hx⟩ : ∃ x, ((Pp A B p1).1 - (Pp A B 0).1) / ((Rp A B p1).1 - (Rp A B 0).1) = x := ⟨_, rfl⟩
  rw [hx]
  have hx2 : (Pp A B p1).1 - (Pp A B 0).1 = x * ((Rp A B p1).1 - (Rp A B 0).1) := by
    rw [← hx]; grind
  -- the path moved to nought
  have closed : Tp A B x (sumN A B) = Tp A B x 0 := by
    unfold Tp Pp Rp
    rw [F.en]
    simp only
    have e1 := pv_wrap A; have e2 := pv_wrap B
    rw [e1, e2]; rfl
  rw [← pa_move closed (Tp A B x 0)]
  obtain ⟨t, ht⟩ : ∃ t : Nat → V2, (fun i => sub (Tp A B x i) (Tp A B x 0)) = t := ⟨_, rfl⟩
  rw [ht]
  have tv : ∀ i, t i = sub (Tp A B x i) (Tp A B x 0) := fun i => by rw [← ht]
  have hd : ∀ i, i < sumN A B → crs (ed (sumS A B) i) (sub (t (i + 1)) (t i)) = 0 := fun i hi => by
    obtain ⟨s1, s2⟩ := stp i hi
    rw [tv, tv]
    generalize ed (sumS A B) i = w at *
    unfold Tp crs sub at *
    simp only at *
    grind
  have t0 : (t 0).1 = 0 := by rw [tv]; unfold sub; grind
  have tp1 : (t p1).1 = 0 := by
    rw [tv]; unfold sub Tp; simp only; grind
  have tN : (t (sumN A B)).1 = 0 := by rw [tv, closed]; unfold sub; grind
  -- below
  have a1 : pa t p1 ≤ 0 := by
    by_cases e : p1 = 0
    · subst e; unfold pa sm; exact Rat.le_refl
    · have := chain_area (t := t) (z := ed (sumS A B)) (a0 := 0) (n := p1) c0 (fun i hi => Rat.le_of_lt (rS.sc.turn i)) (fun i hi => hd i (by omega)) t0 Rat.le_refl p1 (Nat.le_refl _) (ed (sumS A B) (p1 - 1)) (c0 _ (by omega)) (fun i hi => by
        rw [show p1 - 1 = i by omega, crs_self]; exact Rat.le_refl)
      rw [tp1] at this
      have h4 := c0 (p1 - 1) (by omega)
      have : 0 ≤ (ed (sumS A B) (p1 - 1)).1 * (-pa t p1) := by grind
      have := nn_of_mul h4 this
      grind
  -- upright
  obtain ⟨u1, u2⟩ := upright (t := fun i => t (p1 + i)) (z := fun i => ed (sumS A B) (p1 + i)) (n := p2 - p1) (fun i hi => c1 (p1 + i) (by omega) (by omega)) (fun i hi => hd (p1 + i) (by omega))
  have tp2 : (t p2).1 = 0 := by
    have := u1 (p2 - p1) (Nat.le_refl _)
    rw [show p1 + (p2 - p1) = p2 by omega, Nat.add_zero, tp1] at this
    exact this
  have a2 : pa t p2 ≤ 0 := by
    have := u2 (by simp only [Nat.add_zero]; exact tp1) (p2 - p1) (Nat.le_refl _)
    have e := pa_shift t p1 (p2 - p1)
    rw [show p1 + (p2 - p1) = p2 by omega, this] at e
    rw [e]; grind
  -- upright at the end
  obtain ⟨v1, v2⟩ := upright (t := fun i => t (p3 + i)) (z := fun i => ed (sumS A B) (p3 + i)) (n := sumN A B - p3) (fun i hi => c3 (p3 + i) (by omega) (by omega)) (fun i hi => hd (p3 + i) (by omega))
  have tp3 : (t p3).1 = 0 := by
    have := v1 (sumN A B - p3) (Nat.le_refl _)
    rw [show p3 + (sumN A B - p3) = sumN A B by omega, Nat.add_zero, tN] at this
    exact this.symm
  -- above
  have a3 : pa t p3 ≤ 0 := by
    have e := pa_shift t p2 (p3 - p2)
    rw [show p2 + (p3 - p2) = p3 by omega] at e
    by_cases e0 : p2 = p3
    · rw [← e0]; exact a2
    · have := chain_area (t := fun i => t (p2 + i)) (z := fun i => neg (ed (sumS A B) (p2 + i))) (a0 := pa t p2) (n := p3 - p2) (fun i hi => by have := c2 (p2 + i) (by omega) (by omega); unfold neg; simp only; grind) (fun i hi => by
        rw [crs_neg_neg]; exact Rat.le_of_lt (rS.sc.turn (p2 + i))) (fun i hi => by
        rw [crs_neg_l]; have := hd (p2 + i) (by omega)
        rw [show p2 + (i + 1) = p2 + i + 1 by omega, this]; grind) (by simp only [Nat.add_zero]; exact tp2) a2 (p3 - p2) (Nat.le_refl _) (neg (ed (sumS A B) (p3 - 1))) (by have := c2 (p3 - 1) (by omega) (by omega); unfold neg; simp only; grind) (fun i hi => by
        rw [crs_neg_neg, show p2 + i = p3 - 1 by omega, crs_self]; exact Rat.le_refl)
      rw [show p2 + (p3 - p2) = p3 by omega, tp3, ← e] at this
      have h4 := c2 (p3 - 1) (by omega) (by omega)
      have h5 : 0 < (neg (ed (sumS A B) (p3 - 1))).1 := by unfold neg; simp only; grind
      have : 0 ≤ (neg (ed (sumS A B) (p3 - 1))).1 * (-pa t p3) := by grind
      have := nn_of_mul h5 this
      grind
  have := v2 (by simp only [Nat.add_zero]; exact tp3) (sumN A B - p3) (Nat.le_refl _)
  have e := pa_shift t p3 (sumN A B - p3)
  rw [show p3 + (sumN A B - p3) = sumN A B by omega, this] at e
  rw [e]; grind
/-- the areas of a sum -/
theorem mink {A B : List V2} (rA : Rg A) (rB : Rg B) : 4 * (ar A * ar B) ≤ mid A B * mid A B := by
  obtain ⟨x, hx⟩ := area_low rA rB
  rw [quad rA rB] at hx
  have hB := rB.sc.ar_pos
  have h1 := mul_nn (a := ar B) (b := -(ar A - x * mid A B + x * x * ar B)) (by grind) (by grind)
  have h2 := sq_nn (2 * x * ar B - mid A B)
  grind
end Ge

/-! SPEC1: what the small typed defs find. -/
namespace Sp
open TL Ty
/-! ### numbers -/
theorem T_plus_e {p q : Rat} {m n : Nat} [a : Bq p m] [b : Bq q n] (h : m + n ≤ 9000) : T_plus (fr p) (fr q) = some (fr (p + q)) := by
  have h0 := Int.mul_ne_zero (den_ne p) (den_ne q)
  unfold T_plus
  simp only [fr_1, fr_2]
  rw [mulT_bd (by omega), Option.bind_some, mulT_bd (by omega), Option.bind_some, mulT_bd (by omega), Option.bind_some, ratioT_bd h0 h, Option.bind_some, add_divInt]
theorem T_minus_e {p q : Rat} {m n : Nat} [a : Bq p m] [b : Bq q n] (h : m + n ≤ 9000) : T_minus (fr p) (fr q) = some (fr (p - q)) := by
  have h0 := Int.mul_ne_zero (den_ne p) (den_ne q)
  unfold T_minus
  simp only [fr_1, fr_2]
  rw [mulT_bd (by omega), Option.bind_some, mulT_bd (by omega), Option.bind_some, mulT_bd (by omega), Option.bind_some, ratioT_bd h0 h, Option.bind_some, sub_divInt]
theorem T_times_e {p q : Rat} {m n : Nat} [a : Bq p m] [b : Bq q n] (h : m + n ≤ 9000) : T_times (fr p) (fr q) = some (fr (p * q)) := by
  have h0 := Int.mul_ne_zero (den_ne p) (den_ne q)
  unfold T_times
  simp only [fr_1, fr_2]
  rw [mulT_bd (by omega), Option.bind_some, mulT_bd (by omega), Option.bind_some, ratioT_bd h0 h, Option.bind_some, mul_divInt]
theorem T__law_added_e {p q : Rat} {m n : Nat} [a : Bq p m] [b : Bq q n] (h : m + n ≤ 9000) : T__law_added (fr p) (fr q) = some (fr (p + q)) := T_plus_e h
theorem T__law_times_e {p q : Rat} {m n : Nat} [a : Bq p m] [b : Bq q n] (h : m + n ≤ 9000) : T__law_times (fr p) (fr q) = some (fr (p * q)) := T_times_e h
theorem T_below_e {p q : Rat} {m n : Nat} [a : Bq p m] [b : Bq q n] (h : m + n ≤ 9000) : T_below (fr p) (fr q) = some (decide (p < q)) := by
  unfold T_below
  simp only [fr_1, fr_2]
  rw [mulT_bd (by omega), Option.bind_some, mulT_bd (by omega), Option.bind_some, Option.some.injEq, decide_eq_decide]
  exact (Rat.lt_iff p q).symm
/-- a spot as three whole numbers -/
def fl (p : Spot) : P3 Int Int Int := ⟨p.1.num * p.2.den, p.2.num * p.1.den, p.1.den * p.2.den⟩
theorem T_flat_e {p : Spot} {m n : Nat} [a : Bq p.1 m] [b : Bq p.2 n] (h : m + n ≤ 9000) : T_flat (sp p) = some (fl p) := by
  unfold T_flat
  simp only [sp_1, sp_2, fr_1, fr_2]
  rw [mulT_bd (by omega), Option.bind_some, mulT_bd (by omega), Option.bind_some, mulT_bd (by omega), Option.bind_some]; rfl
theorem T__law_flat_e {p : Spot} {m n : Nat} [a : Bq p.1 m] [b : Bq p.2 n] (h : m + n ≤ 9000) : T__law_flat (sp p) = some (fl p) := T_flat_e h
theorem T__law_is_fraction_e (q : Rat) : T__law_is_fraction (fr q) = some true := by
  have h1 : 0 < q.den := q.den_pos
  have h2 := rat_gcd q
  unfold T__law_is_fraction T__law_whole divisorT
  simp [h1, h2]
/-! ### drawn numbers -/
theorem T__law_cell_at_e (ns : List Int) (k : Nat) : T__law_cell_at ns (k : Int) = some (ns.getD k 0) := by
  unfold T__law_cell_at
  by_cases h : k < ns.length
  · simp [h, getT_nat]
  · simp [h]
theorem block_ex (ns : List Int) (k : Nat) (hk : k ≤ 10000) : ∃ z, T__law_block ns (k : Int) = some z := by
  have key : ∀ z : Int, ∃ z', foldT TL1__law_block (rngI ((k : Int) % 8).toNat) z = some z' := fun z => by
    obtain ⟨z', e, _⟩ := foldT_inv (f := TL1__law_block) (fun _ _ => True) (rngI ((k : Int) % 8).toNat) [] z trivial fun d a s _ _ => ⟨s / 2147483587, by simp [TL1__law_block], trivial⟩
    exact ⟨z', e⟩
  have c1 : rng1T ((k : Int) % 8) = some (rngI ((k : Int) % 8).toNat) := by
    unfold rng1T; rw [if_pos (by omega)]
  have c2 : (0 : Int) ≤ (k : Int) / 8 % 62 := Int.emod_nonneg _ (by decide)
  unfold T__law_block
  by_cases h : 1 + (k : Int) / 8 % 62 < ns.length
  · have e : ∃ w, getT ns (1 + (k : Int) / 8 % 62) = some w := ⟨_, by rw [getT_nonneg (by omega)]; exact List.getElem?_eq_getElem (by omega)⟩
    obtain ⟨w, e⟩ := e
    obtain ⟨z', hz⟩ := key (w / 10000000000000000000000000000000000000000000000000000000000000000)
    exact ⟨z', by simp [h, e, c1, hz]⟩
  · obtain ⟨z', hz⟩ := key 0
    exact ⟨z', by simp [h, c1, hz]⟩
theorem mixed_ex (ns : List Int) (k : Nat) (hk : k ≤ 10000) : ∃ n, T__law_mixed ns (k : Int) = some n ∧ 0 ≤ n ∧ n < 2147483587 := by
  obtain ⟨z, hz⟩ := block_ex ns k hk
  have zb : 0 ≤ z % 2147483587 ∧ z % 2147483587 < 2147483587 := ⟨Int.emod_nonneg _ (by decide), Int.emod_lt_of_pos _ (by decide)⟩
  have tl : ∀ c : Int, ∃ n, ((mulT (c % 1000000000000000000 + 48271 * ((k : Int) + 1)) (c % 1000000000000000000 + 48271 * ((k : Int) + 1))).bind fun m17 =>
      (mulT (m17 % 2147483629 + 69621 * (k : Int)) (m17 % 2147483629 + 69621 * (k : Int))).bind fun m19 => some (m19 % 2147483587)) = some n ∧ 0 ≤ n ∧ n < 2147483587 := fun c => by
    have b1 : 0 ≤ c % 1000000000000000000 ∧ c % 1000000000000000000 < 1000000000000000000 := ⟨Int.emod_nonneg _ (by decide), Int.emod_lt_of_pos _ (by decide)⟩
    have b2 : (c % 1000000000000000000 + 48271 * ((k : Int) + 1)).natAbs < 18446744073709551616 := by omega
    generalize c % 1000000000000000000 + 48271 * ((k : Int) + 1) = x at b2 ⊢
    rw [mulT_l b2, Option.bind_some]
    have b3 : 0 ≤ x * x % 2147483629 ∧ x * x % 2147483629 < 2147483629 := ⟨Int.emod_nonneg _ (by decide), Int.emod_lt_of_pos _ (by decide)⟩
    generalize x * x % 2147483629 = y at b3 ⊢
    rw [mulT_l (by omega), Option.bind_some]
    exact ⟨_, rfl, Int.emod_nonneg _ (by decide), Int.emod_lt_of_pos _ (by decide)⟩
  unfold T__law_mixed
  by_cases hn : ns.length = 0
  · obtain ⟨n, h1, h2⟩ := tl 0
    refine ⟨n, ?_, h2⟩
    simp only [hn]
    simpa using h1
  · have hp : 0 < ns.length := by omega
    obtain ⟨c0, e0⟩ : ∃ c, getT ns 0 = some c := ⟨_, by rw [getT_nonneg (by decide)]; exact List.getElem?_eq_getElem (by simpa using hp)⟩
    obtain ⟨m, hm, m1⟩ : ∃ m : Int, min2 63 (ns.length : Int) = m ∧ 0 < m ∧ m ≤ ns.length := ⟨_, rfl, by unfold min2; split <;> omega⟩
    have a1 := Int.emod_nonneg (k : Int) (show m ≠ 0 by omega)
    have a2 := Int.emod_lt_of_pos (k : Int) m1.1
    obtain ⟨ci, ei⟩ : ∃ c, getT ns ((k : Int) % m) = some c := ⟨_, by rw [getT_nonneg a1]; exact List.getElem?_eq_getElem (by omega)⟩
    obtain ⟨n, h1, h2⟩ := tl ci
    have hmod : modT (k : Int) m = some ((k : Int) % m) := modT_pos m1.1
    by_cases hg1 : c0 / 1000000 % 2 = 1
    · by_cases hg : z = 0
      · subst hg
        exact ⟨n, by simp [hp, e0, hg1, hz, hm, hmod, ei, h1], h2⟩
      · exact ⟨_, by simp [hp, e0, hg1, hz, hg], zb⟩
    · exact ⟨n, by simp [hp, e0, hg1, hm, hmod, ei, h1], h2⟩
/-! ### drawn points -/
theorem points_step (ns : List Int) (start : Nat) (w : Int) (ps : List Pt) (hl : ps.length < 1000) (j : Nat) (hj : start + 2 + j ≤ 10000) : ∃ q, Pz 12 q ∧ TL1__law_points_k13 ns start w (j : Int) ps = some (ps ++ [q]) := by
  obtain ⟨n, hn, n0, n1⟩ := mixed_ex ns (start + 2 + j) hj
  have e : (((start + 2 + j : Nat) : Int)) = (start : Int) + 2 + (j : Int) := by omega
  rw [e] at hn
  have ha := fun q : Pt => appT_lt (xs := ps) (a := q) (Nat.lt_of_lt_of_le hl (by decide))
  have r3 := fun x : Int => (⟨Int.emod_nonneg x (show (3 : Int) ≠ 0 by decide), Int.emod_lt_of_pos x (show (0 : Int) < 3 by decide)⟩ : _ ∧ _)
  have r7 := fun x : Int => (⟨Int.emod_nonneg x (show (7 : Int) ≠ 0 by decide), Int.emod_lt_of_pos x (show (0 : Int) < 7 by decide)⟩ : _ ∧ _)
  have r2 := fun x : Int => (⟨Int.emod_nonneg x (show (2001 : Int) ≠ 0 by decide), Int.emod_lt_of_pos x (show (0 : Int) < 2001 by decide)⟩ : _ ∧ _)
  have pz : ∀ {a b : Int}, a.natAbs < 4096 → b.natAbs < 4096 → Pz 12 (a, b) := fun h1 h2 => ⟨h1, h2⟩
  unfold TL1__law_points_k13
  by_cases h1 : w = 1
  · exact ⟨(n % 2001 - 1000, n / 2001 % 2001 - 1000), pz (by have := r2 n; omega) (by have := r2 (n / 2001); omega), by simp [hn, h1, ha]⟩
  · by_cases h2 : w = 2
    · exact ⟨(n % 3, n / 3 % 3), pz (by have := r3 n; omega) (by have := r3 (n / 3); omega), by simp [hn, h1, h2, ha]⟩
    · exact ⟨(n % 7 - 3, n / 7 % 7 - 3), pz (by have := r7 n; omega) (by have := r7 (n / 7); omega), by simp [hn, h1, h2, ha]⟩
theorem points_ends {qs : List Pt} {m : Nat} (hl : qs.length = m) (hm : 3 ≤ m) : ∃ p0 p1 p2 : Pt, qs[0]? = some p0 ∧ qs[m - 2]? = some p1 ∧ qs[m - 1]? = some p2 ∧ getT qs 0 = some p0 ∧ getT qs (-2) = some p1 ∧
    (∀ q1, putT qs (-2) q1 = some (qs.set (m - 2) q1)) ∧ (∀ q1, getT (qs.set (m - 2) q1) (-1) = some p2) ∧ (∀ q1 q2, putT (qs.set (m - 2) q1) (-1) q2 = some ((qs.set (m - 2) q1).set (m - 1) q2)) := by
  obtain ⟨p0, h0⟩ : ∃ p, qs[0]? = some p := ⟨_, List.getElem?_eq_getElem (by omega)⟩
  obtain ⟨p1, h1⟩ : ∃ p, qs[m - 2]? = some p := ⟨_, List.getElem?_eq_getElem (by omega)⟩
  obtain ⟨p2, h2⟩ : ∃ p, qs[m - 1]? = some p := ⟨_, List.getElem?_eq_getElem (by omega)⟩
  have x1 : ixT m (-2) = some (m - 2) := by unfold ixT; rw [if_neg (by decide), if_pos (by omega)]; congr 1
  have x2 : ixT m (-1) = some (m - 1) := by unfold ixT; rw [if_neg (by decide), if_pos (by omega)]; congr 1
  refine ⟨p0, p1, p2, h0, h1, h2, by rw [getT_nonneg (by decide)]; exact h0, ?_, fun q1 => ?_, fun q1 => ?_, fun q1 q2 => ?_⟩
  · rw [show (-2 : Int) = -((2 : Nat) : Int) by rfl, getT_neg (by decide) (by omega), hl]; exact h1
  · unfold putT; rw [hl, x1]; rfl
  · rw [show (-1 : Int) = -((1 : Nat) : Int) by rfl, getT_neg (by decide) (by rw [List.length_set]; omega), List.length_set, hl, List.getElem?_set, if_neg (by omega)]; exact h2
  · unfold putT; rw [List.length_set, hl, x2]; rfl
theorem tri_of {qs : List Pt} {m : Nat} (hl : qs.length = m) (hm : 3 ≤ m) {p0 q1 q2 : Pt} (h0 : qs[0]? = some p0) (a b c : Int) (e1 : q1 = (p0.1 + 1, p0.2 + a % 2)) (e2 : q2 = (p0.1 - b % 2, p0.2 + 1 + c % 3)) : TriP ((qs.set (m - 2) q1).set (m - 1) q2) := by
  have b1 : 0 ≤ a % 2 := Int.emod_nonneg _ (by decide)
  have b2 : 0 ≤ b % 2 := Int.emod_nonneg _ (by decide)
  have b3 : 0 ≤ c % 3 := Int.emod_nonneg _ (by decide)
  refine ⟨p0, q1, q2, ?_, ?_, ?_, ?_⟩
  · refine List.mem_of_getElem? (i := 0) ?_
    rw [List.getElem?_set, if_neg (by omega), List.getElem?_set, if_neg (by omega), h0]
  · refine List.mem_of_getElem? (i := m - 2) ?_
    rw [List.getElem?_set, if_neg (by omega), List.getElem?_set, if_pos rfl, if_pos (by omega)]
  · refine List.mem_of_getElem? (i := m - 1) ?_
    rw [List.getElem?_set, if_pos rfl, if_pos (by rw [List.length_set]; omega)]
  · subst e1 e2
    show 0 < (p0.1 + 1 - p0.1) * (p0.2 + 1 + c % 3 - p0.2) - (p0.2 + a % 2 - p0.2) * (p0.1 - b % 2 - p0.1)
    have h1 : (p0.1 + 1 - p0.1) * (p0.2 + 1 + c % 3 - p0.2) = 1 + c % 3 := by grind
    have h2 : (p0.2 + a % 2 - p0.2) * (p0.1 - b % 2 - p0.1) = -(a % 2 * (b % 2)) := by grind
    rw [h1, h2]
    have := Int.mul_nonneg b1 b2
    omega
theorem points_ex (ns : List Int) (start : Nat) (most : Nat) (hs : start + most ≤ 9000) (hm : 3 ≤ most) (hm2 : most ≤ 40) : ∃ ps : List Pt, T__law_points_k13 ns start most = some ps ∧ 3 ≤ ps.length ∧ ps.length ≤ most ∧ (∀ q ∈ ps, Pz 13 q) ∧ TriP ps := by
  obtain ⟨n1, e1, _, _⟩ := mixed_ex ns start (by omega)
  obtain ⟨n2, e2, _, _⟩ := mixed_ex ns (start + 1) (by omega)
  rw [show ((start + 1 : Nat) : Int) = (start : Int) + 1 by omega] at e2
  have d1 : (0 : Int) < (most : Int) - 2 := by omega
  have v0 := Int.emod_nonneg n2 (show (most : Int) - 2 ≠ 0 by omega)
  have v1 := Int.emod_lt_of_pos n2 d1
  have hm3 : modT n2 ((most : Int) - 2) = some (n2 % ((most : Int) - 2)) := modT_pos d1
  generalize n2 % ((most : Int) - 2) = v at *
  obtain ⟨m, hv⟩ : ∃ m : Nat, 3 + v = (m : Int) := ⟨(3 + v).toNat, by omega⟩
  obtain ⟨qs, el, hl, hz⟩ := foldT_rng (f := TL1__law_points_k13 ns start (n1 % 4)) (fun i s => s.length = i ∧ ∀ q ∈ s, Pz 12 q) (s := []) ⟨rfl, by simp⟩ m (fun i s hi ⟨h1, h3⟩ => by
    obtain ⟨q, zq, e⟩ := points_step ns start (n1 % 4) s (by omega) i (by omega)
    refine ⟨_, e, by rw [List.length_append, h1]; rfl, fun r hr => ?_⟩
    rcases List.mem_append.mp hr with h | h
    · exact h3 r h
    · rw [List.mem_singleton.mp h]; exact zq)
  have hr : rng1T (m : Int) = some (rngI m) := rng1T_le (by omega)
  obtain ⟨p0, p1, p2, h0, h1, h2, g0, g1, u1, g2, u2⟩ := points_ends hl (by omega)
  have z0 := hz p0 (List.mem_of_getElem? h0)
  refine ⟨(qs.set (m - 2) (p0.1 + 1, p0.2 + p1.2 % 2)).set (m - 1) (p0.1 - p2.1 % 2, p0.2 + 1 + p2.2 % 3), ?_, by simp; omega, by simp; omega, fun q hq => ?_, tri_of hl (by omega) h0 p1.2 p2.1 p2.2 rfl rfl⟩
  · unfold T__law_points_k13
    simp [e1, e2, hm3, hv, hr, el, g0, g1, u1, g2, u2]
  · have b1 : 0 ≤ p1.2 % 2 ∧ p1.2 % 2 < 2 := ⟨Int.emod_nonneg _ (by decide), Int.emod_lt_of_pos _ (by decide)⟩
    have b2 : 0 ≤ p2.1 % 2 ∧ p2.1 % 2 < 2 := ⟨Int.emod_nonneg _ (by decide), Int.emod_lt_of_pos _ (by decide)⟩
    have b3 : 0 ≤ p2.2 % 3 ∧ p2.2 % 3 < 3 := ⟨Int.emod_nonneg _ (by decide), Int.emod_lt_of_pos _ (by decide)⟩
    obtain ⟨z01, z02⟩ := z0
    have zz1 : p0.1.natAbs < 4096 := z01
    have zz2 : p0.2.natAbs < 4096 := z02
    rcases List.mem_or_eq_of_mem_set hq with h | h
    · rcases List.mem_or_eq_of_mem_set h with h | h
      · exact ⟨(hz q h).1.mono (by decide), (hz q h).2.mono (by decide)⟩
      · rw [h]; exact ⟨show (p0.1 + 1).natAbs < 8192 by omega, show (p0.2 + p1.2 % 2).natAbs < 8192 by omega⟩
    · rw [h]; exact ⟨show (p0.1 - p2.1 % 2).natAbs < 8192 by omega, show (p0.2 + 1 + p2.2 % 3).natAbs < 8192 by omega⟩
/-! ### the ring of points -/
theorem turn_e {n : Nat} {a b c : Pt} (ha : Pz n a) (hb : Pz n b) (hc : Pz n c) (hn : n ≤ 4000) : T__law_turn a b c = some (bendZ a b c) := by
  have m1 := mulT_sz (hb.1.sub' ha.1) (hc.2.sub' ha.2) (by omega)
  have m2 := mulT_sz (hb.2.sub' ha.2) (hc.1.sub' ha.1) (by omega)
  unfold T__law_turn bendZ
  rw [m1, Option.bind_some, m2, Option.bind_some]
theorem get_m1 {α : Type} {b : α} {r : List α} : getT (b :: r).reverse (-1) = some b := by
  rw [show (-1 : Int) = -((1 : Nat) : Int) by rfl, getT_neg (by decide) (by simp), List.getElem?_reverse (by simp)]
  simp
theorem get_m2 {α : Type} {a b : α} {r : List α} : getT (b :: a :: r).reverse (-2) = some a := by
  rw [show (-2 : Int) = -((2 : Nat) : Int) by rfl, getT_neg (by decide) (by simp), List.getElem?_reverse (by simp; omega)]
  simp
/-- any loop that pops as the chain does -/
theorem pop_loop {p : Pt} {c : List Pt → Option Bool} {b : List Pt → Option (List Pt)}
    (hc0 : c [] = some false) (hc1 : ∀ x, c [x] = some false) (hb : ∀ y x r, b (y :: x :: r).reverse = some (x :: r).reverse) :
    ∀ (st : List Pt) (k : Nat), st.length < k → (∀ y x r, (∃ t, st = t ++ y :: x :: r) → c (y :: x :: r).reverse = some (decide (bendZ x y p ≤ 0))) → whileT c b k st.reverse = some (popS st p).reverse
  | _, 0, h, _ => absurd h (by omega)
  | [], k + 1, _, _ => by unfold whileT popS; rw [List.reverse_nil, hc0]; rfl
  | [x], k + 1, _, _ => by unfold whileT popS; rw [List.reverse_singleton, hc1]; rfl
  | y :: x :: r, k + 1, h, hz => by
    have ih := pop_loop hc0 hc1 hb (x :: r) k (by simp at h ⊢; omega) (fun y' x' r' ⟨t, ht⟩ => hz y' x' r' ⟨y :: t, by rw [ht]; rfl⟩)
    unfold whileT
    rw [hz y x r ⟨[], rfl⟩, Option.bind_some]
    by_cases hb' : bendZ x y p ≤ 0
    · rw [show popS (y :: x :: r) p = popS (x :: r) p by rw [popS, if_pos hb'], if_pos (decide_eq_true hb'), hb, Option.bind_some]
      exact ih
    · rw [show popS (y :: x :: r) p = y :: x :: r by rw [popS, if_neg hb'], if_neg (by simpa using hb')]
theorem ring_step {n : Nat} (hn : n ≤ 4000) (p : Pt) (hp : Pz n p) (st : List Pt) (hl : st.length < 1000) (hz : ∀ q ∈ st, Pz n q) : TL2__law_ring p st.reverse = some (stepS st p).reverse := by
  have h := pop_loop (p := p) (c := TL3__law_ringc p) (b := TL3__law_ring p) (by simp [TL3__law_ringc]) (fun x => by simp [TL3__law_ringc]) (fun y x r => by
    unfold TL3__law_ring
    rw [popT_pos (by simp), Option.bind_some, List.dropLast_reverse]; rfl) st (st.length + 1) (by omega) (fun y x r ⟨t, ht⟩ => by
    have t1 := turn_e (hz x (by rw [ht]; simp)) (hz y (by rw [ht]; simp)) hp hn
    have e3 : ((y :: x :: r).reverse.length : Int) = r.length + 2 := by simp
    unfold TL3__law_ringc
    rw [e3, if_pos (by simp; omega), get_m2, Option.bind_some, get_m1, Option.bind_some, t1]; rfl)
  unfold TL2__law_ring stepS
  rw [List.length_reverse, h, Option.bind_some, appT_lt (by rw [List.length_reverse]; exact Nat.lt_of_le_of_lt (popS_len st p) (Nat.lt_of_lt_of_le hl (by decide)))]
  simp
theorem ring_row {n : Nat} (hn : n ≤ 4000) : ∀ (ps st : List Pt), ps.length + st.length < 1000 → (∀ q ∈ st, Pz n q) → (∀ q ∈ ps, Pz n q) → foldT TL2__law_ring ps st.reverse = some (ps.foldl stepS st).reverse
  | [], st, _, _, _ => rfl
  | p :: ps, st, h, hs, hp => by
    have hl := popS_len st p
    have ih := ring_row hn ps (stepS st p) (by simp only [stepS, List.length_cons] at *; omega) (fun q hq => by
      rcases List.mem_cons.mp hq with z | z
      · exact z ▸ hp p List.mem_cons_self
      · exact hs q (popS_mem _ _ _ z)) (fun q hq => hp q (List.mem_cons_of_mem _ hq))
    unfold foldT
    rw [ring_step hn p (hp p List.mem_cons_self) st (by simp at h; omega) hs, Option.bind_some]
    exact ih
theorem ring_turn {n : Nat} (hn : n ≤ 4000) (acc row : List Pt) (h1 : row.length < 500) (h2 : acc.length < 500) (hz : ∀ q ∈ row, Pz n q) : TL1__law_ring row acc = some (acc ++ (chainP row).dropLast) := by
  have h := ring_row hn row [] (by simp; omega) (by simp) hz
  have hl := chainP_len row
  unfold TL1__law_ring
  rw [Option.bind_some, show ([] : List Pt) = ([] : List Pt).reverse by rfl, h, Option.bind_some]
  show (catT acc (chainP row).dropLast).bind _ = _
  rw [catT_le (by rw [List.length_dropLast]; unfold lim; omega)]; rfl
theorem ring_e {n : Nat} (hn : n ≤ 4000) (ps : List Pt) (h1 : ps.length < 64) (hz : ∀ q ∈ ps, Pz n q) : T__law_ring ps = some (ringP ps) := by
  have hl := sset_len ps
  have hzs : ∀ q ∈ sset ps, Pz n q := fun q hq => hz q (mem_sset.mp hq)
  have hc := chainP_len (sset ps)
  have t1 := ring_turn hn [] (sset ps) (by omega) (by simp) hzs
  have t2 := ring_turn hn ([] ++ (chainP (sset ps)).dropLast) (sset ps).reverse (by rw [List.length_reverse]; omega) (by rw [List.nil_append, List.length_dropLast]; omega) (fun q hq => hzs q (List.mem_reverse.mp hq))
  unfold T__law_ring ssetT
  rw [if_pos h1]
  simp only [Option.bind_some, foldT]
  rw [t1, Option.bind_some, t2]; rfl
/-! ### the drawn shape -/
def sizeP (s m f : Int) (p : Pt) : Spot := (Rat.divInt (p.1 * m + f) s, Rat.divInt (p.2 * m - 2 * f) s)
structure Drawn (most : Nat) (ps : List Pt) (s m f : Int) : Prop where
  l3 : 3 ≤ ps.length
  lm : ps.length ≤ most
  z : ∀ q ∈ ps, Pz 13 q
  tri : TriP ps
  s0 : 0 < s
  s1 : s ≤ 1000000000
  m0 : 0 < m
  m1 : m ≤ 1000000000
  f0 : f.natAbs ≤ 1000000000000000000
theorem get3 {a b c : Int} {i : Int} (h0 : 0 ≤ i) (h3 : i < 3) : getT [a, b, c] i = some (if i = 0 then a else if i = 1 then b else c) := by
  have : i = 0 ∨ i = 1 ∨ i = 2 := by omega
  rcases this with rfl | rfl | rfl <;> rfl
theorem get2 {a b : Int} {i : Int} (h0 : 0 ≤ i) (h3 : i < 2) : getT [a, b] i = some (if i = 0 then a else b) := by
  have : i = 0 ∨ i = 1 := by omega
  rcases this with rfl | rfl <;> rfl
theorem shape_ex (ns : List Int) (start most : Nat) (hs : start + most ≤ 8000) (hm : 3 ≤ most) (hm2 : most ≤ 40) : ∃ (ps : List Pt) (s m f : Int), Drawn most ps s m f ∧ T__law_shape ns start most = some (((ringP ps).map (sizeP s m f)).map sp) := by
  obtain ⟨ps, ep, l3, lm, zp, tri⟩ := points_ex ns start most (by omega) hm hm2
  obtain ⟨n, en, _, _⟩ := mixed_ex ns (start + 1) (by omega)
  rw [show ((start + 1 : Nat) : Int) = (start : Int) + 1 by omega] at en
  have er := ring_e (n := 13) (by decide) ps (by omega) zp
  have c0 := T__law_cell_at_e ns start
  have c1 := T__law_cell_at_e ns (start + 1)
  have c2 := T__law_cell_at_e ns (start + 2)
  rw [show ((start + 1 : Nat) : Int) = (start : Int) + 1 by omega] at c1
  rw [show ((start + 2 : Nat) : Int) = (start : Int) + 2 by omega] at c2
  generalize ns.getD start 0 = x0 at c0
  generalize ns.getD (start + 1) 0 = x1 at c1
  generalize ns.getD (start + 2) 0 = x2 at c2
  have b0 : 0 ≤ x0 % 1000000000 ∧ x0 % 1000000000 < 1000000000 := ⟨Int.emod_nonneg _ (by decide), Int.emod_lt_of_pos _ (by decide)⟩
  have b1 : 0 ≤ x1 % 1000000000 ∧ x1 % 1000000000 < 1000000000 := ⟨Int.emod_nonneg _ (by decide), Int.emod_lt_of_pos _ (by decide)⟩
  have b2 : 0 ≤ x2 % 2000000000000000000 ∧ x2 % 2000000000000000000 < 2000000000000000000 := ⟨Int.emod_nonneg _ (by decide), Int.emod_lt_of_pos _ (by decide)⟩
  have b3 : 0 ≤ n / 64 % 9 ∧ n / 64 % 9 < 9 := ⟨Int.emod_nonneg _ (by decide), Int.emod_lt_of_pos _ (by decide)⟩
  obtain ⟨s, es, s0, s1⟩ : ∃ s : Int, getT [1, 1 + n / 64 % 9, 1 + x0 % 1000000000] (n / 16 % 3) = some s ∧ 0 < s ∧ s ≤ 1000000000 := by
    rw [get3 (Int.emod_nonneg _ (by decide)) (Int.emod_lt_of_pos _ (by decide))]
    refine ⟨_, rfl, ?_⟩
    split
    · omega
    · split <;> omega
  obtain ⟨m, em, m0, m1⟩ : ∃ s : Int, getT [1, 1 + x1 % 1000000000] (n / 1024 % 2) = some s ∧ 0 < s ∧ s ≤ 1000000000 := by
    rw [get2 (Int.emod_nonneg _ (by decide)) (Int.emod_lt_of_pos _ (by decide))]
    refine ⟨_, rfl, ?_⟩
    split <;> omega
  obtain ⟨f, ef, f0⟩ : ∃ s : Int, getT [0, x2 % 2000000000000000000 - 1000000000000000000] (n / 2048 % 2) = some s ∧ s.natAbs ≤ 1000000000000000000 := by
    rw [get2 (Int.emod_nonneg _ (by decide)) (Int.emod_lt_of_pos _ (by decide))]
    refine ⟨_, rfl, ?_⟩
    split <;> omega
  refine ⟨ps, s, m, f, ⟨l3, lm, zp, tri, s0, s1, m0, m1, f0⟩, ?_⟩
  have rl := ringP_len ps
  have lo := fun t => ratioT_sz (t := t) (b := s) (by omega) (Sz.mono (m := 30) (show s.natAbs < 2 ^ 30 by omega) (by decide))
  have mx : ∀ x : Int, mulT x m = some (x * m) := fun x => mulT_r (by omega)
  have comp := compT_some (xs := ringP ps) (g := fun p => sp (sizeP s m f p)) (f := fun x10 => (mulT x10.1 m).bind fun m11 => (ratioT (m11 + f) s).bind fun m12 => (mulT x10.2 m).bind fun m13 => (ratioT (m13 - 2 * f) s).bind fun m14 => some (m12, m14))
    (Nat.lt_of_lt_of_le (show _ < 1000 by omega) (by decide)) (fun p hp => by simp only [mx, lo, Option.bind_some]; rfl)
  unfold T__law_shape
  simp only [ep, er, en, c0, c1, c2, es, em, ef, Option.bind_some, comp, List.map_map]
  simp only [show (2 : Int) * 1000000000000000000 = 2000000000000000000 by decide, ef, Option.bind_some, comp]
  rfl
theorem size_z {most : Nat} {ps : List Pt} {s m f : Int} (d : Drawn most ps s m f) {p : Pt} (hp : p ∈ ps) : Spz 64 (sizeP s m f p) := by
  obtain ⟨z1, z2⟩ := d.z p hp
  have s0 := d.s0; have s1 := d.s1; have m0 := d.m0; have m1 := d.m1; have f0 := d.f0
  have a1 : Sz 13 p.1 := z1
  have a2 : Sz 13 p.2 := z2
  have am : Sz 30 m := show m.natAbs < 2 ^ 30 by omega
  have af : Sz 60 f := show f.natAbs < 2 ^ 60 by omega
  have as : Sz 30 s := show s.natAbs < 2 ^ 30 by omega
  have a2f : Sz 62 (2 * f) := (show Sz 2 2 by unfold Sz; decide).mul af
  exact ⟨divInt_sz (by omega) (((a1.mul am).add' af).mono (by decide)) (as.mono (by decide)), divInt_sz (by omega) (((a2.mul am).sub' a2f).mono (by decide)) (as.mono (by decide))⟩
end Sp

/-! SPEC2: flat spots, bends, reach. -/
namespace Sp
open TL Ty
open Ge (bendQ)
class Bs (p : Spot) (n : outParam Nat) : Prop where
  h : Spz n p
instance Bs.x {p : Spot} {n : Nat} [a : Bs p n] : Bq p.1 n := ⟨a.h.1⟩
instance Bs.y {p : Spot} {n : Nat} [a : Bs p n] : Bq p.2 n := ⟨a.h.2⟩
theorem bs {p : Spot} {n : Nat} (h : Spz n p) : Bs p n := ⟨h⟩
/-! ### whole and broken -/
theorem ic_mul (a b : Int) : ((a * b : Int) : Rat) = (a : Rat) * (b : Rat) := Rat.intCast_mul a b
theorem ic_add (a b : Int) : ((a + b : Int) : Rat) = (a : Rat) + (b : Rat) := Rat.intCast_add a b
theorem ic_sub (a b : Int) : ((a - b : Int) : Rat) = (a : Rat) - (b : Rat) := Rat.intCast_sub a b
theorem ic_neg (a : Int) : ((-a : Int) : Rat) = -(a : Rat) := Rat.intCast_neg a
theorem ic_pos {a : Int} : (0 : Rat) < (a : Rat) ↔ 0 < a := by rw [← Rat.intCast_zero, Rat.intCast_lt_intCast]
theorem ic_neg' {a : Int} : (a : Rat) < (0 : Rat) ↔ a < 0 := by rw [← Rat.intCast_zero, Rat.intCast_lt_intCast]
theorem ic_zero {a : Int} : (a : Rat) = (0 : Rat) ↔ a = 0 := by rw [← Rat.intCast_zero, Rat.intCast_inj]
theorem ic_inj {a b : Int} : (a : Rat) = (b : Rat) ↔ a = b := Rat.intCast_inj
theorem ic_lt {a b : Int} : (a : Rat) < (b : Rat) ↔ a < b := Rat.intCast_lt_intCast
theorem pos_mul {a b : Rat} (h : 0 < b) : 0 < a * b ↔ 0 < a := by
  constructor
  · intro h1
    rcases (Rat.le_total : a ≤ 0 ∨ 0 ≤ a) with h2 | h2
    · have := Rat.mul_nonneg (a := -a) (b := b) (by grind) (by grind)
      grind
    · rcases Rat.le_iff_lt_or_eq.mp h2 with h3 | h3
      · exact h3
      · rw [← h3] at h1; grind
  · intro h1; exact Rat.mul_pos h1 h
theorem neg_mul' {a b : Rat} (h : 0 < b) : a * b < 0 ↔ a < 0 := by
  have := pos_mul (a := -a) h
  grind
theorem zero_mul' {a b : Rat} (h : 0 < b) : a * b = 0 ↔ a = 0 := by
  rw [Rat.mul_eq_zero]; grind
theorem mul_right_inj' {a b c : Rat} (h : 0 < c) (e : a * c = b * c) : a = b := by
  have : (a - b) * c = 0 := by grind
  have := (zero_mul' h).mp this
  grind
theorem divInt_div {t b : Int} {q : Rat} (hb : b ≠ 0) (h : (t : Rat) = q * (b : Rat)) : Rat.divInt t b = q := by
  have : (b : Rat) ≠ 0 := fun z => hb (ic_zero.mp z)
  rw [Rat.divInt_eq_div, h]; grind
theorem fl_c (p : Spot) : (0 : Rat) < ((fl p).c : Rat) := ic_pos.mpr (Int.mul_pos (by have := p.1.den_pos; omega) (by have := p.2.den_pos; omega))
theorem fl_c' (p : Spot) : 0 < (fl p).c := ic_pos.mp (fl_c p)
theorem fl_a (p : Spot) : ((fl p).a : Rat) = p.1 * ((fl p).c : Rat) := by
  have := rat_num p.1
  show ((p.1.num * p.2.den : Int) : Rat) = p.1 * ((p.1.den * p.2.den : Int) : Rat)
  rw [ic_mul, ic_mul]; grind
theorem fl_b (p : Spot) : ((fl p).b : Rat) = p.2 * ((fl p).c : Rat) := by
  have := rat_num p.2
  show ((p.2.num * p.1.den : Int) : Rat) = p.2 * ((p.1.den * p.2.den : Int) : Rat)
  rw [ic_mul, ic_mul]; grind
theorem fl_inj {p q : Spot} (h : fl p = fl q) : p = q := by
  have a1 := fl_a p; have a2 := fl_a q; have b1 := fl_b p; have b2 := fl_b q; have c1 := fl_c p
  rw [h] at a1 b1 c1
  exact Prod.ext (mul_right_inj' (fl_c q) (a1.symm.trans a2)) (mul_right_inj' (fl_c q) (b1.symm.trans b2))
/-! ### bends -/
def wayZ (u v w : P3 Int Int Int) : Int := u.a * (v.b * w.c - w.b * v.c) - u.b * (v.a * w.c - w.a * v.c) + u.c * (v.a * w.b - w.a * v.b)
theorem way_fl (p q r : Spot) : ((wayZ (fl p) (fl q) (fl r) : Int) : Rat) = bendQ p q r * (((fl p).c : Rat) * ((fl q).c : Rat) * ((fl r).c : Rat)) := by
  have a1 := fl_a p; have b1 := fl_b p
  have a2 := fl_a q; have b2 := fl_b q
  have a3 := fl_a r; have b3 := fl_b r
  unfold wayZ bendQ
  simp only [ic_add, ic_sub, ic_mul, a1, b1, a2, b2, a3, b3]
  grind
theorem way_ccc (p q r : Spot) : (0 : Rat) < ((fl p).c : Rat) * ((fl q).c : Rat) * ((fl r).c : Rat) := Rat.mul_pos (Rat.mul_pos (fl_c p) (fl_c q)) (fl_c r)
theorem way_pos {p q r : Spot} : 0 < wayZ (fl p) (fl q) (fl r) ↔ 0 < bendQ p q r := by rw [← ic_pos, way_fl, pos_mul (way_ccc p q r)]
theorem way_neg {p q r : Spot} : wayZ (fl p) (fl q) (fl r) < 0 ↔ bendQ p q r < 0 := by rw [← ic_neg', way_fl, neg_mul' (way_ccc p q r)]
theorem way_zero {p q r : Spot} : wayZ (fl p) (fl q) (fl r) = 0 ↔ bendQ p q r = 0 := by rw [← ic_zero, way_fl, zero_mul' (way_ccc p q r)]
instance Bd.fa {p : Spot} {n : Nat} [a : Bs p n] : Bd (fl p).a (n + n) := ⟨a.h.1.1.mul a.h.2.2⟩
instance Bd.fb {p : Spot} {n : Nat} [a : Bs p n] : Bd (fl p).b (n + n) := ⟨a.h.2.1.mul a.h.1.2⟩
instance Bd.fc {p : Spot} {n : Nat} [a : Bs p n] : Bd (fl p).c (n + n) := ⟨a.h.1.2.mul a.h.2.2⟩
theorem way_e {p q r : Spot} {l m n : Nat} [a : Bs p l] [b : Bs q m] [c : Bs r n] (hl : l ≤ 1000000) (hm : m ≤ 1000000) (hn : n ≤ 1000000) : T__law_way (fl p) (fl q) (fl r) = some (wayZ (fl p) (fl q) (fl r)) := by
  unfold T__law_way
  rw [mulT_bd (by omega), Option.bind_some, mulT_bd (by omega), Option.bind_some, mulT_bd (by omega), Option.bind_some, mulT_bd (by omega), Option.bind_some, mulT_bd (by omega), Option.bind_some, mulT_bd (by omega), Option.bind_some,
    Option.bind_some, mulT_bd (by omega), Option.bind_some, mulT_bd (by omega), Option.bind_some, mulT_bd (by omega), Option.bind_some]
  rfl
instance Bd.way {p q r : Spot} {l m n : Nat} [a : Bs p l] [b : Bs q m] [c : Bs r n] : Bd (wayZ (fl p) (fl q) (fl r)) (2 * (l + m + n) + 6) := ⟨by
  have := (inferInstance : Bd ((fl p).a * ((fl q).b * (fl r).c - (fl r).b * (fl q).c) - (fl p).b * ((fl q).a * (fl r).c - (fl r).a * (fl q).c) + (fl p).c * ((fl q).a * (fl r).b - (fl r).a * (fl q).b)) _).h
  have h1 : Sz (2 * (l + m + n) + 2) ((fl p).a * ((fl q).b * (fl r).c - (fl r).b * (fl q).c)) := (a.h.1.1.mul a.h.2.2).mul (((Bd.fb (p := q)).h.mul (Bd.fc (p := r)).h).sub' ((Bd.fb (p := r)).h.mul (Bd.fc (p := q)).h)) |>.mono (by omega)
  have h2 : Sz (2 * (l + m + n) + 2) ((fl p).b * ((fl q).a * (fl r).c - (fl r).a * (fl q).c)) := ((Bd.fb (p := p)).h).mul (((Bd.fa (p := q)).h.mul (Bd.fc (p := r)).h).sub' ((Bd.fa (p := r)).h.mul (Bd.fc (p := q)).h)) |>.mono (by omega)
  have h3 : Sz (2 * (l + m + n) + 2) ((fl p).c * ((fl q).a * (fl r).b - (fl r).a * (fl q).b)) := ((Bd.fc (p := p)).h).mul (((Bd.fa (p := q)).h.mul (Bd.fb (p := r)).h).sub' ((Bd.fa (p := r)).h.mul (Bd.fb (p := q)).h)) |>.mono (by omega)
  exact ((h1.sub' h2).add' h3).mono (by omega)⟩
/-! ### reach -/
def hgt (a b : Int) (p : Spot) : Rat := (a : Rat) * p.1 + (b : Rat) * p.2
theorem hgt_div (a b : Int) (p : Spot) : Rat.divInt (a * (fl p).a + b * (fl p).b) (fl p).c = hgt a b p := by
  refine divInt_div (by have := fl_c' p; omega) ?_
  have h1 := fl_a p; have h2 := fl_b p
  rw [ic_add, ic_mul, ic_mul, h1, h2]; unfold hgt; grind
theorem hgt_z {n k : Nat} {a b : Int} {p : Spot} (ha : Sz k a) (hb : Sz k b) (hp : Spz n p) : Qz (k + 2 * n + 1) (hgt a b p) := by
  have i := bs hp
  rw [← hgt_div]
  exact divInt_sz (by have := fl_c' p; omega) (((ha.mul (Bd.fa (p := p)).h).add' (hb.mul (Bd.fb (p := p)).h)).mono (by omega)) ((Bd.fc (p := p)).h.mono (by omega))
def bestS (f : Option Rat) (h : Rat) : Option Rat := match f with
  | none => some h
  | some q => if q < h then some h else some q
theorem reach_step {n k : Nat} {a b : Int} (ha : Sz k a) (hb : Sz k b) {p : Spot} (hp : Spz n p) (hn : 2 * (k + 2 * n + 1) ≤ 9000) (f : Option Rat) (hf : ∀ q, f = some q → Qz (k + 2 * n + 1) q) :
    TL1_reach a b (sp p) (f.map fr) = some ((bestS f (hgt a b p)).map fr) := by
  have i := bs hp
  have ia : Bd a k := ⟨ha⟩
  have ib : Bd b k := ⟨hb⟩
  have ih : Bq (hgt a b p) (k + 2 * n + 1) := ⟨hgt_z ha hb hp⟩
  have hc := fl_c' p
  unfold TL1_reach
  rw [T_flat_e (by omega), Option.bind_some, mulT_bd (by omega), Option.bind_some, mulT_bd (by omega), Option.bind_some, ratioT_bd (by omega) (by omega), hgt_div, Option.bind_some]
  cases f with
  | none => simp [bestS]
  | some q =>
    have iq : Bq q (k + 2 * n + 1) := ⟨hf q rfl⟩
    simp only [Option.map_some, Option.isNone_some, Option.bind_some]
    rw [T_below_e (by omega)]
    by_cases h : q < hgt a b p
    · simp [bestS, h]
    · simp [bestS, h]
theorem best_fold : ∀ (hs : List Rat) (f : Option Rat), (∀ q, f = some q → ∀ r, hs.foldl bestS f = some r → q ≤ r) ∧ (∀ r, hs.foldl bestS f = some r → (f = some r ∨ r ∈ hs) ∧ ∀ h ∈ hs, h ≤ r) ∧ ((f ≠ none ∨ hs ≠ []) → ∃ r, hs.foldl bestS f = some r)
  | [], f => ⟨fun q hq r hr => by have : some q = some r := hq.symm.trans hr; cases this; exact Rat.le_refl, fun r hr => ⟨.inl hr, by simp⟩, fun h => by
      rcases h with h | h
      · exact Option.ne_none_iff_exists'.mp h
      · exact absurd rfl h⟩
  | h :: hs, f => by
    obtain ⟨i1, i2, i3⟩ := best_fold hs (bestS f h)
    have key : ∃ b, bestS f h = some b ∧ h ≤ b ∧ (f = some b ∨ b = h) ∧ ∀ q, f = some q → q ≤ b := by
      cases f with
      | none => exact ⟨h, rfl, Rat.le_refl, .inr rfl, by simp⟩
      | some q =>
        by_cases c : q < h
        · exact ⟨h, by simp [bestS, c], Rat.le_refl, .inr rfl, fun q' e => by cases e; exact Rat.le_of_lt c⟩
        · exact ⟨q, by simp [bestS, c], Rat.not_lt.mp c, .inl rfl, fun q' e => by cases e; exact Rat.le_refl⟩
    obtain ⟨b, e, k1, k2, k3⟩ := key
    rw [List.foldl_cons, e]; rw [e] at i1 i2 i3
    refine ⟨fun q hq r hr => Rat.le_trans (k3 q hq) (i1 b rfl r hr), fun r hr => ?_, fun _ => i3 (.inl (by simp))⟩
    obtain ⟨j1, j2⟩ := i2 r hr
    refine ⟨?_, fun x hx => ?_⟩
    · rcases j1 with j1 | j1
      · cases j1
        rcases k2 with k2 | k2
        · exact .inl k2
        · exact .inr (k2 ▸ List.mem_cons_self)
      · exact .inr (List.mem_cons_of_mem _ j1)
    · rcases List.mem_cons.mp hx with rfl | hx
      · exact Rat.le_trans k1 (i1 b rfl r hr)
      · exact j2 x hx
/-- the greatest -/
def IsTop (r : Rat) (hs : List Rat) : Prop := r ∈ hs ∧ ∀ h ∈ hs, h ≤ r
theorem IsTop.uniq {r s : Rat} {hs : List Rat} (a : IsTop r hs) (b : IsTop s hs) : r = s := Rat.le_antisymm (b.2 r a.1) (a.2 s b.1)
theorem reach_e {n k : Nat} {a b : Int} (ha : Sz k a) (hb : Sz k b) (hn : 2 * (k + 2 * n + 1) ≤ 9000) (qs : List Spot) (hz : ∀ q ∈ qs, Spz n q) (hne : qs ≠ []) : ∃ r, T_reach (qs.map sp) a b = some (fr r) ∧ IsTop r (qs.map (hgt a b)) ∧ Qz (k + 2 * n + 1) r := by
  have loop : ∀ (qs : List Spot) (f : Option Rat), (∀ q ∈ qs, Spz n q) → (∀ q, f = some q → Qz (k + 2 * n + 1) q) → foldT (TL1_reach a b) (qs.map sp) (f.map fr) = some (((qs.map (hgt a b)).foldl bestS f).map fr) := by
    intro qs
    induction qs with
    | nil => intro f _ _; rfl
    | cons p qs ih =>
      intro f hz hf
      rw [List.map_cons, foldT, reach_step ha hb (hz p List.mem_cons_self) hn f hf, Option.bind_some, ih _ (fun q hq => hz q (List.mem_cons_of_mem _ hq))]
      · rfl
      · intro q hq
        have zp := hgt_z ha hb (hz p List.mem_cons_self)
        cases f with
        | none => cases hq; exact zp
        | some c =>
          unfold bestS at hq
          simp only at hq
          split at hq
          · cases hq; exact zp
          · cases hq; exact hf _ rfl
  have l := loop qs none hz (by simp)
  obtain ⟨_, h2, h3⟩ := best_fold (qs.map (hgt a b)) none
  obtain ⟨r, hr⟩ := h3 (.inr (by simpa using hne))
  obtain ⟨m1, m2⟩ := h2 r hr
  have m1 : r ∈ qs.map (hgt a b) := by rcases m1 with h | h; cases h; exact h
  refine ⟨r, ?_, ⟨m1, m2⟩, ?_⟩
  · unfold T_reach
    rw [Option.bind_some, show (none : Option (Int × Int)) = (none : Option Rat).map fr by rfl, l, hr]; rfl
  · obtain ⟨q, hq, rfl⟩ := List.mem_map.mp m1
    exact hgt_z ha hb (hz q hq)
end Sp

/-! SPEC3: the drawn shape is a ring. -/
namespace Ge
def scl (c : Rat) (d : V2) (p : V2) : V2 := (p.1 * c + d.1, p.2 * c + d.2)
theorem pv_map {g : V2 → V2} (vs : List V2) (i : Nat) (h : 0 < vs.length) : pv (vs.map g) i = g (pv vs i) := by
  unfold pv
  have hi := Nat.mod_lt i h
  rw [List.length_map, List.getD_eq_getElem?_getD, List.getD_eq_getElem?_getD, List.getElem?_map, List.getElem?_eq_getElem hi]; rfl
theorem ed_scl {c : Rat} {d : V2} (vs : List V2) (i : Nat) (h : 0 < vs.length) : ed (vs.map (scl c d)) i = ((ed vs i).1 * c, (ed vs i).2 * c) := by
  unfold ed; rw [pv_map _ _ h, pv_map _ _ h]; unfold scl sub; simp only [Prod.mk.injEq]; constructor <;> grind
theorem hp_scl {c : Rat} (hc : 0 < c) {u : V2} (h : Hp u) : Hp (u.1 * c, u.2 * c) := by
  rcases h with h | ⟨h, h2⟩
  · exact .inl (mul_pos h hc)
  · exact .inr ⟨by show u.1 * c = 0; rw [h]; grind, mul_pos h2 hc⟩
theorem ang_scl {c : Rat} (hc : 0 < c) {u v : V2} (h : ang u v) : ang (u.1 * c, u.2 * c) (v.1 * c, v.2 * c) := by
  have hn : ∀ {u : V2}, Hp (neg u) → Hp (neg (u.1 * c, u.2 * c)) := fun {u} h => by
    have := hp_scl hc h
    unfold neg at *
    simp only at *
    rw [show -(u.1 * c) = -u.1 * c by grind, show -(u.2 * c) = -u.2 * c by grind]; exact this
  have hx : 0 < crs u v → 0 < crs (u.1 * c, u.2 * c) (v.1 * c, v.2 * c) := fun h => by
    have := mul_pos (mul_pos hc hc) h
    unfold crs at *; grind
  rcases h with ⟨a, b⟩ | ⟨a, b, e⟩ | ⟨a, b, e⟩
  · exact .inl ⟨hp_scl hc a, hn b⟩
  · exact .inr (.inl ⟨hp_scl hc a, hp_scl hc b, hx e⟩)
  · exact .inr (.inr ⟨hn a, hn b, hx e⟩)
theorem Rg.scl {vs : List V2} (r : Rg vs) {c : Rat} (hc : 0 < c) (d : V2) : Rg (vs.map (scl c d)) := by
  have h0 : 0 < vs.length := by have := r.n3; omega
  refine ⟨by rw [List.length_map]; exact r.n3, fun i j hij hj => ?_⟩
  rw [List.length_map] at hj
  rw [ed_scl _ _ h0, ed_scl _ _ h0]
  exact ang_scl hc (r.srt i j hij hj)
end Ge
namespace Sp
open TL Ty
open Ge (Rg V2)
theorem sizeP_scl {s m f : Int} (s0 : 0 < s) (p : Pt) : sizeP s m f p = Ge.scl ((m : Rat) / (s : Rat)) ((f : Rat) / (s : Rat), -2 * (f : Rat) / (s : Rat)) (cp p) := by
  have hs : (s : Rat) ≠ 0 := fun z => by have := ic_zero.mp z; omega
  unfold sizeP Ge.scl cp
  simp only [Rat.divInt_eq_div, ic_add, ic_sub, ic_mul, Prod.mk.injEq]
  constructor
  · grind
  · rw [show ((2 : Int) : Rat) = 2 by rfl]; grind
theorem shape_rg (ns : List Int) (start most : Nat) (hs : start + most ≤ 8000) (hm : 3 ≤ most) (hm2 : most ≤ 40) : ∃ vs : List Spot, T__law_shape ns start most = some (vs.map sp) ∧ Rg vs ∧ (∀ q ∈ vs, Spz 64 q) ∧ vs.length ≤ 2 * most := by
  obtain ⟨ps, s, m, f, dr, es⟩ := shape_ex ns start most hs hm hm2
  refine ⟨_, es, ?_, fun q hq => ?_, ?_⟩
  · have h1 := (hull dr.tri).1
    have s0 := ic_pos.mpr dr.s0
    have m0 := ic_pos.mpr dr.m0
    have hc : (0 : Rat) < (m : Rat) / (s : Rat) := by
      rw [Rat.div_def]; exact Rat.mul_pos m0 (Rat.inv_pos.mpr s0)
    have := h1.scl hc ((f : Rat) / (s : Rat), -2 * (f : Rat) / (s : Rat))
    rw [List.map_map] at this
    rw [show (sizeP s m f) = (Ge.scl ((m : Rat) / (s : Rat)) ((f : Rat) / (s : Rat), -2 * (f : Rat) / (s : Rat))) ∘ cp from funext fun p => sizeP_scl dr.s0 p]
    exact this
  · obtain ⟨p, hp, rfl⟩ := List.mem_map.mp hq
    exact size_z dr (ringP_mem hp)
  · have := ringP_len ps; have := dr.lm; rw [List.length_map]; omega
end Sp

/-! SPEC4: sides. -/
namespace Sp
open TL Ty
open Ge (Rg V2 pv ed)
/-- (a, b, c) of the side from u to v -/
structure IsSide (n : Nat) (u v : Spot) (s : P3 Int Int Int) : Prop where
  ex : ∃ l : Rat, 0 < l ∧ (s.a : Rat) = l * (u.2 - v.2) ∧ (s.b : Rat) = l * (v.1 - u.1) ∧ (s.c : Rat) = l * (u.2 * v.1 - u.1 * v.2)
  g : Int.gcd (Int.gcd s.a s.b : Int) s.c = 1
  za : Sz n s.a
  zb : Sz n s.b
  zc : Sz n s.c
theorem gcd_parts {a b c : Int} (h : ¬ (a = 0 ∧ b = 0)) : ∃ g x y z : Int, (Int.gcd (Int.gcd a b : Int) c : Int) = g ∧ 0 < g ∧ a = g * x ∧ b = g * y ∧ c = g * z ∧ Int.gcd (Int.gcd x y : Int) z = 1 := by
  have h1 : 0 < Int.gcd a b := by
    rcases Nat.eq_zero_or_pos (Int.gcd a b) with e | e
    · exact absurd (Int.gcd_eq_zero_iff.mp e) h
    · exact e
  have h2 : 0 < Int.gcd (Int.gcd a b : Int) c := Int.gcd_pos_of_ne_zero_left c (by omega)
  obtain ⟨k, hk⟩ := Int.gcd_dvd_left (a := (Int.gcd a b : Int)) (b := c)
  obtain ⟨z, hz⟩ := Int.gcd_dvd_right (a := (Int.gcd a b : Int)) (b := c)
  obtain ⟨x, hx⟩ := Int.gcd_dvd_left (a := a) (b := b)
  obtain ⟨y, hy⟩ := Int.gcd_dvd_right (a := a) (b := b)
  refine ⟨_, k * x, k * y, z, rfl, by omega, ?_, ?_, hz, ?_⟩
  · rw [← Int.mul_assoc, ← hk]; exact hx
  · rw [← Int.mul_assoc, ← hk]; exact hy
  · have hxy : a = (Int.gcd (Int.gcd a b : Int) c : Int) * (k * x) := by rw [← Int.mul_assoc, ← hk]; exact hx
    have hyy : b = (Int.gcd (Int.gcd a b : Int) c : Int) * (k * y) := by rw [← Int.mul_assoc, ← hk]; exact hy
    generalize hG : (Int.gcd (Int.gcd a b : Int) c) = G at *
    have e1 : Int.gcd a b = G * Int.gcd (k * x) (k * y) := by
      rw [hxy, hyy, Int.gcd_mul_left]; simp
    have e2 : Int.gcd (Int.gcd a b : Int) c = G * Int.gcd (Int.gcd (k * x) (k * y) : Int) z := by
      rw [e1, hz, Int.natCast_mul, Int.gcd_mul_left]; simp
    rw [hG] at e2
    have : G * 1 = G * Int.gcd (Int.gcd (k * x) (k * y) : Int) z := by rw [Nat.mul_one]; exact e2
    exact (Nat.eq_of_mul_eq_mul_left h2 this).symm
theorem part_sz {n : Nat} {a g x : Int} (h : a = g * x) (hg : 0 < g) (ha : Sz n a) : Sz n x := by
  unfold Sz at *
  have : x.natAbs ≤ a.natAbs := by rw [h, Int.natAbs_mul]; exact Nat.le_mul_of_pos_left _ (by omega)
  omega
theorem side_ex {n : Nat} {u v : Spot} (hu : Spz n u) (hv : Spz n v) (hn : 4 * n + 1 ≤ 9000) (hne : u ≠ v) : ∃ s, T_side_of (sp u) (sp v) = some s ∧ IsSide (4 * n + 1) u v s := by
  have iu := bs hu
  have iv := bs hv
  have a1 := fl_a u; have b1 := fl_b u; have c1 := fl_c u
  have a2 := fl_a v; have b2 := fl_b v; have c2 := fl_c v
  have cc := Rat.mul_pos c1 c2
  have za : Sz (4 * n + 1) ((fl u).b * (fl v).c - (fl v).b * (fl u).c) := (((Bd.fb (p := u)).h.mul (Bd.fc (p := v)).h).sub' ((Bd.fb (p := v)).h.mul (Bd.fc (p := u)).h)).mono (by omega)
  have zb : Sz (4 * n + 1) ((fl v).a * (fl u).c - (fl u).a * (fl v).c) := (((Bd.fa (p := v)).h.mul (Bd.fc (p := u)).h).sub' ((Bd.fa (p := u)).h.mul (Bd.fc (p := v)).h)).mono (by omega)
  have zc : Sz (4 * n + 1) ((fl u).b * (fl v).a - (fl u).a * (fl v).b) := (((Bd.fb (p := u)).h.mul (Bd.fa (p := v)).h).sub' ((Bd.fa (p := u)).h.mul (Bd.fb (p := v)).h)).mono (by omega)
  have ra : (((fl u).b * (fl v).c - (fl v).b * (fl u).c : Int) : Rat) = (u.2 - v.2) * (((fl u).c : Rat) * ((fl v).c : Rat)) := by
    rw [ic_sub, ic_mul, ic_mul, b1, b2]; grind
  have rb : (((fl v).a * (fl u).c - (fl u).a * (fl v).c : Int) : Rat) = (v.1 - u.1) * (((fl u).c : Rat) * ((fl v).c : Rat)) := by
    rw [ic_sub, ic_mul, ic_mul, a1, a2]; grind
  have rc : (((fl u).b * (fl v).a - (fl u).a * (fl v).b : Int) : Rat) = (u.2 * v.1 - u.1 * v.2) * (((fl u).c : Rat) * ((fl v).c : Rat)) := by
    rw [ic_sub, ic_mul, ic_mul, a1, a2, b1, b2]; grind
  unfold T_side_of
  rw [T_flat_e (by omega), Option.bind_some, T_flat_e (by omega), Option.bind_some, mulT_bd (by omega), Option.bind_some, mulT_bd (by omega), Option.bind_some, Option.bind_some, mulT_bd (by omega), Option.bind_some, mulT_bd (by omega), Option.bind_some, Option.bind_some, mulT_bd (by omega), Option.bind_some, mulT_bd (by omega), Option.bind_some, Option.bind_some]
  have hz : ¬ ((fl u).b * (fl v).c - (fl v).b * (fl u).c = 0 ∧ (fl v).a * (fl u).c - (fl u).a * (fl v).c = 0) := fun ⟨e1, e2⟩ => by
    rw [e1] at ra; rw [e2] at rb
    have h1 := (zero_mul' cc).mp (ra.symm.trans Rat.intCast_zero)
    have h2 := (zero_mul' cc).mp (rb.symm.trans Rat.intCast_zero)
    exact hne (Prod.ext (by grind) (by grind))
  generalize (fl u).b * (fl v).c - (fl v).b * (fl u).c = A at *
  generalize (fl v).a * (fl u).c - (fl u).a * (fl v).c = B at *
  generalize (fl u).b * (fl v).a - (fl u).a * (fl v).b = C at *
  obtain ⟨g, x, y, z, eg, g0, ea, eb, ec, h1⟩ := gcd_parts (c := C) hz
  have zg : g.natAbs < 2 ^ 9000 := by
    rw [← eg]
    have h2 : Int.gcd (Int.gcd A B : Int) C ≤ (Int.gcd A B : Int).natAbs := Int.gcd_le_natAbs_left C (by
      intro h
      have h := Int.gcd_eq_zero_iff.mp (show Int.gcd A B = 0 by omega)
      exact hz h)
    have h3 : Int.gcd A B ≤ A.natAbs ∨ Int.gcd A B ≤ B.natAbs := by
      by_cases h : A = 0
      · exact .inr (Int.gcd_le_natAbs_right A (fun e => hz ⟨h, e⟩))
      · exact .inl (Int.gcd_le_natAbs_left B h)
    have h4 : A.natAbs < 2 ^ 9000 := za.mono hn
    have h5 : B.natAbs < 2 ^ 9000 := zb.mono hn
    generalize 2 ^ 9000 = W at *
    omega
  have gr := ic_pos.mpr g0
  refine ⟨⟨x, y, z⟩, ?_, ⟨?_, h1, part_sz ea g0 za, part_sz eb g0 zb, part_sz ec g0 zc⟩⟩
  · unfold divisorT
    rw [Option.bind_some, Option.bind_some, eg, ea, divT_mul (by omega) zg, Option.bind_some, eb, divT_mul (by omega) zg, Option.bind_some, ec, divT_mul (by omega) zg, Option.bind_some]
  · refine ⟨(((fl u).c : Rat) * ((fl v).c : Rat)) / (g : Rat), ?_, ?_, ?_, ?_⟩
    · rw [Rat.div_def]; exact Rat.mul_pos cc (Rat.inv_pos.mpr gr)
    · rw [ea, ic_mul] at ra
      show (x : Rat) = _
      grind
    · rw [eb, ic_mul] at rb
      show (y : Rat) = _
      grind
    · rw [ec, ic_mul] at rc
      show (z : Rat) = _
      grind
/-- the side from u to v, as a function -/
noncomputable def sideF (u v : Spot) : P3 Int Int Int := (T_side_of (sp u) (sp v)).getD ⟨0, 0, 0⟩
theorem sideF_e {n : Nat} {u v : Spot} (hu : Spz n u) (hv : Spz n v) (hn : 4 * n + 1 ≤ 9000) (hne : u ≠ v) : T_side_of (sp u) (sp v) = some (sideF u v) ∧ IsSide (4 * n + 1) u v (sideF u v) := by
  obtain ⟨s, e, h⟩ := side_ex hu hv hn hne
  have : sideF u v = s := by unfold sideF; rw [e]; rfl
  rw [this]; exact ⟨e, h⟩
noncomputable def sidesF (vs : List Spot) : List (P3 Int Int Int) := (List.range vs.length).map fun k => sideF (pv vs k) (pv vs (k + 1))
theorem pv_get {vs : List Spot} {k : Nat} (h : k < vs.length) : getT (vs.map sp) (k : Int) = some (sp (pv vs k)) := by
  unfold pv
  rw [getT_nat, List.getElem?_map, Nat.mod_eq_of_lt h, List.getD_eq_getElem?_getD, List.getElem?_eq_getElem h]; rfl
theorem pv_mod (vs : List Spot) (k : Nat) : pv vs (k % vs.length) = pv vs k := by unfold pv; rw [Nat.mod_mod]
theorem pv_next {vs : List Spot} {k : Nat} (h : 0 < vs.length) : ((modT ((k : Int) + 1) (vs.length : Int)).bind fun m => getT (vs.map sp) m) = some (sp (pv vs (k + 1))) := by
  rw [modT_pos (by omega), Option.bind_some, show ((k : Int) + 1) % (vs.length : Int) = (((k + 1) % vs.length : Nat) : Int) by rw [Int.natCast_emod, Int.natCast_add]; rfl, pv_get (Nat.mod_lt _ h), pv_mod]
theorem pv_z {n : Nat} {vs : List Spot} (hz : ∀ q ∈ vs, Spz n q) (h : 0 < vs.length) (k : Nat) : Spz n (pv vs k) := by
  unfold pv
  have hi := Nat.mod_lt k h
  rw [List.getD_eq_getElem?_getD, List.getElem?_eq_getElem hi]
  exact hz _ (List.getElem_mem hi)
theorem pv_mem {vs : List Spot} (h : 0 < vs.length) (k : Nat) : pv vs k ∈ vs := by
  unfold pv
  have hi := Nat.mod_lt k h
  rw [List.getD_eq_getElem?_getD, List.getElem?_eq_getElem hi]
  exact List.getElem_mem hi
/-- neighbours are unlike -/
def Apart (vs : List Spot) : Prop := ∀ k, k < vs.length → pv vs k ≠ pv vs (k + 1)
theorem _root_.Ge.Rg.apart {vs : List Spot} (r : Rg vs) : Apart vs := fun k hk e => by
  have h := r.nz hk
  unfold ed at h
  rw [e] at h
  unfold Ge.Hp Ge.neg Ge.sub at h
  grind
theorem sides_e {n : Nat} {vs : List Spot} (hz : ∀ q ∈ vs, Spz n q) (hn : 4 * n + 1 ≤ 9000) (hl : vs.length < 1000) (ha : Apart vs) : T_sides_of (vs.map sp) = some (sidesF vs) := by
  unfold T_sides_of
  rw [List.length_map, rng1T_le (by omega), Option.bind_some]
  have := compT_some (xs := rngI vs.length) (g := fun x : Int => sideF (pv vs x.toNat) (pv vs (x.toNat + 1))) (f := fun x2 => (getT (vs.map sp) x2).bind fun m3 => (modT (x2 + 1) (vs.length : Int)).bind fun m4 => (getT (vs.map sp) m4).bind fun m5 => (T_side_of m3 m5).bind fun m6 => some m6)
    (by unfold rngI lim; simp; omega) (fun x hx => by
      obtain ⟨k, hk, rfl⟩ := mem_rngI.mp hx
      have h1 := pv_next (vs := vs) (k := k) (by omega)
      rw [pv_get hk, Option.bind_some]
      obtain ⟨m, e1, e2⟩ := bindS h1
      rw [e1, Option.bind_some, e2, Option.bind_some, (sideF_e (pv_z hz (by omega) k) (pv_z hz (by omega) (k + 1)) hn (ha k hk)).1]
      simp)
  rw [this, Option.bind_some]
  unfold sidesF rngI
  rw [List.map_map]
  congr 1
theorem sidesF_get {vs : List Spot} {k : Nat} (h : k < vs.length) : (sidesF vs)[k]? = some (sideF (pv vs k) (pv vs (k + 1))) := by
  unfold sidesF; rw [List.getElem?_map, List.getElem?_range h]; rfl
theorem sidesF_len (vs : List Spot) : (sidesF vs).length = vs.length := by unfold sidesF; simp
theorem mem_sidesF {vs : List Spot} {s : P3 Int Int Int} (h : s ∈ sidesF vs) : ∃ k, k < vs.length ∧ s = sideF (pv vs k) (pv vs (k + 1)) := by
  unfold sidesF at h
  obtain ⟨k, hk, rfl⟩ := List.mem_map.mp h
  exact ⟨k, List.mem_range.mp hk, rfl⟩
/-- how far a spot is over a side, times its bottom -/
def overZ (s : P3 Int Int Int) (w : Spot) : Int := s.a * (fl w).a + s.b * (fl w).b - s.c * (fl w).c
theorem over_bend {n : Nat} {u v w : Spot} {s : P3 Int Int Int} (h : IsSide n u v s) : ∃ l : Rat, 0 < l ∧ (overZ s w : Rat) = Ge.bendQ u v w * l := by
  obtain ⟨l, l0, ha, hb, hc⟩ := h.ex
  refine ⟨l * ((fl w).c : Rat), Rat.mul_pos l0 (fl_c w), ?_⟩
  have a1 := fl_a w; have b1 := fl_b w
  unfold overZ Ge.bendQ
  rw [ic_sub, ic_add, ic_mul, ic_mul, ic_mul, ha, hb, hc, a1, b1]; grind
theorem over_neg {n : Nat} {u v w : Spot} {s : P3 Int Int Int} (h : IsSide n u v s) : overZ s w < 0 ↔ Ge.bendQ u v w < 0 := by
  obtain ⟨l, l0, e⟩ := over_bend (w := w) h
  rw [← ic_neg', e, neg_mul' l0]
theorem over_zero {n : Nat} {u v w : Spot} {s : P3 Int Int Int} (h : IsSide n u v s) : overZ s w = 0 ↔ Ge.bendQ u v w = 0 := by
  obtain ⟨l, l0, e⟩ := over_bend (w := w) h
  rw [← ic_zero, e, zero_mul' l0]
theorem over_pos {n : Nat} {u v w : Spot} {s : P3 Int Int Int} (h : IsSide n u v s) : 0 < overZ s w ↔ 0 < Ge.bendQ u v w := by
  obtain ⟨l, l0, e⟩ := over_bend (w := w) h
  rw [← ic_pos, e, pos_mul l0]
end Sp

/-! SPEC5: which spot comes ahead; what is a shape; the shape of points. -/
namespace Sp
open TL Ty
open Ge (Rg V2 pv ed ltV)
theorem comp_fl {n : Nat} {vs : List Spot} (hz : ∀ q ∈ vs, Spz n q) (hn : n ≤ 4000) (hl : vs.length < 1000) : compT (fun x1 => (T__law_flat x1).bind fun m2 => some m2) (vs.map sp) = some (vs.map fl) := by
  have := compT_some (xs := vs.map sp) (f := fun x1 => (T__law_flat x1).bind fun m2 => some m2) (g := fun x => ((T__law_flat x).getD ⟨0, 0, 0⟩)) (by rw [List.length_map]; unfold lim; omega) (fun a ha => by
    obtain ⟨q, hq, rfl⟩ := List.mem_map.mp ha
    have := bs (hz q hq)
    rw [T__law_flat_e (by omega)]; rfl)
  rw [this, List.map_map]
  congr 1
  refine List.map_congr_left fun q hq => ?_
  have := bs (hz q hq)
  show (T__law_flat (sp q)).getD _ = _
  rw [T__law_flat_e (by omega)]; rfl
theorem get_flat {vs : List Spot} {k : Nat} (h : k < vs.length) : getT (vs.map fl) (k : Int) = some (fl (pv vs k)) := by
  unfold pv
  rw [getT_nat, List.getElem?_map, Nat.mod_eq_of_lt h, List.getD_eq_getElem?_getD, List.getElem?_eq_getElem h]; rfl
theorem get_flatp {vs : List Spot} {k : Nat} (h : k < vs.length) : getT (vs.map fl) ((k : Int) - 1) = some (fl (pv vs (k + vs.length - 1))) := by
  by_cases e : k = 0
  · subst e
    rw [show (((0 : Nat) : Int) - 1) = -((1 : Nat) : Int) by rfl, getT_neg (by decide) (by rw [List.length_map]; omega), List.length_map]
    have := get_flat (vs := vs) (k := vs.length - 1) (by omega)
    rw [getT_nat] at this
    rw [Nat.zero_add]; exact this
  · rw [show ((k : Int) - 1) = ((k - 1 : Nat) : Int) by omega, get_flat (by omega), show k + vs.length - 1 = k - 1 + vs.length by omega, Ge.pv_add]
theorem rat_tri (a b : Rat) : a < b ∨ a = b ∨ b < a := by
  rcases (Rat.le_total : a ≤ b ∨ b ≤ a) with h | h
  · rcases Rat.le_iff_lt_or_eq.mp h with h | h
    · exact .inl h
    · exact .inr (.inl h)
  · rcases Rat.le_iff_lt_or_eq.mp h with h | h
    · exact .inr (.inr h)
    · exact .inr (.inl h.symm)
instance ltV_dec (p q : Spot) : Decidable (ltV p q) := inferInstanceAs (Decidable (p.1 < q.1 ∨ (p.1 = q.1 ∧ p.2 < q.2)))
theorem ltV_total (p q : Spot) : ltV p q ∨ p = q ∨ ltV q p := by
  unfold ltV
  rcases rat_tri p.1 q.1 with h | h | h
  · exact .inl (.inl h)
  · rcases rat_tri p.2 q.2 with h2 | h2 | h2
    · exact .inl (.inr ⟨h, h2⟩)
    · exact .inr (.inl (Prod.ext h h2))
    · exact .inr (.inr (.inr ⟨h.symm, h2⟩))
  · exact .inr (.inr (.inl h))
theorem flat_lt {p q : Spot} : ((fl p).a * (fl q).c < (fl q).a * (fl p).c ↔ p.1 < q.1) ∧ ((fl p).a * (fl q).c = (fl q).a * (fl p).c ↔ p.1 = q.1) ∧ ((fl p).b * (fl q).c < (fl q).b * (fl p).c ↔ p.2 < q.2) := by
  have a1 := fl_a p; have b1 := fl_b p; have c1 := fl_c p
  have a2 := fl_a q; have b2 := fl_b q; have c2 := fl_c q
  have cc := Rat.mul_pos c1 c2
  refine ⟨?_, ?_, ?_⟩
  · rw [← ic_lt, ic_mul, ic_mul, a1, a2]
    have := neg_mul' (a := p.1 - q.1) cc
    grind
  · rw [← ic_inj, ic_mul, ic_mul, a1, a2]
    have := zero_mul' (a := p.1 - q.1) cc
    grind
  · rw [← ic_lt, ic_mul, ic_mul, b1, b2]
    have := neg_mul' (a := p.2 - q.2) cc
    grind
theorem before_e {p q : Spot} {m n : Nat} [Bs p m] [Bs q n] (hm : m ≤ 1000000) (hn : n ≤ 1000000) : T__law_before (fl p) (fl q) = some (decide (ltV p q)) := by
  obtain ⟨h1, h2, h3⟩ := flat_lt (p := p) (q := q)
  unfold T__law_before
  rw [mulT_bd (by omega), Option.bind_some, mulT_bd (by omega), Option.bind_some]
  by_cases e : p.1 = q.1
  · rw [if_neg (by simpa using h2.mpr e), mulT_bd (by omega), Option.bind_some, mulT_bd (by omega), Option.bind_some, Option.some.injEq, decide_eq_decide, h3]
    unfold ltV; grind
  · rw [if_pos (by simpa using fun z => e (h2.mp z)), Option.bind_some, Option.bind_some, Option.some.injEq, decide_eq_decide, h1]
    unfold ltV; grind
theorem forT_rng2u {τ : Type} {f : Int → Unit → Option (TO Unit τ)} {a m : Nat} (hs : ∀ i : Nat, i < m → f ((a + i : Nat) : Int) () = some (.nx ())) : forT f ((List.range m).map fun (i : Nat) => ((a + i : Nat) : Int)) () = some (.nx ()) :=
  forT_unit fun x hx => by
    obtain ⟨i, hi, rfl⟩ := List.mem_map.mp hx
    exact hs i (List.mem_range.mp hi)
theorem pv_of_mem {vs : List Spot} {q : Spot} (h : q ∈ vs) : ∃ j, j < vs.length ∧ q = pv vs j := by
  obtain ⟨j, hj, rfl⟩ := List.mem_iff_getElem.mp h
  refine ⟨j, hj, ?_⟩
  unfold pv
  rw [Nat.mod_eq_of_lt hj, List.getD_eq_getElem?_getD, List.getElem?_eq_getElem hj]; rfl
theorem is_shape_e {n : Nat} {vs : List Spot} (rg : Rg vs) (hz : ∀ q ∈ vs, Spz n q) (hn : n ≤ 4000) (hl : vs.length < 1000) : T__law_is_shape (vs.map sp) = some true := by
  have h3 := rg.n3
  have h0 : 0 < vs.length := by omega
  have l1 : forT TL1__law_is_shape (vs.map sp) () = some (.nx ()) := forT_unit fun a ha => by
    obtain ⟨q, hq, rfl⟩ := List.mem_map.mp ha
    unfold TL1__law_is_shape
    simp [T__law_is_fraction_e]
  have l2 : forT (TL2__law_is_shape (vs.map fl)) ((List.range (vs.length - 1)).map fun (i : Nat) => ((1 + i : Nat) : Int)) () = some (.nx ()) := forT_rng2u fun i hi => by
    have i1 := bs (pv_z hz h0 0)
    have i2 := bs (pv_z hz h0 (1 + i))
    have hf := rg.first (j := 1 + i) (by omega) (by omega)
    have g0 : getT (vs.map fl) 0 = some (fl (pv vs 0)) := get_flat (k := 0) h0
    unfold TL2__law_is_shape
    rw [g0, Option.bind_some, get_flat (by omega), Option.bind_some, before_e (by omega) (by omega), Option.bind_some, decide_eq_true hf]
    rfl
  have l3 : forT (TL3__law_is_shape (vs.map fl)) (rngI vs.length) () = some (.nx ()) := forT_rng fun k hk => by
    have l4 : forT (TL4__law_is_shape (vs.map fl) (k : Int)) (vs.map fl) () = some (.nx ()) := forT_unit fun a ha => by
      obtain ⟨q, hq, rfl⟩ := List.mem_map.mp ha
      obtain ⟨j, hj, rfl⟩ := pv_of_mem hq
      have i1 := bs (pv_z hz h0 (k + vs.length - 1))
      have i2 := bs (pv_z hz h0 k)
      have i3 := bs (pv_z hz h0 j)
      unfold TL4__law_is_shape
      rw [get_flat hk, Option.bind_some, get_flatp hk, Option.bind_some]
      by_cases e1 : fl (pv vs j) = fl (pv vs k)
      · simp [e1]
      · by_cases e2 : fl (pv vs j) = fl (pv vs (k + vs.length - 1))
        · simp [e2]
        · -- another corner: at the left
          have hw : 0 < wayZ (fl (pv vs (k + vs.length - 1))) (fl (pv vs k)) (fl (pv vs j)) := by
            rw [way_pos]
            by_cases ek : k = 0
            · subst ek
              rw [Nat.zero_add] at e2 ⊢
              have h := rg.left' (k := vs.length - 1) (j := j) (by omega) hj (fun e => e2 (by rw [e])) (fun e => e1 (by rw [e, show vs.length - 1 + 1 = vs.length by omega, Nat.mod_self]))
              rw [show vs.length - 1 + 1 = 0 + vs.length by omega, Ge.pv_add] at h
              exact h
            · rw [show k + vs.length - 1 = k - 1 + vs.length by omega, Ge.pv_add] at e2 ⊢
              have h := rg.left' (k := k - 1) (j := j) (by omega) hj (fun e => e2 (by rw [e])) (fun e => e1 (by rw [e, show k - 1 + 1 = k by omega, Nat.mod_eq_of_lt hk]))
              rw [show k - 1 + 1 = k by omega] at h
              exact h
          rw [if_pos (by simpa using e1), Option.bind_some, if_pos (by simpa using e2), Option.bind_some, Option.bind_some, way_e (by omega) (by omega) (by omega), Option.bind_some, if_neg (by simpa using hw)]
    unfold TL3__law_is_shape
    rw [l4]; rfl
  unfold T__law_is_shape
  rw [List.length_map, if_neg (by simp; omega), l1, Option.bind_some]
  simp only
  rw [comp_fl hz hn hl, Option.bind_some, List.length_map, show (1 : Int) = ((1 : Nat) : Int) by rfl, rng2T_le (by omega) (by omega), Option.bind_some, l2, Option.bind_some]
  simp only
  rw [rng1T_le (by omega), Option.bind_some, l3]; rfl
/-! ### the shape of points -/
theorem bend_e {n : Nat} {a b c : Pt} (ha : Pz n a) (hb : Pz n b) (hc : Pz n c) (hn : n ≤ 4000) : T_bend a b c = some (bendZ a b c) := turn_e ha hb hc hn
theorem chain_step {n : Nat} (hn : n ≤ 4000) (p : Pt) (hp : Pz n p) (st : List Pt) (hl : st.length < 1000) (hz : ∀ q ∈ st, Pz n q) : TL1_chain p st.reverse = some (stepS st p).reverse := by
  have h := pop_loop (p := p) (c := TL2_chainc p) (b := TL2_chain p) (by simp [TL2_chainc]) (fun x => by simp [TL2_chainc]) (fun y x r => by
    unfold TL2_chain
    rw [popT_pos (by simp), Option.bind_some, List.dropLast_reverse]; rfl) st (st.length + 1) (by omega) (fun y x r ⟨t, ht⟩ => by
    have t1 := bend_e (hz x (by rw [ht]; simp)) (hz y (by rw [ht]; simp)) hp hn
    have e3 : ((y :: x :: r).reverse.length : Int) = r.length + 2 := by simp
    unfold TL2_chainc
    rw [e3, if_pos (by simp; omega), get_m2, Option.bind_some, get_m1, Option.bind_some, t1]; rfl)
  unfold TL1_chain stepS
  rw [List.length_reverse, h, Option.bind_some, appT_lt (by rw [List.length_reverse]; exact Nat.lt_of_le_of_lt (popS_len st p) (Nat.lt_of_lt_of_le hl (by decide)))]
  simp
theorem chain_row {n : Nat} (hn : n ≤ 4000) : ∀ (ps st : List Pt), ps.length + st.length < 1000 → (∀ q ∈ st, Pz n q) → (∀ q ∈ ps, Pz n q) → foldT TL1_chain ps st.reverse = some (ps.foldl stepS st).reverse
  | [], st, _, _, _ => rfl
  | p :: ps, st, h, hs, hp => by
    have hl := popS_len st p
    have ih := chain_row hn ps (stepS st p) (by simp only [stepS, List.length_cons] at *; omega) (fun q hq => by
      rcases List.mem_cons.mp hq with z | z
      · exact z ▸ hp p List.mem_cons_self
      · exact hs q (popS_mem _ _ _ z)) (fun q hq => hp q (List.mem_cons_of_mem _ hq))
    unfold foldT
    rw [chain_step hn p (hp p List.mem_cons_self) st (by simp at h; omega) hs, Option.bind_some]
    exact ih
theorem chain_e {n : Nat} (hn : n ≤ 4000) (row : List Pt) (h1 : row.length < 500) (hz : ∀ q ∈ row, Pz n q) : T_chain row = some (chainP row) := by
  have h := chain_row hn row [] (by simp; omega) (by simp) hz
  unfold T_chain
  rw [Option.bind_some, show ([] : List Pt) = ([] : List Pt).reverse by rfl, h]; rfl
theorem sp_cp (p : Pt) : sp (cp p) = ((p.1, 1), (p.2, 1)) := rfl
theorem shape_of_e {n : Nat} (hn : n ≤ 4000) (ps : List Pt) (h1 : ps.length < 64) (hz : ∀ q ∈ ps, Pz n q) (h3 : 3 ≤ (ringP ps).length) : T_shape_of ps = some (((ringP ps).map cp).map sp) := by
  have hl := sset_len ps
  have hzs : ∀ q ∈ sset ps, Pz n q := fun q hq => hz q (mem_sset.mp hq)
  have e1 := chain_e hn (sset ps) (by omega) hzs
  have e2 := chain_e hn (sset ps).reverse (by rw [List.length_reverse]; omega) (fun q hq => hzs q (List.mem_reverse.mp hq))
  have hr : (chainP (sset ps)).dropLast ++ (chainP (sset ps).reverse).dropLast = ringP ps := rfl
  have rl := ringP_len ps
  have hc := compT_some (xs := ringP ps) (f := fun x6 : Int × Int => some ((x6.1, (1 : Int)), (x6.2, (1 : Int)))) (g := fun p => sp (cp p)) (by unfold lim; omega) (fun p hp => rfl)
  unfold T_shape_of ssetT
  rw [if_pos h1, Option.bind_some, e1, Option.bind_some, e2, Option.bind_some, catT_le (by
    have := chainP_len (sset ps); have := chainP_len (sset ps).reverse
    simp only [List.length_dropLast, List.length_reverse] at *; unfold lim; omega), Option.bind_some, hr, if_neg (by simp; omega), hc, List.map_map]; rfl
theorem cp_z {n : Nat} {p : Pt} (h : Pz n p) : Spz (n + 1) (cp p) := by
  have b1 : Bd p.1 n := ⟨h.1⟩
  have b2 : Bd p.2 n := ⟨h.2⟩
  exact ⟨(inferInstance : Bq ((p.1 : Int) : Rat) (n + 1)).h, (inferInstance : Bq ((p.2 : Int) : Rat) (n + 1)).h⟩
end Sp

/-! SPEC6: pushed, sized, turned. -/
namespace Sp
open TL Ty
open Ge (Rg SC V2 pv ed ltV scl rot FirstAt)
theorem comp_sp {f : (Int × Int) × (Int × Int) → Option ((Int × Int) × (Int × Int))} {g : Spot → Spot} {vs : List Spot} (hl : vs.length < 1000) (h : ∀ q ∈ vs, f (sp q) = some (sp (g q))) : compT f (vs.map sp) = some ((vs.map g).map sp) := by
  unfold compT
  rw [if_pos (by rw [List.length_map]; unfold lim; omega)]
  have : ∀ vs : List Spot, (∀ q ∈ vs, f (sp q) = some (sp (g q))) → mapL f (vs.map sp) = some ((vs.map g).map sp) := by
    intro vs
    induction vs with
    | nil => intro _; rfl
    | cons q vs ih =>
      intro h
      rw [List.map_cons, mapL, h q List.mem_cons_self, Option.bind_some, ih fun r hr => h r (List.mem_cons_of_mem _ hr)]; rfl
  exact this vs h
def addS (t : Spot) (p : Spot) : Spot := (p.1 + t.1, p.2 + t.2)
def mulS (f : Rat) (p : Spot) : Spot := (p.1 * f, p.2 * f)
theorem pushed_e {m n : Nat} {vs : List Spot} {t : Spot} (hz : ∀ q ∈ vs, Spz m q) (ht : Spz n t) (h : m + n ≤ 9000) (hl : vs.length < 1000) : T_pushed (vs.map sp) (sp t) = some ((vs.map (addS t)).map sp) := by
  have it := bs ht
  unfold T_pushed
  rw [comp_sp (g := addS t) hl fun q hq => by
    have iq := bs (hz q hq)
    simp only [sp_1, sp_2]
    rw [T_plus_e (by omega), Option.bind_some, T_plus_e (by omega)]; rfl]
  rfl
theorem num_pos {f : Rat} : 0 < f.num ↔ 0 < f := by
  rw [Rat.lt_iff]; simp
theorem sized_e {m n : Nat} {vs : List Spot} {f : Rat} (hz : ∀ q ∈ vs, Spz m q) (hf : Qz n f) (h0 : 0 < f) (h : m + n ≤ 9000) (hl : vs.length < 1000) : T_sized (vs.map sp) (fr f) = some ((vs.map (mulS f)).map sp) := by
  have it : Bq f n := ⟨hf⟩
  have hn : ¬ f.num ≤ 0 := by
    have := num_pos.mpr h0
    omega
  unfold T_sized
  rw [if_neg (show ¬ decide ((fr f).1 ≤ 0) = true from fun h => hn (of_decide_eq_true h)), comp_sp (g := mulS f) hl fun q hq => by
    have iq := bs (hz q hq)
    simp only [sp_1, sp_2]
    rw [T_times_e (by omega), Option.bind_some, T_times_e (by omega)]; rfl]
  rfl
theorem addS_z {m n : Nat} {t p : Spot} (ht : Spz n t) (hp : Spz m p) : Spz (m + n + 1) (addS t p) := ⟨Qz_add hp.1 ht.1, Qz_add hp.2 ht.2⟩
theorem mulS_z {m n : Nat} {f : Rat} {p : Spot} (hf : Qz n f) (hp : Spz m p) : Spz (m + n) (mulS f p) := ⟨Qz_mul hp.1 hf, Qz_mul hp.2 hf⟩
theorem addS_scl (t : Spot) : addS t = scl 1 t := by funext p; unfold addS scl; simp only [Prod.mk.injEq]; constructor <;> grind
theorem mulS_scl (f : Rat) : mulS f = scl f (0, 0) := by funext p; unfold mulS scl; simp only [Prod.mk.injEq]; constructor <;> grind
theorem rg_add {vs : List Spot} (r : Rg vs) (t : Spot) : Rg (vs.map (addS t)) := by rw [addS_scl]; exact r.scl (by decide) t
theorem rg_mul {vs : List Spot} (r : Rg vs) {f : Rat} (h : 0 < f) : Rg (vs.map (mulS f)) := by rw [mulS_scl]; exact r.scl h _
theorem map_z {m n : Nat} {vs : List Spot} {g : Spot → Spot} (hz : ∀ q ∈ vs, Spz m q) (hg : ∀ q, Spz m q → Spz n (g q)) : ∀ q ∈ vs.map g, Spz n q := fun q hq => by
  obtain ⟨p, hp, rfl⟩ := List.mem_map.mp hq
  exact hg p (hz p hp)
theorem ahead_e {p q : Spot} {m n : Nat} [Bs p m] [Bs q n] (hm : 2 * m ≤ 9000) (hn : 2 * n ≤ 9000) : T_comes_ahead (sp p) (sp q) = some (decide (ltV p q)) := by
  have := before_e (p := p) (q := q) (by omega) (by omega)
  unfold T__law_before at this
  unfold T_comes_ahead
  rw [T_flat_e (by omega), Option.bind_some, T_flat_e (by omega), Option.bind_some]
  exact this
def negS (p : Spot) : Spot := Ge.neg p
theorem negS_z {m : Nat} {p : Spot} (h : Spz m p) : Spz m (negS p) := by
  have i := bs h
  exact ⟨(inferInstance : Bq (-p.1) m).h, (inferInstance : Bq (-p.2) m).h⟩
theorem first_loop {n : Nat} {ring : List Spot} (c : SC ring) (hz : ∀ q ∈ ring, Spz n q) (hn : 2 * n ≤ 9000) (hl : ring.length < 1000) : ∃ s : Nat, foldT (TL1_turned (ring.map sp)) (rngI ring.length) 0 = some (s : Int) ∧ FirstAt ring s := by
  have h3 := c.n3
  obtain ⟨s, e, s0, hs, e2, h⟩ := foldT_rng (f := TL1_turned (ring.map sp)) (s := (0 : Int)) (fun i (z : Int) => ∃ s : Nat, s < ring.length ∧ z = (s : Int) ∧ ∀ j, j < i → ¬ ltV (pv ring j) (pv ring s)) ⟨0, by omega, rfl, fun j hj => by omega⟩ ring.length (fun i z hi hI => by
    obtain ⟨s, hs, rfl, h⟩ := hI
    have b1 := bs (pv_z hz (by omega) i)
    have b2 := bs (pv_z hz (by omega) s)
    have e0 : TL1_turned (ring.map sp) (i : Int) (s : Int) = some (if ltV (pv ring i) (pv ring s) then (i : Int) else (s : Int)) := by
      unfold TL1_turned
      rw [pv_get hi, Option.bind_some, pv_get hs, Option.bind_some, ahead_e hn hn, Option.bind_some]
      by_cases hc : ltV (pv ring i) (pv ring s)
      · rw [if_pos (decide_eq_true hc), if_pos hc]
      · rw [if_neg (by simpa using hc), if_neg hc]
    refine ⟨_, e0, ?_⟩
    by_cases hc : ltV (pv ring i) (pv ring s)
    · rw [if_pos hc]
      refine ⟨i, hi, rfl, fun j hj hlt => ?_⟩
      by_cases ej : j = i
      · subst ej; exact Ge.ltV_irrefl _ hlt
      · exact h j (by omega) (Ge.ltV_trans hlt hc)
    · rw [if_neg hc]
      refine ⟨s, hs, rfl, fun j hj hlt => ?_⟩
      by_cases ej : j = i
      · subst ej; exact hc hlt
      · exact h j (by omega) hlt)
  subst e2
  refine ⟨s0, e, hs, fun j hj hne => ?_⟩
  rcases ltV_total (pv ring s0) (pv ring j) with h1 | h1 | h1
  · exact h1
  · exact absurd (c.inj hs hj h1).symm hne
  · exact absurd h1 (h j hj)
theorem turned_e {n : Nat} {vs : List Spot} (r : Rg vs) (hz : ∀ q ∈ vs, Spz n q) (hn : 2 * n + 2 ≤ 9000) (hl : vs.length < 1000) : ∃ s : Nat, T_turned (vs.map sp) = some ((rot s (vs.map negS)).map sp) ∧ FirstAt (vs.map negS) s ∧ Rg (rot s (vs.map negS)) := by
  have c : SC (vs.map negS) := r.sc.neg
  have hz2 : ∀ q ∈ vs.map negS, Spz n q := map_z hz fun q h => negS_z h
  have hl2 : (vs.map negS).length = vs.length := List.length_map _
  obtain ⟨s, e, fs⟩ := first_loop c hz2 (by omega) (by omega)
  refine ⟨s, ?_, fs, Rg.of_first c fs⟩
  have hs := fs.1
  have hc : compT (fun x1 : (Int × Int) × (Int × Int) => (T_minus ((0, 1)) x1.1).bind fun m2 => (T_minus ((0, 1)) x1.2).bind fun m3 => some (m2, m3)) (vs.map sp) = some ((vs.map negS).map sp) := comp_sp hl fun q hq => by
    have iq := bs (hz q hq)
    simp only [sp_1, sp_2, fr_zero]
    rw [T_minus_e (by omega), Option.bind_some, T_minus_e (by omega), Option.bind_some]
    show some (fr (0 - q.1), fr (0 - q.2)) = some (fr (-q.1), fr (-q.2))
    rw [show (0 : Rat) - q.1 = -q.1 by grind, show (0 : Rat) - q.2 = -q.2 by grind]
  unfold T_turned
  rw [hc, Option.bind_some, Option.bind_some, List.length_map, rng1T_le (by omega), Option.bind_some, e, Option.bind_some]
  unfold dropT takeT
  rw [if_pos (by omega), Option.bind_some, if_pos (by omega), Option.bind_some, Int.toNat_natCast, catT_le (by simp; unfold lim; omega), Option.bind_some]
  unfold rot
  rw [List.map_append, List.map_drop, List.map_take]
theorem rot_z {n : Nat} {vs : List Spot} {s : Nat} (hz : ∀ q ∈ vs, Spz n q) : ∀ q ∈ rot s vs, Spz n q := fun q hq => by
  unfold rot at hq
  rcases List.mem_append.mp hq with h | h
  · exact hz q (List.mem_of_mem_drop h)
  · exact hz q (List.mem_of_mem_take h)
end Sp

/-! SPEC7: the sum of two shapes. -/
namespace Sp
open TL Ty
open Ge (Rg SC V2 pv ed ltV scl rot FirstAt crs nxt wayM Live corner stA sumN sumS Inv Step)
def waysF (vs : List Spot) : List Spot := (List.range vs.length).map fun k => ed vs k
theorem waysF_len (vs : List Spot) : (waysF vs).length = vs.length := by unfold waysF; simp
theorem waysF_get {vs : List Spot} {k : Nat} (h : k < vs.length) : getT ((waysF vs).map sp) (k : Int) = some (sp (ed vs k)) := by
  unfold waysF
  rw [getT_nat, List.getElem?_map, List.getElem?_map, List.getElem?_range h]; rfl
theorem ed_z {n : Nat} {vs : List Spot} (hz : ∀ q ∈ vs, Spz n q) (h0 : 0 < vs.length) (k : Nat) : Spz (2 * n + 1) (ed vs k) := by
  have h1 := pv_z hz h0 k
  have h2 := pv_z hz h0 (k + 1)
  exact ⟨(Qz_sub h2.1 h1.1).mono (by omega), (Qz_sub h2.2 h1.2).mono (by omega)⟩
theorem ways_e {n : Nat} {vs : List Spot} (hz : ∀ q ∈ vs, Spz n q) (hn : 2 * n ≤ 9000) (h0 : 0 < vs.length) (hl : vs.length < 1000) : T_ways_of (vs.map sp) = some ((waysF vs).map sp) := by
  obtain ⟨L, e, hL⟩ := foldT_rng (f := TL1_ways_of (vs.map sp)) (s := ([] : List ((Int × Int) × (Int × Int)))) (fun i s => s = ((List.range i).map fun k => ed vs k).map sp) rfl vs.length (fun i s hi hs => by
    subst hs
    have b1 := bs (pv_z hz h0 i)
    have b2 := bs (pv_z hz h0 (i + 1))
    obtain ⟨m, e1, e2⟩ := bindS (pv_next (vs := vs) (k := i) h0)
    refine ⟨_, ?_, rfl⟩
    unfold TL1_ways_of
    rw [pv_get hi, Option.bind_some, List.length_map, e1, Option.bind_some, e2, Option.bind_some]
    simp only [sp_1, sp_2]
    rw [T_minus_e (by omega), Option.bind_some, T_minus_e (by omega), Option.bind_some, appT_lt (by simp; unfold lim; omega), Option.bind_some, List.range_succ, List.map_append, List.map_append]
    rfl)
  unfold T_ways_of
  rw [Option.bind_some, List.length_map, rng1T_le (by omega), Option.bind_some, e, Option.bind_some, hL]; rfl
theorem left_e {u v : Spot} {m n : Nat} [Bs u m] [Bs v n] (hm : 2 * m ≤ 9000) (hn : 2 * n ≤ 9000) : ∃ z : Int, T_to_left (sp u) (sp v) = some z ∧ (0 < z ↔ 0 < crs u v) ∧ (z < 0 ↔ crs u v < 0) ∧ (z = 0 ↔ crs u v = 0) := by
  have a1 := fl_a u; have b1 := fl_b u; have c1 := fl_c u
  have a2 := fl_a v; have b2 := fl_b v; have c2 := fl_c v
  have cc := Rat.mul_pos c1 c2
  have e : (((fl u).a * (fl v).b - (fl u).b * (fl v).a : Int) : Rat) = crs u v * (((fl u).c : Rat) * ((fl v).c : Rat)) := by
    rw [ic_sub, ic_mul, ic_mul, a1, b1, a2, b2]; unfold crs; grind
  refine ⟨(fl u).a * (fl v).b - (fl u).b * (fl v).a, ?_, ?_, ?_, ?_⟩
  · unfold T_to_left
    rw [T_flat_e (by omega), Option.bind_some, T_flat_e (by omega), Option.bind_some, mulT_bd (by omega), Option.bind_some, mulT_bd (by omega), Option.bind_some]
  · rw [← ic_pos, e, pos_mul cc]
  · rw [← ic_neg', e, neg_mul' cc]
  · rw [← ic_zero, e, zero_mul' cc]
theorem zero_sp : (((0 : Int), (1 : Int)), ((0 : Int), (1 : Int))) = sp (0, 0) := rfl
theorem merged_step {n : Nat} {A B : List Spot} (zA : ∀ q ∈ A, Spz n q) (zB : ∀ q ∈ B, Spz n q) (hA : 0 < A.length) (hB : 0 < B.length) (hn : 2 * (2 * n + 1) ≤ 9000) (L : List Spot) (hL : L.length < 5000) {s : Nat × Nat} (h1 : s.1 ≤ A.length) (h2 : s.2 ≤ B.length) (hl : Live A B s) :
    TL1_merged ((waysF A).map sp) ((waysF B).map sp) (L.map sp, (s.1 : Int), (s.2 : Int)) = some ((L ++ [wayM A B s]).map sp, ((nxt A B s).1 : Int), ((nxt A B s).2 : Int)) := by
  obtain ⟨k, j⟩ := s
  simp only at h1 h2
  have lA : ((((waysF A).map sp).length : Nat) : Int) = (A.length : Int) := by rw [List.length_map, waysF_len]
  have lB : ((((waysF B).map sp).length : Nat) : Int) = (B.length : Int) := by rw [List.length_map, waysF_len]
  have b1 := bs (ed_z zA hA k)
  have b2 := bs (ed_z zB hB j)
  have ap : ∀ w : Spot, appT (L.map sp) (sp w) = some ((L ++ [w]).map sp) := fun w => by
    rw [appT_lt (by rw [List.length_map]; unfold lim; omega), List.map_append]; rfl
  have pl : ∀ u v : Rat, Qz (2 * n + 1) u → Qz (2 * n + 1) v → T_plus (fr u) (fr v) = some (fr (u + v)) := fun u v hu hv => by
    have i1 : Bq u (2 * n + 1) := ⟨hu⟩
    have i2 : Bq v (2 * n + 1) := ⟨hv⟩
    exact T_plus_e (by omega)
  have pz : ∀ v : Rat, Qz (2 * n + 1) v → T_plus (fr 0) (fr v) = some (fr v) := fun v hv => by
    have i2 : Bq v (2 * n + 1) := ⟨hv⟩
    have := T_plus_e (p := 0) (q := v) (m := 1) (n := 2 * n + 1) (by omega)
    rwa [Rat.zero_add] at this
  unfold TL1_merged nxt wayM
  simp only [lA, lB, Option.bind_some]
  by_cases hk : k < A.length
  · have gA := waysF_get (vs := A) hk
    have dk : decide ((k : Int) < (A.length : Int)) = true := decide_eq_true (by omega)
    have dk' : decide ((k : Int) = (A.length : Int)) = false := decide_eq_false (by omega)
    by_cases hj : j < B.length
    · have gB := waysF_get (vs := B) hj
      have dj : decide ((j : Int) < (B.length : Int)) = true := decide_eq_true (by omega)
      have dj' : decide ((j : Int) = (B.length : Int)) = false := decide_eq_false (by omega)
      obtain ⟨z, ez, z1, z2, z3⟩ := left_e (u := ed A k) (v := ed B j) (by omega) (by omega)
      simp only [dk, dj, dk', dj', Bool.true_and, Bool.false_or, if_true, gA, gB, ez, Option.bind_some, hk, hj]
      by_cases c1 : 0 < crs (ed A k) (ed B j)
      · have hz := z1.mpr c1
        have d1 : decide (0 ≤ z) = true := decide_eq_true (by omega)
        have d2 : decide (z ≤ 0) = false := decide_eq_false (by omega)
        simp only [d1, d2, if_true, Bool.false_eq_true, if_false, Option.bind_some, ap, c1, Int.natCast_add]
        rfl
      · by_cases c2 : crs (ed A k) (ed B j) < 0
        · have hz := z2.mpr c2
          have d1 : decide (0 ≤ z) = false := decide_eq_false (by omega)
          have d2 : decide (z ≤ 0) = true := decide_eq_true (by omega)
          simp only [d1, d2, if_true, Bool.false_eq_true, if_false, Option.bind_some, c1, c2, zero_sp, sp_1, sp_2, pz _ b2.h.1, pz _ b2.h.2]
          rw [show (fr (ed B j).1, fr (ed B j).2) = sp (ed B j) from rfl, ap, Option.bind_some]; rfl
        · have hz := z3.mpr (by grind)
          have d1 : decide (0 ≤ z) = true := decide_eq_true (by omega)
          have d2 : decide (z ≤ 0) = true := decide_eq_true (by omega)
          simp only [d1, d2, if_true, Option.bind_some, c1, c2, if_false, sp_1, sp_2, pl _ _ b1.h.1 b2.h.1, pl _ _ b1.h.2 b2.h.2]
          rw [show (fr ((ed A k).1 + (ed B j).1), fr ((ed A k).2 + (ed B j).2)) = sp (Ge.add (ed A k) (ed B j)) from rfl, ap, Option.bind_some]; rfl
    · have ej : j = B.length := by omega
      have dj : decide ((j : Int) < (B.length : Int)) = false := decide_eq_false (by omega)
      have dj' : decide ((j : Int) = (B.length : Int)) = true := decide_eq_true (by omega)
      simp only [dk, dj, dk', dj', Bool.and_false, Bool.false_and, Bool.true_or, Bool.or_false, Bool.false_eq_true, if_false, if_true, gA, Option.bind_some, ap, hk, hj]
      rfl
  · have hj : j < B.length := by rcases hl with h | h; exact absurd h hk; exact h
    have gB := waysF_get (vs := B) hj
    have dk : decide ((k : Int) < (A.length : Int)) = false := decide_eq_false (by omega)
    have dk' : decide ((k : Int) = (A.length : Int)) = true := decide_eq_true (by omega)
    have dj : decide ((j : Int) < (B.length : Int)) = true := decide_eq_true (by omega)
    have dj' : decide ((j : Int) = (B.length : Int)) = false := decide_eq_false (by omega)
    simp only [dk, dj, dk', dj', Bool.false_and, Bool.true_or, Bool.or_self, Bool.false_eq_true, if_false, if_true, gB, Option.bind_some, hk, hj, zero_sp, sp_1, sp_2, pz _ b2.h.1, pz _ b2.h.2]
    rw [show (fr (ed B j).1, fr (ed B j).2) = sp (ed B j) from rfl, ap, Option.bind_some]; rfl
/-- the ways of the sum -/
def wl (A B : List Spot) : Nat → Nat × Nat → List Spot
  | 0, _ => []
  | f + 1, s => if Live A B s then wayM A B s :: wl A B f (nxt A B s) else []
theorem wl_len (A B : List Spot) : ∀ (f : Nat) (s : Nat × Nat), (wl A B f s).length = Ge.cntN A B f s
  | 0, _ => rfl
  | f + 1, s => by
    unfold wl Ge.cntN
    split
    · rw [List.length_cons, wl_len A B f]
    · rfl
theorem wl_get (A B : List Spot) : ∀ (f : Nat) (s : Nat × Nat) (i : Nat), i < Ge.cntN A B f s → (wl A B f s)[i]? = some (wayM A B (Ge.it A B i s))
  | 0, _, i, h => absurd h (by simp [Ge.cntN])
  | f + 1, s, i, h => by
    unfold Ge.cntN at h
    unfold wl
    split at h
    · rename_i hl
      rw [if_pos hl]
      cases i with
      | zero => rfl
      | succ i =>
        rw [List.getElem?_cons_succ, wl_get A B f (nxt A B s) i (by omega)]; rfl
    · omega
theorem merged_loop {n : Nat} {A B : List Spot} (rA : Rg A) (rB : Rg B) (zA : ∀ q ∈ A, Spz n q) (zB : ∀ q ∈ B, Spz n q) (hn : 2 * (2 * n + 1) ≤ 9000) : ∀ (f : Nat) (s : Nat × Nat) (L : List Spot), Inv A B s.1 s.2 → (A.length - s.1) + (B.length - s.2) ≤ f → L.length + f < 5000 →
    whileT (TL1_mergedc ((waysF A).map sp) ((waysF B).map sp)) (TL1_merged ((waysF A).map sp) ((waysF B).map sp)) (f + 1) (L.map sp, (s.1 : Int), (s.2 : Int)) = some ((L ++ wl A B f s).map sp, (A.length : Int), (B.length : Int)) := by
  have cond : ∀ (s : Nat × Nat) (M : List ((Int × Int) × (Int × Int))), TL1_mergedc ((waysF A).map sp) ((waysF B).map sp) (M, (s.1 : Int), (s.2 : Int)) = some (decide (Live A B s)) := fun s M => by
    unfold TL1_mergedc
    rw [List.length_map, waysF_len, List.length_map, waysF_len, Option.some.injEq, Bool.eq_iff_iff, Bool.or_eq_true, decide_eq_true_iff, decide_eq_true_iff, decide_eq_true_iff]
    unfold Live
    simp only
    omega
  intro f
  induction f with
  | zero =>
    intro s L I h hl
    have := I.km; have := I.jn
    have hd : ¬ Live A B s := fun z => by rcases z with z | z <;> omega
    unfold whileT
    rw [cond, Option.bind_some, if_neg (by simpa using hd)]
    unfold wl
    rw [List.append_nil, show s.1 = A.length by omega, show s.2 = B.length by omega]
  | succ f ih =>
    intro s L I h hl
    have k1 := I.km; have k2 := I.jn
    unfold whileT
    rw [cond, Option.bind_some]
    by_cases hv : Live A B s
    · have st : Step A B s.1 s.2 (nxt A B s) (wayM A B s) := Ge.step_ok rA rB I hv
      have mo := st.mono
      have I2 := st.inv rA rB I
      have k3 := I2.km
      have k4 := I2.jn
      rw [if_pos (decide_eq_true hv), merged_step zA zB (by have := rA.n3; omega) (by have := rB.n3; omega) hn L (by omega) k1 k2 hv, Option.bind_some, ih (nxt A B s) (L ++ [wayM A B s]) I2 (by omega) (by rw [List.length_append]; simp; omega)]
      have : wl A B (f + 1) s = wayM A B s :: wl A B f (nxt A B s) := by rw [wl, if_pos hv]
      rw [this, List.append_assoc]; rfl
    · rw [if_neg (by simpa using hv)]
      have : wl A B (f + 1) s = [] := by rw [wl, if_neg hv]
      have h1 : ¬ s.1 < A.length := fun z => hv (.inl z)
      have h2 : ¬ s.2 < B.length := fun z => hv (.inr z)
      rw [this, List.append_nil, show s.1 = A.length by omega, show s.2 = B.length by omega]
theorem merged_e {n : Nat} {A B : List Spot} (rA : Rg A) (rB : Rg B) (zA : ∀ q ∈ A, Spz n q) (zB : ∀ q ∈ B, Spz n q) (hn : 2 * (2 * n + 1) ≤ 9000) (hl : A.length + B.length < 1000) : T_merged ((waysF A).map sp) ((waysF B).map sp) = some ((wl A B (A.length + B.length) (0, 0)).map sp) := by
  have h := merged_loop rA rB zA zB hn (A.length + B.length) (0, 0) [] (Ge.inv0 A B) (by simp) (by simp; omega)
  rw [List.nil_append] at h
  have h' : whileT (TL1_mergedc ((waysF A).map sp) ((waysF B).map sp)) (TL1_merged ((waysF A).map sp) ((waysF B).map sp)) (((waysF A).map sp).length + ((waysF B).map sp).length + 1) ([], 0, 0) = some ((wl A B (A.length + B.length) (0, 0)).map sp, (A.length : Int), (B.length : Int)) := by
    rw [List.length_map, waysF_len, List.length_map, waysF_len]; exact h
  unfold T_merged
  rw [Option.bind_some, Option.bind_some, Option.bind_some, h']; rfl
theorem add_z {m n : Nat} {p q : Spot} (hp : Spz m p) (hq : Spz n q) : Spz (m + n + 1) (Ge.add p q) := ⟨Qz_add hp.1 hq.1, Qz_add hp.2 hq.2⟩
theorem corner_z {n : Nat} {A B : List Spot} (zA : ∀ q ∈ A, Spz n q) (zB : ∀ q ∈ B, Spz n q) (hA : 0 < A.length) (hB : 0 < B.length) (s : Nat × Nat) : Spz (2 * n + 1) (corner A B s) := (add_z (pv_z zA hA s.1) (pv_z zB hB s.2)).mono (by omega)
theorem way_z {n : Nat} {A B : List Spot} (zA : ∀ q ∈ A, Spz n q) (zB : ∀ q ∈ B, Spz n q) (hA : 0 < A.length) (hB : 0 < B.length) (s : Nat × Nat) : Spz (4 * n + 3) (wayM A B s) := by
  have h1 := ed_z zA hA s.1
  have h2 := ed_z zB hB s.2
  unfold wayM
  split
  · split
    · split
      · exact h1.mono (by omega)
      · split
        · exact h2.mono (by omega)
        · exact (add_z h1 h2).mono (by omega)
    · exact h1.mono (by omega)
  · exact h2.mono (by omega)
theorem sum_loop {n : Nat} {A B : List Spot} (zA : ∀ q ∈ A, Spz n q) (zB : ∀ q ∈ B, Spz n q) (rA : Rg A) (rB : Rg B) (hn : 6 * n + 4 ≤ 9000) : ∀ (f : Nat) (s : Nat × Nat) (L : List Spot), Inv A B s.1 s.2 → (A.length - s.1) + (B.length - s.2) ≤ f → L.length + f < 5000 →
    foldT TL1_summed ((wl A B f s).map sp) (sp (corner A B s), L.map sp) = some (sp (corner A B (A.length, B.length)), (L ++ (List.range (Ge.cntN A B f s)).map fun i => corner A B (Ge.it A B i s)).map sp) := by
  have hA : 0 < A.length := by have := rA.n3; omega
  have hB : 0 < B.length := by have := rB.n3; omega
  intro f
  induction f with
  | zero =>
    intro s L I h _
    have := I.km; have := I.jn
    have e : s = (A.length, B.length) := Prod.ext (by simp only; omega) (by simp only; omega)
    show some _ = _
    rw [e]; simp [Ge.cntN]
  | succ f ih =>
    intro s L I h hl
    have k1 := I.km; have k2 := I.jn
    by_cases hv : Live A B s
    · have st : Step A B s.1 s.2 (nxt A B s) (wayM A B s) := Ge.step_ok rA rB I hv
      have mo := st.mono
      have I2 := st.inv rA rB I
      have k3 := I2.km
      have k4 := I2.jn
      have i1 := bs (corner_z zA zB hA hB s)
      have i2 := bs (way_z zA zB hA hB s)
      have e1 : wl A B (f + 1) s = wayM A B s :: wl A B f (nxt A B s) := by rw [wl, if_pos hv]
      have e2 : Ge.cntN A B (f + 1) s = Ge.cntN A B f (nxt A B s) + 1 := by rw [Ge.cntN, if_pos hv]
      have e3 := Ge.corner_step st
      have step : TL1_summed (sp (wayM A B s)) (sp (corner A B s), L.map sp) = some (sp (corner A B (nxt A B s)), (L ++ [corner A B s]).map sp) := by
        unfold TL1_summed
        simp only [sp_1, sp_2]
        rw [appT_lt (by rw [List.length_map]; unfold lim; omega), Option.bind_some, T_plus_e (by omega), Option.bind_some, T_plus_e (by omega), Option.bind_some, Option.bind_some, e3, List.map_append]; rfl
      rw [e1, List.map_cons, foldT, step, Option.bind_some, ih (nxt A B s) _ I2 (by omega) (by rw [List.length_append]; simp; omega), e2, List.append_assoc, List.range_succ_eq_map]
      simp only [List.map_cons, List.map_map, List.singleton_append]
      rfl
    · have e1 : wl A B (f + 1) s = [] := by rw [wl, if_neg hv]
      have e2 : Ge.cntN A B (f + 1) s = 0 := by rw [Ge.cntN, if_neg hv]
      have h1 : ¬ s.1 < A.length := fun z => hv (.inl z)
      have h2 : ¬ s.2 < B.length := fun z => hv (.inr z)
      have e : s = (A.length, B.length) := Prod.ext (by simp only; omega) (by simp only; omega)
      rw [e1, e2, ← e]; simp [foldT]
theorem summed_e {n : Nat} {A B : List Spot} (rA : Rg A) (rB : Rg B) (zA : ∀ q ∈ A, Spz n q) (zB : ∀ q ∈ B, Spz n q) (hn : 6 * n + 4 ≤ 9000) (hl : A.length + B.length < 1000) : T_summed (A.map sp) (B.map sp) = some ((sumS A B).map sp) ∧ ∀ q ∈ sumS A B, Spz (2 * n + 1) q := by
  have hA : 0 < A.length := by have := rA.n3; omega
  have hB : 0 < B.length := by have := rB.n3; omega
  have gA : getT (A.map sp) 0 = some (sp (pv A 0)) := pv_get (k := 0) hA
  have gB : getT (B.map sp) 0 = some (sp (pv B 0)) := pv_get (k := 0) hB
  have i1 := bs (pv_z zA hA 0)
  have i2 := bs (pv_z zB hB 0)
  have h := sum_loop zA zB rA rB hn (A.length + B.length) (0, 0) [] (Ge.inv0 A B) (by simp) (by simp; omega)
  refine ⟨?_, fun q hq => ?_⟩
  · unfold T_summed
    rw [gA, Option.bind_some, gB, Option.bind_some]
    simp only [sp_1, sp_2]
    rw [T_plus_e (by omega), Option.bind_some, Option.bind_some, Option.bind_some]
    simp only [sp_1, sp_2]
    rw [T_plus_e (by omega), Option.bind_some, Option.bind_some, Option.bind_some, ways_e zA (by omega) hA (by omega), Option.bind_some, ways_e zB (by omega) hB (by omega), Option.bind_some, merged_e rA rB zA zB (by omega) hl, Option.bind_some]
    rw [show (fr ((pv A 0).1 + (pv B 0).1), fr ((pv A 0).2 + (pv B 0).2)) = sp (corner A B (0, 0)) from rfl]
    rw [List.map_nil] at h
    rw [h, Option.bind_some, List.nil_append]; rfl
  · unfold sumS at hq
    obtain ⟨i, _, rfl⟩ := List.mem_map.mp hq
    exact corner_z zA zB hA hB _
end Sp

/-! SPECA: doubled areas; common bottoms. -/
namespace Sp
open TL Ty
open Ge (Rg SC V2 pv ed ltV rot FirstAt crs sumN sumS LowAt IsSum ar mid)
theorem get_spp' {vs : List Spot} {k : Nat} (h : k < vs.length) : getT (vs.map sp) ((k : Int) - 1) = some (sp (pv vs (k + vs.length - 1))) := by
  by_cases e : k = 0
  · subst e
    rw [show (((0 : Nat) : Int) - 1) = -((1 : Nat) : Int) by rfl, getT_neg (by decide) (by rw [List.length_map]; omega), List.length_map]
    have := pv_get (vs := vs) (k := vs.length - 1) (by omega)
    rw [getT_nat] at this
    rw [Nat.zero_add]; exact this
  · rw [show ((k : Int) - 1) = ((k - 1 : Nat) : Int) by omega, pv_get (by omega), show k + vs.length - 1 = k - 1 + vs.length by omega, Ge.pv_add]
/-- the sum of the first k, as the program goes -/
def dS (vs : List Spot) : Nat → Rat
  | 0 => 0
  | k + 1 => dS vs k + crs (pv vs (k + vs.length - 1)) (pv vs k)
theorem dS_ar (vs : List Spot) (h : 0 < vs.length) : dS vs vs.length = ar vs := by
  have key : ∀ k, dS vs (k + 1) = crs (pv vs (vs.length - 1)) (pv vs 0) + Ge.sm (fun i => crs (pv vs i) (pv vs (i + 1))) k := fun k => by
    induction k with
    | zero => simp only [dS, Ge.sm, Nat.zero_add]; grind
    | succ k ih =>
      have e : dS vs (k + 1 + 1) = dS vs (k + 1) + crs (pv vs (k + 1 + vs.length - 1)) (pv vs (k + 1)) := rfl
      rw [e, ih, Ge.sm, show k + 1 + vs.length - 1 = k + vs.length by omega, Ge.pv_add]; grind
  have := key (vs.length - 1)
  rw [show vs.length - 1 + 1 = vs.length by omega] at this
  rw [this]
  unfold ar Ge.pa
  have e : Ge.sm (fun i => crs (pv vs i) (pv vs (i + 1))) vs.length = Ge.sm (fun i => crs (pv vs i) (pv vs (i + 1))) (vs.length - 1) + crs (pv vs (vs.length - 1)) (pv vs 0) := by
    obtain ⟨m, hm⟩ : ∃ m, vs.length = m + 1 := ⟨vs.length - 1, by omega⟩
    have hw := Ge.pv_wrap vs
    rw [hm] at hw ⊢
    rw [Ge.sm, hw]; rfl
  rw [e]; grind
instance crs_bq {n m : Nat} {p q : Spot} [hp : Bs p m] [hq : Bs q n] : Bq (crs p q) (2 * (m + n) + 1) := ⟨((inferInstance : Bq (p.1 * q.2 - p.2 * q.1) _).h).mono (by omega)⟩
theorem doubled_c {n M : Nat} (vs : List Spot) (hz : ∀ q ∈ vs, Spz n q) (h0 : 0 < vs.length) (hl : vs.length < 1000) (hd : ∀ k, k ≤ vs.length → Qz M (dS vs k)) (hn : M + 4 * n + 1 ≤ 9000) : T_doubled (vs.map sp) = some (fr (ar vs)) ∧ Qz M (ar vs) := by
  obtain ⟨t, e, ht⟩ := foldT_rng (f := TL1_doubled (vs.map sp)) (s := ((0, 1) : Int × Int)) (fun i s => s = fr (dS vs i)) rfl vs.length (fun i s hi hs => by
    subst hs
    have b1 := bs (pv_z hz h0 (i + vs.length - 1))
    have b2 := bs (pv_z hz h0 i)
    have b3 : Bq (dS vs i) M := ⟨hd i (by omega)⟩
    refine ⟨_, ?_, rfl⟩
    unfold TL1_doubled
    rw [get_spp' hi, Option.bind_some, pv_get hi, Option.bind_some]
    simp only [sp_1, sp_2]
    rw [T_times_e (by omega), Option.bind_some, T_times_e (by omega), Option.bind_some, T_minus_e (by omega), Option.bind_some]
    show (T_plus (fr (dS vs i)) (fr (crs _ _))).bind _ = _
    rw [T_plus_e (by omega)]; rfl)
  have hA := dS_ar vs h0
  refine ⟨?_, by rw [← hA]; exact hd _ (Nat.le_refl _)⟩
  unfold T_doubled
  rw [Option.bind_some, List.length_map, rng1T_le (by omega), Option.bind_some, e, Option.bind_some, ht, hA]
/-! ### common bottoms -/
structure CD (d : Int) (m n : Nat) (vs : List Spot) : Prop where
  d0 : 0 < d
  dz : Sz m d
  co : ∀ q ∈ vs, ∃ a b : Int, q.1 * (d : Rat) = (a : Rat) ∧ q.2 * (d : Rat) = (b : Rat) ∧ Sz n a ∧ Sz n b
theorem CD.mono {d : Int} {m n m' n' : Nat} {vs : List Spot} (h : CD d m n vs) (hm : m ≤ m') (hn : n ≤ n') : CD d m' n' vs := ⟨h.d0, h.dz.mono hm, fun q hq => by obtain ⟨a, b, e1, e2, z1, z2⟩ := h.co q hq; exact ⟨a, b, e1, e2, z1.mono hn, z2.mono hn⟩⟩
theorem CD.spz {d : Int} {m n : Nat} {vs : List Spot} (h : CD d m n vs) : ∀ q ∈ vs, Spz (max m n) q := fun q hq => by
  obtain ⟨a, b, e1, e2, z1, z2⟩ := h.co q hq
  have d0 := h.d0
  have f1 : Rat.divInt a d = q.1 := divInt_div (by omega) e1.symm
  have f2 : Rat.divInt b d = q.2 := divInt_div (by omega) e2.symm
  rw [Spz, ← f1, ← f2]
  exact ⟨divInt_sz (by omega) (z1.mono (by omega)) (h.dz.mono (by omega)), divInt_sz (by omega) (z2.mono (by omega)) (h.dz.mono (by omega))⟩
theorem CD.ds {d : Int} {m n : Nat} {vs : List Spot} (h : CD d m n vs) (h0 : 0 < vs.length) (k : Nat) : Qz (max (2 * m) (2 * n + 2 + k)) (dS vs k) := by
  have d0 := h.d0
  have key : ∀ k, ∃ z : Int, dS vs k * ((d * d : Int) : Rat) = (z : Rat) ∧ Sz (2 * n + 2 + k) z := fun k => by
    induction k with
    | zero => exact ⟨0, by rw [show dS vs 0 = 0 from rfl, Rat.intCast_zero]; grind, Bd.zero.h.mono (by omega)⟩
    | succ k ih =>
      obtain ⟨z, e, hz⟩ := ih
      obtain ⟨a, b, a1, a2, z1, z2⟩ := h.co _ (pv_mem h0 (k + vs.length - 1))
      obtain ⟨a', b', a3, a4, z3, z4⟩ := h.co _ (pv_mem h0 k)
      refine ⟨z + (a * b' - b * a'), ?_, ?_⟩
      · have e2 : dS vs (k + 1) = dS vs k + crs (pv vs (k + vs.length - 1)) (pv vs k) := rfl
        rw [e2]
        simp only [ic_add, ic_sub, ic_mul] at *
        rw [← e, ← a1, ← a2, ← a3, ← a4]
        unfold crs; grind
      · exact (hz.add' ((z1.mul z4).sub' (z2.mul z3))).mono (by omega)
  obtain ⟨z, e, hz⟩ := key k
  have hne : d * d ≠ 0 := Int.mul_ne_zero (by omega) (by omega)
  have f : Rat.divInt z (d * d) = dS vs k := divInt_div hne e.symm
  rw [← f]
  exact divInt_sz hne (hz.mono (by omega)) ((h.dz.mul h.dz).mono (by omega))
theorem doubled_cd {d : Int} {m n : Nat} {vs : List Spot} (h : CD d m n vs) (h0 : 0 < vs.length) (hl : vs.length ≤ 100) (hm : m ≤ 800) (hn : n ≤ 800) : T_doubled (vs.map sp) = some (fr (ar vs)) ∧ Qz (2 * m + 2 * n + 102) (ar vs) :=
  doubled_c (n := max m n) (M := 2 * m + 2 * n + 102) vs h.spz h0 (by omega) (fun k hk => (h.ds h0 k).mono (by omega)) (by omega)
theorem CD.sum {d e : Int} {m n m' n' : Nat} {A B : List Spot} (hA : CD d m n A) (hB : CD e m' n' B) (h0 : 0 < A.length) (h1 : 0 < B.length) : CD (d * e) (m + m') (n + m' + n' + m + 1) (sumS A B) := by
  refine ⟨Int.mul_pos hA.d0 hB.d0, hA.dz.mul hB.dz, fun q hq => ?_⟩
  unfold sumS at hq
  obtain ⟨i, _, rfl⟩ := List.mem_map.mp hq
  obtain ⟨a, b, a1, a2, z1, z2⟩ := hA.co _ (pv_mem h0 (Ge.stA A B i).1)
  obtain ⟨a', b', a3, a4, z3, z4⟩ := hB.co _ (pv_mem h1 (Ge.stA A B i).2)
  refine ⟨a * e + a' * d, b * e + b' * d, ?_, ?_, ((z1.mul hB.dz).add' (z3.mul hA.dz)).mono (by omega), ((z2.mul hB.dz).add' (z4.mul hA.dz)).mono (by omega)⟩
  · unfold Ge.corner Ge.add
    rw [ic_add, ic_mul, ic_mul, ic_mul, ← a1, ← a3]; grind
  · unfold Ge.corner Ge.add
    rw [ic_add, ic_mul, ic_mul, ic_mul, ← a2, ← a4]; grind
theorem CD.mul {d : Int} {m n k : Nat} {A : List Spot} {f : Rat} (hA : CD d m n A) (hf : Qz k f) : CD (d * f.den) (m + k) (n + k) (A.map (mulS f)) := by
  have fd : (0 : Int) < f.den := by have := f.den_pos; omega
  refine ⟨Int.mul_pos hA.d0 fd, hA.dz.mul hf.2, fun q hq => ?_⟩
  obtain ⟨p, hp, rfl⟩ := List.mem_map.mp hq
  obtain ⟨a, b, a1, a2, z1, z2⟩ := hA.co p hp
  have hr := rat_num f
  refine ⟨a * f.num, b * f.num, ?_, ?_, z1.mul hf.1, z2.mul hf.1⟩
  · unfold mulS; rw [ic_mul, ic_mul, ← a1, ← hr]; grind
  · unfold mulS; rw [ic_mul, ic_mul, ← a2, ← hr]; grind
theorem CD.add {d : Int} {m n k : Nat} {A : List Spot} {t : Spot} (hA : CD d m n A) (ht : Spz k t) : CD (d * (t.1.den * t.2.den)) (m + 2 * k) (n + m + 2 * k + 1) (A.map (addS t)) := by
  have d1 : (0 : Int) < t.1.den := by have := t.1.den_pos; omega
  have d2 : (0 : Int) < t.2.den := by have := t.2.den_pos; omega
  refine ⟨Int.mul_pos hA.d0 (Int.mul_pos d1 d2), (hA.dz.mul (ht.1.2.mul ht.2.2)).mono (by omega), fun q hq => ?_⟩
  obtain ⟨p, hp, rfl⟩ := List.mem_map.mp hq
  obtain ⟨a, b, a1, a2, z1, z2⟩ := hA.co p hp
  have r1 := rat_num t.1
  have r2 := rat_num t.2
  refine ⟨a * (t.1.den * t.2.den) + t.1.num * t.2.den * d, b * (t.1.den * t.2.den) + t.2.num * t.1.den * d, ?_, ?_, ((z1.mul (ht.1.2.mul ht.2.2)).add' ((ht.1.1.mul ht.2.2).mul hA.dz)).mono (by omega), ((z2.mul (ht.1.2.mul ht.2.2)).add' ((ht.2.1.mul ht.1.2).mul hA.dz)).mono (by omega)⟩
  · unfold addS
    simp only [ic_add, ic_mul]
    rw [← a1, ← r1]; grind
  · unfold addS
    simp only [ic_add, ic_mul]
    rw [← a2, ← r2]; grind
/-- the drawn shape, with its bottom -/
theorem shape_cd (ns : List Int) (start most : Nat) (hs : start + most ≤ 8000) (hm : 3 ≤ most) (hm2 : most ≤ 40) : ∃ (vs : List Spot) (d : Int), T__law_shape ns start most = some (vs.map sp) ∧ Rg vs ∧ CD d 30 62 vs ∧ vs.length ≤ 2 * most := by
  obtain ⟨ps, s, m, f, dr, es⟩ := shape_ex ns start most hs hm hm2
  have rgx : Rg ((ringP ps).map (sizeP s m f)) := by
    have h1 := (hull dr.tri).1
    have s0 := ic_pos.mpr dr.s0
    have m0 := ic_pos.mpr dr.m0
    have hc : (0 : Rat) < (m : Rat) / (s : Rat) := by
      rw [Rat.div_def]; exact Rat.mul_pos m0 (Rat.inv_pos.mpr s0)
    have := h1.scl hc ((f : Rat) / (s : Rat), -2 * (f : Rat) / (s : Rat))
    rw [List.map_map] at this
    rw [show (sizeP s m f) = (Ge.scl ((m : Rat) / (s : Rat)) ((f : Rat) / (s : Rat), -2 * (f : Rat) / (s : Rat))) ∘ cp from funext fun p => sizeP_scl dr.s0 p]
    exact this
  refine ⟨_, s, es, rgx, ⟨dr.s0, ?_, fun q hq => ?_⟩, ?_⟩
  · have h1 := dr.s1; have h2 := dr.s0
    exact show s.natAbs < 2 ^ 30 by omega
  · obtain ⟨p, hp, rfl⟩ := List.mem_map.mp hq
    have hp := ringP_mem hp
    obtain ⟨z1, z2⟩ := dr.z p hp
    have s0 := dr.s0; have m0 := dr.m0; have m1 := dr.m1; have f0 := dr.f0
    have hs : (s : Rat) ≠ 0 := fun z => by have := ic_zero.mp z; omega
    have am : Sz 30 m := show m.natAbs < 2 ^ 30 by omega
    have af : Sz 60 f := show f.natAbs < 2 ^ 60 by omega
    have a2f : Sz 61 (2 * f) := show (2 * f).natAbs < 2 ^ 61 by omega
    refine ⟨p.1 * m + f, p.2 * m - 2 * f, ?_, ?_, ((z1.mul am).add' af).mono (by decide), ((z2.mul am).sub' a2f).mono (by decide)⟩
    · unfold sizeP; simp only [Rat.divInt_eq_div]; exact Rat.div_mul_cancel hs
    · unfold sizeP; simp only [Rat.divInt_eq_div]; exact Rat.div_mul_cancel hs
  · have := ringP_len ps; have := dr.lm; rw [List.length_map]; omega
end Sp

/-! SPEC16: law k16. -/
namespace Sp
open TL Ty
open Ge (Rg SC V2 pv ed ltV scl rot FirstAt)
theorem getS {α : Type} {a b c : α} {i : Int} (h0 : 0 ≤ i) (h3 : i < 3) : ∃ x, getT [a, b, c] i = some x ∧ (x = a ∨ x = b ∨ x = c) := by
  have : i = 0 ∨ i = 1 ∨ i = 2 := by omega
  rcases this with rfl | rfl | rfl
  · exact ⟨_, rfl, .inl rfl⟩
  · exact ⟨_, rfl, .inr (.inl rfl)⟩
  · exact ⟨_, rfl, .inr (.inr rfl)⟩
theorem push_ex (ns : List Int) (k : Nat) (hk : k ≤ 9000) : ∃ t : Spot, T__law_push ns (k : Int) = some (sp t) ∧ Spz 110 t := by
  obtain ⟨n, en, n0, n1⟩ := mixed_ex ns k (by omega)
  have c0 := T__law_cell_at_e ns k
  generalize ns.getD k 0 = x at c0
  have b1 : 0 ≤ x % 1000000000 ∧ x % 1000000000 < 1000000000 := ⟨Int.emod_nonneg _ (by decide), Int.emod_lt_of_pos _ (by decide)⟩
  have b2 : 0 ≤ x % (2 * 1000000000000000000000000000000) ∧ x % (2 * 1000000000000000000000000000000) < 2000000000000000000000000000000 := ⟨Int.emod_nonneg _ (by decide), Int.emod_lt_of_pos _ (by decide)⟩
  have b3 : 0 ≤ n % 41 ∧ n % 41 < 41 := ⟨Int.emod_nonneg _ (by decide), Int.emod_lt_of_pos _ (by decide)⟩
  have b4 : 0 ≤ n / 41 % 9 ∧ n / 41 % 9 < 9 := ⟨Int.emod_nonneg _ (by decide), Int.emod_lt_of_pos _ (by decide)⟩
  obtain ⟨d, ed, d0, d1⟩ : ∃ s : Int, getT [1, 1 + x % 1000000000] (n % 2) = some s ∧ 0 < s ∧ s ≤ 1000000000 := by
    rw [get2 (Int.emod_nonneg _ (by decide)) (Int.emod_lt_of_pos _ (by decide))]
    refine ⟨_, rfl, ?_⟩
    split <;> omega
  have z1 : Sz 110 (n % 41 - 20) := Nat.lt_trans (show (n % 41 - 20).natAbs < 100 by omega) (by decide)
  have z2 : Sz 110 (1 + n / 41 % 9) := Nat.lt_trans (show (1 + n / 41 % 9).natAbs < 100 by omega) (by decide)
  have z3 : Sz 110 (x % (2 * 1000000000000000000000000000000) - 1000000000000000000000000000000) := Nat.lt_trans (show Int.natAbs _ < 2000000000000000000000000000001 by omega) (by decide)
  have z4 : Sz 110 d := Nat.lt_trans (show d.natAbs < 1000000001 by omega) (by decide)
  have e1 : ratioT (n % 41 - 20) (1 + n / 41 % 9) = some (fr (Rat.divInt (n % 41 - 20) (1 + n / 41 % 9))) := ratioT_sz (by omega) (z2.mono (by decide))
  have e2 : ratioT (x % (2 * 1000000000000000000000000000000) - 1000000000000000000000000000000) d = some (fr (Rat.divInt (x % (2 * 1000000000000000000000000000000) - 1000000000000000000000000000000) d)) := ratioT_sz (by omega) (z4.mono (by decide))
  have q1 : Qz 110 (Rat.divInt (n % 41 - 20) (1 + n / 41 % 9)) := divInt_sz (by omega) z1 z2
  have q2 : Qz 110 (Rat.divInt (x % (2 * 1000000000000000000000000000000) - 1000000000000000000000000000000) d) := divInt_sz (by omega) z3 z4
  unfold T__law_push
  rw [en, Option.bind_some, c0, Option.bind_some, e1, Option.bind_some, ed, Option.bind_some, e2, Option.bind_some]
  generalize Rat.divInt (n % 41 - 20) (1 + n / 41 % 9) = u at *
  generalize Rat.divInt (x % (2 * 1000000000000000000000000000000) - 1000000000000000000000000000000) d = v at *
  obtain ⟨p, ep, hp⟩ := getS (a := (fr u, fr v)) (b := (fr v, fr u)) (c := (fr u, fr u)) (i := n / 369 % 3) (Int.emod_nonneg _ (by decide)) (Int.emod_lt_of_pos _ (by decide))
  rw [ep, Option.bind_some]
  rcases hp with e | e | e
  · exact ⟨(u, v), by rw [e]; rfl, q1, q2⟩
  · exact ⟨(v, u), by rw [e]; rfl, q2, q1⟩
  · exact ⟨(u, u), by rw [e]; rfl, q1, q1⟩
theorem right16 {n : Nat} {vs ws : List Spot} (r : Rg ws) (hz : ∀ q ∈ ws, Spz n q) (hn : n ≤ 4000) (hl : ws.length < 1000) : T__law_right_k16 (ws.map sp) (ws.map sp) (vs.map sp) (vs.map sp) = some true := by
  unfold T__law_right_k16
  rw [is_shape_e r hz hn hl, Option.bind_some, appT_lt (by rw [List.length_map]; unfold lim; omega)]
  simp
theorem forT_first {τ : Type} {f : Int → Unit → Option (TO Unit τ)} {s : Nat} {r : τ} : ∀ (n : Nat), s < n → (∀ i : Nat, i < s → f (i : Int) () = some (.nx ())) → f (s : Int) () = some (.rt r) → forT f (rngI n) () = some (.rt r) := by
  have app : ∀ (xs ys : List Int), forT f (xs ++ ys) () = (forT f xs ()).bind fun o => match o with
      | .nx _ => forT f ys ()
      | .rt v => some (.rt v) := by
    intro xs
    induction xs with
    | nil => intro ys; rfl
    | cons x xs ih =>
      intro ys
      rw [List.cons_append, forT, forT, Option.bind_assoc]
      congr 1
      funext o
      cases o with
      | nx u => exact ih ys
      | rt v => rfl
  intro n
  induction n with
  | zero => intro h; omega
  | succ n ih =>
    intro h h1 h2
    rw [rngI_succ, app]
    by_cases e : s = n
    · subst e
      rw [forT_rng h1, Option.bind_some]
      show forT f [(s : Int)] () = _
      rw [forT, h2]; rfl
    · rw [ih (by omega) h1 h2]; rfl
theorem half_turn_e {n : Nat} {vs : List Spot} {s : Nat} (r : Rg vs) (hz : ∀ q ∈ vs, Spz n q) (hn : 2 * n + 2 ≤ 9000) (hl : vs.length < 1000) (fs : FirstAt (vs.map negS) s) : T__law_half_turn (vs.map sp) = some ((rot s (vs.map negS)).map sp) := by
  have c : SC (vs.map negS) := r.sc.neg
  have hz2 : ∀ q ∈ vs.map negS, Spz n q := map_z hz fun q h => negS_z h
  have hl2 : (vs.map negS).length = vs.length := List.length_map _
  have hc : compT (fun x1 : (Int × Int) × (Int × Int) => some (((0 - x1.1.1), x1.1.2), ((0 - x1.2.1), x1.2.2))) (vs.map sp) = some ((vs.map negS).map sp) := comp_sp hl fun q hq => by
    simp only [sp_1, sp_2, fr_1, fr_2, fr_neg]; rfl
  generalize hR : vs.map negS = R at *
  have hs := fs.1
  have h0 : 0 < R.length := by omega
  -- what is later than corner k
  have later : ∀ k, k < R.length → ∃ L : List Spot, compFT (fun x6 => (getT (R.map sp) (k : Int)).bind fun m7 => (if (!decide (x6 = m7)) = true then (getT (R.map sp) (k : Int)).bind fun m8 => (T__law_flat m8).bind fun m9 => (T__law_flat x6).bind fun m10 => (T__law_before m9 m10).bind fun m11 => some ((!m11)) else some false).bind fun m12 => some m12) (fun x6 => some x6) (R.map sp) = some (L.map sp) ∧ (L = [] ↔ k = s) := fun k hk => by
    have ik := bs (pv_z hz2 h0 k)
    have key : ∀ q ∈ R, ((getT (R.map sp) (k : Int)).bind fun m7 => (if (!decide (sp q = m7)) = true then (getT (R.map sp) (k : Int)).bind fun m8 => (T__law_flat m8).bind fun m9 => (T__law_flat (sp q)).bind fun m10 => (T__law_before m9 m10).bind fun m11 => some ((!m11)) else some false).bind fun m12 => some m12) = some (decide (q ≠ pv R k ∧ ¬ ltV (pv R k) q)) := fun q hq => by
      have iq := bs (hz2 q hq)
      rw [pv_get hk, Option.bind_some]
      by_cases e : q = pv R k
      · subst e; simp
      · have e' : ¬ sp q = sp (pv R k) := fun z => e (sp_inj.mp z)
        rw [if_pos (by simpa using e'), Option.bind_some, T__law_flat_e (by omega), Option.bind_some, T__law_flat_e (by omega), Option.bind_some, before_e (by omega) (by omega)]
        by_cases h : ltV (pv R k) q
        · simp [e, h]
        · simp [e, h]
    refine ⟨R.filter fun q => decide (q ≠ pv R k ∧ ¬ ltV (pv R k) q), ?_, ?_⟩
    · unfold compFT
      rw [if_pos (by rw [List.length_map]; unfold lim; omega)]
      have : ∀ M : List Spot, (∀ q ∈ M, q ∈ R) → fmapL (fun x6 => (getT (R.map sp) (k : Int)).bind fun m7 => (if (!decide (x6 = m7)) = true then (getT (R.map sp) (k : Int)).bind fun m8 => (T__law_flat m8).bind fun m9 => (T__law_flat x6).bind fun m10 => (T__law_before m9 m10).bind fun m11 => some ((!m11)) else some false).bind fun m12 => some m12) (fun x6 => some x6) (M.map sp) = some ((M.filter fun q => decide (q ≠ pv R k ∧ ¬ ltV (pv R k) q)).map sp) := by
        intro M
        induction M with
        | nil => intro _; rfl
        | cons q M ih =>
          intro hM
          have ih := ih fun z hz => hM z (List.mem_cons_of_mem _ hz)
          rw [List.map_cons, fmapL, key q (hM q List.mem_cons_self), Option.bind_some]
          by_cases h : q ≠ pv R k ∧ ¬ ltV (pv R k) q
          · rw [if_pos (decide_eq_true h), Option.bind_some, ih, List.filter_cons_of_pos (by simpa using h)]; rfl
          · rw [if_neg (by simpa using h), ih, List.filter_cons_of_neg (by simpa using h)]
      exact this R fun q hq => hq
    · constructor
      · intro h
        by_cases e : k = s
        · exact e
        · exfalso
          have h1 := fs.2 k hk e
          have hm : pv R s ∈ R.filter fun q => decide (q ≠ pv R k ∧ ¬ ltV (pv R k) q) := by
            rw [List.mem_filter]
            refine ⟨pv_mem h0 s, decide_eq_true ⟨fun z => ?_, fun z => ?_⟩⟩
            · rw [z] at h1; exact Ge.ltV_irrefl _ h1
            · exact Ge.ltV_irrefl _ (Ge.ltV_trans h1 z)
          rw [h] at hm; cases hm
      · intro e
        subst e
        rw [List.filter_eq_nil_iff]
        intro q hq hd
        obtain ⟨j, hj, rfl⟩ := pv_of_mem hq
        obtain ⟨h1, h2⟩ := of_decide_eq_true hd
        exact h2 (fs.2 j hj fun z => h1 (by rw [z]))
  have e1 : ∀ i : Nat, i < s → TL1__law_half_turn (R.map sp) (i : Int) () = some (.nx ()) := fun i hi => by
    obtain ⟨L, hL, h⟩ := later i (by omega)
    have hne : ¬ L = [] := fun z => by have := h.mp z; omega
    unfold TL1__law_half_turn
    rw [hL, Option.bind_some, if_neg (by simpa using hne)]
  have e2 : TL1__law_half_turn (R.map sp) (s : Int) () = some (.rt ((rot s R).map sp)) := by
    obtain ⟨L, hL, h⟩ := later s hs
    have hL0 := h.mpr rfl
    subst hL0
    unfold TL1__law_half_turn
    rw [hL, Option.bind_some, if_pos (by simp)]
    unfold dropT takeT
    rw [if_pos (by omega), Option.bind_some, if_pos (by omega), Option.bind_some, Int.toNat_natCast, catT_le (by simp; unfold lim; omega), Option.bind_some]
    unfold rot
    rw [List.map_append, List.map_drop, List.map_take]
  unfold T__law_half_turn
  rw [hc, Option.bind_some, List.length_map, rng1T_le (by omega), Option.bind_some, forT_first R.length hs e1 e2]
  rfl
/-- turned twice -/
theorem turn_twice {vs : List Spot} {s t : Nat} (r : Rg vs) (f1 : FirstAt (vs.map negS) s) (f2 : FirstAt ((rot s (vs.map negS)).map negS) t) : rot t ((rot s (vs.map negS)).map negS) = vs := by
  have h3 := r.n3
  have hn : ∀ p : Spot, negS (negS p) = p := fun p => Ge.neg_neg p
  have hl0 : (vs.map negS).length = vs.length := List.length_map _
  have hl1 : (rot s (vs.map negS)).length = vs.length := by rw [Ge.rot_len (by have := f1.1; omega), hl0]
  have hl2 : ((rot s (vs.map negS)).map negS).length = vs.length := by rw [List.length_map, hl1]
  have v1 : ∀ i, pv ((rot s (vs.map negS)).map negS) i = pv vs (i + s) := fun i => by
    rw [Ge.pv_map' _ _ (by omega), Ge.pv_rot f1.1, Ge.pv_map' _ _ (by omega), hn]
  have ft : FirstAt vs ((t + s) % vs.length) := by
    refine ⟨Nat.mod_lt _ (by omega), fun j hj hne => ?_⟩
    rw [Ge.pv_mod]
    have ht := f2.1
    have hs := f1.1
    have := f2.2 ((j + (vs.length - s)) % vs.length) (by rw [hl2]; exact Nat.mod_lt _ (by omega)) (fun e => hne (by
      rw [← e, Nat.mod_add_mod, show j + (vs.length - s) + s = j + vs.length by omega, Nat.add_mod_right, Nat.mod_eq_of_lt hj]))
    rw [v1, v1] at this
    have e : pv vs ((j + (vs.length - s)) % vs.length + s) = pv vs j := Ge.pv_congr (by rw [Nat.mod_add_mod, show j + (vs.length - s) + s = j + vs.length by omega, Nat.add_mod_right])
    rwa [e] at this
  have e0 := ft.uniq r.firstAt
  refine Ge.pv_ext (by rw [Ge.rot_len (by have := f2.1; omega), hl2]) fun i hi => ?_
  rw [Ge.pv_rot f2.1, v1]
  refine Ge.pv_congr ?_
  rw [show i + t + s = i + (t + s) by omega, ← Nat.add_mod_mod, e0, Nat.add_zero]
theorem fr_inv {f : Rat} (h : 0 < f) : ((f.den : Int), f.num) = fr (f⁻¹) := by
  have hn : 0 < f.num := num_pos.mpr h
  have hd : (0 : Int) < f.den := by have := f.den_pos; omega
  obtain ⟨g, k, m, hg, g0, e1, e2, hn2, hd2⟩ := rat_parts (f.den : Int) f.num (by omega)
  have h1 : Int.gcd (f.den : Int) f.num = 1 := by rw [Int.gcd_comm]; exact rat_gcd f
  have g1 : g = 1 := by omega
  subst g1
  rw [if_neg (by omega)] at hn2 hd2
  have e : Rat.divInt (f.den : Int) f.num = f⁻¹ := by
    refine divInt_div (by omega) ?_
    have := rat_num f
    have hf : f ≠ 0 := by grind
    grind
  rw [← e]
  unfold fr
  rw [hn2, hd2]
  simp only [Prod.mk.injEq]
  omega
theorem inv_z {n : Nat} {f : Rat} (h : 0 < f) (hf : Qz n f) : Qz n (f⁻¹) := by
  have e := fr_inv h
  unfold fr at e
  simp only [Prod.mk.injEq] at e
  exact ⟨e.1 ▸ hf.2, e.2 ▸ hf.1⟩
theorem k16_true (ns : List Int) (hl : ns.length ≤ 63) : T_law_k16 ns = some true := by
  obtain ⟨vs, es, rg, hz, hlen⟩ := shape_rg ns 1 12 (by decide) (by decide) (by decide)
  obtain ⟨t, et, zt⟩ := push_ex ns 50 (by decide)
  obtain ⟨n, en, n0, n1⟩ := mixed_ex ns 51 (by decide)
  have c5 := T__law_cell_at_e ns 5
  have c6 := T__law_cell_at_e ns 6
  generalize ns.getD 5 0 = x5 at c5
  generalize ns.getD 6 0 = x6 at c6
  -- the factor
  have mk : ∀ a b : Int, 0 < a → 0 < b → Sz 110 a → Sz 110 b → ∃ f : Rat, ratioT a b = some (fr f) ∧ 0 < f ∧ Qz 110 f := fun a b ha hb za zb => by
    refine ⟨_, ratioT_sz (by omega) (zb.mono (by decide)), ?_, divInt_sz (by omega) za zb⟩
    rw [Rat.divInt_eq_div, Rat.div_def]
    exact Rat.mul_pos (ic_pos.mpr ha) (Rat.inv_pos.mpr (ic_pos.mpr hb))
  have b1 : 0 ≤ n % 20 ∧ n % 20 < 20 := ⟨Int.emod_nonneg _ (by decide), Int.emod_lt_of_pos _ (by decide)⟩
  have b2 : 0 ≤ n / 20 % 20 ∧ n / 20 % 20 < 20 := ⟨Int.emod_nonneg _ (by decide), Int.emod_lt_of_pos _ (by decide)⟩
  have b3 : 0 ≤ x5 % 1000000000000000000000000000000 ∧ x5 % 1000000000000000000000000000000 < 1000000000000000000000000000000 := ⟨Int.emod_nonneg _ (by decide), Int.emod_lt_of_pos _ (by decide)⟩
  have b4 : 0 ≤ x6 % 1000000000 ∧ x6 % 1000000000 < 1000000000 := ⟨Int.emod_nonneg _ (by decide), Int.emod_lt_of_pos _ (by decide)⟩
  have zs : ∀ a : Int, a.natAbs ≤ 1000000000000000000000000000000 → Sz 110 a := fun a h => Nat.lt_of_le_of_lt h (by decide)
  obtain ⟨f1, ef1, p1, z1⟩ := mk (1 + n % 20) (1 + n / 20 % 20) (by omega) (by omega) (zs _ (by omega)) (zs _ (by omega))
  obtain ⟨f2, ef2, p2, z2⟩ := mk (1 + x5 % 1000000000000000000000000000000) (1 + x6 % 1000000000) (by omega) (by omega) (zs _ (by omega)) (zs _ (by omega))
  obtain ⟨f, hf, pf, zf⟩ : ∃ f : Rat, (if decide (n / 400 % 3 = 1) = true then (T__law_cell_at ns 5).bind fun m8 => (T__law_cell_at ns 6).bind fun m9 => (ratioT (1 + m8 % 1000000000000000000000000000000) (1 + m9 % 1000000000)).bind fun m10 => some m10 else some (fr f1)) = some (fr f) ∧ 0 < f ∧ Qz 110 f := by
    by_cases h : n / 400 % 3 = 1
    · refine ⟨f2, ?_, p2, z2⟩
      rw [if_pos (decide_eq_true h), show (5 : Int) = ((5 : Nat) : Int) by rfl, c5, Option.bind_some, show (6 : Int) = ((6 : Nat) : Int) by rfl, c6, Option.bind_some, ef2]; rfl
    · exact ⟨f1, by rw [if_neg (by simpa using h)], p1, z1⟩
  have if_ : Bq f 110 := ⟨zf⟩
  have it := bs zt
  have hl9 : vs.length < 1000 := by omega
  -- moved, greater
  have em : compT (fun x11 : (Int × Int) × (Int × Int) => (T__law_added x11.1 (sp t).1).bind fun m12 => (T__law_added x11.2 (sp t).2).bind fun m13 => some (m12, m13)) (vs.map sp) = some ((vs.map (addS t)).map sp) := comp_sp hl9 fun q hq => by
    have iq := bs (hz q hq)
    simp only [sp_1, sp_2]
    rw [T__law_added_e (by decide), Option.bind_some, T__law_added_e (by decide)]; rfl
  have eg : compT (fun x17 : (Int × Int) × (Int × Int) => (T__law_times x17.1 (fr f)).bind fun m18 => (T__law_times x17.2 (fr f)).bind fun m19 => some (m18, m19)) (vs.map sp) = some ((vs.map (mulS f)).map sp) := comp_sp hl9 fun q hq => by
    have iq := bs (hz q hq)
    simp only [sp_1, sp_2]
    rw [T__law_times_e (by decide), Option.bind_some, T__law_times_e (by decide)]; rfl
  have ep := pushed_e hz zt (by decide) hl9
  have esz := sized_e hz zf pf (by decide) hl9
  have r1 := right16 (vs := vs) (rg_add rg t) (map_z hz fun q h => addS_z zt h) (by decide) (by rw [List.length_map]; omega)
  have r2 := right16 (vs := vs) (rg_mul rg pf) (map_z hz fun q h => mulS_z zf h) (by decide) (by rw [List.length_map]; omega)
  obtain ⟨s, e3, fs, rg3⟩ := turned_e rg hz (by decide) hl9
  have e4 := half_turn_e rg hz (by decide) hl9 fs
  have hzn : ∀ q ∈ vs.map negS, Spz 64 q := map_z hz fun q h => negS_z h
  have hl3 : (rot s (vs.map negS)).length < 1000 := by rw [Ge.rot_len (by have := fs.1; omega), List.length_map]; omega
  have r3 := right16 (vs := vs) rg3 (rot_z hzn) (by decide) hl3
  obtain ⟨s2, e5, fs2, _⟩ := turned_e rg3 (rot_z hzn) (by decide) hl3
  rw [turn_twice rg fs fs2] at e5
  have e6 := sized_e (n := 110) (f := f⁻¹) (vs := vs.map (mulS f)) (map_z hz fun q h => mulS_z zf h) (inv_z pf zf) (Rat.inv_pos.mpr pf) (by decide) (by rw [List.length_map]; omega)
  have e7 : (vs.map (mulS f)).map (mulS f⁻¹) = vs := by
    rw [List.map_map]
    have : mulS f⁻¹ ∘ mulS f = id := by
      funext p
      have hf0 : f ≠ 0 := by grind
      show (p.1 * f * f⁻¹, p.2 * f * f⁻¹) = p
      rw [Rat.mul_assoc, Rat.mul_assoc, Rat.mul_inv_cancel f hf0, Rat.mul_one, Rat.mul_one]
    rw [this, List.map_id]
  rw [e7] at e6
  unfold T_law_k16
  rw [show (1 : Int) = ((1 : Nat) : Int) by rfl, show (12 : Int) = ((12 : Nat) : Int) by rfl, es, Option.bind_some, show (50 : Int) = ((50 : Nat) : Int) by rfl, et, Option.bind_some, show (51 : Int) = ((51 : Nat) : Int) by rfl, en, Option.bind_some]
  rw [show ((1 : Nat) : Int) = 1 by rfl, ef1, Option.bind_some, hf, Option.bind_some, em, Option.bind_some, eg, Option.bind_some, ep, Option.bind_some, r1, Option.bind_some, if_neg (by decide), esz, Option.bind_some, r2, Option.bind_some, if_neg (by decide), e3, Option.bind_some, e4, Option.bind_some, r3, Option.bind_some, if_neg (by decide), Option.bind_some, e5, Option.bind_some, if_pos (decide_eq_true rfl), Option.bind_some]
  simp only [fr_1, fr_2, fr_inv pf, e6, Option.bind_some, decide_true]
end Sp

/-! SPEC19: law k19. -/
namespace Sp
open TL Ty
open Ge (Rg SC V2 pv ed ltV rot FirstAt crs sumN sumS LowAt IsSum ar mid InH)
theorem mulS_scl' (f : Rat) : mulS f = Ge.scl' f (0, 0) := by funext p; unfold mulS Ge.scl'; simp only [Prod.mk.injEq]; constructor <;> grind
theorem addS_scl' (t : Spot) : addS t = Ge.scl' 1 t := by funext p; unfold addS Ge.scl'; simp only [Prod.mk.injEq]; constructor <;> grind
theorem id_scl' : Ge.scl' 1 (0, 0) = id := by funext p; unfold Ge.scl'; exact Prod.ext (by simp only [id]; grind) (by simp only [id]; grind)
theorem mulS_one : mulS 1 = id := by funext p; unfold mulS; simp
theorem addS_zero : addS (0, 0) = id := by funext p; unfold addS; exact Prod.ext (by simp only [id]; grind) (by simp only [id]; grind)
theorem add_zero' (t : Spot) : Ge.add t (0, 0) = t := by unfold Ge.add; exact Prod.ext (by simp only; grind) (by simp only; grind)
theorem sum_push {A B : List Spot} (rA : Rg A) (rB : Rg B) (t : Spot) : sumS (A.map (addS t)) B = (sumS A B).map (addS t) := by
  have is := Ge.sumS_is rA rB
  have h := Ge.sum_scl rA rB (c := 1) (by decide) t (0, 0) (by rw [← addS_scl']; exact rg_add rA t) (by rw [id_scl', List.map_id]; exact rB) (by
    rw [add_zero' t, ← addS_scl']; exact rg_add is.rg t)
  rw [add_zero' t, ← addS_scl', id_scl', List.map_id] at h
  exact h
theorem sum_mul {A B : List Spot} (rA : Rg A) (rB : Rg B) {f : Rat} (h0 : 0 < f) : sumS (A.map (mulS f)) (B.map (mulS f)) = (sumS A B).map (mulS f) := by
  have is := Ge.sumS_is rA rB
  have e : Ge.add ((0, 0) : Spot) (0, 0) = (0, 0) := add_zero' _
  have h := Ge.sum_scl rA rB h0 (0, 0) (0, 0) (by rw [← mulS_scl']; exact rg_mul rA h0) (by rw [← mulS_scl']; exact rg_mul rB h0) (by rw [e, ← mulS_scl']; exact rg_mul is.rg h0)
  rw [e, ← mulS_scl'] at h
  exact h
theorem sum_twice {A : List Spot} (rA : Rg A) : sumS A A = A.map (mulS 2) := by
  have h := Ge.sum_self rA (c := 1) (by decide) (0, 0) (by rw [id_scl', List.map_id]; exact rA) (by
    rw [show (1 : Rat) + 1 = 2 by grind, ← mulS_scl']; exact rg_mul rA (by decide))
  rw [id_scl', List.map_id, show (1 : Rat) + 1 = 2 by grind, ← mulS_scl'] at h
  exact h
/-- a ring and itself, sized and pushed -/
theorem scl_comp (f : Rat) (t : Spot) : addS t ∘ mulS f = Ge.scl' f t := by funext p; unfold addS mulS Ge.scl'; rfl
theorem sum_alike {A : List Spot} (rA : Rg A) {f : Rat} (h0 : 0 < f) (t : Spot) : sumS A ((A.map (mulS f)).map (addS t)) = (A.map (mulS (1 + f))).map (addS t) := by
  have r1 := rg_add (rg_mul rA h0) t
  have r2 := rg_add (rg_mul rA (f := 1 + f) (by grind)) t
  rw [List.map_map, scl_comp] at r1 r2 ⊢
  rw [List.map_map, scl_comp]
  exact Ge.sum_self rA h0 t r1 r2
theorem sum_turn {A B : List Spot} {s u v : Nat} (rA : Rg A) (rB : Rg B) (fA : FirstAt (A.map negS) s) (fB : FirstAt (B.map negS) u) (fS : FirstAt ((sumS A B).map negS) v) :
    sumS (rot s (A.map negS)) (rot u (B.map negS)) = rot v ((sumS A B).map negS) := by
  have is := Ge.sumS_is rA rB
  have hA : 0 < A.length := by have := rA.n3; omega
  have hB : 0 < B.length := by have := rB.n3; omega
  have hS : 0 < (sumS A B).length := by have := is.rg.n3; omega
  have r1 := Rg.of_first rA.sc.neg fA
  have r2 := Rg.of_first rB.sc.neg fB
  have r3 := Rg.of_first is.rg.sc.neg fS
  have i2 := Ge.sumS_is r1 r2
  rw [show negS = Ge.neg from rfl] at fA fB fS ⊢
  have en : ∀ a b : Spot, Ge.add (Ge.neg a) (Ge.neg b) = Ge.neg (Ge.add a b) := fun a b => (Ge.neg_add a b).symm
  refine (i2.uniq r1.sc r2.sc r3 (fun i => ?_) (fun k j => ?_)).symm
  · obtain ⟨k, j, co, _, _⟩ := is.co (i + v)
    refine ⟨Ge.neg (pv A k), Ge.neg (pv B j), ?_, Ge.inH_rot fA.1 (Ge.inH_neg hA (rA.sc.inH k)), Ge.inH_rot fB.1 (Ge.inH_neg hB (rB.sc.inH j))⟩
    rw [Ge.pv_rot fS.1, Ge.pv_map' _ _ hS, co, en]
  · rw [Ge.pv_rot fA.1, Ge.pv_rot fB.1, Ge.pv_map' _ _ hA, Ge.pv_map' _ _ hB, en]
    exact Ge.inH_rot fS.1 (Ge.inH_neg hS (is.inH rA.sc rB.sc (rA.sc.inH _) (rB.sc.inH _)))
/-- the reach of a sum -/
theorem top_sum {A B : List Spot} (rA : Rg A) (rB : Rg B) {a b : Int} {r s u : Rat} (hr : IsTop r (A.map (hgt a b))) (hs : IsTop s (B.map (hgt a b))) (hu : IsTop u ((sumS A B).map (hgt a b))) : u = r + s := by
  have is := Ge.sumS_is rA rB
  have hA : 0 < A.length := by have := rA.n3; omega
  have hB : 0 < B.length := by have := rB.n3; omega
  have hS : 0 < (sumS A B).length := by have := is.rg.n3; omega
  have lin : ∀ p q : Spot, hgt a b (Ge.add p q) = hgt a b p + hgt a b q := fun p q => by unfold hgt Ge.add; grind
  refine Rat.le_antisymm ?_ ?_
  · obtain ⟨q, hq, rfl⟩ := List.mem_map.mp hu.1
    obtain ⟨i, _, rfl⟩ := pv_of_mem hq
    obtain ⟨k, j, co, _, _⟩ := is.co i
    have h1 := hr.2 _ (List.mem_map.mpr ⟨_, pv_mem hA k, rfl⟩)
    have h2 := hs.2 _ (List.mem_map.mpr ⟨_, pv_mem hB j, rfl⟩)
    rw [co, lin]; grind
  · obtain ⟨p, hp, rfl⟩ := List.mem_map.mp hr.1
    obtain ⟨q, hq, rfl⟩ := List.mem_map.mp hs.1
    obtain ⟨k, _, rfl⟩ := pv_of_mem hp
    obtain ⟨j, _, rfl⟩ := pv_of_mem hq
    obtain ⟨i, hi, hl⟩ := Ge.low_ex (sumS A B) (-(b : Rat), (a : Rat)) hS
    have := hl.all is.rg.sc (is.inH rA.sc rB.sc (rA.sc.inH k) (rB.sc.inH j))
    have h3 := hu.2 _ (List.mem_map.mpr ⟨_, pv_mem hS i, rfl⟩)
    rw [← lin]
    unfold hgt at h3 ⊢
    unfold crs Ge.sub at this
    grind
theorem ar_scl {vs : List Spot} (h0 : 0 < vs.length) (c : Rat) (d : Spot) : ar (vs.map (Ge.scl' c d)) = c * c * ar vs := by
  have e : ∀ i, pv (vs.map (Ge.scl' c d)) i = Ge.scl' c d (pv vs i) := fun i => Ge.pv_map' _ _ h0
  have hw : pv (vs.map (Ge.scl' c d)) vs.length = pv (vs.map (Ge.scl' c d)) 0 := by rw [e, e, Ge.pv_wrap]
  unfold ar
  rw [List.length_map, ← Ge.pa_move hw d]
  unfold Ge.pa
  rw [← Ge.sm_mul]
  refine Ge.sm_congr _ fun i _ => ?_
  show crs (Ge.sub (pv (vs.map (Ge.scl' c d)) i) d) (Ge.sub (pv (vs.map (Ge.scl' c d)) (i + 1)) d) = _
  rw [e, e]
  unfold crs Ge.sub Ge.scl'; grind
theorem gap_e {S A B : List Spot} {l m n : Nat} (es : T_summed (A.map sp) (B.map sp) = some (S.map sp)) (dS : T_doubled (S.map sp) = some (fr (ar S)) ∧ Qz l (ar S)) (dA : T_doubled (A.map sp) = some (fr (ar A)) ∧ Qz m (ar A)) (dB : T_doubled (B.map sp) = some (fr (ar B)) ∧ Qz n (ar B)) (hm : 2 * (l + m + n + 2) + (m + n + 3) + 1 ≤ 8900) :
    T__law_gap (A.map sp) (B.map sp) = some (fr ((ar S - (ar A + ar B)) * (ar S - (ar A + ar B)) - 4 * (ar A * ar B))) ∧ Qz 8900 ((ar S - (ar A + ar B)) * (ar S - (ar A + ar B)) - 4 * (ar A * ar B)) := by
  have i1 : Bq (ar S) l := ⟨dS.2⟩
  have i2 : Bq (ar A) m := ⟨dA.2⟩
  have i3 : Bq (ar B) n := ⟨dB.2⟩
  have i4 : Bq (4 : Rat) 3 := ⟨by unfold Qz Sz; decide⟩
  refine ⟨?_, ((inferInstance : Bq ((ar S - (ar A + ar B)) * (ar S - (ar A + ar B)) - 4 * (ar A * ar B)) _).h).mono (by omega)⟩
  unfold T__law_gap
  rw [es, Option.bind_some, dS.1, Option.bind_some, dA.1, Option.bind_some, dB.1, Option.bind_some, T_plus_e (by omega), Option.bind_some, T_minus_e (by omega), Option.bind_some, T_times_e (by omega), Option.bind_some, Option.bind_some, Option.bind_some, T_times_e (by omega), Option.bind_some]
  rw [show (((4 : Int), (1 : Int))) = fr 4 from rfl, T_times_e (by omega), Option.bind_some, T_minus_e (by omega), Option.bind_some]
theorem led_e {A B : List Spot} {t : Spot} {f : Rat} (rA : Rg A) (rB : Rg B) (zA : ∀ q ∈ A, Spz 64 q) (zB : ∀ q ∈ B, Spz 64 q) (lA : A.length ≤ 8) (lB : B.length ≤ 8) (zt : Spz 110 t) (zf : Qz 5 f) (h0 : 0 < f) : T__law_led (A.map sp) (B.map sp) (sp t) (fr f) = some true := by
  have is := Ge.sumS_is rA rB
  have hn := (Ge.sum_facts rA rB).n
  have hSl : (sumS A B).length ≤ 16 := by rw [Ge.sumS_len]; omega
  obtain ⟨e1, z1⟩ := summed_e rA rB zA zB (by decide) (by omega)
  obtain ⟨e2, _⟩ := summed_e rB rA zB zA (by decide) (by omega)
  rw [Ge.sum_comm rA rB] at e2
  have w : ∀ {m n : Nat} {p : Spot}, m ≤ n → Spz m p → Spz n p := fun h z => z.mono h
  -- pushed
  have e3 := pushed_e zA zt (by decide) (by omega)
  obtain ⟨e4, _⟩ := summed_e (n := 175) (rg_add rA t) rB (map_z zA fun q h => addS_z zt h) (fun q hq => (zB q hq).mono (by decide)) (by decide) (by rw [List.length_map]; omega)
  rw [sum_push rA rB] at e4
  have e5 := pushed_e z1 zt (by decide) (by omega)
  -- sized
  have e6 := sized_e zA zf h0 (by decide) (by omega)
  have e7 := sized_e zB zf h0 (by decide) (by omega)
  obtain ⟨e8, _⟩ := summed_e (n := 69) (rg_mul rA h0) (rg_mul rB h0) (map_z zA fun q h => mulS_z zf h) (map_z zB fun q h => mulS_z zf h) (by decide) (by rw [List.length_map, List.length_map]; omega)
  rw [sum_mul rA rB h0] at e8
  have e9 := sized_e z1 zf h0 (by decide) (by omega)
  -- turned
  obtain ⟨s, e10, fA, r10⟩ := turned_e rA zA (by decide) (by omega)
  obtain ⟨u, e11, fB, r11⟩ := turned_e rB zB (by decide) (by omega)
  obtain ⟨v, e12, fS, _⟩ := turned_e is.rg z1 (by decide) (by omega)
  have l10 : (rot s (A.map negS)).length = A.length := by rw [Ge.rot_len (by have := fA.1; omega), List.length_map]
  have l11 : (rot u (B.map negS)).length = B.length := by rw [Ge.rot_len (by have := fB.1; omega), List.length_map]
  obtain ⟨e13, _⟩ := summed_e (n := 64) r10 r11 (rot_z (map_z zA fun q h => negS_z h)) (rot_z (map_z zB fun q h => negS_z h)) (by decide) (by omega)
  rw [sum_turn rA rB fA fB fS] at e13
  -- twice
  obtain ⟨e14, _⟩ := summed_e rA rA zA zA (by decide) (by omega)
  rw [sum_twice rA] at e14
  have e15 := sized_e (f := 2) (n := 2) zA ⟨by unfold Sz; decide, by unfold Sz; decide⟩ (by decide) (by decide) (by omega)
  rw [show fr (2 : Rat) = ((2 : Int), (1 : Int)) from rfl] at e15
  unfold T__law_led
  rw [e1, Option.bind_some, e2, Option.bind_some, if_neg (by simp), e3, Option.bind_some, e4, Option.bind_some, e5, Option.bind_some, Option.bind_some, if_neg (by simp), e6, Option.bind_some, e7, Option.bind_some, e8, Option.bind_some, e9, Option.bind_some, if_neg (by simp), e10, Option.bind_some, e11, Option.bind_some, e13, Option.bind_some, e12, Option.bind_some, if_pos (by simp), e14, Option.bind_some, e15, Option.bind_some]
  simp
theorem k19_true (ns : List Int) (hl : ns.length ≤ 63) : T_law_k19 ns = some true := by
  obtain ⟨A, dA, eA, rA, cA, lA⟩ := shape_cd ns 1 4 (by decide) (by decide) (by decide)
  obtain ⟨B, dB, eB, rB, cB, lB⟩ := shape_cd ns 20 4 (by decide) (by decide) (by decide)
  obtain ⟨C, dC, eC, rC, cC, lC⟩ := shape_cd ns 40 4 (by decide) (by decide) (by decide)
  have zA : ∀ q ∈ A, Spz 64 q := fun q hq => (cA.spz q hq).mono (by decide)
  have zB : ∀ q ∈ B, Spz 64 q := fun q hq => (cB.spz q hq).mono (by decide)
  have zC : ∀ q ∈ C, Spz 64 q := fun q hq => (cC.spz q hq).mono (by decide)
  have hA : 0 < A.length := by have := rA.n3; omega
  have hB : 0 < B.length := by have := rB.n3; omega
  have hC : 0 < C.length := by have := rC.n3; omega
  obtain ⟨t, et, zt⟩ := push_ex ns 50 (by decide)
  obtain ⟨n, en, n0, n1⟩ := mixed_ex ns 51 (by decide)
  have b1 : 0 ≤ n % 20 ∧ n % 20 < 20 := ⟨Int.emod_nonneg _ (by decide), Int.emod_lt_of_pos _ (by decide)⟩
  have b2 : 0 ≤ n / 20 % 20 ∧ n / 20 % 20 < 20 := ⟨Int.emod_nonneg _ (by decide), Int.emod_lt_of_pos _ (by decide)⟩
  have b3 : 0 ≤ n / 400 % 19 ∧ n / 400 % 19 < 19 := ⟨Int.emod_nonneg _ (by decide), Int.emod_lt_of_pos _ (by decide)⟩
  have b4 : 0 ≤ n / 7600 % 9 ∧ n / 7600 % 9 < 9 := ⟨Int.emod_nonneg _ (by decide), Int.emod_lt_of_pos _ (by decide)⟩
  have y1 : Sz 5 (1 + n % 20) := show Int.natAbs _ < 2 ^ 5 by omega
  have y2 : Sz 5 (1 + n / 20 % 20) := show Int.natAbs _ < 2 ^ 5 by omega
  obtain ⟨f, ef, h0, zf⟩ : ∃ f : Rat, ratioT (1 + n % 20) (1 + n / 20 % 20) = some (fr f) ∧ 0 < f ∧ Qz 5 f := by
    refine ⟨_, ratioT_sz (by omega) (y2.mono (by decide)), ?_, divInt_sz (by omega) y1 y2⟩
    rw [Rat.divInt_eq_div, Rat.div_def]
    exact Rat.mul_pos (ic_pos.mpr (by omega)) (Rat.inv_pos.mpr (ic_pos.mpr (by omega)))
  have hled := led_e rA rB zA zB lA lB zt zf h0
  -- sums of sums
  have iAB := Ge.sumS_is rA rB
  have iBC := Ge.sumS_is rB rC
  have iAC := Ge.sumS_is rA rC
  have nAB := (Ge.sum_facts rA rB).n
  have nBC := (Ge.sum_facts rB rC).n
  have nAC := (Ge.sum_facts rA rC).n
  obtain ⟨e1, z1⟩ := summed_e rA rB zA zB (by decide) (by omega)
  obtain ⟨e2, _⟩ := summed_e (n := 129) iAB.rg rC z1 (fun q hq => (zC q hq).mono (by decide)) (by decide) (by rw [Ge.sumS_len]; omega)
  obtain ⟨e3, z3⟩ := summed_e rB rC zB zC (by decide) (by omega)
  obtain ⟨e4, _⟩ := summed_e (n := 129) rA iBC.rg (fun q hq => (zA q hq).mono (by decide)) z3 (by decide) (by rw [Ge.sumS_len]; omega)
  rw [Ge.sum_assoc rA rB rC] at e2
  -- reach
  obtain ⟨e5, z5⟩ := summed_e rA rC zA zC (by decide) (by omega)
  have ya : Sz 5 (n / 400 % 19 - 9) := show Int.natAbs _ < 2 ^ 5 by omega
  have yb : Sz 5 (1 + n / 7600 % 9) := show Int.natAbs _ < 2 ^ 5 by omega
  have nn : ∀ {vs : List Spot}, 0 < vs.length → vs ≠ [] := fun h z => by rw [z] at h; simp at h
  obtain ⟨u, eu, tu, zu⟩ := reach_e ya yb (by decide) (sumS A C) z5 (nn (by rw [Ge.sumS_len]; omega))
  obtain ⟨r, er, tr, zr⟩ := reach_e ya yb (by decide) A zA (nn hA)
  obtain ⟨s, es, ts, zs⟩ := reach_e ya yb (by decide) C zC (nn hC)
  have hu := top_sum rA rC tr ts tu
  have ir : Bq r (5 + 2 * 64 + 1) := ⟨zr⟩
  have is : Bq s (5 + 2 * 64 + 1) := ⟨zs⟩
  -- areas
  have cS := cA.sum cB hA hB
  have hS : 0 < (sumS A B).length := by rw [Ge.sumS_len]; omega
  obtain ⟨a1, q1⟩ := doubled_cd cA hA (by omega) (by decide) (by decide)
  obtain ⟨a2, q2⟩ := doubled_cd cB hB (by omega) (by decide) (by decide)
  obtain ⟨a3, q3⟩ := doubled_cd cS hS (by rw [Ge.sumS_len]; omega) (by decide) (by decide)
  obtain ⟨g1, gz1⟩ := gap_e e1 ⟨a3, q3⟩ ⟨a1, q1⟩ ⟨a2, q2⟩ (by decide)
  have hg1 : ¬ (ar (sumS A B) - (ar A + ar B)) * (ar (sumS A B) - (ar A + ar B)) - 4 * (ar A * ar B) < 0 := by
    have := Ge.mink rA rB
    unfold mid at this
    grind
  -- alike
  have cM := cA.mul zf
  have cP := cM.add zt
  have zM : ∀ q ∈ A.map (mulS f), Spz 69 q := map_z zA fun q h => mulS_z zf h
  have e6 := sized_e zA zf h0 (by decide) (by omega)
  have e7 := pushed_e zM zt (by decide) (by rw [List.length_map]; omega)
  have zP : ∀ q ∈ (A.map (mulS f)).map (addS t), Spz 180 q := map_z zM fun q h => addS_z zt h
  obtain ⟨e8, _⟩ := summed_e (n := 180) rA (rg_add (rg_mul rA h0) t) (fun q hq => (zA q hq).mono (by decide)) zP (by decide) (by rw [List.length_map, List.length_map]; omega)
  rw [sum_alike rA h0] at e8
  have zf1 : Qz 7 (1 + f) := (Qz_add (Bq.one.h) zf).mono (by decide)
  have cQ := (cA.mul zf1).add zt
  have lm : ∀ g : Spot → Spot, ((A.map g).map (addS t)).length = A.length := fun g => by rw [List.length_map, List.length_map]
  obtain ⟨a4, q4⟩ := doubled_cd cP (by rw [lm]; exact hA) (by rw [lm]; omega) (by decide) (by decide)
  obtain ⟨a5, q5⟩ := doubled_cd cQ (by rw [lm]; exact hA) (by rw [lm]; omega) (by decide) (by decide)
  have ar1 : ar ((A.map (mulS f)).map (addS t)) = f * f * ar A := by rw [List.map_map, scl_comp]; exact ar_scl hA f t
  have ar2 : ar ((A.map (mulS (1 + f))).map (addS t)) = (1 + f) * (1 + f) * ar A := by rw [List.map_map, scl_comp]; exact ar_scl hA (1 + f) t
  obtain ⟨g2, gz2⟩ := gap_e e8 ⟨a5, q5⟩ ⟨a1, q1⟩ ⟨a4, q4⟩ (by decide)
  have hg2 : (ar ((A.map (mulS (1 + f))).map (addS t)) - (ar A + ar ((A.map (mulS f)).map (addS t)))) * (ar ((A.map (mulS (1 + f))).map (addS t)) - (ar A + ar ((A.map (mulS f)).map (addS t)))) - 4 * (ar A * ar ((A.map (mulS f)).map (addS t))) = 0 := by
    rw [ar1, ar2]; grind
  rw [hg2] at g2
  have ig : Bq ((ar (sumS A B) - (ar A + ar B)) * (ar (sumS A B) - (ar A + ar B)) - 4 * (ar A * ar B)) 8900 := ⟨gz1⟩
  unfold T_law_k19
  rw [show (1 : Int) = ((1 : Nat) : Int) by rfl, show (4 : Int) = ((4 : Nat) : Int) by rfl, eA, Option.bind_some, show (20 : Int) = ((20 : Nat) : Int) by rfl, eB, Option.bind_some, show (40 : Int) = ((40 : Nat) : Int) by rfl, eC, Option.bind_some, show (50 : Int) = ((50 : Nat) : Int) by rfl, et, Option.bind_some, show (51 : Int) = ((51 : Nat) : Int) by rfl, en, Option.bind_some]
  rw [show ((1 : Nat) : Int) = 1 by rfl, show ((20 : Nat) : Int) = 20 by rfl, ef, Option.bind_some, hled, Option.bind_some, if_neg (by decide), e1, Option.bind_some, e2, Option.bind_some, e3, Option.bind_some, e4, Option.bind_some, if_neg (by simp), Option.bind_some, Option.bind_some, e5, Option.bind_some, eu, Option.bind_some, er, Option.bind_some, es, Option.bind_some, T_plus_e (by decide), Option.bind_some, if_neg (by rw [hu]; simp), g1, Option.bind_some, fr_zero, T_below_e (n := 1) (by decide), Option.bind_some, if_neg (by simpa using hg1), e6, Option.bind_some, e7, Option.bind_some, g2, Option.bind_some]
  simp
end Sp

noncomputable section
namespace Lw
open PySem PySem.Spec PyProof.Rows L2 DL
def top (i : Nat) : Stmt := PySem.Challenge.pw_snugfit_k19_whole_sums_of_sums.main.body.getD i (.Pass ⟨0, 0, 0, 0⟩)
abbrev s_divisor : Stmt := top 5
abbrev s_ratio : Stmt := top 6
abbrev s_plus : Stmt := top 7
abbrev s_minus : Stmt := top 8
abbrev s_times : Stmt := top 9
abbrev s_below : Stmt := top 10
abbrev s_flat : Stmt := top 12
abbrev s_doubled : Stmt := top 13
abbrev s_reach : Stmt := top 14
abbrev s_pushed : Stmt := top 16
abbrev s_sized : Stmt := top 17
abbrev s_comes_ahead : Stmt := top 18
abbrev s_turned : Stmt := top 19
abbrev s_ways_of : Stmt := top 20
abbrev s_to_left : Stmt := top 21
abbrev s_merged : Stmt := top 22
abbrev s_summed : Stmt := top 23
abbrev s__law_cell_at : Stmt := top 25
abbrev s__law_whole : Stmt := top 26
abbrev s__law_block : Stmt := top 27
abbrev s__law_mixed : Stmt := top 28
abbrev s__law_divisor : Stmt := top 29
abbrev s__law_lowest : Stmt := top 30
abbrev s__law_is_fraction : Stmt := top 31
abbrev s__law_points : Stmt := top 32
abbrev s__law_turn : Stmt := top 33
abbrev s__law_ring : Stmt := top 34
abbrev s__law_shape : Stmt := top 35
abbrev s__law_push : Stmt := top 36
abbrev s__law_gap : Stmt := top 37
abbrev s__law_led : Stmt := top 38
abbrev s_law : Stmt := top 39
abbrev FnP (K : PySem.W.Frag) (x : Str) (st : Stmt) (f : Addr) (fd : FuncData) : Prop := FunD K x x (defArgs st) (defBody st) (defScope st) [] [] f fd
structure Top (K : PySem.W.Frag) (mg : Str → Option Value) : Prop where
  d_divisor : ∃ (fa : Addr) (fd : FuncData), mg "divisor" = some (.ref fa) ∧ PySem.W.keepIn K (.ref fa) = true ∧ FnP K "divisor" s_divisor fa fd
  d_ratio : ∃ (fa : Addr) (fd : FuncData), mg "ratio" = some (.ref fa) ∧ PySem.W.keepIn K (.ref fa) = true ∧ FnP K "ratio" s_ratio fa fd
  d_plus : ∃ (fa : Addr) (fd : FuncData), mg "plus" = some (.ref fa) ∧ PySem.W.keepIn K (.ref fa) = true ∧ FnP K "plus" s_plus fa fd
  d_minus : ∃ (fa : Addr) (fd : FuncData), mg "minus" = some (.ref fa) ∧ PySem.W.keepIn K (.ref fa) = true ∧ FnP K "minus" s_minus fa fd
  d_times : ∃ (fa : Addr) (fd : FuncData), mg "times" = some (.ref fa) ∧ PySem.W.keepIn K (.ref fa) = true ∧ FnP K "times" s_times fa fd
  d_below : ∃ (fa : Addr) (fd : FuncData), mg "below" = some (.ref fa) ∧ PySem.W.keepIn K (.ref fa) = true ∧ FnP K "below" s_below fa fd
  d_flat : ∃ (fa : Addr) (fd : FuncData), mg "flat" = some (.ref fa) ∧ PySem.W.keepIn K (.ref fa) = true ∧ FnP K "flat" s_flat fa fd
  d_doubled : ∃ (fa : Addr) (fd : FuncData), mg "doubled" = some (.ref fa) ∧ PySem.W.keepIn K (.ref fa) = true ∧ FnP K "doubled" s_doubled fa fd
  d_reach : ∃ (fa : Addr) (fd : FuncData), mg "reach" = some (.ref fa) ∧ PySem.W.keepIn K (.ref fa) = true ∧ FnP K "reach" s_reach fa fd
  d_pushed : ∃ (fa : Addr) (fd : FuncData), mg "pushed" = some (.ref fa) ∧ PySem.W.keepIn K (.ref fa) = true ∧ FnP K "pushed" s_pushed fa fd
  d_sized : ∃ (fa : Addr) (fd : FuncData), mg "sized" = some (.ref fa) ∧ PySem.W.keepIn K (.ref fa) = true ∧ FnP K "sized" s_sized fa fd
  d_comes_ahead : ∃ (fa : Addr) (fd : FuncData), mg "comes_ahead" = some (.ref fa) ∧ PySem.W.keepIn K (.ref fa) = true ∧ FnP K "comes_ahead" s_comes_ahead fa fd
  d_turned : ∃ (fa : Addr) (fd : FuncData), mg "turned" = some (.ref fa) ∧ PySem.W.keepIn K (.ref fa) = true ∧ FnP K "turned" s_turned fa fd
  d_ways_of : ∃ (fa : Addr) (fd : FuncData), mg "ways_of" = some (.ref fa) ∧ PySem.W.keepIn K (.ref fa) = true ∧ FnP K "ways_of" s_ways_of fa fd
  d_to_left : ∃ (fa : Addr) (fd : FuncData), mg "to_left" = some (.ref fa) ∧ PySem.W.keepIn K (.ref fa) = true ∧ FnP K "to_left" s_to_left fa fd
  d_merged : ∃ (fa : Addr) (fd : FuncData), mg "merged" = some (.ref fa) ∧ PySem.W.keepIn K (.ref fa) = true ∧ FnP K "merged" s_merged fa fd
  d_summed : ∃ (fa : Addr) (fd : FuncData), mg "summed" = some (.ref fa) ∧ PySem.W.keepIn K (.ref fa) = true ∧ FnP K "summed" s_summed fa fd
  d__law_cell_at : ∃ (fa : Addr) (fd : FuncData), mg "_law_cell_at" = some (.ref fa) ∧ PySem.W.keepIn K (.ref fa) = true ∧ FnP K "_law_cell_at" s__law_cell_at fa fd
  d__law_whole : ∃ (fa : Addr) (fd : FuncData), mg "_law_whole" = some (.ref fa) ∧ PySem.W.keepIn K (.ref fa) = true ∧ FnP K "_law_whole" s__law_whole fa fd
  d__law_block : ∃ (fa : Addr) (fd : FuncData), mg "_law_block" = some (.ref fa) ∧ PySem.W.keepIn K (.ref fa) = true ∧ FnP K "_law_block" s__law_block fa fd
  d__law_mixed : ∃ (fa : Addr) (fd : FuncData), mg "_law_mixed" = some (.ref fa) ∧ PySem.W.keepIn K (.ref fa) = true ∧ FnP K "_law_mixed" s__law_mixed fa fd
  d__law_divisor : ∃ (fa : Addr) (fd : FuncData), mg "_law_divisor" = some (.ref fa) ∧ PySem.W.keepIn K (.ref fa) = true ∧ FnP K "_law_divisor" s__law_divisor fa fd
  d__law_lowest : ∃ (fa : Addr) (fd : FuncData), mg "_law_lowest" = some (.ref fa) ∧ PySem.W.keepIn K (.ref fa) = true ∧ FnP K "_law_lowest" s__law_lowest fa fd
  d__law_is_fraction : ∃ (fa : Addr) (fd : FuncData), mg "_law_is_fraction" = some (.ref fa) ∧ PySem.W.keepIn K (.ref fa) = true ∧ FnP K "_law_is_fraction" s__law_is_fraction fa fd
  d__law_points : ∃ (fa : Addr) (fd : FuncData), mg "_law_points" = some (.ref fa) ∧ PySem.W.keepIn K (.ref fa) = true ∧ FnP K "_law_points" s__law_points fa fd
  d__law_turn : ∃ (fa : Addr) (fd : FuncData), mg "_law_turn" = some (.ref fa) ∧ PySem.W.keepIn K (.ref fa) = true ∧ FnP K "_law_turn" s__law_turn fa fd
  d__law_ring : ∃ (fa : Addr) (fd : FuncData), mg "_law_ring" = some (.ref fa) ∧ PySem.W.keepIn K (.ref fa) = true ∧ FnP K "_law_ring" s__law_ring fa fd
  d__law_shape : ∃ (fa : Addr) (fd : FuncData), mg "_law_shape" = some (.ref fa) ∧ PySem.W.keepIn K (.ref fa) = true ∧ FnP K "_law_shape" s__law_shape fa fd
  d__law_push : ∃ (fa : Addr) (fd : FuncData), mg "_law_push" = some (.ref fa) ∧ PySem.W.keepIn K (.ref fa) = true ∧ FnP K "_law_push" s__law_push fa fd
  d__law_gap : ∃ (fa : Addr) (fd : FuncData), mg "_law_gap" = some (.ref fa) ∧ PySem.W.keepIn K (.ref fa) = true ∧ FnP K "_law_gap" s__law_gap fa fd
  d__law_led : ∃ (fa : Addr) (fd : FuncData), mg "_law_led" = some (.ref fa) ∧ PySem.W.keepIn K (.ref fa) = true ∧ FnP K "_law_led" s__law_led fa fd
  d_law : ∃ (fa : Addr) (fd : FuncData), mg "law" = some (.ref fa) ∧ PySem.W.keepIn K (.ref fa) = true ∧ FnP K "law" s_law fa fd
  b_abs : mg "abs" = none
  b_bool : mg "bool" = none
  b_int : mg "int" = none
  b_isinstance : mg "isinstance" = none
  b_len : mg "len" = none
  b_list : mg "list" = none
  b_min : mg "min" = none
  b_range : mg "range" = none
  b_reversed : mg "reversed" = none
  b_set : mg "set" = none
  b_sorted : mg "sorted" = none
  b_tuple : mg "tuple" = none
/-! ### divisor -/
def N_divisor : List Str := ["one", "other"]
def L1_divisor : SF := (parF 0 1 (vE 1) (o2 modD (vE 0) (vE 1)))
def C1_divisor : BF := (tb (o2 gtD (vE 1) (cE (.int 0))))
def B_divisor : SF := (seqF (setF 0 (o1 absD (vE 0))) (seqF (setF 1 (o1 absD (vE 1))) (seqF (whileF (fun ρ => natAt ρ 1) C1_divisor L1_divisor) (retF (vE 0)))))
def F_divisor : List D → Option D := bodyFn false 2 B_divisor
theorem sc_divisor : FnScope N_divisor ["one", "other"] (defScope s_divisor) := ⟨rfl, rfl, rfl, by decide +kernel, rfl, by decide +kernel, by decide +kernel⟩
theorem ok_divisor {P : Program} {w : World} {K : PySem.W.Frag} {mg : Str → Option Value} (T : Top K mg) : DefOk P w K mg "divisor" 1 ["one", "other"] false F_divisor := by
  obtain ⟨fa, fd, hm, hk, hF⟩ := T.d_divisor
  have S := sc_divisor
  refine ⟨fa, fd, hm, hk, FunD.bindsA hF (fun _ _ _ _ _ _ us hl => match us, hl with | [_, _], _ => rfl), fun base => ?_⟩
  refine fn_ok (N := N_divisor) (own := false) (O' := []) (b := B_divisor) hF S (fun cdv A outer s H E hr => ?_) (by rfl)
  exact (dss_cons (s_set 0 S.nd (e_abs (e_v 0) T.b_abs)) (dss_cons (s_set 1 S.nd (e_abs (e_v 1) T.b_abs)) (dss_cons (s_while (fun ρ => natAt ρ 1) (t_cmp (dc_gt (e_v 1) de_int)) (dss_one (s_par 0 1 S.nd (e_v 1) (de_mod (e_v 0) (e_v 1))))) (dss_one (ds_ret (e_v 0))))))
/-! ### ratio -/
def N_ratio : List Str := ["top", "bottom", "by"]
def B_ratio : SF := (seqF (ifF (tb (o2 eqD (vE 1) (cE (.int 0)))) neverF skipF) (seqF (setF 2 (callE F_divisor (consA (vE 0) (consA (vE 1) nilA)))) (seqF (ifF (tb (o2 ltD (vE 1) (cE (.int 0)))) (setF 2 (o2 subD (cE (.int 0)) (vE 2))) skipF) (retF (tupE (consA (o2 fdivD (vE 0) (vE 2)) (consA (o2 fdivD (vE 1) (vE 2)) nilA)))))))
def F_ratio : List D → Option D := bodyFn false 3 B_ratio
theorem sc_ratio : FnScope N_ratio ["top", "bottom"] (defScope s_ratio) := ⟨rfl, rfl, rfl, by decide +kernel, rfl, by decide +kernel, by decide +kernel⟩
theorem ok_ratio {P : Program} {w : World} {K : PySem.W.Frag} {mg : Str → Option Value} (T : Top K mg) (ok_divisor : DefOk P w K mg "divisor" 1 ["one", "other"] false F_divisor) : DefOk P w K mg "ratio" 2 ["top", "bottom"] false F_ratio := by
  obtain ⟨fa, fd, hm, hk, hF⟩ := T.d_ratio
  have S := sc_ratio
  refine ⟨fa, fd, hm, hk, FunD.bindsA hF (fun _ _ _ _ _ _ us hl => match us, hl with | [_, _], _ => rfl), fun base => ?_⟩
  refine fn_ok (N := N_ratio) (own := false) (O' := []) (b := B_ratio) hF S (fun cdv A outer s H E hr => ?_) (by rfl)
  exact (dss_cons (ds_if (t_cmp (c_eq hr (r_v 1) (DE_r de_int))) (dss_one ds_never) dss_nil) (dss_cons (s_set 2 S.nd (e_call ok_divisor hr rfl (da_cons (e_v 0) (da_cons (e_v 1) da_nil)))) (dss_cons (ds_if (t_cmp (dc_lt (e_v 1) de_int)) (dss_one (s_set 2 S.nd (de_sub de_int (e_v 2)))) dss_nil) (dss_one (ds_ret (de_tup (da_cons (de_fdiv (e_v 0) (e_v 2)) (da_cons (de_fdiv (e_v 1) (e_v 2)) da_nil))))))))
/-! ### plus -/
def N_plus : List Str := ["one", "other"]
def B_plus : SF := (retF (callE F_ratio (consA (o2 addD (o2 mulD (o2 ixD (vE 0) (cE (.int 0))) (o2 ixD (vE 1) (cE (.int 1)))) (o2 mulD (o2 ixD (vE 1) (cE (.int 0))) (o2 ixD (vE 0) (cE (.int 1))))) (consA (o2 mulD (o2 ixD (vE 0) (cE (.int 1))) (o2 ixD (vE 1) (cE (.int 1)))) nilA))))
def F_plus : List D → Option D := bodyFn false 2 B_plus
theorem sc_plus : FnScope N_plus ["one", "other"] (defScope s_plus) := ⟨rfl, rfl, rfl, by decide +kernel, rfl, by decide +kernel, by decide +kernel⟩
theorem ok_plus {P : Program} {w : World} {K : PySem.W.Frag} {mg : Str → Option Value} (T : Top K mg) (ok_ratio : DefOk P w K mg "ratio" 2 ["top", "bottom"] false F_ratio) : DefOk P w K mg "plus" 3 ["one", "other"] false F_plus := by
  obtain ⟨fa, fd, hm, hk, hF⟩ := T.d_plus
  have S := sc_plus
  refine ⟨fa, fd, hm, hk, FunD.bindsA hF (fun _ _ _ _ _ _ us hl => match us, hl with | [_, _], _ => rfl), fun base => ?_⟩
  refine fn_ok (N := N_plus) (own := false) (O' := []) (b := B_plus) hF S (fun cdv A outer s H E hr => ?_) (by rfl)
  exact (dss_one (ds_ret (e_call ok_ratio hr rfl (da_cons (de_add (de_mul (de_ix (r_v 0) de_int) (de_ix (r_v 1) de_int)) (de_mul (de_ix (r_v 1) de_int) (de_ix (r_v 0) de_int))) (da_cons (de_mul (de_ix (r_v 0) de_int) (de_ix (r_v 1) de_int)) da_nil)))))
/-! ### minus -/
def N_minus : List Str := ["one", "other"]
def B_minus : SF := (retF (callE F_ratio (consA (o2 subD (o2 mulD (o2 ixD (vE 0) (cE (.int 0))) (o2 ixD (vE 1) (cE (.int 1)))) (o2 mulD (o2 ixD (vE 1) (cE (.int 0))) (o2 ixD (vE 0) (cE (.int 1))))) (consA (o2 mulD (o2 ixD (vE 0) (cE (.int 1))) (o2 ixD (vE 1) (cE (.int 1)))) nilA))))
def F_minus : List D → Option D := bodyFn false 2 B_minus
theorem sc_minus : FnScope N_minus ["one", "other"] (defScope s_minus) := ⟨rfl, rfl, rfl, by decide +kernel, rfl, by decide +kernel, by decide +kernel⟩
theorem ok_minus {P : Program} {w : World} {K : PySem.W.Frag} {mg : Str → Option Value} (T : Top K mg) (ok_ratio : DefOk P w K mg "ratio" 2 ["top", "bottom"] false F_ratio) : DefOk P w K mg "minus" 3 ["one", "other"] false F_minus := by
  obtain ⟨fa, fd, hm, hk, hF⟩ := T.d_minus
  have S := sc_minus
  refine ⟨fa, fd, hm, hk, FunD.bindsA hF (fun _ _ _ _ _ _ us hl => match us, hl with | [_, _], _ => rfl), fun base => ?_⟩
  refine fn_ok (N := N_minus) (own := false) (O' := []) (b := B_minus) hF S (fun cdv A outer s H E hr => ?_) (by rfl)
  exact (dss_one (ds_ret (e_call ok_ratio hr rfl (da_cons (de_sub (de_mul (de_ix (r_v 0) de_int) (de_ix (r_v 1) de_int)) (de_mul (de_ix (r_v 1) de_int) (de_ix (r_v 0) de_int))) (da_cons (de_mul (de_ix (r_v 0) de_int) (de_ix (r_v 1) de_int)) da_nil)))))
/-! ### times -/
def N_times : List Str := ["one", "other"]
def B_times : SF := (retF (callE F_ratio (consA (o2 mulD (o2 ixD (vE 0) (cE (.int 0))) (o2 ixD (vE 1) (cE (.int 0)))) (consA (o2 mulD (o2 ixD (vE 0) (cE (.int 1))) (o2 ixD (vE 1) (cE (.int 1)))) nilA))))
def F_times : List D → Option D := bodyFn false 2 B_times
theorem sc_times : FnScope N_times ["one", "other"] (defScope s_times) := ⟨rfl, rfl, rfl, by decide +kernel, rfl, by decide +kernel, by decide +kernel⟩
theorem ok_times {P : Program} {w : World} {K : PySem.W.Frag} {mg : Str → Option Value} (T : Top K mg) (ok_ratio : DefOk P w K mg "ratio" 2 ["top", "bottom"] false F_ratio) : DefOk P w K mg "times" 3 ["one", "other"] false F_times := by
  obtain ⟨fa, fd, hm, hk, hF⟩ := T.d_times
  have S := sc_times
  refine ⟨fa, fd, hm, hk, FunD.bindsA hF (fun _ _ _ _ _ _ us hl => match us, hl with | [_, _], _ => rfl), fun base => ?_⟩
  refine fn_ok (N := N_times) (own := false) (O' := []) (b := B_times) hF S (fun cdv A outer s H E hr => ?_) (by rfl)
  exact (dss_one (ds_ret (e_call ok_ratio hr rfl (da_cons (de_mul (de_ix (r_v 0) de_int) (de_ix (r_v 1) de_int)) (da_cons (de_mul (de_ix (r_v 0) de_int) (de_ix (r_v 1) de_int)) da_nil)))))
/-! ### below -/
def N_below : List Str := ["one", "other"]
def B_below : SF := (retF (o2 ltD (o2 mulD (o2 ixD (vE 0) (cE (.int 0))) (o2 ixD (vE 1) (cE (.int 1)))) (o2 mulD (o2 ixD (vE 1) (cE (.int 0))) (o2 ixD (vE 0) (cE (.int 1))))))
def F_below : List D → Option D := bodyFn false 2 B_below
theorem sc_below : FnScope N_below ["one", "other"] (defScope s_below) := ⟨rfl, rfl, rfl, by decide +kernel, rfl, by decide +kernel, by decide +kernel⟩
theorem ok_below {P : Program} {w : World} {K : PySem.W.Frag} {mg : Str → Option Value} (T : Top K mg) : DefOk P w K mg "below" 1 ["one", "other"] false F_below := by
  obtain ⟨fa, fd, hm, hk, hF⟩ := T.d_below
  have S := sc_below
  refine ⟨fa, fd, hm, hk, FunD.bindsA hF (fun _ _ _ _ _ _ us hl => match us, hl with | [_, _], _ => rfl), fun base => ?_⟩
  refine fn_ok (N := N_below) (own := false) (O' := []) (b := B_below) hF S (fun cdv A outer s H E hr => ?_) (by rfl)
  exact (dss_one (ds_ret (e_cmp (dc_lt (de_mul (de_ix (r_v 0) de_int) (de_ix (r_v 1) de_int)) (de_mul (de_ix (r_v 1) de_int) (de_ix (r_v 0) de_int))))))
/-! ### flat -/
def N_flat : List Str := ["spot", "x", "y"]
def B_flat : SF := (seqF (asgF (vE 0) (tupG 2 (consG (nameG 1) (consG (nameG 2) nilG)))) (retF (tupE (consA (o2 mulD (o2 ixD (vE 1) (cE (.int 0))) (o2 ixD (vE 2) (cE (.int 1)))) (consA (o2 mulD (o2 ixD (vE 2) (cE (.int 0))) (o2 ixD (vE 1) (cE (.int 1)))) (consA (o2 mulD (o2 ixD (vE 1) (cE (.int 1))) (o2 ixD (vE 2) (cE (.int 1)))) nilA))))))
def F_flat : List D → Option D := bodyFn false 3 B_flat
theorem sc_flat : FnScope N_flat ["spot"] (defScope s_flat) := ⟨rfl, rfl, rfl, by decide +kernel, rfl, by decide +kernel, by decide +kernel⟩
theorem ok_flat {P : Program} {w : World} {K : PySem.W.Frag} {mg : Str → Option Value} (T : Top K mg) : DefOk P w K mg "flat" 1 ["spot"] false F_flat := by
  obtain ⟨fa, fd, hm, hk, hF⟩ := T.d_flat
  have S := sc_flat
  refine ⟨fa, fd, hm, hk, FunD.bindsA hF (fun _ _ _ _ _ _ us hl => match us, hl with | [_], _ => rfl), fun base => ?_⟩
  refine fn_ok (N := N_flat) (own := false) (O' := []) (b := B_flat) hF S (fun cdv A outer s H E hr => ?_) (by rfl)
  exact (dss_cons (s_asg (e_v 0) (gs_cons (g_name 1 S.nd) (gs_cons (g_name 2 S.nd) gs_nil))) (dss_one (ds_ret (de_tup (da_cons (de_mul (de_ix (r_v 1) de_int) (de_ix (r_v 2) de_int)) (da_cons (de_mul (de_ix (r_v 2) de_int) (de_ix (r_v 1) de_int)) (da_cons (de_mul (de_ix (r_v 1) de_int) (de_ix (r_v 2) de_int)) da_nil)))))))
/-! ### doubled -/
def N_doubled : List Str := ["shape", "total", "k", "one", "other"]
def L1_doubled : SF := (seqF (setF 3 (o2 ixD (vE 0) (o2 subD (vE 2) (cE (.int 1))))) (seqF (setF 4 (o2 ixD (vE 0) (vE 2))) (setF 1 (callE F_plus (consA (vE 1) (consA (callE F_minus (consA (callE F_times (consA (o2 ixD (vE 3) (cE (.int 0))) (consA (o2 ixD (vE 4) (cE (.int 1))) nilA))) (consA (callE F_times (consA (o2 ixD (vE 3) (cE (.int 1))) (consA (o2 ixD (vE 4) (cE (.int 0))) nilA))) nilA))) nilA))))))
def B_doubled : SF := (seqF (setF 1 (tupE (consA (cE (.int 0)) (consA (cE (.int 1)) nilA)))) (seqF (forF (rng1F (o1 lenD (vE 0))) (nameG 2) L1_doubled) (retF (vE 1))))
def F_doubled : List D → Option D := bodyFn false 5 B_doubled
theorem sc_doubled : FnScope N_doubled ["shape"] (defScope s_doubled) := ⟨rfl, rfl, rfl, by decide +kernel, rfl, by decide +kernel, by decide +kernel⟩
theorem ok_doubled {P : Program} {w : World} {K : PySem.W.Frag} {mg : Str → Option Value} (T : Top K mg) (ok_plus : DefOk P w K mg "plus" 3 ["one", "other"] false F_plus) (ok_minus : DefOk P w K mg "minus" 3 ["one", "other"] false F_minus) (ok_times : DefOk P w K mg "times" 3 ["one", "other"] false F_times) : DefOk P w K mg "doubled" 4 ["shape"] false F_doubled := by
  obtain ⟨fa, fd, hm, hk, hF⟩ := T.d_doubled
  have S := sc_doubled
  refine ⟨fa, fd, hm, hk, FunD.bindsA hF (fun _ _ _ _ _ _ us hl => match us, hl with | [_], _ => rfl), fun base => ?_⟩
  refine fn_ok (N := N_doubled) (own := false) (O' := []) (b := B_doubled) hF S (fun cdv A outer s H E hr => ?_) (by rfl)
  exact (dss_cons (s_set 1 S.nd (de_tup (da_cons de_int (da_cons de_int da_nil)))) (dss_cons (s_for (i_rng1 (e_len (r_v 0) T.b_len) T.b_range) (g_name 2 S.nd) (dss_cons (s_set 3 S.nd (de_ix (r_v 0) (de_sub (e_v 2) de_int))) (dss_cons (s_set 4 S.nd (de_ix (r_v 0) (e_v 2))) (dss_one (s_set 1 S.nd (e_call ok_plus hr rfl (da_cons (e_v 1) (da_cons (e_call ok_minus hr rfl (da_cons (e_call ok_times hr rfl (da_cons (de_ix (r_v 3) de_int) (da_cons (de_ix (r_v 4) de_int) da_nil))) (da_cons (e_call ok_times hr rfl (da_cons (de_ix (r_v 3) de_int) (da_cons (de_ix (r_v 4) de_int) da_nil))) da_nil))) da_nil)))))))) (dss_one (ds_ret (e_v 1)))))
/-! ### reach -/
def N_reach : List Str := ["shape", "a", "b", "found", "spot", "x", "y", "bottom", "height"]
def L1_reach : SF := (seqF (asgF (callE F_flat (consA (vE 4) nilA)) (tupG 3 (consG (nameG 5) (consG (nameG 6) (consG (nameG 7) nilG))))) (seqF (setF 8 (callE F_ratio (consA (o2 addD (o2 mulD (vE 1) (vE 5)) (o2 mulD (vE 2) (vE 6))) (consA (vE 7) nilA)))) (ifF (orB (tb (o2 isD (vE 3) (cE .none))) (tb (callE F_below (consA (vE 3) (consA (vE 8) nilA))))) (setF 3 (vE 8)) skipF)))
def B_reach : SF := (seqF (setF 3 (cE .none)) (seqF (forF (itemsF (vE 0)) (nameG 4) L1_reach) (retF (vE 3))))
def F_reach : List D → Option D := bodyFn false 9 B_reach
theorem sc_reach : FnScope N_reach ["shape", "a", "b"] (defScope s_reach) := ⟨rfl, rfl, rfl, by decide +kernel, rfl, by decide +kernel, by decide +kernel⟩
theorem ok_reach {P : Program} {w : World} {K : PySem.W.Frag} {mg : Str → Option Value} (T : Top K mg) (ok_ratio : DefOk P w K mg "ratio" 2 ["top", "bottom"] false F_ratio) (ok_below : DefOk P w K mg "below" 1 ["one", "other"] false F_below) (ok_flat : DefOk P w K mg "flat" 1 ["spot"] false F_flat) : DefOk P w K mg "reach" 3 ["shape", "a", "b"] false F_reach := by
  obtain ⟨fa, fd, hm, hk, hF⟩ := T.d_reach
  have S := sc_reach
  refine ⟨fa, fd, hm, hk, FunD.bindsA hF (fun _ _ _ _ _ _ us hl => match us, hl with | [_, _, _], _ => rfl), fun base => ?_⟩
  refine fn_ok (N := N_reach) (own := false) (O' := []) (b := B_reach) hF S (fun cdv A outer s H E hr => ?_) (by rfl)
  exact (dss_cons (s_set 3 S.nd de_non) (dss_cons (s_for (i_list (e_v 0)) (g_name 4 S.nd) (dss_cons (s_asg (e_call ok_flat hr rfl (da_cons (e_v 4) da_nil)) (gs_cons (g_name 5 S.nd) (gs_cons (g_name 6 S.nd) (gs_cons (g_name 7 S.nd) gs_nil)))) (dss_cons (s_set 8 S.nd (e_call ok_ratio hr rfl (da_cons (de_add (de_mul (e_v 1) (e_v 5)) (de_mul (e_v 2) (e_v 6))) (da_cons (e_v 7) da_nil)))) (dss_one (ds_if (dw_t (dw_or (t_cmp (dc_is (e_v 3) de_non)) (dw_or1 (dt_val (e_call ok_below hr rfl (da_cons (e_v 3) (da_cons (e_v 8) da_nil))))))) (dss_one (s_set 3 S.nd (e_v 8))) dss_nil))))) (dss_one (ds_ret (e_v 3)))))
/-! ### pushed -/
def N_pushed : List Str := ["shape", "push", "x", "y"]
def B_pushed : SF := (retL (compA [2, 3] (itemsF (vE 0)) (tupG 2 (consG (nameG 2) (consG (nameG 3) nilG))) yesB (tupE (consA (callE F_plus (consA (vE 2) (consA (o2 ixD (vE 1) (cE (.int 0))) nilA))) (consA (callE F_plus (consA (vE 3) (consA (o2 ixD (vE 1) (cE (.int 1))) nilA))) nilA)))))
def F_pushed : List D → Option D := bodyFn true 4 B_pushed
theorem sc_pushed : FnScope N_pushed ["shape", "push"] (defScope s_pushed) := ⟨rfl, rfl, rfl, by decide +kernel, rfl, by decide +kernel, by decide +kernel⟩
theorem ok_pushed {P : Program} {w : World} {K : PySem.W.Frag} {mg : Str → Option Value} (T : Top K mg) (ok_plus : DefOk P w K mg "plus" 3 ["one", "other"] false F_plus) : DefOk P w K mg "pushed" 4 ["shape", "push"] true F_pushed := by
  obtain ⟨fa, fd, hm, hk, hF⟩ := T.d_pushed
  have S := sc_pushed
  refine ⟨fa, fd, hm, hk, FunD.bindsA hF (fun _ _ _ _ _ _ us hl => match us, hl with | [_, _], _ => rfl), fun base => ?_⟩
  refine fn_ok (N := N_pushed) (own := true) (O' := []) (b := B_pushed) hF S (fun cdv A outer s H E hr => ?_) (by rfl)
  exact (dss_one (ds_retN (dn_comp (vs := [2, 3]) (i_list (e_v 0)) (or_two 2 3 rfl rfl rfl rfl) (fun _ _ _ _ _ => dts_nil) (fun _ _ _ _ _ => (de_tup (da_cons (e_call ok_plus hr rfl (da_cons (e_v 2) (da_cons (de_ix (r_v 1) de_int) da_nil))) (da_cons (e_call ok_plus hr rfl (da_cons (e_v 3) (da_cons (de_ix (r_v 1) de_int) da_nil))) da_nil)))) fun wi tt te h1 h2 h3 => pe_lc (own := [("x", 2), ("y", 3)]) rfl S.nd h1 (blkOk_by (own := [("x", 2), ("y", 3)]) (N := N_pushed) (sc := defScope s_pushed) (by decide +kernel)) (fun _ _ _ _ _ => pg_tup rfl (pgs_cons (pg_name (i := 2) S.nd rfl (Or.inl rfl)) (pgs_cons (pg_name (i := 3) S.nd rfl (Or.inl rfl)) pgs_nil))) h2 h3)))
/-! ### sized -/
def N_sized : List Str := ["shape", "factor", "x", "y"]
def B_sized : SF := (seqF (ifF (tb (o2 leD (o2 ixD (vE 1) (cE (.int 0))) (cE (.int 0)))) neverF skipF) (retL (compA [2, 3] (itemsF (vE 0)) (tupG 2 (consG (nameG 2) (consG (nameG 3) nilG))) yesB (tupE (consA (callE F_times (consA (vE 2) (consA (vE 1) nilA))) (consA (callE F_times (consA (vE 3) (consA (vE 1) nilA))) nilA))))))
def F_sized : List D → Option D := bodyFn true 4 B_sized
theorem sc_sized : FnScope N_sized ["shape", "factor"] (defScope s_sized) := ⟨rfl, rfl, rfl, by decide +kernel, rfl, by decide +kernel, by decide +kernel⟩
theorem ok_sized {P : Program} {w : World} {K : PySem.W.Frag} {mg : Str → Option Value} (T : Top K mg) (ok_times : DefOk P w K mg "times" 3 ["one", "other"] false F_times) : DefOk P w K mg "sized" 4 ["shape", "factor"] true F_sized := by
  obtain ⟨fa, fd, hm, hk, hF⟩ := T.d_sized
  have S := sc_sized
  refine ⟨fa, fd, hm, hk, FunD.bindsA hF (fun _ _ _ _ _ _ us hl => match us, hl with | [_, _], _ => rfl), fun base => ?_⟩
  refine fn_ok (N := N_sized) (own := true) (O' := []) (b := B_sized) hF S (fun cdv A outer s H E hr => ?_) (by rfl)
  exact (dss_cons (ds_if (t_cmp (dc_le (de_ix (r_v 1) de_int) de_int)) (dss_one ds_never) dss_nil) (dss_one (ds_retN (dn_comp (vs := [2, 3]) (i_list (e_v 0)) (or_two 2 3 rfl rfl rfl rfl) (fun _ _ _ _ _ => dts_nil) (fun _ _ _ _ _ => (de_tup (da_cons (e_call ok_times hr rfl (da_cons (e_v 2) (da_cons (e_v 1) da_nil))) (da_cons (e_call ok_times hr rfl (da_cons (e_v 3) (da_cons (e_v 1) da_nil))) da_nil)))) fun wi tt te h1 h2 h3 => pe_lc (own := [("x", 2), ("y", 3)]) rfl S.nd h1 (blkOk_by (own := [("x", 2), ("y", 3)]) (N := N_sized) (sc := defScope s_sized) (by decide +kernel)) (fun _ _ _ _ _ => pg_tup rfl (pgs_cons (pg_name (i := 2) S.nd rfl (Or.inl rfl)) (pgs_cons (pg_name (i := 3) S.nd rfl (Or.inl rfl)) pgs_nil))) h2 h3))))
/-! ### comes_ahead -/
def N_comes_ahead : List Str := ["one", "other", "p", "q"]
def B_comes_ahead : SF := (seqF (setF 2 (callE F_flat (consA (vE 0) nilA))) (seqF (setF 3 (callE F_flat (consA (vE 1) nilA))) (seqF (ifF (tb (o2 neD (o2 mulD (o2 ixD (vE 2) (cE (.int 0))) (o2 ixD (vE 3) (cE (.int 2)))) (o2 mulD (o2 ixD (vE 3) (cE (.int 0))) (o2 ixD (vE 2) (cE (.int 2)))))) (retF (o2 ltD (o2 mulD (o2 ixD (vE 2) (cE (.int 0))) (o2 ixD (vE 3) (cE (.int 2)))) (o2 mulD (o2 ixD (vE 3) (cE (.int 0))) (o2 ixD (vE 2) (cE (.int 2)))))) skipF) (retF (o2 ltD (o2 mulD (o2 ixD (vE 2) (cE (.int 1))) (o2 ixD (vE 3) (cE (.int 2)))) (o2 mulD (o2 ixD (vE 3) (cE (.int 1))) (o2 ixD (vE 2) (cE (.int 2)))))))))
def F_comes_ahead : List D → Option D := bodyFn false 4 B_comes_ahead
theorem sc_comes_ahead : FnScope N_comes_ahead ["one", "other"] (defScope s_comes_ahead) := ⟨rfl, rfl, rfl, by decide +kernel, rfl, by decide +kernel, by decide +kernel⟩
theorem ok_comes_ahead {P : Program} {w : World} {K : PySem.W.Frag} {mg : Str → Option Value} (T : Top K mg) (ok_flat : DefOk P w K mg "flat" 1 ["spot"] false F_flat) : DefOk P w K mg "comes_ahead" 2 ["one", "other"] false F_comes_ahead := by
  obtain ⟨fa, fd, hm, hk, hF⟩ := T.d_comes_ahead
  have S := sc_comes_ahead
  refine ⟨fa, fd, hm, hk, FunD.bindsA hF (fun _ _ _ _ _ _ us hl => match us, hl with | [_, _], _ => rfl), fun base => ?_⟩
  refine fn_ok (N := N_comes_ahead) (own := false) (O' := []) (b := B_comes_ahead) hF S (fun cdv A outer s H E hr => ?_) (by rfl)
  exact (dss_cons (s_set 2 S.nd (e_call ok_flat hr rfl (da_cons (e_v 0) da_nil))) (dss_cons (s_set 3 S.nd (e_call ok_flat hr rfl (da_cons (e_v 1) da_nil))) (dss_cons (ds_if (t_cmp (c_ne hr (DE_r (de_mul (de_ix (r_v 2) de_int) (de_ix (r_v 3) de_int))) (DE_r (de_mul (de_ix (r_v 3) de_int) (de_ix (r_v 2) de_int))))) (dss_one (ds_ret (e_cmp (dc_lt (de_mul (de_ix (r_v 2) de_int) (de_ix (r_v 3) de_int)) (de_mul (de_ix (r_v 3) de_int) (de_ix (r_v 2) de_int)))))) dss_nil) (dss_one (ds_ret (e_cmp (dc_lt (de_mul (de_ix (r_v 2) de_int) (de_ix (r_v 3) de_int)) (de_mul (de_ix (r_v 3) de_int) (de_ix (r_v 2) de_int)))))))))
/-! ### turned -/
def N_turned : List Str := ["shape", "ring", "start", "k", "x", "y"]
def L1_turned : SF := (ifF (tb (callE F_comes_ahead (consA (o2 ixD (vE 1) (vE 3)) (consA (o2 ixD (vE 1) (vE 2)) nilA)))) (setF 2 (vE 3)) skipF)
def B_turned : SF := (seqF (setL 1 (compA [4, 5] (itemsF (vE 0)) (tupG 2 (consG (nameG 4) (consG (nameG 5) nilG))) yesB (tupE (consA (callE F_minus (consA (tupE (consA (cE (.int 0)) (consA (cE (.int 1)) nilA))) (consA (vE 4) nilA))) (consA (callE F_minus (consA (tupE (consA (cE (.int 0)) (consA (cE (.int 1)) nilA))) (consA (vE 5) nilA))) nilA))))) (seqF (setF 2 (cE (.int 0))) (seqF (forF (rng1F (o1 lenD (vE 1))) (nameG 3) L1_turned) (retL (catA (lE (slA (vE 1) (partO (vE 2)) (fun _ => some none))) (lE (slA (vE 1) (fun _ => some none) (partO (vE 2)))))))))
def F_turned : List D → Option D := bodyFn true 6 B_turned
theorem sc_turned : FnScope N_turned ["shape"] (defScope s_turned) := ⟨rfl, rfl, rfl, by decide +kernel, rfl, by decide +kernel, by decide +kernel⟩
theorem ok_turned {P : Program} {w : World} {K : PySem.W.Frag} {mg : Str → Option Value} (T : Top K mg) (ok_minus : DefOk P w K mg "minus" 3 ["one", "other"] false F_minus) (ok_comes_ahead : DefOk P w K mg "comes_ahead" 2 ["one", "other"] false F_comes_ahead) : DefOk P w K mg "turned" 4 ["shape"] true F_turned := by
  obtain ⟨fa, fd, hm, hk, hF⟩ := T.d_turned
  have S := sc_turned
  refine ⟨fa, fd, hm, hk, FunD.bindsA hF (fun _ _ _ _ _ _ us hl => match us, hl with | [_], _ => rfl), fun base => ?_⟩
  refine fn_ok (N := N_turned) (own := true) (O' := []) (b := B_turned) hF S (fun cdv A outer s H E hr => ?_) (by rfl)
  exact (dss_cons (s_setComp' 1 (vs := [4, 5]) (i_list (e_v 0)) (or_two 4 5 rfl rfl rfl rfl) (fun _ _ _ _ _ => dts_nil) (fun _ _ _ _ _ => (de_tup (da_cons (e_call ok_minus hr rfl (da_cons (de_tup (da_cons de_int (da_cons de_int da_nil))) (da_cons (e_v 4) da_nil))) (da_cons (e_call ok_minus hr rfl (da_cons (de_tup (da_cons de_int (da_cons de_int da_nil))) (da_cons (e_v 5) da_nil))) da_nil)))) fun wi tt te h1 h2 h3 => ps_setLc (i := 1) (own := [("x", 4), ("y", 5)]) rfl S.nd rfl rfl (sw_true rfl rfl rfl (by decide +kernel)) h1 (blkOk_by (own := [("x", 4), ("y", 5)]) (N := N_turned) (sc := defScope s_turned) (by decide +kernel)) (fun _ _ _ _ _ => pg_tup rfl (pgs_cons (pg_name (i := 4) S.nd rfl (Or.inl rfl)) (pgs_cons (pg_name (i := 5) S.nd rfl (Or.inl rfl)) pgs_nil))) h2 h3) (dss_cons (s_set 2 S.nd de_int) (dss_cons (s_for (i_rng1 (e_len (r_v 1) T.b_len) T.b_range) (g_name 3 S.nd) (dss_one (ds_if (dt_val (e_call ok_comes_ahead hr rfl (da_cons (de_ix (r_v 1) (e_v 3)) (da_cons (de_ix (r_v 1) (e_v 2)) da_nil)))) (dss_one (s_set 2 S.nd (e_v 3))) dss_nil))) (dss_one (ds_retN (dn_cat (DN_r (dn_sl (r_v 1) (dp_some (e_v 2)) dp_none)) (DN_r (dn_sl (r_v 1) dp_none (dp_some (e_v 2))))))))))
/-! ### ways_of -/
def N_ways_of : List Str := ["shape", "found", "k", "one", "other"]
def L1_ways_of : SF := (seqF (setF 3 (o2 ixD (vE 0) (vE 2))) (seqF (setF 4 (o2 ixD (vE 0) (o2 modD (o2 addD (vE 2) (cE (.int 1))) (o1 lenD (vE 0))))) (appF 1 (tupE (consA (callE F_minus (consA (o2 ixD (vE 4) (cE (.int 0))) (consA (o2 ixD (vE 3) (cE (.int 0))) nilA))) (consA (callE F_minus (consA (o2 ixD (vE 4) (cE (.int 1))) (consA (o2 ixD (vE 3) (cE (.int 1))) nilA))) nilA))))))
def B_ways_of : SF := (seqF (setL 1 (lstA nilA)) (seqF (forF (rng1F (o1 lenD (vE 0))) (nameG 2) L1_ways_of) (retV 1)))
def F_ways_of : List D → Option D := bodyFn true 5 B_ways_of
theorem sc_ways_of : FnScope N_ways_of ["shape"] (defScope s_ways_of) := ⟨rfl, rfl, rfl, by decide +kernel, rfl, by decide +kernel, by decide +kernel⟩
theorem ok_ways_of {P : Program} {w : World} {K : PySem.W.Frag} {mg : Str → Option Value} (T : Top K mg) (ok_minus : DefOk P w K mg "minus" 3 ["one", "other"] false F_minus) : DefOk P w K mg "ways_of" 4 ["shape"] true F_ways_of := by
  obtain ⟨fa, fd, hm, hk, hF⟩ := T.d_ways_of
  have S := sc_ways_of
  refine ⟨fa, fd, hm, hk, FunD.bindsA hF (fun _ _ _ _ _ _ us hl => match us, hl with | [_], _ => rfl), fun base => ?_⟩
  refine fn_ok (N := N_ways_of) (own := true) (O' := []) (b := B_ways_of) hF S (fun cdv A outer s H E hr => ?_) (by rfl)
  exact (dss_cons (s_setN 1 S.nd (dn_lst da_nil)) (dss_cons (s_for (i_rng1 (e_len (r_v 0) T.b_len) T.b_range) (g_name 2 S.nd) (dss_cons (s_set 3 S.nd (de_ix (r_v 0) (e_v 2))) (dss_cons (s_set 4 S.nd (de_ix (r_v 0) (de_mod (de_add (e_v 2) de_int) (e_len (r_v 0) T.b_len)))) (dss_one (s_app 1 (de_tup (da_cons (e_call ok_minus hr rfl (da_cons (de_ix (r_v 4) de_int) (da_cons (de_ix (r_v 3) de_int) da_nil))) (da_cons (e_call ok_minus hr rfl (da_cons (de_ix (r_v 4) de_int) (da_cons (de_ix (r_v 3) de_int) da_nil))) da_nil)))))))) (dss_one (s_retOwn 1))))
/-! ### to_left -/
def N_to_left : List Str := ["one", "other", "p", "q"]
def B_to_left : SF := (seqF (setF 2 (callE F_flat (consA (vE 0) nilA))) (seqF (setF 3 (callE F_flat (consA (vE 1) nilA))) (retF (o2 subD (o2 mulD (o2 ixD (vE 2) (cE (.int 0))) (o2 ixD (vE 3) (cE (.int 1)))) (o2 mulD (o2 ixD (vE 2) (cE (.int 1))) (o2 ixD (vE 3) (cE (.int 0))))))))
def F_to_left : List D → Option D := bodyFn false 4 B_to_left
theorem sc_to_left : FnScope N_to_left ["one", "other"] (defScope s_to_left) := ⟨rfl, rfl, rfl, by decide +kernel, rfl, by decide +kernel, by decide +kernel⟩
theorem ok_to_left {P : Program} {w : World} {K : PySem.W.Frag} {mg : Str → Option Value} (T : Top K mg) (ok_flat : DefOk P w K mg "flat" 1 ["spot"] false F_flat) : DefOk P w K mg "to_left" 2 ["one", "other"] false F_to_left := by
  obtain ⟨fa, fd, hm, hk, hF⟩ := T.d_to_left
  have S := sc_to_left
  refine ⟨fa, fd, hm, hk, FunD.bindsA hF (fun _ _ _ _ _ _ us hl => match us, hl with | [_, _], _ => rfl), fun base => ?_⟩
  refine fn_ok (N := N_to_left) (own := false) (O' := []) (b := B_to_left) hF S (fun cdv A outer s H E hr => ?_) (by rfl)
  exact (dss_cons (s_set 2 S.nd (e_call ok_flat hr rfl (da_cons (e_v 0) da_nil))) (dss_cons (s_set 3 S.nd (e_call ok_flat hr rfl (da_cons (e_v 1) da_nil))) (dss_one (ds_ret (de_sub (de_mul (de_ix (r_v 2) de_int) (de_ix (r_v 3) de_int)) (de_mul (de_ix (r_v 2) de_int) (de_ix (r_v 3) de_int)))))))
/-! ### merged -/
def N_merged : List Str := ["ones", "others", "found", "k", "j", "turn", "way", "first", "second"]
def L1_merged : SF := (seqF (setF 5 (cE (.int 0))) (seqF (ifF (andB (tb (o2 ltD (vE 3) (o1 lenD (vE 0)))) (tb (o2 ltD (vE 4) (o1 lenD (vE 1))))) (setF 5 (callE F_to_left (consA (o2 ixD (vE 0) (vE 3)) (consA (o2 ixD (vE 1) (vE 4)) nilA)))) skipF) (seqF (setF 6 (tupE (consA (tupE (consA (cE (.int 0)) (consA (cE (.int 1)) nilA))) (consA (tupE (consA (cE (.int 0)) (consA (cE (.int 1)) nilA))) nilA)))) (seqF (setF 7 (orE (o2 eqD (vE 4) (o1 lenD (vE 1))) (andE (o2 ltD (vE 3) (o1 lenD (vE 0))) (o2 geD (vE 5) (cE (.int 0)))))) (seqF (setF 8 (orE (o2 eqD (vE 3) (o1 lenD (vE 0))) (andE (o2 ltD (vE 4) (o1 lenD (vE 1))) (o2 leD (vE 5) (cE (.int 0)))))) (seqF (ifF (tb (vE 7)) (seqF (setF 6 (o2 ixD (vE 0) (vE 3))) (setF 3 (o2 addD (vE 3) (cE (.int 1))))) skipF) (seqF (ifF (tb (vE 8)) (seqF (setF 6 (tupE (consA (callE F_plus (consA (o2 ixD (vE 6) (cE (.int 0))) (consA (o2 ixD (o2 ixD (vE 1) (vE 4)) (cE (.int 0))) nilA))) (consA (callE F_plus (consA (o2 ixD (vE 6) (cE (.int 1))) (consA (o2 ixD (o2 ixD (vE 1) (vE 4)) (cE (.int 1))) nilA))) nilA)))) (setF 4 (o2 addD (vE 4) (cE (.int 1))))) skipF) (appF 2 (vE 6)))))))))
def C1_merged : BF := (orB (tb (o2 ltD (vE 3) (o1 lenD (vE 0)))) (tb (o2 ltD (vE 4) (o1 lenD (vE 1)))))
def B_merged : SF := (seqF (setL 2 (lstA nilA)) (seqF (setF 3 (cE (.int 0))) (seqF (setF 4 (cE (.int 0))) (seqF (whileF (fun ρ => lenAt ρ 0 + lenAt ρ 1 + 1) C1_merged L1_merged) (retV 2)))))
def F_merged : List D → Option D := bodyFn true 9 B_merged
theorem sc_merged : FnScope N_merged ["ones", "others"] (defScope s_merged) := ⟨rfl, rfl, rfl, by decide +kernel, rfl, by decide +kernel, by decide +kernel⟩
theorem ok_merged {P : Program} {w : World} {K : PySem.W.Frag} {mg : Str → Option Value} (T : Top K mg) (ok_plus : DefOk P w K mg "plus" 3 ["one", "other"] false F_plus) (ok_to_left : DefOk P w K mg "to_left" 2 ["one", "other"] false F_to_left) : DefOk P w K mg "merged" 4 ["ones", "others"] true F_merged := by
  obtain ⟨fa, fd, hm, hk, hF⟩ := T.d_merged
  have S := sc_merged
  refine ⟨fa, fd, hm, hk, FunD.bindsA hF (fun _ _ _ _ _ _ us hl => match us, hl with | [_, _], _ => rfl), fun base => ?_⟩
  refine fn_ok (N := N_merged) (own := true) (O' := []) (b := B_merged) hF S (fun cdv A outer s H E hr => ?_) (by rfl)
  exact (dss_cons (s_setN 2 S.nd (dn_lst da_nil)) (dss_cons (s_set 3 S.nd de_int) (dss_cons (s_set 4 S.nd de_int) (dss_cons (s_while (fun ρ => lenAt ρ 0 + lenAt ρ 1 + 1) (dw_t (dw_or (t_cmp (dc_lt (e_v 3) (e_len (r_v 0) T.b_len))) (dw_or1 (t_cmp (dc_lt (e_v 4) (e_len (r_v 1) T.b_len)))))) (dss_cons (s_set 5 S.nd de_int) (dss_cons (ds_if (dw_t (dw_and (t_cmp (dc_lt (e_v 3) (e_len (r_v 0) T.b_len))) (dw_and1 (t_cmp (dc_lt (e_v 4) (e_len (r_v 1) T.b_len)))))) (dss_one (s_set 5 S.nd (e_call ok_to_left hr rfl (da_cons (de_ix (r_v 0) (e_v 3)) (da_cons (de_ix (r_v 1) (e_v 4)) da_nil))))) dss_nil) (dss_cons (s_set 6 S.nd (de_tup (da_cons (de_tup (da_cons de_int (da_cons de_int da_nil))) (da_cons (de_tup (da_cons de_int (da_cons de_int da_nil))) da_nil)))) (dss_cons (s_set 7 S.nd (de_or (e_cmp (c_eq hr (r_v 4) (DE_r (e_len (r_v 1) T.b_len)))) (de_one (de_and (e_cmp (dc_lt (e_v 3) (e_len (r_v 0) T.b_len))) (de_one (e_cmp (dc_ge (e_v 5) de_int))))))) (dss_cons (s_set 8 S.nd (de_or (e_cmp (c_eq hr (r_v 3) (DE_r (e_len (r_v 0) T.b_len)))) (de_one (de_and (e_cmp (dc_lt (e_v 4) (e_len (r_v 1) T.b_len))) (de_one (e_cmp (dc_le (e_v 5) de_int))))))) (dss_cons (ds_if (dt_val (e_v 7)) (dss_cons (s_set 6 S.nd (de_ix (r_v 0) (e_v 3))) (dss_one (s_set 3 S.nd (de_add (e_v 3) de_int)))) dss_nil) (dss_cons (ds_if (dt_val (e_v 8)) (dss_cons (s_set 6 S.nd (de_tup (da_cons (e_call ok_plus hr rfl (da_cons (de_ix (r_v 6) de_int) (da_cons (de_ix (DE_r (de_ix (r_v 1) (e_v 4))) de_int) da_nil))) (da_cons (e_call ok_plus hr rfl (da_cons (de_ix (r_v 6) de_int) (da_cons (de_ix (DE_r (de_ix (r_v 1) (e_v 4))) de_int) da_nil))) da_nil)))) (dss_one (s_set 4 S.nd (de_add (e_v 4) de_int)))) dss_nil) (dss_one (s_app 2 (e_v 6))))))))))) (dss_one (s_retOwn 2))))))
/-! ### summed -/
def N_summed : List Str := ["one", "other", "here", "found", "way"]
def L1_summed : SF := (seqF (appF 3 (vE 2)) (setF 2 (tupE (consA (callE F_plus (consA (o2 ixD (vE 2) (cE (.int 0))) (consA (o2 ixD (vE 4) (cE (.int 0))) nilA))) (consA (callE F_plus (consA (o2 ixD (vE 2) (cE (.int 1))) (consA (o2 ixD (vE 4) (cE (.int 1))) nilA))) nilA)))))
def B_summed : SF := (seqF (setF 2 (tupE (consA (callE F_plus (consA (o2 ixD (o2 ixD (vE 0) (cE (.int 0))) (cE (.int 0))) (consA (o2 ixD (o2 ixD (vE 1) (cE (.int 0))) (cE (.int 0))) nilA))) (consA (callE F_plus (consA (o2 ixD (o2 ixD (vE 0) (cE (.int 0))) (cE (.int 1))) (consA (o2 ixD (o2 ixD (vE 1) (cE (.int 0))) (cE (.int 1))) nilA))) nilA)))) (seqF (setL 3 (lstA nilA)) (seqF (forF (itemsF (lE (callL F_merged (consA (lE (callL F_ways_of (consA (vE 0) nilA))) (consA (lE (callL F_ways_of (consA (vE 1) nilA))) nilA))))) (nameG 4) L1_summed) (retV 3))))
def F_summed : List D → Option D := bodyFn true 5 B_summed
theorem sc_summed : FnScope N_summed ["one", "other"] (defScope s_summed) := ⟨rfl, rfl, rfl, by decide +kernel, rfl, by decide +kernel, by decide +kernel⟩
theorem ok_summed {P : Program} {w : World} {K : PySem.W.Frag} {mg : Str → Option Value} (T : Top K mg) (ok_plus : DefOk P w K mg "plus" 3 ["one", "other"] false F_plus) (ok_ways_of : DefOk P w K mg "ways_of" 4 ["shape"] true F_ways_of) (ok_merged : DefOk P w K mg "merged" 4 ["ones", "others"] true F_merged) : DefOk P w K mg "summed" 5 ["one", "other"] true F_summed := by
  obtain ⟨fa, fd, hm, hk, hF⟩ := T.d_summed
  have S := sc_summed
  refine ⟨fa, fd, hm, hk, FunD.bindsA hF (fun _ _ _ _ _ _ us hl => match us, hl with | [_, _], _ => rfl), fun base => ?_⟩
  refine fn_ok (N := N_summed) (own := true) (O' := []) (b := B_summed) hF S (fun cdv A outer s H E hr => ?_) (by rfl)
  exact (dss_cons (s_set 2 S.nd (de_tup (da_cons (e_call ok_plus hr rfl (da_cons (de_ix (DE_r (de_ix (r_v 0) de_int)) de_int) (da_cons (de_ix (DE_r (de_ix (r_v 1) de_int)) de_int) da_nil))) (da_cons (e_call ok_plus hr rfl (da_cons (de_ix (DE_r (de_ix (r_v 0) de_int)) de_int) (da_cons (de_ix (DE_r (de_ix (r_v 1) de_int)) de_int) da_nil))) da_nil)))) (dss_cons (s_setN 3 S.nd (dn_lst da_nil)) (dss_cons (s_for (i_list (DN_e (n_call ok_merged hr rfl (da_cons (DN_e (n_call ok_ways_of hr rfl (da_cons (e_v 0) da_nil))) (da_cons (DN_e (n_call ok_ways_of hr rfl (da_cons (e_v 1) da_nil))) da_nil))))) (g_name 4 S.nd) (dss_cons (s_app 3 (e_v 2)) (dss_one (s_set 2 S.nd (de_tup (da_cons (e_call ok_plus hr rfl (da_cons (de_ix (r_v 2) de_int) (da_cons (de_ix (r_v 4) de_int) da_nil))) (da_cons (e_call ok_plus hr rfl (da_cons (de_ix (r_v 2) de_int) (da_cons (de_ix (r_v 4) de_int) da_nil))) da_nil))))))) (dss_one (s_retOwn 3)))))
/-! ### _law_cell_at -/
def N__law_cell_at : List Str := ["_law_script", "_law_k"]
def B__law_cell_at : SF := (seqF (ifF (tb (o2 ltD (vE 1) (o1 lenD (vE 0)))) (retF (o2 ixD (vE 0) (vE 1))) skipF) (retF (cE (.int 0))))
def F__law_cell_at : List D → Option D := bodyFn false 2 B__law_cell_at
theorem sc__law_cell_at : FnScope N__law_cell_at ["_law_script", "_law_k"] (defScope s__law_cell_at) := ⟨rfl, rfl, rfl, by decide +kernel, rfl, by decide +kernel, by decide +kernel⟩
theorem ok__law_cell_at {P : Program} {w : World} {K : PySem.W.Frag} {mg : Str → Option Value} (T : Top K mg) : DefOk P w K mg "_law_cell_at" 1 ["_law_script", "_law_k"] false F__law_cell_at := by
  obtain ⟨fa, fd, hm, hk, hF⟩ := T.d__law_cell_at
  have S := sc__law_cell_at
  refine ⟨fa, fd, hm, hk, FunD.bindsA hF (fun _ _ _ _ _ _ us hl => match us, hl with | [_, _], _ => rfl), fun base => ?_⟩
  refine fn_ok (N := N__law_cell_at) (own := false) (O' := []) (b := B__law_cell_at) hF S (fun cdv A outer s H E hr => ?_) (by rfl)
  exact (dss_cons (ds_if (t_cmp (dc_lt (e_v 1) (e_len (r_v 0) T.b_len))) (dss_one (ds_ret (de_ix (r_v 0) (e_v 1)))) dss_nil) (dss_one (ds_ret de_int)))
/-! ### _law_whole -/
def N__law_whole : List Str := ["_law_found"]
def B__law_whole : SF := (retF (andE (o1 (isiD "int") (vE 0)) (notE (o1 (isiD "bool") (vE 0)))))
def F__law_whole : List D → Option D := bodyFn false 1 B__law_whole
theorem sc__law_whole : FnScope N__law_whole ["_law_found"] (defScope s__law_whole) := ⟨rfl, rfl, rfl, by decide +kernel, rfl, by decide +kernel, by decide +kernel⟩
theorem ok__law_whole {P : Program} {w : World} {K : PySem.W.Frag} {mg : Str → Option Value} (T : Top K mg) : DefOk P w K mg "_law_whole" 1 ["_law_found"] false F__law_whole := by
  obtain ⟨fa, fd, hm, hk, hF⟩ := T.d__law_whole
  have S := sc__law_whole
  refine ⟨fa, fd, hm, hk, FunD.bindsA hF (fun _ _ _ _ _ _ us hl => match us, hl with | [_], _ => rfl), fun base => ?_⟩
  refine fn_ok (N := N__law_whole) (own := false) (O' := []) (b := B__law_whole) hF S (fun cdv A outer s H E hr => ?_) (by rfl)
  exact (dss_one (ds_ret (de_and (e_isi "int" (r_v 0) T.b_isinstance T.b_int) (de_one (de_not (e_isi "bool" (r_v 0) T.b_isinstance T.b_bool))))))
/-! ### _law_block -/
def N__law_block : List Str := ["_law_script", "_law_k", "_law_cell", "_law_j"]
def L1__law_block : SF := (setF 2 (o2 fdivD (vE 2) (cE (.int 2147483587))))
def B__law_block : SF := (seqF (setF 2 (cE (.int 0))) (seqF (ifF (tb (o2 ltD (o2 addD (cE (.int 1)) (o2 modD (o2 fdivD (vE 1) (cE (.int 8))) (cE (.int 62)))) (o1 lenD (vE 0)))) (setF 2 (o2 fdivD (o2 ixD (vE 0) (o2 addD (cE (.int 1)) (o2 modD (o2 fdivD (vE 1) (cE (.int 8))) (cE (.int 62))))) (o2 powD (cE (.int 10)) (cE (.int 64))))) skipF) (seqF (forF (rng1F (o2 modD (vE 1) (cE (.int 8)))) (nameG 3) L1__law_block) (retF (vE 2)))))
def F__law_block : List D → Option D := bodyFn false 4 B__law_block
theorem sc__law_block : FnScope N__law_block ["_law_script", "_law_k"] (defScope s__law_block) := ⟨rfl, rfl, rfl, by decide +kernel, rfl, by decide +kernel, by decide +kernel⟩
theorem ok__law_block {P : Program} {w : World} {K : PySem.W.Frag} {mg : Str → Option Value} (T : Top K mg) : DefOk P w K mg "_law_block" 1 ["_law_script", "_law_k"] false F__law_block := by
  obtain ⟨fa, fd, hm, hk, hF⟩ := T.d__law_block
  have S := sc__law_block
  refine ⟨fa, fd, hm, hk, FunD.bindsA hF (fun _ _ _ _ _ _ us hl => match us, hl with | [_, _], _ => rfl), fun base => ?_⟩
  refine fn_ok (N := N__law_block) (own := false) (O' := []) (b := B__law_block) hF S (fun cdv A outer s H E hr => ?_) (by rfl)
  exact (dss_cons (s_set 2 S.nd de_int) (dss_cons (ds_if (t_cmp (dc_lt (de_add de_int (de_mod (de_fdiv (e_v 1) de_int) de_int)) (e_len (r_v 0) T.b_len))) (dss_one (s_set 2 S.nd (de_fdiv (de_ix (r_v 0) (de_add de_int (de_mod (de_fdiv (e_v 1) de_int) de_int))) (de_pow de_int de_int)))) dss_nil) (dss_cons (s_for (i_rng1 (de_mod (e_v 1) de_int) T.b_range) (g_name 3 S.nd) (dss_one (s_set 2 S.nd (de_fdiv (e_v 2) de_int)))) (dss_one (ds_ret (e_v 2))))))
/-! ### _law_mixed -/
def N__law_mixed : List Str := ["_law_script", "_law_k", "_law_cell", "_law_number"]
def B__law_mixed : SF := (seqF (setF 2 (cE (.int 0))) (seqF (ifF (tb (o2 gtD (o1 lenD (vE 0)) (cE (.int 0)))) (setF 2 (o2 ixD (vE 0) (cE (.int 0)))) skipF) (seqF (ifF (andB (tb (o2 eqD (o2 modD (o2 fdivD (vE 2) (o2 powD (cE (.int 10)) (cE (.int 6)))) (cE (.int 2))) (cE (.int 1)))) (tb (o2 neD (callE F__law_block (consA (vE 0) (consA (vE 1) nilA))) (cE (.int 0))))) (retF (o2 modD (callE F__law_block (consA (vE 0) (consA (vE 1) nilA))) (cE (.int 2147483587)))) skipF) (seqF (ifF (tb (o2 gtD (o1 lenD (vE 0)) (cE (.int 0)))) (setF 2 (o2 ixD (vE 0) (o2 modD (vE 1) (o2 min2D (cE (.int 63)) (o1 lenD (vE 0)))))) skipF) (seqF (setF 3 (o2 addD (o2 modD (vE 2) (o2 powD (cE (.int 10)) (cE (.int 18)))) (o2 mulD (cE (.int 48271)) (o2 addD (vE 1) (cE (.int 1)))))) (seqF (setF 3 (o2 addD (o2 modD (o2 mulD (vE 3) (vE 3)) (cE (.int 2147483629))) (o2 mulD (cE (.int 69621)) (vE 1)))) (retF (o2 modD (o2 mulD (vE 3) (vE 3)) (cE (.int 2147483587))))))))))
def F__law_mixed : List D → Option D := bodyFn false 4 B__law_mixed
theorem sc__law_mixed : FnScope N__law_mixed ["_law_script", "_law_k"] (defScope s__law_mixed) := ⟨rfl, rfl, rfl, by decide +kernel, rfl, by decide +kernel, by decide +kernel⟩
theorem ok__law_mixed {P : Program} {w : World} {K : PySem.W.Frag} {mg : Str → Option Value} (T : Top K mg) (ok__law_block : DefOk P w K mg "_law_block" 1 ["_law_script", "_law_k"] false F__law_block) : DefOk P w K mg "_law_mixed" 2 ["_law_script", "_law_k"] false F__law_mixed := by
  obtain ⟨fa, fd, hm, hk, hF⟩ := T.d__law_mixed
  have S := sc__law_mixed
  refine ⟨fa, fd, hm, hk, FunD.bindsA hF (fun _ _ _ _ _ _ us hl => match us, hl with | [_, _], _ => rfl), fun base => ?_⟩
  refine fn_ok (N := N__law_mixed) (own := false) (O' := []) (b := B__law_mixed) hF S (fun cdv A outer s H E hr => ?_) (by rfl)
  exact (dss_cons (s_set 2 S.nd de_int) (dss_cons (ds_if (t_cmp (dc_gt (e_len (r_v 0) T.b_len) de_int)) (dss_one (s_set 2 S.nd (de_ix (r_v 0) de_int))) dss_nil) (dss_cons (ds_if (dw_t (dw_and (t_cmp (c_eq hr (DE_r (de_mod (de_fdiv (e_v 2) (de_pow de_int de_int)) de_int)) (DE_r de_int))) (dw_and1 (t_cmp (c_ne hr (DE_r (e_call ok__law_block hr rfl (da_cons (e_v 0) (da_cons (e_v 1) da_nil)))) (DE_r de_int)))))) (dss_one (ds_ret (de_mod (e_call ok__law_block hr rfl (da_cons (e_v 0) (da_cons (e_v 1) da_nil))) de_int))) dss_nil) (dss_cons (ds_if (t_cmp (dc_gt (e_len (r_v 0) T.b_len) de_int)) (dss_one (s_set 2 S.nd (de_ix (r_v 0) (de_mod (e_v 1) (e_min2 de_int (e_len (r_v 0) T.b_len) T.b_min))))) dss_nil) (dss_cons (s_set 3 S.nd (de_add (de_mod (e_v 2) (de_pow de_int de_int)) (de_mul de_int (de_add (e_v 1) de_int)))) (dss_cons (s_set 3 S.nd (de_add (de_mod (de_mul (e_v 3) (e_v 3)) de_int) (de_mul de_int (e_v 1)))) (dss_one (ds_ret (de_mod (de_mul (e_v 3) (e_v 3)) de_int)))))))))
/-! ### _law_divisor -/
def N__law_divisor : List Str := ["_law_one", "_law_other"]
def L1__law_divisor : SF := (parF 0 1 (vE 1) (o2 modD (vE 0) (vE 1)))
def C1__law_divisor : BF := (tb (o2 gtD (vE 1) (cE (.int 0))))
def B__law_divisor : SF := (seqF (setF 0 (o1 absD (vE 0))) (seqF (setF 1 (o1 absD (vE 1))) (seqF (whileF (fun ρ => natAt ρ 1) C1__law_divisor L1__law_divisor) (retF (vE 0)))))
def F__law_divisor : List D → Option D := bodyFn false 2 B__law_divisor
theorem sc__law_divisor : FnScope N__law_divisor ["_law_one", "_law_other"] (defScope s__law_divisor) := ⟨rfl, rfl, rfl, by decide +kernel, rfl, by decide +kernel, by decide +kernel⟩
theorem ok__law_divisor {P : Program} {w : World} {K : PySem.W.Frag} {mg : Str → Option Value} (T : Top K mg) : DefOk P w K mg "_law_divisor" 1 ["_law_one", "_law_other"] false F__law_divisor := by
  obtain ⟨fa, fd, hm, hk, hF⟩ := T.d__law_divisor
  have S := sc__law_divisor
  refine ⟨fa, fd, hm, hk, FunD.bindsA hF (fun _ _ _ _ _ _ us hl => match us, hl with | [_, _], _ => rfl), fun base => ?_⟩
  refine fn_ok (N := N__law_divisor) (own := false) (O' := []) (b := B__law_divisor) hF S (fun cdv A outer s H E hr => ?_) (by rfl)
  exact (dss_cons (s_set 0 S.nd (e_abs (e_v 0) T.b_abs)) (dss_cons (s_set 1 S.nd (e_abs (e_v 1) T.b_abs)) (dss_cons (s_while (fun ρ => natAt ρ 1) (t_cmp (dc_gt (e_v 1) de_int)) (dss_one (s_par 0 1 S.nd (e_v 1) (de_mod (e_v 0) (e_v 1))))) (dss_one (ds_ret (e_v 0))))))
/-! ### _law_lowest -/
def N__law_lowest : List Str := ["_law_top", "_law_bottom", "_law_by"]
def B__law_lowest : SF := (seqF (setF 2 (callE F__law_divisor (consA (vE 0) (consA (vE 1) nilA)))) (seqF (ifF (tb (o2 ltD (vE 1) (cE (.int 0)))) (setF 2 (o2 subD (cE (.int 0)) (vE 2))) skipF) (retF (tupE (consA (o2 fdivD (vE 0) (vE 2)) (consA (o2 fdivD (vE 1) (vE 2)) nilA))))))
def F__law_lowest : List D → Option D := bodyFn false 3 B__law_lowest
theorem sc__law_lowest : FnScope N__law_lowest ["_law_top", "_law_bottom"] (defScope s__law_lowest) := ⟨rfl, rfl, rfl, by decide +kernel, rfl, by decide +kernel, by decide +kernel⟩
theorem ok__law_lowest {P : Program} {w : World} {K : PySem.W.Frag} {mg : Str → Option Value} (T : Top K mg) (ok__law_divisor : DefOk P w K mg "_law_divisor" 1 ["_law_one", "_law_other"] false F__law_divisor) : DefOk P w K mg "_law_lowest" 2 ["_law_top", "_law_bottom"] false F__law_lowest := by
  obtain ⟨fa, fd, hm, hk, hF⟩ := T.d__law_lowest
  have S := sc__law_lowest
  refine ⟨fa, fd, hm, hk, FunD.bindsA hF (fun _ _ _ _ _ _ us hl => match us, hl with | [_, _], _ => rfl), fun base => ?_⟩
  refine fn_ok (N := N__law_lowest) (own := false) (O' := []) (b := B__law_lowest) hF S (fun cdv A outer s H E hr => ?_) (by rfl)
  exact (dss_cons (s_set 2 S.nd (e_call ok__law_divisor hr rfl (da_cons (e_v 0) (da_cons (e_v 1) da_nil)))) (dss_cons (ds_if (t_cmp (dc_lt (e_v 1) de_int)) (dss_one (s_set 2 S.nd (de_sub de_int (e_v 2)))) dss_nil) (dss_one (ds_ret (de_tup (da_cons (de_fdiv (e_v 0) (e_v 2)) (da_cons (de_fdiv (e_v 1) (e_v 2)) da_nil)))))))
/-! ### _law_is_fraction -/
def N__law_is_fraction : List Str := ["_law_found"]
def B__law_is_fraction : SF := (seqF (ifF (orB (notB (tb (o1 (isiD "tuple") (vE 0)))) (orB (tb (o2 neD (o1 lenD (vE 0)) (cE (.int 2)))) (orB (notB (tb (callE F__law_whole (consA (o2 ixD (vE 0) (cE (.int 0))) nilA)))) (notB (tb (callE F__law_whole (consA (o2 ixD (vE 0) (cE (.int 1))) nilA))))))) (retF (cE (.bool false))) skipF) (retF (andE (o2 gtD (o2 ixD (vE 0) (cE (.int 1))) (cE (.int 0))) (o2 eqD (callE F__law_divisor (consA (o2 ixD (vE 0) (cE (.int 0))) (consA (o2 ixD (vE 0) (cE (.int 1))) nilA))) (cE (.int 1))))))
def F__law_is_fraction : List D → Option D := bodyFn false 1 B__law_is_fraction
theorem sc__law_is_fraction : FnScope N__law_is_fraction ["_law_found"] (defScope s__law_is_fraction) := ⟨rfl, rfl, rfl, by decide +kernel, rfl, by decide +kernel, by decide +kernel⟩
theorem ok__law_is_fraction {P : Program} {w : World} {K : PySem.W.Frag} {mg : Str → Option Value} (T : Top K mg) (ok__law_whole : DefOk P w K mg "_law_whole" 1 ["_law_found"] false F__law_whole) (ok__law_divisor : DefOk P w K mg "_law_divisor" 1 ["_law_one", "_law_other"] false F__law_divisor) : DefOk P w K mg "_law_is_fraction" 2 ["_law_found"] false F__law_is_fraction := by
  obtain ⟨fa, fd, hm, hk, hF⟩ := T.d__law_is_fraction
  have S := sc__law_is_fraction
  refine ⟨fa, fd, hm, hk, FunD.bindsA hF (fun _ _ _ _ _ _ us hl => match us, hl with | [_], _ => rfl), fun base => ?_⟩
  refine fn_ok (N := N__law_is_fraction) (own := false) (O' := []) (b := B__law_is_fraction) hF S (fun cdv A outer s H E hr => ?_) (by rfl)
  exact (dss_cons (ds_if (dw_t (dw_or (dt_not (dt_val (e_isi "tuple" (r_v 0) T.b_isinstance T.b_tuple))) (dw_or (t_cmp (c_ne hr (DE_r (e_len (r_v 0) T.b_len)) (DE_r de_int))) (dw_or (dt_not (dt_val (e_call ok__law_whole hr rfl (da_cons (de_ix (r_v 0) de_int) da_nil)))) (dw_or1 (dt_not (dt_val (e_call ok__law_whole hr rfl (da_cons (de_ix (r_v 0) de_int) da_nil))))))))) (dss_one (ds_ret de_bl)) dss_nil) (dss_one (ds_ret (de_and (e_cmp (dc_gt (de_ix (r_v 0) de_int) de_int)) (de_one (e_cmp (c_eq hr (DE_r (e_call ok__law_divisor hr rfl (da_cons (de_ix (r_v 0) de_int) (da_cons (de_ix (r_v 0) de_int) da_nil)))) (DE_r de_int))))))))
/-! ### _law_points -/
def N__law_points : List Str := ["_law_script", "_law_start", "_law_most", "_law_way", "_law_found", "_law_k", "_law_number", "_law_point", "_law_x", "_law_y"]
def L1__law_points : SF := (seqF (setF 6 (callE F__law_mixed (consA (vE 0) (consA (o2 addD (o2 addD (vE 1) (cE (.int 2))) (vE 5)) nilA)))) (seqF (setF 7 (tupE (consA (o2 subD (o2 modD (vE 6) (cE (.int 7))) (cE (.int 3))) (consA (o2 subD (o2 modD (o2 fdivD (vE 6) (cE (.int 7))) (cE (.int 7))) (cE (.int 3))) nilA)))) (seqF (ifF (tb (o2 eqD (vE 3) (cE (.int 1)))) (setF 7 (tupE (consA (o2 subD (o2 modD (vE 6) (cE (.int 2001))) (cE (.int 1000))) (consA (o2 subD (o2 modD (o2 fdivD (vE 6) (cE (.int 2001))) (cE (.int 2001))) (cE (.int 1000))) nilA)))) skipF) (seqF (ifF (tb (o2 eqD (vE 3) (cE (.int 2)))) (setF 7 (tupE (consA (o2 modD (vE 6) (cE (.int 3))) (consA (o2 modD (o2 fdivD (vE 6) (cE (.int 3))) (cE (.int 3))) nilA)))) skipF) (appF 4 (vE 7))))))
def B__law_points : SF := (seqF (setF 3 (o2 modD (callE F__law_mixed (consA (vE 0) (consA (vE 1) nilA))) (cE (.int 4)))) (seqF (setL 4 (lstA nilA)) (seqF (forF (rng1F (o2 addD (cE (.int 3)) (o2 modD (callE F__law_mixed (consA (vE 0) (consA (o2 addD (vE 1) (cE (.int 1))) nilA))) (o2 subD (vE 2) (cE (.int 2)))))) (nameG 5) L1__law_points) (seqF (asgF (o2 ixD (vE 4) (cE (.int 0))) (tupG 2 (consG (nameG 8) (consG (nameG 9) nilG)))) (seqF (putF 4 (tupE (consA (o2 addD (vE 8) (cE (.int 1))) (consA (o2 addD (vE 9) (o2 modD (o2 ixD (o2 ixD (vE 4) (o1 negD (cE (.int 2)))) (cE (.int 1))) (cE (.int 2)))) nilA))) (o1 negD (cE (.int 2)))) (seqF (putF 4 (tupE (consA (o2 subD (vE 8) (o2 modD (o2 ixD (o2 ixD (vE 4) (o1 negD (cE (.int 1)))) (cE (.int 0))) (cE (.int 2)))) (consA (o2 addD (o2 addD (vE 9) (cE (.int 1))) (o2 modD (o2 ixD (o2 ixD (vE 4) (o1 negD (cE (.int 1)))) (cE (.int 1))) (cE (.int 3)))) nilA))) (o1 negD (cE (.int 1)))) (retV 4)))))))
def F__law_points : List D → Option D := bodyFn true 10 B__law_points
theorem sc__law_points : FnScope N__law_points ["_law_script", "_law_start", "_law_most"] (defScope s__law_points) := ⟨rfl, rfl, rfl, by decide +kernel, rfl, by decide +kernel, by decide +kernel⟩
theorem ok__law_points {P : Program} {w : World} {K : PySem.W.Frag} {mg : Str → Option Value} (T : Top K mg) (ok__law_mixed : DefOk P w K mg "_law_mixed" 2 ["_law_script", "_law_k"] false F__law_mixed) : DefOk P w K mg "_law_points" 3 ["_law_script", "_law_start", "_law_most"] true F__law_points := by
  obtain ⟨fa, fd, hm, hk, hF⟩ := T.d__law_points
  have S := sc__law_points
  refine ⟨fa, fd, hm, hk, FunD.bindsA hF (fun _ _ _ _ _ _ us hl => match us, hl with | [_, _, _], _ => rfl), fun base => ?_⟩
  refine fn_ok (N := N__law_points) (own := true) (O' := []) (b := B__law_points) hF S (fun cdv A outer s H E hr => ?_) (by rfl)
  exact (dss_cons (s_set 3 S.nd (de_mod (e_call ok__law_mixed hr rfl (da_cons (e_v 0) (da_cons (e_v 1) da_nil))) de_int)) (dss_cons (s_setN 4 S.nd (dn_lst da_nil)) (dss_cons (s_for (i_rng1 (de_add de_int (de_mod (e_call ok__law_mixed hr rfl (da_cons (e_v 0) (da_cons (de_add (e_v 1) de_int) da_nil))) (de_sub (e_v 2) de_int))) T.b_range) (g_name 5 S.nd) (dss_cons (s_set 6 S.nd (e_call ok__law_mixed hr rfl (da_cons (e_v 0) (da_cons (de_add (de_add (e_v 1) de_int) (e_v 5)) da_nil)))) (dss_cons (s_set 7 S.nd (de_tup (da_cons (de_sub (de_mod (e_v 6) de_int) de_int) (da_cons (de_sub (de_mod (de_fdiv (e_v 6) de_int) de_int) de_int) da_nil)))) (dss_cons (ds_if (t_cmp (c_eq hr (r_v 3) (DE_r de_int))) (dss_one (s_set 7 S.nd (de_tup (da_cons (de_sub (de_mod (e_v 6) de_int) de_int) (da_cons (de_sub (de_mod (de_fdiv (e_v 6) de_int) de_int) de_int) da_nil))))) dss_nil) (dss_cons (ds_if (t_cmp (c_eq hr (r_v 3) (DE_r de_int))) (dss_one (s_set 7 S.nd (de_tup (da_cons (de_mod (e_v 6) de_int) (da_cons (de_mod (de_fdiv (e_v 6) de_int) de_int) da_nil))))) dss_nil) (dss_one (s_app 4 (e_v 7)))))))) (dss_cons (s_asg (de_ix (r_v 4) de_int) (gs_cons (g_name 8 S.nd) (gs_cons (g_name 9 S.nd) gs_nil))) (dss_cons (s_put 4 (de_tup (da_cons (de_add (e_v 8) de_int) (da_cons (de_add (e_v 9) (de_mod (de_ix (DE_r (de_ix (r_v 4) (de_neg de_int))) de_int) de_int)) da_nil))) (de_neg de_int)) (dss_cons (s_put 4 (de_tup (da_cons (de_sub (e_v 8) (de_mod (de_ix (DE_r (de_ix (r_v 4) (de_neg de_int))) de_int) de_int)) (da_cons (de_add (de_add (e_v 9) de_int) (de_mod (de_ix (DE_r (de_ix (r_v 4) (de_neg de_int))) de_int) de_int)) da_nil))) (de_neg de_int)) (dss_one (s_retOwn 4))))))))
/-! ### _law_turn -/
def N__law_turn : List Str := ["_law_one", "_law_two", "_law_three", "_law_found"]
def B__law_turn : SF := (seqF (setF 3 (o2 mulD (o2 subD (o2 ixD (vE 1) (cE (.int 0))) (o2 ixD (vE 0) (cE (.int 0)))) (o2 subD (o2 ixD (vE 2) (cE (.int 1))) (o2 ixD (vE 0) (cE (.int 1)))))) (retF (o2 subD (vE 3) (o2 mulD (o2 subD (o2 ixD (vE 1) (cE (.int 1))) (o2 ixD (vE 0) (cE (.int 1)))) (o2 subD (o2 ixD (vE 2) (cE (.int 0))) (o2 ixD (vE 0) (cE (.int 0))))))))
def F__law_turn : List D → Option D := bodyFn false 4 B__law_turn
theorem sc__law_turn : FnScope N__law_turn ["_law_one", "_law_two", "_law_three"] (defScope s__law_turn) := ⟨rfl, rfl, rfl, by decide +kernel, rfl, by decide +kernel, by decide +kernel⟩
theorem ok__law_turn {P : Program} {w : World} {K : PySem.W.Frag} {mg : Str → Option Value} (T : Top K mg) : DefOk P w K mg "_law_turn" 1 ["_law_one", "_law_two", "_law_three"] false F__law_turn := by
  obtain ⟨fa, fd, hm, hk, hF⟩ := T.d__law_turn
  have S := sc__law_turn
  refine ⟨fa, fd, hm, hk, FunD.bindsA hF (fun _ _ _ _ _ _ us hl => match us, hl with | [_, _, _], _ => rfl), fun base => ?_⟩
  refine fn_ok (N := N__law_turn) (own := false) (O' := []) (b := B__law_turn) hF S (fun cdv A outer s H E hr => ?_) (by rfl)
  exact (dss_cons (s_set 3 S.nd (de_mul (de_sub (de_ix (r_v 1) de_int) (de_ix (r_v 0) de_int)) (de_sub (de_ix (r_v 2) de_int) (de_ix (r_v 0) de_int)))) (dss_one (ds_ret (de_sub (e_v 3) (de_mul (de_sub (de_ix (r_v 1) de_int) (de_ix (r_v 0) de_int)) (de_sub (de_ix (r_v 2) de_int) (de_ix (r_v 0) de_int)))))))
/-! ### _law_ring -/
def N__law_ring : List Str := ["_law_points_here", "_law_found", "_law_row", "_law_part", "_law_point"]
def L3__law_ring : SF := (popF 3)
def C3__law_ring : BF := (andB (tb (o2 gtD (o1 lenD (vE 3)) (cE (.int 1)))) (tb (o2 leD (callE F__law_turn (consA (o2 ixD (vE 3) (o1 negD (cE (.int 2)))) (consA (o2 ixD (vE 3) (o1 negD (cE (.int 1)))) (consA (vE 4) nilA)))) (cE (.int 0)))))
def L2__law_ring : SF := (seqF (whileF (fun ρ => lenAt ρ 3 + 1) C3__law_ring L3__law_ring) (appF 3 (vE 4)))
def L1__law_ring : SF := (seqF (setL 3 (lstA nilA)) (seqF (forF (itemsF (vE 2)) (nameG 4) L2__law_ring) (setL 1 (catA (vE 1) (lE (slA (vE 3) (fun _ => some none) (partO (o1 negD (cE (.int 1))))))))))
def B__law_ring : SF := (seqF (setL 1 (lstA nilA)) (seqF (forF (itemsF (lE (lstA (consA (lE (o1L sortsetD (vE 0))) (consA (lE (o1L revD (lE (o1L sortsetD (vE 0))))) nilA))))) (nameG 2) L1__law_ring) (retV 1)))
def F__law_ring : List D → Option D := bodyFn true 5 B__law_ring
theorem sc__law_ring : FnScope N__law_ring ["_law_points_here"] (defScope s__law_ring) := ⟨rfl, rfl, rfl, by decide +kernel, rfl, by decide +kernel, by decide +kernel⟩
theorem ok__law_ring {P : Program} {w : World} {K : PySem.W.Frag} {mg : Str → Option Value} (T : Top K mg) (ok__law_turn : DefOk P w K mg "_law_turn" 1 ["_law_one", "_law_two", "_law_three"] false F__law_turn) : DefOk P w K mg "_law_ring" 2 ["_law_points_here"] true F__law_ring := by
  obtain ⟨fa, fd, hm, hk, hF⟩ := T.d__law_ring
  have S := sc__law_ring
  refine ⟨fa, fd, hm, hk, FunD.bindsA hF (fun _ _ _ _ _ _ us hl => match us, hl with | [_], _ => rfl), fun base => ?_⟩
  refine fn_ok (N := N__law_ring) (own := true) (O' := []) (b := B__law_ring) hF S (fun cdv A outer s H E hr => ?_) (by rfl)
  exact (dss_cons (s_setN 1 S.nd (dn_lst da_nil)) (dss_cons (s_for (i_list (DN_e (dn_lst (da_cons (DN_e (n_sortset hr (r_v 0) T.b_sorted T.b_set)) (da_cons (DN_e (n_listrev (DN_r (n_sortset hr (r_v 0) T.b_sorted T.b_set)) T.b_list T.b_reversed)) da_nil))))) (g_name 2 S.nd) (dss_weak (O2 := [1]) (dss_cons (s_setN 3 S.nd (dn_lst da_nil)) (dss_cons (s_for (i_list (e_v 2)) (g_name 4 S.nd) (dss_cons (s_while (fun ρ => lenAt ρ 3 + 1) (dw_t (dw_and (t_cmp (dc_gt (e_len (r_v 3) T.b_len) de_int)) (dw_and1 (t_cmp (dc_le (e_call ok__law_turn hr rfl (da_cons (de_ix (r_v 3) (de_neg de_int)) (da_cons (de_ix (r_v 3) (de_neg de_int)) (da_cons (e_v 4) da_nil)))) de_int))))) (dss_one (s_pop 3))) (dss_one (s_app 3 (e_v 4))))) (dss_one (s_setN 1 S.nd (dn_cat (r_v 1) (DN_r (dn_sl (r_v 3) dp_none (dp_some (de_neg de_int))))))))))) (dss_one (s_retOwn 1))))
/-! ### _law_shape -/
def N__law_shape : List Str := ["_law_script", "_law_start", "_law_most", "_law_ring_here", "_law_number", "_law_share", "_law_by", "_law_far", "_law_x", "_law_y"]
def B__law_shape : SF := (seqF (setL 3 (callL F__law_ring (consA (lE (callL F__law_points (consA (vE 0) (consA (vE 1) (consA (vE 2) nilA))))) nilA))) (seqF (setF 4 (callE F__law_mixed (consA (vE 0) (consA (o2 addD (vE 1) (cE (.int 1))) nilA)))) (seqF (setF 5 (o2 ixD (lE (lstA (consA (cE (.int 1)) (consA (o2 addD (cE (.int 1)) (o2 modD (o2 fdivD (vE 4) (cE (.int 64))) (cE (.int 9)))) (consA (o2 addD (cE (.int 1)) (o2 modD (callE F__law_cell_at (consA (vE 0) (consA (vE 1) nilA))) (o2 powD (cE (.int 10)) (cE (.int 9))))) nilA))))) (o2 modD (o2 fdivD (vE 4) (cE (.int 16))) (cE (.int 3))))) (seqF (setF 6 (o2 ixD (lE (lstA (consA (cE (.int 1)) (consA (o2 addD (cE (.int 1)) (o2 modD (callE F__law_cell_at (consA (vE 0) (consA (o2 addD (vE 1) (cE (.int 1))) nilA))) (o2 powD (cE (.int 10)) (cE (.int 9))))) nilA)))) (o2 modD (o2 fdivD (vE 4) (cE (.int 1024))) (cE (.int 2))))) (seqF (setF 7 (o2 ixD (lE (lstA (consA (cE (.int 0)) (consA (o2 subD (o2 modD (callE F__law_cell_at (consA (vE 0) (consA (o2 addD (vE 1) (cE (.int 2))) nilA))) (o2 mulD (cE (.int 2)) (o2 powD (cE (.int 10)) (cE (.int 18))))) (o2 powD (cE (.int 10)) (cE (.int 18)))) nilA)))) (o2 modD (o2 fdivD (vE 4) (cE (.int 2048))) (cE (.int 2))))) (retL (compA [8, 9] (itemsF (vE 3)) (tupG 2 (consG (nameG 8) (consG (nameG 9) nilG))) yesB (tupE (consA (callE F__law_lowest (consA (o2 addD (o2 mulD (vE 8) (vE 6)) (vE 7)) (consA (vE 5) nilA))) (consA (callE F__law_lowest (consA (o2 subD (o2 mulD (vE 9) (vE 6)) (o2 mulD (cE (.int 2)) (vE 7))) (consA (vE 5) nilA))) nilA))))))))))
def F__law_shape : List D → Option D := bodyFn true 10 B__law_shape
theorem sc__law_shape : FnScope N__law_shape ["_law_script", "_law_start", "_law_most"] (defScope s__law_shape) := ⟨rfl, rfl, rfl, by decide +kernel, rfl, by decide +kernel, by decide +kernel⟩
theorem ok__law_shape {P : Program} {w : World} {K : PySem.W.Frag} {mg : Str → Option Value} (T : Top K mg) (ok__law_cell_at : DefOk P w K mg "_law_cell_at" 1 ["_law_script", "_law_k"] false F__law_cell_at) (ok__law_mixed : DefOk P w K mg "_law_mixed" 2 ["_law_script", "_law_k"] false F__law_mixed) (ok__law_lowest : DefOk P w K mg "_law_lowest" 2 ["_law_top", "_law_bottom"] false F__law_lowest) (ok__law_points : DefOk P w K mg "_law_points" 3 ["_law_script", "_law_start", "_law_most"] true F__law_points) (ok__law_ring : DefOk P w K mg "_law_ring" 2 ["_law_points_here"] true F__law_ring) : DefOk P w K mg "_law_shape" 4 ["_law_script", "_law_start", "_law_most"] true F__law_shape := by
  obtain ⟨fa, fd, hm, hk, hF⟩ := T.d__law_shape
  have S := sc__law_shape
  refine ⟨fa, fd, hm, hk, FunD.bindsA hF (fun _ _ _ _ _ _ us hl => match us, hl with | [_, _, _], _ => rfl), fun base => ?_⟩
  refine fn_ok (N := N__law_shape) (own := true) (O' := []) (b := B__law_shape) hF S (fun cdv A outer s H E hr => ?_) (by rfl)
  exact (dss_cons (s_setN 3 S.nd (n_call ok__law_ring hr rfl (da_cons (DN_e (n_call ok__law_points hr rfl (da_cons (e_v 0) (da_cons (e_v 1) (da_cons (e_v 2) da_nil))))) da_nil))) (dss_cons (s_set 4 S.nd (e_call ok__law_mixed hr rfl (da_cons (e_v 0) (da_cons (de_add (e_v 1) de_int) da_nil)))) (dss_cons (s_set 5 S.nd (de_ix (DN_r (dn_lst (da_cons de_int (da_cons (de_add de_int (de_mod (de_fdiv (e_v 4) de_int) de_int)) (da_cons (de_add de_int (de_mod (e_call ok__law_cell_at hr rfl (da_cons (e_v 0) (da_cons (e_v 1) da_nil))) (de_pow de_int de_int))) da_nil))))) (de_mod (de_fdiv (e_v 4) de_int) de_int))) (dss_cons (s_set 6 S.nd (de_ix (DN_r (dn_lst (da_cons de_int (da_cons (de_add de_int (de_mod (e_call ok__law_cell_at hr rfl (da_cons (e_v 0) (da_cons (de_add (e_v 1) de_int) da_nil))) (de_pow de_int de_int))) da_nil)))) (de_mod (de_fdiv (e_v 4) de_int) de_int))) (dss_cons (s_set 7 S.nd (de_ix (DN_r (dn_lst (da_cons de_int (da_cons (de_sub (de_mod (e_call ok__law_cell_at hr rfl (da_cons (e_v 0) (da_cons (de_add (e_v 1) de_int) da_nil))) (de_mul de_int (de_pow de_int de_int))) (de_pow de_int de_int)) da_nil)))) (de_mod (de_fdiv (e_v 4) de_int) de_int))) (dss_one (ds_pre (O2 := []) (ds_retN (dn_comp (vs := [8, 9]) (i_list (e_v 3)) (or_two 8 9 rfl rfl rfl rfl) (fun _ _ _ _ _ => dts_nil) (fun _ _ _ _ _ => (de_tup (da_cons (e_call ok__law_lowest hr rfl (da_cons (de_add (de_mul (e_v 8) (e_v 6)) (e_v 7)) (da_cons (e_v 5) da_nil))) (da_cons (e_call ok__law_lowest hr rfl (da_cons (de_sub (de_mul (e_v 9) (e_v 6)) (de_mul de_int (e_v 7))) (da_cons (e_v 5) da_nil))) da_nil)))) fun wi tt te h1 h2 h3 => pe_lc (own := [("_law_x", 8), ("_law_y", 9)]) rfl S.nd h1 (blkOk_by (own := [("_law_x", 8), ("_law_y", 9)]) (N := N__law_shape) (sc := defScope s__law_shape) (by decide +kernel)) (fun _ _ _ _ _ => pg_tup rfl (pgs_cons (pg_name (i := 8) S.nd rfl (Or.inl rfl)) (pgs_cons (pg_name (i := 9) S.nd rfl (Or.inl rfl)) pgs_nil))) h2 h3)))))))))
/-! ### _law_push -/
def N__law_push : List Str := ["_law_script", "_law_k", "_law_number", "_law_cell", "_law_x", "_law_y"]
def B__law_push : SF := (seqF (setF 2 (callE F__law_mixed (consA (vE 0) (consA (vE 1) nilA)))) (seqF (setF 3 (callE F__law_cell_at (consA (vE 0) (consA (vE 1) nilA)))) (seqF (setF 4 (callE F__law_lowest (consA (o2 subD (o2 modD (vE 2) (cE (.int 41))) (cE (.int 20))) (consA (o2 addD (cE (.int 1)) (o2 modD (o2 fdivD (vE 2) (cE (.int 41))) (cE (.int 9)))) nilA)))) (seqF (setF 5 (callE F__law_lowest (consA (o2 subD (o2 modD (vE 3) (o2 mulD (cE (.int 2)) (o2 powD (cE (.int 10)) (cE (.int 30))))) (o2 powD (cE (.int 10)) (cE (.int 30)))) (consA (o2 ixD (lE (lstA (consA (cE (.int 1)) (consA (o2 addD (cE (.int 1)) (o2 modD (vE 3) (o2 powD (cE (.int 10)) (cE (.int 9))))) nilA)))) (o2 modD (vE 2) (cE (.int 2)))) nilA)))) (retF (o2 ixD (lE (lstA (consA (tupE (consA (vE 4) (consA (vE 5) nilA))) (consA (tupE (consA (vE 5) (consA (vE 4) nilA))) (consA (tupE (consA (vE 4) (consA (vE 4) nilA))) nilA))))) (o2 modD (o2 fdivD (vE 2) (cE (.int 369))) (cE (.int 3)))))))))
def F__law_push : List D → Option D := bodyFn false 6 B__law_push
theorem sc__law_push : FnScope N__law_push ["_law_script", "_law_k"] (defScope s__law_push) := ⟨rfl, rfl, rfl, by decide +kernel, rfl, by decide +kernel, by decide +kernel⟩
theorem ok__law_push {P : Program} {w : World} {K : PySem.W.Frag} {mg : Str → Option Value} (T : Top K mg) (ok__law_cell_at : DefOk P w K mg "_law_cell_at" 1 ["_law_script", "_law_k"] false F__law_cell_at) (ok__law_mixed : DefOk P w K mg "_law_mixed" 2 ["_law_script", "_law_k"] false F__law_mixed) (ok__law_lowest : DefOk P w K mg "_law_lowest" 2 ["_law_top", "_law_bottom"] false F__law_lowest) : DefOk P w K mg "_law_push" 3 ["_law_script", "_law_k"] false F__law_push := by
  obtain ⟨fa, fd, hm, hk, hF⟩ := T.d__law_push
  have S := sc__law_push
  refine ⟨fa, fd, hm, hk, FunD.bindsA hF (fun _ _ _ _ _ _ us hl => match us, hl with | [_, _], _ => rfl), fun base => ?_⟩
  refine fn_ok (N := N__law_push) (own := false) (O' := []) (b := B__law_push) hF S (fun cdv A outer s H E hr => ?_) (by rfl)
  exact (dss_cons (s_set 2 S.nd (e_call ok__law_mixed hr rfl (da_cons (e_v 0) (da_cons (e_v 1) da_nil)))) (dss_cons (s_set 3 S.nd (e_call ok__law_cell_at hr rfl (da_cons (e_v 0) (da_cons (e_v 1) da_nil)))) (dss_cons (s_set 4 S.nd (e_call ok__law_lowest hr rfl (da_cons (de_sub (de_mod (e_v 2) de_int) de_int) (da_cons (de_add de_int (de_mod (de_fdiv (e_v 2) de_int) de_int)) da_nil)))) (dss_cons (s_set 5 S.nd (e_call ok__law_lowest hr rfl (da_cons (de_sub (de_mod (e_v 3) (de_mul de_int (de_pow de_int de_int))) (de_pow de_int de_int)) (da_cons (de_ix (DN_r (dn_lst (da_cons de_int (da_cons (de_add de_int (de_mod (e_v 3) (de_pow de_int de_int))) da_nil)))) (de_mod (e_v 2) de_int)) da_nil)))) (dss_one (ds_ret (de_ix (DN_r (dn_lst (da_cons (de_tup (da_cons (e_v 4) (da_cons (e_v 5) da_nil))) (da_cons (de_tup (da_cons (e_v 5) (da_cons (e_v 4) da_nil))) (da_cons (de_tup (da_cons (e_v 4) (da_cons (e_v 4) da_nil))) da_nil))))) (de_mod (de_fdiv (e_v 2) de_int) de_int))))))))
/-! ### _law_gap -/
def N__law_gap : List Str := ["_law_one", "_law_other", "_law_amid"]
def B__law_gap : SF := (seqF (setF 2 (callE F_minus (consA (callE F_doubled (consA (lE (callL F_summed (consA (vE 0) (consA (vE 1) nilA)))) nilA)) (consA (callE F_plus (consA (callE F_doubled (consA (vE 0) nilA)) (consA (callE F_doubled (consA (vE 1) nilA)) nilA))) nilA)))) (retF (callE F_minus (consA (callE F_times (consA (vE 2) (consA (vE 2) nilA))) (consA (callE F_times (consA (tupE (consA (cE (.int 4)) (consA (cE (.int 1)) nilA))) (consA (callE F_times (consA (callE F_doubled (consA (vE 0) nilA)) (consA (callE F_doubled (consA (vE 1) nilA)) nilA))) nilA))) nilA)))))
def F__law_gap : List D → Option D := bodyFn false 3 B__law_gap
theorem sc__law_gap : FnScope N__law_gap ["_law_one", "_law_other"] (defScope s__law_gap) := ⟨rfl, rfl, rfl, by decide +kernel, rfl, by decide +kernel, by decide +kernel⟩
theorem ok__law_gap {P : Program} {w : World} {K : PySem.W.Frag} {mg : Str → Option Value} (T : Top K mg) (ok_plus : DefOk P w K mg "plus" 3 ["one", "other"] false F_plus) (ok_minus : DefOk P w K mg "minus" 3 ["one", "other"] false F_minus) (ok_times : DefOk P w K mg "times" 3 ["one", "other"] false F_times) (ok_doubled : DefOk P w K mg "doubled" 4 ["shape"] false F_doubled) (ok_summed : DefOk P w K mg "summed" 5 ["one", "other"] true F_summed) : DefOk P w K mg "_law_gap" 6 ["_law_one", "_law_other"] false F__law_gap := by
  obtain ⟨fa, fd, hm, hk, hF⟩ := T.d__law_gap
  have S := sc__law_gap
  refine ⟨fa, fd, hm, hk, FunD.bindsA hF (fun _ _ _ _ _ _ us hl => match us, hl with | [_, _], _ => rfl), fun base => ?_⟩
  refine fn_ok (N := N__law_gap) (own := false) (O' := []) (b := B__law_gap) hF S (fun cdv A outer s H E hr => ?_) (by rfl)
  exact (dss_cons (s_set 2 S.nd (e_call ok_minus hr rfl (da_cons (e_call ok_doubled hr rfl (da_cons (DN_e (n_call ok_summed hr rfl (da_cons (e_v 0) (da_cons (e_v 1) da_nil)))) da_nil)) (da_cons (e_call ok_plus hr rfl (da_cons (e_call ok_doubled hr rfl (da_cons (e_v 0) da_nil)) (da_cons (e_call ok_doubled hr rfl (da_cons (e_v 1) da_nil)) da_nil))) da_nil)))) (dss_one (ds_ret (e_call ok_minus hr rfl (da_cons (e_call ok_times hr rfl (da_cons (e_v 2) (da_cons (e_v 2) da_nil))) (da_cons (e_call ok_times hr rfl (da_cons (de_tup (da_cons de_int (da_cons de_int da_nil))) (da_cons (e_call ok_times hr rfl (da_cons (e_call ok_doubled hr rfl (da_cons (e_v 0) da_nil)) (da_cons (e_call ok_doubled hr rfl (da_cons (e_v 1) da_nil)) da_nil))) da_nil))) da_nil))))))
/-! ### _law_led -/
def N__law_led : List Str := ["_law_one", "_law_other", "_law_push_here", "_law_factor", "_law_both"]
def B__law_led : SF := (seqF (setL 4 (callL F_summed (consA (vE 0) (consA (vE 1) nilA)))) (seqF (ifF (orB (tb (o2 neD (lE (callL F_summed (consA (vE 1) (consA (vE 0) nilA)))) (vE 4))) (tb (o2 neD (lE (callL F_summed (consA (lE (callL F_pushed (consA (vE 0) (consA (vE 2) nilA)))) (consA (vE 1) nilA)))) (lE (callL F_pushed (consA (vE 4) (consA (vE 2) nilA))))))) (retF (cE (.bool false))) skipF) (seqF (ifF (tb (o2 neD (lE (callL F_summed (consA (lE (callL F_sized (consA (vE 0) (consA (vE 3) nilA)))) (consA (lE (callL F_sized (consA (vE 1) (consA (vE 3) nilA)))) nilA)))) (lE (callL F_sized (consA (vE 4) (consA (vE 3) nilA)))))) (retF (cE (.bool false))) skipF) (retF (andE (o2 eqD (lE (callL F_summed (consA (lE (callL F_turned (consA (vE 0) nilA))) (consA (lE (callL F_turned (consA (vE 1) nilA))) nilA)))) (lE (callL F_turned (consA (vE 4) nilA)))) (o2 eqD (lE (callL F_summed (consA (vE 0) (consA (vE 0) nilA)))) (lE (callL F_sized (consA (vE 0) (consA (tupE (consA (cE (.int 2)) (consA (cE (.int 1)) nilA))) nilA))))))))))
def F__law_led : List D → Option D := bodyFn false 5 B__law_led
theorem sc__law_led : FnScope N__law_led ["_law_one", "_law_other", "_law_push_here", "_law_factor"] (defScope s__law_led) := ⟨rfl, rfl, rfl, by decide +kernel, rfl, by decide +kernel, by decide +kernel⟩
theorem ok__law_led {P : Program} {w : World} {K : PySem.W.Frag} {mg : Str → Option Value} (T : Top K mg) (ok_pushed : DefOk P w K mg "pushed" 4 ["shape", "push"] true F_pushed) (ok_sized : DefOk P w K mg "sized" 4 ["shape", "factor"] true F_sized) (ok_turned : DefOk P w K mg "turned" 4 ["shape"] true F_turned) (ok_summed : DefOk P w K mg "summed" 5 ["one", "other"] true F_summed) : DefOk P w K mg "_law_led" 6 ["_law_one", "_law_other", "_law_push_here", "_law_factor"] false F__law_led := by
  obtain ⟨fa, fd, hm, hk, hF⟩ := T.d__law_led
  have S := sc__law_led
  refine ⟨fa, fd, hm, hk, FunD.bindsA hF (fun _ _ _ _ _ _ us hl => match us, hl with | [_, _, _, _], _ => rfl), fun base => ?_⟩
  refine fn_ok (N := N__law_led) (own := false) (O' := []) (b := B__law_led) hF S (fun cdv A outer s H E hr => ?_) (by rfl)
  exact (dss_cons (s_setN 4 S.nd (n_call ok_summed hr rfl (da_cons (e_v 0) (da_cons (e_v 1) da_nil)))) (dss_cons (ds_pre (O2 := []) (ds_if (dw_t (dw_or (t_cmp (c_ne hr (DN_r (n_call ok_summed hr rfl (da_cons (e_v 1) (da_cons (e_v 0) da_nil)))) (r_v 4))) (dw_or1 (t_cmp (c_ne hr (DN_r (n_call ok_summed hr rfl (da_cons (DN_e (n_call ok_pushed hr rfl (da_cons (e_v 0) (da_cons (e_v 2) da_nil)))) (da_cons (e_v 1) da_nil)))) (DN_r (n_call ok_pushed hr rfl (da_cons (e_v 4) (da_cons (e_v 2) da_nil))))))))) (dss_one (ds_ret de_bl)) dss_nil)) (dss_cons (ds_if (t_cmp (c_ne hr (DN_r (n_call ok_summed hr rfl (da_cons (DN_e (n_call ok_sized hr rfl (da_cons (e_v 0) (da_cons (e_v 3) da_nil)))) (da_cons (DN_e (n_call ok_sized hr rfl (da_cons (e_v 1) (da_cons (e_v 3) da_nil)))) da_nil)))) (DN_r (n_call ok_sized hr rfl (da_cons (e_v 4) (da_cons (e_v 3) da_nil)))))) (dss_one (ds_ret de_bl)) dss_nil) (dss_one (ds_ret (de_and (e_cmp (c_eq hr (DN_r (n_call ok_summed hr rfl (da_cons (DN_e (n_call ok_turned hr rfl (da_cons (e_v 0) da_nil))) (da_cons (DN_e (n_call ok_turned hr rfl (da_cons (e_v 1) da_nil))) da_nil)))) (DN_r (n_call ok_turned hr rfl (da_cons (e_v 4) da_nil))))) (de_one (e_cmp (c_eq hr (DN_r (n_call ok_summed hr rfl (da_cons (e_v 0) (da_cons (e_v 0) da_nil)))) (DN_r (n_call ok_sized hr rfl (da_cons (e_v 0) (da_cons (de_tup (da_cons de_int (da_cons de_int da_nil))) da_nil)))))))))))))
/-! ### law -/
def N_law : List Str := ["_law_script", "_law_one", "_law_two", "_law_three", "_law_push_here", "_law_number", "_law_factor", "_law_a", "_law_b"]
def B_law : SF := (seqF (setL 1 (callL F__law_shape (consA (vE 0) (consA (cE (.int 1)) (consA (cE (.int 4)) nilA))))) (seqF (setL 2 (callL F__law_shape (consA (vE 0) (consA (cE (.int 20)) (consA (cE (.int 4)) nilA))))) (seqF (setL 3 (callL F__law_shape (consA (vE 0) (consA (cE (.int 40)) (consA (cE (.int 4)) nilA))))) (seqF (setF 4 (callE F__law_push (consA (vE 0) (consA (cE (.int 50)) nilA)))) (seqF (setF 5 (callE F__law_mixed (consA (vE 0) (consA (cE (.int 51)) nilA)))) (seqF (setF 6 (callE F__law_lowest (consA (o2 addD (cE (.int 1)) (o2 modD (vE 5) (cE (.int 20)))) (consA (o2 addD (cE (.int 1)) (o2 modD (o2 fdivD (vE 5) (cE (.int 20))) (cE (.int 20)))) nilA)))) (seqF (ifF (notB (tb (callE F__law_led (consA (vE 1) (consA (vE 2) (consA (vE 4) (consA (vE 6) nilA))))))) (retF (cE (.bool false))) skipF) (seqF (ifF (tb (o2 neD (lE (callL F_summed (consA (lE (callL F_summed (consA (vE 1) (consA (vE 2) nilA)))) (consA (vE 3) nilA)))) (lE (callL F_summed (consA (vE 1) (consA (lE (callL F_summed (consA (vE 2) (consA (vE 3) nilA)))) nilA)))))) (retF (cE (.bool false))) skipF) (seqF (setF 7 (o2 subD (o2 modD (o2 fdivD (vE 5) (cE (.int 400))) (cE (.int 19))) (cE (.int 9)))) (seqF (setF 8 (o2 addD (cE (.int 1)) (o2 modD (o2 fdivD (vE 5) (cE (.int 7600))) (cE (.int 9))))) (seqF (ifF (tb (o2 neD (callE F_reach (consA (lE (callL F_summed (consA (vE 1) (consA (vE 3) nilA)))) (consA (vE 7) (consA (vE 8) nilA)))) (callE F_plus (consA (callE F_reach (consA (vE 1) (consA (vE 7) (consA (vE 8) nilA)))) (consA (callE F_reach (consA (vE 3) (consA (vE 7) (consA (vE 8) nilA)))) nilA))))) (retF (cE (.bool false))) skipF) (seqF (ifF (tb (callE F_below (consA (callE F__law_gap (consA (vE 1) (consA (vE 2) nilA))) (consA (tupE (consA (cE (.int 0)) (consA (cE (.int 1)) nilA))) nilA)))) (retF (cE (.bool false))) skipF) (retF (o2 eqD (callE F__law_gap (consA (vE 1) (consA (lE (callL F_pushed (consA (lE (callL F_sized (consA (vE 1) (consA (vE 6) nilA)))) (consA (vE 4) nilA)))) nilA))) (tupE (consA (cE (.int 0)) (consA (cE (.int 1)) nilA)))))))))))))))))
def F_law : List D → Option D := bodyFn false 9 B_law
theorem sc_law : FnScope N_law ["_law_script"] (defScope s_law) := ⟨rfl, rfl, rfl, by decide +kernel, rfl, by decide +kernel, by decide +kernel⟩
theorem ok_law {P : Program} {w : World} {K : PySem.W.Frag} {mg : Str → Option Value} (T : Top K mg) (ok_plus : DefOk P w K mg "plus" 3 ["one", "other"] false F_plus) (ok_below : DefOk P w K mg "below" 1 ["one", "other"] false F_below) (ok_reach : DefOk P w K mg "reach" 3 ["shape", "a", "b"] false F_reach) (ok_pushed : DefOk P w K mg "pushed" 4 ["shape", "push"] true F_pushed) (ok_sized : DefOk P w K mg "sized" 4 ["shape", "factor"] true F_sized) (ok_summed : DefOk P w K mg "summed" 5 ["one", "other"] true F_summed) (ok__law_mixed : DefOk P w K mg "_law_mixed" 2 ["_law_script", "_law_k"] false F__law_mixed) (ok__law_lowest : DefOk P w K mg "_law_lowest" 2 ["_law_top", "_law_bottom"] false F__law_lowest) (ok__law_shape : DefOk P w K mg "_law_shape" 4 ["_law_script", "_law_start", "_law_most"] true F__law_shape) (ok__law_push : DefOk P w K mg "_law_push" 3 ["_law_script", "_law_k"] false F__law_push) (ok__law_gap : DefOk P w K mg "_law_gap" 6 ["_law_one", "_law_other"] false F__law_gap) (ok__law_led : DefOk P w K mg "_law_led" 6 ["_law_one", "_law_other", "_law_push_here", "_law_factor"] false F__law_led) : DefOk P w K mg "law" 7 ["_law_script"] false F_law := by
  obtain ⟨fa, fd, hm, hk, hF⟩ := T.d_law
  have S := sc_law
  refine ⟨fa, fd, hm, hk, FunD.bindsA hF (fun _ _ _ _ _ _ us hl => match us, hl with | [_], _ => rfl), fun base => ?_⟩
  refine fn_ok (N := N_law) (own := false) (O' := []) (b := B_law) hF S (fun cdv A outer s H E hr => ?_) (by rfl)
  exact (dss_cons (s_setN 1 S.nd (n_call ok__law_shape hr rfl (da_cons (e_v 0) (da_cons de_int (da_cons de_int da_nil))))) (dss_cons (s_setN 2 S.nd (n_call ok__law_shape hr rfl (da_cons (e_v 0) (da_cons de_int (da_cons de_int da_nil))))) (dss_cons (s_setN 3 S.nd (n_call ok__law_shape hr rfl (da_cons (e_v 0) (da_cons de_int (da_cons de_int da_nil))))) (dss_cons (s_set 4 S.nd (e_call ok__law_push hr rfl (da_cons (e_v 0) (da_cons de_int da_nil)))) (dss_cons (s_set 5 S.nd (e_call ok__law_mixed hr rfl (da_cons (e_v 0) (da_cons de_int da_nil)))) (dss_cons (s_set 6 S.nd (e_call ok__law_lowest hr rfl (da_cons (de_add de_int (de_mod (e_v 5) de_int)) (da_cons (de_add de_int (de_mod (de_fdiv (e_v 5) de_int) de_int)) da_nil)))) (dss_cons (ds_pre (O2 := [3]) (ds_if (dt_not (dt_val (e_call ok__law_led hr rfl (da_cons (e_v 1) (da_cons (e_v 2) (da_cons (e_v 4) (da_cons (e_v 6) da_nil))))))) (dss_one (ds_ret de_bl)) dss_nil)) (dss_cons (ds_pre (O2 := []) (ds_if (t_cmp (c_ne hr (DN_r (n_call ok_summed hr rfl (da_cons (DN_e (n_call ok_summed hr rfl (da_cons (e_v 1) (da_cons (e_v 2) da_nil)))) (da_cons (e_v 3) da_nil)))) (DN_r (n_call ok_summed hr rfl (da_cons (e_v 1) (da_cons (DN_e (n_call ok_summed hr rfl (da_cons (e_v 2) (da_cons (e_v 3) da_nil)))) da_nil)))))) (dss_one (ds_ret de_bl)) dss_nil)) (dss_cons (s_set 7 S.nd (de_sub (de_mod (de_fdiv (e_v 5) de_int) de_int) de_int)) (dss_cons (s_set 8 S.nd (de_add de_int (de_mod (de_fdiv (e_v 5) de_int) de_int))) (dss_cons (ds_if (t_cmp (c_ne hr (DE_r (e_call ok_reach hr rfl (da_cons (DN_e (n_call ok_summed hr rfl (da_cons (e_v 1) (da_cons (e_v 3) da_nil)))) (da_cons (e_v 7) (da_cons (e_v 8) da_nil))))) (DE_r (e_call ok_plus hr rfl (da_cons (e_call ok_reach hr rfl (da_cons (e_v 1) (da_cons (e_v 7) (da_cons (e_v 8) da_nil)))) (da_cons (e_call ok_reach hr rfl (da_cons (e_v 3) (da_cons (e_v 7) (da_cons (e_v 8) da_nil)))) da_nil)))))) (dss_one (ds_ret de_bl)) dss_nil) (dss_cons (ds_if (dt_val (e_call ok_below hr rfl (da_cons (e_call ok__law_gap hr rfl (da_cons (e_v 1) (da_cons (e_v 2) da_nil))) (da_cons (de_tup (da_cons de_int (da_cons de_int da_nil))) da_nil)))) (dss_one (ds_ret de_bl)) dss_nil) (dss_one (ds_ret (e_cmp (c_eq hr (DE_r (e_call ok__law_gap hr rfl (da_cons (e_v 1) (da_cons (DN_e (n_call ok_pushed hr rfl (da_cons (DN_e (n_call ok_sized hr rfl (da_cons (e_v 1) (da_cons (e_v 6) da_nil)))) (da_cons (e_v 4) da_nil)))) da_nil)))) (DE_r (de_tup (da_cons de_int (da_cons de_int da_nil))))))))))))))))))))
end Lw

namespace Lw
open PySem PySem.Spec PyProof.Rows L2 DL TS Ty
open TS.Enc (enc)
open TL (P3 P4 TO mulT divT modT getT ixT getP appT catT popT putT rng1T rng2T takeT dropT foldT forT whileT mapL compT fmapL compFT lim bindS ifS divisorT ratioT fractionT fr bintT ssetT un2 min2 max2 leastI mostI idxMinT getP3)
theorem S_divisor (a b r : Int) (h : divisorT a b = some r) : F_divisor [enc a, enc b] = some (enc r) := by
  cases h
  show F_divisor [.int a, .int b] = some (.int _)
  unfold F_divisor B_divisor L1_divisor C1_divisor
  simp [whileF, natAt]
  rw [gcd_loop _ _ _ (by omega)]
  simp [Int.gcd]
theorem S__law_divisor (a b r : Int) (h : divisorT a b = some r) : F__law_divisor [enc a, enc b] = some (enc r) := by
  cases h
  show F__law_divisor [.int a, .int b] = some (.int _)
  unfold F__law_divisor B__law_divisor L1__law_divisor C1__law_divisor
  simp [whileF, natAt]
  rw [gcd_loop _ _ _ (by omega)]
  simp [Int.gcd]
theorem S_ratio (t b : Int) (r : Int × Int) (h : ratioT t b = some r) : F_ratio [enc t, enc b] = some (enc r) := by
  unfold ratioT at h
  obtain ⟨⟨hb, hs⟩, h⟩ := ifS h
  cases h
  have hs : DL.Sz 9000 b := (Nat.log2_lt (by omega)).mp hs
  have hd : F_divisor [.int t, .int b] = some (.int (Int.gcd t b)) := S_divisor t b _ rfl
  show F_ratio [.int t, .int b] = some (.tuple [.int (Rat.divInt t b).num, .int ((Rat.divInt t b).den : Int)])
  obtain ⟨g, hg, h⟩ := lowest_parts (t := t) hb hs
  unfold F_ratio B_ratio
  by_cases hn : b < 0
  · rw [if_pos hn] at h
    simp [hb, hd, hg, hn, h.1, h.2]
  · rw [if_neg hn] at h
    simp [hb, hd, hg, hn, h.1, h.2]
theorem S__law_lowest (t b : Int) (r : Int × Int) (h : ratioT t b = some r) : F__law_lowest [enc t, enc b] = some (enc r) := by
  unfold ratioT at h
  obtain ⟨⟨hb, hs⟩, h⟩ := ifS h
  cases h
  have hs : DL.Sz 9000 b := (Nat.log2_lt (by omega)).mp hs
  have hd : F__law_divisor [.int t, .int b] = some (.int (Int.gcd t b)) := S__law_divisor t b _ rfl
  show F__law_lowest [.int t, .int b] = some (.tuple [.int (Rat.divInt t b).num, .int ((Rat.divInt t b).den : Int)])
  obtain ⟨g, hg, h⟩ := lowest_parts (t := t) hb hs
  unfold F__law_lowest B__law_lowest
  by_cases hn : b < 0
  · rw [if_pos hn] at h
    simp [hb, hd, hg, hn, h.1, h.2]
  · rw [if_neg hn] at h
    simp [hb, hd, hg, hn, h.1, h.2]
theorem S_plus (v_one : Int × Int) (v_other : Int × Int) (r : Int × Int) (h : T_plus v_one v_other = some r) : F_plus [enc v_one, enc v_other] = some (enc r) := by
  unfold T_plus at h
  unfold F_plus
  refine fn_of ?_
  show Wp (B_plus [some (enc v_one), some (enc v_other)]) _
  unfold B_plus
  obtain ⟨m1, em1, h⟩ := bindS h
  obtain ⟨m2, em2, h⟩ := bindS h
  obtain ⟨m3, em3, h⟩ := bindS h
  obtain ⟨m4, em4, h⟩ := bindS h
  cases h
  exact w_ret (x_call (a_cons (x_add (x_mul (x_ix20 (x_v (i := 0) rfl)) (x_ix21 (x_v (i := 1) rfl)) em1) (x_mul (x_ix20 (x_v (i := 1) rfl)) (x_ix21 (x_v (i := 0) rfl)) em2)) (a_cons (x_mul (x_ix21 (x_v (i := 0) rfl)) (x_ix21 (x_v (i := 1) rfl)) em3) a_nil)) (S_ratio ((m1 + m2)) m3 _ em4)) rfl
theorem S_minus (v_one : Int × Int) (v_other : Int × Int) (r : Int × Int) (h : T_minus v_one v_other = some r) : F_minus [enc v_one, enc v_other] = some (enc r) := by
  unfold T_minus at h
  unfold F_minus
  refine fn_of ?_
  show Wp (B_minus [some (enc v_one), some (enc v_other)]) _
  unfold B_minus
  obtain ⟨m1, em1, h⟩ := bindS h
  obtain ⟨m2, em2, h⟩ := bindS h
  obtain ⟨m3, em3, h⟩ := bindS h
  obtain ⟨m4, em4, h⟩ := bindS h
  cases h
  exact w_ret (x_call (a_cons (x_sub (x_mul (x_ix20 (x_v (i := 0) rfl)) (x_ix21 (x_v (i := 1) rfl)) em1) (x_mul (x_ix20 (x_v (i := 1) rfl)) (x_ix21 (x_v (i := 0) rfl)) em2)) (a_cons (x_mul (x_ix21 (x_v (i := 0) rfl)) (x_ix21 (x_v (i := 1) rfl)) em3) a_nil)) (S_ratio ((m1 - m2)) m3 _ em4)) rfl
theorem S_times (v_one : Int × Int) (v_other : Int × Int) (r : Int × Int) (h : T_times v_one v_other = some r) : F_times [enc v_one, enc v_other] = some (enc r) := by
  unfold T_times at h
  unfold F_times
  refine fn_of ?_
  show Wp (B_times [some (enc v_one), some (enc v_other)]) _
  unfold B_times
  obtain ⟨m1, em1, h⟩ := bindS h
  obtain ⟨m2, em2, h⟩ := bindS h
  obtain ⟨m3, em3, h⟩ := bindS h
  cases h
  exact w_ret (x_call (a_cons (x_mul (x_ix20 (x_v (i := 0) rfl)) (x_ix20 (x_v (i := 1) rfl)) em1) (a_cons (x_mul (x_ix21 (x_v (i := 0) rfl)) (x_ix21 (x_v (i := 1) rfl)) em2) a_nil)) (S_ratio m1 m2 _ em3)) rfl
theorem S_below (v_one : Int × Int) (v_other : Int × Int) (r : Bool) (h : T_below v_one v_other = some r) : F_below [enc v_one, enc v_other] = some (enc r) := by
  unfold T_below at h
  unfold F_below
  refine fn_of ?_
  show Wp (B_below [some (enc v_one), some (enc v_other)]) _
  unfold B_below
  obtain ⟨m1, em1, h⟩ := bindS h
  obtain ⟨m2, em2, h⟩ := bindS h
  cases h
  exact w_ret (x_lt (x_mul (x_ix20 (x_v (i := 0) rfl)) (x_ix21 (x_v (i := 1) rfl)) em1) (x_mul (x_ix20 (x_v (i := 1) rfl)) (x_ix21 (x_v (i := 0) rfl)) em2)) rfl
theorem S_flat (v_spot : (Int × Int) × (Int × Int)) (r : P3 Int Int Int) (h : T_flat v_spot = some r) : F_flat [enc v_spot] = some (enc r) := by
  unfold T_flat at h
  unfold F_flat
  refine fn_of ?_
  show Wp (B_flat [some (enc v_spot), none, none]) _
  unfold B_flat
  refine w_seq (w_asg (x_v (i := 0) rfl) gt2 ?_)
  show Wp _ _
  obtain ⟨m1, em1, h⟩ := bindS h
  obtain ⟨m2, em2, h⟩ := bindS h
  obtain ⟨m3, em3, h⟩ := bindS h
  cases h
  exact w_ret (x_tup3 (x_mul (x_ix20 (x_v (i := 1) rfl)) (x_ix21 (x_v (i := 2) rfl)) em1) (x_mul (x_ix20 (x_v (i := 2) rfl)) (x_ix21 (x_v (i := 1) rfl)) em2) (x_mul (x_ix21 (x_v (i := 1) rfl)) (x_ix21 (x_v (i := 2) rfl)) em3)) rfl
abbrev R1_doubled (k0_shape : List ((Int × Int) × (Int × Int))) (s : (Int × Int)) (ρ : Rho) : Prop := ∃ j2 j3 j4 : Option D, ρ = [some (enc k0_shape), some (enc s), j2, j3, j4]
theorem STL1_doubled (k0_shape : List ((Int × Int) × (Int × Int))) (a : Int) (s : (Int × Int)) (o) (ρ : Rho) (h : TL1_doubled k0_shape a s = some o) (hR : R1_doubled k0_shape s ρ) : ∃ ρ1, (nameG 2) (enc a) ρ = some ρ1 ∧ Wp (L1_doubled ρ1) (To (R1_doubled k0_shape) o) := by
  obtain ⟨j2, j3, j4, rfl⟩ := hR
  refine ⟨_, rfl, ?_⟩
  unfold L1_doubled
  unfold TL1_doubled at h
  obtain ⟨m3, em3, h⟩ := bindS h
  refine w_seq (w_set (i := 3) (x_ixl (x_v (i := 0) rfl) (x_sub (x_v (i := 2) rfl) (x_int 1)) em3) ?_)
  show Wp _ _
  obtain ⟨m4, em4, h⟩ := bindS h
  refine w_seq (w_set (i := 4) (x_ixl (x_v (i := 0) rfl) (x_v (i := 2) rfl) em4) ?_)
  show Wp _ _
  obtain ⟨m5, em5, h⟩ := bindS h
  obtain ⟨m6, em6, h⟩ := bindS h
  obtain ⟨m7, em7, h⟩ := bindS h
  obtain ⟨m8, em8, h⟩ := bindS h
  refine w_set (i := 1) (x_call (a_cons (x_v (i := 1) rfl) (a_cons (x_call (a_cons (x_call (a_cons (x_ix20 (x_v (i := 3) rfl)) (a_cons (x_ix21 (x_v (i := 4) rfl)) a_nil)) (S_times m3.1 m4.2 _ em5)) (a_cons (x_call (a_cons (x_ix21 (x_v (i := 3) rfl)) (a_cons (x_ix20 (x_v (i := 4) rfl)) a_nil)) (S_times m3.2 m4.1 _ em6)) a_nil)) (S_minus m5 m6 _ em7)) a_nil)) (S_plus s m7 _ em8)) ?_
  cases h
  exact ⟨_, rfl, _, _, _, rfl⟩
theorem S_doubled (v_shape : List ((Int × Int) × (Int × Int))) (r : Int × Int) (h : T_doubled v_shape = some r) : F_doubled [enc v_shape] = some (enc r) := by
  unfold T_doubled at h
  unfold F_doubled
  refine fn_of ?_
  show Wp (B_doubled [some (enc v_shape), none, none, none, none]) _
  unfold B_doubled
  obtain ⟨v_total_1, ev_total_1, h⟩ := bindS h
  refine w_seq (w_set (i := 1) (x_to (x_tup2 (x_int 0) (x_int 1)) (Option.some.inj ev_total_1)) ?_)
  show Wp _ _
  obtain ⟨m2, em2, h⟩ := bindS h
  obtain ⟨o9, eo9, h⟩ := bindS h
  refine w_seq (w_for (R1_doubled v_shape) (i_rng1 (x_len (x_v (i := 0) rfl)) em2) ⟨_, _, _, rfl⟩ eo9 (fun za zs zo zr zh zR => STL1_doubled v_shape za zs zo zr zh zR) (fun ρ' hR => ?_))
  obtain ⟨j2, j3, j4, rfl⟩ := hR
  show Wp _ _
  cases h
  exact w_ret (x_v (i := 1) rfl) rfl
abbrev R1_reach (k0_shape : List ((Int × Int) × (Int × Int))) (k1_a : Int) (k2_b : Int) (s : (Option (Int × Int))) (ρ : Rho) : Prop := ∃ j4 j5 j6 j7 j8 : Option D, ρ = [some (enc k0_shape), some (enc k1_a), some (enc k2_b), some (enc s), j4, j5, j6, j7, j8]
theorem STL1_reach (k0_shape : List ((Int × Int) × (Int × Int))) (k1_a : Int) (k2_b : Int) (a : (Int × Int) × (Int × Int)) (s : (Option (Int × Int))) (o) (ρ : Rho) (h : TL1_reach k1_a k2_b a s = some o) (hR : R1_reach k0_shape k1_a k2_b s ρ) : ∃ ρ1, (nameG 4) (enc a) ρ = some ρ1 ∧ Wp (L1_reach ρ1) (To (R1_reach k0_shape k1_a k2_b) o) := by
  obtain ⟨j4, j5, j6, j7, j8, rfl⟩ := hR
  refine ⟨_, rfl, ?_⟩
  unfold L1_reach
  unfold TL1_reach at h
  obtain ⟨m2, em2, h⟩ := bindS h
  refine w_seq (w_asg (x_call (a_cons (x_v (i := 4) rfl) a_nil) (S_flat a _ em2)) gt3 ?_)
  show Wp _ _
  obtain ⟨m3, em3, h⟩ := bindS h
  obtain ⟨m4, em4, h⟩ := bindS h
  obtain ⟨m5, em5, h⟩ := bindS h
  refine w_seq (w_set (i := 8) (x_call (a_cons (x_add (x_mul (x_v (i := 1) rfl) (x_v (i := 5) rfl) em3) (x_mul (x_v (i := 2) rfl) (x_v (i := 6) rfl) em4)) (a_cons (x_v (i := 7) rfl) a_nil)) (S_ratio ((m3 + m4)) m2.c _ em5)) ?_)
  show Wp _ _
  obtain ⟨m8, em8, h⟩ := bindS h
  refine w_if (b_orO (b_tb (x_is (x_v (i := 3) rfl))) em8 (fun _ g9 => by obtain ⟨m6, em6, g9⟩ := bindS g9; obtain ⟨m7, em7, g9⟩ := bindS g9; cases g9; exact (b_tb (x_call (a_cons (x_unwrap (x_v (i := 3) rfl) em6) (a_cons (x_v (i := 8) rfl) a_nil)) (S_below m6 m5 _ em7))))) (fun hk10 => ?_) (fun hk10 => ?_)
  · rw [hk10] at h; rw [if_pos rfl] at h
    obtain ⟨v_found_11, ev_found_11, h⟩ := bindS h
    refine w_set (i := 3) (x_to (x_some (x_v (i := 8) rfl)) (Option.some.inj ev_found_11)) ?_
    cases h
    exact ⟨_, rfl, _, _, _, _, _, rfl⟩
  · rw [hk10] at h; rw [if_neg (by decide)] at h
    refine w_skip ?_
    cases h
    exact ⟨_, rfl, _, _, _, _, _, rfl⟩
theorem S_reach (v_shape : List ((Int × Int) × (Int × Int))) (v_a : Int) (v_b : Int) (r : Int × Int) (h : T_reach v_shape v_a v_b = some r) : F_reach [enc v_shape, enc v_a, enc v_b] = some (enc r) := by
  unfold T_reach at h
  unfold F_reach
  refine fn_of ?_
  show Wp (B_reach [some (enc v_shape), some (enc v_a), some (enc v_b), none, none, none, none, none, none]) _
  unfold B_reach
  obtain ⟨v_found_1, ev_found_1, h⟩ := bindS h
  refine w_seq (w_set (i := 3) (x_to x_none (Option.some.inj ev_found_1)) ?_)
  show Wp _ _
  obtain ⟨o12, eo12, h⟩ := bindS h
  refine w_seq (w_for (R1_reach v_shape v_a v_b) (i_list (x_v (i := 0) rfl)) ⟨_, _, _, _, _, rfl⟩ eo12 (fun za zs zo zr zh zR => STL1_reach v_shape v_a v_b za zs zo zr zh zR) (fun ρ' hR => ?_))
  obtain ⟨j4, j5, j6, j7, j8, rfl⟩ := hR
  show Wp _ _
  obtain ⟨m13, em13, h⟩ := bindS h
  cases h
  exact w_ret (x_unwrap (x_v (i := 3) rfl) em13) rfl
theorem S_pushed (v_shape : List ((Int × Int) × (Int × Int))) (v_push : (Int × Int) × (Int × Int)) (r : List ((Int × Int) × (Int × Int))) (h : T_pushed v_shape v_push = some r) : F_pushed [enc v_shape, enc v_push] = some (enc r) := by
  unfold T_pushed at h
  unfold F_pushed
  refine fn_of ?_
  show Wp (B_pushed [some (enc v_shape), some (enc v_push), none, none]) _
  unfold B_pushed
  obtain ⟨m6, em6, h⟩ := bindS h
  cases h
  exact w_retL (n_comp (i_list (x_v (i := 0) rfl)) em6 (fun x1 y5 q4 => ⟨_, gt2, by obtain ⟨m2, em2, q4⟩ := bindS q4; obtain ⟨m3, em3, q4⟩ := bindS q4; cases q4; exact (x_tup2 (x_call (a_cons (x_v (i := 2) rfl) (a_cons (x_ix20 (x_v (i := 1) rfl)) a_nil)) (S_plus x1.1 v_push.1 _ em2)) (x_call (a_cons (x_v (i := 3) rfl) (a_cons (x_ix21 (x_v (i := 1) rfl)) a_nil)) (S_plus x1.2 v_push.2 _ em3)))⟩)) rfl
theorem S_sized (v_shape : List ((Int × Int) × (Int × Int))) (v_factor : Int × Int) (r : List ((Int × Int) × (Int × Int))) (h : T_sized v_shape v_factor = some r) : F_sized [enc v_shape, enc v_factor] = some (enc r) := by
  unfold T_sized at h
  unfold F_sized
  refine fn_of ?_
  show Wp (B_sized [some (enc v_shape), some (enc v_factor), none, none]) _
  unfold B_sized
  refine w_seq (w_if (b_tb (x_le (x_ix20 (x_v (i := 1) rfl)) (x_int 0))) (fun hk1 => ?_) (fun hk1 => ?_))
  · rw [hk1] at h; rw [if_pos rfl] at h
    cases h
  · rw [hk1] at h; rw [if_neg (by decide)] at h
    refine w_skip ?_
    show Wp _ _
    obtain ⟨m7, em7, h⟩ := bindS h
    cases h
    exact w_retL (n_comp (i_list (x_v (i := 0) rfl)) em7 (fun x2 y6 q5 => ⟨_, gt2, by obtain ⟨m3, em3, q5⟩ := bindS q5; obtain ⟨m4, em4, q5⟩ := bindS q5; cases q5; exact (x_tup2 (x_call (a_cons (x_v (i := 2) rfl) (a_cons (x_v (i := 1) rfl) a_nil)) (S_times x2.1 v_factor _ em3)) (x_call (a_cons (x_v (i := 3) rfl) (a_cons (x_v (i := 1) rfl) a_nil)) (S_times x2.2 v_factor _ em4)))⟩)) rfl
theorem S_comes_ahead (v_one : (Int × Int) × (Int × Int)) (v_other : (Int × Int) × (Int × Int)) (r : Bool) (h : T_comes_ahead v_one v_other = some r) : F_comes_ahead [enc v_one, enc v_other] = some (enc r) := by
  unfold T_comes_ahead at h
  unfold F_comes_ahead
  refine fn_of ?_
  show Wp (B_comes_ahead [some (enc v_one), some (enc v_other), none, none]) _
  unfold B_comes_ahead
  obtain ⟨m1, em1, h⟩ := bindS h
  refine w_seq (w_set (i := 2) (x_call (a_cons (x_v (i := 0) rfl) a_nil) (S_flat v_one _ em1)) ?_)
  show Wp _ _
  obtain ⟨m2, em2, h⟩ := bindS h
  refine w_seq (w_set (i := 3) (x_call (a_cons (x_v (i := 1) rfl) a_nil) (S_flat v_other _ em2)) ?_)
  show Wp _ _
  obtain ⟨m3, em3, h⟩ := bindS h
  obtain ⟨m4, em4, h⟩ := bindS h
  refine w_seq (w_if (b_tb (x_ne (x_mul (x_ix30 (x_v (i := 2) rfl)) (x_ix32 (x_v (i := 3) rfl)) em3) (x_mul (x_ix30 (x_v (i := 3) rfl)) (x_ix32 (x_v (i := 2) rfl)) em4))) (fun hk5 => ?_) (fun hk5 => ?_))
  · rw [hk5] at h; rw [if_pos rfl] at h
    obtain ⟨m6, em6, h⟩ := bindS h
    obtain ⟨m7, em7, h⟩ := bindS h
    cases h
    exact w_ret (x_lt (x_mul (x_ix30 (x_v (i := 2) rfl)) (x_ix32 (x_v (i := 3) rfl)) em6) (x_mul (x_ix30 (x_v (i := 3) rfl)) (x_ix32 (x_v (i := 2) rfl)) em7)) rfl
  · rw [hk5] at h; rw [if_neg (by decide)] at h
    refine w_skip ?_
    show Wp _ _
    obtain ⟨m8, em8, h⟩ := bindS h
    obtain ⟨m9, em9, h⟩ := bindS h
    cases h
    exact w_ret (x_lt (x_mul (x_ix31 (x_v (i := 2) rfl)) (x_ix32 (x_v (i := 3) rfl)) em8) (x_mul (x_ix31 (x_v (i := 3) rfl)) (x_ix32 (x_v (i := 2) rfl)) em9)) rfl
abbrev R1_turned (k0_shape : List ((Int × Int) × (Int × Int))) (k1_ring : List ((Int × Int) × (Int × Int))) (s : Int) (ρ : Rho) : Prop := ∃ j3 j4 j5 : Option D, ρ = [some (enc k0_shape), some (enc k1_ring), some (enc s), j3, j4, j5]
theorem STL1_turned (k0_shape : List ((Int × Int) × (Int × Int))) (k1_ring : List ((Int × Int) × (Int × Int))) (a : Int) (s : Int) (o) (ρ : Rho) (h : TL1_turned k1_ring a s = some o) (hR : R1_turned k0_shape k1_ring s ρ) : ∃ ρ1, (nameG 3) (enc a) ρ = some ρ1 ∧ Wp (L1_turned ρ1) (To (R1_turned k0_shape k1_ring) o) := by
  obtain ⟨j3, j4, j5, rfl⟩ := hR
  refine ⟨_, rfl, ?_⟩
  unfold L1_turned
  unfold TL1_turned at h
  obtain ⟨m9, em9, h⟩ := bindS h
  obtain ⟨m10, em10, h⟩ := bindS h
  obtain ⟨m11, em11, h⟩ := bindS h
  refine w_if (b_tb (x_call (a_cons (x_ixl (x_v (i := 1) rfl) (x_v (i := 3) rfl) em9) (a_cons (x_ixl (x_v (i := 1) rfl) (x_v (i := 2) rfl) em10) a_nil)) (S_comes_ahead m9 m10 _ em11))) (fun hk12 => ?_) (fun hk12 => ?_)
  · rw [hk12] at h; rw [if_pos rfl] at h
    refine w_set (i := 2) (x_v (i := 3) rfl) ?_
    cases h
    exact ⟨_, rfl, _, _, _, rfl⟩
  · rw [hk12] at h; rw [if_neg (by decide)] at h
    refine w_skip ?_
    cases h
    exact ⟨_, rfl, _, _, _, rfl⟩
theorem S_turned (v_shape : List ((Int × Int) × (Int × Int))) (r : List ((Int × Int) × (Int × Int))) (h : T_turned v_shape = some r) : F_turned [enc v_shape] = some (enc r) := by
  unfold T_turned at h
  unfold F_turned
  refine fn_of ?_
  show Wp (B_turned [some (enc v_shape), none, none, none, none, none]) _
  unfold B_turned
  obtain ⟨m6, em6, h⟩ := bindS h
  refine w_seq (w_setL (i := 1) (n_comp (i_list (x_v (i := 0) rfl)) em6 (fun x1 y5 q4 => ⟨_, gt2, by obtain ⟨m2, em2, q4⟩ := bindS q4; obtain ⟨m3, em3, q4⟩ := bindS q4; cases q4; exact (x_tup2 (x_call (a_cons (x_tup2 (x_int 0) (x_int 1)) (a_cons (x_v (i := 4) rfl) a_nil)) (S_minus ((0, 1)) x1.1 _ em2)) (x_call (a_cons (x_tup2 (x_int 0) (x_int 1)) (a_cons (x_v (i := 5) rfl) a_nil)) (S_minus ((0, 1)) x1.2 _ em3)))⟩)) ?_)
  show Wp _ _
  obtain ⟨v_start_7, ev_start_7, h⟩ := bindS h
  refine w_seq (w_set (i := 2) (x_to (x_int 0) (Option.some.inj ev_start_7)) ?_)
  show Wp _ _
  obtain ⟨m8, em8, h⟩ := bindS h
  obtain ⟨o13, eo13, h⟩ := bindS h
  refine w_seq (w_for (R1_turned v_shape m6) (i_rng1 (x_len (x_v (i := 1) rfl)) em8) ⟨_, _, _, rfl⟩ eo13 (fun za zs zo zr zh zR => STL1_turned v_shape m6 za zs zo zr zh zR) (fun ρ' hR => ?_))
  obtain ⟨j3, j4, j5, rfl⟩ := hR
  show Wp _ _
  obtain ⟨m14, em14, h⟩ := bindS h
  obtain ⟨m15, em15, h⟩ := bindS h
  obtain ⟨m16, em16, h⟩ := bindS h
  cases h
  exact w_retL (n_cat (x_l (n_slFrom (x_v (i := 1) rfl) (x_v (i := 2) rfl) em14)) (x_l (n_slTo (x_v (i := 1) rfl) (x_v (i := 2) rfl) em15)) em16) rfl
abbrev R1_ways_of (k0_shape : List ((Int × Int) × (Int × Int))) (s : (List ((Int × Int) × (Int × Int)))) (ρ : Rho) : Prop := ∃ j2 j3 j4 : Option D, ρ = [some (enc k0_shape), some (enc s), j2, j3, j4]
theorem STL1_ways_of (k0_shape : List ((Int × Int) × (Int × Int))) (a : Int) (s : (List ((Int × Int) × (Int × Int)))) (o) (ρ : Rho) (h : TL1_ways_of k0_shape a s = some o) (hR : R1_ways_of k0_shape s ρ) : ∃ ρ1, (nameG 2) (enc a) ρ = some ρ1 ∧ Wp (L1_ways_of ρ1) (To (R1_ways_of k0_shape) o) := by
  obtain ⟨j2, j3, j4, rfl⟩ := hR
  refine ⟨_, rfl, ?_⟩
  unfold L1_ways_of
  unfold TL1_ways_of at h
  obtain ⟨m3, em3, h⟩ := bindS h
  refine w_seq (w_set (i := 3) (x_ixl (x_v (i := 0) rfl) (x_v (i := 2) rfl) em3) ?_)
  show Wp _ _
  obtain ⟨m4, em4, h⟩ := bindS h
  obtain ⟨m5, em5, h⟩ := bindS h
  refine w_seq (w_set (i := 4) (x_ixl (x_v (i := 0) rfl) (x_mod (x_add (x_v (i := 2) rfl) (x_int 1)) (x_len (x_v (i := 0) rfl)) em4) em5) ?_)
  show Wp _ _
  obtain ⟨m6, em6, h⟩ := bindS h
  obtain ⟨m7, em7, h⟩ := bindS h
  obtain ⟨m8, em8, h⟩ := bindS h
  refine w_app (i := 1) rfl (x_tup2 (x_call (a_cons (x_ix20 (x_v (i := 4) rfl)) (a_cons (x_ix20 (x_v (i := 3) rfl)) a_nil)) (S_minus m5.1 m3.1 _ em6)) (x_call (a_cons (x_ix21 (x_v (i := 4) rfl)) (a_cons (x_ix21 (x_v (i := 3) rfl)) a_nil)) (S_minus m5.2 m3.2 _ em7))) em8 ?_
  cases h
  exact ⟨_, rfl, _, _, _, rfl⟩
theorem S_ways_of (v_shape : List ((Int × Int) × (Int × Int))) (r : List ((Int × Int) × (Int × Int))) (h : T_ways_of v_shape = some r) : F_ways_of [enc v_shape] = some (enc r) := by
  unfold T_ways_of at h
  unfold F_ways_of
  refine fn_of ?_
  show Wp (B_ways_of [some (enc v_shape), none, none, none, none]) _
  unfold B_ways_of
  obtain ⟨v_found_1, ev_found_1, h⟩ := bindS h
  refine w_seq (w_setL (i := 1) (n_to (n_lst l_nil) (Option.some.inj ev_found_1)) ?_)
  show Wp _ _
  obtain ⟨m2, em2, h⟩ := bindS h
  obtain ⟨o9, eo9, h⟩ := bindS h
  refine w_seq (w_for (R1_ways_of v_shape) (i_rng1 (x_len (x_v (i := 0) rfl)) em2) ⟨_, _, _, rfl⟩ eo9 (fun za zs zo zr zh zR => STL1_ways_of v_shape za zs zo zr zh zR) (fun ρ' hR => ?_))
  obtain ⟨j2, j3, j4, rfl⟩ := hR
  show Wp _ _
  cases h
  exact w_retV (i := 1) rfl rfl
theorem S_to_left (v_one : (Int × Int) × (Int × Int)) (v_other : (Int × Int) × (Int × Int)) (r : Int) (h : T_to_left v_one v_other = some r) : F_to_left [enc v_one, enc v_other] = some (enc r) := by
  unfold T_to_left at h
  unfold F_to_left
  refine fn_of ?_
  show Wp (B_to_left [some (enc v_one), some (enc v_other), none, none]) _
  unfold B_to_left
  obtain ⟨m1, em1, h⟩ := bindS h
  refine w_seq (w_set (i := 2) (x_call (a_cons (x_v (i := 0) rfl) a_nil) (S_flat v_one _ em1)) ?_)
  show Wp _ _
  obtain ⟨m2, em2, h⟩ := bindS h
  refine w_seq (w_set (i := 3) (x_call (a_cons (x_v (i := 1) rfl) a_nil) (S_flat v_other _ em2)) ?_)
  show Wp _ _
  obtain ⟨m3, em3, h⟩ := bindS h
  obtain ⟨m4, em4, h⟩ := bindS h
  cases h
  exact w_ret (x_sub (x_mul (x_ix30 (x_v (i := 2) rfl)) (x_ix31 (x_v (i := 3) rfl)) em3) (x_mul (x_ix31 (x_v (i := 2) rfl)) (x_ix30 (x_v (i := 3) rfl)) em4)) rfl
abbrev R1_merged (k0_ones : List ((Int × Int) × (Int × Int))) (k1_others : List ((Int × Int) × (Int × Int))) (s : (List ((Int × Int) × (Int × Int))) × Int × Int) (ρ : Rho) : Prop := ∃ j5 j6 j7 j8 : Option D, ρ = [some (enc k0_ones), some (enc k1_others), some (enc s.1), some (enc s.2.1), some (enc s.2.2), j5, j6, j7, j8]
theorem STL1_merged (k0_ones : List ((Int × Int) × (Int × Int))) (k1_others : List ((Int × Int) × (Int × Int))) (s : (List ((Int × Int) × (Int × Int))) × Int × Int) (o) (ρ : Rho) (h : TL1_merged k0_ones k1_others s = some o) (hR : R1_merged k0_ones k1_others s ρ) : Wp (L1_merged ρ) (To (R1_merged k0_ones k1_others) o) := by
  obtain ⟨j5, j6, j7, j8, rfl⟩ := hR
  unfold L1_merged
  unfold TL1_merged at h
  obtain ⟨v_turn_4, ev_turn_4, h⟩ := bindS h
  refine w_seq (w_set (i := 5) (x_to (x_int 0) (Option.some.inj ev_turn_4)) ?_)
  show Wp _ _
  obtain ⟨s7, hs6, h⟩ := bindS h
  refine w_mid (fun ρ' => ∃ j6 j7 j8 : Option D, ρ' = [some (enc k0_ones), some (enc k1_others), some (enc s.1), some (enc s.2.1), some (enc s.2.2), some (enc s7), j6, j7, j8]) (w_if (b_and (b_tb (x_lt (x_v (i := 3) rfl) (x_len (x_v (i := 0) rfl)))) (fun _ => (b_tb (x_lt (x_v (i := 4) rfl) (x_len (x_v (i := 1) rfl)))))) (fun hk5 => ?_) (fun hk5 => ?_)) ?_
  · rw [hk5] at hs6; rw [if_pos rfl] at hs6
    obtain ⟨m8, em8, hs6⟩ := bindS hs6
    obtain ⟨m9, em9, hs6⟩ := bindS hs6
    obtain ⟨m10, em10, hs6⟩ := bindS hs6
    refine w_set (i := 5) (x_call (a_cons (x_ixl (x_v (i := 0) rfl) (x_v (i := 3) rfl) em8) (a_cons (x_ixl (x_v (i := 1) rfl) (x_v (i := 4) rfl) em9) a_nil)) (S_to_left m8 m9 _ em10)) ?_
    cases hs6
    exact ⟨_, rfl, _, _, _, rfl⟩
  · rw [hk5] at hs6; rw [if_neg (by decide)] at hs6
    refine w_skip ?_
    cases hs6
    exact ⟨_, rfl, _, _, _, rfl⟩
  · rintro ρ' ⟨j6, j7, j8, rfl⟩
    obtain ⟨v_way_11, ev_way_11, h⟩ := bindS h
    refine w_seq (w_set (i := 6) (x_to (x_tup2 (x_tup2 (x_int 0) (x_int 1)) (x_tup2 (x_int 0) (x_int 1))) (Option.some.inj ev_way_11)) ?_)
    show Wp _ _
    obtain ⟨v_first_12, ev_first_12, h⟩ := bindS h
    refine w_seq (w_set (i := 7) (x_to (x_or (b_tb (x_eq (x_v (i := 4) rfl) (x_len (x_v (i := 1) rfl)))) (fun _ => (x_and (b_tb (x_lt (x_v (i := 3) rfl) (x_len (x_v (i := 0) rfl)))) (fun _ => (x_ge (x_v (i := 5) rfl) (x_int 0)))))) (Option.some.inj ev_first_12)) ?_)
    show Wp _ _
    obtain ⟨v_second_13, ev_second_13, h⟩ := bindS h
    refine w_seq (w_set (i := 8) (x_to (x_or (b_tb (x_eq (x_v (i := 3) rfl) (x_len (x_v (i := 0) rfl)))) (fun _ => (x_and (b_tb (x_lt (x_v (i := 4) rfl) (x_len (x_v (i := 1) rfl)))) (fun _ => (x_le (x_v (i := 5) rfl) (x_int 0)))))) (Option.some.inj ev_second_13)) ?_)
    show Wp _ _
    obtain ⟨s16, hs15, h⟩ := bindS h
    refine w_mid (fun ρ' => ρ' = [some (enc k0_ones), some (enc k1_others), some (enc s.1), some (enc s16.1), some (enc s.2.2), some (enc s7), some (enc s16.2), some (enc v_first_12), some (enc v_second_13)]) (w_if (b_tb (x_v (i := 7) rfl)) (fun hk14 => ?_) (fun hk14 => ?_)) ?_
    · rw [hk14] at hs15; rw [if_pos rfl] at hs15
      obtain ⟨m17, em17, hs15⟩ := bindS hs15
      refine w_seq (w_set (i := 6) (x_ixl (x_v (i := 0) rfl) (x_v (i := 3) rfl) em17) ?_)
      show Wp _ _
      obtain ⟨v_k_18, ev_k_18, hs15⟩ := bindS hs15
      refine w_set (i := 3) (x_to (x_add (x_v (i := 3) rfl) (x_int 1)) (Option.some.inj ev_k_18)) ?_
      cases hs15
      exact ⟨_, rfl, rfl⟩
    · rw [hk14] at hs15; rw [if_neg (by decide)] at hs15
      refine w_skip ?_
      cases hs15
      exact ⟨_, rfl, rfl⟩
    · rintro ρ' rfl
      obtain ⟨s21, hs20, h⟩ := bindS h
      refine w_mid (fun ρ' => ρ' = [some (enc k0_ones), some (enc k1_others), some (enc s.1), some (enc s16.1), some (enc s21.1), some (enc s7), some (enc s21.2), some (enc v_first_12), some (enc v_second_13)]) (w_if (b_tb (x_v (i := 8) rfl)) (fun hk19 => ?_) (fun hk19 => ?_)) ?_
      · rw [hk19] at hs20; rw [if_pos rfl] at hs20
        obtain ⟨m22, em22, hs20⟩ := bindS hs20
        obtain ⟨m23, em23, hs20⟩ := bindS hs20
        obtain ⟨m24, em24, hs20⟩ := bindS hs20
        obtain ⟨m25, em25, hs20⟩ := bindS hs20
        obtain ⟨v_way_26, ev_way_26, hs20⟩ := bindS hs20
        refine w_seq (w_set (i := 6) (x_to (x_tup2 (x_call (a_cons (x_ix20 (x_v (i := 6) rfl)) (a_cons (x_ix20 (x_ixl (x_v (i := 1) rfl) (x_v (i := 4) rfl) em22)) a_nil)) (S_plus s16.2.1 m22.1 _ em23)) (x_call (a_cons (x_ix21 (x_v (i := 6) rfl)) (a_cons (x_ix21 (x_ixl (x_v (i := 1) rfl) (x_v (i := 4) rfl) em24)) a_nil)) (S_plus s16.2.2 m24.2 _ em25))) (Option.some.inj ev_way_26)) ?_)
        show Wp _ _
        obtain ⟨v_j_27, ev_j_27, hs20⟩ := bindS hs20
        refine w_set (i := 4) (x_to (x_add (x_v (i := 4) rfl) (x_int 1)) (Option.some.inj ev_j_27)) ?_
        cases hs20
        exact ⟨_, rfl, rfl⟩
      · rw [hk19] at hs20; rw [if_neg (by decide)] at hs20
        refine w_skip ?_
        cases hs20
        exact ⟨_, rfl, rfl⟩
      · rintro ρ' rfl
        obtain ⟨m28, em28, h⟩ := bindS h
        refine w_app (i := 2) rfl (x_v (i := 6) rfl) em28 ?_
        cases h
        exact ⟨_, rfl, _, _, _, _, rfl⟩
theorem STL1_mergedc (k0_ones : List ((Int × Int) × (Int × Int))) (k1_others : List ((Int × Int) × (Int × Int))) (s : (List ((Int × Int) × (Int × Int))) × Int × Int) (o) (ρ : Rho) (h : TL1_mergedc k0_ones k1_others s = some o) (hR : R1_merged k0_ones k1_others s ρ) : C1_merged ρ = some o := by
  obtain ⟨j5, j6, j7, j8, rfl⟩ := hR
  unfold C1_merged
  unfold TL1_mergedc at h
  cases h
  exact (b_or (b_tb (x_lt (x_v (i := 3) rfl) (x_len (x_v (i := 0) rfl)))) (fun _ => (b_tb (x_lt (x_v (i := 4) rfl) (x_len (x_v (i := 1) rfl))))))
theorem S_merged (v_ones : List ((Int × Int) × (Int × Int))) (v_others : List ((Int × Int) × (Int × Int))) (r : List ((Int × Int) × (Int × Int))) (h : T_merged v_ones v_others = some r) : F_merged [enc v_ones, enc v_others] = some (enc r) := by
  unfold T_merged at h
  unfold F_merged
  refine fn_of ?_
  show Wp (B_merged [some (enc v_ones), some (enc v_others), none, none, none, none, none, none, none]) _
  unfold B_merged
  obtain ⟨v_found_1, ev_found_1, h⟩ := bindS h
  refine w_seq (w_setL (i := 2) (n_to (n_lst l_nil) (Option.some.inj ev_found_1)) ?_)
  show Wp _ _
  obtain ⟨v_k_2, ev_k_2, h⟩ := bindS h
  refine w_seq (w_set (i := 3) (x_to (x_int 0) (Option.some.inj ev_k_2)) ?_)
  show Wp _ _
  obtain ⟨v_j_3, ev_j_3, h⟩ := bindS h
  refine w_seq (w_set (i := 4) (x_to (x_int 0) (Option.some.inj ev_j_3)) ?_)
  show Wp _ _
  obtain ⟨o29, eo29, h⟩ := bindS h
  refine w_seq (w_while (R1_merged v_ones v_others) (by rw [fuel_list (i := 0) rfl, fuel_list (i := 1) rfl]) ⟨_, _, _, _, rfl⟩ eo29 (fun zs zo zr zh zR => STL1_mergedc v_ones v_others zs zo zr zh zR) (fun zs zo zr zh zR => STL1_merged v_ones v_others zs zo zr zh zR) (fun ρ' hR => ?_))
  obtain ⟨j5, j6, j7, j8, rfl⟩ := hR
  show Wp _ _
  cases h
  exact w_retV (i := 2) rfl rfl
abbrev R1_summed (k0_one : List ((Int × Int) × (Int × Int))) (k1_other : List ((Int × Int) × (Int × Int))) (s : ((Int × Int) × (Int × Int)) × (List ((Int × Int) × (Int × Int)))) (ρ : Rho) : Prop := ∃ j4 : Option D, ρ = [some (enc k0_one), some (enc k1_other), some (enc s.1), some (enc s.2), j4]
theorem STL1_summed (k0_one : List ((Int × Int) × (Int × Int))) (k1_other : List ((Int × Int) × (Int × Int))) (a : (Int × Int) × (Int × Int)) (s : ((Int × Int) × (Int × Int)) × (List ((Int × Int) × (Int × Int)))) (o) (ρ : Rho) (h : TL1_summed  a s = some o) (hR : R1_summed k0_one k1_other s ρ) : ∃ ρ1, (nameG 4) (enc a) ρ = some ρ1 ∧ Wp (L1_summed ρ1) (To (R1_summed k0_one k1_other) o) := by
  obtain ⟨j4, rfl⟩ := hR
  refine ⟨_, rfl, ?_⟩
  unfold L1_summed
  unfold TL1_summed at h
  obtain ⟨m12, em12, h⟩ := bindS h
  refine w_seq (w_app (i := 3) rfl (x_v (i := 2) rfl) em12 ?_)
  show Wp _ _
  obtain ⟨m13, em13, h⟩ := bindS h
  obtain ⟨m14, em14, h⟩ := bindS h
  obtain ⟨v_here_15, ev_here_15, h⟩ := bindS h
  refine w_set (i := 2) (x_to (x_tup2 (x_call (a_cons (x_ix20 (x_v (i := 2) rfl)) (a_cons (x_ix20 (x_v (i := 4) rfl)) a_nil)) (S_plus s.1.1 a.1 _ em13)) (x_call (a_cons (x_ix21 (x_v (i := 2) rfl)) (a_cons (x_ix21 (x_v (i := 4) rfl)) a_nil)) (S_plus s.1.2 a.2 _ em14))) (Option.some.inj ev_here_15)) ?_
  cases h
  exact ⟨_, rfl, _, rfl⟩
theorem S_summed (v_one : List ((Int × Int) × (Int × Int))) (v_other : List ((Int × Int) × (Int × Int))) (r : List ((Int × Int) × (Int × Int))) (h : T_summed v_one v_other = some r) : F_summed [enc v_one, enc v_other] = some (enc r) := by
  unfold T_summed at h
  unfold F_summed
  refine fn_of ?_
  show Wp (B_summed [some (enc v_one), some (enc v_other), none, none, none]) _
  unfold B_summed
  obtain ⟨m1, em1, h⟩ := bindS h
  obtain ⟨m2, em2, h⟩ := bindS h
  obtain ⟨m3, em3, h⟩ := bindS h
  obtain ⟨m4, em4, h⟩ := bindS h
  obtain ⟨m5, em5, h⟩ := bindS h
  obtain ⟨m6, em6, h⟩ := bindS h
  obtain ⟨v_here_7, ev_here_7, h⟩ := bindS h
  refine w_seq (w_set (i := 2) (x_to (x_tup2 (x_call (a_cons (x_ix20 (x_ixl (x_v (i := 0) rfl) (x_int 0) em1)) (a_cons (x_ix20 (x_ixl (x_v (i := 1) rfl) (x_int 0) em2)) a_nil)) (S_plus m1.1 m2.1 _ em3)) (x_call (a_cons (x_ix21 (x_ixl (x_v (i := 0) rfl) (x_int 0) em4)) (a_cons (x_ix21 (x_ixl (x_v (i := 1) rfl) (x_int 0) em5)) a_nil)) (S_plus m4.2 m5.2 _ em6))) (Option.some.inj ev_here_7)) ?_)
  show Wp _ _
  obtain ⟨v_found_8, ev_found_8, h⟩ := bindS h
  refine w_seq (w_setL (i := 3) (n_to (n_lst l_nil) (Option.some.inj ev_found_8)) ?_)
  show Wp _ _
  obtain ⟨m9, em9, h⟩ := bindS h
  obtain ⟨m10, em10, h⟩ := bindS h
  obtain ⟨m11, em11, h⟩ := bindS h
  obtain ⟨o16, eo16, h⟩ := bindS h
  refine w_seq (w_for (R1_summed v_one v_other) (i_list (x_l (n_call (a_cons (x_l (n_call (a_cons (x_v (i := 0) rfl) a_nil) (S_ways_of v_one _ em9))) (a_cons (x_l (n_call (a_cons (x_v (i := 1) rfl) a_nil) (S_ways_of v_other _ em10))) a_nil)) (S_merged m9 m10 _ em11)))) ⟨_, rfl⟩ eo16 (fun za zs zo zr zh zR => STL1_summed v_one v_other za zs zo zr zh zR) (fun ρ' hR => ?_))
  obtain ⟨j4, rfl⟩ := hR
  show Wp _ _
  cases h
  exact w_retV (i := 3) rfl rfl
theorem S__law_cell_at (v_script : List Int) (v_k : Int) (r : Int) (h : T__law_cell_at v_script v_k = some r) : F__law_cell_at [enc v_script, enc v_k] = some (enc r) := by
  unfold T__law_cell_at at h
  unfold F__law_cell_at
  refine fn_of ?_
  show Wp (B__law_cell_at [some (enc v_script), some (enc v_k)]) _
  unfold B__law_cell_at
  refine w_seq (w_if (b_tb (x_lt (x_v (i := 1) rfl) (x_len (x_v (i := 0) rfl)))) (fun hk1 => ?_) (fun hk1 => ?_))
  · rw [hk1] at h; rw [if_pos rfl] at h
    obtain ⟨m2, em2, h⟩ := bindS h
    cases h
    exact w_ret (x_ixl (x_v (i := 0) rfl) (x_v (i := 1) rfl) em2) rfl
  · rw [hk1] at h; rw [if_neg (by decide)] at h
    refine w_skip ?_
    show Wp _ _
    cases h
    exact w_ret (x_int 0) rfl
abbrev R1__law_block (k0_script : List Int) (k1_k : Int) (s : Int) (ρ : Rho) : Prop := ∃ j3 : Option D, ρ = [some (enc k0_script), some (enc k1_k), some (enc s), j3]
theorem STL1__law_block (k0_script : List Int) (k1_k : Int) (a : Int) (s : Int) (o) (ρ : Rho) (h : TL1__law_block  a s = some o) (hR : R1__law_block k0_script k1_k s ρ) : ∃ ρ1, (nameG 3) (enc a) ρ = some ρ1 ∧ Wp (L1__law_block ρ1) (To (R1__law_block k0_script k1_k) o) := by
  obtain ⟨j3, rfl⟩ := hR
  refine ⟨_, rfl, ?_⟩
  unfold L1__law_block
  unfold TL1__law_block at h
  obtain ⟨v_cell_8, ev_cell_8, h⟩ := bindS h
  refine w_set (i := 2) (x_to (x_divL (x_v (i := 2) rfl) (x_int 2147483587) (by decide) (by decide)) (Option.some.inj ev_cell_8)) ?_
  cases h
  exact ⟨_, rfl, _, rfl⟩
theorem S__law_block (v_script : List Int) (v_k : Int) (r : Int) (h : T__law_block v_script v_k = some r) : F__law_block [enc v_script, enc v_k] = some (enc r) := by
  unfold T__law_block at h
  unfold F__law_block
  refine fn_of ?_
  show Wp (B__law_block [some (enc v_script), some (enc v_k), none, none]) _
  unfold B__law_block
  obtain ⟨v_cell_1, ev_cell_1, h⟩ := bindS h
  refine w_seq (w_set (i := 2) (x_to (x_int 0) (Option.some.inj ev_cell_1)) ?_)
  show Wp _ _
  obtain ⟨s4, hs3, h⟩ := bindS h
  refine w_mid (fun ρ' => ∃ j3 : Option D, ρ' = [some (enc v_script), some (enc v_k), some (enc s4), j3]) (w_if (b_tb (x_lt (x_add (x_int 1) (x_modL (x_divL (x_v (i := 1) rfl) (x_int 8) (by decide) (by decide)) (x_int 62) (by decide))) (x_len (x_v (i := 0) rfl)))) (fun hk2 => ?_) (fun hk2 => ?_)) ?_
  · rw [hk2] at hs3; rw [if_pos rfl] at hs3
    obtain ⟨m5, em5, hs3⟩ := bindS hs3
    obtain ⟨v_cell_6, ev_cell_6, hs3⟩ := bindS hs3
    refine w_set (i := 2) (x_to (x_divL (x_ixl (x_v (i := 0) rfl) (x_add (x_int 1) (x_modL (x_divL (x_v (i := 1) rfl) (x_int 8) (by decide) (by decide)) (x_int 62) (by decide))) em5) (x_powL (c := 10000000000000000000000000000000000000000000000000000000000000000) (x_int 10) (x_int 64) (by simp [powD_e])) (by decide) (by decide)) (Option.some.inj ev_cell_6)) ?_
    cases hs3
    exact ⟨_, rfl, _, rfl⟩
  · rw [hk2] at hs3; rw [if_neg (by decide)] at hs3
    refine w_skip ?_
    cases hs3
    exact ⟨_, rfl, _, rfl⟩
  · rintro ρ' ⟨j3, rfl⟩
    obtain ⟨m7, em7, h⟩ := bindS h
    obtain ⟨o9, eo9, h⟩ := bindS h
    refine w_seq (w_for (R1__law_block v_script v_k) (i_rng1 (x_modL (x_v (i := 1) rfl) (x_int 8) (by decide)) em7) ⟨_, rfl⟩ eo9 (fun za zs zo zr zh zR => STL1__law_block v_script v_k za zs zo zr zh zR) (fun ρ' hR => ?_))
    obtain ⟨j3, rfl⟩ := hR
    show Wp _ _
    cases h
    exact w_ret (x_v (i := 2) rfl) rfl
theorem S__law_mixed (v_script : List Int) (v_k : Int) (r : Int) (h : T__law_mixed v_script v_k = some r) : F__law_mixed [enc v_script, enc v_k] = some (enc r) := by
  unfold T__law_mixed at h
  unfold F__law_mixed
  refine fn_of ?_
  show Wp (B__law_mixed [some (enc v_script), some (enc v_k), none, none]) _
  unfold B__law_mixed
  obtain ⟨v_cell_1, ev_cell_1, h⟩ := bindS h
  refine w_seq (w_set (i := 2) (x_to (x_int 0) (Option.some.inj ev_cell_1)) ?_)
  show Wp _ _
  obtain ⟨s4, hs3, h⟩ := bindS h
  refine w_mid (fun ρ' => ∃ j3 : Option D, ρ' = [some (enc v_script), some (enc v_k), some (enc s4), j3]) (w_if (b_tb (x_gt (x_len (x_v (i := 0) rfl)) (x_int 0))) (fun hk2 => ?_) (fun hk2 => ?_)) ?_
  · rw [hk2] at hs3; rw [if_pos rfl] at hs3
    obtain ⟨m5, em5, hs3⟩ := bindS hs3
    refine w_set (i := 2) (x_ixl (x_v (i := 0) rfl) (x_int 0) em5) ?_
    cases hs3
    exact ⟨_, rfl, _, rfl⟩
  · rw [hk2] at hs3; rw [if_neg (by decide)] at hs3
    refine w_skip ?_
    cases hs3
    exact ⟨_, rfl, _, rfl⟩
  · rintro ρ' ⟨j3, rfl⟩
    obtain ⟨m7, em7, h⟩ := bindS h
    refine w_seq (w_if (b_andO (b_tb (x_eq (x_modL (x_divL (x_v (i := 2) rfl) (x_powL (c := 1000000) (x_int 10) (x_int 6) (by simp [powD_e])) (by decide) (by decide)) (x_int 2) (by decide)) (x_int 1))) em7 (fun _ g8 => by obtain ⟨m6, em6, g8⟩ := bindS g8; cases g8; exact (b_tb (x_ne (x_call (a_cons (x_v (i := 0) rfl) (a_cons (x_v (i := 1) rfl) a_nil)) (S__law_block v_script v_k _ em6)) (x_int 0))))) (fun hk9 => ?_) (fun hk9 => ?_))
    · rw [hk9] at h; rw [if_pos rfl] at h
      obtain ⟨m10, em10, h⟩ := bindS h
      cases h
      exact w_ret (x_modL (x_call (a_cons (x_v (i := 0) rfl) (a_cons (x_v (i := 1) rfl) a_nil)) (S__law_block v_script v_k _ em10)) (x_int 2147483587) (by decide)) rfl
    · rw [hk9] at h; rw [if_neg (by decide)] at h
      refine w_skip ?_
      show Wp _ _
      obtain ⟨s13, hs12, h⟩ := bindS h
      refine w_mid (fun ρ' => ∃ j3 : Option D, ρ' = [some (enc v_script), some (enc v_k), some (enc s13), j3]) (w_if (b_tb (x_gt (x_len (x_v (i := 0) rfl)) (x_int 0))) (fun hk11 => ?_) (fun hk11 => ?_)) ?_
      · rw [hk11] at hs12; rw [if_pos rfl] at hs12
        obtain ⟨m14, em14, hs12⟩ := bindS hs12
        obtain ⟨m15, em15, hs12⟩ := bindS hs12
        refine w_set (i := 2) (x_ixl (x_v (i := 0) rfl) (x_mod (x_v (i := 1) rfl) (x_min2 (x_int 63) (x_len (x_v (i := 0) rfl))) em14) em15) ?_
        cases hs12
        exact ⟨_, rfl, _, rfl⟩
      · rw [hk11] at hs12; rw [if_neg (by decide)] at hs12
        refine w_skip ?_
        cases hs12
        exact ⟨_, rfl, _, rfl⟩
      · rintro ρ' ⟨j3, rfl⟩
        obtain ⟨v_number_16, ev_number_16, h⟩ := bindS h
        refine w_seq (w_set (i := 3) (x_to (x_add (x_modL (x_v (i := 2) rfl) (x_powL (c := 1000000000000000000) (x_int 10) (x_int 18) (by simp [powD_e])) (by decide)) (x_mulL (x_int 48271) (x_add (x_v (i := 1) rfl) (x_int 1)) (by decide))) (Option.some.inj ev_number_16)) ?_)
        show Wp _ _
        obtain ⟨m17, em17, h⟩ := bindS h
        obtain ⟨v_number_18, ev_number_18, h⟩ := bindS h
        refine w_seq (w_set (i := 3) (x_to (x_add (x_modL (x_mul (x_v (i := 3) rfl) (x_v (i := 3) rfl) em17) (x_int 2147483629) (by decide)) (x_mulL (x_int 69621) (x_v (i := 1) rfl) (by decide))) (Option.some.inj ev_number_18)) ?_)
        show Wp _ _
        obtain ⟨m19, em19, h⟩ := bindS h
        cases h
        exact w_ret (x_modL (x_mul (x_v (i := 3) rfl) (x_v (i := 3) rfl) em19) (x_int 2147483587) (by decide)) rfl
abbrev R1__law_points (k0_script : List Int) (k1_start : Int) (k2_most : Int) (k3_way : Int) (s : (List (Int × Int))) (ρ : Rho) : Prop := ∃ j5 j6 j7 j8 j9 : Option D, ρ = [some (enc k0_script), some (enc k1_start), some (enc k2_most), some (enc k3_way), some (enc s), j5, j6, j7, j8, j9]
theorem STL1__law_points (k0_script : List Int) (k1_start : Int) (k2_most : Int) (k3_way : Int) (a : Int) (s : (List (Int × Int))) (o) (ρ : Rho) (h : TL1__law_points_k13 k0_script k1_start k3_way a s = some o) (hR : R1__law_points k0_script k1_start k2_most k3_way s ρ) : ∃ ρ1, (nameG 5) (enc a) ρ = some ρ1 ∧ Wp (L1__law_points ρ1) (To (R1__law_points k0_script k1_start k2_most k3_way) o) := by
  obtain ⟨j5, j6, j7, j8, j9, rfl⟩ := hR
  refine ⟨_, rfl, ?_⟩
  unfold L1__law_points
  unfold TL1__law_points_k13 at h
  obtain ⟨m7, em7, h⟩ := bindS h
  refine w_seq (w_set (i := 6) (x_call (a_cons (x_v (i := 0) rfl) (a_cons (x_add (x_add (x_v (i := 1) rfl) (x_int 2)) (x_v (i := 5) rfl)) a_nil)) (S__law_mixed k0_script (((k1_start + 2) + a)) _ em7)) ?_)
  show Wp _ _
  obtain ⟨v_point_8, ev_point_8, h⟩ := bindS h
  refine w_seq (w_set (i := 7) (x_to (x_tup2 (x_sub (x_modL (x_v (i := 6) rfl) (x_int 7) (by decide)) (x_int 3)) (x_sub (x_modL (x_divL (x_v (i := 6) rfl) (x_int 7) (by decide) (by decide)) (x_int 7) (by decide)) (x_int 3))) (Option.some.inj ev_point_8)) ?_)
  show Wp _ _
  obtain ⟨s11, hs10, h⟩ := bindS h
  refine w_mid (fun ρ' => ∃ j8 j9 : Option D, ρ' = [some (enc k0_script), some (enc k1_start), some (enc k2_most), some (enc k3_way), some (enc s), some (enc a), some (enc m7), some (enc s11), j8, j9]) (w_if (b_tb (x_eq (x_v (i := 3) rfl) (x_int 1))) (fun hk9 => ?_) (fun hk9 => ?_)) ?_
  · rw [hk9] at hs10; rw [if_pos rfl] at hs10
    obtain ⟨v_point_12, ev_point_12, hs10⟩ := bindS hs10
    refine w_set (i := 7) (x_to (x_tup2 (x_sub (x_modL (x_v (i := 6) rfl) (x_int 2001) (by decide)) (x_int 1000)) (x_sub (x_modL (x_divL (x_v (i := 6) rfl) (x_int 2001) (by decide) (by decide)) (x_int 2001) (by decide)) (x_int 1000))) (Option.some.inj ev_point_12)) ?_
    cases hs10
    exact ⟨_, rfl, _, _, rfl⟩
  · rw [hk9] at hs10; rw [if_neg (by decide)] at hs10
    refine w_skip ?_
    cases hs10
    exact ⟨_, rfl, _, _, rfl⟩
  · rintro ρ' ⟨j8, j9, rfl⟩
    obtain ⟨s15, hs14, h⟩ := bindS h
    refine w_mid (fun ρ' => ∃ j8 j9 : Option D, ρ' = [some (enc k0_script), some (enc k1_start), some (enc k2_most), some (enc k3_way), some (enc s), some (enc a), some (enc m7), some (enc s15), j8, j9]) (w_if (b_tb (x_eq (x_v (i := 3) rfl) (x_int 2))) (fun hk13 => ?_) (fun hk13 => ?_)) ?_
    · rw [hk13] at hs14; rw [if_pos rfl] at hs14
      obtain ⟨v_point_16, ev_point_16, hs14⟩ := bindS hs14
      refine w_set (i := 7) (x_to (x_tup2 (x_modL (x_v (i := 6) rfl) (x_int 3) (by decide)) (x_modL (x_divL (x_v (i := 6) rfl) (x_int 3) (by decide) (by decide)) (x_int 3) (by decide))) (Option.some.inj ev_point_16)) ?_
      cases hs14
      exact ⟨_, rfl, _, _, rfl⟩
    · rw [hk13] at hs14; rw [if_neg (by decide)] at hs14
      refine w_skip ?_
      cases hs14
      exact ⟨_, rfl, _, _, rfl⟩
    · rintro ρ' ⟨j8, j9, rfl⟩
      obtain ⟨m17, em17, h⟩ := bindS h
      refine w_app (i := 4) rfl (x_v (i := 7) rfl) em17 ?_
      cases h
      exact ⟨_, rfl, _, _, _, _, _, rfl⟩
theorem S__law_points (v_script : List Int) (v_start : Int) (v_most : Int) (r : List (Int × Int)) (h : T__law_points_k13 v_script v_start v_most = some r) : F__law_points [enc v_script, enc v_start, enc v_most] = some (enc r) := by
  unfold T__law_points_k13 at h
  unfold F__law_points
  refine fn_of ?_
  show Wp (B__law_points [some (enc v_script), some (enc v_start), some (enc v_most), none, none, none, none, none, none, none]) _
  unfold B__law_points
  obtain ⟨m1, em1, h⟩ := bindS h
  obtain ⟨v_way_2, ev_way_2, h⟩ := bindS h
  refine w_seq (w_set (i := 3) (x_to (x_modL (x_call (a_cons (x_v (i := 0) rfl) (a_cons (x_v (i := 1) rfl) a_nil)) (S__law_mixed v_script v_start _ em1)) (x_int 4) (by decide)) (Option.some.inj ev_way_2)) ?_)
  show Wp _ _
  obtain ⟨v_found_3, ev_found_3, h⟩ := bindS h
  refine w_seq (w_setL (i := 4) (n_to (n_lst l_nil) (Option.some.inj ev_found_3)) ?_)
  show Wp _ _
  obtain ⟨m4, em4, h⟩ := bindS h
  obtain ⟨m5, em5, h⟩ := bindS h
  obtain ⟨m6, em6, h⟩ := bindS h
  obtain ⟨o18, eo18, h⟩ := bindS h
  refine w_seq (w_for (R1__law_points v_script v_start v_most v_way_2) (i_rng1 (x_add (x_int 3) (x_mod (x_call (a_cons (x_v (i := 0) rfl) (a_cons (x_add (x_v (i := 1) rfl) (x_int 1)) a_nil)) (S__law_mixed v_script ((v_start + 1)) _ em4)) (x_sub (x_v (i := 2) rfl) (x_int 2)) em5)) em6) ⟨_, _, _, _, _, rfl⟩ eo18 (fun za zs zo zr zh zR => STL1__law_points v_script v_start v_most v_way_2 za zs zo zr zh zR) (fun ρ' hR => ?_))
  obtain ⟨j5, j6, j7, j8, j9, rfl⟩ := hR
  show Wp _ _
  obtain ⟨m19, em19, h⟩ := bindS h
  refine w_seq (w_asg (x_ixl (x_v (i := 4) rfl) (x_int 0) em19) gt2 ?_)
  show Wp _ _
  obtain ⟨m20, em20, h⟩ := bindS h
  obtain ⟨m21, em21, h⟩ := bindS h
  refine w_seq (w_put (i := 4) (x_tup2 (x_add (x_v (i := 8) rfl) (x_int 1)) (x_add (x_v (i := 9) rfl) (x_modL (x_ix21 (x_ixl (x_v (i := 4) rfl) (x_neg (x_int 2)) em20)) (x_int 2) (by decide)))) rfl (x_neg (x_int 2)) em21 ?_)
  show Wp _ _
  obtain ⟨m22, em22, h⟩ := bindS h
  obtain ⟨m23, em23, h⟩ := bindS h
  obtain ⟨m24, em24, h⟩ := bindS h
  refine w_seq (w_put (i := 4) (x_tup2 (x_sub (x_v (i := 8) rfl) (x_modL (x_ix20 (x_ixl (x_v (i := 4) rfl) (x_neg (x_int 1)) em22)) (x_int 2) (by decide))) (x_add (x_add (x_v (i := 9) rfl) (x_int 1)) (x_modL (x_ix21 (x_ixl (x_v (i := 4) rfl) (x_neg (x_int 1)) em23)) (x_int 3) (by decide)))) rfl (x_neg (x_int 1)) em24 ?_)
  show Wp _ _
  cases h
  exact w_retV (i := 4) rfl rfl
theorem S__law_turn (v_one : Int × Int) (v_two : Int × Int) (v_three : Int × Int) (r : Int) (h : T__law_turn v_one v_two v_three = some r) : F__law_turn [enc v_one, enc v_two, enc v_three] = some (enc r) := by
  unfold T__law_turn at h
  unfold F__law_turn
  refine fn_of ?_
  show Wp (B__law_turn [some (enc v_one), some (enc v_two), some (enc v_three), none]) _
  unfold B__law_turn
  obtain ⟨m1, em1, h⟩ := bindS h
  refine w_seq (w_set (i := 3) (x_mul (x_sub (x_ix20 (x_v (i := 1) rfl)) (x_ix20 (x_v (i := 0) rfl))) (x_sub (x_ix21 (x_v (i := 2) rfl)) (x_ix21 (x_v (i := 0) rfl))) em1) ?_)
  show Wp _ _
  obtain ⟨m2, em2, h⟩ := bindS h
  cases h
  exact w_ret (x_sub (x_v (i := 3) rfl) (x_mul (x_sub (x_ix21 (x_v (i := 1) rfl)) (x_ix21 (x_v (i := 0) rfl))) (x_sub (x_ix20 (x_v (i := 2) rfl)) (x_ix20 (x_v (i := 0) rfl))) em2)) rfl
abbrev R3__law_ring (k0_points_here : List (Int × Int)) (k1_found : List (Int × Int)) (k2_row : List (Int × Int)) (k3_point : Int × Int) (s : (List (Int × Int))) (ρ : Rho) : Prop := ρ = [some (enc k0_points_here), some (enc k1_found), some (enc k2_row), some (enc s), some (enc k3_point)]
theorem STL3__law_ring (k0_points_here : List (Int × Int)) (k1_found : List (Int × Int)) (k2_row : List (Int × Int)) (k3_point : Int × Int) (s : (List (Int × Int))) (o) (ρ : Rho) (h : TL3__law_ring k3_point s = some o) (hR : R3__law_ring k0_points_here k1_found k2_row k3_point s ρ) : Wp (L3__law_ring ρ) (To (R3__law_ring k0_points_here k1_found k2_row k3_point) o) := by
  obtain rfl := hR
  unfold L3__law_ring
  unfold TL3__law_ring at h
  obtain ⟨m10, em10, h⟩ := bindS h
  refine w_pop (i := 3) rfl em10 ?_
  cases h
  exact ⟨_, rfl, rfl⟩
theorem STL3__law_ringc (k0_points_here : List (Int × Int)) (k1_found : List (Int × Int)) (k2_row : List (Int × Int)) (k3_point : Int × Int) (s : (List (Int × Int))) (o) (ρ : Rho) (h : TL3__law_ringc k3_point s = some o) (hR : R3__law_ring k0_points_here k1_found k2_row k3_point s ρ) : C3__law_ring ρ = some o := by
  obtain rfl := hR
  unfold C3__law_ring
  unfold TL3__law_ringc at h
  obtain ⟨m8, em8, h⟩ := bindS h
  cases h
  exact (b_andO (b_tb (x_gt (x_len (x_v (i := 3) rfl)) (x_int 1))) em8 (fun _ g9 => by obtain ⟨m5, em5, g9⟩ := bindS g9; obtain ⟨m6, em6, g9⟩ := bindS g9; obtain ⟨m7, em7, g9⟩ := bindS g9; cases g9; exact (b_tb (x_le (x_call (a_cons (x_ixl (x_v (i := 3) rfl) (x_neg (x_int 2)) em5) (a_cons (x_ixl (x_v (i := 3) rfl) (x_neg (x_int 1)) em6) (a_cons (x_v (i := 4) rfl) a_nil))) (S__law_turn m5 m6 k3_point _ em7)) (x_int 0)))))
abbrev R2__law_ring (k0_points_here : List (Int × Int)) (k1_found : List (Int × Int)) (k2_row : List (Int × Int)) (s : (List (Int × Int))) (ρ : Rho) : Prop := ∃ j4 : Option D, ρ = [some (enc k0_points_here), some (enc k1_found), some (enc k2_row), some (enc s), j4]
theorem STL2__law_ring (k0_points_here : List (Int × Int)) (k1_found : List (Int × Int)) (k2_row : List (Int × Int)) (a : Int × Int) (s : (List (Int × Int))) (o) (ρ : Rho) (h : TL2__law_ring  a s = some o) (hR : R2__law_ring k0_points_here k1_found k2_row s ρ) : ∃ ρ1, (nameG 4) (enc a) ρ = some ρ1 ∧ Wp (L2__law_ring ρ1) (To (R2__law_ring k0_points_here k1_found k2_row) o) := by
  obtain ⟨j4, rfl⟩ := hR
  refine ⟨_, rfl, ?_⟩
  unfold L2__law_ring
  unfold TL2__law_ring at h
  obtain ⟨o11, eo11, h⟩ := bindS h
  refine w_seq (w_while (R3__law_ring k0_points_here k1_found k2_row a) (by rw [fuel_list (i := 3) rfl]) rfl eo11 (fun zs zo zr zh zR => STL3__law_ringc k0_points_here k1_found k2_row a zs zo zr zh zR) (fun zs zo zr zh zR => STL3__law_ring k0_points_here k1_found k2_row a zs zo zr zh zR) (fun ρ' hR => ?_))
  obtain rfl := hR
  show Wp _ _
  obtain ⟨m12, em12, h⟩ := bindS h
  refine w_app (i := 3) rfl (x_v (i := 4) rfl) em12 ?_
  cases h
  exact ⟨_, rfl, _, rfl⟩
abbrev R1__law_ring (k0_points_here : List (Int × Int)) (s : (List (Int × Int))) (ρ : Rho) : Prop := ∃ j2 j3 j4 : Option D, ρ = [some (enc k0_points_here), some (enc s), j2, j3, j4]
theorem STL1__law_ring (k0_points_here : List (Int × Int)) (a : List (Int × Int)) (s : (List (Int × Int))) (o) (ρ : Rho) (h : TL1__law_ring  a s = some o) (hR : R1__law_ring k0_points_here s ρ) : ∃ ρ1, (nameG 2) (enc a) ρ = some ρ1 ∧ Wp (L1__law_ring ρ1) (To (R1__law_ring k0_points_here) o) := by
  obtain ⟨j2, j3, j4, rfl⟩ := hR
  refine ⟨_, rfl, ?_⟩
  unfold L1__law_ring
  unfold TL1__law_ring at h
  obtain ⟨v_part_4, ev_part_4, h⟩ := bindS h
  refine w_seq (w_setL (i := 3) (n_to (n_lst l_nil) (Option.some.inj ev_part_4)) ?_)
  show Wp _ _
  obtain ⟨o13, eo13, h⟩ := bindS h
  refine w_seq (w_for (R2__law_ring k0_points_here s a) (i_list (x_v (i := 2) rfl)) ⟨_, rfl⟩ eo13 (fun za zs zo zr zh zR => STL2__law_ring k0_points_here s a za zs zo zr zh zR) (fun ρ' hR => ?_))
  obtain ⟨j4, rfl⟩ := hR
  show Wp _ _
  obtain ⟨m14, em14, h⟩ := bindS h
  refine w_setL (i := 1) (n_cat (x_v (i := 1) rfl) (x_l (n_slM1 (l := fun _ => none) (x_v (i := 3) rfl))) em14) ?_
  cases h
  exact ⟨_, rfl, _, _, _, rfl⟩
theorem S__law_ring (v_points_here : List (Int × Int)) (r : List (Int × Int)) (h : T__law_ring v_points_here = some r) : F__law_ring [enc v_points_here] = some (enc r) := by
  unfold T__law_ring at h
  unfold F__law_ring
  refine fn_of ?_
  show Wp (B__law_ring [some (enc v_points_here), none, none, none, none]) _
  unfold B__law_ring
  obtain ⟨v_found_1, ev_found_1, h⟩ := bindS h
  refine w_seq (w_setL (i := 1) (n_to (n_lst l_nil) (Option.some.inj ev_found_1)) ?_)
  show Wp _ _
  obtain ⟨m2, em2, h⟩ := bindS h
  obtain ⟨m3, em3, h⟩ := bindS h
  obtain ⟨o15, eo15, h⟩ := bindS h
  refine w_seq (w_for (R1__law_ring v_points_here) (i_list (x_l (n_lst (l_cons (x_l (n_sortset (x_v (i := 0) rfl) em2)) (l_cons (x_l (n_rev (x_l (n_sortset (x_v (i := 0) rfl) em3)))) l_nil))))) ⟨_, _, _, rfl⟩ eo15 (fun za zs zo zr zh zR => STL1__law_ring v_points_here za zs zo zr zh zR) (fun ρ' hR => ?_))
  obtain ⟨j2, j3, j4, rfl⟩ := hR
  show Wp _ _
  cases h
  exact w_retV (i := 1) rfl rfl
theorem S__law_shape (v_script : List Int) (v_start : Int) (v_most : Int) (r : List ((Int × Int) × (Int × Int))) (h : T__law_shape v_script v_start v_most = some r) : F__law_shape [enc v_script, enc v_start, enc v_most] = some (enc r) := by
  unfold T__law_shape at h
  unfold F__law_shape
  refine fn_of ?_
  show Wp (B__law_shape [some (enc v_script), some (enc v_start), some (enc v_most), none, none, none, none, none, none, none]) _
  unfold B__law_shape
  obtain ⟨m1, em1, h⟩ := bindS h
  obtain ⟨m2, em2, h⟩ := bindS h
  refine w_seq (w_setL (i := 3) (n_call (a_cons (x_l (n_call (a_cons (x_v (i := 0) rfl) (a_cons (x_v (i := 1) rfl) (a_cons (x_v (i := 2) rfl) a_nil))) (S__law_points v_script v_start v_most _ em1))) a_nil) (S__law_ring m1 _ em2)) ?_)
  show Wp _ _
  obtain ⟨m3, em3, h⟩ := bindS h
  refine w_seq (w_set (i := 4) (x_call (a_cons (x_v (i := 0) rfl) (a_cons (x_add (x_v (i := 1) rfl) (x_int 1)) a_nil)) (S__law_mixed v_script ((v_start + 1)) _ em3)) ?_)
  show Wp _ _
  obtain ⟨m4, em4, h⟩ := bindS h
  obtain ⟨m5, em5, h⟩ := bindS h
  refine w_seq (w_set (i := 5) (x_ixl (x_l (n_lst (l_cons (x_int 1) (l_cons (x_add (x_int 1) (x_modL (x_divL (x_v (i := 4) rfl) (x_int 64) (by decide) (by decide)) (x_int 9) (by decide))) (l_cons (x_add (x_int 1) (x_modL (x_call (a_cons (x_v (i := 0) rfl) (a_cons (x_v (i := 1) rfl) a_nil)) (S__law_cell_at v_script v_start _ em4)) (x_powL (c := 1000000000) (x_int 10) (x_int 9) (by simp [powD_e])) (by decide))) l_nil))))) (x_modL (x_divL (x_v (i := 4) rfl) (x_int 16) (by decide) (by decide)) (x_int 3) (by decide)) em5) ?_)
  show Wp _ _
  obtain ⟨m6, em6, h⟩ := bindS h
  obtain ⟨m7, em7, h⟩ := bindS h
  refine w_seq (w_set (i := 6) (x_ixl (x_l (n_lst (l_cons (x_int 1) (l_cons (x_add (x_int 1) (x_modL (x_call (a_cons (x_v (i := 0) rfl) (a_cons (x_add (x_v (i := 1) rfl) (x_int 1)) a_nil)) (S__law_cell_at v_script ((v_start + 1)) _ em6)) (x_powL (c := 1000000000) (x_int 10) (x_int 9) (by simp [powD_e])) (by decide))) l_nil)))) (x_modL (x_divL (x_v (i := 4) rfl) (x_int 1024) (by decide) (by decide)) (x_int 2) (by decide)) em7) ?_)
  show Wp _ _
  obtain ⟨m8, em8, h⟩ := bindS h
  obtain ⟨m9, em9, h⟩ := bindS h
  refine w_seq (w_set (i := 7) (x_ixl (x_l (n_lst (l_cons (x_int 0) (l_cons (x_sub (x_modL (x_call (a_cons (x_v (i := 0) rfl) (a_cons (x_add (x_v (i := 1) rfl) (x_int 2)) a_nil)) (S__law_cell_at v_script ((v_start + 2)) _ em8)) (x_mulL (x_int 2) (x_powL (c := 1000000000000000000) (x_int 10) (x_int 18) (by simp [powD_e])) (by decide)) (by decide)) (x_powL (c := 1000000000000000000) (x_int 10) (x_int 18) (by simp [powD_e]))) l_nil)))) (x_modL (x_divL (x_v (i := 4) rfl) (x_int 2048) (by decide) (by decide)) (x_int 2) (by decide)) em9) ?_)
  show Wp _ _
  obtain ⟨m17, em17, h⟩ := bindS h
  cases h
  exact w_retL (n_comp (i_list (x_v (i := 3) rfl)) em17 (fun x10 y16 q15 => ⟨_, gt2, by obtain ⟨m11, em11, q15⟩ := bindS q15; obtain ⟨m12, em12, q15⟩ := bindS q15; obtain ⟨m13, em13, q15⟩ := bindS q15; obtain ⟨m14, em14, q15⟩ := bindS q15; cases q15; exact (x_tup2 (x_call (a_cons (x_add (x_mul (x_v (i := 8) rfl) (x_v (i := 6) rfl) em11) (x_v (i := 7) rfl)) (a_cons (x_v (i := 5) rfl) a_nil)) (S__law_lowest ((m11 + m9)) m5 _ em12)) (x_call (a_cons (x_sub (x_mul (x_v (i := 9) rfl) (x_v (i := 6) rfl) em13) (x_mulL (x_int 2) (x_v (i := 7) rfl) (by decide))) (a_cons (x_v (i := 5) rfl) a_nil)) (S__law_lowest ((m13 - (2 * m9))) m5 _ em14)))⟩)) rfl
theorem S__law_push (v_script : List Int) (v_k : Int) (r : (Int × Int) × (Int × Int)) (h : T__law_push v_script v_k = some r) : F__law_push [enc v_script, enc v_k] = some (enc r) := by
  unfold T__law_push at h
  unfold F__law_push
  refine fn_of ?_
  show Wp (B__law_push [some (enc v_script), some (enc v_k), none, none, none, none]) _
  unfold B__law_push
  obtain ⟨m1, em1, h⟩ := bindS h
  refine w_seq (w_set (i := 2) (x_call (a_cons (x_v (i := 0) rfl) (a_cons (x_v (i := 1) rfl) a_nil)) (S__law_mixed v_script v_k _ em1)) ?_)
  show Wp _ _
  obtain ⟨m2, em2, h⟩ := bindS h
  refine w_seq (w_set (i := 3) (x_call (a_cons (x_v (i := 0) rfl) (a_cons (x_v (i := 1) rfl) a_nil)) (S__law_cell_at v_script v_k _ em2)) ?_)
  show Wp _ _
  obtain ⟨m3, em3, h⟩ := bindS h
  refine w_seq (w_set (i := 4) (x_call (a_cons (x_sub (x_modL (x_v (i := 2) rfl) (x_int 41) (by decide)) (x_int 20)) (a_cons (x_add (x_int 1) (x_modL (x_divL (x_v (i := 2) rfl) (x_int 41) (by decide) (by decide)) (x_int 9) (by decide))) a_nil)) (S__law_lowest (((m1 % 41) - 20)) ((1 + ((m1 / 41) % 9))) _ em3)) ?_)
  show Wp _ _
  obtain ⟨m4, em4, h⟩ := bindS h
  obtain ⟨m5, em5, h⟩ := bindS h
  refine w_seq (w_set (i := 5) (x_call (a_cons (x_sub (x_modL (x_v (i := 3) rfl) (x_mulL (x_int 2) (x_powL (c := 1000000000000000000000000000000) (x_int 10) (x_int 30) (by simp [powD_e])) (by decide)) (by decide)) (x_powL (c := 1000000000000000000000000000000) (x_int 10) (x_int 30) (by simp [powD_e]))) (a_cons (x_ixl (x_l (n_lst (l_cons (x_int 1) (l_cons (x_add (x_int 1) (x_modL (x_v (i := 3) rfl) (x_powL (c := 1000000000) (x_int 10) (x_int 9) (by simp [powD_e])) (by decide))) l_nil)))) (x_modL (x_v (i := 2) rfl) (x_int 2) (by decide)) em4) a_nil)) (S__law_lowest (((m2 % (2 * 1000000000000000000000000000000)) - 1000000000000000000000000000000)) m4 _ em5)) ?_)
  show Wp _ _
  obtain ⟨m6, em6, h⟩ := bindS h
  cases h
  exact w_ret (x_ixl (x_l (n_lst (l_cons (x_tup2 (x_v (i := 4) rfl) (x_v (i := 5) rfl)) (l_cons (x_tup2 (x_v (i := 5) rfl) (x_v (i := 4) rfl)) (l_cons (x_tup2 (x_v (i := 4) rfl) (x_v (i := 4) rfl)) l_nil))))) (x_modL (x_divL (x_v (i := 2) rfl) (x_int 369) (by decide) (by decide)) (x_int 3) (by decide)) em6) rfl
theorem S__law_gap (v_one : List ((Int × Int) × (Int × Int))) (v_other : List ((Int × Int) × (Int × Int))) (r : Int × Int) (h : T__law_gap v_one v_other = some r) : F__law_gap [enc v_one, enc v_other] = some (enc r) := by
  unfold T__law_gap at h
  unfold F__law_gap
  refine fn_of ?_
  show Wp (B__law_gap [some (enc v_one), some (enc v_other), none]) _
  unfold B__law_gap
  obtain ⟨m1, em1, h⟩ := bindS h
  obtain ⟨m2, em2, h⟩ := bindS h
  obtain ⟨m3, em3, h⟩ := bindS h
  obtain ⟨m4, em4, h⟩ := bindS h
  obtain ⟨m5, em5, h⟩ := bindS h
  obtain ⟨m6, em6, h⟩ := bindS h
  refine w_seq (w_set (i := 2) (x_call (a_cons (x_call (a_cons (x_l (n_call (a_cons (x_v (i := 0) rfl) (a_cons (x_v (i := 1) rfl) a_nil)) (S_summed v_one v_other _ em1))) a_nil) (S_doubled m1 _ em2)) (a_cons (x_call (a_cons (x_call (a_cons (x_v (i := 0) rfl) a_nil) (S_doubled v_one _ em3)) (a_cons (x_call (a_cons (x_v (i := 1) rfl) a_nil) (S_doubled v_other _ em4)) a_nil)) (S_plus m3 m4 _ em5)) a_nil)) (S_minus m2 m5 _ em6)) ?_)
  show Wp _ _
  obtain ⟨m7, em7, h⟩ := bindS h
  obtain ⟨m8, em8, h⟩ := bindS h
  obtain ⟨m9, em9, h⟩ := bindS h
  obtain ⟨m10, em10, h⟩ := bindS h
  obtain ⟨m11, em11, h⟩ := bindS h
  obtain ⟨m12, em12, h⟩ := bindS h
  cases h
  exact w_ret (x_call (a_cons (x_call (a_cons (x_v (i := 2) rfl) (a_cons (x_v (i := 2) rfl) a_nil)) (S_times m6 m6 _ em7)) (a_cons (x_call (a_cons (x_tup2 (x_int 4) (x_int 1)) (a_cons (x_call (a_cons (x_call (a_cons (x_v (i := 0) rfl) a_nil) (S_doubled v_one _ em8)) (a_cons (x_call (a_cons (x_v (i := 1) rfl) a_nil) (S_doubled v_other _ em9)) a_nil)) (S_times m8 m9 _ em10)) a_nil)) (S_times ((4, 1)) m10 _ em11)) a_nil)) (S_minus m7 m11 _ em12)) rfl
theorem S__law_led (v_one : List ((Int × Int) × (Int × Int))) (v_other : List ((Int × Int) × (Int × Int))) (v_push_here : (Int × Int) × (Int × Int)) (v_factor : Int × Int) (r : Bool) (h : T__law_led v_one v_other v_push_here v_factor = some r) : F__law_led [enc v_one, enc v_other, enc v_push_here, enc v_factor] = some (enc r) := by
  unfold T__law_led at h
  unfold F__law_led
  refine fn_of ?_
  show Wp (B__law_led [some (enc v_one), some (enc v_other), some (enc v_push_here), some (enc v_factor), none]) _
  unfold B__law_led
  obtain ⟨m1, em1, h⟩ := bindS h
  refine w_seq (w_setL (i := 4) (n_call (a_cons (x_v (i := 0) rfl) (a_cons (x_v (i := 1) rfl) a_nil)) (S_summed v_one v_other _ em1)) ?_)
  show Wp _ _
  obtain ⟨m2, em2, h⟩ := bindS h
  obtain ⟨m6, em6, h⟩ := bindS h
  refine w_seq (w_if (b_orO (b_tb (x_ne (x_l (n_call (a_cons (x_v (i := 1) rfl) (a_cons (x_v (i := 0) rfl) a_nil)) (S_summed v_other v_one _ em2))) (x_v (i := 4) rfl))) em6 (fun _ g7 => by obtain ⟨m3, em3, g7⟩ := bindS g7; obtain ⟨m4, em4, g7⟩ := bindS g7; obtain ⟨m5, em5, g7⟩ := bindS g7; cases g7; exact (b_tb (x_ne (x_l (n_call (a_cons (x_l (n_call (a_cons (x_v (i := 0) rfl) (a_cons (x_v (i := 2) rfl) a_nil)) (S_pushed v_one v_push_here _ em3))) (a_cons (x_v (i := 1) rfl) a_nil)) (S_summed m3 v_other _ em4))) (x_l (n_call (a_cons (x_v (i := 4) rfl) (a_cons (x_v (i := 2) rfl) a_nil)) (S_pushed m1 v_push_here _ em5))))))) (fun hk8 => ?_) (fun hk8 => ?_))
  · rw [hk8] at h; rw [if_pos rfl] at h
    cases h
    exact w_ret (x_bool false) rfl
  · rw [hk8] at h; rw [if_neg (by decide)] at h
    refine w_skip ?_
    show Wp _ _
    obtain ⟨m9, em9, h⟩ := bindS h
    obtain ⟨m10, em10, h⟩ := bindS h
    obtain ⟨m11, em11, h⟩ := bindS h
    obtain ⟨m12, em12, h⟩ := bindS h
    refine w_seq (w_if (b_tb (x_ne (x_l (n_call (a_cons (x_l (n_call (a_cons (x_v (i := 0) rfl) (a_cons (x_v (i := 3) rfl) a_nil)) (S_sized v_one v_factor _ em9))) (a_cons (x_l (n_call (a_cons (x_v (i := 1) rfl) (a_cons (x_v (i := 3) rfl) a_nil)) (S_sized v_other v_factor _ em10))) a_nil)) (S_summed m9 m10 _ em11))) (x_l (n_call (a_cons (x_v (i := 4) rfl) (a_cons (x_v (i := 3) rfl) a_nil)) (S_sized m1 v_factor _ em12))))) (fun hk13 => ?_) (fun hk13 => ?_))
    · rw [hk13] at h; rw [if_pos rfl] at h
      cases h
      exact w_ret (x_bool false) rfl
    · rw [hk13] at h; rw [if_neg (by decide)] at h
      refine w_skip ?_
      show Wp _ _
      obtain ⟨m14, em14, h⟩ := bindS h
      obtain ⟨m15, em15, h⟩ := bindS h
      obtain ⟨m16, em16, h⟩ := bindS h
      obtain ⟨m17, em17, h⟩ := bindS h
      obtain ⟨m20, em20, h⟩ := bindS h
      cases h
      exact w_ret (x_andO (b_tb (x_eq (x_l (n_call (a_cons (x_l (n_call (a_cons (x_v (i := 0) rfl) a_nil) (S_turned v_one _ em14))) (a_cons (x_l (n_call (a_cons (x_v (i := 1) rfl) a_nil) (S_turned v_other _ em15))) a_nil)) (S_summed m14 m15 _ em16))) (x_l (n_call (a_cons (x_v (i := 4) rfl) a_nil) (S_turned m1 _ em17))))) em20 (fun _ g21 => by obtain ⟨m18, em18, g21⟩ := bindS g21; obtain ⟨m19, em19, g21⟩ := bindS g21; cases g21; exact (x_eq (x_l (n_call (a_cons (x_v (i := 0) rfl) (a_cons (x_v (i := 0) rfl) a_nil)) (S_summed v_one v_one _ em18))) (x_l (n_call (a_cons (x_v (i := 0) rfl) (a_cons (x_tup2 (x_int 2) (x_int 1)) a_nil)) (S_sized v_one ((2, 1)) _ em19)))))) rfl
theorem S_law (v_script : List Int) (r : Bool) (h : T_law_k19 v_script = some r) : F_law [enc v_script] = some (enc r) := by
  unfold T_law_k19 at h
  unfold F_law
  refine fn_of ?_
  show Wp (B_law [some (enc v_script), none, none, none, none, none, none, none, none]) _
  unfold B_law
  obtain ⟨m1, em1, h⟩ := bindS h
  refine w_seq (w_setL (i := 1) (n_call (a_cons (x_v (i := 0) rfl) (a_cons (x_int 1) (a_cons (x_int 4) a_nil))) (S__law_shape v_script 1 4 _ em1)) ?_)
  show Wp _ _
  obtain ⟨m2, em2, h⟩ := bindS h
  refine w_seq (w_setL (i := 2) (n_call (a_cons (x_v (i := 0) rfl) (a_cons (x_int 20) (a_cons (x_int 4) a_nil))) (S__law_shape v_script 20 4 _ em2)) ?_)
  show Wp _ _
  obtain ⟨m3, em3, h⟩ := bindS h
  refine w_seq (w_setL (i := 3) (n_call (a_cons (x_v (i := 0) rfl) (a_cons (x_int 40) (a_cons (x_int 4) a_nil))) (S__law_shape v_script 40 4 _ em3)) ?_)
  show Wp _ _
  obtain ⟨m4, em4, h⟩ := bindS h
  refine w_seq (w_set (i := 4) (x_call (a_cons (x_v (i := 0) rfl) (a_cons (x_int 50) a_nil)) (S__law_push v_script 50 _ em4)) ?_)
  show Wp _ _
  obtain ⟨m5, em5, h⟩ := bindS h
  refine w_seq (w_set (i := 5) (x_call (a_cons (x_v (i := 0) rfl) (a_cons (x_int 51) a_nil)) (S__law_mixed v_script 51 _ em5)) ?_)
  show Wp _ _
  obtain ⟨m6, em6, h⟩ := bindS h
  refine w_seq (w_set (i := 6) (x_call (a_cons (x_add (x_int 1) (x_modL (x_v (i := 5) rfl) (x_int 20) (by decide))) (a_cons (x_add (x_int 1) (x_modL (x_divL (x_v (i := 5) rfl) (x_int 20) (by decide) (by decide)) (x_int 20) (by decide))) a_nil)) (S__law_lowest ((1 + (m5 % 20))) ((1 + ((m5 / 20) % 20))) _ em6)) ?_)
  show Wp _ _
  obtain ⟨m7, em7, h⟩ := bindS h
  refine w_seq (w_if (b_not (b_tb (x_call (a_cons (x_v (i := 1) rfl) (a_cons (x_v (i := 2) rfl) (a_cons (x_v (i := 4) rfl) (a_cons (x_v (i := 6) rfl) a_nil)))) (S__law_led m1 m2 m4 m6 _ em7)))) (fun hk8 => ?_) (fun hk8 => ?_))
  · rw [hk8] at h; rw [if_pos rfl] at h
    cases h
    exact w_ret (x_bool false) rfl
  · rw [hk8] at h; rw [if_neg (by decide)] at h
    refine w_skip ?_
    show Wp _ _
    obtain ⟨m9, em9, h⟩ := bindS h
    obtain ⟨m10, em10, h⟩ := bindS h
    obtain ⟨m11, em11, h⟩ := bindS h
    obtain ⟨m12, em12, h⟩ := bindS h
    refine w_seq (w_if (b_tb (x_ne (x_l (n_call (a_cons (x_l (n_call (a_cons (x_v (i := 1) rfl) (a_cons (x_v (i := 2) rfl) a_nil)) (S_summed m1 m2 _ em9))) (a_cons (x_v (i := 3) rfl) a_nil)) (S_summed m9 m3 _ em10))) (x_l (n_call (a_cons (x_v (i := 1) rfl) (a_cons (x_l (n_call (a_cons (x_v (i := 2) rfl) (a_cons (x_v (i := 3) rfl) a_nil)) (S_summed m2 m3 _ em11))) a_nil)) (S_summed m1 m11 _ em12))))) (fun hk13 => ?_) (fun hk13 => ?_))
    · rw [hk13] at h; rw [if_pos rfl] at h
      cases h
      exact w_ret (x_bool false) rfl
    · rw [hk13] at h; rw [if_neg (by decide)] at h
      refine w_skip ?_
      show Wp _ _
      obtain ⟨v_a_14, ev_a_14, h⟩ := bindS h
      refine w_seq (w_set (i := 7) (x_to (x_sub (x_modL (x_divL (x_v (i := 5) rfl) (x_int 400) (by decide) (by decide)) (x_int 19) (by decide)) (x_int 9)) (Option.some.inj ev_a_14)) ?_)
      show Wp _ _
      obtain ⟨v_b_15, ev_b_15, h⟩ := bindS h
      refine w_seq (w_set (i := 8) (x_to (x_add (x_int 1) (x_modL (x_divL (x_v (i := 5) rfl) (x_int 7600) (by decide) (by decide)) (x_int 9) (by decide))) (Option.some.inj ev_b_15)) ?_)
      show Wp _ _
      obtain ⟨m16, em16, h⟩ := bindS h
      obtain ⟨m17, em17, h⟩ := bindS h
      obtain ⟨m18, em18, h⟩ := bindS h
      obtain ⟨m19, em19, h⟩ := bindS h
      obtain ⟨m20, em20, h⟩ := bindS h
      refine w_seq (w_if (b_tb (x_ne (x_call (a_cons (x_l (n_call (a_cons (x_v (i := 1) rfl) (a_cons (x_v (i := 3) rfl) a_nil)) (S_summed m1 m3 _ em16))) (a_cons (x_v (i := 7) rfl) (a_cons (x_v (i := 8) rfl) a_nil))) (S_reach m16 v_a_14 v_b_15 _ em17)) (x_call (a_cons (x_call (a_cons (x_v (i := 1) rfl) (a_cons (x_v (i := 7) rfl) (a_cons (x_v (i := 8) rfl) a_nil))) (S_reach m1 v_a_14 v_b_15 _ em18)) (a_cons (x_call (a_cons (x_v (i := 3) rfl) (a_cons (x_v (i := 7) rfl) (a_cons (x_v (i := 8) rfl) a_nil))) (S_reach m3 v_a_14 v_b_15 _ em19)) a_nil)) (S_plus m18 m19 _ em20)))) (fun hk21 => ?_) (fun hk21 => ?_))
      · rw [hk21] at h; rw [if_pos rfl] at h
        cases h
        exact w_ret (x_bool false) rfl
      · rw [hk21] at h; rw [if_neg (by decide)] at h
        refine w_skip ?_
        show Wp _ _
        obtain ⟨m22, em22, h⟩ := bindS h
        obtain ⟨m23, em23, h⟩ := bindS h
        refine w_seq (w_if (b_tb (x_call (a_cons (x_call (a_cons (x_v (i := 1) rfl) (a_cons (x_v (i := 2) rfl) a_nil)) (S__law_gap m1 m2 _ em22)) (a_cons (x_tup2 (x_int 0) (x_int 1)) a_nil)) (S_below m22 ((0, 1)) _ em23))) (fun hk24 => ?_) (fun hk24 => ?_))
        · rw [hk24] at h; rw [if_pos rfl] at h
          cases h
          exact w_ret (x_bool false) rfl
        · rw [hk24] at h; rw [if_neg (by decide)] at h
          refine w_skip ?_
          show Wp _ _
          obtain ⟨m25, em25, h⟩ := bindS h
          obtain ⟨m26, em26, h⟩ := bindS h
          obtain ⟨m27, em27, h⟩ := bindS h
          cases h
          exact w_ret (x_eq (x_call (a_cons (x_v (i := 1) rfl) (a_cons (x_l (n_call (a_cons (x_l (n_call (a_cons (x_v (i := 1) rfl) (a_cons (x_v (i := 6) rfl) a_nil)) (S_sized m1 m6 _ em25))) (a_cons (x_v (i := 4) rfl) a_nil)) (S_pushed m25 m4 _ em26))) a_nil)) (S__law_gap m1 m26 _ em27)) (x_tup2 (x_int 0) (x_int 1))) rfl
end Lw

namespace Lw
open PySem PySem.Spec PyProof.Rows L2 DL
theorem law_true (ns : List Int) (hl : ns.length ≤ 63) : F_law [intsL ns] = some (.bool true) := S_law ns true (Sp.k19_true ns hl)
end Lw

noncomputable section
namespace Lw
open PySem PySem.Spec PyProof.Rows L2 DL
def dd_divisor : He.DefD := ⟨("divisor", none), "divisor", "divisor", defArgs s_divisor, defBody s_divisor, defScope s_divisor, [], []⟩
def dd_ratio : He.DefD := ⟨("ratio", none), "ratio", "ratio", defArgs s_ratio, defBody s_ratio, defScope s_ratio, [], []⟩
def dd_plus : He.DefD := ⟨("plus", none), "plus", "plus", defArgs s_plus, defBody s_plus, defScope s_plus, [], []⟩
def dd_minus : He.DefD := ⟨("minus", none), "minus", "minus", defArgs s_minus, defBody s_minus, defScope s_minus, [], []⟩
def dd_times : He.DefD := ⟨("times", none), "times", "times", defArgs s_times, defBody s_times, defScope s_times, [], []⟩
def dd_below : He.DefD := ⟨("below", none), "below", "below", defArgs s_below, defBody s_below, defScope s_below, [], []⟩
def dd_flat : He.DefD := ⟨("flat", none), "flat", "flat", defArgs s_flat, defBody s_flat, defScope s_flat, [], []⟩
def dd_doubled : He.DefD := ⟨("doubled", none), "doubled", "doubled", defArgs s_doubled, defBody s_doubled, defScope s_doubled, [], []⟩
def dd_reach : He.DefD := ⟨("reach", none), "reach", "reach", defArgs s_reach, defBody s_reach, defScope s_reach, [], []⟩
def dd_pushed : He.DefD := ⟨("pushed", none), "pushed", "pushed", defArgs s_pushed, defBody s_pushed, defScope s_pushed, [], []⟩
def dd_sized : He.DefD := ⟨("sized", none), "sized", "sized", defArgs s_sized, defBody s_sized, defScope s_sized, [], []⟩
def dd_comes_ahead : He.DefD := ⟨("comes_ahead", none), "comes_ahead", "comes_ahead", defArgs s_comes_ahead, defBody s_comes_ahead, defScope s_comes_ahead, [], []⟩
def dd_turned : He.DefD := ⟨("turned", none), "turned", "turned", defArgs s_turned, defBody s_turned, defScope s_turned, [], []⟩
def dd_ways_of : He.DefD := ⟨("ways_of", none), "ways_of", "ways_of", defArgs s_ways_of, defBody s_ways_of, defScope s_ways_of, [], []⟩
def dd_to_left : He.DefD := ⟨("to_left", none), "to_left", "to_left", defArgs s_to_left, defBody s_to_left, defScope s_to_left, [], []⟩
def dd_merged : He.DefD := ⟨("merged", none), "merged", "merged", defArgs s_merged, defBody s_merged, defScope s_merged, [], []⟩
def dd_summed : He.DefD := ⟨("summed", none), "summed", "summed", defArgs s_summed, defBody s_summed, defScope s_summed, [], []⟩
def dd__law_cell_at : He.DefD := ⟨("_law_cell_at", none), "_law_cell_at", "_law_cell_at", defArgs s__law_cell_at, defBody s__law_cell_at, defScope s__law_cell_at, [], []⟩
def dd__law_whole : He.DefD := ⟨("_law_whole", none), "_law_whole", "_law_whole", defArgs s__law_whole, defBody s__law_whole, defScope s__law_whole, [], []⟩
def dd__law_block : He.DefD := ⟨("_law_block", none), "_law_block", "_law_block", defArgs s__law_block, defBody s__law_block, defScope s__law_block, [], []⟩
def dd__law_mixed : He.DefD := ⟨("_law_mixed", none), "_law_mixed", "_law_mixed", defArgs s__law_mixed, defBody s__law_mixed, defScope s__law_mixed, [], []⟩
def dd__law_divisor : He.DefD := ⟨("_law_divisor", none), "_law_divisor", "_law_divisor", defArgs s__law_divisor, defBody s__law_divisor, defScope s__law_divisor, [], []⟩
def dd__law_lowest : He.DefD := ⟨("_law_lowest", none), "_law_lowest", "_law_lowest", defArgs s__law_lowest, defBody s__law_lowest, defScope s__law_lowest, [], []⟩
def dd__law_is_fraction : He.DefD := ⟨("_law_is_fraction", none), "_law_is_fraction", "_law_is_fraction", defArgs s__law_is_fraction, defBody s__law_is_fraction, defScope s__law_is_fraction, [], []⟩
def dd__law_points : He.DefD := ⟨("_law_points", none), "_law_points", "_law_points", defArgs s__law_points, defBody s__law_points, defScope s__law_points, [], []⟩
def dd__law_turn : He.DefD := ⟨("_law_turn", none), "_law_turn", "_law_turn", defArgs s__law_turn, defBody s__law_turn, defScope s__law_turn, [], []⟩
def dd__law_ring : He.DefD := ⟨("_law_ring", none), "_law_ring", "_law_ring", defArgs s__law_ring, defBody s__law_ring, defScope s__law_ring, [], []⟩
def dd__law_shape : He.DefD := ⟨("_law_shape", none), "_law_shape", "_law_shape", defArgs s__law_shape, defBody s__law_shape, defScope s__law_shape, [], []⟩
def dd__law_push : He.DefD := ⟨("_law_push", none), "_law_push", "_law_push", defArgs s__law_push, defBody s__law_push, defScope s__law_push, [], []⟩
def dd__law_gap : He.DefD := ⟨("_law_gap", none), "_law_gap", "_law_gap", defArgs s__law_gap, defBody s__law_gap, defScope s__law_gap, [], []⟩
def dd__law_led : He.DefD := ⟨("_law_led", none), "_law_led", "_law_led", defArgs s__law_led, defBody s__law_led, defScope s__law_led, [], []⟩
def dd_law : He.DefD := ⟨("law", none), "law", "law", defArgs s_law, defBody s_law, defScope s_law, [], []⟩
def hfn : List He.DefD := [dd_divisor, dd_ratio, dd_plus, dd_minus, dd_times, dd_below, dd_flat, dd_doubled, dd_reach, dd_pushed, dd_sized, dd_comes_ahead, dd_turned, dd_ways_of, dd_to_left, dd_merged, dd_summed, dd__law_cell_at, dd__law_whole, dd__law_block, dd__law_mixed, dd__law_divisor, dd__law_lowest, dd__law_is_fraction, dd__law_points, dd__law_turn, dd__law_ring, dd__law_shape, dd__law_push, dd__law_gap, dd__law_led, dd_law]
def hfa : List He.Fa := [.glo "divisor", .glo "ratio", .glo "plus", .glo "minus", .glo "times", .glo "below", .glo "flat", .glo "doubled", .glo "reach", .glo "pushed", .glo "sized", .glo "comes_ahead", .glo "turned", .glo "ways_of", .glo "to_left", .glo "merged", .glo "summed", .glo "_law_cell_at", .glo "_law_whole", .glo "_law_block", .glo "_law_mixed", .glo "_law_divisor", .glo "_law_lowest", .glo "_law_is_fraction", .glo "_law_points", .glo "_law_turn", .glo "_law_ring", .glo "_law_shape", .glo "_law_push", .glo "_law_gap", .glo "_law_led", .glo "law", .free "abs", .free "bool", .free "int", .free "isinstance", .free "len", .free "list", .free "min", .free "range", .free "reversed", .free "set", .free "sorted", .free "tuple"]
abbrev R : PySem.W.OpenRow := PySem.W.OpenLaw.row PySem.Challenge.rw_snugfit_k19_whole_sums_of_sums
abbrev hk : PySem.W.Hook := He.hookD 4 hfa hfn
def ob (s : PySem.W.SharedT) : He.AlD := He.obsDG 4 hfa hfn (HandSHeadRun.getT s)
theorem ob_eq (s : PySem.W.SharedT) : ob s = hk.obs s.abs := He.obsDG_eq (HandSHeadRun.getT_eq s)
def names : List PySem.Str := [("FitError" : PySem.Str), ("NoNumber" : PySem.Str), ("NoSize" : PySem.Str), ("divisor" : PySem.Str), ("ratio" : PySem.Str), ("plus" : PySem.Str), ("minus" : PySem.Str), ("times" : PySem.Str), ("below" : PySem.Str), ("flat" : PySem.Str), ("doubled" : PySem.Str), ("reach" : PySem.Str), ("pushed" : PySem.Str), ("sized" : PySem.Str), ("comes_ahead" : PySem.Str), ("turned" : PySem.Str), ("ways_of" : PySem.Str), ("to_left" : PySem.Str), ("merged" : PySem.Str), ("summed" : PySem.Str), ("_law_cell_at" : PySem.Str), ("_law_whole" : PySem.Str), ("_law_block" : PySem.Str), ("_law_mixed" : PySem.Str), ("_law_divisor" : PySem.Str), ("_law_lowest" : PySem.Str), ("_law_is_fraction" : PySem.Str), ("_law_points" : PySem.Str), ("_law_turn" : PySem.Str), ("_law_ring" : PySem.Str), ("_law_shape" : PySem.Str), ("_law_push" : PySem.Str), ("_law_gap" : PySem.Str), ("_law_led" : PySem.Str)]
theorem run (w : World) : HandSHeadRun.RunEq R (PySem.W.view R.prog [39]) hk ob 4000 names w := by
  intro os
  kernel_rfl
theorem top_of {K : PySem.W.Frag} {h : Heap} {mg : Str → Option Value} (X : K.In h) (G : h.Ns mainGlobals mg) (c : He.SaysD hfa hfn K) : Top K mg where
  d_divisor := by
    obtain ⟨fd, F⟩ := c.def_ 0 (d := dd_divisor) rfl
    exact ⟨_, fd, He.glo_ok X G (c.fact 0 (f := .glo "divisor") rfl), F.kp, F⟩
  d_ratio := by
    obtain ⟨fd, F⟩ := c.def_ 1 (d := dd_ratio) rfl
    exact ⟨_, fd, He.glo_ok X G (c.fact 1 (f := .glo "ratio") rfl), F.kp, F⟩
  d_plus := by
    obtain ⟨fd, F⟩ := c.def_ 2 (d := dd_plus) rfl
    exact ⟨_, fd, He.glo_ok X G (c.fact 2 (f := .glo "plus") rfl), F.kp, F⟩
  d_minus := by
    obtain ⟨fd, F⟩ := c.def_ 3 (d := dd_minus) rfl
    exact ⟨_, fd, He.glo_ok X G (c.fact 3 (f := .glo "minus") rfl), F.kp, F⟩
  d_times := by
    obtain ⟨fd, F⟩ := c.def_ 4 (d := dd_times) rfl
    exact ⟨_, fd, He.glo_ok X G (c.fact 4 (f := .glo "times") rfl), F.kp, F⟩
  d_below := by
    obtain ⟨fd, F⟩ := c.def_ 5 (d := dd_below) rfl
    exact ⟨_, fd, He.glo_ok X G (c.fact 5 (f := .glo "below") rfl), F.kp, F⟩
  d_flat := by
    obtain ⟨fd, F⟩ := c.def_ 6 (d := dd_flat) rfl
    exact ⟨_, fd, He.glo_ok X G (c.fact 6 (f := .glo "flat") rfl), F.kp, F⟩
  d_doubled := by
    obtain ⟨fd, F⟩ := c.def_ 7 (d := dd_doubled) rfl
    exact ⟨_, fd, He.glo_ok X G (c.fact 7 (f := .glo "doubled") rfl), F.kp, F⟩
  d_reach := by
    obtain ⟨fd, F⟩ := c.def_ 8 (d := dd_reach) rfl
    exact ⟨_, fd, He.glo_ok X G (c.fact 8 (f := .glo "reach") rfl), F.kp, F⟩
  d_pushed := by
    obtain ⟨fd, F⟩ := c.def_ 9 (d := dd_pushed) rfl
    exact ⟨_, fd, He.glo_ok X G (c.fact 9 (f := .glo "pushed") rfl), F.kp, F⟩
  d_sized := by
    obtain ⟨fd, F⟩ := c.def_ 10 (d := dd_sized) rfl
    exact ⟨_, fd, He.glo_ok X G (c.fact 10 (f := .glo "sized") rfl), F.kp, F⟩
  d_comes_ahead := by
    obtain ⟨fd, F⟩ := c.def_ 11 (d := dd_comes_ahead) rfl
    exact ⟨_, fd, He.glo_ok X G (c.fact 11 (f := .glo "comes_ahead") rfl), F.kp, F⟩
  d_turned := by
    obtain ⟨fd, F⟩ := c.def_ 12 (d := dd_turned) rfl
    exact ⟨_, fd, He.glo_ok X G (c.fact 12 (f := .glo "turned") rfl), F.kp, F⟩
  d_ways_of := by
    obtain ⟨fd, F⟩ := c.def_ 13 (d := dd_ways_of) rfl
    exact ⟨_, fd, He.glo_ok X G (c.fact 13 (f := .glo "ways_of") rfl), F.kp, F⟩
  d_to_left := by
    obtain ⟨fd, F⟩ := c.def_ 14 (d := dd_to_left) rfl
    exact ⟨_, fd, He.glo_ok X G (c.fact 14 (f := .glo "to_left") rfl), F.kp, F⟩
  d_merged := by
    obtain ⟨fd, F⟩ := c.def_ 15 (d := dd_merged) rfl
    exact ⟨_, fd, He.glo_ok X G (c.fact 15 (f := .glo "merged") rfl), F.kp, F⟩
  d_summed := by
    obtain ⟨fd, F⟩ := c.def_ 16 (d := dd_summed) rfl
    exact ⟨_, fd, He.glo_ok X G (c.fact 16 (f := .glo "summed") rfl), F.kp, F⟩
  d__law_cell_at := by
    obtain ⟨fd, F⟩ := c.def_ 17 (d := dd__law_cell_at) rfl
    exact ⟨_, fd, He.glo_ok X G (c.fact 17 (f := .glo "_law_cell_at") rfl), F.kp, F⟩
  d__law_whole := by
    obtain ⟨fd, F⟩ := c.def_ 18 (d := dd__law_whole) rfl
    exact ⟨_, fd, He.glo_ok X G (c.fact 18 (f := .glo "_law_whole") rfl), F.kp, F⟩
  d__law_block := by
    obtain ⟨fd, F⟩ := c.def_ 19 (d := dd__law_block) rfl
    exact ⟨_, fd, He.glo_ok X G (c.fact 19 (f := .glo "_law_block") rfl), F.kp, F⟩
  d__law_mixed := by
    obtain ⟨fd, F⟩ := c.def_ 20 (d := dd__law_mixed) rfl
    exact ⟨_, fd, He.glo_ok X G (c.fact 20 (f := .glo "_law_mixed") rfl), F.kp, F⟩
  d__law_divisor := by
    obtain ⟨fd, F⟩ := c.def_ 21 (d := dd__law_divisor) rfl
    exact ⟨_, fd, He.glo_ok X G (c.fact 21 (f := .glo "_law_divisor") rfl), F.kp, F⟩
  d__law_lowest := by
    obtain ⟨fd, F⟩ := c.def_ 22 (d := dd__law_lowest) rfl
    exact ⟨_, fd, He.glo_ok X G (c.fact 22 (f := .glo "_law_lowest") rfl), F.kp, F⟩
  d__law_is_fraction := by
    obtain ⟨fd, F⟩ := c.def_ 23 (d := dd__law_is_fraction) rfl
    exact ⟨_, fd, He.glo_ok X G (c.fact 23 (f := .glo "_law_is_fraction") rfl), F.kp, F⟩
  d__law_points := by
    obtain ⟨fd, F⟩ := c.def_ 24 (d := dd__law_points) rfl
    exact ⟨_, fd, He.glo_ok X G (c.fact 24 (f := .glo "_law_points") rfl), F.kp, F⟩
  d__law_turn := by
    obtain ⟨fd, F⟩ := c.def_ 25 (d := dd__law_turn) rfl
    exact ⟨_, fd, He.glo_ok X G (c.fact 25 (f := .glo "_law_turn") rfl), F.kp, F⟩
  d__law_ring := by
    obtain ⟨fd, F⟩ := c.def_ 26 (d := dd__law_ring) rfl
    exact ⟨_, fd, He.glo_ok X G (c.fact 26 (f := .glo "_law_ring") rfl), F.kp, F⟩
  d__law_shape := by
    obtain ⟨fd, F⟩ := c.def_ 27 (d := dd__law_shape) rfl
    exact ⟨_, fd, He.glo_ok X G (c.fact 27 (f := .glo "_law_shape") rfl), F.kp, F⟩
  d__law_push := by
    obtain ⟨fd, F⟩ := c.def_ 28 (d := dd__law_push) rfl
    exact ⟨_, fd, He.glo_ok X G (c.fact 28 (f := .glo "_law_push") rfl), F.kp, F⟩
  d__law_gap := by
    obtain ⟨fd, F⟩ := c.def_ 29 (d := dd__law_gap) rfl
    exact ⟨_, fd, He.glo_ok X G (c.fact 29 (f := .glo "_law_gap") rfl), F.kp, F⟩
  d__law_led := by
    obtain ⟨fd, F⟩ := c.def_ 30 (d := dd__law_led) rfl
    exact ⟨_, fd, He.glo_ok X G (c.fact 30 (f := .glo "_law_led") rfl), F.kp, F⟩
  d_law := by
    obtain ⟨fd, F⟩ := c.def_ 31 (d := dd_law) rfl
    exact ⟨_, fd, He.glo_ok X G (c.fact 31 (f := .glo "law") rfl), F.kp, F⟩
  b_abs := He.free_ok X G (c.fact 32 (f := .free "abs") rfl)
  b_bool := He.free_ok X G (c.fact 33 (f := .free "bool") rfl)
  b_int := He.free_ok X G (c.fact 34 (f := .free "int") rfl)
  b_isinstance := He.free_ok X G (c.fact 35 (f := .free "isinstance") rfl)
  b_len := He.free_ok X G (c.fact 36 (f := .free "len") rfl)
  b_list := He.free_ok X G (c.fact 37 (f := .free "list") rfl)
  b_min := He.free_ok X G (c.fact 38 (f := .free "min") rfl)
  b_range := He.free_ok X G (c.fact 39 (f := .free "range") rfl)
  b_reversed := He.free_ok X G (c.fact 40 (f := .free "reversed") rfl)
  b_set := He.free_ok X G (c.fact 41 (f := .free "set") rfl)
  b_sorted := He.free_ok X G (c.fact 42 (f := .free "sorted") rfl)
  b_tuple := He.free_ok X G (c.fact 43 (f := .free "tuple") rfl)
theorem all_ok {P : Program} {w : World} {K : PySem.W.Frag} {mg : Str → Option Value} (T : Top K mg) : DefOk P w K mg "law" 7 ["_law_script"] false F_law := by
  have k_divisor := ok_divisor (P := P) (w := w) T
  have k_ratio := ok_ratio (P := P) (w := w) T k_divisor
  have k_plus := ok_plus (P := P) (w := w) T k_ratio
  have k_minus := ok_minus (P := P) (w := w) T k_ratio
  have k_times := ok_times (P := P) (w := w) T k_ratio
  have k_below := ok_below (P := P) (w := w) T
  have k_flat := ok_flat (P := P) (w := w) T
  have k_doubled := ok_doubled (P := P) (w := w) T k_plus k_minus k_times
  have k_reach := ok_reach (P := P) (w := w) T k_ratio k_below k_flat
  have k_pushed := ok_pushed (P := P) (w := w) T k_plus
  have k_sized := ok_sized (P := P) (w := w) T k_times
  have k_comes_ahead := ok_comes_ahead (P := P) (w := w) T k_flat
  have k_turned := ok_turned (P := P) (w := w) T k_minus k_comes_ahead
  have k_ways_of := ok_ways_of (P := P) (w := w) T k_minus
  have k_to_left := ok_to_left (P := P) (w := w) T k_flat
  have k_merged := ok_merged (P := P) (w := w) T k_plus k_to_left
  have k_summed := ok_summed (P := P) (w := w) T k_plus k_ways_of k_merged
  have k__law_cell_at := ok__law_cell_at (P := P) (w := w) T
  have k__law_whole := ok__law_whole (P := P) (w := w) T
  have k__law_block := ok__law_block (P := P) (w := w) T
  have k__law_mixed := ok__law_mixed (P := P) (w := w) T k__law_block
  have k__law_divisor := ok__law_divisor (P := P) (w := w) T
  have k__law_lowest := ok__law_lowest (P := P) (w := w) T k__law_divisor
  have k__law_is_fraction := ok__law_is_fraction (P := P) (w := w) T k__law_whole k__law_divisor
  have k__law_points := ok__law_points (P := P) (w := w) T k__law_mixed
  have k__law_turn := ok__law_turn (P := P) (w := w) T
  have k__law_ring := ok__law_ring (P := P) (w := w) T k__law_turn
  have k__law_shape := ok__law_shape (P := P) (w := w) T k__law_cell_at k__law_mixed k__law_lowest k__law_points k__law_ring
  have k__law_push := ok__law_push (P := P) (w := w) T k__law_cell_at k__law_mixed k__law_lowest
  have k__law_gap := ok__law_gap (P := P) (w := w) T k_plus k_minus k_times k_doubled k_summed
  have k__law_led := ok__law_led (P := P) (w := w) T k_pushed k_sized k_turned k_summed
  have k_law := ok_law (P := P) (w := w) T k_plus k_below k_reach k_pushed k_sized k_summed k__law_mixed k__law_lowest k__law_shape k__law_push k__law_gap k__law_led
  exact k_law
end Lw
open PySem PySem.W PySem.Calls PyProof.Rows
theorem PySem.Challenge.cw_snugfit_k19_whole_sums_of_sums_holds : PySem.Challenge.rw_snugfit_k19_whole_sums_of_sums.Holds := by
  w_on; o_law
  refine HandSHeadRun.head_any (r := OpenLaw.row PySem.Challenge.rw_snugfit_k19_whole_sums_of_sums) (q := view (OpenLaw.row PySem.Challenge.rw_snugfit_k19_whole_sums_of_sums).prog [39]) (H := Lw.hk) (ob := Lw.ob) (M := 4000) (loose := Lw.names) (d := HandSHeadRun.topDef (OpenLaw.row PySem.Challenge.rw_snugfit_k19_whole_sums_of_sums).prog 39) (kwd := []) Lw.ob_eq
    (by kernel_rfl) (fun s => by kernel_rfl) Lw.run (by kernel_rfl) (by kernel_rfl) (by kernel_rfl) (by rfl) (by first | assumption | decide +kernel) (by decide +kernel) ⟨rfl, rfl, rfl, rfl, rfl, by decide +kernel⟩ ?hw ?hc
  case hw => w_witness2
  case hc =>
    refine L2.walk_ofE (l := PySem.Challenge.rw_snugfit_k19_whole_sums_of_sums) (n := 63) (k := 7) (x := "_law_script") (CX := L2.CX0) rfl (by decide) (by kernel_rfl) ⟨rfl, by decide, by decide⟩ ?F (fun _ _ _ _ z => z)
    intro w mg fa h Y G hmg0
    obtain ⟨K, KX, c⟩ := Y
    have hmg : mg ("law" : PySem.Str) = some (.ref fa) := by
      have e : (HandSHeadRun.topDef (OpenLaw.row PySem.Challenge.rw_snugfit_k19_whole_sums_of_sums).prog 39).name = ("law" : PySem.Str) := by kernel_rfl
      rw [← e]
      exact hmg0
    exact DL.law_end KX hmg (Lw.all_ok (Lw.top_of KX G c)) Lw.law_true
end

