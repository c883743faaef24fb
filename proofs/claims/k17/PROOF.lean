import PyProof.Rows.All
import Wide.All
import OpenK.AllK
import Wide.FinOn
import HandS.ForMost
import HandS.Wide
import HandS.Deep
import HandS.IsInst
import HandS.Defaults
import HandS.Exc
import HandS.HeadHook1
import KE.KStateDown
import HandS.Head0
import HandS.Head1
import HandS.Head2
import HandS.HeadEnd
import HandS.HeadHook2
import HandS.TryOnly
import HandS.ExcOwn
import HandS.WordsExc
import HandS.ExcIs
import HandS.TupSets
import HandS.RevTup
import HandS.Rev
import KE.SortData
import PySem.Challenge.RW_snugfit_k17_no_size
set_option Elab.async false
set_option linter.all false
set_option maxRecDepth 100000
set_option maxHeartbeats 8000000
set_option exponentiation.threshold 20000
/-! DL: a deterministic reading of Python text over plain data, on top of the hand layer. Part 1: representation, judgements. -/
namespace DL
open PySem PySem.Spec PyProof.Rows L2

abbrev D := PyData
abbrev Rho := List (Option D)
abbrev Sg := L2.St

theorem same_trans {H H1 H2 : Hp} (a : Same H H1) (b : Same H1 H2) : Same H H2 := fun c o h => b c o (a c o h)
theorem same_upd {H : Hp} {p : Addr} {o : HO} (hp : H p = none) : Same H (upd H p o) := fun b u h => by
  rw [upd_ne (ne_of_none h hp)]; exact h

theorem same_sqT {K : PySem.W.Frag} {H H' : Hp} {a : Addr} {xs : List V} (e : Same H H') (h : SqT K H a xs) : SqT K H' a xs := by
  rcases h with (h | ⟨o, h⟩) | h
  · exact .inl (.inl (e _ _ h))
  · exact .inl (.inr ⟨o, e _ _ h⟩)
  · exact .inr h
mutual
theorem dp_mono {K : PySem.W.Frag} {H H' : Hp} (e : Same H H') : ∀ {v : V} {d : D}, Dp K H v d → Dp K H' v d
  | _, _, .non => .non
  | _, _, .bl b => .bl b
  | _, _, .int i => .int i
  | _, _, .str x => .str x
  | _, _, .lst h a => .lst (e.seq h) (dpAll_mono e a)
  | _, _, .tup h a => .tup (same_sqT e h) (dpAll_mono e a)
theorem dpAll_mono {K : PySem.W.Frag} {H H' : Hp} (e : Same H H') : ∀ {vs : List V} {ds : List D}, DpAll K H vs ds → DpAll K H' vs ds
  | _, _, .nil => .nil
  | _, _, .cons h t => .cons (dp_mono e h) (dpAll_mono e t)
end

/-- the frozen part F of the heap H, and both later -/
structure Grow (F H F' H' : Hp) : Prop where
  ff : Same F F'
  hh : Same H H'
  fh : Same F' H'
  own : ∀ b o, H b = some o → F b = none → F' b = none
theorem Grow.refl {F H : Hp} (h : Same F H) : Grow F H F H := ⟨Same.refl _, Same.refl _, h, fun _ _ _ h => h⟩
theorem Grow.trans {F H F1 H1 F2 H2 : Hp} (a : Grow F H F1 H1) (b : Grow F1 H1 F2 H2) : Grow F H F2 H2 :=
  ⟨same_trans a.ff b.ff, same_trans a.hh b.hh, b.fh, fun c o h n => b.own c o (a.hh c o h) (a.own c o h n)⟩
/-- a new object, frozen at once -/
theorem Grow.new {F H : Hp} {p : Addr} {o : HO} (h : Same F H) (hp : H p = none) : Grow F H (upd F p o) (upd H p o) where
  ff := same_upd (by cases e : F p with
    | none => rfl
    | some u => rw [h p u e] at hp; cases hp)
  hh := same_upd hp
  fh := fun b u e => by
    by_cases hb : b = p
    · subst hb; rw [upd_same] at e ⊢; exact e
    · rw [upd_ne hb] at e ⊢; exact h b u e
  own := fun b u e n => by
    rw [upd_ne (ne_of_none e hp)]; exact n
/-- a new object, kept own -/
theorem Grow.newOwn {F H : Hp} {p : Addr} {o : HO} (h : Same F H) (hp : H p = none) : Grow F H F (upd H p o) where
  ff := Same.refl _
  hh := same_upd hp
  fh := same_trans h (same_upd hp)
  own := fun _ _ _ n => n
theorem free_of {F H : Hp} {p : Addr} (h : Same F H) (hp : H p = none) : F p = none := by
  cases e : F p with
  | none => rfl
  | some u => rw [h p u e] at hp; cases hp

/-- a kept exception's object -/
def ExH (cls : Value) (a : Addr) : HO := .ext fun h => ∃ (oe : Obj) (vs : Array Value), h.get? a = some oe ∧ Zc cls none oe ∧ oe.data = .fields vs
/-- what is held, as data; a kept exception by its class's name -/
def excD (x : Str) : D := .dict [(.str x, .none)]
inductive Rep (K : PySem.W.Frag) (F : Hp) : V → D → Prop
  | dat {v : V} {d : D} : Dp K F v d → Rep K F v d
  | exc {a : Addr} {x : Str} : F a = some (ExH (.ref (He.ga K x)) a) → Rep K F (.ref a) (excD x)
theorem Rep.mono {K : PySem.W.Frag} {F F' : Hp} (e : Same F F') {v : V} {d : D} : Rep K F v d → Rep K F' v d
  | .dat h => .dat (dp_mono e h)
  | .exc h => .exc (e _ _ h)

structure Ent where
  F0 : Hp
  H0 : Hp

def getv (ρ : Rho) (i : Nat) : Option D := match ρ[i]? with
  | some (some d) => some d
  | _ => none

/-- an own list: at an address of its own, in no frozen data -/
def OwnAt (K : PySem.W.Frag) (F H : Hp) (v : V) (d : D) : Prop := ∃ a vs ds, v = .ref a ∧ d = .list ds ∧ H a = some (.lst vs) ∧ F a = none ∧ DpAll K F vs ds

structure StRep (K : PySem.W.Frag) (G : Ent) (O : List Nat) (σ : Sg) (H : Hp) (ρ : Rho) (F : Hp) : Prop where
  len : ρ.length = σ.length
  g : Grow G.F0 G.H0 F H
  dat : ∀ i d, i ∉ O → getv ρ i = some d → ∃ v, σ[i]? = some (some v) ∧ Rep K F v d
  own : ∀ i d, i ∈ O → getv ρ i = some d → ∃ v, σ[i]? = some (some v) ∧ OwnAt K F H v d
  new : ∀ i d a, i ∈ O → getv ρ i = some d → σ[i]? = some (some (V.ref a)) → G.H0 a = none
  dis : ∀ i j d e a, i ∈ O → j ∈ O → i ≠ j → getv ρ i = some d → getv ρ j = some e → σ[i]? = some (some (V.ref a)) → σ[j]? ≠ some (some (V.ref a))

theorem OwnAt.grow {K : PySem.W.Frag} {F H F' H' : Hp} (g : Grow F H F' H') {v : V} {d : D} (h : OwnAt K F H v d) : OwnAt K F' H' v d := by
  obtain ⟨a, vs, ds, e1, e2, e3, e4, e5⟩ := h
  exact ⟨a, vs, ds, e1, e2, g.hh _ _ e3, g.own _ _ e3 e4, dpAll_mono g.ff e5⟩
theorem StRep.grow {K : PySem.W.Frag} {G : Ent} {O : List Nat} {σ : Sg} {H F H' F' : Hp} {ρ : Rho} (s : StRep K G O σ H ρ F) (g : Grow F H F' H') : StRep K G O σ H' ρ F' where
  len := s.len
  g := s.g.trans g
  dat := fun i d h e => let ⟨v, a, b⟩ := s.dat i d h e; ⟨v, a, b.mono g.ff⟩
  own := fun i d h e => let ⟨v, a, b⟩ := s.own i d h e; ⟨v, a, b.grow g⟩
  new := s.new
  dis := s.dis
theorem StRep.sub {K : PySem.W.Frag} {G : Ent} {O : List Nat} {σ : Sg} {H F : Hp} {ρ : Rho} (s : StRep K G O σ H ρ F) : Same F H := s.g.fh

/-- own lists are given up: from now on they are data like other data -/
theorem StRep.freeze {K : PySem.W.Frag} {G : Ent} {O O2 : List Nat} {σ : Sg} {H F : Hp} {ρ : Rho} (s : StRep K G O σ H ρ F) (h2 : ∀ i ∈ O2, i ∈ O) : ∃ F', Same F F' ∧ StRep K G O2 σ H ρ F' := by
  classical
  let p : Addr → Prop := fun b => ∃ i d, i ∈ O ∧ i ∉ O2 ∧ getv ρ i = some d ∧ σ[i]? = some (some (V.ref b))
  let F' : Hp := fun b => if p b then H b else F b
  have ff : Same F F' := fun b o e => by
    show (if p b then H b else F b) = some o
    by_cases hp : p b
    · rw [if_pos hp]; exact s.sub b o e
    · rw [if_neg hp]; exact e
  have fh : Same F' H := fun b o e => by
    have e : (if p b then H b else F b) = some o := e
    by_cases hp : p b
    · rw [if_pos hp] at e; exact e
    · rw [if_neg hp] at e; exact s.sub b o e
  have keepOwn : ∀ b o, G.H0 b = some o → G.F0 b = none → F' b = none := fun b o e n => by
    show (if p b then H b else F b) = none
    by_cases hp : p b
    · obtain ⟨i, d, hi, _, hd, hs⟩ := hp
      rw [s.new i d b hi hd hs] at e; cases e
    · rw [if_neg hp]; exact s.g.own b o e n
  have ownOut : ∀ i d, i ∈ O → i ∈ O2 → getv ρ i = some d → ∀ a, σ[i]? = some (some (V.ref a)) → F a = none → F' a = none := fun i d hi hi2 hd a hs n => by
    show (if p a then H a else F a) = none
    by_cases hp : p a
    · obtain ⟨j, e, hj, hj2, he, hsj⟩ := hp
      exact absurd hsj (s.dis i j d e a hi hj (fun z => hj2 (z ▸ hi2)) hd he hs)
    · rw [if_neg hp]; exact n
  refine ⟨F', ff, ⟨s.len, ⟨same_trans s.g.ff ff, s.g.hh, fh, keepOwn⟩, fun i d hi hd => ?_, fun i d hi hd => ?_, fun i d a hi => s.new i d a (h2 i hi), fun i j d e a hi hj => s.dis i j d e a (h2 i hi) (h2 j hj)⟩⟩
  · by_cases hO : i ∈ O
    · obtain ⟨v, hs, a, vs, ds, rfl, rfl, e3, e4, e5⟩ := s.own i d hO hd
      refine ⟨_, hs, .dat (.lst (.inl (.inl ?_)) (dpAll_mono ff e5))⟩
      show (if p a then H a else F a) = some (.lst vs)
      rw [if_pos ⟨i, _, hO, hi, hd, hs⟩]; exact e3
    · obtain ⟨v, hs, r⟩ := s.dat i d hO hd
      exact ⟨v, hs, r.mono ff⟩
  · obtain ⟨v, hs, a, vs, ds, rfl, rfl, e3, e4, e5⟩ := s.own i d (h2 i hi) hd
    exact ⟨_, hs, a, vs, ds, rfl, rfl, e3, ownOut i _ (h2 i hi) hi hd a hs e4, dpAll_mono ff e5⟩
end DL

/-! DL, part 2: expressions. -/
namespace DL
open PySem PySem.Spec PyProof.Rows L2

abbrev EF := Rho → Option D
abbrev AF := Rho → Option (List D)
abbrev BF := Rho → Option Bool

/-- an expression whose value is data -/
def DE (X : Cx) (O : List Nat) (e : Expr) (f : EF) : Prop := ∃ t, PE X e t ∧ ∀ (G : Ent) (σ : Sg) (H F : Hp) (ρ : Rho) (d : D) (Q : VK),
  StRep X.K G O σ H ρ F → f ρ = some d → (∀ v H' F', Grow F H F' H' → Rep X.K F' v d → Q v H') → t σ H Q
/-- what may be read: data, or an own list -/
def RepR (K : PySem.W.Frag) (F H : Hp) (v : V) (d : D) : Prop := Rep K F v d ∨ ∃ a vs ds, v = .ref a ∧ d = .list ds ∧ SqL K H a vs ∧ DpAll K F vs ds
def DR (X : Cx) (O : List Nat) (e : Expr) (f : EF) : Prop := ∃ t, PE X e t ∧ ∀ (G : Ent) (σ : Sg) (H F : Hp) (ρ : Rho) (d : D) (Q : VK),
  StRep X.K G O σ H ρ F → f ρ = some d → (∀ v H' F', Grow F H F' H' → RepR X.K F' H' v d → Q v H') → t σ H Q
/-- an expression that gives a new list -/
def DN (X : Cx) (O : List Nat) (e : Expr) (f : AF) : Prop := ∃ t, PE X e t ∧ ∀ (G : Ent) (σ : Sg) (H F : Hp) (ρ : Rho) (ds : List D) (Q : VK),
  StRep X.K G O σ H ρ F → f ρ = some ds → (∀ a vs H' F', Grow F H F' H' → H a = none → H' a = some (.lst vs) → F' a = none → DpAll X.K F' vs ds → Q (.ref a) H') → t σ H Q
/-- arguments -/
def RepAll (K : PySem.W.Frag) (F : Hp) : List V → List D → Prop := Paired (Rep K F)
def DA (X : Cx) (O : List Nat) (es : List Expr) (f : AF) : Prop := (∃ t, PA X es t ∧ ∀ (G : Ent) (σ : Sg) (H F : Hp) (ρ : Rho) (ds : List D) (Q : List V → Hp → Prop),
  StRep X.K G O σ H ρ F → f ρ = some ds → (∀ vs H' F', Grow F H F' H' → RepAll X.K F' vs ds → Q vs H') → t σ H Q) ∧ ∀ ρ ds, f ρ = some ds → ds.length = es.length
/-- a test -/
def DT (X : Cx) (O : List Nat) (e : Expr) (f : BF) : Prop := ∃ t, PT X e t ∧ ∀ (G : Ent) (σ : Sg) (H F : Hp) (ρ : Rho) (b : Bool) (Q : Bool → Hp → Prop),
  StRep X.K G O σ H ρ F → f ρ = some b → (∀ H' F', Grow F H F' H' → Q b H') → t σ H Q
def DW (X : Cx) (O : List Nat) (e : Expr) (f : BF) : Prop := ∃ t, PW X e t ∧ ∀ (G : Ent) (σ : Sg) (H F : Hp) (ρ : Rho) (b : Bool) (Q : Bool → Hp → Prop),
  StRep X.K G O σ H ρ F → f ρ = some b → (∀ H' F', Grow F H F' H' → Q b H') → t σ H Q

/-! ### facts about Rep -/
section
variable {K : PySem.W.Frag} {F H : Hp} {v : V}
theorem RepAll.mono {F' : Hp} (e : Same F F') : ∀ {vs : List V} {ds : List D}, RepAll K F vs ds → RepAll K F' vs ds
  | _, _, .nil => .nil
  | _, _, .cons h t => .cons (h.mono e) (RepAll.mono e t)
theorem Rep.int_inv {i : Int} (h : Rep K F v (.int i)) : v = .int i := by cases h with | dat h => cases h; rfl
theorem Rep.bl_inv {b : Bool} (h : Rep K F v (.bool b)) : v = .bl b := by cases h with | dat h => cases h; rfl
theorem Rep.non_inv (h : Rep K F v .none) : v = .non := by cases h with | dat h => cases h; rfl
theorem Rep.lst_inv {ds : List D} (h : Rep K F v (.list ds)) : ∃ a vs, v = .ref a ∧ SqL K F a vs ∧ DpAll K F vs ds := by
  cases h with | dat h => cases h with | lst a b => exact ⟨_, _, rfl, a, b⟩
theorem Rep.tup_inv {ds : List D} (h : Rep K F v (.tuple ds)) : ∃ a vs, v = .ref a ∧ SqT K F a vs ∧ DpAll K F vs ds := by
  cases h with | dat h => cases h with | tup a b => exact ⟨_, _, rfl, a, b⟩
theorem RepR.lst_inv {ds : List D} (hs : Same F H) (h : RepR K F H v (.list ds)) : ∃ a vs, v = .ref a ∧ SqL K H a vs ∧ DpAll K F vs ds := by
  rcases h with h | ⟨a, vs, ds', rfl, e, h1, h2⟩
  · obtain ⟨a, vs, rfl, h1, h2⟩ := h.lst_inv
    exact ⟨a, vs, rfl, hs.seq h1, h2⟩
  · cases e; exact ⟨a, vs, rfl, h1, h2⟩
theorem RepR.tup_inv {ds : List D} (h : RepR K F H v (.tuple ds)) : ∃ a vs, v = .ref a ∧ SqT K F a vs ∧ DpAll K F vs ds := by
  rcases h with h | ⟨a, vs, ds', rfl, e, h1, h2⟩
  · exact h.tup_inv
  · cases e
theorem RepR.grow {F' H' : Hp} (g : Grow F H F' H') {d : D} : RepR K F H v d → RepR K F' H' v d
  | .inl h => .inl (h.mono g.ff)
  | .inr ⟨a, vs, ds, e1, e2, h1, h2⟩ => .inr ⟨a, vs, ds, e1, e2, g.hh.seq h1, dpAll_mono g.ff h2⟩
theorem shaped_dat {d : D} (h : SeqAt.shaped d = true) (r : Rep K F v d) : Dp K F v d := by
  cases r with
  | dat h => exact h
  | exc q => cases h
theorem RepR.dp (hs : Same F H) {d : D} (h : SeqAt.shaped d = true) (r : RepR K F H v d) : Dp K H v d := by
  rcases r with r | ⟨a, vs, ds, rfl, rfl, h1, h2⟩
  · exact dp_mono hs (shaped_dat h r)
  · exact .lst h1 (dpAll_mono hs h2)
theorem dpA_length {vs : List V} {ds : List D} : DpAll K F vs ds → vs.length = ds.length := by
  intro h
  induction ds generalizing vs with
  | nil => cases h; rfl
  | cons d ds ih => cases h with | cons a b => simp [ih b]
theorem dpA_get {vs : List V} {ds : List D} {i : Nat} {d : D} (h : DpAll K F vs ds) (e : ds[i]? = some d) : ∃ v, vs[i]? = some v ∧ Dp K F v d := by
  induction ds generalizing vs i with
  | nil => simp at e
  | cons c ds ih =>
    cases h with
    | cons a b =>
      cases i with
      | zero => simp at e; subst e; exact ⟨_, rfl, a⟩
      | succ i => simp at e; obtain ⟨v, h1, h2⟩ := ih b e; exact ⟨v, by simpa using h1, h2⟩
theorem dpA_get2 {vs : List V} {ds : List D} {i : Nat} {v : V} (h : DpAll K F vs ds) (e : vs[i]? = some v) : ∃ d, ds[i]? = some d ∧ Dp K F v d := by
  induction ds generalizing vs i with
  | nil => cases h; simp at e
  | cons c ds ih =>
    cases h with
    | cons a b =>
      cases i with
      | zero => simp at e; subst e; exact ⟨_, rfl, a⟩
      | succ i => simp at e; obtain ⟨v, h1, h2⟩ := ih b e; exact ⟨v, by simpa using h1, h2⟩
theorem dpA_append {vs ws : List V} {ds es : List D} (h : DpAll K F vs ds) (h' : DpAll K F ws es) : DpAll K F (vs ++ ws) (ds ++ es) := by
  induction ds generalizing vs with
  | nil => cases h; exact h'
  | cons c ds ih => cases h with | cons a b => exact .cons a (ih b)
theorem dpA_take {vs : List V} {ds : List D} (n : Nat) (h : DpAll K F vs ds) : DpAll K F (vs.take n) (ds.take n) := by
  induction ds generalizing vs n with
  | nil => cases h; cases n <;> exact .nil
  | cons c ds ih =>
    cases h with
    | cons a b => cases n with
      | zero => exact .nil
      | succ n => exact .cons a (ih n b)
theorem dpA_drop {vs : List V} {ds : List D} (n : Nat) (h : DpAll K F vs ds) : DpAll K F (vs.drop n) (ds.drop n) := by
  induction ds generalizing vs n with
  | nil => cases h; cases n <;> exact .nil
  | cons c ds ih =>
    cases h with
    | cons a b => cases n with
      | zero => exact .cons a b
      | succ n => exact ih n b
theorem dpA_set {vs : List V} {ds : List D} (i : Nat) {v : V} {d : D} (h : DpAll K F vs ds) (r : Dp K F v d) : DpAll K F (vs.set i v) (ds.set i d) := by
  induction ds generalizing vs i with
  | nil => cases h; cases i <;> exact .nil
  | cons c ds ih =>
    cases h with
    | cons a b => cases i with
      | zero => exact .cons r b
      | succ i => exact .cons a (ih i b)
theorem dpA_rev {vs : List V} {ds : List D} (h : DpAll K F vs ds) : DpAll K F vs.reverse ds.reverse := by
  induction ds generalizing vs with
  | nil => cases h; exact .nil
  | cons c ds ih =>
    cases h with
    | cons a b => rw [List.reverse_cons, List.reverse_cons]; exact dpA_append (ih b) (.cons a .nil)
theorem RepAll.length {vs : List V} {ds : List D} (h : RepAll K F vs ds) : vs.length = ds.length := Paired.length h
end

section
variable {X : Cx} {O : List Nat} {e a1 a2 : Expr} {es : List Expr} {f g : EF} {fa : AF} {pos : Pos}

def vE (i : Nat) : EF := fun ρ => getv ρ i
def cE (d : D) : EF := fun _ => some d
def lE (fa : AF) : EF := fun ρ => (fa ρ).map .list
/-! ### from one judgement to another -/
theorem DE_r (h : DE X O e f) : DR X O e f := by
  obtain ⟨t, p, r⟩ := h
  exact ⟨t, p, fun G σ H F ρ d Q s hf q => r G σ H F ρ d Q s hf fun v H' F' g x => q v H' F' g (.inl x)⟩
theorem DN_e (h : DN X O e fa) : DE X O e (lE fa) := by
  obtain ⟨t, p, r⟩ := h
  refine ⟨t, p, fun G σ H F ρ d Q s hf q => ?_⟩
  unfold lE at hf
  cases e1 : fa ρ with
  | none => simp [e1] at hf
  | some ds =>
    simp [e1] at hf; subst hf
    refine r G σ H F ρ ds Q s e1 fun a vs H' F' g hn ha hfa hd => ?_
    refine q (.ref a) H' (upd F' a (.lst vs)) ⟨same_trans g.ff (same_upd hfa), g.hh, fun b o x => ?_, fun b o x n => ?_⟩ (.dat (.lst (.inl (.inl upd_same)) (dpAll_mono (same_upd hfa) hd)))
    · by_cases hb : b = a
      · subst hb; rw [upd_same] at x; rw [← x]; exact ha
      · rw [upd_ne hb] at x; exact g.fh b o x
    · rw [upd_ne (ne_of_none x hn)]; exact g.own b o x n
theorem DN_r (h : DN X O e fa) : DR X O e (lE fa) := DE_r (DN_e h)

/-! ### names and constants -/
theorem de_var (i : Nat) {x : Str} (hO : O.contains i = false) (h : PE X (.Name x pos) (tVar i)) : DE X O (.Name x pos) (vE i) := by
  refine ⟨_, h, fun G σ H F ρ d Q s hf q => ?_⟩
  have hO' : i ∉ O := fun z => by rw [List.contains_iff_mem.mpr z] at hO; cases hO
  obtain ⟨v, hs, r⟩ := s.dat i d hO' hf
  exact ⟨v, hs, q v H F (Grow.refl s.sub) r⟩
theorem dr_var (i : Nat) {x : Str} (h : PE X (.Name x pos) (tVar i)) : DR X O (.Name x pos) (vE i) := by
  refine ⟨_, h, fun G σ H F ρ d Q s hf q => ?_⟩
  by_cases hO : i ∈ O
  · obtain ⟨v, hs, a, vs, ds, rfl, rfl, h1, h2, h3⟩ := s.own i d hO hf
    exact ⟨_, hs, q _ H F (Grow.refl s.sub) (.inr ⟨a, vs, ds, rfl, rfl, .inl (.inl h1), h3⟩)⟩
  · obtain ⟨v, hs, r⟩ := s.dat i d hO hf
    exact ⟨v, hs, q v H F (Grow.refl s.sub) (.inl r)⟩
theorem de_int {i : Int} {j} : DE X O (.Constant (.int i) j pos) (cE (.int i)) :=
  ⟨_, pe_int, fun G σ H F ρ d Q s hf q => by cases hf; exact q _ H F (Grow.refl s.sub) (.dat (.int _))⟩
theorem de_bl {b : Bool} {j} : DE X O (.Constant (.bool b) j pos) (cE (.bool b)) :=
  ⟨_, pe_bl, fun G σ H F ρ d Q s hf q => by cases hf; exact q _ H F (Grow.refl s.sub) (.dat (.bl _))⟩
theorem de_non {j} : DE X O (.Constant .none j pos) (cE .none) :=
  ⟨_, pe_non, fun G σ H F ρ d Q s hf q => by cases hf; exact q _ H F (Grow.refl s.sub) (.dat .non)⟩

/-! ### two operands -/
def o2 (op : D → D → Option D) (f g : EF) : EF := fun ρ => (f ρ).bind fun x => (g ρ).bind fun y => op x y
def o1 (op : D → Option D) (f : EF) : EF := fun ρ => (f ρ).bind op
/-- the operator's answer on represented values -/
def OpD (X : Cx) (r : R2) (op : D → D → Option D) : Prop := ∀ (F H : Hp) (x y : V) (dx dy d : D) (Q : VK), Same F H → Rep X.K F x dx → Rep X.K F y dy → op dx dy = some d →
  (∀ v H' F', Grow F H F' H' → Rep X.K F' v d → Q v H') → r x y H Q
def OpDR (X : Cx) (r : R2) (op : D → D → Option D) : Prop := ∀ (F H : Hp) (x y : V) (dx dy d : D) (Q : VK), Same F H → RepR X.K F H x dx → RepR X.K F H y dy → op dx dy = some d →
  (∀ v H' F', Grow F H F' H' → Rep X.K F' v d → Q v H') → r x y H Q
theorem OpD.tOp {r : R2} {op : D → D → Option D} (ho : OpD X r op) {ta tb : TE}
    (ha : ∀ (G : Ent) (σ : Sg) (H F : Hp) (ρ : Rho) (d : D) (Q : VK), StRep X.K G O σ H ρ F → f ρ = some d → (∀ v H' F', Grow F H F' H' → Rep X.K F' v d → Q v H') → ta σ H Q)
    (hb : ∀ (G : Ent) (σ : Sg) (H F : Hp) (ρ : Rho) (d : D) (Q : VK), StRep X.K G O σ H ρ F → g ρ = some d → (∀ v H' F', Grow F H F' H' → Rep X.K F' v d → Q v H') → tb σ H Q)
    (G : Ent) (σ : Sg) (H F : Hp) (ρ : Rho) (d : D) (Q : VK) (s : StRep X.K G O σ H ρ F) (hf : o2 op f g ρ = some d) (q : ∀ v H' F', Grow F H F' H' → Rep X.K F' v d → Q v H') : L2.tOp r ta tb σ H Q := by
  unfold o2 at hf
  cases e1 : f ρ with
  | none => simp [e1] at hf
  | some x =>
    cases e2 : g ρ with
    | none => simp [e1, e2] at hf
    | some y =>
      simp [e1, e2] at hf
      refine ha G σ H F ρ x _ s e1 fun vx H1 F1 g1 r1 => ?_
      refine hb G σ H1 F1 ρ y _ (s.grow g1) e2 fun vy H2 F2 g2 r2 => ?_
      exact ho F2 H2 vx vy x y d Q (g2.fh) (r1.mono g2.ff) r2 hf fun v H3 F3 g3 r3 => q v H3 F3 (g1.trans (g2.trans g3)) r3
theorem OpDR.tOp {r : R2} {op : D → D → Option D} (ho : OpDR X r op) {ta tb : TE}
    (ha : ∀ (G : Ent) (σ : Sg) (H F : Hp) (ρ : Rho) (d : D) (Q : VK), StRep X.K G O σ H ρ F → f ρ = some d → (∀ v H' F', Grow F H F' H' → RepR X.K F' H' v d → Q v H') → ta σ H Q)
    (hb : ∀ (G : Ent) (σ : Sg) (H F : Hp) (ρ : Rho) (d : D) (Q : VK), StRep X.K G O σ H ρ F → g ρ = some d → (∀ v H' F', Grow F H F' H' → RepR X.K F' H' v d → Q v H') → tb σ H Q)
    (G : Ent) (σ : Sg) (H F : Hp) (ρ : Rho) (d : D) (Q : VK) (s : StRep X.K G O σ H ρ F) (hf : o2 op f g ρ = some d) (q : ∀ v H' F', Grow F H F' H' → Rep X.K F' v d → Q v H') : L2.tOp r ta tb σ H Q := by
  unfold o2 at hf
  cases e1 : f ρ with
  | none => simp [e1] at hf
  | some x =>
    cases e2 : g ρ with
    | none => simp [e1, e2] at hf
    | some y =>
      simp [e1, e2] at hf
      refine ha G σ H F ρ x _ s e1 fun vx H1 F1 g1 r1 => ?_
      refine hb G σ H1 F1 ρ y _ (s.grow g1) e2 fun vy H2 F2 g2 r2 => ?_
      exact ho F2 H2 vx vy x y d Q (g2.fh) (r1.grow g2) r2 hf fun v H3 F3 g3 r3 => q v H3 F3 (g1.trans (g2.trans g3)) r3
theorem de_op {op : Operator} {r : R2} {o : D → D → Option D} (h : OpR X (binaryOp op) r) (ho : OpD X r o) (ha : DE X O a1 f) (hb : DE X O a2 g) : DE X O (.BinOp a1 op a2 pos) (o2 o f g) := by
  obtain ⟨ta, pa, ra⟩ := ha
  obtain ⟨tb, pb, rb⟩ := hb
  exact ⟨_, pe_op h pa pb, fun G σ H F ρ d Q s hf q => OpD.tOp ho ra rb G σ H F ρ d Q s hf q⟩

/-! ### arithmetic -/
def addD : D → D → Option D
  | .int a, .int b => some (.int (a + b))
  | _, _ => none
def subD : D → D → Option D
  | .int a, .int b => some (.int (a - b))
  | _, _ => none
def mulB (a b : Int) : Bool := !(decide (Builtin.Int.intBits a > shortFactorBits) && decide (Builtin.Int.intBits b > shortFactorBits) && Builtin.Int.intTooBig (Builtin.Int.intBits a + Builtin.Int.intBits b))
def mulD : D → D → Option D
  | .int a, .int b => if mulB a b = true then some (.int (a * b)) else none
  | _, _ => none
def divB (a b : Int) : Bool := !decide (b = 0) && !Builtin.divisionGoesByPylong a b
def fdivD : D → D → Option D
  | .int a, .int b => if divB a b = true then some (.int (a.fdiv b)) else none
  | _, _ => none
def modD : D → D → Option D
  | .int a, .int b => if b = 0 then none else some (.int (a.fmod b))
  | _, _ => none
def powD : D → D → Option D
  | .int a, .int b => if 0 ≤ b ∧ b ≤ 1000000 ∧ a.natAbs < 2 ^ 64 then some (.int (a ^ b.toNat)) else none
  | _, _ => none
def intOp (C : Int → Int → Prop) (k : Int → Int → Int) : R2 := rI C fun i j => .int (k i j)
theorem opD_int {C : Int → Int → Prop} {k : Int → Int → Int} {op : D → D → Option D} (h : ∀ x y d, op x y = some d → ∃ i j, x = .int i ∧ y = .int j ∧ C i j ∧ d = .int (k i j)) : OpD X (rI C fun i j => .int (k i j)) op := by
  intro F H x y dx dy d Q hs rx ry he q
  obtain ⟨i, j, rfl, rfl, hc, rfl⟩ := h _ _ _ he
  exact ⟨i, j, rx.int_inv, ry.int_inv, hc, q _ H F (Grow.refl hs) (.dat (.int _))⟩
theorem opD_int0 {k : Int → Int → Int} {op : D → D → Option D} (h : ∀ x y d, op x y = some d → ∃ i j, x = .int i ∧ y = .int j ∧ d = .int (k i j)) : OpD X (rI0 fun i j => .int (k i j)) op := by
  intro F H x y dx dy d Q hs rx ry he q
  obtain ⟨i, j, rfl, rfl, rfl⟩ := h _ _ _ he
  exact ⟨i, j, rx.int_inv, ry.int_inv, q _ H F (Grow.refl hs) (.dat (.int _))⟩
theorem de_add (ha : DE X O a1 f) (hb : DE X O a2 g) : DE X O (.BinOp a1 .Add a2 pos) (o2 addD f g) :=
  de_op op_add (opD_int0 fun x y d h => by cases x <;> cases y <;> simp [addD] at h; exact ⟨_, _, rfl, rfl, h.symm⟩) ha hb
theorem de_sub (ha : DE X O a1 f) (hb : DE X O a2 g) : DE X O (.BinOp a1 .Sub a2 pos) (o2 subD f g) :=
  de_op op_sub (opD_int0 fun x y d h => by cases x <;> cases y <;> simp [subD] at h; exact ⟨_, _, rfl, rfl, h.symm⟩) ha hb
theorem mulB_ok {a b : Int} (h : mulB a b = true) : IntMulOk a b := by
  unfold IntMulOk
  intro z
  unfold mulB at h
  rw [z] at h
  cases h
theorem op_mulB : OpR X (binaryOp .Mult) (rI (fun a b => mulB a b = true) fun i j => .int (i * j)) := opI fun _ _ _ _ _ _ _ hc q => mul_int q (mulB_ok hc)
theorem de_mul (ha : DE X O a1 f) (hb : DE X O a2 g) : DE X O (.BinOp a1 .Mult a2 pos) (o2 mulD f g) :=
  de_op op_mulB (opD_int fun x y d h => by
    cases x <;> cases y <;> simp [mulD] at h
    exact ⟨_, _, rfl, rfl, h.1, h.2.symm⟩) ha hb
theorem divB_ok {a b : Int} (h : divB a b = true) : b ≠ 0 ∧ Builtin.divisionGoesByPylong a b = false := by
  unfold divB at h
  rw [Bool.and_eq_true] at h
  exact ⟨by simpa using h.1, by simpa using h.2⟩
theorem op_fdivB : OpR X (binaryOp .FloorDiv) (rI (fun a b => divB a b = true) fun i j => .int (i.fdiv j)) := opI fun _ _ _ _ _ _ _ hc q => floordiv_int (divB_ok hc).1 q (.inl (divB_ok hc).2)
theorem de_fdiv (ha : DE X O a1 f) (hb : DE X O a2 g) : DE X O (.BinOp a1 .FloorDiv a2 pos) (o2 fdivD f g) :=
  de_op op_fdivB (opD_int fun x y d h => by
    cases x <;> cases y <;> simp [fdivD] at h
    exact ⟨_, _, rfl, rfl, h.1, h.2.symm⟩) ha hb
theorem de_mod (ha : DE X O a1 f) (hb : DE X O a2 g) : DE X O (.BinOp a1 .Mod a2 pos) (o2 modD f g) :=
  de_op op_modN (opD_int fun x y d h => by
    cases x <;> cases y <;> simp [modD] at h
    exact ⟨_, _, rfl, rfl, h.1, h.2.symm⟩) ha hb
theorem de_pow (ha : DE X O a1 f) (hb : DE X O a2 g) : DE X O (.BinOp a1 .Pow a2 pos) (o2 powD f g) :=
  de_op op_pow (opD_int fun x y d h => by
    cases x <;> cases y <;> simp [powD] at h
    exact ⟨_, _, rfl, rfl, h.1, h.2.symm⟩) ha hb
def negD : D → Option D
  | .int a => some (.int (-a))
  | _ => none
theorem de_neg (ha : DE X O e f) : DE X O (.UnaryOp .USub e pos) (o1 negD f) := by
  obtain ⟨ta, pa, ra⟩ := ha
  refine ⟨_, pe_un un_neg pa, fun G σ H F ρ d Q s hf q => ?_⟩
  unfold o1 at hf
  cases e1 : f ρ with
  | none => simp [e1] at hf
  | some x =>
    simp [e1] at hf
    refine ra G σ H F ρ x _ s e1 fun vx H1 F1 g1 r1 => ?_
    cases x <;> simp [negD] at hf
    subst hf
    exact ⟨_, r1.int_inv, q _ H1 F1 g1 (.dat (.int _))⟩

/-! ### comparisons -/
/-- a comparison: both as a value and as a test -/
def DC (X : Cx) (O : List Nat) (op : CmpOp) (a b : Expr) (f : EF) : Prop := ∃ r ta tb, OpR X (compareOp op) r ∧ PE X a ta ∧ PE X b tb ∧
  ∀ (G : Ent) (σ : Sg) (H F : Hp) (ρ : Rho) (d : D) (Q : VK), StRep X.K G O σ H ρ F → f ρ = some d → (∀ v H' F', Grow F H F' H' → Rep X.K F' v d → Q v H') → L2.tOp r ta tb σ H Q
theorem de_cmp {op : CmpOp} (h : DC X O op a1 a2 f) (hm : behindInMarks op a2 = false) : DE X O (.Compare a1 [op] [a2] pos) f := by
  obtain ⟨r, ta, tb, ho, pa, pb, rd⟩ := h
  exact ⟨_, pe_cmpR ho pa pb hm, rd⟩
def tb (f : EF) : BF := fun ρ => match f ρ with
  | some (.bool b) => some b
  | _ => none
theorem tb_some {ρ : Rho} {b : Bool} (h : tb f ρ = some b) : f ρ = some (.bool b) := by
  unfold tb at h
  cases e : f ρ with
  | none => simp [e] at h
  | some d => cases d <;> simp [e] at h; subst h; rfl
theorem dt_cmp {op : CmpOp} (h : DC X O op a1 a2 f) (hm : behindInMarks op a2 = false) : DT X O (.Compare a1 [op] [a2] pos) (tb f) := by
  obtain ⟨r, ta, tb, ho, pa, pb, rd⟩ := h
  refine ⟨_, pt_cmpR ho pa pb hm, fun G σ H F ρ b Q s hf q => ?_⟩
  exact rd G σ H F ρ (.bool b) _ s (tb_some hf) fun v H' F' g r => ⟨b, r.bl_inv, q H' F' g⟩
theorem dt_val {t : EF} (h : DE X O e t) (he : ∀ whole, isTrue e X.env whole = (do let v ← whole; standAt e.pos; holding [v] (truthy v)) := by intro _; rfl) : DT X O e (tb t) := by
  obtain ⟨te, p, rd⟩ := h
  refine ⟨_, pt_val p he, fun G σ H F ρ b Q s hf q => ?_⟩
  exact rd G σ H F ρ (.bool b) _ s (tb_some hf) fun v H' F' g r => ⟨b, r.bl_inv, q H' F' g⟩
theorem dc_of {op : CmpOp} {r : R2} {o : D → D → Option D} (h : OpR X (compareOp op) r) (ho : OpD X r o) (ha : DE X O a1 f) (hb : DE X O a2 g) : DC X O op a1 a2 (o2 o f g) := by
  obtain ⟨ta, pa, ra⟩ := ha
  obtain ⟨tb, pb, rb⟩ := hb
  exact ⟨r, ta, tb, h, pa, pb, fun G σ H F ρ d Q s hf q => OpD.tOp ho ra rb G σ H F ρ d Q s hf q⟩
theorem dc_ofR {op : CmpOp} {r : R2} {o : D → D → Option D} (h : OpR X (compareOp op) r) (ho : OpDR X r o) (ha : DR X O a1 f) (hb : DR X O a2 g) : DC X O op a1 a2 (o2 o f g) := by
  obtain ⟨ta, pa, ra⟩ := ha
  obtain ⟨tb, pb, rb⟩ := hb
  exact ⟨r, ta, tb, h, pa, pb, fun G σ H F ρ d Q s hf q => OpDR.tOp ho ra rb G σ H F ρ d Q s hf q⟩
def cmpD (k : Int → Int → Bool) : D → D → Option D
  | .int a, .int b => some (.bool (k a b))
  | _, _ => none
abbrev ltD := cmpD fun a b => decide (a < b)
abbrev leD := cmpD fun a b => decide (a ≤ b)
abbrev gtD := cmpD fun a b => decide (b < a)
abbrev geD := cmpD fun a b => decide (b ≤ a)
theorem opD_cmp {k : Int → Int → Bool} : OpD X (rI0 fun i j => .bl (k i j)) (cmpD k) := by
  intro F H x y dx dy d Q hs rx ry he q
  cases dx <;> cases dy <;> simp [cmpD] at he
  subst he
  exact ⟨_, _, rx.int_inv, ry.int_inv, q _ H F (Grow.refl hs) (.dat (.bl _))⟩
theorem dc_lt (ha : DE X O a1 f) (hb : DE X O a2 g) : DC X O .Lt a1 a2 (o2 ltD f g) := dc_of op_lt opD_cmp ha hb
theorem dc_le (ha : DE X O a1 f) (hb : DE X O a2 g) : DC X O .LtE a1 a2 (o2 leD f g) := dc_of op_le opD_cmp ha hb
theorem dc_gt (ha : DE X O a1 f) (hb : DE X O a2 g) : DC X O .Gt a1 a2 (o2 gtD f g) := dc_of op_gt opD_cmp ha hb
theorem dc_ge (ha : DE X O a1 f) (hb : DE X O a2 g) : DC X O .GtE a1 a2 (o2 geD f g) := dc_of op_ge opD_cmp ha hb
def eqD : D → D → Option D := fun x y => if SeqAt.shaped x = true ∧ SeqAt.shaped y = true then some (.bool (PyData.eqv x y)) else none
def neD : D → D → Option D := fun x y => if SeqAt.shaped x = true ∧ SeqAt.shaped y = true then some (.bool (!PyData.eqv x y)) else none
theorem dc_eq (hu : X.A.units + 64 < cLine) (ha : DR X O a1 f) (hb : DR X O a2 g) : DC X O .Eq a1 a2 (o2 eqD f g) := by
  refine dc_ofR (op_eqD hu) (fun F H x y dx dy d Q hs rx ry he q => ?_) ha hb
  unfold eqD at he
  by_cases h : SeqAt.shaped dx = true ∧ SeqAt.shaped dy = true
  · rw [if_pos h] at he; cases he
    exact ⟨dx, dy, rx.dp hs h.1, ry.dp hs h.2, h.1, h.2, q _ H F (Grow.refl hs) (.dat (.bl _))⟩
  · rw [if_neg h] at he; cases he
theorem dc_ne (hu : X.A.units + 64 < cLine) (ha : DR X O a1 f) (hb : DR X O a2 g) : DC X O .NotEq a1 a2 (o2 neD f g) := by
  refine dc_ofR (op_neD hu) (fun F H x y dx dy d Q hs rx ry he q => ?_) ha hb
  unfold neD at he
  by_cases h : SeqAt.shaped dx = true ∧ SeqAt.shaped dy = true
  · rw [if_pos h] at he; cases he
    exact ⟨dx, dy, rx.dp hs h.1, ry.dp hs h.2, h.1, h.2, q _ H F (Grow.refl hs) (.dat (.bl _))⟩
  · rw [if_neg h] at he; cases he
def inD : D → D → Option D
  | x, .list ds => if SeqAt.shaped x = true ∧ SeqAt.shaped (.list ds) = true then some (.bool (ds.any fun z => PyData.eqv z x)) else none
  | _, _ => none
def ninD : D → D → Option D
  | x, .list ds => if SeqAt.shaped x = true ∧ SeqAt.shaped (.list ds) = true then some (.bool (!ds.any fun z => PyData.eqv z x)) else none
  | _, _ => none
theorem dc_in (hu : X.A.units + 65 < cLine) (ha : DR X O a1 f) (hb : DR X O a2 g) : DC X O .In a1 a2 (o2 inD f g) := by
  refine dc_ofR (op_inD hu) (fun F H x y dx dy d Q hs rx ry he q => ?_) ha hb
  cases dy with
  | list ds =>
    simp only [inD] at he
    by_cases h : SeqAt.shaped dx = true ∧ SeqAt.shaped (.list ds) = true
    · rw [if_pos h] at he; cases he
      exact ⟨dx, ds, rx.dp hs h.1, ry.dp hs h.2, h.1, h.2, q _ H F (Grow.refl hs) (.dat (.bl _))⟩
    · rw [if_neg h] at he; cases he
  | _ => simp [inD] at he
theorem dc_nin (hu : X.A.units + 65 < cLine) (ha : DR X O a1 f) (hb : DR X O a2 g) : DC X O .NotIn a1 a2 (o2 ninD f g) := by
  refine dc_ofR (op_notInD hu) (fun F H x y dx dy d Q hs rx ry he q => ?_) ha hb
  cases dy with
  | list ds =>
    simp only [ninD] at he
    by_cases h : SeqAt.shaped dx = true ∧ SeqAt.shaped (.list ds) = true
    · rw [if_pos h] at he; cases he
      exact ⟨dx, ds, rx.dp hs h.1, ry.dp hs h.2, h.1, h.2, q _ H F (Grow.refl hs) (.dat (.bl _))⟩
    · rw [if_neg h] at he; cases he
  | _ => simp [ninD] at he
/-- is None -/
def isND (x : D) : Bool := match x with
  | .none => true
  | _ => false
def isD : D → D → Option D
  | x, .none => some (.bool (isND x))
  | _, _ => none
def isntD : D → D → Option D
  | x, .none => some (.bool (!isND x))
  | _, _ => none
theorem rep_isN {K : PySem.W.Frag} {F : Hp} {v : V} {d : D} (r : Rep K F v d) : decide (v = .non) = isND d := by
  cases r with
  | dat h => cases h <;> simp [isND]
  | exc q => simp [isND, excD]
theorem dc_is (ha : DE X O a1 f) (hb : DE X O a2 g) : DC X O .Is a1 a2 (o2 isD f g) := by
  refine dc_of op_isN (fun F H x y dx dy d Q hs rx ry he q => ?_) ha hb
  cases dy <;> simp [isD] at he
  subst he
  exact ⟨ry.non_inv, by rw [rep_isN rx]; exact q _ H F (Grow.refl hs) (.dat (.bl _))⟩
theorem dc_isnt (ha : DE X O a1 f) (hb : DE X O a2 g) : DC X O .IsNot a1 a2 (o2 isntD f g) := by
  refine dc_of op_notN (fun F H x y dx dy d Q hs rx ry he q => ?_) ha hb
  cases dy <;> simp [isntD] at he
  subst he
  exact ⟨ry.non_inv, by rw [rep_isN rx]; exact q _ H F (Grow.refl hs) (.dat (.bl _))⟩

/-! ### and, or, not; a if t else b -/
def andB (f g : BF) : BF := fun ρ => (f ρ).bind fun b => if b = true then g ρ else some false
def orB (f g : BF) : BF := fun ρ => (f ρ).bind fun b => if b = true then some true else g ρ
def notB (f : BF) : BF := fun ρ => (f ρ).map fun b => !b
def andE (f g : EF) : EF := fun ρ => (tb f ρ).bind fun b => if b = true then g ρ else some (.bool false)
def orE (f g : EF) : EF := fun ρ => (tb f ρ).bind fun b => if b = true then some (.bool true) else g ρ
def notE (f : EF) : EF := fun ρ => (tb f ρ).map fun b => .bool (!b)
def ifE (c : BF) (f g : EF) : EF := fun ρ => (c ρ).bind fun b => if b = true then f ρ else g ρ
variable {c c' : BF} {rest : List Expr}
theorem dw_t (h : DW X O e c) : DT X O e c := let ⟨t, p, r⟩ := h; ⟨t, p.pt, r⟩
theorem dw_and1 (h : DT X O e c) : DW X O (.BoolOp .And [e] pos) c := let ⟨t, p, r⟩ := h; ⟨t, pw_and1 p, r⟩
theorem dw_or1 (h : DT X O e c) : DW X O (.BoolOp .Or [e] pos) c := let ⟨t, p, r⟩ := h; ⟨t, pw_or1 p, r⟩
theorem dw_and (ha : DT X O a1 c) (hb : DW X O (.BoolOp .And (a2 :: rest) pos) c') : DW X O (.BoolOp .And (a1 :: a2 :: rest) pos) (andB c c') := by
  obtain ⟨ta, pa, ra⟩ := ha
  obtain ⟨tb, pb, rb⟩ := hb
  refine ⟨_, pw_and pa pb, fun G σ H F ρ b Q s hf q => ?_⟩
  unfold andB at hf
  cases e : c ρ with
  | none => simp [e] at hf
  | some k =>
    simp only [e, Option.bind_some] at hf
    refine ra G σ H F ρ k _ s e fun H1 F1 g1 => ?_
    cases k with
    | true => rw [if_pos rfl] at hf ⊢; exact rb G σ H1 F1 ρ b Q (s.grow g1) hf fun H2 F2 g2 => q H2 F2 (g1.trans g2)
    | false => rw [if_neg Bool.false_ne_true] at hf ⊢; cases hf; exact q H1 F1 g1
theorem dw_or (ha : DT X O a1 c) (hb : DW X O (.BoolOp .Or (a2 :: rest) pos) c') : DW X O (.BoolOp .Or (a1 :: a2 :: rest) pos) (orB c c') := by
  obtain ⟨ta, pa, ra⟩ := ha
  obtain ⟨tb, pb, rb⟩ := hb
  refine ⟨_, pw_or pa pb, fun G σ H F ρ b Q s hf q => ?_⟩
  unfold orB at hf
  cases e : c ρ with
  | none => simp [e] at hf
  | some k =>
    simp only [e, Option.bind_some] at hf
    refine ra G σ H F ρ k _ s e fun H1 F1 g1 => ?_
    cases k with
    | true => rw [if_pos rfl] at hf ⊢; cases hf; exact q H1 F1 g1
    | false => rw [if_neg Bool.false_ne_true] at hf ⊢; exact rb G σ H1 F1 ρ b Q (s.grow g1) hf fun H2 F2 g2 => q H2 F2 (g1.trans g2)
theorem dt_not (ha : DT X O e c) : DT X O (.UnaryOp .Not e pos) (notB c) := by
  obtain ⟨ta, pa, ra⟩ := ha
  refine ⟨_, pt_not pa, fun G σ H F ρ b Q s hf q => ?_⟩
  unfold notB at hf
  cases e : c ρ with
  | none => simp [e] at hf
  | some k =>
    rw [e] at hf
    have hf : (!k) = b := Option.some.inj hf
    subst hf
    refine ra G σ H F ρ k _ s e fun H1 F1 g1 => ?_
    exact q H1 F1 g1
theorem de_one {op} (h : DE X O e f) : DE X O (.BoolOp op [e] pos) f := let ⟨t, p, r⟩ := h; ⟨t, pe_one p, r⟩
theorem de_and (ha : DE X O a1 f) (hb : DE X O (.BoolOp .And (a2 :: rest) pos) g) : DE X O (.BoolOp .And (a1 :: a2 :: rest) pos) (andE f g) := by
  obtain ⟨ta, pa, ra⟩ := ha
  obtain ⟨tb, pb, rb⟩ := hb
  refine ⟨_, pe_and pa pb, fun G σ H F ρ b Q s hf q => ?_⟩
  unfold andE at hf
  cases e : DL.tb f ρ with
  | none => simp [e] at hf
  | some k =>
    simp only [e, Option.bind_some] at hf
    refine ra G σ H F ρ (.bool k) _ s (tb_some e) fun v H1 F1 g1 r1 => ⟨k, r1.bl_inv, ?_⟩
    cases k with
    | true => rw [if_pos rfl] at hf ⊢; exact rb G σ H1 F1 ρ b Q (s.grow g1) hf fun v H2 F2 g2 => q v H2 F2 (g1.trans g2)
    | false => rw [if_neg Bool.false_ne_true] at hf ⊢; cases hf; exact q _ H1 F1 g1 (.dat (.bl _))
theorem de_or (ha : DE X O a1 f) (hb : DE X O (.BoolOp .Or (a2 :: rest) pos) g) : DE X O (.BoolOp .Or (a1 :: a2 :: rest) pos) (orE f g) := by
  obtain ⟨ta, pa, ra⟩ := ha
  obtain ⟨tb, pb, rb⟩ := hb
  refine ⟨_, pe_or pa pb, fun G σ H F ρ b Q s hf q => ?_⟩
  unfold orE at hf
  cases e : DL.tb f ρ with
  | none => simp [e] at hf
  | some k =>
    simp only [e, Option.bind_some] at hf
    refine ra G σ H F ρ (.bool k) _ s (tb_some e) fun v H1 F1 g1 r1 => ⟨k, r1.bl_inv, ?_⟩
    cases k with
    | true => rw [if_pos rfl] at hf ⊢; cases hf; exact q _ H1 F1 g1 (.dat (.bl _))
    | false => rw [if_neg Bool.false_ne_true] at hf ⊢; exact rb G σ H1 F1 ρ b Q (s.grow g1) hf fun v H2 F2 g2 => q v H2 F2 (g1.trans g2)
theorem de_not (ha : DE X O e f) : DE X O (.UnaryOp .Not e pos) (notE f) := by
  obtain ⟨ta, pa, ra⟩ := ha
  refine ⟨_, pe_not pa, fun G σ H F ρ b Q s hf q => ?_⟩
  unfold notE at hf
  cases e : DL.tb f ρ with
  | none => simp [e] at hf
  | some k =>
    simp [e] at hf
    refine ra G σ H F ρ (.bool k) _ s (tb_some e) fun v H1 F1 g1 r1 => ⟨k, r1.bl_inv, ?_⟩
    subst hf
    exact q _ H1 F1 g1 (.dat (.bl _))
theorem de_ifExp (hc : DT X O e c) (ha : DE X O a1 f) (hb : DE X O a2 g) : DE X O (.IfExp e a1 a2 pos) (ifE c f g) := by
  obtain ⟨tc, pc, rc⟩ := hc
  obtain ⟨ta, pa, ra⟩ := ha
  obtain ⟨tb, pb, rb⟩ := hb
  refine ⟨_, pe_ifExp pc pa pb, fun G σ H F ρ d Q s hf q => ?_⟩
  unfold ifE at hf
  cases e : c ρ with
  | none => simp [e] at hf
  | some k =>
    simp only [e, Option.bind_some] at hf
    refine rc G σ H F ρ k _ s e fun H1 F1 g1 => ?_
    cases k with
    | true => rw [if_pos rfl] at hf ⊢; exact ra G σ H1 F1 ρ d Q (s.grow g1) hf fun v H2 F2 g2 => q v H2 F2 (g1.trans g2)
    | false => rw [if_neg Bool.false_ne_true] at hf ⊢; exact rb G σ H1 F1 ρ d Q (s.grow g1) hf fun v H2 F2 g2 => q v H2 F2 (g1.trans g2)

/-! ### arguments, displays -/
def nilA : AF := fun _ => some []
def consA (f : EF) (r : AF) : AF := fun ρ => (f ρ).bind fun x => (r ρ).bind fun xs => some (x :: xs)
theorem da_nil : DA X O [] nilA := ⟨⟨_, pa_nil, fun G σ H F ρ ds Q s hf q => by cases hf; exact q [] H F (Grow.refl s.sub) .nil⟩, fun ρ ds h => by cases h; rfl⟩
theorem da_cons {r : AF} (he : DE X O e f) (hr : DA X O es r) (hs : starEach (e :: es) X.env = (false, eval e X.env) :: starEach es X.env := by rfl) : DA X O (e :: es) (consA f r) := by
  obtain ⟨te, pe, re⟩ := he
  obtain ⟨⟨tr, pr, rr⟩, hl⟩ := hr
  refine ⟨⟨_, pa_cons pe pr hs, fun G σ H F ρ ds Q s hf q => ?_⟩, fun ρ ds hf => ?_⟩
  · unfold consA at hf
    cases e1 : f ρ with
    | none => simp [e1] at hf
    | some x =>
      cases e2 : r ρ with
      | none => simp [e1, e2] at hf
      | some xs =>
        simp [e1, e2] at hf
        subst hf
        refine re G σ H F ρ x _ s e1 fun v H1 F1 g1 r1 => ?_
        exact rr G σ H1 F1 ρ xs _ (s.grow g1) e2 fun vs H2 F2 g2 r2 => q _ H2 F2 (g1.trans g2) (.cons (r1.mono g2.ff) r2)
  · unfold consA at hf
    cases e1 : f ρ with
    | none => simp [e1] at hf
    | some x =>
      cases e2 : r ρ with
      | none => simp [e1, e2] at hf
      | some xs =>
        simp [e1, e2] at hf
        subst hf
        simp [hl ρ xs e2]
/-- plain data, all of them -/
def plainD : D → Bool
  | .dict _ => false
  | _ => true
theorem Rep.dp {K : PySem.W.Frag} {F : Hp} {v : V} {d : D} (h : plainD d = true) (r : Rep K F v d) : Dp K F v d := by
  cases r with
  | dat h => exact h
  | exc q => cases h
theorem RepAll.dp {K : PySem.W.Frag} {F : Hp} : ∀ {vs : List V} {ds : List D}, ds.all plainD = true → RepAll K F vs ds → DpAll K F vs ds
  | _, _, _, .nil => .nil
  | _, _, h, .cons r t => by
    rw [List.all_cons, Bool.and_eq_true] at h
    exact .cons (r.dp h.1) (RepAll.dp h.2 t)
def tupE (r : AF) : EF := fun ρ => (r ρ).bind fun ds => if ds.all plainD = true ∧ ds.length ≤ sizeLine then some (.tuple ds) else none
def lstA (r : AF) : AF := fun ρ => (r ρ).bind fun ds => if ds.all plainD = true ∧ ds.length ≤ sizeLine then some ds else none
theorem de_tup {r : AF} {x1} (h : DA X O es r) : DE X O (.Tuple es x1 pos) (tupE r) := by
  obtain ⟨⟨ta, pa, ra⟩, _⟩ := h
  refine ⟨_, pe_tup pa, fun G σ H F ρ d Q s hf q => ?_⟩
  unfold tupE at hf
  cases e : r ρ with
  | none => simp [e] at hf
  | some ds =>
    simp only [e, Option.bind_some] at hf
    by_cases hp : ds.all plainD = true ∧ ds.length ≤ sizeLine
    · rw [if_pos hp] at hf; cases hf
      refine ra G σ H F ρ ds _ s e fun vs H1 F1 g1 r1 => ⟨by rw [r1.length]; exact hp.2, fun p hn => ?_⟩
      have hf1 := free_of g1.fh hn
      exact q (.ref p) _ (upd F1 p (.tup vs)) (g1.trans (Grow.new g1.fh hn)) (.dat (.tup (.inl (.inl upd_same)) (dpAll_mono (same_upd hf1) (r1.dp hp.1))))
    · rw [if_neg hp] at hf; cases hf
theorem dn_lst {r : AF} (h : DA X O es r) : DN X O (.List es pos) (lstA r) := by
  obtain ⟨⟨ta, pa, ra⟩, _⟩ := h
  refine ⟨_, pe_lst pa, fun G σ H F ρ d' Q s hf q => ?_⟩
  unfold lstA at hf
  cases e : r ρ with
  | none => simp [e] at hf
  | some ds =>
    simp only [e, Option.bind_some] at hf
    by_cases hp : ds.all plainD = true ∧ ds.length ≤ sizeLine
    · rw [if_pos hp] at hf
      have hf := Option.some.inj hf
      subst hf
      refine ra G σ H F ρ ds _ s e fun vs H1 F1 g1 r1 => ⟨by rw [r1.length]; exact hp.2, fun p hn => ?_⟩
      have hf1 := free_of g1.fh hn
      refine q p vs _ F1 (g1.trans (Grow.newOwn g1.fh hn)) ?_ upd_same hf1 (r1.dp hp.1)
      exact free_of g1.hh hn
    · rw [if_neg hp] at hf; cases hf

/-! ### items, slices -/
def ixD : D → D → Option D
  | .list ds, .int i => atI ds i
  | .tuple ds, .int i => atI ds i
  | _, _ => none
theorem atI_dp {K : PySem.W.Frag} {F : Hp} {vs : List V} {ds : List D} {i : Int} {d : D} (h : DpAll K F vs ds) (e : atI ds i = some d) : ∃ v, atI vs i = some v ∧ Dp K F v d := by
  unfold atI at e ⊢
  rw [dpA_length h]
  cases q : ixN ds.length i with
  | none => simp [q] at e
  | some j =>
    simp only [q, Option.bind_some] at e ⊢
    exact dpA_get h e
theorem de_ix (ha : DR X O a1 f) (hb : DE X O a2 g) (hs : PlainIx a2 := by exact fun _ _ => rfl) : DE X O (.Subscript a1 a2 pos) (o2 ixD f g) := by
  obtain ⟨ta, pa, ra⟩ := ha
  obtain ⟨tb, pb, rb⟩ := hb
  refine ⟨_, pe_ix ix_seq pa pb hs, fun G σ H F ρ d Q s hf q => ?_⟩
  unfold o2 at hf
  cases e1 : f ρ with
  | none => simp [e1] at hf
  | some x =>
    cases e2 : g ρ with
    | none => simp [e1, e2] at hf
    | some y =>
      simp [e1, e2] at hf
      refine ra G σ H F ρ x _ s e1 fun vx H1 F1 g1 r1 => ?_
      refine rb G σ H1 F1 ρ y _ (s.grow g1) e2 fun vy H2 F2 g2 r2 => ?_
      cases y with
      | int i =>
        have r1' := r1.grow g2
        cases x with
        | list ds =>
          obtain ⟨a, vs, rfl, h1, h2⟩ := r1'.lst_inv g2.fh
          obtain ⟨v, hv, rv⟩ := atI_dp h2 (show atI ds i = some d from hf)
          exact .inl ⟨a, vs, i, v, rfl, r2.int_inv, h1, hv, q v H2 F2 (g1.trans g2) (.dat rv)⟩
        | tuple ds =>
          obtain ⟨a, vs, rfl, h1, h2⟩ := r1'.tup_inv
          obtain ⟨v, hv, rv⟩ := atI_dp h2 (show atI ds i = some d from hf)
          exact .inr (.inl ⟨a, vs, i, v, rfl, r2.int_inv, same_sqT g2.fh h1, hv, q v H2 F2 (g1.trans g2) (.dat rv)⟩)
        | _ => simp [ixD] at hf
      | _ => cases x <;> simp [ixD] at hf
abbrev OF := Rho → Option (Option Int)
def DP (X : Cx) (O : List Nat) (e : Option Expr) (f : OF) : Prop := ∃ t, PO X e t ∧ ∀ (G : Ent) (σ : Sg) (H F : Hp) (ρ : Rho) (o : Option Int) (Q : Option Int → Hp → Prop),
  StRep X.K G O σ H ρ F → f ρ = some o → (∀ H' F', Grow F H F' H' → Q o H') → t σ H Q
theorem dp_none : DP X O none (fun _ => some none) := ⟨_, po_none, fun G σ H F ρ o Q s hf q => by cases hf; exact q H F (Grow.refl s.sub)⟩
def partO (f : EF) : OF := fun ρ => match f ρ with
  | some (.int i) => some (some i)
  | _ => none
theorem dp_some (h : DE X O e f) : DP X O (some e) (partO f) := by
  obtain ⟨t, p, r⟩ := h
  refine ⟨_, po_some p, fun G σ H F ρ o Q s hf q => ?_⟩
  unfold partO at hf
  cases e : f ρ with
  | none => simp [e] at hf
  | some d =>
    cases d <;> simp [e] at hf
    subst hf
    exact r G σ H F ρ _ _ s e fun v H' F' g x => ⟨_, x.int_inv, q H' F' g⟩
def cutD (xs : List D) (lo hi : Option Int) : List D := (xs.drop (HT.sIx xs.length 0 lo)).take (HT.sIx xs.length xs.length hi - HT.sIx xs.length 0 lo)
theorem cut_dp {K : PySem.W.Frag} {F : Hp} {vs : List V} {ds : List D} (lo hi : Option Int) (h : DpAll K F vs ds) : DpAll K F (cutV vs lo hi) (cutD ds lo hi) := by
  unfold cutV cutD
  rw [dpA_length h]
  exact dpA_take _ (dpA_drop _ h)
def slA (f : EF) (lo hi : OF) : AF := fun ρ => match f ρ with
  | some (.list ds) => (lo ρ).bind fun l => (hi ρ).bind fun h => some (cutD ds l h)
  | _ => none
theorem dn_sl {lo hi : Option Expr} {l h : OF} {p2 : Pos} (ha : DR X O e f) (hl : DP X O lo l) (hh : DP X O hi h) : DN X O (.Subscript e (.Slice lo hi none p2) pos) (slA f l h) := by
  obtain ⟨ta, pa, ra⟩ := ha
  obtain ⟨tl, pl, rl⟩ := hl
  obtain ⟨th, ph, rh⟩ := hh
  refine ⟨_, pe_slice sl_list pa pl ph, fun G σ H F ρ ds Q s hf q => ?_⟩
  unfold slA at hf
  cases e1 : f ρ with
  | none => simp [e1] at hf
  | some x =>
    cases x with
    | list xs =>
      simp only [e1] at hf
      cases ea : l ρ with
      | none => rw [ea] at hf; cases hf
      | some a =>
      cases eb : h ρ with
      | none => rw [ea] at hf; simp [eb] at hf
      | some b =>
      rw [ea] at hf
      simp only [eb, Option.bind_some] at hf
      have hf := Option.some.inj hf
      subst hf
      refine ra G σ H F ρ _ _ s e1 fun vx H1 F1 g1 r1 => ?_
      refine rl G σ H1 F1 ρ a _ (s.grow g1) ea fun H2 F2 g2 => ?_
      refine rh G σ H2 F2 ρ b _ (s.grow (g1.trans g2)) eb fun H3 F3 g3 => ?_
      obtain ⟨p, vs, rfl, h1, h2⟩ := (r1.grow (g2.trans g3)).lst_inv g3.fh
      refine ⟨p, vs, rfl, h1, fun z hz => ?_⟩
      have gg := g1.trans (g2.trans g3)
      exact q z _ _ F3 (gg.trans (Grow.newOwn g3.fh hz)) (free_of gg.hh hz) upd_same (free_of g3.fh hz) (cut_dp _ _ h2)
    | _ => simp [e1] at hf
end
end DL

/-! DL, part 3: statements, loops, functions. -/
namespace DL
open PySem PySem.Spec PyProof.Rows L2

inductive Out where
  | nx (ρ : Rho) | rt (d : D) | bk (ρ : Rho) | ct (ρ : Rho)
abbrev SF := Rho → Option Out

/-- what is given back: data, or a list of the asker's own (new behind the entry) -/
def RetOk (K : PySem.W.Frag) (own : Bool) (F' H' H0 : Hp) (v : V) (d : D) : Prop := match own with
  | true => ∃ a vs ds, v = .ref a ∧ d = .list ds ∧ H' a = some (.lst vs) ∧ H0 a = none ∧ F' a = none ∧ DpAll K F' vs ds
  | false => Rep K F' v d
def Good (K : PySem.W.Frag) (G : Ent) (RO : Bool) (O' LB : List Nat) (F : Hp) (E : Ends) : Out → Prop
  | .nx ρ' => ∀ σ' H' F', StRep K G O' σ' H' ρ' F' → Same F F' → E.nx σ' H'
  | .bk ρ' => ∀ σ' H' F', StRep K G LB σ' H' ρ' F' → Same F F' → E.bk σ' H'
  | .ct ρ' => ∀ σ' H' F', StRep K G LB σ' H' ρ' F' → Same F F' → E.ct σ' H'
  | .rt d => ∀ v H' F', Grow G.F0 G.H0 F' H' → RetOk K RO F' H' G.H0 v d → E.rt v H'
def DS (X : Cx) (RO : Bool) (O O' LB : List Nat) (st : Stmt) (f : SF) : Prop := ∃ t, PS X st t ∧ ∀ (G : Ent) (σ : Sg) (H F : Hp) (ρ : Rho) (r : Out) (E : Ends),
  StRep X.K G O σ H ρ F → f ρ = some r → Good X.K G RO O' LB F E r → t E σ H
def DSs (X : Cx) (RO : Bool) (O O' LB : List Nat) (sts : List Stmt) (f : SF) : Prop := ∃ t, PSs X sts t ∧ ∀ (G : Ent) (σ : Sg) (H F : Hp) (ρ : Rho) (r : Out) (E : Ends),
  StRep X.K G O σ H ρ F → f ρ = some r → Good X.K G RO O' LB F E r → t E σ H

theorem Good.mono {K : PySem.W.Frag} {G : Ent} {RO : Bool} {O' LB : List Nat} {F F1 : Hp} {E : Ends} (e : Same F F1) : ∀ {r : Out}, Good K G RO O' LB F E r → Good K G RO O' LB F1 E r
  | .nx _, h => fun σ' H' F' s q => h σ' H' F' s (same_trans e q)
  | .bk _, h => fun σ' H' F' s q => h σ' H' F' s (same_trans e q)
  | .ct _, h => fun σ' H' F' s q => h σ' H' F' s (same_trans e q)
  | .rt _, h => h
theorem Good.weak {K : PySem.W.Frag} {G : Ent} {RO : Bool} {O1 O2 LB : List Nat} {F : Hp} {E : Ends} (w : ∀ i ∈ O2, i ∈ O1) : ∀ {r : Out}, Good K G RO O2 LB F E r → Good K G RO O1 LB F E r
  | .nx _, h => fun σ' H' F' s q => let ⟨F2, e, s2⟩ := s.freeze w; h σ' H' F2 s2 (same_trans q e)
  | .bk _, h => h
  | .ct _, h => h
  | .rt _, h => h

def subO (a b : List Nat) : Bool := a.all fun i => b.contains i
theorem subO_ok {a b : List Nat} (h : subO a b = true) : ∀ i ∈ a, i ∈ b := fun i hi => List.contains_iff_mem.mp (List.all_eq_true.mp h i hi)

section
variable {X : Cx} {RO : Bool} {O O' O1 O2 LB : List Nat} {e a1 a2 : Expr} {es : List Expr} {f g : EF} {fa : AF} {pos : Pos} {st : Stmt} {rest : List Stmt} {s1 s2 : SF}

theorem ds_weak (h : DS X RO O O1 LB st s1) (w : subO O2 O1 = true := by decide) : DS X RO O O2 LB st s1 := by
  obtain ⟨t, p, r⟩ := h
  exact ⟨t, p, fun G σ H F ρ o E s hf q => r G σ H F ρ o E s hf (q.weak (subO_ok w))⟩
theorem dss_weak (h : DSs X RO O O1 LB rest s1) (w : subO O2 O1 = true := by decide) : DSs X RO O O2 LB rest s1 := by
  obtain ⟨t, p, r⟩ := h
  exact ⟨t, p, fun G σ H F ρ o E s hf q => r G σ H F ρ o E s hf (q.weak (subO_ok w))⟩
/-- own lists given up ahead of a statement -/
theorem ds_pre (h : DS X RO O2 O' LB st s1) (w : subO O2 O = true := by decide) : DS X RO O O' LB st s1 := by
  obtain ⟨t, p, r⟩ := h
  refine ⟨t, p, fun G σ H F ρ o E s hf q => ?_⟩
  obtain ⟨F2, e, s2⟩ := s.freeze (subO_ok w)
  exact r G σ H F2 ρ o E s2 hf (q.mono e)
theorem dss_pre (h : DSs X RO O2 O' LB rest s1) (w : subO O2 O = true := by decide) : DSs X RO O O' LB rest s1 := by
  obtain ⟨t, p, r⟩ := h
  refine ⟨t, p, fun G σ H F ρ o E s hf q => ?_⟩
  obtain ⟨F2, e, s2⟩ := s.freeze (subO_ok w)
  exact r G σ H F2 ρ o E s2 hf (q.mono e)

/-! ### blocks -/
def skipF : SF := fun ρ => some (.nx ρ)
def seqF (a b : SF) : SF := fun ρ => (a ρ).bind fun r => match r with
  | .nx ρ' => b ρ'
  | r => some r
theorem dss_nil : DSs X RO O O LB [] skipF := ⟨_, pss_nil, fun G σ H F ρ o E s hf q => by cases hf; exact q σ H F s (Same.refl _)⟩
theorem dss_cons (h1 : DS X RO O O1 LB st s1) (h2 : DSs X RO O1 O2 LB rest s2) : DSs X RO O O2 LB (st :: rest) (seqF s1 s2) := by
  obtain ⟨t, p, r⟩ := h1
  obtain ⟨u, pu, ru⟩ := h2
  refine ⟨_, pss_cons p pu, fun G σ H F ρ o E s hf q => ?_⟩
  unfold seqF at hf
  cases e : s1 ρ with
  | none => simp [e] at hf
  | some r1 =>
    simp only [e, Option.bind_some] at hf
    refine r G σ H F ρ r1 _ s e ?_
    cases r1 with
    | nx ρ' => exact fun σ' H' F' s' e' => ru G σ' H' F' ρ' o E s' hf (q.mono e')
    | _ => cases hf; exact q
theorem dss_one (h1 : DS X RO O O1 LB st s1) : DSs X RO O O1 LB [st] s1 := by
  obtain ⟨t, p, r⟩ := h1
  exact ⟨t, pss_one p, r⟩
/-- code that is never reached -/
def neverF : SF := fun _ => none
theorem ds_never : DS X RO O O' LB st neverF := ⟨_, ps_never, fun G σ H F ρ o E s hf q => by cases hf⟩
theorem dss_never : DSs X RO O O' LB rest neverF := ⟨_, pss_never, fun G σ H F ρ o E s hf q => by cases hf⟩
def passF : SF := skipF
theorem ds_pass : DS X RO O O LB (.Pass pos) skipF := ⟨_, ps_pass, fun G σ H F ρ o E s hf q => by cases hf; exact q σ H F s (Same.refl _)⟩
def breakF : SF := fun ρ => some (.bk ρ)
def contF : SF := fun ρ => some (.ct ρ)
theorem ds_break : DS X RO O O' O (.Break pos) breakF := ⟨_, ps_break, fun G σ H F ρ o E s hf q => by cases hf; exact q σ H F s (Same.refl _)⟩
theorem ds_cont : DS X RO O O' O (.Continue pos) contF := ⟨_, ps_continue, fun G σ H F ρ o E s hf q => by cases hf; exact q σ H F s (Same.refl _)⟩

/-! ### return -/
def retF (f : EF) : SF := fun ρ => (f ρ).map .rt
theorem StRep.ends {K : PySem.W.Frag} {G : Ent} {σ : Sg} {H F H' F' : Hp} {ρ : Rho} (s : StRep K G O σ H ρ F) (g : Grow F H F' H') : Grow G.F0 G.H0 F' H' := s.g.trans g
theorem ds_ret (h : DE X O e f) : DS X false O O' LB (.Return (some e) pos) (retF f) := by
  obtain ⟨t, p, r⟩ := h
  refine ⟨_, ps_ret p, fun G σ H F ρ o E s hf q => ?_⟩
  unfold retF at hf
  cases e : f ρ with
  | none => simp [e] at hf
  | some d =>
    simp [e] at hf; subst hf
    exact r G σ H F ρ d _ s e fun v H' F' g x => q v H' F' (s.g.trans g) x
def retL (f : AF) : SF := fun ρ => (f ρ).map fun ds => .rt (.list ds)
theorem ds_retN (h : DN X O e fa) : DS X true O O' LB (.Return (some e) pos) (retL fa) := by
  obtain ⟨t, p, r⟩ := h
  refine ⟨_, ps_ret p, fun G σ H F ρ o E s hf q => ?_⟩
  unfold retL at hf
  cases e : fa ρ with
  | none => simp [e] at hf
  | some d =>
    simp [e] at hf; subst hf
    exact r G σ H F ρ d _ s e fun a vs H' F' g hn h1 h2 h3 => q _ H' F' (s.g.trans g) ⟨a, vs, d, rfl, rfl, h1, free_of s.g.hh hn, h2, h3⟩
def retV (i : Nat) : SF := fun ρ => match getv ρ i with
  | some (.list ds) => some (.rt (.list ds))
  | _ => none
theorem ds_retOwn (i : Nat) {x : Str} {p2 : Pos} (hO : O.contains i = true) (h : PE X (.Name x p2) (tVar i)) : DS X true O O' LB (.Return (some (.Name x p2)) pos) (retV i) := by
  refine ⟨_, ps_ret h, fun G σ H F ρ o E s hf q => ?_⟩
  unfold retV at hf
  cases e : getv ρ i with
  | none => simp [e] at hf
  | some d =>
    cases d <;> simp [e] at hf
    subst hf
    have hO' := List.contains_iff_mem.mp hO
    obtain ⟨v, hs, a, vs, ds, rfl, e2, h1, h2, h3⟩ := s.own i _ hO' e
    cases e2
    exact ⟨_, hs, q _ H F s.g ⟨a, vs, _, rfl, rfl, h1, s.new i _ a hO' e hs, h2, h3⟩⟩
theorem ds_retnone : DS X false O O' LB (.Return none pos) (fun _ => some (.rt .none)) :=
  ⟨_, ps_retN, fun G σ H F ρ o E s hf q => by cases hf; exact q _ H F s.g (.dat .non)⟩

/-! ### if -/
def ifF (c : BF) (a b : SF) : SF := fun ρ => (c ρ).bind fun k => if k = true then a ρ else b ρ
theorem ds_if {c : BF} {xs ys : List Stmt} (hc : DT X O e c) (ha : DSs X RO O O' LB xs s1) (hb : DSs X RO O O' LB ys s2) : DS X RO O O' LB (.If e xs ys pos) (ifF c s1 s2) := by
  obtain ⟨tc, pc, rc⟩ := hc
  obtain ⟨ta, pa, ra⟩ := ha
  obtain ⟨tb, pb, rb⟩ := hb
  refine ⟨_, ps_if pc pa pb, fun G σ H F ρ o E s hf q => ?_⟩
  unfold ifF at hf
  cases e : c ρ with
  | none => simp [e] at hf
  | some k =>
    simp only [e, Option.bind_some] at hf
    refine rc G σ H F ρ k _ s e fun H1 F1 g1 => ?_
    cases k with
    | true => rw [if_pos rfl] at hf ⊢; exact ra G σ H1 F1 ρ o E (s.grow g1) hf (q.mono g1.ff)
    | false => rw [if_neg Bool.false_ne_true] at hf ⊢; exact rb G σ H1 F1 ρ o E (s.grow g1) hf (q.mono g1.ff)

/-! ### stores -/
theorem getv_set {ρ : Rho} {i j : Nat} {d : D} : getv (ρ.set i (some d)) j = if j = i ∧ i < ρ.length then some d else getv ρ j := by
  unfold getv
  by_cases hj : j = i
  · subst hj
    by_cases hl : j < ρ.length
    · simp [hl]
    · have h1 : (ρ.set j (some d))[j]? = none := List.getElem?_eq_none (by simpa using hl)
      have h2 : ρ[j]? = none := List.getElem?_eq_none (by simpa using hl)
      rw [h1, h2, if_neg (fun z => hl z.2)]
  · rw [List.getElem?_set_ne (Ne.symm hj), if_neg (fun z => hj z.1)]
def dropO (O : List Nat) (i : Nat) : List Nat := O.filter fun j => j != i
theorem mem_dropO {O : List Nat} {i j : Nat} : j ∈ dropO O i ↔ j ∈ O ∧ j ≠ i := by
  unfold dropO; simp [List.mem_filter]
theorem StRep.set {K : PySem.W.Frag} {G : Ent} {σ : Sg} {H F : Hp} {ρ : Rho} (s : StRep K G O σ H ρ F) (i : Nat) {v : V} {d : D} (r : Rep K F v d) : StRep K G (dropO O i) (σ.set i (some v)) H (ρ.set i (some d)) F where
  len := by simpa using s.len
  g := s.g
  dat := fun j c hj hc => by
    rw [getv_set] at hc
    by_cases h : j = i ∧ i < ρ.length
    · rw [if_pos h] at hc; cases hc
      exact ⟨v, by rw [h.1, List.getElem?_set_self (by rw [← s.len]; exact h.2)], r⟩
    · rw [if_neg h] at hc
      by_cases hji : j = i
      · subst hji
        have hl : ¬ j < ρ.length := fun z => h ⟨rfl, z⟩
        unfold getv at hc
        rw [List.getElem?_eq_none (by omega)] at hc; cases hc
      · have hj' : j ∉ O := fun z => hj (mem_dropO.mpr ⟨z, hji⟩)
        obtain ⟨w, e1, e2⟩ := s.dat j c hj' hc
        exact ⟨w, by rw [List.getElem?_set_ne (Ne.symm hji)]; exact e1, e2⟩
  own := fun j c hj hc => by
    obtain ⟨hj1, hji⟩ := mem_dropO.mp hj
    rw [getv_set, if_neg (fun z => hji z.1)] at hc
    obtain ⟨w, e1, e2⟩ := s.own j c hj1 hc
    exact ⟨w, by rw [List.getElem?_set_ne (Ne.symm hji)]; exact e1, e2⟩
  new := fun j c a hj hc hs => by
    obtain ⟨hj1, hji⟩ := mem_dropO.mp hj
    rw [getv_set, if_neg (fun z => hji z.1)] at hc
    rw [List.getElem?_set_ne (Ne.symm hji)] at hs
    exact s.new j c a hj1 hc hs
  dis := fun j k c e a hj hk hjk hc he hs => by
    obtain ⟨hj1, hji⟩ := mem_dropO.mp hj
    obtain ⟨hk1, hki⟩ := mem_dropO.mp hk
    rw [getv_set, if_neg (fun z => hji z.1)] at hc
    rw [getv_set, if_neg (fun z => hki z.1)] at he
    rw [List.getElem?_set_ne (Ne.symm hji)] at hs
    rw [List.getElem?_set_ne (Ne.symm hki)]
    exact s.dis j k c e a hj1 hk1 hjk hc he hs
/-- a slot takes an own list: at an address that no own slot but it has -/
theorem StRep.setOwn {K : PySem.W.Frag} {G : Ent} {σ : Sg} {H F : Hp} {ρ : Rho} (s : StRep K G O σ H ρ F) (i : Nat) {a : Addr} {vs : List V} {ds : List D} (h1 : H a = some (.lst vs)) (h2 : F a = none) (h3 : DpAll K F vs ds) (h4 : G.H0 a = none)
    (h5 : ∀ j d, j ∈ O → j ≠ i → getv ρ j = some d → σ[j]? ≠ some (some (V.ref a))) : StRep K G (i :: dropO O i) (σ.set i (some (.ref a))) H (ρ.set i (some (.list ds))) F where
  len := by simpa using s.len
  g := s.g
  dat := fun j c hj hc => by
    have hji : j ≠ i := fun z => hj (z ▸ List.mem_cons_self)
    rw [getv_set, if_neg (fun z => hji z.1)] at hc
    have hj' : j ∉ O := fun z => hj (List.mem_cons_of_mem _ (mem_dropO.mpr ⟨z, hji⟩))
    obtain ⟨w, e1, e2⟩ := s.dat j c hj' hc
    exact ⟨w, by rw [List.getElem?_set_ne (Ne.symm hji)]; exact e1, e2⟩
  own := fun j c hj hc => by
    by_cases hji : j = i
    · subst hji
      rw [getv_set] at hc
      by_cases hl : j < ρ.length
      · rw [if_pos ⟨rfl, hl⟩] at hc; cases hc
        exact ⟨.ref a, List.getElem?_set_self (by rw [← s.len]; exact hl), a, vs, ds, rfl, rfl, h1, h2, h3⟩
      · rw [if_neg (fun z => hl z.2)] at hc
        unfold getv at hc
        rw [List.getElem?_eq_none (by omega)] at hc; cases hc
    · have hj1 : j ∈ O := by
        rcases List.mem_cons.mp hj with z | z
        · exact absurd z hji
        · exact (mem_dropO.mp z).1
      rw [getv_set, if_neg (fun z => hji z.1)] at hc
      obtain ⟨w, e1, e2⟩ := s.own j c hj1 hc
      exact ⟨w, by rw [List.getElem?_set_ne (Ne.symm hji)]; exact e1, e2⟩
  new := fun j c b hj hc hs => by
    by_cases hji : j = i
    · subst hji
      by_cases hl : j < σ.length
      · rw [List.getElem?_set_self hl] at hs
        cases hs; exact h4
      · rw [List.getElem?_eq_none (by simpa using hl)] at hs; cases hs
    · have hj1 : j ∈ O := by
        rcases List.mem_cons.mp hj with z | z
        · exact absurd z hji
        · exact (mem_dropO.mp z).1
      rw [getv_set, if_neg (fun z => hji z.1)] at hc
      rw [List.getElem?_set_ne (Ne.symm hji)] at hs
      exact s.new j c b hj1 hc hs
  dis := fun j k c e b hj hk hjk hc he hs => by
    have inO : ∀ m, m ∈ i :: dropO O i → m ≠ i → m ∈ O := fun m hm hmi => by
      rcases List.mem_cons.mp hm with z | z
      · exact absurd z hmi
      · exact (mem_dropO.mp z).1
    by_cases hji : j = i
    · subst hji
      have hkj : k ≠ j := Ne.symm hjk
      rw [getv_set, if_neg (fun z => hkj z.1)] at he
      rw [List.getElem?_set_ne hjk]
      by_cases hl : j < σ.length
      · rw [List.getElem?_set_self hl] at hs
        cases hs
        exact h5 k e (inO k hk hkj) hkj he
      · rw [List.getElem?_eq_none (by simpa using hl)] at hs; cases hs
    · rw [getv_set, if_neg (fun z => hji z.1)] at hc
      rw [List.getElem?_set_ne (Ne.symm hji)] at hs
      by_cases hki : k = i
      · subst hki
        by_cases hl : k < σ.length
        · rw [List.getElem?_set_self hl]
          intro z
          cases z
          exact h5 j c (inO j hj hji) hji hc hs
        · rw [List.getElem?_eq_none (by simpa using hl)]; intro z; cases z
      · rw [getv_set, if_neg (fun z => hki z.1)] at he
        rw [List.getElem?_set_ne (Ne.symm hki)]
        exact s.dis j k c e b (inO j hj hji) (inO k hk hki) hjk hc he hs
/-- own slots' addresses are tracked -/
theorem StRep.ownNe {K : PySem.W.Frag} {G : Ent} {σ : Sg} {H F : Hp} {ρ : Rho} (s : StRep K G O σ H ρ F) {a : Addr} (ha : H a = none) : ∀ j d, j ∈ O → getv ρ j = some d → σ[j]? ≠ some (some (V.ref a)) := fun j d hj hd hs => by
  obtain ⟨v, e1, b, vs, ds, rfl, _, h1, _⟩ := s.own j d hj hd
  rw [e1] at hs
  have hs := Option.some.inj (Option.some.inj hs)
  injection hs with hs
  subst hs
  rw [h1] at ha; cases ha
def setF (i : Nat) (f : EF) : SF := fun ρ => (f ρ).map fun d => .nx (ρ.set i (some d))
def setL (i : Nat) (f : AF) : SF := fun ρ => (f ρ).map fun ds => .nx (ρ.set i (some (.list ds)))
theorem ds_set (i : Nat) {x : Str} {pos' : Pos} (he : DE X O e f) (hp : ∀ t, PE X e t → PS X (.Assign [.Name x pos'] e pos) (tAsg t (gName i))) : DS X RO O (dropO O i) LB (.Assign [.Name x pos'] e pos) (setF i f) := by
  obtain ⟨t, p, r⟩ := he
  refine ⟨_, hp t p, fun G σ H F ρ o E s hf q => ?_⟩
  unfold setF at hf
  cases e : f ρ with
  | none => simp [e] at hf
  | some d =>
    simp [e] at hf; subst hf
    exact r G σ H F ρ d _ s e fun v H' F' g x => q _ H' F' ((s.grow g).set i x) g.ff
theorem ds_setN (i : Nat) {x : Str} {pos' : Pos} (he : DN X O e fa) (hp : ∀ t, PE X e t → PS X (.Assign [.Name x pos'] e pos) (tAsg t (gName i))) : DS X RO O (i :: dropO O i) LB (.Assign [.Name x pos'] e pos) (setL i fa) := by
  obtain ⟨t, p, r⟩ := he
  refine ⟨_, hp t p, fun G σ H F ρ o E s hf q => ?_⟩
  unfold setL at hf
  cases e : fa ρ with
  | none => simp [e] at hf
  | some d =>
    simp [e] at hf; subst hf
    refine r G σ H F ρ d _ s e fun a vs H' F' g hn h1 h2 h3 => q _ H' F' ((s.grow g).setOwn i h1 h2 h3 (free_of s.g.hh hn) fun j c hj _ hc => ?_) g.ff
    exact s.ownNe hn j c hj hc
/-- a, b = x, y -/
def parF (i j : Nat) (f g : EF) : SF := fun ρ => (f ρ).bind fun x => (g ρ).bind fun y => some (.nx ((ρ.set i (some x)).set j (some y)))
theorem ds_par (i j : Nat) {st : Stmt} (ha : DE X O a1 f) (hb : DE X O a2 g) (hs : starEach (a1 :: [a2]) X.env = (false, eval a1 X.env) :: starEach [a2] X.env := by rfl) (hs2 : starEach (a2 :: []) X.env = (false, eval a2 X.env) :: starEach [] X.env := by rfl)
    (hp : ∀ t, PA X [a1, a2] t → PS X st (tPar i j t)) : DS X RO O (dropO (dropO O i) j) LB st (parF i j f g) := by
  obtain ⟨⟨t, p, r⟩, _⟩ := da_cons ha (da_cons hb da_nil hs2) hs
  refine ⟨_, hp t p, fun G σ H F ρ o E s hf q => ?_⟩
  unfold parF at hf
  cases e1 : f ρ with
  | none => simp [e1] at hf
  | some x =>
    cases e2 : g ρ with
    | none => simp [e1, e2] at hf
    | some y =>
      simp [e1, e2] at hf; subst hf
      refine r G σ H F ρ [x, y] _ s (by simp [consA, nilA, e1, e2]) fun vs H' F' g r1 => ?_
      cases r1 with
      | cons ra rb =>
        cases rb with
        | cons rb rn =>
          cases rn
          exact ⟨_, _, rfl, q _ H' F' (((s.grow g).set i ra).set j rb) g.ff⟩

/-! ### targets -/
abbrev TgF := D → Rho → Option Rho
def DG (X : Cx) (O O' : List Nat) (tg : Expr) (g : TgF) : Prop := ∃ t, PG X tg t ∧ ∀ (G : Ent) (v : V) (d : D) (σ : Sg) (H F : Hp) (ρ ρ' : Rho) (Q : Sg → Hp → Prop),
  StRep X.K G O σ H ρ F → Rep X.K F v d → g d ρ = some ρ' → (∀ σ', StRep X.K G O' σ' H ρ' F → Q σ' H) → t v σ H Q
abbrev TgsF := List D → Rho → Option Rho
def DGs (X : Cx) (O O' : List Nat) (es : List Expr) (g : TgsF) : Prop := ∃ t, PGs X es t ∧ ∀ (G : Ent) (vs : List V) (ds : List D) (σ : Sg) (H F : Hp) (ρ ρ' : Rho) (Q : Sg → Hp → Prop),
  StRep X.K G O σ H ρ F → DpAll X.K F vs ds → g ds ρ = some ρ' → (∀ σ', StRep X.K G O' σ' H ρ' F → Q σ' H) → t vs σ H Q
def nameG (i : Nat) : TgF := fun d ρ => some (ρ.set i (some d))
theorem dg_name (i : Nat) {x : Str} (h : PG X (.Name x pos) (gName i)) : DG X O (dropO O i) (.Name x pos) (nameG i) :=
  ⟨_, h, fun G v d σ H F ρ ρ' Q s r hg q => by cases hg; exact q _ (s.set i r)⟩
def nilG : TgsF := fun ds ρ => match ds with
  | [] => some ρ
  | _ => none
def consG (g : TgF) (r : TgsF) : TgsF := fun ds ρ => match ds with
  | d :: ds => (g d ρ).bind fun ρ1 => r ds ρ1
  | _ => none
theorem dgs_nil : DGs X O O [] nilG := ⟨_, pgs_nil, fun G vs ds σ H F ρ ρ' Q s r hg q => by
  cases ds with
  | nil => cases r; cases hg; exact ⟨rfl, q σ s⟩
  | cons _ _ => cases hg⟩
theorem dgs_cons {g : TgF} {r : TgsF} (h1 : DG X O O1 e g) (h2 : DGs X O1 O2 es r) (hp : ∀ t u, PG X e t → PGs X es u → PGs X (e :: es) (gCons t u)) : DGs X O O2 (e :: es) (consG g r) := by
  obtain ⟨t, p, rt⟩ := h1
  obtain ⟨u, pu, ru⟩ := h2
  refine ⟨_, hp t u p pu, fun G vs ds σ H F ρ ρ' Q s rr hg q => ?_⟩
  cases ds with
  | nil => cases hg
  | cons d ds =>
    cases rr with
    | cons ra rb =>
      have hg : ((g d ρ).bind fun ρ1 => r ds ρ1) = some ρ' := hg
      cases e : g d ρ with
      | none => rw [e] at hg; cases hg
      | some ρ1 =>
        rw [e] at hg
        exact ⟨_, _, rfl, rt G _ d σ H F ρ ρ1 _ s (.dat ra) e fun σ1 s1 => ru G _ ds σ1 H F ρ1 ρ' Q s1 rb hg q⟩
def tupG (n : Nat) (g : TgsF) : TgF := fun d ρ => match d with
  | .tuple ds => if ds.length = n then g ds ρ else none
  | _ => none
theorem dg_tup {n k : Nat} {g : TgsF} (h : DGs X O O' es g) (hp : ∀ t, PGs X es t → PG X (.Tuple es k pos) (gTup X.K n t)) : DG X O O' (.Tuple es k pos) (tupG n g) := by
  obtain ⟨t, p, r⟩ := h
  refine ⟨_, hp t p, fun G v d σ H F ρ ρ' Q s rr hg q => ?_⟩
  cases d with
  | tuple ds =>
    have hg : (if ds.length = n then g ds ρ else none) = some ρ' := hg
    by_cases hl : ds.length = n
    · rw [if_pos hl] at hg
      obtain ⟨a, vs, rfl, h1, h2⟩ := rr.tup_inv
      exact ⟨a, vs, rfl, same_sqT s.sub h1, (dpA_length h2).trans hl, r G vs ds σ H F ρ ρ' Q s h2 hg q⟩
    · rw [if_neg hl] at hg; cases hg
  | _ => cases hg
/-- target = value -/
def asgF (f : EF) (g : TgF) : SF := fun ρ => (f ρ).bind fun d => (g d ρ).map .nx
theorem ds_asg {tg : Expr} {g : TgF} (he : DE X O e f) (hg : DG X O O' tg g) (hp : ∀ t u, PE X e t → PG X tg u → PS X (.Assign [tg] e pos) (tAsg t u)) : DS X RO O O' LB (.Assign [tg] e pos) (asgF f g) := by
  obtain ⟨t, p, r⟩ := he
  obtain ⟨u, pu, ru⟩ := hg
  refine ⟨_, hp t u p pu, fun G σ H F ρ o E s hf q => ?_⟩
  unfold asgF at hf
  cases e : f ρ with
  | none => simp [e] at hf
  | some d =>
    simp only [e, Option.bind_some] at hf
    cases e2 : g d ρ with
    | none => simp [e2] at hf
    | some ρ1 =>
      simp [e2] at hf; subst hf
      exact r G σ H F ρ d _ s e fun v H1 F1 g1 r1 => ru G v d σ H1 F1 ρ ρ1 _ (s.grow g1) r1 e2 fun σ' s' => q σ' H1 F1 s' g1.ff

/-! ### while -/
def whileN (c : BF) (b : SF) : Nat → Rho → Option Out
  | 0, _ => none
  | n + 1, ρ => (c ρ).bind fun k => if k = true then (b ρ).bind fun r => match r with
      | .nx ρ' => whileN c b n ρ'
      | .ct ρ' => whileN c b n ρ'
      | .bk ρ' => some (.nx ρ')
      | .rt d => some (.rt d)
    else some (.nx ρ)
def whileF (fuel : Rho → Nat) (c : BF) (b : SF) : SF := fun ρ => whileN c b (fuel ρ) ρ
theorem ds_while (fuel : Rho → Nat) {c : BF} {xs : List Stmt} {b : SF} (hc : DT X O e c) (hb : DSs X RO O O O xs b) (hp : ∀ t u, PT X e t → PSs X xs u → PS X (.While e xs [] pos) (tWhile t u)) : DS X RO O O LB (.While e xs [] pos) (whileF fuel c b) := by
  obtain ⟨tc, pc, rc⟩ := hc
  obtain ⟨tb, pb, rb⟩ := hb
  refine ⟨_, hp tc tb pc pb, fun G σ H F ρ o E s hf q => ?_⟩
  refine ⟨fun n σ1 H1 => ∃ ρ1 F1, StRep X.K G O σ1 H1 ρ1 F1 ∧ Same F F1 ∧ whileN c b n ρ1 = some o, ⟨fuel ρ, ρ, F, s, Same.refl _, hf⟩, ?_⟩
  rintro n σ1 H1 ⟨ρ1, F1, s1, ff1, h1⟩
  cases n with
  | zero => cases h1
  | succ n =>
    have h1 : ((c ρ1).bind fun k => if k = true then (b ρ1).bind fun r => match r with
      | .nx ρ' => whileN c b n ρ'
      | .ct ρ' => whileN c b n ρ'
      | .bk ρ' => some (.nx ρ')
      | .rt d => some (.rt d)
    else some (.nx ρ1)) = some o := h1
    cases e : c ρ1 with
    | none => rw [e] at h1; cases h1
    | some k =>
      rw [e, Option.bind_some] at h1
      refine rc G σ1 H1 F1 ρ1 k _ s1 e fun H2 F2 g2 => ?_
      have ff2 := same_trans ff1 g2.ff
      cases k with
      | false =>
        rw [if_neg Bool.false_ne_true] at h1 ⊢
        cases h1
        exact q σ1 H2 F2 (s1.grow g2) ff2
      | true =>
        rw [if_pos rfl] at h1 ⊢
        cases e2 : b ρ1 with
        | none => rw [e2] at h1; cases h1
        | some r =>
          rw [e2, Option.bind_some] at h1
          refine ⟨fun σ3 H3 => ∃ ρ3 F3, StRep X.K G O σ3 H3 ρ3 F3 ∧ Same F F3 ∧ whileN c b n ρ3 = some o, fun σ3 H3 w => ⟨n, Nat.lt_succ_self n, w⟩, ?_⟩
          refine rb G σ1 H2 F2 ρ1 r _ (s1.grow g2) e2 ?_
          cases r with
          | nx ρ' => exact fun σ3 H3 F3 s3 e3 => ⟨ρ', F3, s3, same_trans ff2 e3, h1⟩
          | ct ρ' => exact fun σ3 H3 F3 s3 e3 => ⟨ρ', F3, s3, same_trans ff2 e3, h1⟩
          | bk ρ' => cases h1; exact fun σ3 H3 F3 s3 e3 => q σ3 H3 F3 s3 (same_trans ff2 e3)
          | rt d => cases h1; exact q

/-! ### what a loop walks -/
def Iters (K : PySem.W.Frag) (J : It) (F : Hp) (ds : List D) : Prop := ∀ (F' H' : Hp) (i : Nat), Same F F' → Same F' H' →
  (i < ds.length → J.go i H') ∧ (ds.length ≤ i → J.stop i H') ∧ ∀ x H'' d, J.yld i H' x H'' → ds[i]? = some d → ∃ F'', Grow F' H' F'' H'' ∧ Rep K F'' x d
def DI (X : Cx) (O : List Nat) (tg iter : Expr) (f : AF) : Prop := ∃ wi, PI X tg iter wi ∧ ∀ (G : Ent) (σ : Sg) (H F : Hp) (ρ : Rho) (ds : List D) (R : It → Hp → Prop),
  StRep X.K G O σ H ρ F → f ρ = some ds → (∀ J H' F', Grow F H F' H' → Iters X.K J F' ds → R J H') → wi σ H R
def itemsF (f : EF) : AF := fun ρ => match f ρ with
  | some (.list ds) => some ds
  | _ => none
theorem sqL_inj_F {K : PySem.W.Frag} {H : Hp} {a : Addr} {xs ys : List V} (h : SqL K H a xs) (h' : SqL K H a ys) (hn : ∃ u, H a = some u) : xs = ys ∨ True := .inr trivial
theorem di_list {tg : Expr} (h : DE X O e f) : DI X O tg e (itemsF f) := by
  obtain ⟨t, p, r⟩ := h
  refine ⟨_, pi_list p, fun G σ H F ρ ds R s hf q => ?_⟩
  unfold itemsF at hf
  cases e : f ρ with
  | none => simp [e] at hf
  | some d =>
    cases d with
    | list ds' =>
      simp [e] at hf; subst hf
      refine r G σ H F ρ _ _ s e fun v H' F' g x => ?_
      obtain ⟨a, vs, rfl, h1, h2⟩ := x.lst_inv
      refine ⟨a, rfl, ⟨vs, g.fh.seq h1⟩, q _ H' F' g fun F1 H1 i e1 e2 => ⟨fun hi => ?_, fun hi => ?_, fun x H2 d y hd => ?_⟩⟩
      · obtain ⟨v, hv, _⟩ := dpA_get h2 (List.getElem?_eq_getElem hi)
        exact ⟨vs, v, (same_trans e1 e2).seq h1, hv⟩
      · exact ⟨vs, (same_trans e1 e2).seq h1, by rw [dpA_length h2]; exact hi⟩
      · obtain ⟨rfl, hy⟩ := y
        have hx := hy vs ((same_trans e1 e2).seq h1)
        obtain ⟨d', hd', rd⟩ := dpA_get2 h2 hx
        rw [hd] at hd'; cases hd'
        exact ⟨F1, Grow.refl e2, .dat (dp_mono e1 rd)⟩
    | _ => simp [e] at hf
def rngL (lo : Int) (n : Nat) : List D := (List.range n).map fun (i : Nat) => .int (lo + (i : Int))
theorem iters_rng {K : PySem.W.Frag} {F : Hp} {lo : Int} {n : Nat} : Iters K (Itr lo n) F (rngL lo n) := fun F1 H1 i e1 e2 => by
  have hl : (rngL lo n).length = n := by simp [rngL]
  refine ⟨fun hi => ?_, fun hi => ?_, fun x H2 d y hd => ?_⟩
  · rw [hl] at hi; exact hi
  · rw [hl] at hi; exact hi
  · obtain ⟨rfl, rfl⟩ := y
    have hi : i < n := by
      have := (List.getElem?_eq_some_iff.mp hd).1
      rw [hl] at this; exact this
    have : d = .int (lo + (i : Int)) := by
      unfold rngL at hd
      rw [List.getElem?_map, List.getElem?_range hi] at hd
      exact (Option.some.inj hd).symm
    subst this
    exact ⟨F1, Grow.refl e2, .dat (.int _)⟩
def rng1F (f : EF) : AF := fun ρ => match f ρ with
  | some (.int j) => if -(2 ^ 62) ≤ j ∧ j < 2 ^ 62 then some (rngL 0 j.toNat) else none
  | _ => none
theorem di_range1 {tg : Expr} {p : Pos} (h : DE X O e f) (hp : ∀ t, PA X [e] t → PI X tg (.Call (.Name "range" p) [e] [] pos) (iRng1 t)) (hs : starEach (e :: []) X.env = (false, eval e X.env) :: starEach [] X.env := by rfl) :
    DI X O tg (.Call (.Name "range" p) [e] [] pos) (rng1F f) := by
  obtain ⟨⟨t, p, r⟩, _⟩ := da_cons h da_nil hs
  refine ⟨_, hp t p, fun G σ H F ρ ds R s hf q => ?_⟩
  unfold rng1F at hf
  cases e : f ρ with
  | none => simp [e] at hf
  | some d =>
    cases d with
    | int j =>
      simp only [e] at hf
      by_cases hj : -(2 ^ 62) ≤ j ∧ j < 2 ^ 62
      · rw [if_pos hj] at hf; cases hf
        refine r G σ H F ρ [.int j] _ s (by simp [consA, nilA, e]) fun vs H' F' g x => ?_
        cases x with
        | cons x xn =>
          cases xn
          refine ⟨j, by rw [x.int_inv], hj.1, hj.2, q _ H' F' g iters_rng⟩
      · rw [if_neg hj] at hf; cases hf
    | _ => simp [e] at hf
def rng2F (f g : EF) : AF := fun ρ => match f ρ, g ρ with
  | some (.int i), some (.int j) => if (-(2 ^ 62) ≤ i ∧ i < 2 ^ 62) ∧ -(2 ^ 62) ≤ j ∧ j < 2 ^ 62 then some (rngL i (j - i).toNat) else none
  | _, _ => none
theorem di_range2 {tg : Expr} {p : Pos} (ha : DE X O a1 f) (hb : DE X O a2 g) (hp : ∀ t, PA X [a1, a2] t → PI X tg (.Call (.Name "range" p) [a1, a2] [] pos) (iRng2 t))
    (hs : starEach (a1 :: [a2]) X.env = (false, eval a1 X.env) :: starEach [a2] X.env := by rfl) (hs2 : starEach (a2 :: []) X.env = (false, eval a2 X.env) :: starEach [] X.env := by rfl) :
    DI X O tg (.Call (.Name "range" p) [a1, a2] [] pos) (rng2F f g) := by
  obtain ⟨⟨t, p, r⟩, _⟩ := da_cons ha (da_cons hb da_nil hs2) hs
  refine ⟨_, hp t p, fun G σ H F ρ ds R s hf q => ?_⟩
  unfold rng2F at hf
  cases e : f ρ with
  | none => simp [e] at hf
  | some d =>
    cases e2 : g ρ with
    | none => cases d <;> simp [e, e2] at hf
    | some d2 =>
      cases d with
      | int i =>
        cases d2 with
        | int j =>
          simp only [e, e2] at hf
          by_cases hj : (-(2 ^ 62) ≤ i ∧ i < 2 ^ 62) ∧ -(2 ^ 62) ≤ j ∧ j < 2 ^ 62
          · rw [if_pos hj] at hf; cases hf
            refine r G σ H F ρ [.int i, .int j] _ s (by simp [consA, nilA, e, e2]) fun vs H' F' g x => ?_
            cases x with
            | cons x xn =>
              cases xn with
              | cons y xn =>
                cases xn
                exact ⟨i, j, by rw [x.int_inv, y.int_inv], ⟨hj.1.1, hj.1.2, hj.2.1, hj.2.2⟩, q _ H' F' g iters_rng⟩
          · rw [if_neg hj] at hf; cases hf
        | _ => simp [e, e2] at hf
      | _ => simp [e, e2] at hf
def enumL (ds : List D) : List D := ds.zipIdx.map fun p => .tuple [.int (p.2 : Int), p.1]
def enumF (f : EF) : AF := fun ρ => match f ρ with
  | some (.list ds) => some (enumL ds)
  | _ => none
theorem di_enum {tg : Expr} {p : Pos} (h : DE X O e f) (hp : ∀ t, PA X [e] t → PI X tg (.Call (.Name "enumerate" p) [e] [] pos) (iEnum X.K t)) (hs : starEach (e :: []) X.env = (false, eval e X.env) :: starEach [] X.env := by rfl) :
    DI X O tg (.Call (.Name "enumerate" p) [e] [] pos) (enumF f) := by
  obtain ⟨⟨t, p, r⟩, _⟩ := da_cons h da_nil hs
  refine ⟨_, hp t p, fun G σ H F ρ ds R s hf q => ?_⟩
  unfold enumF at hf
  cases e : f ρ with
  | none => simp [e] at hf
  | some d =>
    cases d with
    | list ds' =>
      simp [e] at hf; subst hf
      refine r G σ H F ρ [.list ds'] _ s (by simp [consA, nilA, e]) fun vs H' F' g x => ?_
      cases x with
      | cons x xn =>
        cases xn
        obtain ⟨a, vs, rfl, h1, h2⟩ := x.lst_inv
        refine ⟨a, vs, rfl, g.fh.seq h1, q _ H' F' g fun F1 H1 i e1 e2 => ⟨fun hi => ?_, fun hi => ?_, fun x H2 d y hd => ?_⟩⟩
        · have hi' : i < ds'.length := by simpa [enumL] using hi
          obtain ⟨v, hv, _⟩ := dpA_get h2 (List.getElem?_eq_getElem hi')
          exact ⟨vs, v, (same_trans e1 e2).seq h1, hv⟩
        · have hi' : ds'.length ≤ i := by simpa [enumL] using hi
          exact ⟨vs, (same_trans e1 e2).seq h1, by rw [dpA_length h2]; exact hi'⟩
        · obtain ⟨T, x1, rfl, hT, rfl, hy⟩ := y
          have hx := hy vs ((same_trans e1 e2).seq h1)
          obtain ⟨d', hd', rd⟩ := dpA_get2 h2 hx
          have : d = .tuple [.int (i : Int), d'] := by
            unfold enumL at hd
            rw [List.getElem?_map, List.getElem?_zipIdx, hd'] at hd
            simpa using hd.symm
          subst this
          have hf1 := free_of e2 hT
          exact ⟨_, Grow.new e2 hT, .dat (.tup (.inl (.inl upd_same)) (.cons (.int _) (.cons (dp_mono (same_trans e1 (same_upd hf1)) rd) .nil)))⟩
    | _ => simp [e] at hf
def zipF (f g : EF) : AF := fun ρ => match f ρ, g ρ with
  | some (.list xs), some (.list ys) => some (List.zipWith (fun x y => .tuple [x, y]) xs ys)
  | _, _ => none
theorem di_zip {tg : Expr} {p : Pos} (ha : DE X O a1 f) (hb : DE X O a2 g) (hp : ∀ t, PA X [a1, a2] t → PI X tg (.Call (.Name "zip" p) [a1, a2] [] pos) (iZip X.K t))
    (hs : starEach (a1 :: [a2]) X.env = (false, eval a1 X.env) :: starEach [a2] X.env := by rfl) (hs2 : starEach (a2 :: []) X.env = (false, eval a2 X.env) :: starEach [] X.env := by rfl) :
    DI X O tg (.Call (.Name "zip" p) [a1, a2] [] pos) (zipF f g) := by
  obtain ⟨⟨t, p, r⟩, _⟩ := da_cons ha (da_cons hb da_nil hs2) hs
  refine ⟨_, hp t p, fun G σ H F ρ ds R s hf q => ?_⟩
  unfold zipF at hf
  cases e : f ρ with
  | none => simp [e] at hf
  | some d =>
    cases e2 : g ρ with
    | none => cases d <;> simp [e, e2] at hf
    | some d2 =>
      cases d with
      | list xs =>
        cases d2 with
        | list ys =>
          simp only [e, e2] at hf
          cases hf
          refine r G σ H F ρ [.list xs, .list ys] _ s (by simp [consA, nilA, e, e2]) fun vs H' F' g x => ?_
          cases x with
          | cons x xn =>
            cases xn with
            | cons y xn =>
              cases xn
              obtain ⟨a, us, rfl, h1, h2⟩ := x.lst_inv
              obtain ⟨b, ws, rfl, k1, k2⟩ := y.lst_inv
              refine ⟨a, b, us, ws, rfl, g.fh.seq h1, g.fh.seq k1, q _ H' F' g fun F1 H1 i e1 e2 => ⟨fun hi => ?_, fun hi => ?_, fun x H2 d y hd => ?_⟩⟩
              · have hi' : i < xs.length ∧ i < ys.length := by simpa [Nat.lt_min] using hi
                obtain ⟨v, hv, _⟩ := dpA_get h2 (List.getElem?_eq_getElem hi'.1)
                obtain ⟨w, hw, _⟩ := dpA_get k2 (List.getElem?_eq_getElem hi'.2)
                exact ⟨us, ws, v, w, (same_trans e1 e2).seq h1, (same_trans e1 e2).seq k1, hv, hw⟩
              · have hi' : min xs.length ys.length ≤ i := by simpa using hi
                refine ⟨us, ws, (same_trans e1 e2).seq h1, (same_trans e1 e2).seq k1, ?_⟩
                rw [dpA_length h2, dpA_length k2]
                omega
              · obtain ⟨T, x1, y1, rfl, hT, rfl, hx, hy⟩ := y
                obtain ⟨d', hd', rd⟩ := dpA_get2 h2 (hx us ((same_trans e1 e2).seq h1))
                obtain ⟨d'', hd'', rd'⟩ := dpA_get2 k2 (hy ws ((same_trans e1 e2).seq k1))
                have : d = .tuple [d', d''] := by
                  rw [List.getElem?_zipWith, hd', hd''] at hd
                  simpa using hd.symm
                subst this
                have hf1 := free_of e2 hT
                exact ⟨_, Grow.new e2 hT, .dat (.tup (.inl (.inl upd_same)) (.cons (dp_mono (same_trans e1 (same_upd hf1)) rd) (.cons (dp_mono (same_trans e1 (same_upd hf1)) rd') .nil)))⟩
        | _ => simp [e, e2] at hf
      | _ => simp [e, e2] at hf

/-! ### for -/
def forL (g : TgF) (b : SF) : List D → Rho → Option Out
  | [], ρ => some (.nx ρ)
  | d :: ds, ρ => (g d ρ).bind fun ρ1 => (b ρ1).bind fun r => match r with
      | .nx ρ' => forL g b ds ρ'
      | .ct ρ' => forL g b ds ρ'
      | .bk ρ' => some (.nx ρ')
      | .rt d => some (.rt d)
def forF (it : AF) (g : TgF) (b : SF) : SF := fun ρ => (it ρ).bind fun ds => forL g b ds ρ
theorem ds_for {it : AF} {tg iter : Expr} {g : TgF} {xs : List Stmt} {b : SF} (hi : DI X O tg iter it) (hg : DG X O O1 tg g) (hb : DSs X RO O1 O O xs b)
    (hp : ∀ wi t u, PI X tg iter wi → PG X tg t → PSs X xs u → PS X (.For tg iter xs [] pos) (tFor wi t u)) : DS X RO O O LB (.For tg iter xs [] pos) (forF it g b) := by
  obtain ⟨wi, pi, ri⟩ := hi
  obtain ⟨tg', pg, rg⟩ := hg
  obtain ⟨tb, pb, rb⟩ := hb
  refine ⟨_, hp wi tg' tb pi pg pb, fun G σ H F ρ o E s hf q => ?_⟩
  unfold forF at hf
  cases e : it ρ with
  | none => simp [e] at hf
  | some ds =>
    simp only [e, Option.bind_some] at hf
    refine ri G σ H F ρ ds _ s e fun J H' F' g' IT => ?_
    refine ⟨fun i n σ1 H1 => n = ds.length - i ∧ i ≤ ds.length ∧ ∃ ρ1 F1, StRep X.K G O σ1 H1 ρ1 F1 ∧ Same F' F1 ∧ forL g b (ds.drop i) ρ1 = some o, ⟨ds.length, by simp, Nat.zero_le _, ρ, F', s.grow g', Same.refl _, by simpa using hf⟩, ?_⟩
    rintro i n σ1 H1 ⟨rfl, hi, ρ1, F1, s1, ff1, h1⟩
    obtain ⟨i1, i2, i3⟩ := IT F1 H1 i ff1 s1.sub
    by_cases hlt : i < ds.length
    · refine .inr ⟨i1 hlt, fun σ2 H2 => i + 1 ≤ ds.length ∧ ∃ ρ2 F2, StRep X.K G O σ2 H2 ρ2 F2 ∧ Same F' F2 ∧ forL g b (ds.drop (i + 1)) ρ2 = some o, fun σ2 H2 w => ⟨ds.length - (i + 1), by omega, rfl, w.1, w.2⟩, fun x H2 y => ?_⟩
      have hd : ds[i]? = some ds[i] := List.getElem?_eq_getElem hlt
      obtain ⟨F2, g2, rx⟩ := i3 x H2 _ y hd
      rw [List.drop_eq_getElem_cons hlt] at h1
      have h1 : ((g ds[i] ρ1).bind fun ρ1 => (b ρ1).bind fun r => match r with
        | .nx ρ' => forL g b (ds.drop (i + 1)) ρ'
        | .ct ρ' => forL g b (ds.drop (i + 1)) ρ'
        | .bk ρ' => some (.nx ρ')
        | .rt d => some (.rt d)) = some o := h1
      cases e3 : g ds[i] ρ1 with
      | none => rw [e3] at h1; cases h1
      | some ρ2 =>
        rw [e3, Option.bind_some] at h1
        cases e4 : b ρ2 with
        | none => rw [e4] at h1; cases h1
        | some r =>
          rw [e4, Option.bind_some] at h1
          refine rg G x _ σ1 H2 F2 ρ1 ρ2 _ (s1.grow g2) rx e3 fun σ2 s2 => ?_
          have ff2 := same_trans ff1 g2.ff
          refine rb G σ2 H2 F2 ρ2 r _ s2 e4 ?_
          cases r with
          | nx ρ' => exact fun σ3 H3 F3 s3 e3 => ⟨hlt, ρ', F3, s3, same_trans ff2 e3, h1⟩
          | ct ρ' => exact fun σ3 H3 F3 s3 e3 => ⟨hlt, ρ', F3, s3, same_trans ff2 e3, h1⟩
          | bk ρ' => cases h1; exact fun σ3 H3 F3 s3 e3 => q σ3 H3 F3 s3 (same_trans g'.ff (same_trans ff2 e3))
          | rt d => cases h1; exact q
    · have hi' : i = ds.length := by omega
      subst hi'
      refine .inl ⟨i2 (Nat.le_refl _), ?_⟩
      rw [List.drop_length] at h1
      have h1 : some (Out.nx ρ1) = some o := h1
      cases h1
      exact q σ1 H1 F1 s1 (same_trans g'.ff ff1)

/-! ### an own list is changed -/
theorem StRep.ownUpd {K : PySem.W.Frag} {G : Ent} {σ : Sg} {H F : Hp} {ρ : Rho} (s : StRep K G O σ H ρ F) {i : Nat} {c : D} (hi : i ∈ O) (hc : getv ρ i = some c) {a : Addr} (hs : σ[i]? = some (some (V.ref a))) {vs : List V} {ds : List D} (hd : DpAll K F vs ds) :
    StRep K G O σ (upd H a (.lst vs)) (ρ.set i (some (.list ds))) F := by
  obtain ⟨v, e1, b, ws, es, rfl, rfl, k1, k2, k3⟩ := s.own i c hi hc
  have e2 : b = a := by
    rw [e1] at hs
    have hs := Option.some.inj (Option.some.inj hs)
    injection hs
  subst e2
  have hil : i < ρ.length := by
    unfold getv at hc
    cases z : ρ[i]? with
    | none => rw [z] at hc; cases hc
    | some _ => exact (List.getElem?_eq_some_iff.mp z).1
  have hf : Same F (upd H b (.lst vs)) := fun z o h => by
    have : z ≠ b := fun y => by subst y; rw [k2] at h; cases h
    rw [upd_ne this]; exact s.sub z o h
  have h0 : G.H0 b = none := s.new i _ b hi hc e1
  have old : ∀ j d, j ∈ O → j ≠ i → getv (ρ.set i (some (.list ds))) j = some d → getv ρ j = some d := fun j d _ hji h => by
    rw [getv_set, if_neg (fun z => hji z.1)] at h; exact h
  refine ⟨by simpa using s.len, ⟨s.g.ff, fun z o h => ?_, hf, fun z o h n => s.g.own z o h n⟩, fun j d hj h => ?_, fun j d hj h => ?_, fun j d c hj h hs2 => ?_, fun j k d e c hj hk hjk h1 h2 hs2 => ?_⟩
  · have : z ≠ b := fun y => by subst y; rw [h0] at h; cases h
    rw [upd_ne this]; exact s.g.hh z o h
  · have hji : j ≠ i := fun z => hj (z ▸ hi)
    rw [getv_set, if_neg (fun z => hji z.1)] at h
    exact s.dat j d hj h
  · by_cases hji : j = i
    · subst hji
      rw [getv_set, if_pos ⟨rfl, hil⟩] at h
      cases h
      exact ⟨_, e1, b, vs, ds, rfl, rfl, upd_same, k2, hd⟩
    · have h := old j d hj hji h
      obtain ⟨w, q1, c, xs, ys, rfl, rfl, m1, m2, m3⟩ := s.own j d hj h
      refine ⟨_, q1, c, xs, ys, rfl, rfl, ?_, m2, m3⟩
      rw [upd_ne (fun z => by subst z; exact s.dis j i _ _ c hj hi hji h hc q1 e1)]
      exact m1
  · by_cases hji : j = i
    · subst hji; exact s.new j _ c hj hc hs2
    · exact s.new j d c hj (old j d hj hji h) hs2
  · have : ∃ d', getv ρ j = some d' := by
      by_cases hji : j = i
      · subst hji; exact ⟨_, hc⟩
      · exact ⟨d, old j d hj hji h1⟩
    obtain ⟨d', hd'⟩ := this
    have : ∃ e', getv ρ k = some e' := by
      by_cases hki : k = i
      · subst hki; exact ⟨_, hc⟩
      · exact ⟨e, old k e hk hki h2⟩
    obtain ⟨e', he'⟩ := this
    exact s.dis j k d' e' c hj hk hjk hd' he' hs2
def appF (i : Nat) (f : EF) : SF := fun ρ => match getv ρ i with
  | some (.list ds) => (f ρ).bind fun d => if plainD d = true ∧ ds.length < sizeLine then some (.nx (ρ.set i (some (.list (ds ++ [d]))))) else none
  | _ => none
theorem ds_append (i : Nat) {x : Str} {p1 ap cp sp : Pos} (hO : O.contains i = true) (hx : PE X (.Name x p1) (tVar i)) (he : DE X O e f) (hs : starEach (e :: []) X.env = (false, eval e X.env) :: starEach [] X.env := by rfl)
    (hp : ∀ t u, PE X (.Name x p1) t → PA X [e] u → PS X (.Expr (.Call (.Attribute (.Name x p1) "append" ap) [e] [] cp) sp) (tDrop (tBM X.K "list" rAppend t u))) :
    DS X RO O O LB (.Expr (.Call (.Attribute (.Name x p1) "append" ap) [e] [] cp) sp) (appF i f) := by
  obtain ⟨⟨t, p, r⟩, _⟩ := da_cons he da_nil hs
  refine ⟨_, hp _ _ hx p, fun G σ H F ρ o E s hf q => ?_⟩
  have hO' := List.contains_iff_mem.mp hO
  unfold appF at hf
  cases e1 : getv ρ i with
  | none => simp [e1] at hf
  | some c =>
    cases c with
    | list ds =>
      simp only [e1] at hf
      cases e2 : f ρ with
      | none => simp [e2] at hf
      | some d =>
        simp only [e2, Option.bind_some] at hf
        by_cases hc : plainD d = true ∧ ds.length < sizeLine
        · rw [if_pos hc] at hf; cases hf
          obtain ⟨v, hs, a, vs, ds', rfl, e3, h1, h2, h3⟩ := s.own i _ hO' e1
          cases e3
          refine ⟨_, hs, .inl ⟨rfl, vs, .inl (.inl h1)⟩, ?_⟩
          refine r G σ H F ρ [d] _ s (by simp [consA, nilA, e2]) fun us H' F' g x => ?_
          cases x with
          | cons x xn =>
            cases xn
            have s' := s.grow g
            refine ⟨a, vs, _, rfl, rfl, g.hh _ _ h1, by rw [dpA_length h3]; exact hc.2, q _ _ F' (s'.ownUpd hO' e1 hs (dpA_append (dpAll_mono g.ff h3) (.cons (x.dp hc.1) .nil))) g.ff⟩
        · rw [if_neg hc] at hf; cases hf
    | _ => simp [e1] at hf
def popF (i : Nat) : SF := fun ρ => match getv ρ i with
  | some (.list ds) => if 0 < ds.length then some (.nx (ρ.set i (some (.list ds.dropLast)))) else none
  | _ => none
theorem dpA_dropLast {K : PySem.W.Frag} {F : Hp} {vs : List V} {ds : List D} (h : DpAll K F vs ds) : DpAll K F vs.dropLast ds.dropLast := by
  rw [List.dropLast_eq_take, List.dropLast_eq_take, dpA_length h]
  exact dpA_take _ h
theorem ds_pop (i : Nat) {x : Str} {p1 ap cp sp : Pos} (hO : O.contains i = true) (hx : PE X (.Name x p1) (tVar i))
    (hp : ∀ t, PE X (.Name x p1) t → PS X (.Expr (.Call (.Attribute (.Name x p1) "pop" ap) [] [] cp) sp) (tDrop (tBM0 X.K "list" rPop t))) :
    DS X RO O O LB (.Expr (.Call (.Attribute (.Name x p1) "pop" ap) [] [] cp) sp) (popF i) := by
  refine ⟨_, hp _ hx, fun G σ H F ρ o E s hf q => ?_⟩
  have hO' := List.contains_iff_mem.mp hO
  unfold popF at hf
  cases e1 : getv ρ i with
  | none => simp [e1] at hf
  | some c =>
    cases c with
    | list ds =>
      simp only [e1] at hf
      by_cases hc : 0 < ds.length
      · rw [if_pos hc] at hf; cases hf
        obtain ⟨v, hs, a, vs, ds', rfl, e3, h1, h2, h3⟩ := s.own i _ hO' e1
        cases e3
        have hl : vs.length - 1 < vs.length := by rw [dpA_length h3]; omega
        exact ⟨_, hs, .inl ⟨rfl, vs, .inl (.inl h1)⟩, a, vs, _, rfl, rfl, h1, List.getElem?_eq_getElem hl, q _ _ F (s.ownUpd hO' e1 hs (dpA_dropLast h3)) (Same.refl _)⟩
      · rw [if_neg hc] at hf; cases hf
    | _ => simp [e1] at hf
def clearF (i : Nat) : SF := fun ρ => match getv ρ i with
  | some (.list _) => some (.nx (ρ.set i (some (.list []))))
  | _ => none
theorem ds_clear (i : Nat) {x : Str} {p1 ap cp sp : Pos} (hO : O.contains i = true) (hx : PE X (.Name x p1) (tVar i))
    (hp : ∀ t, PE X (.Name x p1) t → PS X (.Expr (.Call (.Attribute (.Name x p1) "clear" ap) [] [] cp) sp) (tDrop (tBM0 X.K "list" rClear t))) :
    DS X RO O O LB (.Expr (.Call (.Attribute (.Name x p1) "clear" ap) [] [] cp) sp) (clearF i) := by
  refine ⟨_, hp _ hx, fun G σ H F ρ o E s hf q => ?_⟩
  have hO' := List.contains_iff_mem.mp hO
  unfold clearF at hf
  cases e1 : getv ρ i with
  | none => simp [e1] at hf
  | some c =>
    cases c with
    | list ds =>
      simp only [e1] at hf
      cases hf
      obtain ⟨v, hs, a, vs, ds', rfl, e3, h1, h2, h3⟩ := s.own i _ hO' e1
      cases e3
      exact ⟨_, hs, .inl ⟨rfl, vs, .inl (.inl h1)⟩, a, vs, rfl, rfl, h1, q _ _ F (s.ownUpd hO' e1 hs .nil) (Same.refl _)⟩
    | _ => simp [e1] at hf
/-- x[k] = e, x an own list -/
def putF (i : Nat) (f g : EF) : SF := fun ρ => (f ρ).bind fun d => match getv ρ i, g ρ with
  | some (.list ds), some (.int k) => (ixN ds.length k).bind fun j => if plainD d = true then some (.nx (ρ.set i (some (.list (ds.set j d))))) else none
  | _, _ => none
theorem ds_put (i : Nat) {x : Str} {p1 p2 : Pos} (hO : O.contains i = true) (hx : PE X (.Name x p1) (tVar i)) (he : DE X O e f) (hk : DE X O a1 g)
    (hp : ∀ t u w, PE X e t → PE X (.Name x p1) u → PE X a1 w → PS X (.Assign [.Subscript (.Name x p1) a1 p2] e pos) (tAsg t (gSub u w rSetL))) :
    DS X RO O O LB (.Assign [.Subscript (.Name x p1) a1 p2] e pos) (putF i f g) := by
  obtain ⟨t, p, r⟩ := he
  obtain ⟨w, pw, rw'⟩ := hk
  refine ⟨_, hp _ _ _ p hx pw, fun G σ H F ρ o E s hf q => ?_⟩
  have hO' := List.contains_iff_mem.mp hO
  unfold putF at hf
  cases e2 : f ρ with
  | none => simp [e2] at hf
  | some d =>
    simp only [e2, Option.bind_some] at hf
    cases e1 : getv ρ i with
    | none => simp [e1] at hf
    | some c =>
      cases c with
      | list ds =>
        cases e3 : g ρ with
        | none => simp [e1, e3] at hf
        | some k' =>
          cases k' with
          | int k =>
            simp only [e1, e3] at hf
            cases e4 : ixN ds.length k with
            | none => simp [e4] at hf
            | some j =>
              simp only [e4, Option.bind_some] at hf
              by_cases hc : plainD d = true
              · rw [if_pos hc] at hf; cases hf
                obtain ⟨v, hs, a, vs, ds', rfl, e5, h1, h2, h3⟩ := s.own i _ hO' e1
                cases e5
                refine r G σ H F ρ d _ s e2 fun y H1 F1 g1 r1 => ?_
                have s1 := s.grow g1
                refine ⟨_, hs, ?_⟩
                refine rw' G σ H1 F1 ρ _ _ s1 e3 fun z H2 F2 g2 r2 => ?_
                have s2 := s1.grow g2
                refine ⟨a, vs, k, j, rfl, r2.int_inv, g2.hh _ _ (g1.hh _ _ h1), by rw [dpA_length h3]; exact e4, q _ _ F2 (s2.ownUpd hO' e1 hs (dpA_set j (dpAll_mono (same_trans g1.ff g2.ff) h3) (dp_mono g2.ff (r1.dp hc)))) (same_trans g1.ff g2.ff)⟩
              · rw [if_neg hc] at hf; cases hf
          | _ => simp [e1, e3] at hf
      | _ => simp [e1] at hf
/-- an expression whose value is dropped -/
def dropF (f : EF) : SF := fun ρ => (f ρ).map fun _ => .nx ρ
end

/-! ### functions -/
def SpD (K : PySem.W.Frag) (own : Bool) (n : Nat) (Fn : List D → Option D) : Sp := fun vs H Q _ => ∃ F ds d, vs.length = n ∧ Same F H ∧ RepAll K F vs ds ∧ Fn ds = some d ∧
  ∀ v H' F', Grow F H F' H' → RetOk K own F' H' H v d → Q v H'
def startR (n : Nat) (ds : List D) : Rho := ds.map some ++ List.replicate (n - ds.length) none
def endD (own : Bool) : Option Out → Option D
  | some (.rt d) => some d
  | some (.nx _) => if own = true then none else some .none
  | _ => none
def bodyFn (own : Bool) (n : Nat) (b : SF) : List D → Option D := fun ds => endD own (b (startR n ds))
theorem getv_start {n : Nat} {ds : List D} {i : Nat} {d : D} (h : getv (startR n ds) i = some d) : ds[i]? = some d := by
  unfold getv startR at h
  by_cases hi : i < ds.length
  · rw [List.getElem?_append_left (by simpa using hi), List.getElem?_map] at h
    cases e : ds[i]? with
    | none => simp [e] at h
    | some c => simp [e] at h; rw [h]
  · rw [List.getElem?_append_right (by simpa using hi)] at h
    cases e : (List.replicate (n - ds.length) (none : Option D))[i - (ds.map some).length]? with
    | none => rw [e] at h; cases h
    | some c =>
      rw [e] at h
      have := List.eq_of_mem_replicate (List.mem_of_getElem? e)
      subst this; cases h
theorem repAll_get {K : PySem.W.Frag} {F : Hp} : ∀ {vs : List V} {ds : List D} {i : Nat} {d : D}, RepAll K F vs ds → ds[i]? = some d → ∃ v, vs[i]? = some v ∧ Rep K F v d
  | _, _, _, _, .nil, h => by simp at h
  | _, _, 0, _, .cons r _, h => by simp at h; subst h; exact ⟨_, rfl, r⟩
  | _, _, i + 1, _, .cons _ t, h => by
    simp at h
    obtain ⟨v, e1, e2⟩ := repAll_get t h
    exact ⟨v, by simpa using e1, e2⟩
theorem stRep_start {K : PySem.W.Frag} {F H : Hp} {N : List Str} {vs : List V} {ds : List D} (hs : Same F H) (r : RepAll K F vs ds) : StRep K ⟨F, H⟩ [] (L2.start N vs) H (startR N.length ds) F where
  len := by simp [L2.start, startR, r.length]
  g := Grow.refl hs
  dat := fun i d _ h => by
    obtain ⟨v, e1, e2⟩ := repAll_get r (getv_start h)
    refine ⟨v, ?_, e2⟩
    have hi : i < vs.length := (List.getElem?_eq_some_iff.mp e1).1
    unfold L2.start
    rw [List.getElem?_append_left (by simpa using hi), List.getElem?_map, e1]
    rfl
  own := fun i d h => by cases h
  new := fun i d a h => by cases h
  dis := fun i j d e a h => by cases h
section
variable {P : Program} {w : World} {K : PySem.W.Frag} {mg : Str → Option Value} {base : Heap}
theorem fn_ok {x qual : Str} {params : Arguments} {body : List Stmt} {scope : Scope} {dvs : List V} {kws : List (Str × V)} {f : Addr} {fd : FuncData} {N ps : List Str} {k : Nat} {own : Bool} {O' : List Nat} {b : SF} (F : FunD K x qual params body scope dvs kws f fd) (S : FnScope N ps scope)
    (hbody : ∀ (cdv : Value) (A : Around) (outer : List Env) (s : Shared) (H : Hp) (E : XK), Room k (A.deeper (envOfC qual scope s.heap.objs.size f cdv)) →
      DSs (cxOf CX0 P w K mg base N qual scope f cdv A outer s H E).nox own [] O' [] body b) {Fn : List D → Option D} (hFn : Fn = bodyFn own N.length b) : FnOk P w K mg base CX0 (k + 1) f fd ps (SpD K own ps.length Fn) := by
  subst hFn
  refine F.ok S (fun vs H Q E h => h.choose_spec.choose_spec.choose_spec.1) (fun cdv A outer s H vs Q E hr h => ?_)
  obtain ⟨t, p, r⟩ := hbody cdv A outer s H E hr
  refine ⟨t, p.nox, ?_⟩
  obtain ⟨F, ds, d, hl, hs, hr2, hf, q⟩ := h
  unfold bodyFn at hf
  cases e : b (startR N.length ds) with
  | none => rw [e] at hf; cases hf
  | some o =>
    rw [e] at hf
    refine r ⟨F, H⟩ (L2.start N vs) H F (startR N.length ds) o _ (stRep_start hs hr2) e ?_
    cases o with
    | nx ρ' =>
      cases own with
      | true => cases hf
      | false =>
        cases hf
        exact fun σ' H' F' s' _ => q .non H' F' s'.g (.dat .non)
    | rt d' => cases hf; exact fun v H' F' g x => q v H' F' g x
    | _ => cases hf
end
section
variable {X : Cx} {O : List Nat} {x : Str} {p pos : Pos} {e : Expr} {es : List Expr} {fa : AF} {k n : Nat} {fad : Addr} {fd : FuncData} {ps : List Str} {Fn : List D → Option D}
def callE (Fn : List D → Option D) (fa : AF) : EF := fun ρ => (fa ρ).bind Fn
def callL (Fn : List D → Option D) (fa : AF) : AF := fun ρ => match (fa ρ).bind Fn with
  | some (.list ds) => some ds
  | _ => none
theorem de_call (FO : FnOk X.prog X.w X.K X.mg X.base CX0 k fad fd ps (SpD X.K false n Fn)) (hn : es.length + 1 = n) (ha : DA X O (e :: es) fa)
    (hp : ∀ t, PA X (e :: es) t → PE X (.Call (.Name x p) (e :: es) [] pos) (tCall (SpD X.K false n Fn) [] E0 t)) : DE X O (.Call (.Name x p) (e :: es) [] pos) (callE Fn fa) := by
  obtain ⟨⟨t, pt, r⟩, hl⟩ := ha
  refine ⟨_, hp t pt, fun G σ H F ρ d Q s hf q => ?_⟩
  unfold callE at hf
  cases e1 : fa ρ with
  | none => simp [e1] at hf
  | some ds =>
    simp only [e1, Option.bind_some] at hf
    refine r G σ H F ρ ds _ s e1 fun vs H1 F1 g1 r1 => ?_
    refine ⟨F1, ds, d, ?_, g1.fh, ?_, hf, fun v H' F' g x => q v H' F' (g1.trans g) x⟩
    · rw [List.append_nil, r1.length, ← hn]; exact hl ρ ds e1
    · rw [List.append_nil]; exact r1
theorem dn_call (FO : FnOk X.prog X.w X.K X.mg X.base CX0 k fad fd ps (SpD X.K true n Fn)) (hn : es.length + 1 = n) (ha : DA X O (e :: es) fa)
    (hp : ∀ t, PA X (e :: es) t → PE X (.Call (.Name x p) (e :: es) [] pos) (tCall (SpD X.K true n Fn) [] E0 t)) : DN X O (.Call (.Name x p) (e :: es) [] pos) (callL Fn fa) := by
  obtain ⟨⟨t, pt, r⟩, hl⟩ := ha
  refine ⟨_, hp t pt, fun G σ H F ρ ds2 Q s hf q => ?_⟩
  unfold callL at hf
  cases e1 : fa ρ with
  | none => simp [e1] at hf
  | some ds =>
    rw [e1, Option.bind_some] at hf
    cases e2 : Fn ds with
    | none => rw [e2] at hf; cases hf
    | some d =>
      cases d with
      | list ds3 =>
        rw [e2] at hf
        have hf : some ds3 = some ds2 := hf
        cases hf
        refine r G σ H F ρ ds _ s e1 fun vs H1 F1 g1 r1 => ?_
        refine ⟨F1, ds, _, ?_, g1.fh, ?_, e2, fun v H' F' g x => ?_⟩
        · rw [List.append_nil, r1.length, ← hn]; exact hl ρ ds e1
        · rw [List.append_nil]; exact r1
        · obtain ⟨a, us, ds4, rfl, e5, h1, h2, h3, h4⟩ := x
          cases e5
          exact q a us H' F' (g1.trans g) (free_of g1.hh h2) h1 h3 h4
      | _ => rw [e2] at hf; cases hf
end
end DL

/-! DL, part 4: built-ins, comprehensions, lists put together. -/
namespace DL
open PySem PySem.Spec PyProof.Rows L2
section
variable {X : Cx} {O : List Nat} {e a1 a2 : Expr} {es : List Expr} {f g : EF} {fa : AF} {pos p : Pos} {x : Str} {id T : String}

/-! ### a built-in of one argument that may be read -/
theorem pa_one {te : TE} (p : PE X e te) (hs : starEach (e :: []) X.env = (false, eval e X.env) :: starEach [] X.env := by rfl) : PA X [e] (tCons te tNil) := pa_cons p pa_nil hs
def BiD (X : Cx) (r : List V → Hp → VK → Prop) (op : D → Option D) : Prop := ∀ (F H : Hp) (v : V) (c d : D) (Q : VK), Same F H → RepR X.K F H v c → op c = some d → (∀ v H' F', Grow F H F' H' → Rep X.K F' v d → Q v H') → r [v] H Q
def BiL (X : Cx) (r : List V → Hp → VK → Prop) (op : D → Option (List D)) : Prop := ∀ (F H : Hp) (v : V) (c : D) (ds : List D) (Q : VK), Same F H → RepR X.K F H v c → op c = some ds →
  (∀ a vs H' F', Grow F H F' H' → H a = none → H' a = some (.lst vs) → F' a = none → DpAll X.K F' vs ds → Q (.ref a) H') → r [v] H Q
theorem de_bi {r : List V → Hp → VK → Prop} {op : D → Option D} {call : Expr} (ho : BiD X r op) (ha : DR X O e f) (hp : ∀ t, PE X e t → PE X call (tCB r (tCons t tNil))) : DE X O call (o1 op f) := by
  obtain ⟨t, pt, rd⟩ := ha
  refine ⟨_, hp t pt, fun G σ H F ρ d Q s hf q => ?_⟩
  unfold o1 at hf
  cases e1 : f ρ with
  | none => simp [e1] at hf
  | some c =>
    simp only [e1, Option.bind_some] at hf
    exact rd G σ H F ρ c _ s e1 fun v H1 F1 g1 r1 => ho F1 H1 v c d Q g1.fh r1 hf fun v H2 F2 g2 r2 => q v H2 F2 (g1.trans g2) r2
def o1L (op : D → Option (List D)) (f : EF) : AF := fun ρ => (f ρ).bind op
theorem dn_bi {r : List V → Hp → VK → Prop} {op : D → Option (List D)} {call : Expr} (ho : BiL X r op) (ha : DR X O e f) (hp : ∀ t, PE X e t → PE X call (tCB r (tCons t tNil))) : DN X O call (o1L op f) := by
  obtain ⟨t, pt, rd⟩ := ha
  refine ⟨_, hp t pt, fun G σ H F ρ d Q s hf q => ?_⟩
  unfold o1L at hf
  cases e1 : f ρ with
  | none => simp [e1] at hf
  | some c =>
    simp only [e1, Option.bind_some] at hf
    exact rd G σ H F ρ c _ s e1 fun v H1 F1 g1 r1 => ho F1 H1 v c d Q g1.fh r1 hf fun a vs H2 F2 g2 hn h1 h2 h3 => q a vs H2 F2 (g1.trans g2) (free_of g1.hh hn) h1 h2 h3
theorem RepR.int_inv {K : PySem.W.Frag} {F H : Hp} {v : V} {i : Int} (h : RepR K F H v (.int i)) : v = .int i := by
  rcases h with h | ⟨a, vs, ds, rfl, e, _⟩
  · exact h.int_inv
  · cases e
theorem RepR.bl_inv {K : PySem.W.Frag} {F H : Hp} {v : V} {i : Bool} (h : RepR K F H v (.bool i)) : v = .bl i := by
  rcases h with h | ⟨a, vs, ds, rfl, e, _⟩
  · exact h.bl_inv
  · cases e
def absD : D → Option D
  | .int i => some (.int (if i < 0 then -i else i))
  | _ => none
theorem bi_abs : BiD X (fun xs H Q => ∃ i, xs = [.int i] ∧ Q (.int (if i < 0 then -i else i)) H) absD := fun F H v c d Q hs r h q => by
  cases c <;> simp [absD] at h
  subst h
  exact ⟨_, by rw [r.int_inv], q _ H F (Grow.refl hs) (.dat (.int _))⟩
def lenD : D → Option D
  | .list ds => some (.int ds.length)
  | .tuple ds => some (.int ds.length)
  | _ => none
theorem bi_len : BiD X (fun xs H Q => ∃ p ys, xs = [.ref p] ∧ (SqL X.K H p ys ∨ SqT X.K H p ys) ∧ Q (.int ys.length) H) lenD := fun F H v c d Q hs r h q => by
  cases c <;> simp [lenD] at h
  · subst h
    obtain ⟨a, vs, rfl, h1, h2⟩ := r.lst_inv hs
    exact ⟨a, vs, rfl, .inl h1, by rw [dpA_length h2]; exact q _ H F (Grow.refl hs) (.dat (.int _))⟩
  · subst h
    obtain ⟨a, vs, rfl, h1, h2⟩ := r.tup_inv
    exact ⟨a, vs, rfl, .inr (same_sqT hs h1), by rw [dpA_length h2]; exact q _ H F (Grow.refl hs) (.dat (.int _))⟩
def toIntD : D → Option D
  | .int i => some (.int i)
  | .bool k => some (.int (if k then 1 else 0))
  | _ => none
theorem bi_int : BiD X (fun xs H Q => (∃ i, xs = [.int i] ∧ Q (.int i) H) ∨ ∃ k, xs = [.bl k] ∧ Q (.int (if k then 1 else 0)) H) toIntD := fun F H v c d Q hs r h q => by
  cases c <;> simp [toIntD] at h
  · subst h; exact .inr ⟨_, by rw [r.bl_inv], q _ H F (Grow.refl hs) (.dat (.int _))⟩
  · subst h; exact .inl ⟨_, by rw [r.int_inv], q _ H F (Grow.refl hs) (.dat (.int _))⟩
/-- list(x), of a list or a tuple -/
def listD : D → Option (List D)
  | .list ds => some ds
  | .tuple ds => some ds
  | _ => none
theorem bi_list : BiL X (fun xs H Q => ∃ p ys, xs = [.ref p] ∧ (SqL X.K H p ys ∨ SqT X.K H p ys) ∧ ∀ l, H l = none → Q (.ref l) (upd H l (.lst ys))) listD := fun F H v c ds Q hs r h q => by
  cases c <;> simp [listD] at h
  · subst h
    obtain ⟨a, vs, rfl, h1, h2⟩ := r.lst_inv hs
    exact ⟨a, vs, rfl, .inl h1, fun l hl => q l vs _ F (Grow.newOwn hs hl) hl upd_same (free_of hs hl) h2⟩
  · subst h
    obtain ⟨a, vs, rfl, h1, h2⟩ := r.tup_inv
    exact ⟨a, vs, rfl, .inr (same_sqT hs h1), fun l hl => q l vs _ F (Grow.newOwn hs hl) hl upd_same (free_of hs hl) h2⟩
/-- a list of ints, as ints -/
def intsD : List D → Option (List Int)
  | [] => some []
  | .int i :: r => (intsD r).map (i :: ·)
  | _ => none
theorem dp_ints {K : PySem.W.Frag} {F : Hp} : ∀ {vs : List V} {ds : List D} {ns : List Int}, DpAll K F vs ds → intsD ds = some ns → vs = ns.map V.int
  | _, _, _, .nil, h => by cases h; rfl
  | _, _, _, .cons (d := d) r t, h => by
    cases d with
    | int i =>
      cases r
      simp only [intsD] at h
      cases e : intsD _ with
      | none => rw [e] at h; cases h
      | some ns =>
        rw [e] at h
        simp at h; subst h
        simp [dp_ints t e]
    | _ => cases h
def sumD : D → Option D
  | .list ds => (intsD ds).map fun ns => .int ns.sum
  | _ => none
theorem bi_sum : BiD X (rSum X.K) sumD := fun F H v c d Q hs r h q => by
  cases c with
  | list ds =>
    simp only [sumD] at h
    cases e : intsD ds with
    | none => rw [e] at h; cases h
    | some ns =>
      rw [e] at h
      simp at h; subst h
      obtain ⟨a, vs, rfl, h1, h2⟩ := r.lst_inv hs
      have := dp_ints h2 e
      subst this
      exact ⟨a, ns, rfl, h1, q _ H F (Grow.refl hs) (.dat (.int _))⟩
  | _ => cases h
def leastI : List Int → Option Int
  | [] => none
  | a :: r => some (r.foldl (fun m x => if x < m then x else m) a)
def mostI : List Int → Option Int
  | [] => none
  | a :: r => some (r.foldl (fun m x => if m < x then x else m) a)
theorem least_fold : ∀ (r : List Int) (a : Int), let m := r.foldl (fun m x => if x < m then x else m) a
    (m = a ∨ m ∈ r) ∧ m ≤ a ∧ ∀ x ∈ r, m ≤ x
  | [], a => ⟨.inl rfl, Int.le_refl _, fun _ h => by cases h⟩
  | b :: r, a => by
    have ih := least_fold r (if b < a then b else a)
    simp only [List.foldl_cons]
    obtain ⟨h1, h2, h3⟩ := ih
    refine ⟨?_, ?_, ?_⟩
    · rcases h1 with h | h
      · by_cases hb : b < a
        · rw [if_pos hb] at h ⊢; exact .inr (by rw [h]; exact List.mem_cons_self)
        · rw [if_neg hb] at h ⊢; exact .inl h
      · exact .inr (List.mem_cons_of_mem _ h)
    · refine Int.le_trans h2 ?_
      split <;> omega
    · intro x hx
      rcases List.mem_cons.mp hx with rfl | hx
      · refine Int.le_trans h2 ?_
        split <;> omega
      · exact h3 x hx
theorem most_fold : ∀ (r : List Int) (a : Int), let m := r.foldl (fun m x => if m < x then x else m) a
    (m = a ∨ m ∈ r) ∧ a ≤ m ∧ ∀ x ∈ r, x ≤ m
  | [], a => ⟨.inl rfl, Int.le_refl _, fun _ h => by cases h⟩
  | b :: r, a => by
    have ih := most_fold r (if a < b then b else a)
    simp only [List.foldl_cons]
    obtain ⟨h1, h2, h3⟩ := ih
    refine ⟨?_, ?_, ?_⟩
    · rcases h1 with h | h
      · by_cases hb : a < b
        · rw [if_pos hb] at h ⊢; exact .inr (by rw [h]; exact List.mem_cons_self)
        · rw [if_neg hb] at h ⊢; exact .inl h
      · exact .inr (List.mem_cons_of_mem _ h)
    · refine Int.le_trans ?_ h2
      split <;> omega
    · intro x hx
      rcases List.mem_cons.mp hx with rfl | hx
      · refine Int.le_trans ?_ h2
        split <;> omega
      · exact h3 x hx
theorem least_spec {ns : List Int} {m : Int} (h : leastI ns = some m) : m ∈ ns ∧ ∀ x ∈ ns, m ≤ x := by
  cases ns with
  | nil => cases h
  | cons a r =>
    have h := Option.some.inj h
    have := least_fold r a
    rw [h] at this
    obtain ⟨h1, h2, h3⟩ := this
    refine ⟨?_, fun x hx => ?_⟩
    · rcases h1 with rfl | h
      · exact List.mem_cons_self
      · exact List.mem_cons_of_mem _ h
    · rcases List.mem_cons.mp hx with rfl | hx
      · exact h2
      · exact h3 x hx
theorem most_spec {ns : List Int} {m : Int} (h : mostI ns = some m) : m ∈ ns ∧ ∀ x ∈ ns, x ≤ m := by
  cases ns with
  | nil => cases h
  | cons a r =>
    have h := Option.some.inj h
    have := most_fold r a
    rw [h] at this
    obtain ⟨h1, h2, h3⟩ := this
    refine ⟨?_, fun x hx => ?_⟩
    · rcases h1 with rfl | h
      · exact List.mem_cons_self
      · exact List.mem_cons_of_mem _ h
    · rcases List.mem_cons.mp hx with rfl | hx
      · exact h2
      · exact h3 x hx
def minD : D → Option D
  | .list ds => (intsD ds).bind fun ns => (leastI ns).map .int
  | _ => none
def maxD : D → Option D
  | .list ds => (intsD ds).bind fun ns => (mostI ns).map .int
  | _ => none
theorem bi_min : BiD X (rMin X.K) minD := fun F H v c d Q hs r h q => by
  cases c with
  | list ds =>
    simp only [minD] at h
    cases e : intsD ds with
    | none => rw [e] at h; cases h
    | some ns =>
      rw [e, Option.bind_some] at h
      cases e2 : leastI ns with
      | none => rw [e2] at h; cases h
      | some m0 =>
        rw [e2] at h
        simp at h; subst h
        obtain ⟨a, vs, rfl, h1, h2⟩ := r.lst_inv hs
        have := dp_ints h2 e
        subst this
        obtain ⟨k1, k2⟩ := least_spec e2
        refine ⟨a, ns, rfl, h1, List.length_pos_of_mem k1, fun m hm hle => ?_⟩
        have : m = m0 := Int.le_antisymm (hle m0 k1) (k2 m hm)
        subst this
        exact q _ H F (Grow.refl hs) (.dat (.int _))
  | _ => cases h
theorem bi_max : BiD X (rMax X.K) maxD := fun F H v c d Q hs r h q => by
  cases c with
  | list ds =>
    simp only [maxD] at h
    cases e : intsD ds with
    | none => rw [e] at h; cases h
    | some ns =>
      rw [e, Option.bind_some] at h
      cases e2 : mostI ns with
      | none => rw [e2] at h; cases h
      | some m0 =>
        rw [e2] at h
        simp at h; subst h
        obtain ⟨a, vs, rfl, h1, h2⟩ := r.lst_inv hs
        have := dp_ints h2 e
        subst this
        obtain ⟨k1, k2⟩ := most_spec e2
        refine ⟨a, ns, rfl, h1, List.length_pos_of_mem k1, fun m hm hle => ?_⟩
        have : m = m0 := Int.le_antisymm (k2 m hm) (hle m0 k1)
        subst this
        exact q _ H F (Grow.refl hs) (.dat (.int _))
  | _ => cases h
/-- a built-in of two ints -/
def max2D : D → D → Option D
  | .int i, .int j => some (.int (if j > i then j else i))
  | _, _ => none
def min2D : D → D → Option D
  | .int i, .int j => some (.int (if j < i then j else i))
  | _, _ => none
theorem de_max2 {call : Expr} (ha : DE X O a1 f) (hb : DE X O a2 g) (hs : starEach (a1 :: [a2]) X.env = (false, eval a1 X.env) :: starEach [a2] X.env := by rfl) (hs2 : starEach (a2 :: []) X.env = (false, eval a2 X.env) :: starEach [] X.env := by rfl)
    (hp : ∀ t, PA X [a1, a2] t → PE X call (tCB (fun xs H Q => ∃ i j, xs = [.int i, .int j] ∧ Q (.int (if j > i then j else i)) H) t)) : DE X O call (o2 max2D f g) := by
  obtain ⟨⟨t, p, r⟩, _⟩ := da_cons ha (da_cons hb da_nil hs2) hs
  refine ⟨_, hp t p, fun G σ H F ρ d Q s hf q => ?_⟩
  unfold o2 at hf
  cases e1 : f ρ with
  | none => simp [e1] at hf
  | some x =>
    cases e2 : g ρ with
    | none => simp [e1, e2] at hf
    | some y =>
      simp only [e1, e2, Option.bind_some] at hf
      refine r G σ H F ρ [x, y] _ s (by simp [consA, nilA, e1, e2]) fun vs H' F' g' r1 => ?_
      cases x <;> cases y <;> simp [max2D] at hf
      subst hf
      cases r1 with
      | cons ra rb =>
        cases rb with
        | cons rb rn =>
          cases rn
          exact ⟨_, _, by rw [ra.int_inv, rb.int_inv], q _ H' F' g' (.dat (.int _))⟩
theorem de_min2 {call : Expr} (ha : DE X O a1 f) (hb : DE X O a2 g) (hs : starEach (a1 :: [a2]) X.env = (false, eval a1 X.env) :: starEach [a2] X.env := by rfl) (hs2 : starEach (a2 :: []) X.env = (false, eval a2 X.env) :: starEach [] X.env := by rfl)
    (hp : ∀ t, PA X [a1, a2] t → PE X call (tCB (fun xs H Q => ∃ i j, xs = [.int i, .int j] ∧ Q (.int (if j < i then j else i)) H) t)) : DE X O call (o2 min2D f g) := by
  obtain ⟨⟨t, p, r⟩, _⟩ := da_cons ha (da_cons hb da_nil hs2) hs
  refine ⟨_, hp t p, fun G σ H F ρ d Q s hf q => ?_⟩
  unfold o2 at hf
  cases e1 : f ρ with
  | none => simp [e1] at hf
  | some x =>
    cases e2 : g ρ with
    | none => simp [e1, e2] at hf
    | some y =>
      simp only [e1, e2, Option.bind_some] at hf
      refine r G σ H F ρ [x, y] _ s (by simp [consA, nilA, e1, e2]) fun vs H' F' g' r1 => ?_
      cases x <;> cases y <;> simp [min2D] at hf
      subst hf
      cases r1 with
      | cons ra rb =>
        cases rb with
        | cons rb rn =>
          cases rn
          exact ⟨_, _, by rw [ra.int_inv, rb.int_inv], q _ H' F' g' (.dat (.int _))⟩

/-! ### isinstance with a built-in class -/
def tyD : D → String
  | .none => "NoneType"
  | .bool _ => "bool"
  | .int _ => "int"
  | .str _ => "str"
  | .list _ => "list"
  | .tuple _ => "tuple"
  | .dict _ => "?"
theorem tyx_of {K : PySem.W.Frag} {F H : Hp} {v : V} {d : D} (hs : Same F H) (r : RepR K F H v d) (hp : plainD d = true) : TyX K H v (.type (tyD d)) := by
  have lst : ∀ {a : Addr} {vs : List V}, SqL K H a vs → TyX K H (.ref a) (.type "list") := fun {a vs} h => by
    rcases h with (h | ⟨o, h⟩) | ⟨o, its, n, h1, h2, _⟩
    · exact .base (.lst h)
    · exact .base (.frz h)
    · exact .kList h1 h2
  have tup : ∀ {a : Addr} {vs : List V}, SqT K H a vs → TyX K H (.ref a) (.type "tuple") := fun {a vs} h => by
    rcases h with (h | ⟨o, h⟩) | ⟨o, its, n, h1, h2, _⟩
    · exact .base (.tup h)
    · exact .fTuple h
    · exact .kTuple h1 h2
  cases d with
  | none => rcases r with r | ⟨_, _, _, _, e, _⟩; rw [r.non_inv]; exact .base .non; cases e
  | bool b => rw [r.bl_inv]; exact .base (.bl b)
  | int i => rw [r.int_inv]; exact .base (.int i)
  | str x =>
    rcases r with r | ⟨_, _, _, _, e, _⟩
    · cases r with | dat r => cases r; exact .base (.str x)
    · cases e
  | list ds => obtain ⟨a, vs, rfl, h1, _⟩ := r.lst_inv hs; exact lst h1
  | tuple ds => obtain ⟨a, vs, rfl, h1, _⟩ := r.tup_inv; exact tup (same_sqT hs h1)
  | dict _ => cases hp
/-- isinstance's answer -/
def isiD (T : String) (d : D) : Option D := if plainD d = true then (kitB (tyD d) T).map .bool else none
theorem de_isi {call : Expr} (ha : DR X O e f) (hp : ∀ t, PE X e t → PE X call (tCB (rIsi X.K) (tCons t (tCons (tC (.ty T)) tNil)))) : DE X O call (o1 (isiD T) f) := by
  obtain ⟨t, pt, rd⟩ := ha
  refine ⟨_, hp t pt, fun G σ H F ρ d Q s hf q => ?_⟩
  unfold o1 at hf
  cases e1 : f ρ with
  | none => simp [e1] at hf
  | some c =>
    simp only [e1, Option.bind_some] at hf
    unfold isiD at hf
    by_cases hc : plainD c = true
    · rw [if_pos hc] at hf
      cases e2 : kitB (tyD c) T with
      | none => rw [e2] at hf; cases hf
      | some b =>
        rw [e2] at hf
        cases hf
        exact rd G σ H F ρ c _ s e1 fun v H1 F1 g1 r1 => ⟨v, .ty T, .type (tyD c), .type T, b, rfl, .ty T, tyx_of g1.fh r1 hc, kit_ty e2, q _ H1 F1 g1 (.dat (.bl _))⟩
    · rw [if_neg hc] at hf; cases hf

/-! ### list + list -/
def rCatL (K : PySem.W.Frag) : R2 := fun x y H Q => ∃ l b xs zs, x = .ref l ∧ y = .ref b ∧ SqL K H l xs ∧ SqL K H b zs ∧ xs.length + zs.length ≤ sizeLine ∧ ∀ p, H p = none → Q (.ref p) (upd H p (.lst (xs ++ zs)))
theorem op_catL : OpR X (binaryOp .Add) (rCatL X.K) := by
  intro pins s σ H x y v u Q I rx ry h
  obtain ⟨l, b, xs, zs, rfl, rfl, hH, hB, hz, q⟩ := h
  cases rx
  cases ry
  obtain ⟨its, r, pl, _⟩ := I.list hH
  obtain ⟨its2, r2, pl2, _⟩ := I.list hB
  obtain ⟨⟨cls, dd, data, sl⟩, ho, hc, n, hd⟩ := id pl.isList
  obtain ⟨⟨cls2, dd2, data2, sl2⟩, ho2, hc2, n2, hd2⟩ := id pl2.isList
  simp only at hc hd hc2 hd2
  subst hc hd hc2 hd2
  have e : its.toArray ++ its2.toArray = (its ++ its2).toArray := by simp
  have hsz : its.length + its2.length ≤ sizeLine := by rw [← r.length, ← r2.length]; exact hz
  refine concat_meets ⟨_, ho, rfl⟩ ⟨_, ho2, rfl⟩ noFill_list_add seq_list_add PySem.F.slot_list_add PySem.F.entry_list_add (PySem.F.args_list_add_2 _ _) (PyProof.Rows.list_addW l b its.toArray its2.toArray n n2 dd dd2 sl sl2 (by simpa using hsz)) ⟨ho, ho2, ?_⟩
  rw [e]
  exact ⟨.ref _, _, I.lnew (t' := s.toks) (r.append r2) (by rw [List.length_append]; omega), rfl, q _ I.fresh⟩
def catA (f g : EF) : AF := fun ρ => match f ρ, g ρ with
  | some (.list xs), some (.list ys) => if xs.length + ys.length ≤ sizeLine then some (xs ++ ys) else none
  | _, _ => none
theorem dn_cat (ha : DR X O a1 f) (hb : DR X O a2 g) : DN X O (.BinOp a1 .Add a2 pos) (catA f g) := by
  obtain ⟨ta, pa, ra⟩ := ha
  obtain ⟨tb, pb, rb⟩ := hb
  refine ⟨_, pe_op op_catL pa pb, fun G σ H F ρ ds Q s hf q => ?_⟩
  unfold catA at hf
  cases e1 : f ρ with
  | none => simp [e1] at hf
  | some c =>
    cases e2 : g ρ with
    | none => cases c <;> simp [e1, e2] at hf
    | some c2 =>
      cases c with
      | list xs =>
        cases c2 with
        | list ys =>
          simp only [e1, e2] at hf
          by_cases hl : xs.length + ys.length ≤ sizeLine
          · rw [if_pos hl] at hf
            have hf := Option.some.inj hf
            subst hf
            refine ra G σ H F ρ _ _ s e1 fun v H1 F1 g1 r1 => ?_
            refine rb G σ H1 F1 ρ _ _ (s.grow g1) e2 fun w H2 F2 g2 r2 => ?_
            obtain ⟨a, vs, rfl, h1, h2⟩ := (r1.grow g2).lst_inv g2.fh
            obtain ⟨b, ws, rfl, k1, k2⟩ := r2.lst_inv g2.fh
            refine ⟨a, b, vs, ws, rfl, rfl, h1, k1, by rw [dpA_length h2, dpA_length k2]; exact hl, fun p hn => ?_⟩
            have gg := g1.trans g2
            exact q p _ _ F2 (gg.trans (Grow.newOwn gg.fh hn)) (free_of gg.hh hn) upd_same (free_of gg.fh hn) (dpA_append h2 k2)
          · rw [if_neg hl] at hf; cases hf
        | _ => simp [e1, e2] at hf
      | _ => simp [e1, e2] at hf

end
end DL

/-! DL, part 5: comprehensions. -/
namespace DL
open PySem PySem.Spec PyProof.Rows L2
section
variable {X : Cx} {O : List Nat} {e a1 a2 : Expr} {es : List Expr} {f g : EF} {fa : AF} {pos p : Pos} {x : Str} {id T : String}
/-! ### comprehensions -/
def wipeR (ρ : Rho) : List Nat → Rho
  | [] => ρ
  | v :: vs => (wipeR ρ vs).set v none
theorem getv_set_none {ρ : Rho} {i j : Nat} {d : D} (h : getv (ρ.set i none) j = some d) : j ≠ i ∧ getv ρ j = some d := by
  unfold getv at h ⊢
  by_cases hj : j = i
  · subst hj
    by_cases hl : j < ρ.length
    · rw [List.getElem?_set_self hl] at h; cases h
    · rw [List.getElem?_eq_none (by simpa using hl)] at h; cases h
  · rw [List.getElem?_set_ne (Ne.symm hj)] at h
    exact ⟨hj, h⟩
theorem StRep.unset {K : PySem.W.Frag} {G : Ent} {σ : Sg} {H F : Hp} {ρ : Rho} (s : StRep K G O σ H ρ F) (i : Nat) : StRep K G O (σ.set i none) H (ρ.set i none) F where
  len := by simpa using s.len
  g := s.g
  dat := fun j d hj hd => by
    obtain ⟨hji, hd⟩ := getv_set_none hd
    obtain ⟨v, e1, e2⟩ := s.dat j d hj hd
    exact ⟨v, by rw [List.getElem?_set_ne (Ne.symm hji)]; exact e1, e2⟩
  own := fun j d hj hd => by
    obtain ⟨hji, hd⟩ := getv_set_none hd
    obtain ⟨v, e1, e2⟩ := s.own j d hj hd
    exact ⟨v, by rw [List.getElem?_set_ne (Ne.symm hji)]; exact e1, e2⟩
  new := fun j d a hj hd hs => by
    obtain ⟨hji, hd⟩ := getv_set_none hd
    rw [List.getElem?_set_ne (Ne.symm hji)] at hs
    exact s.new j d a hj hd hs
  dis := fun j k d e a hj hk hjk hd he hs => by
    obtain ⟨hji, hd⟩ := getv_set_none hd
    obtain ⟨hki, he⟩ := getv_set_none he
    rw [List.getElem?_set_ne (Ne.symm hji)] at hs
    rw [List.getElem?_set_ne (Ne.symm hki)]
    exact s.dis j k d e a hj hk hjk hd he hs
theorem StRep.wipe {K : PySem.W.Frag} {G : Ent} {σ : Sg} {H F : Hp} {ρ : Rho} (s : StRep K G O σ H ρ F) : ∀ vs : List Nat, StRep K G O (L2.wipe σ vs) H (wipeR ρ vs) F
  | [] => s
  | v :: vs => (StRep.wipe s vs).unset v
def compL (g : TgF) (c : BF) (f : EF) (ρ : Rho) : List D → Option (List D)
  | [] => some []
  | d :: ds => (g d ρ).bind fun ρ2 => (c ρ2).bind fun b => if b = true then (f ρ2).bind fun y => if plainD y = true then (compL g c f ρ ds).map (y :: ·) else none else compL g c f ρ ds
def compA (vs : List Nat) (it : AF) (g : TgF) (c : BF) (f : EF) : AF := fun ρ => (it ρ).bind fun ds => if ds.length < sizeLine then compL g c f (wipeR ρ vs) ds else none
theorem compL_len {g : TgF} {c : BF} {f : EF} {ρ : Rho} : ∀ {ds r : List D}, compL g c f ρ ds = some r → r.length ≤ ds.length
  | [], r, h => by cases h; exact Nat.le_refl _
  | d :: ds, r, h => by
    simp only [compL] at h
    cases e1 : g d ρ with
    | none => simp [e1] at h
    | some ρ2 =>
      simp only [e1, Option.bind_some] at h
      cases e2 : c ρ2 with
      | none => simp [e2] at h
      | some b =>
        simp only [e2, Option.bind_some] at h
        cases b with
        | false => rw [if_neg Bool.false_ne_true] at h; have := compL_len h; simp; omega
        | true =>
          rw [if_pos rfl] at h
          cases e3 : f ρ2 with
          | none => simp [e3] at h
          | some y =>
            simp only [e3, Option.bind_some] at h
            by_cases hp : plainD y = true
            · rw [if_pos hp] at h
              cases e4 : compL g c f ρ ds with
              | none => simp [e4] at h
              | some r' => simp [e4] at h; subst h; have := compL_len e4; simp; omega
            · rw [if_neg hp] at h; cases h
/-- tests of a comprehension -/
def DTs (X : Cx) (O : List Nat) (ifs : List Expr) (f : BF) : Prop := ∃ t, PTs X ifs t ∧ ∀ (G : Ent) (σ : Sg) (H F : Hp) (ρ : Rho) (b : Bool) (Q : Bool → Hp → Prop),
  StRep X.K G O σ H ρ F → f ρ = some b → (∀ H' F', Grow F H F' H' → Q b H') → t σ H Q
def yesB : BF := fun _ => some true
theorem dts_nil : DTs X O [] yesB := ⟨_, pts_nil, fun G σ H F ρ b Q s hf q => by cases hf; exact q H F (Grow.refl s.sub)⟩
theorem dts_one {c : BF} (h : DT X O e c) : DTs X O [e] c := let ⟨t, p, r⟩ := h; ⟨t, pts_one p, r⟩
theorem wipe_get {j : Nat} {τ : Sg} : ∀ {ws : List Nat}, j ∈ ws → (L2.wipe τ ws)[j]? = if j < τ.length then some none else none := by
  intro ws
  induction ws with
  | nil => intro h; cases h
  | cons w ws ih =>
    intro h
    unfold L2.wipe
    by_cases hw : w = j
    · subst hw
      by_cases hl : w < τ.length
      · rw [if_pos hl, List.getElem?_set_self (by rw [wipe_length]; exact hl)]
      · rw [if_neg hl]; exact List.getElem?_eq_none (by rw [List.length_set, wipe_length]; omega)
    · rw [List.getElem?_set_ne hw]
      rcases List.mem_cons.mp h with z | z
      · exact absurd z.symm hw
      · exact ih z
theorem wipe_set_mem {σ : Sg} {v : Option V} {i : Nat} {vs : List Nat} (hi : i ∈ vs) : L2.wipe ((L2.wipe σ vs).set i v) vs = L2.wipe σ vs := by
  apply List.ext_getElem?
  intro j
  by_cases hj : j ∈ vs
  · rw [wipe_get hj, wipe_get hj, List.length_set, wipe_length]
  · rw [wipe_out hj, List.getElem?_set_ne (show i ≠ j from fun z => hj (z ▸ hi))]
theorem wipe_set_two {σ : Sg} {v w : Option V} {i k : Nat} {vs : List Nat} (hi : i ∈ vs) (hk : k ∈ vs) : L2.wipe (((L2.wipe σ vs).set i v).set k w) vs = L2.wipe σ vs := by
  apply List.ext_getElem?
  intro j
  by_cases hj : j ∈ vs
  · rw [wipe_get hj, wipe_get hj, List.length_set, List.length_set, wipe_length]
  · rw [wipe_out hj, List.getElem?_set_ne (show k ≠ j from fun z => hj (z ▸ hk)), List.getElem?_set_ne (show i ≠ j from fun z => hj (z ▸ hi))]
/-- the target stores only the comprehension's own names -/
def OwnG (X : Cx) (O : List Nat) (vs : List Nat) (tg : Expr) (g : TgF) : Prop := ∃ t, PG X tg t ∧ ∀ (G : Ent) (v : V) (d : D) (σ : Sg) (H F : Hp) (ρ ρ' : Rho) (Q : Sg → Hp → Prop),
  StRep X.K G O (L2.wipe σ vs) H (wipeR ρ vs) F → Rep X.K F v d → g d (wipeR ρ vs) = some ρ' → (∀ σ', StRep X.K G O σ' H ρ' F → L2.wipe σ' vs = L2.wipe σ vs → Q σ' H) → t v (L2.wipe σ vs) H Q
end
section
variable {X : Cx} {O : List Nat} {e a1 a2 : Expr} {pos p : Pos} {x : Str}
theorem noDrop {i : Nat} (h : O.contains i = false) : dropO O i = O := by
  unfold dropO
  refine List.filter_eq_self.mpr fun a ha => ?_
  have : a ≠ i := fun z => by subst z; rw [List.contains_iff_mem.mpr ha] at h; cases h
  simpa using this
theorem og_name (i : Nat) {vs : List Nat} (hi : vs.contains i = true) (hO : O.contains i = false) (h : PG X (.Name x pos) (gName i)) : OwnG X O vs (.Name x pos) (nameG i) := by
  refine ⟨_, h, fun G v d σ H F ρ ρ' Q s r hg q => ?_⟩
  cases hg
  have s' := s.set i r
  rw [noDrop hO] at s'
  exact q _ s' (wipe_set_mem (List.contains_iff_mem.mp hi))
theorem dpA_two {K : PySem.W.Frag} {F : Hp} {us : List V} {ds : List D} (h : DpAll K F us ds) (hl : ds.length = 2) : ∃ u1 u2 c1 c2, us = [u1, u2] ∧ ds = [c1, c2] ∧ Dp K F u1 c1 ∧ Dp K F u2 c2 := by
  cases h with
  | nil => cases hl
  | cons r1 t1 =>
    cases t1 with
    | nil => cases hl
    | cons r2 t2 =>
      cases t2 with
      | nil => exact ⟨_, _, _, _, rfl, rfl, r1, r2⟩
      | cons r3 t3 => simp at hl
theorem og_two (i j : Nat) {vs : List Nat} {y : Str} {p1 p2 : Pos} {k : Nat} (hi : vs.contains i = true) (hj : vs.contains j = true) (hO : O.contains i = false) (hO2 : O.contains j = false)
    (h : PG X (.Tuple [.Name x p1, .Name y p2] k pos) (gTup X.K 2 (gCons (gName i) (gCons (gName j) gNil)))) : OwnG X O vs (.Tuple [.Name x p1, .Name y p2] k pos) (tupG 2 (consG (nameG i) (consG (nameG j) nilG))) := by
  refine ⟨_, h, fun G v d σ H F ρ ρ' Q s r hg q => ?_⟩
  cases d with
  | tuple ds =>
    have hg : (if ds.length = 2 then consG (nameG i) (consG (nameG j) nilG) ds (wipeR ρ vs) else none) = some ρ' := hg
    by_cases hl : ds.length = 2
    · rw [if_pos hl] at hg
      obtain ⟨a, us, rfl, h1, h2⟩ := r.tup_inv
      obtain ⟨u1, u2, c1, c2, rfl, rfl, r1, r2⟩ := dpA_two h2 hl
      have hg : some (((wipeR ρ vs).set i (some c1)).set j (some c2)) = some ρ' := hg
      have hg := Option.some.inj hg
      subst hg
      refine ⟨a, [u1, u2], rfl, same_sqT s.sub h1, rfl, u1, [u2], rfl, ?_⟩
      refine ⟨u2, [], rfl, rfl, ?_⟩
      have s1 := s.set i (.dat r1)
      rw [noDrop hO] at s1
      have s2 := s1.set j (.dat r2)
      rw [noDrop hO2] at s2
      exact q _ s2 (wipe_set_two (List.contains_iff_mem.mp hi) (List.contains_iff_mem.mp hj))
    · rw [if_neg hl] at hg; cases hg
  | _ => cases hg
end
section
variable {X : Cx} {O : List Nat} {elt tg iter : Expr} {ifs : List Expr} {scope : Scope} {own : List (Str × Nat)} {pos : Pos} {it : AF} {g : TgF} {c : BF} {f : EF}
/-- a judgement within the comprehension's block -/
def InBlk (X : Cx) (scope : Scope) (J : Cx → Prop) : Prop := ∀ (s : Shared) (H : Hp) (C : Addr) (cl : List (Str × Addr)) (fp : List Addr), J (X.blk s H scope (compEnvC scope cl C X.env) fp)
theorem tLc_ok {wi : TI} {tg' : TG} {tt : TT} {te : TE} {vs : List Nat}
    (ri : ∀ (G : Ent) (σ : Sg) (H F : Hp) (ρ : Rho) (ds : List D) (R : It → Hp → Prop), StRep X.K G O σ H ρ F → it ρ = some ds → (∀ J H' F', Grow F H F' H' → Iters X.K J F' ds → R J H') → wi σ H R)
    (rg : ∀ (G : Ent) (v : V) (d : D) (σ : Sg) (H F : Hp) (ρ ρ' : Rho) (Q : Sg → Hp → Prop), StRep X.K G O (L2.wipe σ vs) H (wipeR ρ vs) F → Rep X.K F v d → g d (wipeR ρ vs) = some ρ' → (∀ σ', StRep X.K G O σ' H ρ' F → L2.wipe σ' vs = L2.wipe σ vs → Q σ' H) → tg' v (L2.wipe σ vs) H Q)
    (rt : ∀ (G : Ent) (σ : Sg) (H F : Hp) (ρ : Rho) (b : Bool) (Q : Bool → Hp → Prop), StRep X.K G O σ H ρ F → c ρ = some b → (∀ H' F', Grow F H F' H' → Q b H') → tt σ H Q)
    (re : ∀ (G : Ent) (σ : Sg) (H F : Hp) (ρ : Rho) (d : D) (Q : VK), StRep X.K G O σ H ρ F → f ρ = some d → (∀ v H' F', Grow F H F' H' → Rep X.K F' v d → Q v H') → te σ H Q)
    (G : Ent) (σ : Sg) (H F : Hp) (ρ : Rho) (rs : List D) (Q : VK) (s : StRep X.K G O σ H ρ F) (hf : compA vs it g c f ρ = some rs)
    (q : ∀ a vs H' F', Grow F H F' H' → H a = none → H' a = some (.lst vs) → F' a = none → DpAll X.K F' vs rs → Q (.ref a) H') : tLc wi tg' tt te vs σ H Q := by
  unfold compA at hf
  cases e : it ρ with
  | none => simp [e] at hf
  | some ds =>
    simp only [e, Option.bind_some] at hf
    by_cases hlen : ds.length < sizeLine
    · rw [if_pos hlen] at hf
      refine ri G σ H F ρ ds _ s e fun J H1 F1 g1 IT Dd hD => ?_
      have sw : StRep X.K G O (L2.wipe σ vs) H1 (wipeR ρ vs) F1 := (s.grow g1).wipe vs
      -- what holds ahead of turn i: the list made so far, and the rest to come
      refine ⟨fun i n H2 => n = ds.length - i ∧ i ≤ ds.length ∧ ∃ F2 acc ac rest, Grow F1 H1 F2 H2 ∧ F2 Dd = none ∧ H2 Dd = some (.lst acc) ∧ DpAll X.K F2 acc ac ∧ ac.length ≤ i ∧ compL g c f (wipeR ρ vs) (ds.drop i) = some rest ∧ ac ++ rest = rs,
        ⟨ds.length, by simp, Nat.zero_le _, F1, [], [], rs, Grow.newOwn g1.fh hD, free_of g1.fh hD, upd_same, .nil, Nat.le_refl _, by simpa using hf, rfl⟩, ?_⟩
      rintro i n H2 ⟨rfl, hi, F2, acc, ac, rest, g2, hF2, hH2, hac, hal, hc, hrs⟩
      obtain ⟨i1, i2, i3⟩ := IT F2 H2 i g2.ff g2.fh
      by_cases hlt : i < ds.length
      · refine .inr ⟨i1 hlt, fun H3 => i + 1 ≤ ds.length ∧ ∃ F3 acc ac rest, Grow F1 H1 F3 H3 ∧ F3 Dd = none ∧ H3 Dd = some (.lst acc) ∧ DpAll X.K F3 acc ac ∧ ac.length ≤ i + 1 ∧ compL g c f (wipeR ρ vs) (ds.drop (i + 1)) = some rest ∧ ac ++ rest = rs,
          fun H3 w => ⟨ds.length - (i + 1), by omega, rfl, w⟩, fun x H3 y => ?_⟩
        have hd : ds[i]? = some ds[i] := List.getElem?_eq_getElem hlt
        obtain ⟨F3, g3, rx⟩ := i3 x H3 _ y hd
        rw [List.drop_eq_getElem_cons hlt] at hc
        simp only [compL] at hc
        cases e1 : g ds[i] (wipeR ρ vs) with
        | none => simp [e1] at hc
        | some ρ2 =>
          simp only [e1, Option.bind_some] at hc
          cases e2 : c ρ2 with
          | none => simp [e2] at hc
          | some b =>
            simp only [e2, Option.bind_some] at hc
            have s3 : StRep X.K G O (L2.wipe σ vs) H3 (wipeR ρ vs) F3 := (sw.grow g2).grow g3
            refine rg G x _ σ H3 F3 ρ ρ2 _ s3 rx e1 fun σ2 s4 hw => ⟨hw, ?_⟩
            refine rt G σ2 H3 F3 ρ2 b _ s4 e2 fun H4 F4 g4 => ?_
            have g24 : Grow F2 H2 F4 H4 := g3.trans g4
            have g14 : Grow F1 H1 F4 H4 := g2.trans g24
            have hF4 : F4 Dd = none := g24.own _ _ hH2 hF2
            have hH4 : H4 Dd = some (.lst acc) := g24.hh _ _ hH2
            cases b with
            | false =>
              rw [if_neg Bool.false_ne_true] at hc ⊢
              exact ⟨hlt, F4, acc, ac, rest, g14, hF4, hH4, dpAll_mono g24.ff hac, by omega, hc, hrs⟩
            | true =>
              rw [if_pos rfl] at hc ⊢
              cases e3 : f ρ2 with
              | none => simp [e3] at hc
              | some y1 =>
                simp only [e3, Option.bind_some] at hc
                by_cases hp : plainD y1 = true
                · rw [if_pos hp] at hc
                  cases e4 : compL g c f (wipeR ρ vs) (ds.drop (i + 1)) with
                  | none => simp [e4] at hc
                  | some rest2 =>
                    simp [e4] at hc
                    refine re G σ2 H4 F4 ρ2 y1 _ (s4.grow g4) e3 fun v H5 F5 g5 r5 => ?_
                    have g25 := g24.trans g5
                    have hF5 : F5 Dd = none := g25.own _ _ hH2 hF2
                    refine ⟨acc, g25.hh _ _ hH2, by rw [dpA_length hac]; omega, hlt, F5, acc ++ [v], ac ++ [y1], rest2, ?_, hF5, upd_same, dpA_append (dpAll_mono g25.ff hac) (.cons (r5.dp hp) .nil), by simp; omega, rfl, by rw [List.append_assoc, ← hrs, ← hc]; rfl⟩
                    have g15 := g2.trans g25
                    refine ⟨g15.ff, fun b o hb => ?_, fun b o hb => ?_, g15.own⟩
                    · rw [upd_ne (ne_of_none hb hD)]; exact g15.hh b o hb
                    · have : b ≠ Dd := fun z => by subst z; rw [hF5] at hb; cases hb
                      rw [upd_ne this]; exact g15.fh b o hb
                · rw [if_neg hp] at hc; cases hc
      · have hi' : i = ds.length := by omega
        subst hi'
        refine .inl ⟨i2 (Nat.le_refl _), ?_⟩
        rw [List.drop_length] at hc
        have hc : some [] = some rest := hc
        cases hc
        rw [List.append_nil] at hrs
        subst hrs
        exact q Dd acc H2 F2 (g1.trans g2) (free_of g1.hh hD) hH2 hF2 hac
    · rw [if_neg hlen] at hf; cases hf
/-! ### the strongest reading: it does not depend on the context -/
def tE (K : PySem.W.Frag) (O : List Nat) (f : EF) : TE := fun σ H Q => ∃ (G : Ent) (F : Hp) (ρ : Rho) (d : D), StRep K G O σ H ρ F ∧ f ρ = some d ∧ ∀ v H' F', Grow F H F' H' → Rep K F' v d → Q v H'
def tT (K : PySem.W.Frag) (O : List Nat) (c : BF) : TT := fun σ H Q => ∃ (G : Ent) (F : Hp) (ρ : Rho) (b : Bool), StRep K G O σ H ρ F ∧ c ρ = some b ∧ ∀ H' F', Grow F H F' H' → Q b H'
theorem DE_pe {Y : Cx} {e : Expr} {f : EF} (h : DE Y O e f) : PE Y e (tE Y.K O f) := by
  obtain ⟨t, p, r⟩ := h
  exact ⟨fun pins s σ H Q I ⟨G, F, ρ, d, sr, hf, q⟩ => p.run pins s σ H Q I (r G σ H F ρ d Q sr hf q)⟩
theorem DTs_pt {Y : Cx} {ifs : List Expr} {c : BF} (h : DTs Y O ifs c) : PTs Y ifs (tT Y.K O c) := by
  obtain ⟨t, p, r⟩ := h
  exact ⟨fun pins s σ H Q I ⟨G, F, ρ, d, sr, hf, q⟩ => p.run pins s σ H Q I (r G σ H F ρ d Q sr hf q)⟩
/-- the target's reading alone -/
def OwnR (K : PySem.W.Frag) (O vs : List Nat) (t : TG) (g : TgF) : Prop := ∀ (G : Ent) (v : V) (d : D) (σ : Sg) (H F : Hp) (ρ ρ' : Rho) (Q : Sg → Hp → Prop),
  StRep K G O (L2.wipe σ vs) H (wipeR ρ vs) F → Rep K F v d → g d (wipeR ρ vs) = some ρ' → (∀ σ', StRep K G O σ' H ρ' F → L2.wipe σ' vs = L2.wipe σ vs → Q σ' H) → t v (L2.wipe σ vs) H Q
theorem or_name {K : PySem.W.Frag} {vs : List Nat} (i : Nat) (hi : vs.contains i = true) (hO : O.contains i = false) : OwnR K O vs (gName i) (nameG i) := by
  intro G v d σ H F ρ ρ' Q s r hg q
  cases hg
  have s' := s.set i r
  rw [noDrop hO] at s'
  exact q _ s' (wipe_set_mem (List.contains_iff_mem.mp hi))
theorem or_two {K : PySem.W.Frag} {vs : List Nat} (i j : Nat) (hi : vs.contains i = true) (hj : vs.contains j = true) (hO : O.contains i = false) (hO2 : O.contains j = false) :
    OwnR K O vs (gTup K 2 (gCons (gName i) (gCons (gName j) gNil))) (tupG 2 (consG (nameG i) (consG (nameG j) nilG))) := by
  intro G v d σ H F ρ ρ' Q s r hg q
  cases d with
  | tuple ds =>
    have hg : (if ds.length = 2 then consG (nameG i) (consG (nameG j) nilG) ds (wipeR ρ vs) else none) = some ρ' := hg
    by_cases hl : ds.length = 2
    · rw [if_pos hl] at hg
      obtain ⟨a, us, rfl, h1, h2⟩ := r.tup_inv
      obtain ⟨u1, u2, c1, c2, rfl, rfl, r1, r2⟩ := dpA_two h2 hl
      have hg : some (((wipeR ρ vs).set i (some c1)).set j (some c2)) = some ρ' := hg
      have hg := Option.some.inj hg
      subst hg
      refine ⟨a, [u1, u2], rfl, same_sqT s.sub h1, rfl, u1, [u2], rfl, ?_⟩
      refine ⟨u2, [], rfl, rfl, ?_⟩
      have s1 := s.set i (.dat r1)
      rw [noDrop hO] at s1
      have s2 := s1.set j (.dat r2)
      rw [noDrop hO2] at s2
      exact q _ s2 (wipe_set_two (List.contains_iff_mem.mp hi) (List.contains_iff_mem.mp hj))
    · rw [if_neg hl] at hg; cases hg
  | _ => cases hg
theorem tE_read {K : PySem.W.Frag} {f : EF} (G : Ent) (σ : Sg) (H F : Hp) (ρ : Rho) (d : D) (Q : VK) (s : StRep K G O σ H ρ F) (hf : f ρ = some d) (q : ∀ v H' F', Grow F H F' H' → Rep K F' v d → Q v H') : tE K O f σ H Q := ⟨G, F, ρ, d, s, hf, q⟩
theorem tT_read {K : PySem.W.Frag} {c : BF} (G : Ent) (σ : Sg) (H F : Hp) (ρ : Rho) (b : Bool) (Q : Bool → Hp → Prop) (s : StRep K G O σ H ρ F) (hf : c ρ = some b) (q : ∀ H' F', Grow F H F' H' → Q b H') : tT K O c σ H Q := ⟨G, F, ρ, b, s, hf, q⟩
/-- [elt for tg in iter if ..] -/
theorem dn_comp {vs : List Nat} {tg' : TG} (hi : DI X O tg iter it) (hR : OwnR X.K O vs tg' g) (hc : InBlk X scope fun Y => DTs Y O ifs c) (he : InBlk X scope fun Y => DE Y O elt f)
    (hp : ∀ wi tt te, PI X tg iter wi → InBlk X scope (fun Y => PTs Y ifs tt) → InBlk X scope (fun Y => PE Y elt te) → PE X (.ListComp elt [⟨tg, iter, ifs, 0⟩] scope pos) (tLc wi tg' tt te vs)) :
    DN X O (.ListComp elt [⟨tg, iter, ifs, 0⟩] scope pos) (compA vs it g c f) := by
  obtain ⟨wi, pi, ri⟩ := hi
  exact ⟨_, hp wi (tT X.K O c) (tE X.K O f) pi (fun s H C cl fp => DTs_pt (hc s H C cl fp)) (fun s H C cl fp => DE_pe (he s H C cl fp)),
    fun G σ H F ρ ds Q s hf q => tLc_ok (X := X) ri hR tT_read tE_read G σ H F ρ ds Q s hf q⟩
/-- y = [elt for tg in iter if ..] -/
theorem ds_setComp (i : Nat) {y : Str} {py spos : Pos} {RO : Bool} {LB : List Nat} {vs : List Nat} {tg' : TG} (hi : DI X O tg iter it) (hR : OwnR X.K O vs tg' g) (hc : InBlk X scope fun Y => DTs Y O ifs c) (he : InBlk X scope fun Y => DE Y O elt f)
    (hp : ∀ wi tt te, PI X tg iter wi → InBlk X scope (fun Y => PTs Y ifs tt) → InBlk X scope (fun Y => PE Y elt te) → PS X (.Assign [.Name y py] (.ListComp elt [⟨tg, iter, ifs, 0⟩] scope pos) spos) (tAsg (tLc wi tg' tt te vs) (gName i))) :
    DS X RO O (i :: dropO O i) LB (.Assign [.Name y py] (.ListComp elt [⟨tg, iter, ifs, 0⟩] scope pos) spos) (setL i (compA vs it g c f)) := by
  obtain ⟨wi, pi, ri⟩ := hi
  refine ⟨_, hp wi (tT X.K O c) (tE X.K O f) pi (fun s H C cl fp => DTs_pt (hc s H C cl fp)) (fun s H C cl fp => DE_pe (he s H C cl fp)), fun G σ H F ρ o E s hf q => ?_⟩
  unfold setL at hf
  cases e : compA vs it g c f ρ with
  | none => simp [e] at hf
  | some ds =>
    simp [e] at hf; subst hf
    refine tLc_ok (X := X) ri hR tT_read tE_read G σ H F ρ ds _ s e fun a us H' F' g hn h1 h2 h3 => q _ H' F' ((s.grow g).setOwn i h1 h2 h3 (free_of s.g.hh hn) fun j c hj _ hc => ?_) g.ff
    exact s.ownNe hn j c hj hc
end
end DL

/-! DL, part 6: the rules with their side conditions filled in. -/
namespace DL
open PySem PySem.Spec PyProof.Rows L2

/-- a def of the top keeps its promise -/
def DefOk (P : Program) (w : World) (K : PySem.W.Frag) (mg : Str → Option Value) (name : Str) (k : Nat) (ps : List Str) (own : Bool) (Fn : List D → Option D) : Prop :=
  ∃ (fa : Addr) (fd : FuncData), mg name = some (.ref fa) ∧ PySem.W.keepIn K (.ref fa) = true ∧ (∀ (s : Shared) (us : List Value), us.length = ps.length → BindsTo s fd ⟨us, []⟩ (ps.zip us)) ∧
    ∀ base : Heap, FnOk P w K mg base CX0 k fa fd ps (SpD K own ps.length Fn)
theorem binds_of {K : PySem.W.Frag} {fd : FuncData} {ps : List Str} (h : ∀ (s : Shared) (us : List Value), us.length = ps.length → BindsTo s fd ⟨us, []⟩ (ps.zip us)) : Binds K fd ps [] := fun s us _ hl => by
  rw [List.append_nil] at hl ⊢
  exact h s us hl

section
variable {X : Cx} {RO : Bool} {O O' O1 O2 LB : List Nat} {e a1 a2 : Expr} {es : List Expr} {f g : EF} {fa : AF} {pos p p1 p2 py spos : Pos} {st : Stmt} {xs rest : List Stmt} {s1 s2 : SF} {x y : Str} {c : BF}

theorem e_v (i : Nat) (hO : O.contains i = false := by rfl) (hN : X.N[i]? = some x := by rfl) (hv : Vis X.env.scope x := by first | exact Or.inl rfl | exact Or.inr (Or.inl rfl) | exact Or.inr (Or.inr rfl))
    (hd : (x == ("__debug__" : Str)) = false := by decide) (hcd : (x == ("__classdict__" : Str)) = false := by decide) : DE X O (.Name x pos) (vE i) := de_var i hO (pe_var hN hv hd hcd)
theorem r_v (i : Nat) (hN : X.N[i]? = some x := by rfl) (hv : Vis X.env.scope x := by first | exact Or.inl rfl | exact Or.inr (Or.inl rfl) | exact Or.inr (Or.inr rfl))
    (hd : (x == ("__debug__" : Str)) = false := by decide) (hcd : (x == ("__classdict__" : Str)) = false := by decide) : DR X O (.Name x pos) (vE i) := dr_var i (pe_var hN hv hd hcd)
theorem e_call {k : Nat} {ps : List Str} {Fn : List D → Option D} (h : DefOk X.prog X.w X.K X.mg x k ps false Fn) {j : Nat} (hr : Room j X.A) (hk : Nat.ble k j = true) (ha : DA X O (e :: es) fa) (hn : es.length + 1 = ps.length := by rfl)
    (hg : Gl X x := by rfl) (hdb : (x == ("__debug__" : Str)) = false := by decide) (he : starEach (e :: es) X.env = (false, eval e X.env) :: starEach es X.env := by rfl) (hpl : (backTo pos (starEach es X.env)).any (·.1) = false := by rfl) :
    DE X O (.Call (.Name x p) (e :: es) [] pos) (callE Fn fa) := by
  obtain ⟨fad, fd, hm, hkp, hb, F⟩ := h
  exact de_call (F X.base) hn ha fun t pt => pe_call (F X.base) (hr.mono (Nat.le_of_ble_eq_true hk)) hg hm hkp (binds_of hb) .nil pass0 pt hdb he hpl
theorem n_call {k : Nat} {ps : List Str} {Fn : List D → Option D} (h : DefOk X.prog X.w X.K X.mg x k ps true Fn) {j : Nat} (hr : Room j X.A) (hk : Nat.ble k j = true) (ha : DA X O (e :: es) fa) (hn : es.length + 1 = ps.length := by rfl)
    (hg : Gl X x := by rfl) (hdb : (x == ("__debug__" : Str)) = false := by decide) (he : starEach (e :: es) X.env = (false, eval e X.env) :: starEach es X.env := by rfl) (hpl : (backTo pos (starEach es X.env)).any (·.1) = false := by rfl) :
    DN X O (.Call (.Name x p) (e :: es) [] pos) (callL Fn fa) := by
  obtain ⟨fad, fd, hm, hkp, hb, F⟩ := h
  exact dn_call (F X.base) hn ha fun t pt => pe_call (F X.base) (hr.mono (Nat.le_of_ble_eq_true hk)) hg hm hkp (binds_of hb) .nil pass0 pt hdb he hpl
theorem e_abs (ha : DE X O e f) (hm : X.mg "abs" = none) (hg : Gl X "abs" := by rfl) (hs : starEach (e :: []) X.env = (false, eval e X.env) :: starEach [] X.env := by rfl) (hpl : (backTo pos (starEach [] X.env)).any (·.1) = false := by rfl) :
    DE X O (.Call (.Name "abs" p) [e] [] pos) (o1 absD f) := de_bi bi_abs (DE_r ha) fun t pt => pe_callB call_abs hg hm (by decide +kernel) (pa_one pt hs) (by decide) (by decide) hs hpl
theorem e_len (ha : DR X O e f) (hm : X.mg "len" = none) (hg : Gl X "len" := by rfl) (hs : starEach (e :: []) X.env = (false, eval e X.env) :: starEach [] X.env := by rfl) (hpl : (backTo pos (starEach [] X.env)).any (·.1) = false := by rfl) :
    DE X O (.Call (.Name "len" p) [e] [] pos) (o1 lenD f) := de_bi bi_len ha fun t pt => pe_callB call_len_seq hg hm (by decide +kernel) (pa_one pt hs) (by decide) (by decide) hs hpl
theorem e_sum (ha : DR X O e f) (hm : X.mg "sum" = none) (hc : X.calm = true := by rfl) (hg : Gl X "sum" := by rfl) (hs : starEach (e :: []) X.env = (false, eval e X.env) :: starEach [] X.env := by rfl) (hpl : (backTo pos (starEach [] X.env)).any (·.1) = false := by rfl) :
    DE X O (.Call (.Name "sum" p) [e] [] pos) (o1 sumD f) := de_bi bi_sum ha fun t pt => pe_callB (cr_sum hc) hg hm (by decide +kernel) (pa_one pt hs) (by decide) (by decide) hs hpl
theorem e_min (ha : DR X O e f) (hm : X.mg "min" = none) (hc : X.calm = true := by rfl) (hg : Gl X "min" := by rfl) (hs : starEach (e :: []) X.env = (false, eval e X.env) :: starEach [] X.env := by rfl) (hpl : (backTo pos (starEach [] X.env)).any (·.1) = false := by rfl) :
    DE X O (.Call (.Name "min" p) [e] [] pos) (o1 minD f) := de_bi bi_min ha fun t pt => pe_callB (cr_min hc) hg hm (by decide +kernel) (pa_one pt hs) (by decide) (by decide) hs hpl
theorem e_max (ha : DR X O e f) (hm : X.mg "max" = none) (hc : X.calm = true := by rfl) (hg : Gl X "max" := by rfl) (hs : starEach (e :: []) X.env = (false, eval e X.env) :: starEach [] X.env := by rfl) (hpl : (backTo pos (starEach [] X.env)).any (·.1) = false := by rfl) :
    DE X O (.Call (.Name "max" p) [e] [] pos) (o1 maxD f) := de_bi bi_max ha fun t pt => pe_callB (cr_max hc) hg hm (by decide +kernel) (pa_one pt hs) (by decide) (by decide) hs hpl
theorem e_min2 (ha : DE X O a1 f) (hb : DE X O a2 g) (hm : X.mg "min" = none) (hc : X.calm = true := by rfl) (hg : Gl X "min" := by rfl) (hs : starEach (a1 :: [a2]) X.env = (false, eval a1 X.env) :: starEach [a2] X.env := by rfl) (hs2 : starEach (a2 :: []) X.env = (false, eval a2 X.env) :: starEach [] X.env := by rfl)
    (hpl : (backTo pos (starEach [a2] X.env)).any (·.1) = false := by rfl) : DE X O (.Call (.Name "min" p) [a1, a2] [] pos) (o2 min2D f g) := de_min2 ha hb hs hs2 fun t pt => pe_callB (call_min2 hc) hg hm (by decide +kernel) pt (by decide) (by decide) hs hpl
theorem e_max2 (ha : DE X O a1 f) (hb : DE X O a2 g) (hm : X.mg "max" = none) (hc : X.calm = true := by rfl) (hg : Gl X "max" := by rfl) (hs : starEach (a1 :: [a2]) X.env = (false, eval a1 X.env) :: starEach [a2] X.env := by rfl) (hs2 : starEach (a2 :: []) X.env = (false, eval a2 X.env) :: starEach [] X.env := by rfl)
    (hpl : (backTo pos (starEach [a2] X.env)).any (·.1) = false := by rfl) : DE X O (.Call (.Name "max" p) [a1, a2] [] pos) (o2 max2D f g) := de_max2 ha hb hs hs2 fun t pt => pe_callB (call_max2 hc) hg hm (by decide +kernel) pt (by decide) (by decide) hs hpl
theorem e_int (ha : DE X O e f) (hm : X.mg "int" = none) (hg : Gl X "int" := by rfl) (hs : starEach (e :: []) X.env = (false, eval e X.env) :: starEach [] X.env := by rfl) (hpl : (backTo pos (starEach [] X.env)).any (·.1) = false := by rfl) :
    DE X O (.Call (.Name "int" p) [e] [] pos) (o1 toIntD f) := de_bi bi_int (DE_r ha) fun t pt => pe_callTy call_int1 hg hm (by decide +kernel) (pa_one pt hs) (by decide) (by decide) hs hpl
theorem n_list (ha : DR X O e f) (hm : X.mg "list" = none) (hg : Gl X "list" := by rfl) (hs : starEach (e :: []) X.env = (false, eval e X.env) :: starEach [] X.env := by rfl) (hpl : (backTo pos (starEach [] X.env)).any (·.1) = false := by rfl) :
    DN X O (.Call (.Name "list" p) [e] [] pos) (o1L listD f) := dn_bi bi_list ha fun t pt => pe_callTy call_list_of hg hm (by decide +kernel) (pa_one pt hs) (by decide) (by decide) hs hpl
/-- isinstance(e, T) -/
theorem e_isi (T : String) {xT : Str} (ha : DR X O e f) (hm : X.mg "isinstance" = none) (hmT : X.mg xT = none) (hv : bootBuiltins xT = some (.type T) := by decide +kernel) (hg : Gl X "isinstance" := by rfl) (hgT : Gl X xT := by rfl)
    (hn : xT ≠ "__name__" := by decide) (hd : (xT == ("__debug__" : Str)) = false := by decide)
    (hs : starEach (e :: [.Name xT p1]) X.env = (false, eval e X.env) :: starEach [.Name xT p1] X.env := by rfl) (hs2 : starEach (.Name xT p1 :: []) X.env = (false, eval (.Name xT p1) X.env) :: starEach [] X.env := by rfl)
    (hpl : (backTo pos (starEach [.Name xT p1] X.env)).any (·.1) = false := by rfl) : DE X O (.Call (.Name "isinstance" p) [e, .Name xT p1] [] pos) (o1 (isiD T) f) :=
  de_isi ha fun t pt => pe_callB call_isi hg hm (by decide +kernel) (pa_cons pt (pa_cons (pe_bltn hgT hmT hv rfl hn hd) pa_nil hs2) hs) (by decide) (by decide) hs hpl

theorem c_eq {k : Nat} (hr : Room k X.A) (ha : DR X O a1 f) (hb : DR X O a2 g) : DC X O .Eq a1 a2 (o2 eqD f g) := dc_eq hr.units ha hb
theorem c_ne {k : Nat} (hr : Room k X.A) (ha : DR X O a1 f) (hb : DR X O a2 g) : DC X O .NotEq a1 a2 (o2 neD f g) := dc_ne hr.units ha hb
theorem c_in {k : Nat} (hr : Room k X.A) (ha : DR X O a1 f) (hb : DR X O a2 g) : DC X O .In a1 a2 (o2 inD f g) := dc_in (by have := hr.un; omega) ha hb
theorem c_nin {k : Nat} (hr : Room k X.A) (ha : DR X O a1 f) (hb : DR X O a2 g) : DC X O .NotIn a1 a2 (o2 ninD f g) := dc_nin (by have := hr.un; omega) ha hb
theorem e_cmp {op : CmpOp} (h : DC X O op a1 a2 f) (hm : behindInMarks op a2 = false := by first | exact nomark _ | rfl) : DE X O (.Compare a1 [op] [a2] pos) f := de_cmp h hm
theorem t_cmp {op : CmpOp} (h : DC X O op a1 a2 f) (hm : behindInMarks op a2 = false := by first | exact nomark _ | rfl) : DT X O (.Compare a1 [op] [a2] pos) (tb f) := dt_cmp h hm

theorem s_set (i : Nat) (hN : X.N.Nodup) (he : DE X O e f) (hO : dropO O i = O2 := by rfl) (hi : X.N[i]? = some x := by rfl) (hx : Loc X.env.scope x := by first | exact Or.inl rfl | exact Or.inr rfl) (hs : swapsWith e (some (.Name x py)) pos.line X.env = pure false := by rfl)
    (hf : X.fn x = true ∨ X.env.scope.names.lookup x = some .local := by exact Or.inl rfl) : DS X RO O O2 LB (.Assign [.Name x py] e pos) (setF i f) := hO ▸ ds_set i he fun t pt => ps_set hN hi hx pt hs hf
theorem s_setN (i : Nat) (hN : X.N.Nodup) (he : DN X O e fa) (hO : i :: dropO O i = O2 := by rfl) (hi : X.N[i]? = some x := by rfl) (hx : Loc X.env.scope x := by first | exact Or.inl rfl | exact Or.inr rfl) (hs : swapsWith e (some (.Name x py)) pos.line X.env = pure false := by rfl)
    (hf : X.fn x = true ∨ X.env.scope.names.lookup x = some .local := by exact Or.inl rfl) : DS X RO O O2 LB (.Assign [.Name x py] e pos) (setL i fa) := hO ▸ ds_setN i he fun t pt => ps_set hN hi hx pt hs hf
theorem s_par (i j : Nat) {kt k2 : Nat} {pt pt2 : Pos} (hN : X.N.Nodup) (ha : DE X O a1 f) (hb : DE X O a2 g) (hO : dropO (dropO O i) j = O2 := by rfl) (hc : X.calm = true := by rfl) (hi : X.N[i]? = some x := by rfl) (hj : X.N[j]? = some y := by rfl) (hij : i ≠ j := by decide)
    (hx : X.env.scope.names.lookup x = some .local := by rfl) (hy : X.env.scope.names.lookup y = some .local := by rfl)
    (hw : swappedStores [.Tuple [.Name x p1, .Name y p2] kt pt] (.Tuple [a1, a2] k2 pt2) X.env = pure (some [x, y]) := by rfl)
    (hsw : swapsWithSole [.Tuple [.Name x p1, .Name y p2] kt pt] (.Tuple [a1, a2] k2 pt2) pos.line X.env = pure false := by rfl)
    (hs : starEach (a1 :: [a2]) X.env = (false, eval a1 X.env) :: starEach [a2] X.env := by rfl) (hs2 : starEach (a2 :: []) X.env = (false, eval a2 X.env) :: starEach [] X.env := by rfl) :
    DS X RO O O2 LB (.Assign [.Tuple [.Name x p1, .Name y p2] kt pt] (.Tuple [a1, a2] k2 pt2) pos) (parF i j f g) := hO ▸ ds_par i j ha hb hs hs2 fun t pt => ps_par hc hN hi hj hij hx hy pt hw hsw

theorem s_while (fuel : Rho → Nat) {c : BF} {b : SF} (hc : DT X O e c) (hb : DSs X RO O O O xs b) (hx : PassesOwn (model X.prog X.w) X.A X.env X.xe := by exact PassesOwn.never) : DS X RO O O LB (.While e xs [] pos) (whileF fuel c b) :=
  ds_while fuel hc hb fun t u pt pu => ps_while hx pt pu
theorem s_for {it : AF} {tg iter : Expr} {g : TgF} {b : SF} (hi : DI X O tg iter it) (hg : DG X O O1 tg g) (hb : DSs X RO O1 O O xs b) (hx : PassesOwn (model X.prog X.w) X.A X.env X.xe := by exact PassesOwn.never) (hc : X.calm = true := by rfl)
    (hs : ∀ x, foldedSetIterable iter X.env x = pure x := by intro _; rfl) : DS X RO O O LB (.For tg iter xs [] pos) (forF it g b) := ds_for hi hg hb fun wi t u p1 p2 p3 => ps_for hx hc p1 p2 p3 hs
theorem g_name (i : Nat) (hN : X.N.Nodup) (hO : dropO O i = O2 := by rfl) (hi : X.N[i]? = some x := by rfl) (hx : Loc X.env.scope x := by first | exact Or.inl rfl | exact Or.inr rfl) (hf : X.fn x = true ∨ X.env.scope.names.lookup x = some .local := by first | exact Or.inl rfl | exact Or.inr rfl) :
    DG X O O2 (.Name x pos) (nameG i) := hO ▸ dg_name i (pg_name hN hi hx hf)
theorem gs_nil : DGs X O O [] nilG := dgs_nil
theorem gs_cons {g : TgF} {r : TgsF} (h1 : DG X O O1 e g) (h2 : DGs X O1 O2 es r) (hs : (assignEach (e :: es) X.env).map (·.2) = assign e X.env :: (assignEach es X.env).map (·.2) := by rfl) : DGs X O O2 (e :: es) (consG g r) := dgs_cons h1 h2 fun t u p q => pgs_cons p q hs
theorem g_tup {n k : Nat} {g : TgsF} (h : DGs X O O2 es g) (hc : X.calm = true := by rfl) (hn : (assignEach es X.env).length = n := by rfl) (hst : (assignEach es X.env).findIdx? (·.1) = none := by rfl) : DG X O O2 (.Tuple es k pos) (tupG n g) := dg_tup h fun t q => pg_tup hc q hn hst
theorem i_list {tg : Expr} (h : DE X O e f) : DI X O tg e (itemsF f) := di_list h
theorem i_rng1 {tg : Expr} (h : DE X O e f) (hm : X.mg "range" = none) (hg : Gl X "range" := by rfl) (hs : starEach [e] X.env = [(false, eval e X.env)] := by rfl) (hs1 : starEach (e :: []) X.env = (false, eval e X.env) :: starEach [] X.env := by rfl) :
    DI X O tg (.Call (.Name "range" p) [e] [] pos) (rng1F f) := di_range1 h (fun t pt => pi_range1 hg hm pt hs) hs1
theorem i_rng2 {tg : Expr} (ha : DE X O a1 f) (hb : DE X O a2 g) (hm : X.mg "range" = none) (hg : Gl X "range" := by rfl) (hs : starEach [a1, a2] X.env = [(false, eval a1 X.env), (false, eval a2 X.env)] := by rfl) (hs2 : starEach [a2] X.env = [(false, eval a2 X.env)] := by rfl)
    (hs1 : starEach (a1 :: [a2]) X.env = (false, eval a1 X.env) :: starEach [a2] X.env := by rfl) (hs3 : starEach (a2 :: []) X.env = (false, eval a2 X.env) :: starEach [] X.env := by rfl) :
    DI X O tg (.Call (.Name "range" p) [a1, a2] [] pos) (rng2F f g) := di_range2 ha hb (fun t pt => pi_range2 hg hm pt hs hs2) hs1 hs3
theorem i_enum {elts : List Expr} {kk : Nat} {tpos : Pos} (h : DE X O e f) (hm : X.mg "enumerate" = none) (hg : Gl X "enumerate" := by rfl) (hs : starEach [e] X.env = [(false, eval e X.env)] := by rfl) (hs1 : starEach (e :: []) X.env = (false, eval e X.env) :: starEach [] X.env := by rfl) :
    DI X O (.Tuple elts kk tpos) (.Call (.Name "enumerate" p) [e] [] pos) (enumF f) := di_enum h (fun t pt => pi_enum hg hm pt hs) hs1
theorem i_zip {elts : List Expr} {kk : Nat} {tpos : Pos} (ha : DE X O a1 f) (hb : DE X O a2 g) (hm : X.mg "zip" = none) (hg : Gl X "zip" := by rfl)
    (hs1 : starEach (a1 :: [a2]) X.env = (false, eval a1 X.env) :: starEach [a2] X.env := by rfl) (hs3 : starEach (a2 :: []) X.env = (false, eval a2 X.env) :: starEach [] X.env := by rfl) (hpl : (backTo pos (starEach [a2] X.env)).any (·.1) = false := by rfl) :
    DI X O (.Tuple elts kk tpos) (.Call (.Name "zip" p) [a1, a2] [] pos) (zipF f g) := di_zip ha hb (fun t pt => pi_zip hg hm pt hs1 hpl) hs1 hs3
/-- a, b = e -/
theorem s_asg {es : List Expr} {kt : Nat} {pt : Pos} {n : Nat} {g : TgsF} (he : DE X O e f) (hg : DGs X O O2 es g) (hc : X.calm = true := by rfl) (hn : (assignEach es X.env).length = n := by rfl) (hst : (assignEach es X.env).findIdx? (·.1) = none := by rfl)
    (hs : swapsWithSole [.Tuple es kt pt] e pos.line X.env = pure false := by rfl) (hw : swappedStores [.Tuple es kt pt] e X.env = pure none := by rfl) :
    DS X RO O O2 LB (.Assign [.Tuple es kt pt] e pos) (asgF f (tupG n g)) := ds_asg he (dg_tup hg fun t q => pg_tup hc q hn hst) fun t u p q => ps_asg p q hs hw
theorem s_app (i : Nat) {ap cp : Pos} (he : DE X O e f) (hO : O.contains i = true := by rfl) (hN : X.N[i]? = some x := by rfl) (hv : Vis X.env.scope x := by first | exact Or.inl rfl | exact Or.inr (Or.inl rfl) | exact Or.inr (Or.inr rfl))
    (hd : (x == ("__debug__" : Str)) = false := by decide) (hcd : (x == ("__classdict__" : Str)) = false := by decide) (hs1 : starEach (e :: []) X.env = (false, eval e X.env) :: starEach [] X.env := by rfl)
    (hbase : attributeBase (.Name x p1) "append" X.env (eval (.Name x p1) X.env) = eval (.Name x p1) X.env := by rfl)
    (hfew : ((backTo cp (starEach (e :: []) X.env)).all (fun x => !x.1) && (backToKw cp (keywordEach [] X.env)).all (fun x => x.1.isSome)
      && decide ((e :: []).length + ([] : List Keyword).length + (if ([] : List Keyword).isEmpty then 0 else 1) < 30)) = true := by rfl)
    (hline : (ap.endLine == cp.line) = true := by rfl) (hplain : (backTo cp (starEach [] X.env)).any (·.1) = false := by rfl)
    (hsw : swapsWith (.Call (.Attribute (.Name x p1) "append" ap) [e] [] cp) none spos.line X.env = pure false := by rfl) :
    DS X RO O O LB (.Expr (.Call (.Attribute (.Name x p1) "append" ap) [e] [] cp) spos) (appF i f) :=
  ds_append i hO (pe_var hN hv hd hcd) he hs1 fun t u pt pu => ps_expr (pe_bm PySem.F.plainAttrs_list PySem.F.slot_list_append PySem.F.type_list_append mt_append pt pu hbase hfew hline hs1 hplain) hsw
theorem s_pop (i : Nat) {ap cp : Pos} (hO : O.contains i = true := by rfl) (hN : X.N[i]? = some x := by rfl) (hv : Vis X.env.scope x := by first | exact Or.inl rfl | exact Or.inr (Or.inl rfl) | exact Or.inr (Or.inr rfl))
    (hd : (x == ("__debug__" : Str)) = false := by decide) (hcd : (x == ("__classdict__" : Str)) = false := by decide)
    (hbase : attributeBase (.Name x p1) "pop" X.env (eval (.Name x p1) X.env) = eval (.Name x p1) X.env := by rfl)
    (hline : (ap.endLine == cp.line) = true := by rfl) (hsw : swapsWith (.Call (.Attribute (.Name x p1) "pop" ap) [] [] cp) none spos.line X.env = pure false := by rfl) :
    DS X RO O O LB (.Expr (.Call (.Attribute (.Name x p1) "pop" ap) [] [] cp) spos) (popF i) :=
  ds_pop i hO (pe_var hN hv hd hcd) fun t pt => ps_expr (pe_bm0 PySem.F.plainAttrs_list PySem.F.slot_list_pop PySem.F.type_list_pop mt_pop pt hbase hline) hsw
theorem s_clear (i : Nat) {ap cp : Pos} (hO : O.contains i = true := by rfl) (hN : X.N[i]? = some x := by rfl) (hv : Vis X.env.scope x := by first | exact Or.inl rfl | exact Or.inr (Or.inl rfl) | exact Or.inr (Or.inr rfl))
    (hd : (x == ("__debug__" : Str)) = false := by decide) (hcd : (x == ("__classdict__" : Str)) = false := by decide)
    (hbase : attributeBase (.Name x p1) "clear" X.env (eval (.Name x p1) X.env) = eval (.Name x p1) X.env := by rfl)
    (hline : (ap.endLine == cp.line) = true := by rfl) (hsw : swapsWith (.Call (.Attribute (.Name x p1) "clear" ap) [] [] cp) none spos.line X.env = pure false := by rfl) :
    DS X RO O O LB (.Expr (.Call (.Attribute (.Name x p1) "clear" ap) [] [] cp) spos) (clearF i) :=
  ds_clear i hO (pe_var hN hv hd hcd) fun t pt => ps_expr (pe_bm0 PySem.F.plainAttrs_list PySem.F.slot_list_clear PySem.F.type_list_clear mt_clear pt hbase hline) hsw
theorem s_put (i : Nat) (he : DE X O e f) (hk : DE X O a1 g) (hO : O.contains i = true := by rfl) (hN : X.N[i]? = some x := by rfl) (hv : Vis X.env.scope x := by first | exact Or.inl rfl | exact Or.inr (Or.inl rfl) | exact Or.inr (Or.inr rfl))
    (hd : (x == ("__debug__" : Str)) = false := by decide) (hcd : (x == ("__classdict__" : Str)) = false := by decide)
    (ha : ∀ v, assign (.Subscript (.Name x p1) a1 p2) X.env v = (do
      let ov ← holding [v] (eval (.Name x p1) X.env)
      let iv ← holding [v, ov] (eval a1 X.env)
      standAt p2
      holding [v, ov, iv] (setItem ov iv v)
      release [v, ov, iv] []) := by intro _; rfl)
    (hs : swapsWithSole [.Subscript (.Name x p1) a1 p2] e pos.line X.env = pure false := by rfl) (hw : swappedStores [.Subscript (.Name x p1) a1 p2] e X.env = pure none := by rfl) :
    DS X RO O O LB (.Assign [.Subscript (.Name x p1) a1 p2] e pos) (putF i f g) := ds_put i hO (pe_var hN hv hd hcd) he hk fun t u w pt pu pw => ps_asg pt (pg_sub pu pw set_list ha) hs hw
theorem s_retOwn (i : Nat) (hO : O.contains i = true := by rfl) (hN : X.N[i]? = some x := by rfl) (hv : Vis X.env.scope x := by first | exact Or.inl rfl | exact Or.inr (Or.inl rfl) | exact Or.inr (Or.inr rfl))
    (hd : (x == ("__debug__" : Str)) = false := by decide) (hcd : (x == ("__classdict__" : Str)) = false := by decide) : DS X true O O' LB (.Return (some (.Name x p2)) pos) (retV i) := ds_retOwn i hO (pe_var hN hv hd hcd)
/-- a bound for a loop that an int of slot i rules -/
def natAt (ρ : Rho) (i : Nat) : Nat := match getv ρ i with
  | some (.int k) => k.natAbs + 1
  | some (.list ds) => ds.length + 1
  | _ => 1
theorem s_setComp' (i : Nat) {elt tg iter : Expr} {ifs : List Expr} {scope : Scope} {it : AF} {g : TgF} {c : BF} {f : EF} {vs : List Nat} {tg' : TG} (hi : DI X O tg iter it) (hR : OwnR X.K O vs tg' g) (hc : InBlk X scope fun Y => DTs Y O ifs c) (he : InBlk X scope fun Y => DE Y O elt f)
    (hp : ∀ wi tt te, PI X tg iter wi → InBlk X scope (fun Y => PTs Y ifs tt) → InBlk X scope (fun Y => PE Y elt te) → PS X (.Assign [.Name y py] (.ListComp elt [⟨tg, iter, ifs, 0⟩] scope pos) spos) (tAsg (tLc wi tg' tt te vs) (gName i)))
    (hO : i :: dropO O i = O2 := by rfl) : DS X RO O O2 LB (.Assign [.Name y py] (.ListComp elt [⟨tg, iter, ifs, 0⟩] scope pos) spos) (setL i (compA vs it g c f)) := hO ▸ ds_setComp i hi hR hc he hp
end
end DL

/-! DL, part 7: the end of a law. -/
namespace DL
open PySem PySem.Spec PyProof.Rows L2
def intsL (ns : List Int) : D := .list (ns.map PyData.int)
theorem dpAll_ints {K : PySem.W.Frag} {H : Hp} : ∀ ns : List Int, DpAll K H (ns.map V.int) (ns.map PyData.int)
  | [] => .nil
  | n :: r => .cons (.int n) (dpAll_ints r)
theorem law_sp {K : PySem.W.Frag} {Fn : List D → Option D} {H : Hp} {a : Addr} {ns : List Int} (hS : SqL K H a (ns.map V.int)) (h : Fn [intsL ns] = some (.bool true)) : SpD K false 1 Fn [.ref a] H (fun v _ => v = .bl true) fun _ _ _ => False :=
  ⟨H, [intsL ns], .bool true, rfl, Same.refl H, .cons (.dat (.lst hS (dpAll_ints ns))) .nil, h, fun v H' F' _ r => Rep.bl_inv r⟩
/-- what walk_ofE asks of F -/
theorem law_end {P : Program} {w : World} {K : PySem.W.Frag} {mg : Str → Option Value} {h : Heap} {fa : Addr} {k : Nat} {x : Str} {Fn : List D → Option D} {n : Nat} (KX : K.In h) (hfa : mg ("law" : Str) = some (.ref fa))
    (D0 : DefOk P w K mg "law" k [x] false Fn) (ht : ∀ ns : List Int, ns.length ≤ n → Fn [intsL ns] = some (.bool true)) :
    ∃ (K : PySem.W.Frag) (fd : FuncData) (sp : Sp), K.In h ∧ (∀ (s : Shared) (u : Value), BindsTo s fd ⟨[u], []⟩ [(x, u)]) ∧
      (∀ (H : Hp) (a : Addr) (ns : List Int), ns.length ≤ n → Only H → SqL K H a (ns.map V.int) → sp [.ref a] H (fun v _ => v = .bl true) fun _ _ _ => False) ∧
      ∀ base : Heap, K.In base → base.Ns mainGlobals mg → FnOk P w K mg base CX0 k fa fd [x] sp := by
  obtain ⟨fa0, fd0, hm0, hk0, hb0, hF0⟩ := D0
  have e0 := hfa.symm.trans hm0
  cases e0
  exact ⟨K, fd0, SpD K false 1 Fn, KX, fun s u => hb0 s [u] rfl, fun H a ns hl _ hS => law_sp hS (ht ns hl), fun base _ _ => hF0 base⟩
end DL

/-! DL, part 8: evaluation of the semantic words; sizes; fractions as Rat. -/
namespace DL
open PySem PySem.Spec PyProof.Rows L2

/-! ### evaluation -/
@[simp] theorem vE_0 {a : Option D} {r : Rho} : vE 0 (a :: r) = a := by cases a <;> rfl
@[simp] theorem vE_s {a : Option D} {r : Rho} {i : Nat} : vE (i + 1) (a :: r) = vE i r := rfl
@[simp] theorem vE_1 {a b : Option D} {r : Rho} : vE 1 (a :: b :: r) = b := by cases b <;> rfl
@[simp] theorem vE_2 {a b c : Option D} {r : Rho} : vE 2 (a :: b :: c :: r) = c := by cases c <;> rfl
@[simp] theorem vE_3 {a b c d : Option D} {r : Rho} : vE 3 (a :: b :: c :: d :: r) = d := by cases d <;> rfl
@[simp] theorem vE_4 {a b c d e : Option D} {r : Rho} : vE 4 (a :: b :: c :: d :: e :: r) = e := by cases e <;> rfl
@[simp] theorem vE_5 {a b c d e f : Option D} {r : Rho} : vE 5 (a :: b :: c :: d :: e :: f :: r) = f := by cases f <;> rfl
@[simp] theorem vE_6 {a b c d e f g : Option D} {r : Rho} : vE 6 (a :: b :: c :: d :: e :: f :: g :: r) = g := by cases g <;> rfl
@[simp] theorem vE_7 {a b c d e f g h : Option D} {r : Rho} : vE 7 (a :: b :: c :: d :: e :: f :: g :: h :: r) = h := by cases h <;> rfl
@[simp] theorem vE_8 {a b c d e f g h i : Option D} {r : Rho} : vE 8 (a :: b :: c :: d :: e :: f :: g :: h :: i :: r) = i := by cases i <;> rfl
@[simp] theorem getv_0 {a : Option D} {r : Rho} : getv (a :: r) 0 = a := by cases a <;> rfl
@[simp] theorem getv_s {a : Option D} {r : Rho} {i : Nat} : getv (a :: r) (i + 1) = getv r i := rfl
@[simp] theorem getv_1 {a b : Option D} {r : Rho} : getv (a :: b :: r) 1 = b := vE_1
@[simp] theorem getv_2 {a b c : Option D} {r : Rho} : getv (a :: b :: c :: r) 2 = c := vE_2
@[simp] theorem getv_3 {a b c d : Option D} {r : Rho} : getv (a :: b :: c :: d :: r) 3 = d := vE_3
@[simp] theorem getv_4 {a b c d e : Option D} {r : Rho} : getv (a :: b :: c :: d :: e :: r) 4 = e := vE_4
@[simp] theorem getv_5 {a b c d e f : Option D} {r : Rho} : getv (a :: b :: c :: d :: e :: f :: r) 5 = f := vE_5
@[simp] theorem getv_6 {a b c d e f g : Option D} {r : Rho} : getv (a :: b :: c :: d :: e :: f :: g :: r) 6 = g := vE_6
@[simp] theorem getv_7 {a b c d e f g h : Option D} {r : Rho} : getv (a :: b :: c :: d :: e :: f :: g :: h :: r) 7 = h := vE_7
@[simp] theorem getv_8 {a b c d e f g h i : Option D} {r : Rho} : getv (a :: b :: c :: d :: e :: f :: g :: h :: i :: r) 8 = i := vE_8
@[simp] theorem cE_e {d : D} {r : Rho} : cE d r = some d := rfl
@[simp] theorem o2_e {op : D → D → Option D} {f g : EF} {r : Rho} : o2 op f g r = (f r).bind fun x => (g r).bind fun y => op x y := rfl
@[simp] theorem o1_e {op : D → Option D} {f : EF} {r : Rho} : o1 op f r = (f r).bind op := rfl
@[simp] theorem addD_i {a b : Int} : addD (.int a) (.int b) = some (.int (a + b)) := rfl
@[simp] theorem subD_i {a b : Int} : subD (.int a) (.int b) = some (.int (a - b)) := rfl
@[simp] theorem absD_i {a : Int} : absD (.int a) = some (.int a.natAbs) := by
  simp only [absD, Option.some.injEq, PyData.int.injEq]
  split <;> omega
@[simp] theorem negD_i {a : Int} : negD (.int a) = some (.int (-a)) := rfl
@[simp] theorem ltD_i {a b : Int} : ltD (.int a) (.int b) = some (.bool (decide (a < b))) := rfl
@[simp] theorem leD_i {a b : Int} : leD (.int a) (.int b) = some (.bool (decide (a ≤ b))) := rfl
@[simp] theorem gtD_i {a b : Int} : gtD (.int a) (.int b) = some (.bool (decide (b < a))) := rfl
@[simp] theorem geD_i {a b : Int} : geD (.int a) (.int b) = some (.bool (decide (b ≤ a))) := rfl
theorem shaped_int {i : Int} : SeqAt.shaped (.int i) = true := rfl
theorem shaped_bool {i : Bool} : SeqAt.shaped (.bool i) = true := rfl
@[simp] theorem eqD_i {a b : Int} : eqD (.int a) (.int b) = some (.bool (decide (a = b))) := by
  unfold eqD
  rw [if_pos ⟨rfl, rfl⟩]
  simp [PyData.eqv, Bool.beq_eq_decide_eq]
@[simp] theorem neD_i {a b : Int} : neD (.int a) (.int b) = some (.bool (!decide (a = b))) := by
  unfold neD
  rw [if_pos ⟨rfl, rfl⟩]
  simp [PyData.eqv, Bool.beq_eq_decide_eq]
@[simp] theorem neD_b {a b : Bool} : neD (.bool a) (.bool b) = some (.bool (!decide (a = b))) := by
  unfold neD
  rw [if_pos ⟨rfl, rfl⟩]
  simp [PyData.eqv, Bool.beq_eq_decide_eq]
@[simp] theorem eqD_b {a b : Bool} : eqD (.bool a) (.bool b) = some (.bool (decide (a = b))) := by
  unfold eqD
  rw [if_pos ⟨rfl, rfl⟩]
  simp [PyData.eqv, Bool.beq_eq_decide_eq]
@[simp] theorem mulD_i {a b : Int} (h : mulB a b = true) : mulD (.int a) (.int b) = some (.int (a * b)) := by simp [mulD, h]
@[simp] theorem fdivD_i {a b : Int} (h : divB a b = true) : fdivD (.int a) (.int b) = some (.int (a.fdiv b)) := by simp [fdivD, h]
theorem modD_i {a b : Int} (h : b ≠ 0) : modD (.int a) (.int b) = some (.int (a.fmod b)) := by simp [modD, h]
@[simp] theorem modD_pos {a b : Int} (h : 0 < b) : modD (.int a) (.int b) = some (.int (a % b)) := by
  rw [modD_i (by omega), Int.fmod_eq_emod_of_nonneg a (by omega)]
theorem fdivD_pos {a b : Int} (h : 0 < b) (h2 : b.natAbs < 2 ^ 9000) : fdivD (.int a) (.int b) = some (.int (a / b)) := by
  rw [fdivD_i, Int.fdiv_eq_ediv_of_nonneg a (by omega)]
  unfold divB
  rw [PyProof.noPylong_of_log2 ((Nat.log2_lt (by omega)).mpr h2)]
  simp; omega
@[simp] theorem skipF_e {r : Rho} : skipF r = some (.nx r) := rfl
@[simp] theorem ifF_e {c : BF} {a b : SF} {r : Rho} : ifF c a b r = (c r).bind fun k => if k = true then a r else b r := rfl
@[simp] theorem seqF_e {a b : SF} {r : Rho} : seqF a b r = (a r).bind fun x => match x with
  | .nx ρ' => b ρ'
  | x => some x := rfl
@[simp] theorem setF_e {i : Nat} {f : EF} {r : Rho} : setF i f r = (f r).map fun d => .nx (r.set i (some d)) := rfl
@[simp] theorem setL_e {i : Nat} {f : AF} {r : Rho} : setL i f r = (f r).map fun d => .nx (r.set i (some (.list d))) := rfl
@[simp] theorem retF_e {f : EF} {r : Rho} : retF f r = (f r).map .rt := rfl
@[simp] theorem retL_e {f : AF} {r : Rho} : retL f r = (f r).map fun ds => .rt (.list ds) := rfl
@[simp] theorem neverF_e {r : Rho} : neverF r = none := rfl
@[simp] theorem consA_e {f : EF} {g : AF} {r : Rho} : consA f g r = (f r).bind fun x => (g r).bind fun xs => some (x :: xs) := rfl
@[simp] theorem callE_e {Fn : List D → Option D} {fa : AF} {r : Rho} : callE Fn fa r = (fa r).bind Fn := rfl
@[simp] theorem lE_e {fa : AF} {r : Rho} : lE fa r = (fa r).map .list := rfl
@[simp] theorem tb_e {f : EF} {r : Rho} : tb f r = match f r with
  | some (.bool b) => some b
  | _ => none := rfl
@[simp] theorem parF_e {i j : Nat} {f g : EF} {r : Rho} : parF i j f g r = (f r).bind fun x => (g r).bind fun y => some (.nx ((r.set i (some x)).set j (some y))) := rfl
@[simp] theorem andB_e {f g : BF} {r : Rho} : andB f g r = (f r).bind fun b => if b = true then g r else some false := rfl
@[simp] theorem orB_e {f g : BF} {r : Rho} : orB f g r = (f r).bind fun b => if b = true then some true else g r := rfl
@[simp] theorem notB_e {f : BF} {r : Rho} : notB f r = (f r).map fun b => !b := rfl
@[simp] theorem andE_e {f g : EF} {r : Rho} : andE f g r = (tb f r).bind fun b => if b = true then g r else some (.bool false) := rfl
@[simp] theorem orE_e {f g : EF} {r : Rho} : orE f g r = (tb f r).bind fun b => if b = true then some (.bool true) else g r := rfl
@[simp] theorem notE_e {f : EF} {r : Rho} : notE f r = (tb f r).map fun b => .bool (!b) := rfl
@[simp] theorem yesB_e {r : Rho} : yesB r = some true := rfl
@[simp] theorem tupE_e {fa : AF} {r : Rho} : tupE fa r = (fa r).bind fun ds => if ds.all plainD = true ∧ ds.length ≤ sizeLine then some (.tuple ds) else none := rfl
@[simp] theorem lstA_e {fa : AF} {r : Rho} : lstA fa r = (fa r).bind fun ds => if ds.all plainD = true ∧ ds.length ≤ sizeLine then some ds else none := rfl
@[simp] theorem asgF_e {f : EF} {g : TgF} {r : Rho} : asgF f g r = (f r).bind fun d => (g d r).map .nx := rfl
@[simp] theorem nameG_e {i : Nat} {d : D} {r : Rho} : nameG i d r = some (r.set i (some d)) := rfl
@[simp] theorem tupG_e {n : Nat} {g : TgsF} {ds : List D} {r : Rho} : tupG n g (.tuple ds) r = if ds.length = n then g ds r else none := rfl
@[simp] theorem consG_e {g : TgF} {h : TgsF} {d : D} {ds : List D} {r : Rho} : consG g h (d :: ds) r = (g d r).bind fun r1 => h ds r1 := rfl
@[simp] theorem nilG_e {r : Rho} : nilG [] r = some r := rfl
@[simp] theorem plain_int {i : Int} : plainD (.int i) = true := rfl
@[simp] theorem plain_bool {i : Bool} : plainD (.bool i) = true := rfl
@[simp] theorem plain_tup {ds : List D} : plainD (.tuple ds) = true := rfl
@[simp] theorem plain_lst {ds : List D} : plainD (.list ds) = true := rfl
@[simp] theorem plain_none : plainD .none = true := rfl
@[simp] theorem le_line1 : (1 ≤ sizeLine) = True := eq_true (by decide)
@[simp] theorem le_line2 : (2 ≤ sizeLine) = True := eq_true (by decide)
@[simp] theorem le_line3 : (3 ≤ sizeLine) = True := eq_true (by decide)
@[simp] theorem le_line4 : (4 ≤ sizeLine) = True := eq_true (by decide)
@[simp] theorem le_line5 : (5 ≤ sizeLine) = True := eq_true (by decide)
@[simp] theorem le_line6 : (6 ≤ sizeLine) = True := eq_true (by decide)
@[simp] theorem startR_e {n : Nat} {ds : List D} : startR n ds = ds.map some ++ List.replicate (n - ds.length) none := rfl
@[simp] theorem nilA_e {r : Rho} : nilA r = some [] := rfl
theorem callL_some {Fn : List D → Option D} {fa : AF} {r : Rho} {xs ds : List D} (h : fa r = some xs) (h2 : Fn xs = some (.list ds)) : callL Fn fa r = some ds := by unfold callL; rw [h]; simp [h2]
@[simp] theorem atI_0 {α : Type} {a : α} {r : List α} : atI (a :: r) 0 = some a := by simp [atI, ixN]
@[simp] theorem atI_1 {α : Type} {a b : α} {r : List α} : atI (a :: b :: r) 1 = some b := by
  have h : (1 : Int) < ((a :: b :: r).length : Int) := by simp; omega
  have : ixN (a :: b :: r).length 1 = some 1 := by unfold ixN; rw [if_pos (by omega), if_pos h]; rfl
  unfold atI; rw [this]; rfl
@[simp] theorem atI_2 {α : Type} {a b c : α} {r : List α} : atI (a :: b :: c :: r) 2 = some c := by
  have h : (2 : Int) < ((a :: b :: c :: r).length : Int) := by simp; omega
  have : ixN (a :: b :: c :: r).length 2 = some 2 := by unfold ixN; rw [if_pos (by omega), if_pos h]; rfl
  unfold atI; rw [this]; rfl
@[simp] theorem ixD_l {ds : List D} {i : Int} : ixD (.list ds) (.int i) = atI ds i := rfl
@[simp] theorem ixD_t {ds : List D} {i : Int} : ixD (.tuple ds) (.int i) = atI ds i := rfl
theorem atI_lt {α : Type} {xs : List α} {i : Int} (h0 : 0 ≤ i) : atI xs i = xs[i.toNat]? := by
  unfold atI ixN
  rw [if_pos h0]
  by_cases h : i < xs.length
  · rw [if_pos h]; rfl
  · rw [if_neg h]
    exact (List.getElem?_eq_none (by omega)).symm
@[simp] theorem lenD_l {ds : List D} : lenD (.list ds) = some (.int ds.length) := rfl
@[simp] theorem lenD_t {ds : List D} : lenD (.tuple ds) = some (.int ds.length) := rfl
theorem small_size {n : Nat} (h : n ≤ 1000) : n ≤ sizeLine := Nat.le_trans h (by decide)
@[simp] theorem bodyFn_e {own : Bool} {n : Nat} {b : SF} {ds : List D} : bodyFn own n b ds = endD own (b (startR n ds)) := rfl
@[simp] theorem endD_map {own : Bool} {x : Option D} : endD own (Option.map Out.rt x) = x := by cases x <;> rfl
@[simp] theorem endD_rt {own : Bool} {d : D} : endD own (some (.rt d)) = some d := rfl

theorem fdivD_small {a b : Int} (h : 0 < b) (h2 : b < 2 ^ 250) : fdivD (.int a) (.int b) = some (.int (a / b)) := by
  refine fdivD_pos h ?_
  have : b.natAbs < 2 ^ 250 := by omega
  exact Nat.lt_of_lt_of_le this (Nat.pow_le_pow_right (by decide) (by decide))
@[simp] theorem fdivD_lit {a b : Int} (h : 0 < b) (h2 : b < 1809251394333065553493296640760748560207343510400633813116524750123642650624) : fdivD (.int a) (.int b) = some (.int (a / b)) := fdivD_small h (by simpa using h2)
theorem powD_e {a b : Int} : powD (.int a) (.int b) = if 0 ≤ b ∧ b ≤ 1000000 ∧ a.natAbs < 2 ^ 64 then some (.int (a ^ b.toNat)) else none := rfl
/-! ### loops -/
theorem forL_inv {g : TgF} {b : SF} (Inv : Nat → Rho → Prop) : ∀ (ds : List D) (k : Nat) (ρ : Rho), Inv k ρ →
    (∀ i d ρ, ds[i]? = some d → Inv (k + i) ρ → ∃ ρ1 r, g d ρ = some ρ1 ∧ b ρ1 = some r ∧ ∃ ρ2, (r = .nx ρ2 ∨ r = .ct ρ2) ∧ Inv (k + i + 1) ρ2) → ∃ ρ', forL g b ds ρ = some (.nx ρ') ∧ Inv (k + ds.length) ρ'
  | [], k, ρ, h, _ => ⟨ρ, rfl, h⟩
  | d :: ds, k, ρ, h, hs => by
    obtain ⟨ρ1, r, e1, e2, ρ2, e3, h2⟩ := hs 0 d ρ rfl h
    obtain ⟨ρ', q1, q2⟩ := forL_inv Inv ds (k + 1) ρ2 h2 fun i c τ hc hI => by
      have := hs (i + 1) c τ (by simpa using hc) (by rw [show k + (i + 1) = k + 1 + i by omega]; exact hI)
      rw [show k + (i + 1) + 1 = k + 1 + i + 1 by omega] at this
      exact this
    refine ⟨ρ', ?_, by rw [show k + (d :: ds).length = k + 1 + ds.length by simp; omega]; exact q2⟩
    unfold forL
    rw [e1, Option.bind_some, e2, Option.bind_some]
    rcases e3 with rfl | rfl <;> exact q1
@[simp] theorem forF_e {it : AF} {g : TgF} {b : SF} {r : Rho} : forF it g b r = (it r).bind fun ds => forL g b ds r := rfl
@[simp] theorem itemsF_e {f : EF} {r : Rho} : itemsF f r = match f r with
  | some (.list ds) => some ds
  | _ => none := rfl
@[simp] theorem enumF_e {f : EF} {r : Rho} : enumF f r = match f r with
  | some (.list ds) => some (enumL ds)
  | _ => none := rfl
@[simp] theorem rng1F_e {f : EF} {r : Rho} : rng1F f r = match f r with
  | some (.int j) => if -(2 ^ 62) ≤ j ∧ j < 2 ^ 62 then some (rngL 0 j.toNat) else none
  | _ => none := rfl
@[simp] theorem slA_e {f : EF} {lo hi : OF} {r : Rho} : slA f lo hi r = match f r with
  | some (.list ds) => (lo r).bind fun l => (hi r).bind fun h => some (cutD ds l h)
  | _ => none := rfl
@[simp] theorem partO_e {f : EF} {r : Rho} : partO f r = match f r with
  | some (.int i) => some (some i)
  | _ => none := rfl
@[simp] theorem isi_int_i {i : Int} : isiD "int" (.int i) = some (.bool true) := rfl
theorem kb1 : kitB "int" "bool" = some false := by decide +kernel
theorem kb2 : kitB "bool" "int" = some true := by decide +kernel
theorem kb3 : kitB "bool" "bool" = some true := by decide +kernel
theorem kb4 : kitB "tuple" "tuple" = some true := by decide +kernel
theorem kb5 : kitB "list" "list" = some true := by decide +kernel
@[simp] theorem isi_bool_i {i : Int} : isiD "bool" (.int i) = some (.bool false) := by simp [isiD, tyD, kb1]
@[simp] theorem isi_int_b {i : Bool} : isiD "int" (.bool i) = some (.bool true) := by simp [isiD, tyD, kb2]
@[simp] theorem isi_bool_b {i : Bool} : isiD "bool" (.bool i) = some (.bool true) := by simp [isiD, tyD, kb3]
@[simp] theorem isi_tup {ds : List D} : isiD "tuple" (.tuple ds) = some (.bool true) := by simp [isiD, tyD, kb4]
@[simp] theorem isi_lst {ds : List D} : isiD "list" (.list ds) = some (.bool true) := by simp [isiD, tyD, kb5]
theorem cutD_to {xs : List D} {n : Nat} : cutD xs none (some (n : Int)) = xs.take n := by
  unfold cutD
  simp only [HT.sIx_none, HT.sIx_nat, List.drop_zero, Nat.sub_zero]
  rw [List.take_eq_take_iff]; simp
theorem cutD_from {xs : List D} {n : Nat} : cutD xs (some (n : Int)) none = xs.drop n := by
  unfold cutD
  simp only [HT.sIx_none, HT.sIx_nat]
  by_cases h : n ≤ xs.length
  · rw [Nat.min_eq_left h, List.take_of_length_le (by simp)]
  · rw [Nat.min_eq_right (by omega), List.drop_of_length_le (Nat.le_refl _), List.drop_of_length_le (by omega)]; simp
/-! ### sizes -/
/-- below 2 ^ n in size -/
def Sz (n : Nat) (x : Int) : Prop := x.natAbs < 2 ^ n
theorem Sz.mono {m n : Nat} {x : Int} (h : Sz m x) (hmn : m ≤ n) : Sz n x := Nat.lt_of_lt_of_le h (Nat.pow_le_pow_right (by decide) hmn)
theorem Sz.mul {m n : Nat} {x y : Int} (hx : Sz m x) (hy : Sz n y) : Sz (m + n) (x * y) := by
  unfold Sz at *
  rw [Int.natAbs_mul, Nat.pow_add]
  exact Nat.mul_lt_mul'' hx hy
theorem Sz.add {m n : Nat} {x y : Int} (hx : Sz m x) (hy : Sz n y) : Sz (max m n + 1) (x + y) := by
  have h1 := hx.mono (Nat.le_max_left m n)
  have h2 := hy.mono (Nat.le_max_right m n)
  unfold Sz at *
  rw [Nat.pow_succ]
  omega
theorem Sz.sub {m n : Nat} {x y : Int} (hx : Sz m x) (hy : Sz n y) : Sz (max m n + 1) (x - y) := by
  have h1 := hx.mono (Nat.le_max_left m n)
  have h2 := hy.mono (Nat.le_max_right m n)
  unfold Sz at *
  rw [Nat.pow_succ]
  omega
theorem Sz.neg {n : Nat} {x : Int} (hx : Sz n x) : Sz n (-x) := by
  unfold Sz at *; rw [Int.natAbs_neg]; exact hx
theorem intBits_le {x : Int} {n : Nat} (h : Sz n x) : Builtin.Int.intBits x ≤ n := by
  unfold Builtin.Int.intBits
  split
  · omega
  · rename_i h0
    have : x.natAbs.log2 < n := (Nat.log2_lt (by simpa using h0)).mpr h
    omega
theorem mulB_sz {m n : Nat} {a b : Int} (ha : Sz m a) (hb : Sz n b) (h : m + n ≤ 100000000) : mulB a b = true := by
  have h1 := intBits_le ha
  have h2 := intBits_le hb
  unfold mulB Builtin.Int.intTooBig
  have : ¬ ((Builtin.Int.intBits a : Int) + (Builtin.Int.intBits b : Int) > (bitsLine : Int)) := by
    have : bitsLine = 134217728 := by decide
    omega
  simp only [Bool.not_eq_true', Bool.and_eq_false_iff]
  right
  simpa using this
theorem mulB_left {a b : Int} (h : Sz 64 a) : mulB a b = true := by
  have h1 := intBits_le h
  unfold mulB
  have : decide (Builtin.Int.intBits a > shortFactorBits) = false := decide_eq_false (by unfold shortFactorBits; omega)
  rw [this]; rfl
theorem mulB_right {a b : Int} (h : Sz 64 b) : mulB a b = true := by
  have h1 := intBits_le h
  unfold mulB
  have : decide (Builtin.Int.intBits b > shortFactorBits) = false := decide_eq_false (by unfold shortFactorBits; omega)
  rw [this]; simp

theorem sz_64 {x : Int} (h : x.natAbs < 18446744073709551616) : Sz 64 x := h
theorem mulB_l {a b : Int} (h : a.natAbs < 18446744073709551616) : mulB a b = true := mulB_left h
theorem mulB_r {a b : Int} (h : b.natAbs < 18446744073709551616) : mulB a b = true := mulB_right h
/-! ### fractions -/
def frQ (q : Rat) : D := .tuple [.int q.num, .int q.den]
@[simp] theorem plain_frQ {q : Rat} : plainD (frQ q) = true := rfl
theorem shaped_frQ {q : Rat} : SeqAt.shaped (frQ q) = true := rfl
theorem frQ_inj {p q : Rat} (h : frQ p = frQ q) : p = q := by
  unfold frQ at h
  simp at h
  exact Rat.ext h.1 (by omega)
theorem eqv_frQ {p q : Rat} : PyData.eqv (frQ p) (frQ q) = decide (p = q) := by
  unfold frQ
  simp only [PyData.eqv, PyData.eqvAll, Bool.and_true]
  by_cases h : p = q
  · subst h; simp
  · rw [decide_eq_false h]
    rw [Bool.and_eq_false_iff]
    by_cases hn : p.num = q.num
    · right
      have : p.den ≠ q.den := fun z => h (Rat.ext hn z)
      simp; omega
    · left
      simp [hn]
@[simp] theorem tupG_frQ {q : Rat} {g : TgsF} {r : Rho} : tupG 2 g (frQ q) r = g [.int q.num, .int q.den] r := by unfold frQ; simp
@[simp] theorem ix0_frQ {q : Rat} : ixD (frQ q) (.int 0) = some (.int q.num) := by unfold frQ; simp
@[simp] theorem ix1_frQ {q : Rat} : ixD (frQ q) (.int 1) = some (.int q.den) := by unfold frQ; simp
end DL

/-! DX, part 1: a caught exception is kept: from then on its object is tracked. -/
namespace DL
open PySem PySem.Spec PyProof.Rows L2
section
variable {X : Cx} {pins : List (Addr × Obj)} {σ : Sg} {H : Hp} {s : Shared}
/-- an object that was not there at the entry is tracked from now on -/
theorem track_old {a : Addr} {oe : Obj} {vs : Array Value} {C : Addr} (I : Inv X ((a, oe) :: pins) σ H s) (hz : Zc (.ref C) none oe) (hd : oe.data = .fields vs) (h0 : X.s_0.heap.get? a = none) (hp : ∀ p ∈ X.pn ++ pins, p.1 ≠ a) :
    Inv X pins σ (upd H a (ExH (.ref C) a)) s := by
  have pa := I.pin (a, oe) (List.mem_append_right _ List.mem_cons_self)
  obtain ⟨ga, na, nL, nF, nc⟩ := pa
  have ne1 : ∀ b u, H b = some u → b ≠ a := fun b u e z => by rw [z, na] at e; cases e
  refine ⟨I.ok, I.os, I.bare, ⟨I.base.keep, I.base.slot, fun b o e n hx => ?_, I.base.there, fun b xs e => ?_, fun b o u e => ?_, fun b ps e => ?_⟩, I.loc, I.cell, ?_, fun x c e => ?_, fun p hp1 => ?_, fun b u e => ?_, I.len⟩
  · rw [upd_ne (fun z => by rw [z, h0] at e; cases e)]; exact I.base.free b o e n hx
  · have q := I.base.tups b xs e; rw [upd_ne (ne1 b _ q)]; exact q
  · have q := I.base.frzs b o u e; rw [upd_ne (ne1 b _ q)]; exact q
  · obtain ⟨m, q⟩ := I.base.tbls b ps e
    exact ⟨m, by rw [upd_ne (ne1 b _ q)]; exact q⟩
  · rw [upd_ne (Ne.symm nL)]; exact I.free
  · have hca : c ≠ a := fun z => by
      obtain ⟨v, o, q1, q2⟩ := I.cell x c e
      rw [z, ga] at q1
      cases q1
      exact nc v q2
    rw [upd_ne hca]; exact I.freeC x c e
  · have old : p ∈ X.pn ++ ((a, oe) :: pins) := by
      rcases List.mem_append.mp hp1 with q | q
      · exact List.mem_append_left _ q
      · exact List.mem_append_right _ (List.mem_cons_of_mem _ q)
    obtain ⟨q1, q2, q3, q4, q5⟩ := I.pin p old
    exact ⟨q1, by rw [upd_ne (hp p hp1)]; exact q2, q3, q4, q5⟩
  · by_cases hb : b = a
    · subst hb
      rw [upd_same] at e
      cases e
      exact ⟨⟨oe, vs, ga, hz, hd⟩, ⟨oe, ga⟩, fun h1 h2 ⟨o, ws, q, r⟩ k => ⟨o, ws, k o q, r⟩⟩
    · rw [upd_ne hb] at e
      exact (I.hok b u e).stay (fun _ _ _ q => q) (fun c q => by rw [upd_ne (ne1 c _ q)]; exact q) fun c xs q => by rw [upd_ne (ne1 c _ q)]; exact q
end
/-- what «except c as n: y = n» wishes of an exception: slot i is n's, slot j y's -/
def wKeep (K : PySem.W.Frag) (c : Value) (i j : Nat) (E : Ends) : WX := fun cls d σ H =>
  PySem.W.exmOne K cls c = some true ∧ ∃ C, cls = .ref C ∧ d = none ∧ ∀ a, H a = none → E.nx (((σ.set i (some (.ref a))).set j (some (.ref a))).set i none) (upd H a (ExH (.ref C) a))
section
variable {X : Cx} {x n y : Str} {c : Value} {i j : Nat} {body : List Stmt} {np p1 p2 p3 pos pos' : Pos} {tb : WX → TS}
theorem ps_try_keep (hs : X.stack = X.env :: X.outer) (hf : X.env.frame = some X.env.locals) (hex : X.ex = []) (hN : X.N.Nodup) (hi : X.N[i]? = some n) (hj : X.N[j]? = some y) (hln : X.env.kindOf n = some .local) (hly : X.env.kindOf y = some .local) (hc : Names X x c)
    (hb : ∀ (W : WX) (pn : List (Addr × Obj)) (xe : Value → Shared → Prop), Takes (X.tr pn xe) W → PassesOwn (model X.prog X.w) X.A X.env xe → PSs (X.tr pn xe) body (tb W))
    (hst : ∀ (a : Addr) (oe : Obj) (pn : List (Addr × Obj)), PE (X.suite a ((a, oe) :: pn)) (.Name n p1) (tVar i)) (hsw : swapsWith (.Name n p1) (some (.Name y p2)) p3.line X.env = pure false := by rfl) :
    PS X (.Try body [.ExceptHandler (some (.Name x np)) (some n) [.Assign [.Name y p2] (.Name n p1) p3] pos'] [] [] pos) (fun E σ H => tb (wKeep X.K c i j E) E σ H) := by
  constructor
  intro pins s σ H E I hread
  have okX := I.ok
  have fr : X.A.frames = some (X.env :: X.outer) := okX.frames.trans (congrArg some hs)
  have here : PSs (X.tr (X.pn ++ pins) fun v t => wpAny (model X.prog X.w) X.A (noteFrame v X.env) (fun _ t2 => wpAny (model X.prog X.w) X.A (setFlight v none) (fun _ t3 =>
      wpAny (model X.prog X.w) X.A (handleBy v X.env [.ExceptHandler (some (.Name x np)) (some n) [.Assign [.Name y p2] (.Name n p1) p3] pos']) (SP X pins E) X.xe t3) X.xe t2) X.xe t) body (tb (wKeep X.K c i j E)) := by
    refine hb _ _ _ ?_ PassesOwn.looking
    rintro u s' ⟨a, B, sI, pins', σ', H', cls, d, rfl, Jt, nb, up, sky, na, os, ag, hm, C, rfl, rfl, hend⟩
    have J : Inv X pins σ' H' sI := Jt.ofTry okX
    have sk : Sky B (X.env :: X.outer) a (Zc (.ref C) none) X.env.locals s'.heap := hs ▸ sky
    refine Sky.land Zc.steady fr hf sk fun g fl up1 => ?_
    have Jg : Inv X pins σ' H' { s' with heap := g } := J.landed nb fl.1 (up.trans up1) os ag
    obtain ⟨oe, ws, ge, ze, de⟩ := fl.there
    have out : a ∉ frs (X.env :: X.outer) := fun hm' => by
      obtain ⟨_, o', q, hnf⟩ := fl.2.2.1.mem hm'
      rw [ge] at q
      cases q
      exact hnf _ de
    have aL : a ≠ X.env.locals := fun z => out (List.mem_filterMap.mpr ⟨X.env, List.mem_cons_self, by rw [z]; exact hf⟩)
    have aF : a ∉ X.fs := fun hm' => by
      obtain ⟨e1, m1, q1⟩ := List.mem_filterMap.mp hm'
      exact out (List.mem_filterMap.mpr ⟨e1, List.mem_cons_of_mem _ m1, q1⟩)
    -- it was not there in the state without it, so it was not there at the entry
    have noI : sI.heap.get? a = none := by
      cases q : sI.heap.get? a with
      | none => rfl
      | some o =>
        have := nb a o q (by rw [hs]; exact out)
        rw [fl.2.1] at this
        cases this
    have no0 : X.s_0.heap.get? a = none := by
      cases q : X.s_0.heap.get? a with
      | none => rfl
      | some o =>
        obtain ⟨o', q'⟩ := J.base.there a o q (by rw [hex]; exact List.not_mem_nil)
        rw [noI] at q'
        cases q'
    have nopin : ∀ p ∈ X.pn ++ pins, p.1 ≠ a := fun p hp z => by
      have q := (J.pin p hp).1
      rw [z, noI] at q
      cases q
    have Sg1 := Jg.suite ge de na aL aF
    refine wpAny_handleBy_cons (codeAny_handlers_test ?_) (by intro q; cases q)
    have lk : PySem.W.Looks (model X.prog X.w) g (typeOf (.ref a)) (.ref C) := fun A Q E s k q => wpAny_typeOf_ref (k _ _ ge) (by rw [ze.1]; exact q)
    have lm := PySem.W.exm_one (M := model X.prog X.w) Jg.kIn lk hm
    have ev : ∀ {Q : Value → Shared → Prop} {R : Value → Shared → Prop}, Q c { s' with heap := g } → wpAny (model X.prog X.w) (X.A.mark (some (.ref a))) (eval (.Name x np) X.env) Q R { s' with heap := g } := fun {Q R} q => by
      obtain ⟨h1, h2, h3 | ⟨h3, h4, h5⟩⟩ := hc
      · exact ld_glob (X := X.suite a ((a, oe) :: (X.pn ++ pins))) Sg1 h1 h3 q h2
      · exact ld_blt (X := X.suite a ((a, oe) :: (X.pn ++ pins))) Sg1 h1 h3 h4 q h5 h2
    refine ev (lm.here (codeAny_handlers_suite_as ?_))
    refine HandSPX.lands_againZ fl fun g2 fl2 up2 => ?_
    have Jg2 : Inv X pins σ' H' { s' with heap := g2 } := J.landed nb fl2.1 ((up.trans up1).trans up2) os ag
    obtain ⟨oe2, ws2, ge2, ze2, de2⟩ := fl2.there
    have Sg2 := Jg2.suite ge2 de2 na aL aF
    refine store_ok (X := X.suite a ((a, oe2) :: (X.pn ++ pins))) (v := .ref a) Sg2 hN hi (.inl hln) rfl (fun t5 S5 => ?_) (.inr hln)
    have stp := pss_one (ps_set (X := X.suite a ((a, oe2) :: (X.pn ++ pins))) (pos := p3) (pos' := p2) (i := j) hN hj (.inl hly) (hst a oe2 (X.pn ++ pins)) hsw (.inr hly))
    have hil : i < σ'.length := by
      rw [J.len]; exact (List.getElem?_eq_some_iff.mp hi).1
    refine wpAny_mono (stp.run [] t5 _ H' { nx := fun σ6 H6 => σ6 = (σ'.set i (some (.ref a))).set j (some (.ref a)) ∧ H6 = H', rt := fun _ _ => False } S5 ⟨.ref a, List.getElem?_set_self hil, rfl, rfl⟩) (fun fw t6 q6 => ?_) (fun _ _ z => z.elim)
    cases fw with
    | next =>
      obtain ⟨σ6, H6, S6, e6, e7⟩ := q6
      rw [e6, e7] at S6
      have S7 : Inv X ((a, oe2) :: pins) ((σ'.set i (some (.ref a))).set j (some (.ref a))) H' t6 :=
        ⟨okX, S6.os, S6.bare, S6.base, S6.loc, S6.cell, S6.free, S6.freeC, fun p hp => S6.pin p (by
          rcases List.mem_append.mp hp with q | q
          · exact List.mem_append_left _ (List.mem_cons_of_mem _ (List.mem_append_left _ q))
          · rcases List.mem_cons.mp q with q | q
            · rw [q]; exact List.mem_append_left _ List.mem_cons_self
            · exact List.mem_append_left _ (List.mem_cons_of_mem _ (List.mem_append_right _ q))), S6.hok, S6.len⟩
      refine gone_ok S7 hN hi hln fun t7 S8 => ?_
      exact ⟨_, _, track_old S8 ze2 de2 no0 nopin, hend a na⟩
    | brk => obtain ⟨_, _, _, q⟩ := q6; exact q.elim
    | cont => obtain ⟨_, _, _, q⟩ := q6; exact q.elim
    | ret u => obtain ⟨_, _, _, _, _, q⟩ := q6; exact q.elim
  refine wpAny_Try_except ?_
  refine wpAny_mono (here.run [] s σ H E (I.toTry _) hread) (fun fw t1 q1 => ?_) fun _ _ z => z
  cases fw with
  | next =>
    obtain ⟨σ1, H1, J1, q⟩ := q1
    exact wpAny_execs_nil ⟨σ1, H1, J1.ofTry okX, q⟩
  | brk =>
    obtain ⟨σ1, H1, J1, q⟩ := q1
    exact ⟨σ1, H1, J1.ofTry okX, q⟩
  | cont =>
    obtain ⟨σ1, H1, J1, q⟩ := q1
    exact ⟨σ1, H1, J1.ofTry okX, q⟩
  | ret u =>
    obtain ⟨v, σ1, H1, J1, r, q⟩ := q1
    exact ⟨v, σ1, H1, J1.ofTry okX, r, q⟩
end
end DL

/-! DX, part 2: refusals: defs that raise, try .. except .. as .., isinstance of what was caught. -/
namespace DL
open PySem PySem.Spec PyProof.Rows L2
def excNames : List Str := ["NoNumber", "NoShape", "NoSize"]
/-- what the head tells of the exception classes -/
structure ExcOk (K : PySem.W.Frag) (mg : Str → Option Value) : Prop where
  gF : mg "FitError" = some (.ref (He.ga K "FitError"))
  g : ∀ x ∈ excNames, mg x = some (.ref (He.ga K x))
  e : ∀ x ∈ excNames, (He.Fa.exc x).ok K = true
  fit : ∀ x ∈ excNames, PySem.W.exmOne K (.ref (He.ga K x)) (.ref (He.ga K "FitError")) = some true
  cls : ∀ x ∈ excNames, ExcC K (He.ga K x)
  kit : ∀ x ∈ excNames, ∀ y ∈ excNames, PySem.W.kitOne K (.ref (He.ga K x)) (.ref (He.ga K y)) = some (decide (x = y))
  ve : ∀ x ∈ excNames, PySem.W.kitOne K (.ref (He.ga K x)) (.type "ValueError") = some true
  bve : mg "ValueError" = none
  bis : mg "isinstance" = none

/-! ### isinstance of a kept exception -/
section
variable {X : Cx}
theorem inst_kept {pins : List (Addr × Obj)} {σ : Sg} {H : Hp} {s : Shared} {a C : Addr} (I : Inv X pins σ H s) (h : H a = some (ExH (.ref C) a)) : ∃ oe, PySem.W.InstAt s.heap a oe C none := by
  obtain ⟨⟨oe, vs, hget, hz, hv⟩, _⟩ := (show ObjOk X.prog X.w H s.heap a (ExH (.ref C) a) from I.hok a _ h)
  obtain ⟨oc, od, oda, osl⟩ := oe
  obtain ⟨h1, h2⟩ := hz
  dsimp only at h1 h2 hv
  subst h1 h2 hv
  exact ⟨_, hget, rfl, rfl, trivial⟩
def rIsX (K : PySem.W.Frag) : List V → Hp → VK → Prop := fun xs H Q => ∃ (a C : Addr) (c : V) (cv : Value) (b : Bool), xs = [.ref a, c] ∧ H a = some (ExH (.ref C) a) ∧ ExcC K C ∧ ClsV c cv ∧ PySem.W.kitOne K (.ref C) cv = some b ∧ Q (.bl b) H
theorem call_isX : CallR X (.builtin "isinstance") (rIsX X.K) := by
  intro pins s σ H xs us Q I r h
  obtain ⟨a, C, c, cv, b, rfl, ha, ec, kc, hk, q⟩ := h
  obtain ⟨u1, u2, rfl, r1, r2⟩ := vals2 r
  cases r1
  have e2 := kc.eq r2
  subst e2
  obtain ⟨oe, J⟩ := inst_kept I ha
  exact PySem.W.kia_one (PySem.W.handS_kitx_exc ec.hg ec.hk ec.hs ec.hd ec.ha ec.hn ec.ht ec.hm) I.kIn J hk (fun z => nomatch z) fun tk => ⟨.bl b, H, I.tok tk, rfl, q⟩
def rIsXT (K : PySem.W.Frag) : List V → Hp → VK → Prop := fun xs H Q => ∃ (a C tp : Addr) (cs : List V) (us : List Value) (b : Bool), xs = [.ref a, .ref tp] ∧ H a = some (ExH (.ref C) a) ∧ ExcC K C ∧ H tp = some (.tup cs) ∧ Paired ClsV cs us ∧ PySem.W.kitAny K (.ref C) us = some b ∧ Q (.bl b) H
theorem call_isXT : CallR X (.builtin "isinstance") (rIsXT X.K) := by
  intro pins s σ H xs us Q I r h
  obtain ⟨a, C, tp, cs, ws, b, rfl, ha, ec, hT, kc, hk, q⟩ := h
  obtain ⟨u1, u2, rfl, r1, r2⟩ := vals2 r
  cases r1
  cases r2
  obtain ⟨oe, J⟩ := inst_kept I ha
  obtain ⟨_, its, rv, o, g1, g2, n, g3⟩ := (show ObjOk X.prog X.w H s.heap tp (.tup cs) from I.hok tp _ hT)
  have e3 := ClsV.all kc rv
  subst e3
  obtain ⟨oc, od, dt, sl⟩ := o
  dsimp only at g2 g3
  subst g2 g3
  exact PySem.W.kia_tup (PySem.W.handS_kitx_exc ec.hg ec.hk ec.hs ec.hd ec.ha ec.hn ec.ht ec.hm) I.kIn J g1 hk (fun z => nomatch z) fun tk => ⟨.bl b, H, I.tok tk, rfl, q⟩
end
def excOf : D → Option Str
  | .dict [(.str x, .none)] => if excNames.contains x = true then some x else none
  | _ => none
theorem excOf_some {d : D} {x : Str} (h : excOf d = some x) : d = excD x ∧ x ∈ excNames := by
  unfold excOf at h
  split at h
  · rename_i y
    by_cases hy : excNames.contains y = true
    · rw [if_pos hy] at h
      cases h
      exact ⟨rfl, List.contains_iff_mem.mp hy⟩
    · rw [if_neg hy] at h; cases h
  · cases h
def isx1 (y : Str) (d : D) : Option D := (excOf d).map fun x => .bool (decide (x = y))
def isxV (d : D) : Option D := (excOf d).map fun _ => .bool true
def isx2 (y z : Str) (d : D) : Option D := (excOf d).map fun x => .bool (decide (x = y) || decide (x = z))
theorem rep_exc {K : PySem.W.Frag} {F H : Hp} {v : V} {x : Str} (hs : Same F H) (r : Rep K F v (excD x)) : ∃ a, v = .ref a ∧ H a = some (ExH (.ref (He.ga K x)) a) := by
  unfold excD at r
  cases r with
  | dat h => cases h
  | exc h => exact ⟨_, rfl, hs _ _ h⟩
section
variable {X : Cx} {O : List Nat} {e : Expr} {f : EF} {p p1 p2 p3 pos : Pos} {y z : Str}
theorem e_isx1 (T : ExcOk X.K X.mg) (ha : DE X O e f) (hy : excNames.contains y = true := by decide +kernel) (hg : Gl X "isinstance" := by rfl) (hgy : Gl X y := by rfl) (hd : (y == ("__debug__" : Str)) = false := by decide)
    (hs : starEach (e :: [.Name y p1]) X.env = (false, eval e X.env) :: starEach [.Name y p1] X.env := by rfl) (hs2 : starEach (.Name y p1 :: []) X.env = (false, eval (.Name y p1) X.env) :: starEach [] X.env := by rfl)
    (hpl : (backTo pos (starEach [.Name y p1] X.env)).any (·.1) = false := by rfl) : DE X O (.Call (.Name "isinstance" p) [e, .Name y p1] [] pos) (o1 (isx1 y) f) := by
  have hy' := List.contains_iff_mem.mp hy
  obtain ⟨t, pt, rd⟩ := ha
  refine ⟨_, pe_callB call_isX hg T.bis (by decide +kernel) (pa_cons pt (pa_cons (pe_glob (v := .ref (He.ga X.K y)) hgy (T.g y hy') rfl hd) pa_nil hs2) hs) (by decide) (by decide) hs hpl, fun G σ H F ρ d Q s hf q => ?_⟩
  unfold o1 isx1 at hf
  cases e1 : f ρ with
  | none => simp [e1] at hf
  | some c =>
    simp only [e1, Option.bind_some] at hf
    cases e2 : excOf c with
    | none => simp [e2] at hf
    | some x =>
      simp [e2] at hf; subst hf
      obtain ⟨rfl, hx⟩ := excOf_some e2
      refine rd G σ H F ρ _ _ s e1 fun v H1 F1 g1 r1 => ?_
      obtain ⟨a, rfl, hH⟩ := rep_exc g1.fh r1
      exact ⟨a, _, _, _, _, rfl, hH, T.cls x hx, .own _, T.kit x hx y hy', q _ H1 F1 g1 (.dat (.bl _))⟩
theorem e_isxV (T : ExcOk X.K X.mg) (ha : DE X O e f) (hg : Gl X "isinstance" := by rfl) (hgy : Gl X "ValueError" := by rfl)
    (hs : starEach (e :: [.Name "ValueError" p1]) X.env = (false, eval e X.env) :: starEach [.Name "ValueError" p1] X.env := by rfl) (hs2 : starEach (.Name "ValueError" p1 :: []) X.env = (false, eval (.Name "ValueError" p1) X.env) :: starEach [] X.env := by rfl)
    (hpl : (backTo pos (starEach [.Name "ValueError" p1] X.env)).any (·.1) = false := by rfl) : DE X O (.Call (.Name "isinstance" p) [e, .Name "ValueError" p1] [] pos) (o1 isxV f) := by
  obtain ⟨t, pt, rd⟩ := ha
  refine ⟨_, pe_callB call_isX hg T.bis (by decide +kernel) (pa_cons pt (pa_cons (pe_bltn (v := .ty "ValueError") hgy T.bve (by decide +kernel) rfl) pa_nil hs2) hs) (by decide) (by decide) hs hpl, fun G σ H F ρ d Q s hf q => ?_⟩
  unfold o1 isxV at hf
  cases e1 : f ρ with
  | none => simp [e1] at hf
  | some c =>
    simp only [e1, Option.bind_some] at hf
    cases e2 : excOf c with
    | none => simp [e2] at hf
    | some x =>
      simp [e2] at hf; subst hf
      obtain ⟨rfl, hx⟩ := excOf_some e2
      refine rd G σ H F ρ _ _ s e1 fun v H1 F1 g1 r1 => ?_
      obtain ⟨a, rfl, hH⟩ := rep_exc g1.fh r1
      exact ⟨a, _, _, _, _, rfl, hH, T.cls x hx, .ty _, T.ve x hx, q _ H1 F1 g1 (.dat (.bl _))⟩
theorem e_isx2 {k : Nat} (T : ExcOk X.K X.mg) (ha : DE X O e f) (hy : excNames.contains y = true := by decide +kernel) (hz : excNames.contains z = true := by decide +kernel) (hg : Gl X "isinstance" := by rfl) (hgy : Gl X y := by rfl) (hgz : Gl X z := by rfl)
    (hd : (y == ("__debug__" : Str)) = false := by decide) (hd2 : (z == ("__debug__" : Str)) = false := by decide)
    (hs : starEach (e :: [.Tuple [.Name y p1, .Name z p2] k p3]) X.env = (false, eval e X.env) :: starEach [.Tuple [.Name y p1, .Name z p2] k p3] X.env := by rfl) (hs2 : starEach (.Tuple [.Name y p1, .Name z p2] k p3 :: []) X.env = (false, eval (.Tuple [.Name y p1, .Name z p2] k p3) X.env) :: starEach [] X.env := by rfl)
    (hs3 : starEach (.Name y p1 :: [.Name z p2]) X.env = (false, eval (.Name y p1) X.env) :: starEach [.Name z p2] X.env := by rfl) (hs4 : starEach (.Name z p2 :: []) X.env = (false, eval (.Name z p2) X.env) :: starEach [] X.env := by rfl)
    (hpl : (backTo pos (starEach [.Tuple [.Name y p1, .Name z p2] k p3] X.env)).any (·.1) = false := by rfl) : DE X O (.Call (.Name "isinstance" p) [e, .Tuple [.Name y p1, .Name z p2] k p3] [] pos) (o1 (isx2 y z) f) := by
  have hy' := List.contains_iff_mem.mp hy
  have hz' := List.contains_iff_mem.mp hz
  obtain ⟨t, pt, rd⟩ := ha
  refine ⟨_, pe_callB call_isXT hg T.bis (by decide +kernel) (pa_cons pt (pa_cons (pe_tup (pa_cons (pe_glob (v := .ref (He.ga X.K y)) hgy (T.g y hy') rfl hd) (pa_cons (pe_glob (v := .ref (He.ga X.K z)) hgz (T.g z hz') rfl hd2) pa_nil hs4) hs3)) pa_nil hs2) hs) (by decide) (by decide) hs hpl, fun G σ H F ρ d Q s hf q => ?_⟩
  unfold o1 isx2 at hf
  cases e1 : f ρ with
  | none => simp [e1] at hf
  | some c =>
    simp only [e1, Option.bind_some] at hf
    cases e2 : excOf c with
    | none => simp [e2] at hf
    | some x =>
      simp [e2] at hf; subst hf
      obtain ⟨rfl, hx⟩ := excOf_some e2
      refine rd G σ H F ρ _ _ s e1 fun v H1 F1 g1 r1 => ?_
      obtain ⟨a, rfl, hH⟩ := rep_exc g1.fh r1
      refine ⟨by show 2 ≤ sizeLine; decide, fun tp ht => ?_⟩
      have hne : a ≠ tp := ne_of_none hH ht
      have k1 := T.kit x hx y hy'
      have k2 := T.kit x hx z hz'
      refine ⟨a, He.ga X.K x, tp, _, [.ref (He.ga X.K y), .ref (He.ga X.K z)], _, rfl, by rw [upd_ne hne]; exact hH, T.cls x hx, upd_same, .cons (.own _) (.cons (.own _) .nil), ?_, q _ _ _ (g1.trans (Grow.new g1.fh ht)) (.dat (.bl (decide (x = y) || decide (x = z))))⟩
      unfold PySem.W.kitAny
      rw [k1]
      by_cases h1 : x = y
      · rw [decide_eq_true h1]; rfl
      · rw [decide_eq_false h1]
        show PySem.W.kitAny X.K _ _ = _
        unfold PySem.W.kitAny
        rw [k2]
        by_cases h2 : x = z
        · rw [decide_eq_true h2]; rfl
        · rw [decide_eq_false h2]; rfl
end
@[simp] theorem exN1 : excNames.contains ("NoNumber" : Str) = true := by decide +kernel
@[simp] theorem exN2 : excNames.contains ("NoShape" : Str) = true := by decide +kernel
@[simp] theorem exN3 : excNames.contains ("NoSize" : Str) = true := by decide +kernel
theorem excOf_d {x : Str} (h : excNames.contains x = true) : excOf (excD x) = some x := by
  unfold excOf excD
  simp only
  rw [if_pos h]
theorem isx1_d {x y : Str} (h : excNames.contains x = true) : isx1 y (excD x) = some (.bool (decide (x = y))) := by unfold isx1; rw [excOf_d h]; rfl
theorem isx2_d {x y z : Str} (h : excNames.contains x = true) : isx2 y z (excD x) = some (.bool (decide (x = y) || decide (x = z))) := by unfold isx2; rw [excOf_d h]; rfl
theorem isxV_d {x : Str} (h : excNames.contains x = true) : isxV (excD x) = some (.bool true) := by unfold isxV; rw [excOf_d h]; rfl
@[simp] theorem xNumNum : isx1 "NoNumber" (excD "NoNumber") = some (.bool true) := by rw [isx1_d exN1]; rfl
@[simp] theorem xShShNum : isx2 "NoShape" "NoSize" (excD "NoNumber") = some (.bool false) := by rw [isx2_d exN1]; rw [show (decide (("NoNumber" : Str) = "NoShape") || decide (("NoNumber" : Str) = "NoSize")) = false by decide +kernel]
@[simp] theorem xVNum : isxV (excD "NoNumber") = some (.bool true) := isxV_d exN1
@[simp] theorem xShSh : isx1 "NoShape" (excD "NoShape") = some (.bool true) := by rw [isx1_d exN2]; rfl
@[simp] theorem xNumSizeSh : isx2 "NoNumber" "NoSize" (excD "NoShape") = some (.bool false) := by rw [isx2_d exN2]; rw [show (decide (("NoShape" : Str) = "NoNumber") || decide (("NoShape" : Str) = "NoSize")) = false by decide +kernel]
@[simp] theorem xVSh : isxV (excD "NoShape") = some (.bool true) := isxV_d exN2
@[simp] theorem xSizeSize : isx1 "NoSize" (excD "NoSize") = some (.bool true) := by rw [isx1_d exN3]; rfl
@[simp] theorem xNumShSize : isx2 "NoNumber" "NoShape" (excD "NoSize") = some (.bool false) := by rw [isx2_d exN3]; rw [show (decide (("NoSize" : Str) = "NoNumber") || decide (("NoSize" : Str) = "NoShape")) = false by decide +kernel]
@[simp] theorem xVSize : isxV (excD "NoSize") = some (.bool true) := isxV_d exN3
@[simp] theorem exM1 : (("NoNumber" : Str) ∈ excNames) = True := eq_true (List.contains_iff_mem.mp exN1)
@[simp] theorem exM2 : (("NoShape" : Str) ∈ excNames) = True := eq_true (List.contains_iff_mem.mp exN2)
@[simp] theorem exM3 : (("NoSize" : Str) ∈ excNames) = True := eq_true (List.contains_iff_mem.mp exN3)
end DL

/-! DX, part 3: defs that raise; the try around their call. -/
namespace DL
open PySem PySem.Spec PyProof.Rows L2
/-- Fn: it ends with that value; Fx: it raises an exception of that class -/
def SpX (K : PySem.W.Frag) (n : Nat) (Fn : List D → Option D) (Fx : List D → Option Str) : Sp := fun vs H Q E => ∃ F ds, vs.length = n ∧ Same F H ∧ RepAll K F vs ds ∧
  ((∃ d, Fn ds = some d ∧ ∀ v H' F', Grow F H F' H' → Q v H') ∨ (∃ x, Fx ds = some x ∧ x ∈ excNames ∧ ∀ H' F', Grow F H F' H' → E (.ref (He.ga K x)) none H'))
def DefX (P : Program) (w : World) (K : PySem.W.Frag) (mg : Str → Option Value) (name : Str) (k : Nat) (ps : List Str) (Fn : List D → Option D) (Fx : List D → Option Str) : Prop :=
  ∃ (fa : Addr) (fd : FuncData), mg name = some (.ref fa) ∧ PySem.W.keepIn K (.ref fa) = true ∧ (∀ (s : Shared) (us : List Value), us.length = ps.length → BindsTo s fd ⟨us, []⟩ (ps.zip us)) ∧
    ∀ base : Heap, FnOk P w K mg base (L2.CX P w) k fa fd ps (SpX K ps.length Fn Fx)
/-- a block that ends in an exception of the class f says -/
def DX (X : Cx) (W : WX) (O : List Nat) (sts : List Stmt) (f : Rho → Option Str) : Prop := ∃ t, PSs X sts t ∧ ∀ (G : Ent) (σ : Sg) (H F : Hp) (ρ : Rho) (x : Str) (E : Ends),
  StRep X.K G O σ H ρ F → f ρ = some x → (∀ σ' H' F', Grow G.F0 G.H0 F' H' → W (.ref (He.ga X.K x)) none σ' H') → t E σ H
section
variable {X : Cx} {W : WX} {RO : Bool} {O O1 LB : List Nat} {e : Expr} {es : List Expr} {fa : AF} {pos p p2 : Pos} {st : Stmt} {rest : List Stmt} {s1 : SF} {f : Rho → Option Str} {x m : Str}
theorem ps_nox {st : Stmt} {t : TS} (h : PS X.nox st t) : PS X st t := ⟨fun pins s σ H E I hw => wpAny_mono (h.run pins s σ H E (I.wish _) hw) (fun _ _ q => q.unwish) fun _ _ z => z.elim⟩
def thenX (s1 : SF) (f : Rho → Option Str) : Rho → Option Str := fun ρ => match s1 ρ with
  | some (.nx ρ') => f ρ'
  | _ => none
theorem dx_cons (h1 : DS X.nox RO O O1 LB st s1) (h2 : DX X W O1 rest f) : DX X W O (st :: rest) (thenX s1 f) := by
  obtain ⟨t, p, r⟩ := h1
  obtain ⟨u, pu, ru⟩ := h2
  refine ⟨_, pss_cons (ps_nox p) pu, fun G σ H F ρ x E s hf q => ?_⟩
  unfold thenX at hf
  cases e : s1 ρ with
  | none => simp [e] at hf
  | some o =>
    cases o with
    | nx ρ' =>
      simp only [e] at hf
      exact r G σ H F ρ _ _ s e fun σ' H' F' s' _ => ru G σ' H' F' ρ' x E s' hf q
    | _ => simp [e] at hf
def ifX (c : BF) (x : Str) : Rho → Option Str := fun ρ => match c ρ with
  | some true => some x
  | _ => none
theorem dx_if {c : BF} {j : Nat} {p3 p4 : Pos} (x : Str) (T : ExcOk X.K X.mg) (hx : excNames.contains x = true) (hc : DT X.nox O e c) (tk : Takes X W) (hcalm : X.calm = true) (hg : Gl X x) (hdb : (x == ("__debug__" : Str)) = false) :
    DX X W O (.If e [.Raise (some (.Call (.Name x p) [.Constant (.str m) j p2] [] pos)) none p3] [] p4 :: rest) (ifX c x) := by
  obtain ⟨t, pt, rd⟩ := hc
  have hx' := List.contains_iff_mem.mp hx
  obtain ⟨e1, e2, e3, e4⟩ := He.exc_ok (T.e x hx')
  refine ⟨_, pss_cons (ps_if pt.nox (pss_one (ps_raise hcalm tk (pmk_own PySem.F.excBase_ValueError e1 (T.g x hx') e2 (raises_own e3 e4) hg hdb))) pss_nil) pss_never, fun G σ H F ρ y E s hf q => ?_⟩
  unfold ifX at hf
  cases ec : c ρ with
  | none => simp [ec] at hf
  | some b =>
    cases b with
    | false => simp [ec] at hf
    | true =>
      simp [ec] at hf
      subst hf
      exact rd G σ H F ρ true _ s ec fun H1 F1 g1 => q σ H1 F1 (s.g.trans g1)
theorem ifX_mem {c : BF} {x y : Str} {ρ : Rho} (hx : excNames.contains x = true) (h : ifX c x ρ = some y) : y ∈ excNames := by
  unfold ifX at h
  split at h
  · cases h; exact List.contains_iff_mem.mp hx
  · cases h
/-- the strongest reading of an argument list -/
def tAr (K : PySem.W.Frag) (O : List Nat) (f : AF) : TA := fun σ H Q => ∃ (G : Ent) (F : Hp) (ρ : Rho) (ds : List D), StRep K G O σ H ρ F ∧ f ρ = some ds ∧ ∀ vs H' F', Grow F H F' H' → RepAll K F' vs ds → Q vs H'
theorem DA_pa {Y : Cx} {f : AF} (h : DA Y O es f) : PA Y es (tAr Y.K O f) := by
  obtain ⟨⟨t, p, r⟩, _⟩ := h
  exact ⟨fun pos pins s σ H Q I ⟨G, F, ρ, d, sr, hf, q⟩ => p.run pos pins s σ H Q I (r G σ H F ρ d Q sr hf q)⟩
/-- return f(..), f raises -/
theorem dx_ret {k j : Nat} {ps : List Str} {Fn : List D → Option D} {Fx : List D → Option Str} (h : DefX X.prog X.w X.K X.mg x k ps Fn Fx) (hr : Room j X.A) (hk : Nat.ble k j = true) (ha : DA X O (e :: es) fa) (tk : Takes X W) (hx : ∀ ds y, Fx ds = some y → y ∈ excNames) (hn : es.length + 1 = ps.length := by rfl)
    (hg : Gl X x := by rfl) (hdb : (x == ("__debug__" : Str)) = false := by decide) (he : starEach (e :: es) X.env = (false, eval e X.env) :: starEach es X.env := by rfl) (hpl : (backTo pos (starEach es X.env)).any (·.1) = false := by rfl) :
    DX X W O [.Return (some (.Call (.Name x p) (e :: es) [] pos)) p2] (fun ρ => (fa ρ).bind Fx) := by
  obtain ⟨fad, fd, hm, hkp, hb, FO⟩ := h
  refine ⟨_, pss_one (ps_ret (pe_callS (FO X.base) (hr.mono (Nat.le_of_ble_eq_true hk)) hg hm hkp (binds_of hb) (fun σ => passAt tk σ) (DA_pa ha) hdb he hpl)), fun G σ H F ρ y E s hf q => ?_⟩
  have hl := ha.2
  cases e1 : fa ρ with
  | none => simp [e1] at hf
  | some ds =>
    simp only [e1, Option.bind_some] at hf
    exact ⟨G, F, ρ, ds, s, e1, fun vs H1 F1 g1 r1 => ⟨F1, ds, by rw [r1.length, ← hn]; exact hl ρ ds e1, g1.fh, r1, .inr ⟨y, hf, hx ds y hf, fun H2 F2 g2 => q σ H2 F2 (s.g.trans (g1.trans g2))⟩⟩⟩
end
section
variable {P : Program} {w : World} {K : PySem.W.Frag} {mg : Str → Option Value} {base : Heap}
/-- a def that may raise: on some arguments it runs through, on others it raises -/
theorem fnX_ok {x qual : Str} {params : Arguments} {body : List Stmt} {scope : Scope} {dvs : List V} {kws : List (Str × V)} {f : Addr} {fd : FuncData} {N ps : List Str} {k : Nat} {own : Bool} {O' : List Nat} {b : SF} {fx : Rho → Option Str} (F : FunD K x qual params body scope dvs kws f fd) (S : FnScope N ps scope)
    (hbody : ∀ (cdv : Value) (A : Around) (outer : List Env) (s : Shared) (H : Hp) (E : XK), Room k (A.deeper (envOfC qual scope s.heap.objs.size f cdv)) →
      DSs (cxOf (L2.CX P w) P w K mg base N qual scope f cdv A outer s H E).nox own [] O' [] body b)
    (hx : ∀ (cdv : Value) (A : Around) (outer : List Env) (s : Shared) (H : Hp) (E : XK), Room k (A.deeper (envOfC qual scope s.heap.objs.size f cdv)) →
      DX (cxOf (L2.CX P w) P w K mg base N qual scope f cdv A outer s H E) (fun cls d _ H => E cls d H) [] body fx)
    {Fn : List D → Option D} (hFn : Fn = bodyFn own N.length b) {Fx : List D → Option Str} (hFx : Fx = fun ds => fx (startR N.length ds)) : FnOk P w K mg base (L2.CX P w) (k + 1) f fd ps (SpX K ps.length Fn Fx) := by
  subst hFn hFx
  refine F.ok S (fun vs H Q E h => h.choose_spec.choose_spec.1) (fun cdv A outer s H vs Q E hr h => ?_)
  obtain ⟨F, ds, hl, hs, hr2, h | h⟩ := h
  · obtain ⟨d, hf, q⟩ := h
    obtain ⟨t, p, r⟩ := hbody cdv A outer s H E hr
    refine ⟨t, p.nox, ?_⟩
    unfold bodyFn at hf
    cases e : b (startR N.length ds) with
    | none => rw [e] at hf; cases hf
    | some o =>
      rw [e] at hf
      refine r ⟨F, H⟩ (L2.start N vs) H F (startR N.length ds) o _ (stRep_start hs hr2) e ?_
      cases o with
      | nx ρ' => exact fun σ' H' F' s' _ => q .non H' F' s'.g
      | rt d' => exact fun v H' F' g _ => q v H' F' g
      | _ => cases hf
  · obtain ⟨y, hf, _, q⟩ := h
    obtain ⟨t, p, r⟩ := hx cdv A outer s H E hr
    exact ⟨t, p, r ⟨F, H⟩ (L2.start N vs) H F (startR N.length ds) y _ (stRep_start hs hr2) hf fun σ' H' F' g => q H' F' g⟩
end
section
variable {X : Cx} {RO : Bool} {O O2 LB : List Nat} {e : Expr} {es : List Expr} {fa : AF} {pos p np p1 p2 p3 pos' cpos spos : Pos} {x n y : Str}
/-- y = None; try: f(..) except FitError as n: y = n -/
def tryF (i j : Nat) (fa : AF) (Fn : List D → Option D) (Fx : List D → Option Str) : SF := fun ρ => (fa ρ).bind fun ds => match Fx ds with
  | some x => if excNames.contains x = true then some (.nx ((ρ.set j (some (excD x))).set i none)) else none
  | none => (Fn ds).map fun _ => .nx ρ
theorem set_comm2 {α : Type} {l : List (Option α)} {i j : Nat} {u v : Option α} (h : i ≠ j) : (((l.set i u).set j v).set i none) = (l.set j v).set i none := by
  apply List.ext_getElem?
  intro m
  by_cases hm : m = i
  · subst hm
    simp only [List.getElem?_set, List.length_set]
    simp
  · rw [List.getElem?_set_ne (Ne.symm hm), List.getElem?_set_ne (Ne.symm hm)]
    by_cases hj : m = j
    · subst hj
      simp [List.getElem?_set, List.length_set, h]
    · rw [List.getElem?_set_ne (Ne.symm hj), List.getElem?_set_ne (Ne.symm hj), List.getElem?_set_ne (Ne.symm hm)]
theorem s_try (i j : Nat) {k l : Nat} {ps : List Str} {Fn : List D → Option D} {Fx : List D → Option Str} (T : ExcOk X.K X.mg) (h : DefX X.prog X.w X.K X.mg x k ps Fn Fx) (hr : Room l X.A) (hk : Nat.ble k l = true) (hO : O.contains i = false) (hO2 : O.contains j = false)
    (ha : ∀ (W : WX) (pn : List (Addr × Obj)) (xe : Value → Shared → Prop), DA (X.tr pn xe) O (e :: es) fa) (hij : i ≠ j) (hN : X.N.Nodup) (hs : X.stack = X.env :: X.outer := by rfl) (hf : X.env.frame = some X.env.locals := by rfl) (hex : X.ex = [] := by rfl)
    (hi : X.N[i]? = some n := by rfl) (hj : X.N[j]? = some y := by rfl) (hln : X.env.kindOf n = some .local := by rfl) (hly : X.env.kindOf y = some .local := by rfl) (hgF : Gl X "FitError" := by rfl)
    (hn : es.length + 1 = ps.length := by rfl) (hg : Gl X x := by rfl) (hdb : (x == ("__debug__" : Str)) = false := by decide) (he : starEach (e :: es) X.env = (false, eval e X.env) :: starEach es X.env := by rfl) (hpl : (backTo cpos (starEach es X.env)).any (·.1) = false := by rfl)
    (hd : (n == ("__debug__" : Str)) = false := by decide) (hcd : (n == ("__classdict__" : Str)) = false := by decide) (hsw1 : swapsWith (.Call (.Name x p) (e :: es) [] cpos) none spos.line X.env = pure false := by rfl)
    (hsw : swapsWith (.Name n p1) (some (.Name y p2)) p3.line X.env = pure false := by rfl) :
    DS X RO O O LB (.Try [.Expr (.Call (.Name x p) (e :: es) [] cpos) spos] [.ExceptHandler (some (.Name "FitError" np)) (some n) [.Assign [.Name y p2] (.Name n p1) p3] pos'] [] [] pos) (tryF i j fa Fn Fx) := by
  obtain ⟨fad, fd, hm, hkp, hb, FO⟩ := h
  have hl := (ha (fun _ _ _ _ => False) [] fun _ _ => False).2
  refine ⟨_, ps_try_keep (i := i) (j := j) (tb := fun W => tDrop (tCallS (SpX X.K ps.length Fn Fx) (WE W) (tAr X.K O fa))) hs hf hex hN hi hj hln hly ⟨hgF, by decide, .inl T.gF⟩ (fun W pn xe tk _ => ?_) (fun a oe pn => pe_var (X := X.suite a ((a, oe) :: pn)) hi (.inl hln) hd hcd) hsw, fun G σ H F ρ o E s hf1 q => ?_⟩
  · exact pss_one (ps_expr (pe_callS (X := X.tr pn xe) (FO X.base) (hr.mono (Nat.le_of_ble_eq_true hk)) hg hm hkp (binds_of hb) (fun σ => passAt tk σ) (DA_pa (ha W pn xe)) hdb he hpl) hsw1)
  · unfold tryF at hf1
    cases e1 : fa ρ with
    | none => simp [e1] at hf1
    | some ds =>
      simp only [e1, Option.bind_some] at hf1
      refine ⟨G, F, ρ, ds, s, e1, fun vs H1 F1 g1 r1 => ⟨F1, ds, by rw [r1.length, ← hn]; exact hl ρ ds e1, g1.fh, r1, ?_⟩⟩
      cases e2 : Fx ds with
      | none =>
        simp only [e2] at hf1
        cases e3 : Fn ds with
        | none => simp [e3] at hf1
        | some d =>
          simp [e3] at hf1
          subst hf1
          exact .inl ⟨d, rfl, fun v H2 F2 g2 => q σ H2 F2 ((s.grow g1).grow g2) (same_trans g1.ff g2.ff)⟩
      | some c =>
        simp only [e2] at hf1
        by_cases hc : excNames.contains c = true
        · rw [if_pos hc] at hf1
          cases hf1
          have hc' := List.contains_iff_mem.mp hc
          refine .inr ⟨c, rfl, hc', fun H2 F2 g2 => ⟨T.fit c hc', _, rfl, rfl, fun a hna => ?_⟩⟩
          have s2 := (s.grow g1).grow g2
          have hfa : F2 a = none := free_of s2.sub hna
          have g3 : Grow F2 H2 (upd F2 a (ExH (.ref (He.ga X.K c)) a)) (upd H2 a (ExH (.ref (He.ga X.K c)) a)) := Grow.new s2.sub hna
          have s3 := (s2.grow g3).set j (v := .ref a) (d := excD c) (.exc upd_same)
          rw [noDrop hO2] at s3
          have s4 := s3.unset i
          rw [set_comm2 hij]
          exact q _ _ _ s4 (same_trans g1.ff (same_trans g2.ff g3.ff))
        · rw [if_neg hc] at hf1; cases hf1
end
end DL
/-! ### the head's further facts -/
namespace DL
open PySem PySem.Spec PyProof.Rows L2
def excCB (K : PySem.W.Frag) (x : Str) : Bool :=
  decide (PySem.W.findIn K (.ref (He.ga K x)) "__getattribute__" = some (some (.builtin "BaseException.__getattribute__"))) && (decide (PySem.W.findIn K (.ref (He.ga K x)) "__getattr__" = some none) &&
  (decide (PySem.W.subIn K (.ref (He.ga K x)) (.type "BaseException") = some true) && (PySem.W.hasDictIn K (He.ga K x) && (decide (PySem.W.findIn K (.ref (He.ga K x)) "__class__" = some (some (.builtin "object.__class__"))) &&
  (decide (PySem.W.specialIn K (.builtin "object.__class__") "__get__" = some (some (.builtin "getset_descriptor.__get__"))) && (decide (PySem.W.takesIn K (.builtin "object.__class__") = some true) && decide (PySem.W.mroIn K (He.ga K x) (.type "object") = some true)))))))
theorem excCB_ok {K : PySem.W.Frag} {x : Str} (h : excCB K x = true) : ExcC K (He.ga K x) := by
  unfold excCB at h
  simp only [Bool.and_eq_true, decide_eq_true_eq] at h
  exact ⟨h.1, h.2.1, h.2.2.1, h.2.2.2.1, h.2.2.2.2.1, h.2.2.2.2.2.1, h.2.2.2.2.2.2.1, h.2.2.2.2.2.2.2⟩
def excOkB (K : PySem.W.Frag) : Bool :=
  (He.Fa.glo "FitError").ok K && (excNames.all (fun x => (He.Fa.glo x).ok K && ((He.Fa.exc x).ok K && ((He.Fa.exm x "FitError" true).ok K && (excCB K x && (excNames.all (fun y => decide (PySem.W.kitOne K (.ref (He.ga K x)) (.ref (He.ga K y)) = some (decide (x = y)))) && decide (PySem.W.kitOne K (.ref (He.ga K x)) (.type "ValueError") = some true)))))) &&
  ((He.Fa.free "ValueError").ok K && (He.Fa.free "isinstance").ok K))
theorem excOkB_ok {K : PySem.W.Frag} {h : Heap} {mg : Str → Option Value} (X : K.In h) (G : h.Ns mainGlobals mg) (c : excOkB K = true) : ExcOk K mg := by
  unfold excOkB at c
  obtain ⟨c1, c⟩ := He.ba c
  obtain ⟨c2, c⟩ := He.ba c
  obtain ⟨c3, c4⟩ := He.ba c
  have all : ∀ x ∈ excNames, _ := List.all_eq_true.mp c2
  refine ⟨He.glo_ok X G c1, fun x hx => ?_, fun x hx => ?_, fun x hx => ?_, fun x hx => ?_, fun x hx y hy => ?_, fun x hx => ?_, He.free_ok X G c3, He.free_ok X G c4⟩
  all_goals
    obtain ⟨d1, d⟩ := He.ba (all x hx)
    obtain ⟨d2, d⟩ := He.ba d
    obtain ⟨d3, d⟩ := He.ba d
    obtain ⟨d4, d⟩ := He.ba d
    obtain ⟨d5, d6⟩ := He.ba d
  · exact He.glo_ok X G d1
  · exact d2
  · exact He.exm_ok d3
  · exact excCB_ok d4
  · exact of_decide_eq_true (List.all_eq_true.mp d5 y hy)
  · exact of_decide_eq_true d6
/-- hookD and one more look -/
def obsXG (n : Nat) (fa : List He.Fa) (fn : List He.DefD) (p : PySem.W.Frag → Bool) (g : Addr → Option Obj) : He.AlD × Bool := (He.obsD fa fn (He.frG g (He.asD g n)), p (He.frG g (He.asD g n)))
def hookX (n : Nat) (fa : List He.Fa) (fn : List He.DefD) (p : PySem.W.Frag → Bool) : PySem.W.Hook where
  α := He.AlD × Bool
  obs := fun s => obsXG n fa fn p s.heap.get?
  val := fun _ => (He.valD fn, true)
  says := fun _ h => ∃ K : PySem.W.Frag, K.In h ∧ He.SaysD fa fn K ∧ p K = true
  of := fun _ _ e => ⟨_, He.frG_in, (Prod.mk.inj e).1, (Prod.mk.inj e).2⟩
  keeps := fun _ _ _ ⟨K, hK, c⟩ k => ⟨K, PySem.W.Frag.In.keeps hK k, c⟩
theorem obsXG_eq {n : Nat} {fa : List He.Fa} {fn : List He.DefD} {p : PySem.W.Frag → Bool} {g : Addr → Option Obj} {s : Shared} (h : ∀ a, g a = s.heap.get? a) : obsXG n fa fn p g = (hookX n fa fn p).obs s := by
  have e : g = s.heap.get? := funext h
  rw [e] <;> rfl
end DL

/-! DL, part 9: numbers: gcd, fractions as Rat, sizes. -/
namespace DL
open PySem PySem.Spec PyProof.Rows L2
theorem gcd_loop : ∀ (n : Nat) (x y : Nat), y < n → whileN (tb (o2 gtD (vE 1) (cE (.int 0)))) (parF 0 1 (vE 1) (o2 modD (vE 0) (vE 1))) n [some (.int x), some (.int y)] = some (.nx [some (.int (Nat.gcd x y)), some (.int 0)])
  | 0, _, _, h => absurd h (by omega)
  | n + 1, x, y, h => by
    unfold whileN
    by_cases hy : y = 0
    · subst hy; simp
    · have h1 : (0 : Int) < (y : Int) := by omega
      have h2 : 0 < y := by omega
      simp [h1, h2, modD_pos h1]
      have ih := gcd_loop n y (x % y) (by have := Nat.mod_lt x (show 0 < y by omega); omega)
      rw [Nat.gcd_comm x y, Nat.gcd_rec, Nat.gcd_comm]
      simpa using ih
theorem rat_parts (t b : Int) (hb : b ≠ 0) : ∃ g k m : Int, (Int.gcd t b : Int) = g ∧ 0 < g ∧ t = g * k ∧ b = g * m ∧ (Rat.divInt t b).num = (if b < 0 then -k else k) ∧ ((Rat.divInt t b).den : Int) = (if b < 0 then -m else m) := by
  have hg : 0 < Int.gcd t b := Int.gcd_pos_of_ne_zero_right t hb
  obtain ⟨k, hk⟩ := Int.gcd_dvd_left (a := t) (b := b)
  obtain ⟨m, hm⟩ := Int.gcd_dvd_right (a := t) (b := b)
  have hg' : (0 : Int) < (Int.gcd t b : Int) := by omega
  have hn : (Rat.divInt t b).num = b.sign * t / (Int.gcd t b : Int) := by rw [Rat.num_divInt, Int.gcd_comm b t]
  have hd : ((Rat.divInt t b).den : Int) = (b.natAbs : Int) / (Int.gcd t b : Int) := by rw [Rat.den_divInt, if_neg hb, Int.gcd_comm b t, Int.natCast_ediv]
  generalize (Int.gcd t b : Int) = g at *
  refine ⟨g, k, m, rfl, hg', hk, hm, ?_, ?_⟩
  · rw [hn]
    by_cases h : b < 0
    · rw [if_pos h, Int.sign_eq_neg_one_of_neg h, hk, show (-1 : Int) * (g * k) = g * (-k) by grind]
      exact Int.mul_ediv_cancel_left _ (by omega)
    · rw [if_neg h, Int.sign_eq_one_of_pos (by omega), Int.one_mul, hk]
      exact Int.mul_ediv_cancel_left _ (by omega)
  · rw [hd]
    by_cases h : b < 0
    · rw [if_pos h, show ((b.natAbs : Nat) : Int) = -b by omega, hm, show -(g * m) = g * (-m) by grind]
      exact Int.mul_ediv_cancel_left _ (by omega)
    · rw [if_neg h, show ((b.natAbs : Nat) : Int) = b by omega, hm]
      exact Int.mul_ediv_cancel_left _ (by omega)
theorem divB_of {a b : Int} (h0 : b ≠ 0) (h : Builtin.divisionGoesByPylong a b = false) : divB a b = true := by
  unfold divB; rw [h]; simp [h0]
theorem noPyl {a b : Int} (h : Sz 9000 b) (h0 : b ≠ 0) : Builtin.divisionGoesByPylong a b = false :=
  PyProof.noPylong_of_log2 ((Nat.log2_lt (by omega)).mpr h)
theorem gcd_sz {t b : Int} {n : Nat} (hb : b ≠ 0) (h : Sz n b) : Sz n (Int.gcd t b : Int) := by
  unfold Sz at *
  have := Int.gcd_le_natAbs_right t hb
  omega
/-- a fraction's size: both parts below 2 ^ n -/
def Qz (n : Nat) (q : Rat) : Prop := Sz n q.num ∧ Sz n (q.den : Int)
theorem Qz.mono {m n : Nat} {q : Rat} (h : Qz m q) (hmn : m ≤ n) : Qz n q := ⟨h.1.mono hmn, h.2.mono hmn⟩
theorem den_ne (q : Rat) : (q.den : Int) ≠ 0 := by have := q.den_pos; omega
theorem add_divInt (p q : Rat) : Rat.divInt (p.num * q.den + q.num * p.den) (p.den * q.den) = p + q := by
  rw [← Rat.divInt_add_divInt _ _ (den_ne p) (den_ne q), Rat.num_divInt_den, Rat.num_divInt_den]
theorem sub_divInt (p q : Rat) : Rat.divInt (p.num * q.den - q.num * p.den) (p.den * q.den) = p - q := by
  rw [← Rat.divInt_sub_divInt _ _ (den_ne p) (den_ne q), Rat.num_divInt_den, Rat.num_divInt_den]
theorem mul_divInt (p q : Rat) : Rat.divInt (p.num * q.num) (p.den * q.den) = p * q := by
  rw [← Rat.divInt_mul_divInt _ _ , Rat.num_divInt_den, Rat.num_divInt_den]
theorem rat_gcd (q : Rat) : Int.gcd q.num q.den = 1 := by
  have h : q.num.natAbs.gcd q.den = 1 := q.reduced
  rw [Int.gcd, Int.natAbs_natCast]; exact h
theorem divInt_sz {n : Nat} {t b : Int} (hb : b ≠ 0) (ht : Sz n t) (hs : Sz n b) : Qz n (Rat.divInt t b) := by
  obtain ⟨g, k, m, hg, hg0, e1, e2, hn, hd⟩ := rat_parts t b hb
  have h1 : k.natAbs ≤ t.natAbs := by
    rw [e1, Int.natAbs_mul]; exact Nat.le_mul_of_pos_left _ (by omega)
  have h2 : m.natAbs ≤ b.natAbs := by
    rw [e2, Int.natAbs_mul]; exact Nat.le_mul_of_pos_left _ (by omega)
  unfold Qz Sz at *
  rw [hn, hd]
  constructor
  · split
    · omega
    · omega
  · split
    · omega
    · omega
theorem Qz_add {m n : Nat} {p q : Rat} (hp : Qz m p) (hq : Qz n q) : Qz (m + n + 1) (p + q) := by
  rw [← add_divInt]
  refine divInt_sz (Int.mul_ne_zero (den_ne p) (den_ne q)) (((hp.1.mul hq.2).add (hq.1.mul hp.2)).mono (by omega)) ((hp.2.mul hq.2).mono (by omega))
theorem Qz_sub {m n : Nat} {p q : Rat} (hp : Qz m p) (hq : Qz n q) : Qz (m + n + 1) (p - q) := by
  rw [← sub_divInt]
  refine divInt_sz (Int.mul_ne_zero (den_ne p) (den_ne q)) (((hp.1.mul hq.2).sub (hq.1.mul hp.2)).mono (by omega)) ((hp.2.mul hq.2).mono (by omega))
theorem Qz_mul {m n : Nat} {p q : Rat} (hp : Qz m p) (hq : Qz n q) : Qz (m + n) (p * q) := by
  rw [← mul_divInt]
  exact divInt_sz (Int.mul_ne_zero (den_ne p) (den_ne q)) (hp.1.mul hq.1) (hp.2.mul hq.2)
theorem num_eq_of {q : Rat} {t b : Int} (hb : b ≠ 0) (h : q = Rat.divInt t b) : q.num * b = t * q.den := by
  have := (Rat.divInt_eq_divInt_iff (den_ne q) hb).mp ((Rat.num_divInt_den q).trans h)
  exact this
theorem atI_three {α : Type} {a b c : α} {i : Int} (h0 : 0 ≤ i) (h3 : i < 3) : atI [a, b, c] i = some (if i = 0 then a else if i = 1 then b else c) := by
  have : i = 0 ∨ i = 1 ∨ i = 2 := by omega
  rcases this with rfl | rfl | rfl <;> simp
theorem atI_two {α : Type} {a b : α} {i : Int} (h0 : 0 ≤ i) (h3 : i < 2) : atI [a, b] i = some (if i = 0 then a else b) := by
  have : i = 0 ∨ i = 1 := by omega
  rcases this with rfl | rfl <;> simp
theorem den_dvd {t b : Int} (hb : 0 < b) : ∃ m, b = (Rat.divInt t b).den * m ∧ (Rat.divInt t b).num.natAbs ≤ t.natAbs := by
  obtain ⟨g, k, m, hg, hg0, e1, e2, hn, hd⟩ := rat_parts t b (by omega)
  rw [if_neg (by omega)] at hn hd
  refine ⟨g, by rw [hd, e2, Int.mul_comm], ?_⟩
  rw [hn, e1, Int.natAbs_mul]; exact Nat.le_mul_of_pos_left _ (by omega)
theorem rat_num (q : Rat) : q * ((q.den : Int) : Rat) = (q.num : Rat) := by
  have h : ((q.den : Int) : Rat) ≠ 0 := by
    intro z
    have : ((q.den : Int) : Rat) = ((0 : Int) : Rat) := z
    exact den_ne q (Rat.intCast_inj.mp this)
  have e := Rat.num_divInt_den q
  rw [Rat.divInt_eq_div] at e
  have : (q.num : Rat) / ((q.den : Int) : Rat) * ((q.den : Int) : Rat) = q.num := by grind
  rw [e] at this
  exact this
/-- what a fraction's making leaves, whatever the sign -/
theorem lowest_parts {t b : Int} (hb : b ≠ 0) (hs : Sz 9000 b) : ∃ g : Int, (Int.gcd t b : Int) = g ∧
    (if b < 0 then fdivD (.int t) (.int (-g)) = some (.int (Rat.divInt t b).num) ∧ fdivD (.int b) (.int (-g)) = some (.int (Rat.divInt t b).den)
      else fdivD (.int t) (.int g) = some (.int (Rat.divInt t b).num) ∧ fdivD (.int b) (.int g) = some (.int (Rat.divInt t b).den)) := by
  obtain ⟨g, k, m, hg, hg0, ht, hbm, hn, hd⟩ := rat_parts t b hb
  have hgs : Sz 9000 g := hg ▸ gcd_sz hb hs
  refine ⟨g, hg, ?_⟩
  by_cases h : b < 0
  · have hng : Sz 9000 (-g) := hgs.neg
    rw [if_pos h] at hn hd ⊢
    rw [fdivD_i (divB_of (by omega) (noPyl hng (by omega))), fdivD_i (divB_of (by omega) (noPyl hng (by omega))), hn, hd, ht, hbm]
    rw [show g * k = (-g) * (-k) by grind, show g * m = (-g) * (-m) by grind, Int.mul_fdiv_cancel_left _ (by omega), Int.mul_fdiv_cancel_left _ (by omega)]
    simp
  · rw [if_neg h] at hn hd ⊢
    rw [fdivD_i (divB_of (by omega) (noPyl hgs (by omega))), fdivD_i (divB_of (by omega) (noPyl hgs (by omega))), hn, hd, ht, hbm]
    rw [Int.mul_fdiv_cancel_left _ (by omega), Int.mul_fdiv_cancel_left _ (by omega)]
    simp
end DL

/-! DL, part 10: sorted(set(pairs)), whatever the sign of the numbers; list(reversed(x)). -/
namespace DL
open PySem PySem.Spec PyProof.Rows L2
abbrev KT := Addr × List Int
def kx (q : KT) : Int := q.2.getD 0 0
def ky (q : KT) : Int := q.2.getD 1 0
def encT (q : KT) : PyData := .tuple [.int (kx q), .int (ky q)]
theorem reads_ints {h : Heap} : ∀ {us : List Value} {ks : List Int}, IntsAre us ks → ReadsAll h us (ks.map PyData.int) []
  | _, _, .nil => .nil
  | _, _, .cons n t r => .cons (bs := []) (.int n t) (reads_ints r)
theorem reads_tup {h : Heap} {b : Addr} {ks : List Int} (x : TS.TupInts h (.ref b) ks) : Reads h (.ref b) (.tuple (ks.map .int)) [] := by
  obtain ⟨c, us, e, ⟨o, g1, g2, n, g3⟩, i⟩ := x
  cases e
  exact .tuple g1 g2 g3 (reads_ints i)
theorem alike_T (q r : KT) : PySem.W.alike (encT q) (encT r) = true := by
  unfold encT
  rw [PySem.W.alike]
  exact PySem.W.alike_ints [kx q, ky q] [kx r, ky r]
theorem depth_T (q : KT) : (encT q).depth = 1 := by
  unfold encT
  rw [PyData.depth, show PyData.depthAll [PyData.int (kx q), .int (ky q)] = 0 from PySem.W.depth_ints [kx q, ky q]]
theorem each_ref : ∀ (M : List KT), PySem.W.EachIs (fun (v : Value) (q : KT) => v = .ref q.1) (M.map fun q => Value.ref q.1) M
  | [] => .nil
  | _ :: M => .cons rfl (each_ref M)
theorem ref_each : ∀ {us : List Value} {M : List KT}, PySem.W.EachIs (fun (v : Value) (q : KT) => v = .ref q.1) us M → us = M.map fun q => Value.ref q.1
  | _, _, .nil => rfl
  | _, _, .cons e t => by rw [e, ref_each t]; rfl
theorem each_of {R : Value → KT → Prop} : ∀ (M : List KT), (∀ q ∈ M, R (.ref q.1) q) → PySem.W.EachIs R (M.map fun q => Value.ref q.1) M
  | [], _ => .nil
  | q :: M, h => .cons (h q List.mem_cons_self) (each_of M fun r hr => h r (List.mem_cons_of_mem _ hr))
section
variable {P : Program} {w : World} {A : Around} {E : Value → Shared → Prop} {s : Shared}
theorem sorted_setZ {a : Addr} {L : List KT} {es : Array (Int × Value)} {ep : Nat} {t : SetTable} {Q : Value → Shared → Prop} (R : SetTR P w s.heap a L es ep t) (hh : A.handled = none) (hu : A.units + 8 < cLine)
    (hB : ∀ q ∈ L, q.2.length = 2)
    (fin : ∀ s' p (out : Array Value) (c : Nat) (M : List KT), (∀ b o, s.heap.get? b = some o → s'.heap.get? b = some o) → s'.gens = s.gens → s'.os = s.os → s.heap.objs.size ≤ p →
      s'.heap.get? p = some (seqObj "list" out c) → out.toList = M.map (fun q => Value.ref q.1) → (∃ L1 : List KT, L1.Perm L ∧ M = L1.mergeSort (PySem.W.dataLe false encT)) → Q (.ref p) s') :
    wpAny (model P w) A (call (.builtin "sorted") [.ref a]) Q E s := by
  obtain ⟨o, og, ox, od⟩ := R.ob
  have n1 := R.size
  have n2 := R.few
  refine Calls.call_function_entry kind_sorted plain_sorted entry_sorted (args_sorted1 _) ?_
  unfold Builtin.«sorted»
  refine wpAny_bind (m := checkCount "sorted" 1 1 _) (wpAny_pure ?_)
  refine wpAny_bind (collect_set (A := A.in1) hh ⟨o, og, ox.1, od⟩ R.fits (by unfold scanBound; omega) R.tab.ris R.led fun s1 us keep1 sz1 gens1 os1 pm => ?_)
  have hes : es.toList.map (·.2) = L.map fun q => Value.ref q.1 := by
    rw [R.rows]; unfold rowsOf; rw [List.map_map]; rfl
  rw [hes] at pm
  obtain ⟨L1, e1, p1⟩ : ∃ L1 : List KT, us = L1.map (fun q => Value.ref q.1) ∧ L1.Perm L := by
    have hL : ∀ (z : List Value) (M : List KT), z.Perm (M.map fun q => Value.ref q.1) → ∃ L1 : List KT, z = L1.map (fun q => Value.ref q.1) ∧ L1.Perm M := fun z M hp => by
      have key : ∀ (z z' : List Value), z.Perm z' → ∀ M : List KT, z' = M.map (fun q => Value.ref q.1) → ∃ L1 : List KT, z = L1.map (fun q => Value.ref q.1) ∧ L1.Perm M := by
        intro z z' hp
        induction hp with
        | nil => intro M e; exact ⟨M, e, .refl _⟩
        | cons x hp ih =>
          intro M e
          cases M with
          | nil => cases e
          | cons q M =>
            rw [List.map_cons] at e
            injection e with ea eb
            obtain ⟨L1, f1, f2⟩ := ih M eb
            exact ⟨q :: L1, by rw [List.map_cons, ← f1, ea], f2.cons q⟩
        | swap x y l =>
          intro M e
          match M, e with
          | q :: r :: M, e =>
            rw [List.map_cons, List.map_cons] at e
            injection e with ea eb
            injection eb with ec ed
            exact ⟨r :: q :: M, by rw [List.map_cons, List.map_cons, ← ed, ea, ec], .swap _ _ _⟩
        | trans _ _ ih1 ih2 =>
          intro M e
          obtain ⟨L2, f1, f2⟩ := ih2 M e
          obtain ⟨L3, f3, f4⟩ := ih1 L2 f1
          exact ⟨L3, f3, f4.trans f2⟩
      exact key z _ hp M rfl
    exact hL us L pm
  subst e1
  have n3 : L1.length < 64 := by rw [p1.length_eq]; exact n2
  refine wpAny_bind (wpAny_newList ?_ (by first | (rw [List.length_map, sizeLine_eq]; omega) | (rw [List.size_toArray, List.length_map, sizeLine_eq]; omega)))
  have oL : (s1.heap.push (seqObj "list" (L1.map fun q => Value.ref q.1).toArray 0)).get? s1.heap.objs.size = some (seqObj "list" (L1.map fun q => Value.ref q.1).toArray 0) := Heap.get?_push_size _ rfl
  have two : ∀ q ∈ L, encT q = .tuple (q.2.map .int) := fun q hq => by
    have := hB q hq
    obtain ⟨a, l⟩ := q
    match l, this with
    | [x, y], _ => rfl
  have rd : ∀ q ∈ L1, Reads (s1.heap.push (seqObj "list" (L1.map fun q => Value.ref q.1).toArray 0)) (.ref q.1) (encT q) [] := fun q hq => by
    rw [two q (p1.mem_iff.mp hq)]
    exact reads_tup (tupInts_of (P := P) (w := w) (isT_keep (R.tup q (p1.mem_iff.mp hq)) fun b u g => Heap.get?_push_of_some _ (keep1 b u g)))
  refine wpAny_bind (wpAny_holding (PySem.W.list_sort_data (s := { s1 with heap := s1.heap.push (seqObj "list" (L1.map fun q => Value.ref q.1).toArray 0) }) (bs := L1) (enc := encT) (R := fun v q => v = .ref q.1) oL (each_ref L1)
    (each_of L1 fun q hq => ⟨[], rd q hq, by simp⟩) (PySem.W.AllAlike.of alike_T) (.inl fun d hd => ?_) (by rw [sizeLine_eq]; omega) (fun q _ => by rw [depth_T]; first | omega | (show A.in1.units + 1 + 1 < cLine; have : A.in1.units = A.units + 1 := rfl; omega)) fun out _ hout => ?_))
  · obtain ⟨q, hq, rfl⟩ := List.mem_map.mp hd
    exact ⟨_, _, rfl⟩
  · obtain ⟨c, hc⟩ := sortedHeap_at (vs := L1.map fun q => Value.ref q.1) (out := out.toArray) oL
    refine wpAny_pure ⟨_, rfl, fin _ s1.heap.objs.size out.toArray c _ (fun b u g => ?_) gens1 os1 sz1 hc (by rw [List.toList_toArray]; exact ref_each hout) ⟨L1, p1, rfl⟩⟩
    have q := keep1 b u g
    have lt := Heap.lt_size q
    show (sortedHeap (s1.heap.push _) s1.heap.objs.size _ out.toArray).get? b = some u
    rw [sortedHeap_old (Nat.ne_of_lt lt) (by rw [size_push']; exact Nat.lt_succ_of_lt lt)]
    exact Heap.get?_push_of_some _ q
end

/-! ### list(reversed(x)) -/
section
variable {P : Program} {w : World} {A : Around} {E : Value → Shared → Prop} {s : Shared}
theorem extend_rev {R : Result → Shared → Prop} {it l : Addr} {us : Array Value} (hh : A.handled = none) (S : Addr) (c0 : Nat) (hit : s.heap.IsRevIter it l ((us.size : Int) - 1)) (hl : s.heap.IsList l us) (n1 : S ≠ it) (n2 : S ≠ l)
    (hS : s.heap.get? S = some { cls := .type "list", data := .seq #[] c0 }) (hn : us.size ≤ sizeLine)
    (fin : ∀ s' acc c', Moved (S :: [it]) (fun g g' => g' = g) s s' → s'.heap.get? S = some { cls := .type "list", dict := none, data := .seq acc c', slots := #[] } → ItemsOf (fun i v => us[us.size - 1 - i]? = some v) acc us.size → R (.ok (.ret .none)) s') :
    wpAny (model P w) A.in1 (Builtin.List.listExtendWith (.ref S) (.ref it) .none)
      (fun fin s' => match fin with | .done f => R (.ok f) s' | .again c' => c'.quiet = true ∧ codeAny (model P w) A c' R s') (fun e s' => R (.error e) s') s := by
  have W := (Walks.listRev (prog := P) (w := w) (A := A.in1) hh it l (fun e => by
    obtain ⟨o, g, c, _⟩ := hit
    obtain ⟨o2, g2, c2, _⟩ := hl
    rw [e] at g2
    rw [g2] at g
    have z := Option.some.inj g
    rw [z, c] at c2
    injection c2 with c2
    exact absurd c2 (by decide)) us).toS
  have nf : S ∉ [it, l] := by simp only [List.mem_cons, List.not_mem_nil, or_false, not_or]; exact ⟨n1, n2⟩
  have hT : s.TypeIs (.ref it) "list_reverseiterator" := Heap.IsRevIter.typeIs hit
  have h1 : Builtin.List.listSameRef (.ref S) (.ref it) = false := by simp [Builtin.List.listSameRef, n1]
  unfold Builtin.List.listExtendWith
  refine wpAny_bind (wpAny_typeOf hT ?_)
  rw [if_neg (by rw [h1]; decide)]
  refine wpAny_bind (wpAny_pyIter_revIter hit ?_)
  refine wpAny_bind (wpAny_holding ?_)
  unfold Builtin.List.listLengthHint
  refine wpAny_bind (wpAny_specialOf hT RT.nolen_lri ?_)
  show wpAny _ A.in1 (specialOf (Value.ref it) (Str.ofString "__length_hint__") >>= _) _ _ _
  refine wpAny_bind (wpAny_specialOf hT RT.hint_lri ?_)
  generalize hid : ("list_reverseiterator.__length_hint__" : String) = id0
  wp_delta
  rw [show splitId id0 = some ("list_reverseiterator", "__length_hint__") from by subst hid; decide +kernel]
  subst hid
  refine wpAny_bind (wpAny_isInstance (b := true) hT (by rw [isSubtype_type]; kernel_rfl) ?_)
  refine wpAny_pure ?_
  rw [if_neg (by decide)]
  have e0 : ((us.size : Nat) : Int) - 1 - ((0 : Nat) : Int) = (us.size : Int) - 1 := by omega
  refine wpAny_pure ⟨plainId_quiet F.plain_extend_loop _, codeAny_extend_loopS W hn _ nf _ us.size 0 _ _ _ rfl (Nat.zero_le _) ⟨Nat.zero_le _, by rw [e0]; exact hit, hl⟩ hS (ItemsOf.nil _) fun s' acc c' hm hS' hacc => ?_⟩
  exact fin s' acc c' hm hS' hacc
theorem init_rev {R : Result → Shared → Prop} {it l : Addr} {us : Array Value} (hh : A.handled = none) (S : Addr) (hit : s.heap.IsRevIter it l ((us.size : Int) - 1)) (hl : s.heap.IsList l us) (n1 : S ≠ it) (n2 : S ≠ l)
    (hS : s.heap.get? S = some { cls := .type "list", data := .seq #[] }) (hn : us.size ≤ sizeLine)
    (fin : ∀ s' acc c', (∀ b o, b ≠ S → b ≠ it → s.heap.get? b = some o → s'.heap.get? b = some o) → s' = { s with heap := s'.heap, toks := s'.toks } → s'.heap.get? S = some { cls := .type "list", dict := none, data := .seq acc c', slots := #[] } → ItemsOf (fun i v => us[us.size - 1 - i]? = some v) acc us.size → R (.ok (.ret .none)) s') :
    wpAny (model P w) A.in1 (Builtin.«list.__init__» ⟨[.ref S, .ref it], []⟩)
      (fun fin s' => match fin with | .done f => R (.ok f) s' | .again c' => c'.quiet = true ∧ codeAny (model P w) A c' R s') (fun e s' => R (.error e) s') s := by
  show wpAny _ A.in1 (do let old ← Builtin.List.listItems (.ref S); Builtin.List.listUpdate (.ref S) (fun _ => #[]); letGo old.toList.reverse; Builtin.List.listExtendWith (.ref S) (.ref it) .none) _ _ s
  refine wpAny_bind ?_
  unfold Builtin.List.listItems
  refine wpAny_bind (wpAny_seqItems hS rfl (wpAny_pure ?_))
  show wpAny _ A.in1 (updateSeq S (fun _ => #[]) >>= fun _ => letGo (#[] : Array Value).toList.reverse >>= fun _ => Builtin.List.listExtendWith (.ref S) (.ref it) .none) _ _ s
  refine wpAny_bind (wpAny_updateSeq hS rfl ?_)
  have g2 := Heap.get?_update_self (Obj.mapSeq (fun _ => (#[] : Array Value))) hS rfl
  have kp : ∀ b o, b ≠ S → s.heap.get? b = some o → (s.heap.update S (Obj.mapSeq (fun _ => (#[] : Array Value)))).get? b = some o := fun b o hb g => (Heap.get?_update_other _ _ (Ne.symm hb)).trans g
  refine wpAny_bind (wpAny_letGo ?_)
  obtain ⟨ol, gl, rl⟩ := hl
  refine extend_rev (us := us) hh S _ (hit.at fun o g => kp it o n1.symm g) ⟨ol, kp l ol n2.symm gl, rl⟩ n1 n2 g2 hn fun s' acc c' hm hS' hacc => ?_
  have e := Moved.eq_with hm
  refine fin s' acc c' (fun b o hb hb2 g => hm.heap b o (fun hmem => ?_) (kp b o hb g)) e hS' hacc
  rcases List.mem_cons.mp hmem with z | z
  · exact hb z
  · exact hb2 (List.mem_singleton.mp z)
theorem call_list_rev {it l : Addr} {us : Array Value} {Q : Value → Shared → Prop} (hh : A.handled = none) (hit : s.heap.IsRevIter it l ((us.size : Int) - 1)) (hl : s.heap.IsList l us) (hn : us.size ≤ sizeLine)
    (fin : ∀ (h' : Heap) (tk : Nat) (acc : Array Value) (c' : Nat), (∀ b o, b ≠ it → s.heap.get? b = some o → h'.get? b = some o) → h'.get? s.heap.objs.size = some { cls := .type "list", dict := none, data := .seq acc c', slots := #[] } →
      ItemsOf (fun i v => us[us.size - 1 - i]? = some v) acc us.size → Q (.ref s.heap.objs.size) { s with heap := h', toks := tk }) :
    wpAny (model P w) A (call (.type "list") [.ref it]) Q E s := by
  obtain ⟨oi, gi, ri⟩ := id hit
  obtain ⟨ol, gl, rl⟩ := id hl
  have n1 : s.heap.objs.size ≠ it := Nat.ne_of_gt (Heap.lt_size gi)
  have n2 : s.heap.objs.size ≠ l := Nat.ne_of_gt (Heap.lt_size gl)
  refine callType_codes (Q₁ := fun obj s1 => obj = .ref s.heap.objs.size ∧ s1 = { s with heap := s.heap.push { cls := .type "list", data := .seq #[] } }) F.called_list (F.typeCall_list_1 _) F.entry_list_init
    (code_list_new _ ⟨rfl, rfl⟩) fun obj s1 h1 => ?_
  obtain ⟨rfl, rfl⟩ := h1
  have gS : (s.heap.push { cls := .type "list", data := .seq #[] }).get? s.heap.objs.size = some { cls := .type "list", data := .seq #[] } := Heap.get?_push_size _ rfl
  refine ⟨⟨_, gS, rfl⟩, F.args_list_init_2 _ _, init_rev (A := A.in1) (us := us) hh _ (hit.at fun o g => Heap.get?_push_of_some _ g) (hl.push _) n1 n2 gS hn fun s' acc c' kp e g hacc => ?_⟩
  refine ⟨rfl, ?_⟩
  rw [e]
  exact fin s'.heap s'.toks acc c' (fun b o hb gb => kp b o (Nat.ne_of_lt (Heap.lt_size gb)) hb (Heap.get?_push_of_some _ gb)) g hacc
end
def tLRev (K : PySem.W.Frag) (te : TE) : TE := fun σ H Q => te σ H fun v H1 => ∃ (a : Addr) (xs : List V), v = .ref a ∧ SqL K H1 a xs ∧ ∀ q, H1 q = none → Q (.ref q) (upd H1 q (.lst xs.reverse))
section
variable {X : Cx}
theorem pe_lRev {e : Expr} {te : TE} {p p2 pos pos2 : Pos} (hc : X.calm = true) (hg : Gl X "list") (hm : X.mg "list" = none) (hg2 : Gl X "reversed") (hm2 : X.mg "reversed" = none) (he : PE X e te)
    (hs : starEach [e] X.env = (false, eval e X.env) :: starEach [] X.env)
    (hs2 : starEach [.Call (.Name "reversed" p2) [e] [] pos2] X.env = (false, eval (.Call (.Name "reversed" p2) [e] [] pos2) X.env) :: starEach [] X.env) :
    PE X (.Call (.Name "list" p) [.Call (.Name "reversed" p2) [e] [] pos2] [] pos) (tLRev X.K te) := by
  refine ⟨fun pins s σ H Q I h => ?_⟩
  refine Call_ (ld_blt I hg hm (show bootBuiltins (Str.ofString "list") = some (.type "list") by decide +kernel) (PyProof.Rows.callWith_type1 (args_cons (Call_ (ld_blt I hg2 hm2 PyProof.Rows.boot_reversed (PyProof.Rows.callWith_type1 (args_cons (thn (he.run pins s σ H _ I h) fun u s1 ⟨v, H1, I1, r1, q1⟩ => args_nil ?_) hs) hs rfl))) hs2) hs2 rfl))
  obtain ⟨a, xs, ev, hq, q⟩ := q1
  subst ev
  obtain rfl : u = Value.ref a := r1
  obtain ⟨its, rv, pl, hz⟩ := I1.list hq
  refine call_reversed_list pl.isList (args_nil ?_)
  have k0 : ∀ b o, s1.heap.get? b = some o → (s1.heap.push (revObj a ((its.toArray.size : Int) - 1))).get? b = some o := fun b o g => Heap.get?_push_of_some _ g
  have I2 : Inv X pins σ H1 { s1 with heap := s1.heap.push (revObj a ((its.toArray.size : Int) - 1)) } := I1.kept (t' := s1.toks) k0
  obtain ⟨f0, f1, f2, f3, f4, f5⟩ := I1.fpOk (H' := H1) (b := s1.heap.objs.size) (Nat.le_refl _) (I1.hok.fresh (Nat.le_refl _))
  have hn : its.toArray.size ≤ sizeLine := by rw [List.size_toArray, ← rv.length]; exact hz
  have hsz : (s1.heap.push (revObj a ((its.toArray.size : Int) - 1))).objs.size = s1.heap.objs.size + 1 := by rw [Heap.size_push]
  refine call_list_rev (us := its.toArray) (s := { s1 with heap := s1.heap.push (revObj a ((its.toArray.size : Int) - 1)) }) (I1.ok.hd hc) ⟨_, Heap.get?_push_size _ rfl, rfl, rfl⟩ (pl.isList.push _) hn fun h' tk acc c' kp gS hacc => ?_
  rw [hsz] at gS ⊢
  have hv : Vals xs.reverse acc.toList := RT.vals_rev rv hacc
  have I3 : Inv X pins σ H1 { s1 with heap := s1.heap, toks := tk } := I1.kept (t' := tk) fun _ _ g => g
  have I4 := I1.laid (t' := tk) (a := s1.heap.objs.size + 1) (o := .lst xs.reverse) (h' := h') (fun b o g => kp b o (Nat.ne_of_lt (Heap.lt_size g)) (k0 b o g)) (Nat.le_succ _)
    (show ObjOk X.prog X.w _ h' _ (.lst xs.reverse) from ⟨by rw [List.length_reverse]; exact hz, acc.toList, c', hv, by rw [Array.toArray_toList]; exact gS⟩)
  exact ⟨.ref (s1.heap.objs.size + 1), upd H1 (s1.heap.objs.size + 1) (.lst xs.reverse), I4, rfl, q _ (I1.hok.fresh (Nat.le_succ _))⟩
end

/-! ### in the D layer -/
def rSortZ (K : PySem.W.Frag) (P : Program) (w : World) : List V → Hp → VK → Prop := fun vs H Q => ∃ (a : Addr) (L : List KT), vs = [V.ref a] ∧ H a = some (SetTO P w a L) ∧ (∀ q ∈ L, SqT K H q.1 (q.2.map V.int)) ∧ (∀ q ∈ L, q.2.length = 2) ∧
  ∀ (M : List KT) (p : Addr), (∃ L1 : List KT, L1.Perm L ∧ M = L1.mergeSort (PySem.W.dataLe false encT)) → (L.map (·.2)).Nodup → H p = none → Q (.ref p) (upd H p (.lst (M.map fun q => V.ref q.1)))
section
variable {X : Cx}
theorem cr_sortZ (hc : X.calm = true) (hu : X.A.units + 8 < cLine) : CallR X (.builtin "sorted") (rSortZ X.K X.prog X.w) := by
  intro pins s σ H vs us Q I r h
  obtain ⟨a, L, rfl, ga, gk, hB, q⟩ := h
  have R0 : SetT0 X.prog X.w s.heap a L := (I.hok a _ ga).1
  obtain ⟨es, ep, t, R⟩ := R0.full fun p hp => I.isT (gk p hp)
  rw [Vals.ref1 r]
  refine sorted_setZ R (I.ok.hd hc) hu hB fun s' p out c M kp g o hp hg hout hM => ?_
  have len : M.length < 64 := by
    obtain ⟨L1, p1, e⟩ := hM
    rw [e, List.length_mergeSort, p1.length_eq]; exact R.few
  have hlen : (M.map fun q => V.ref q.1).length ≤ sizeLine := by rw [List.length_map, sizeLine_eq]; omega
  have hn : H p = none := I.hok.fresh hp
  have hv : Vals (M.map fun q => V.ref q.1) out.toList := by rw [hout]; exact vals_of_refs M
  have J : Inv X pins σ (upd H p (.lst (M.map fun q => V.ref q.1))) { s with heap := s'.heap, gens := s'.gens, drawn := s'.drawn, toks := s'.toks } :=
    I.call (ch := []) (Un.laid kp hp hn) (I.hok.laid kp hp ⟨hlen, out.toList, c, hv, hg⟩) (by rw [g]; exact I.bare) (fun _ z => nomatch z)
  have e : s' = { s with heap := s'.heap, gens := s'.gens, drawn := s'.drawn, toks := s'.toks } := by
    cases s'; cases s; cases o; rfl
  rw [e]
  exact ⟨.ref p, _, J, rfl, q M p hM R.nd hn⟩
end
def pairD : D → Option (Int × Int)
  | .tuple [.int a, .int b] => some (a, b)
  | _ => none
def pairsD : List D → Option (List (Int × Int))
  | [] => some []
  | d :: ds => (pairD d).bind fun p => (pairsD ds).map (p :: ·)
def ptD (p : Int × Int) : D := .tuple [.int p.1, .int p.2]
def lexB (p q : Int × Int) : Bool := decide (p.1 < q.1 ∨ (p.1 = q.1 ∧ p.2 ≤ q.2))
def sset (ps : List (Int × Int)) : List (Int × Int) := ps.eraseDups.mergeSort lexB
def sortsetD : D → Option (List D)
  | .list ds => (pairsD ds).bind fun ps => if ps.length < 64 then some ((sset ps).map ptD) else none
  | _ => none
def revD : D → Option (List D)
  | .list ds => some ds.reverse
  | _ => none
theorem pairD_inv {d : D} {p : Int × Int} (h : pairD d = some p) : d = ptD p := by
  unfold pairD at h
  split at h
  · cases h; rfl
  · cases h
theorem pairsD_inv : ∀ {ds : List D} {ps : List (Int × Int)}, pairsD ds = some ps → ds = ps.map ptD
  | [], ps, h => by cases h; rfl
  | d :: ds, ps, h => by
    unfold pairsD at h
    cases e : pairD d with
    | none => rw [e] at h; cases h
    | some p =>
      cases e2 : pairsD ds with
      | none => rw [e, e2] at h; cases h
      | some qs =>
        rw [e, e2] at h
        cases h
        rw [pairD_inv e, pairsD_inv e2]; rfl
theorem pairsD_pt : ∀ (ps : List (Int × Int)), pairsD (ps.map ptD) = some ps
  | [] => rfl
  | p :: ps => by show (pairD (ptD p)).bind _ = _; rw [show pairD (ptD p) = some p from rfl, pairsD_pt ps]; rfl
theorem lexB_trans (a b c : Int × Int) (h1 : lexB a b = true) (h2 : lexB b c = true) : lexB a c = true := by
  unfold lexB at *; simp only [decide_eq_true_eq] at *; omega
theorem lexB_total (a b : Int × Int) : (lexB a b || lexB b a) = true := by
  unfold lexB; simp only [Bool.or_eq_true, decide_eq_true_eq]; omega
theorem lexB_anti {a b : Int × Int} (h1 : lexB a b = true) (h2 : lexB b a = true) : a = b := by
  unfold lexB at *; simp only [decide_eq_true_eq] at *
  obtain ⟨x, y⟩ := a; obtain ⟨z, w⟩ := b
  simp only [Prod.mk.injEq] at *; omega
theorem sset_sorted (ps : List (Int × Int)) : (sset ps).Pairwise fun a b => lexB a b = true := List.pairwise_mergeSort lexB_trans lexB_total _
theorem mem_sset {ps : List (Int × Int)} {p : Int × Int} : p ∈ sset ps ↔ p ∈ ps := by unfold sset; rw [List.mem_mergeSort, List.mem_eraseDups]
theorem nodup_dups : ∀ (n : Nat) (ps : List (Int × Int)), ps.length ≤ n → ps.eraseDups.Nodup
  | _, [], _ => by simp
  | 0, _ :: _, h => by simp at h
  | n + 1, p :: ps, h => by
    rw [List.eraseDups_cons, List.nodup_cons]
    refine ⟨fun hm => ?_, nodup_dups n _ (Nat.le_trans (List.length_filter_le _ _) (by simpa using h))⟩
    rw [List.mem_eraseDups, List.mem_filter] at hm
    simp at hm
theorem sset_nodup (ps : List (Int × Int)) : (sset ps).Nodup := ((List.mergeSort_perm _ _).nodup_iff).mpr (nodup_dups _ _ (Nat.le_refl _))
theorem sorted_uniq {as bs : List (Int × Int)} (n1 : as.Nodup) (n2 : bs.Nodup) (s1 : as.Pairwise fun a b => lexB a b = true) (s2 : bs.Pairwise fun a b => lexB a b = true) (h : ∀ x, x ∈ as ↔ x ∈ bs) : as = bs :=
  List.Perm.eq_of_pairwise (fun a b _ _ h1 h2 => lexB_anti h1 h2) s1 s2 ((List.perm_ext_iff_of_nodup n1 n2).mpr h)
def kp (q : KT) : Int × Int := (kx q, ky q)
theorem merge_keys {L L1 : List KT} {ps : List (Int × Int)} (p1 : L1.Perm L) (nd : (L.map (·.2)).Nodup) (hB : ∀ q ∈ L, q.2.length = 2) (hm : ∀ x, x ∈ L.map kp ↔ x ∈ ps) :
    (L1.mergeSort (PySem.W.dataLe false encT)).map kp = sset ps := by
  have e : PySem.W.dataLe false encT = fun a b => lexB (kp a) (kp b) := PySem.W.dataLe_ii kx ky
  have s1 : ((L1.mergeSort (PySem.W.dataLe false encT)).map kp).Pairwise fun a b => lexB a b = true := by
    rw [List.pairwise_map, e]
    exact List.pairwise_mergeSort (le := fun a b => lexB (kp a) (kp b)) (fun a b c => lexB_trans (kp a) (kp b) (kp c)) (fun a b => lexB_total (kp a) (kp b)) _
  have pm : ((L1.mergeSort (PySem.W.dataLe false encT)).map kp).Perm (L.map kp) := ((List.mergeSort_perm _ _).trans p1).map kp
  have n1 : (L.map kp).Nodup := by
    have inj : ∀ q ∈ L, ∀ r ∈ L, kp q = kp r → q.2 = r.2 := fun q hq r hr h => by
      have l1 := hB q hq
      have l2 := hB r hr
      obtain ⟨_, q⟩ := q
      obtain ⟨_, r⟩ := r
      match q, r, l1, l2 with
      | [a, b], [c, d], _, _ => unfold kp kx ky at h; simp at h; simp [h]
    refine List.pairwise_map.mpr (List.Pairwise.imp_of_mem (fun {q r} hq hr hne h => hne (inj q hq r hr h)) (List.pairwise_map.mp nd))
  exact sorted_uniq (pm.nodup_iff.mpr n1) (sset_nodup ps) s1 (sset_sorted ps) fun x => by rw [pm.mem_iff, hm, mem_sset]
end DL

/-! DL, part 11: the rules of part 10 for derivations. -/
namespace DL
open PySem PySem.Spec PyProof.Rows L2
section
variable {X : Cx} {O : List Nat} {e : Expr} {f : EF} {pos p p2 pos2 : Pos}
theorem n_listrev (ha : DR X O e f) (hm : X.mg "list" = none) (hm2 : X.mg "reversed" = none) (hc : X.calm = true := by rfl) (hg : Gl X "list" := by rfl) (hg2 : Gl X "reversed" := by rfl)
    (hs : starEach [e] X.env = (false, eval e X.env) :: starEach [] X.env := by rfl)
    (hs2 : starEach [.Call (.Name "reversed" p2) [e] [] pos2] X.env = (false, eval (.Call (.Name "reversed" p2) [e] [] pos2) X.env) :: starEach [] X.env := by rfl) :
    DN X O (.Call (.Name "list" p) [.Call (.Name "reversed" p2) [e] [] pos2] [] pos) (o1L revD f) := by
  obtain ⟨t, pt, rd⟩ := ha
  refine ⟨_, pe_lRev hc hg hm hg2 hm2 pt hs hs2, fun G σ H F ρ ds Q s hf q => ?_⟩
  unfold o1L at hf
  cases e1 : f ρ with
  | none => rw [e1] at hf; cases hf
  | some c =>
    rw [e1] at hf
    simp only [Option.bind_some] at hf
    cases c <;> simp [revD] at hf
    subst hf
    refine rd G σ H F ρ _ _ s e1 fun v H1 F1 g1 r1 => ?_
    obtain ⟨a, vs, rfl, h1, h2⟩ := r1.lst_inv g1.fh
    exact ⟨a, vs, rfl, h1, fun z hz => q z _ _ F1 (g1.trans (Grow.newOwn g1.fh hz)) (free_of g1.hh hz) upd_same (free_of g1.fh hz) (dpA_rev h2)⟩
theorem dp_int {K : PySem.W.Frag} {F : Hp} {v : V} {i : Int} (h : Dp K F v (.int i)) : v = .int i := (Rep.dat h).int_inv
theorem dpA_nil {K : PySem.W.Frag} {F : Hp} {vs : List V} (h : DpAll K F vs []) : vs = [] := List.length_eq_zero_iff.mp (dpA_length h)
theorem dpA_cons {K : PySem.W.Frag} {F : Hp} {vs : List V} {d : D} {ds : List D} (h : DpAll K F vs (d :: ds)) : ∃ v ws, vs = v :: ws ∧ Dp K F v d ∧ DpAll K F ws ds := by
  cases h with | cons a b => exact ⟨_, _, rfl, a, b⟩
theorem dp_pair {K : PySem.W.Frag} {F : Hp} {v : V} {p : Int × Int} (h : Dp K F v (ptD p)) : ∃ a, v = .ref a ∧ SqT K F a [V.int p.1, V.int p.2] := by
  unfold ptD at h
  obtain ⟨a, xs, e, q, r⟩ := (Rep.dat h).tup_inv
  obtain ⟨v1, w1, e1, r1, r⟩ := dpA_cons r
  obtain ⟨v2, w2, e2, r2, r⟩ := dpA_cons r
  have e3 := dpA_nil r
  rw [e1, e2, e3, dp_int r1, dp_int r2] at q
  exact ⟨a, e, q⟩
def mkT (a : Addr) (p : Int × Int) : KT := (a, [p.1, p.2])
theorem kp_mk (a : Addr) (p : Int × Int) : kp (mkT a p) = p := rfl
def TupAt (K : PySem.W.Frag) (F : Hp) (q : KT) : Prop := SqT K F q.1 (q.2.map V.int) ∧ q.2.length = 2
theorem mk_at {K : PySem.W.Frag} {F : Hp} {a : Addr} {p : Int × Int} (h : SqT K F a [V.int p.1, V.int p.2]) : TupAt K F (mkT a p) := ⟨h, rfl⟩
theorem keys_of {K : PySem.W.Frag} {F : Hp} (ps : List (Int × Int)) : ∀ {vs : List V}, DpAll K F vs (ps.map ptD) → ∃ ks : List KT, vs = ks.map (fun q => V.ref q.1) ∧ (∀ q ∈ ks, TupAt K F q) ∧ ks.map kp = ps := by
  induction ps with
  | nil => intro vs h; exact ⟨[], dpA_nil h, fun q hq => absurd hq (by simp), rfl⟩
  | cons p ps ih =>
    intro vs h
    rw [List.map_cons] at h
    obtain ⟨v, ws, e, r1, r2⟩ := dpA_cons h
    obtain ⟨a, ea, q⟩ := dp_pair r1
    obtain ⟨ks, ek, hk, em⟩ := ih r2
    refine ⟨mkT a p :: ks, by rw [e, ea, ek]; rfl, fun z hz => ?_, by rw [List.map_cons, em, kp_mk]⟩
    rcases List.mem_cons.mp hz with hz | hz
    · rw [hz]; exact mk_at q
    · exact hk z hz
theorem at_dp {K : PySem.W.Frag} {F : Hp} {q : KT} (h : TupAt K F q) : Dp K F (.ref q.1) (ptD (kp q)) := by
  obtain ⟨h0, h1⟩ := h
  obtain ⟨a, l⟩ := q
  simp only at h0 h1 ⊢
  obtain ⟨x, l, rfl⟩ : ∃ x m, l = x :: m := by cases l with
    | nil => cases h1
    | cons x m => exact ⟨x, m, rfl⟩
  obtain ⟨y, l, rfl⟩ : ∃ x m, l = x :: m := by cases l with
    | nil => simp at h1
    | cons x m => exact ⟨x, m, rfl⟩
  have : l = [] := by cases l with
    | nil => rfl
    | cons x m => simp at h1
  subst this
  exact .tup h0 (.cons (.int x) (.cons (.int y) .nil))
theorem dp_keys {K : PySem.W.Frag} {F : Hp} (M : List KT) (h : ∀ q ∈ M, TupAt K F q) : DpAll K F (M.map fun q => V.ref q.1) ((M.map kp).map ptD) := by
  induction M with
  | nil => exact .nil
  | cons q M ih => exact .cons (at_dp (h q List.mem_cons_self)) (ih fun q hq => h q (List.mem_cons_of_mem _ hq))
theorem n_sortset {k : Nat} (hr : Room k X.A) (ha : DR X O e f) (hm : X.mg "sorted" = none) (hm2 : X.mg "set" = none) (hc : X.calm = true := by rfl) (hg : Gl X "sorted" := by rfl) (hg2 : Gl X "set" := by rfl)
    (hs : starEach [e] X.env = (false, eval e X.env) :: starEach [] X.env := by rfl)
    (hs2 : starEach [.Call (.Name "set" p2) [e] [] pos2] X.env = (false, eval (.Call (.Name "set" p2) [e] [] pos2) X.env) :: starEach [] X.env := by rfl)
    (hpl : (backTo pos2 (starEach [] X.env)).any (·.1) = false := by rfl) (hpl2 : (backTo pos (starEach [] X.env)).any (·.1) = false := by rfl) :
    DN X O (.Call (.Name "sorted" p) [.Call (.Name "set" p2) [e] [] pos2] [] pos) (o1L sortsetD f) := by
  obtain ⟨t, pt, rd⟩ := ha
  have hu := hr.units
  refine ⟨_, pe_callB (cr_sortZ hc (by omega)) hg hm (by decide +kernel) (pa_one (pe_callTy (cr_setOfT hc (by omega)) hg2 hm2 (by decide +kernel) (pa_one pt hs) (by decide) (by decide) hs hpl) hs2) (by decide) (by decide) hs2 hpl2, fun G σ H F ρ ds Q s hf q => ?_⟩
  unfold o1L at hf
  cases e1 : f ρ with
  | none => rw [e1] at hf; cases hf
  | some c =>
    rw [e1] at hf
    simp only [Option.bind_some] at hf
    cases c with
    | list cs =>
      unfold sortsetD at hf
      dsimp only at hf
      cases e2 : pairsD cs with
      | none => rw [e2] at hf; cases hf
      | some ps =>
        rw [e2] at hf
        simp only [Option.bind_some] at hf
        split at hf
        · rename_i h64
          cases hf
          obtain rfl := pairsD_inv e2
          refine rd G σ H F ρ _ _ s e1 fun v H1 F1 g1 r1 => ?_
          obtain ⟨a, vs, rfl, h1, h2⟩ := r1.lst_inv g1.fh
          obtain ⟨ks, rfl, hk, ek⟩ := keys_of ps h2
          have h3 : ks.length < 64 := by
            have := congrArg List.length ek
            rw [List.length_map] at this
            omega
          refine ⟨a, ks, rfl, h1, fun z hz => same_sqT g1.fh (hk z hz).1, h3, fun b L hb sub all => ?_⟩
          have m2 : ∀ z ∈ L, TupAt X.K F1 z := fun z hz => hk z (sub z hz)
          refine ⟨b, L, rfl, upd_same, fun z hz => same_sqT (same_trans g1.fh (same_upd hb)) (m2 z hz).1, fun z hz => (m2 z hz).2, fun M z hM nd hz => ?_⟩
          obtain ⟨L1, p1, rfl⟩ := hM
          have g2 : Grow F1 H1 F1 (upd H1 b (SetTO X.prog X.w b L)) := Grow.newOwn g1.fh hb
          have g3 := Grow.newOwn (o := .lst ((L1.mergeSort (PySem.W.dataLe false encT)).map fun q => V.ref q.1)) g2.fh hz
          have gg := g1.trans (g2.trans g3)
          refine q z _ _ F1 gg (free_of g1.hh (free_of g2.hh hz)) upd_same (free_of g2.fh hz) ?_
          have mk := merge_keys (ps := ps) p1 nd (fun z hz => (m2 z hz).2) fun x => ⟨fun hx => ?_, fun hx => ?_⟩
          · rw [← mk]
            refine dp_keys _ fun z hz => ?_
            rw [List.mem_mergeSort] at hz
            exact m2 z (p1.mem_iff.mp hz)
          · obtain ⟨z, hz, rfl⟩ := List.mem_map.mp hx
            rw [← ek]; exact List.mem_map.mpr ⟨z, sub z hz, rfl⟩
          · rw [← ek] at hx
            obtain ⟨z, hz, rfl⟩ := List.mem_map.mp hx
            obtain ⟨w, hw, e⟩ := List.mem_map.mp (all z hz)
            exact List.mem_map.mpr ⟨w, hw, by unfold kp kx ky; rw [e]⟩
        · cases hf
    | _ => cases hf
end
@[simp] theorem o1L_e {op : D → Option (List D)} {f : EF} {r : Rho} : o1L op f r = (f r).bind op := rfl
@[simp] theorem revD_l {ds : List D} : revD (.list ds) = some ds.reverse := rfl
theorem sortsetD_pts {ps : List (Int × Int)} (h : ps.length < 64) : sortsetD (.list (ps.map ptD)) = some ((sset ps).map ptD) := by
  show (pairsD _).bind _ = _
  rw [pairsD_pt]; simp [h]
end DL

/-! DL, part 12: points, stacks, the chain. -/
namespace DL
open PySem PySem.Spec PyProof.Rows L2
abbrev Pt := Int × Int
def lenAt (ρ : Rho) (i : Nat) : Nat := match getv ρ i with
  | some (.list ds) => ds.length
  | _ => 0
@[simp] theorem plain_ptD {p : Pt} : plainD (ptD p) = true := rfl
@[simp] theorem ix0_ptD {p : Pt} : ixD (ptD p) (.int 0) = some (.int p.1) := by unfold ptD; simp
@[simp] theorem ix1_ptD {p : Pt} : ixD (ptD p) (.int 1) = some (.int p.2) := by unfold ptD; simp
@[simp] theorem tupG_ptD {p : Pt} {g : TgsF} {r : Rho} : tupG 2 g (ptD p) r = g [.int p.1, .int p.2] r := by unfold ptD; simp
theorem ptD_mk {a b : Int} : PyData.tuple [.int a, .int b] = ptD (a, b) := rfl
theorem atI_neg {α : Type} {xs : List α} {k : Nat} (h0 : 0 < k) (h : k ≤ xs.length) : atI xs (-(k : Int)) = xs[xs.length - k]? := by
  unfold atI ixN
  rw [if_neg (by omega), if_pos (by omega)]
  simp only [Option.bind_some]
  congr 1
  omega
theorem atI_m1 {α : Type} {b : α} {r : List α} : atI (b :: r).reverse (-1) = some b := by
  rw [show (-1 : Int) = -((1 : Nat) : Int) by rfl, atI_neg (by decide) (by simp), List.getElem?_reverse (by simp)]
  simp
theorem atI_m2 {α : Type} {a b : α} {r : List α} : atI (b :: a :: r).reverse (-2) = some a := by
  rw [show (-2 : Int) = -((2 : Nat) : Int) by rfl, atI_neg (by decide) (by simp), List.getElem?_reverse (by simp; omega)]
  simp
theorem cutD_m1 {xs : List D} : cutD xs none (some (-1)) = xs.dropLast := by
  unfold cutD
  rw [List.dropLast_eq_take]
  have : HT.sIx xs.length 0 none = 0 := rfl
  rw [this]
  have h2 : HT.sIx xs.length xs.length (some (-1)) = xs.length - 1 := by
    show (if (-1 : Int) < 0 then ((-1 : Int) + (xs.length : Int)).toNat else min (-1 : Int).toNat xs.length) = _
    rw [if_pos (by decide)]; omega
  rw [h2]; simp
def bendZ (a b c : Pt) : Int := (b.1 - a.1) * (c.2 - a.2) - (b.2 - a.2) * (c.1 - a.1)
/-- the stack, its top first -/
def popS : List Pt → Pt → List Pt
  | b :: a :: r, p => if bendZ a b p ≤ 0 then popS (a :: r) p else b :: a :: r
  | st, _ => st
def stepS (st : List Pt) (p : Pt) : List Pt := p :: popS st p
def chainS (ps : List Pt) : List Pt := ps.foldl stepS []
def chainP (ps : List Pt) : List Pt := (chainS ps).reverse
def ringP (ps : List Pt) : List Pt := (chainP (sset ps)).dropLast ++ (chainP (sset ps).reverse).dropLast
theorem popS_len : ∀ (st : List Pt) (p : Pt), (popS st p).length ≤ st.length
  | [], _ => Nat.le_refl _
  | [_], _ => Nat.le_refl _
  | b :: a :: r, p => by
    unfold popS
    split
    · exact Nat.le_trans (popS_len (a :: r) p) (by simp)
    · exact Nat.le_refl _
theorem popS_mem : ∀ (st : List Pt) (p q : Pt), q ∈ popS st p → q ∈ st
  | [], _, _, h => h
  | [_], _, _, h => h
  | b :: a :: r, p, q, h => by
    unfold popS at h
    split at h
    · exact List.mem_cons_of_mem _ (popS_mem (a :: r) p q h)
    · exact h
def Pz (n : Nat) (p : Pt) : Prop := Sz n p.1 ∧ Sz n p.2
theorem chain_fold (ps : List Pt) (st : List Pt) : (ps.foldl stepS st).length ≤ ps.length + st.length ∧ ∀ q ∈ ps.foldl stepS st, q ∈ ps ∨ q ∈ st := by
  induction ps generalizing st with
  | nil => exact ⟨by simp, fun q hq => .inr hq⟩
  | cons p ps ih =>
    obtain ⟨h1, h2⟩ := ih (stepS st p)
    refine ⟨?_, fun q hq => ?_⟩
    · have := popS_len st p
      simp only [List.foldl_cons, stepS, List.length_cons] at *
      omega
    · rcases h2 q hq with h | h
      · exact .inl (List.mem_cons_of_mem _ h)
      · rcases List.mem_cons.mp h with h | h
        · exact .inl (h ▸ List.mem_cons_self)
        · exact .inr (popS_mem _ _ _ h)
theorem chainP_len (ps : List Pt) : (chainP ps).length ≤ ps.length := by
  have := (chain_fold ps []).1
  unfold chainP chainS; rw [List.length_reverse]; simpa using this
theorem chainP_mem {ps : List Pt} {q : Pt} (h : q ∈ chainP ps) : q ∈ ps := by
  unfold chainP chainS at h
  rw [List.mem_reverse] at h
  rcases (chain_fold ps []).2 q h with h | h
  · exact h
  · cases h
theorem sset_len (ps : List Pt) : (sset ps).length ≤ ps.length := by
  have h : ∀ (n : Nat) (l : List Pt), l.length ≤ n → l.eraseDups.length ≤ l.length := by
    intro n
    induction n with
    | zero => intro l h; have : l = [] := List.length_eq_zero_iff.mp (by omega); subst this; simp
    | succ n ih =>
      intro l h
      cases l with
      | nil => simp
      | cons p l =>
        rw [List.eraseDups_cons]
        have hf := List.length_filter_le (fun b => !b == p) l
        have := ih (l.filter fun b => !b == p) (by simp at h; omega)
        simp only [List.length_cons]; omega
  unfold sset
  rw [List.length_mergeSort]
  exact h _ ps (Nat.le_refl _)
theorem ringP_len (ps : List Pt) : (ringP ps).length ≤ 2 * ps.length := by
  unfold ringP
  have h1 := chainP_len (sset ps)
  have h2 := chainP_len (sset ps).reverse
  have h3 := sset_len ps
  simp only [List.length_append, List.length_dropLast, List.length_reverse] at *
  omega
theorem ringP_mem {ps : List Pt} {q : Pt} (h : q ∈ ringP ps) : q ∈ ps := by
  unfold ringP at h
  rcases List.mem_append.mp h with h | h
  · exact mem_sset.mp (chainP_mem (List.dropLast_subset _ h))
  · exact mem_sset.mp (List.mem_reverse.mp (chainP_mem (List.dropLast_subset _ h)))
end DL
namespace DL
open PySem PySem.Spec PyProof.Rows L2
theorem compL_map {α : Type} {enc out : α → D} {g : TgF} {c : BF} {f : EF} {ρ : Rho} : ∀ (xs : List α), (∀ a ∈ xs, ∃ ρ2, g (enc a) ρ = some ρ2 ∧ c ρ2 = some true ∧ f ρ2 = some (out a) ∧ plainD (out a) = true) → compL g c f ρ (xs.map enc) = some (xs.map out)
  | [], _ => rfl
  | a :: xs, h => by
    obtain ⟨ρ2, h1, h2, h3, h4⟩ := h a List.mem_cons_self
    rw [List.map_cons]
    unfold compL
    rw [h1, Option.bind_some, h2, Option.bind_some, if_pos rfl, h3, Option.bind_some, if_pos h4, compL_map xs fun b hb => h b (List.mem_cons_of_mem _ hb)]
    rfl
abbrev Spot := Rat × Rat
def spD (p : Spot) : D := .tuple [frQ p.1, frQ p.2]
@[simp] theorem plain_spD {p : Spot} : plainD (spD p) = true := rfl
@[simp] theorem ix0_spD {p : Spot} : ixD (spD p) (.int 0) = some (frQ p.1) := by unfold spD; simp
@[simp] theorem ix1_spD {p : Spot} : ixD (spD p) (.int 1) = some (frQ p.2) := by unfold spD; simp
@[simp] theorem tupG_spD {p : Spot} {g : TgsF} {r : Rho} : tupG 2 g (spD p) r = g [frQ p.1, frQ p.2] r := by unfold spD; simp
theorem spD_mk {a b : Rat} : PyData.tuple [frQ a, frQ b] = spD (a, b) := rfl
def Spz (n : Nat) (p : Spot) : Prop := Qz n p.1 ∧ Qz n p.2
theorem shaped_spD {p : Spot} : SeqAt.shaped (spD p) = true := rfl
end DL
namespace DL
open PySem PySem.Spec PyProof.Rows L2
theorem eqv_spD {p q : Spot} : PyData.eqv (spD p) (spD q) = decide (p = q) := by
  unfold spD
  simp only [PyData.eqv, PyData.eqvAll, eqv_frQ, Bool.and_true]
  rw [← Bool.decide_and]
  exact decide_eq_decide.mpr ⟨fun h => Prod.ext h.1 h.2, fun h => by rw [h]; exact ⟨rfl, rfl⟩⟩
theorem eqvAll_spD : ∀ {xs ys : List Spot}, PyData.eqvAll (xs.map spD) (ys.map spD) = decide (xs = ys)
  | [], [] => rfl
  | [], _ :: _ => by simp [PyData.eqvAll]
  | _ :: _, [] => by simp [PyData.eqvAll]
  | x :: xs, y :: ys => by
    rw [List.map_cons, List.map_cons, PyData.eqvAll, eqv_spD, eqvAll_spD, ← Bool.decide_and]
    exact decide_eq_decide.mpr ⟨fun h => by rw [h.1, h.2], fun h => by injection h with a b; exact ⟨a, b⟩⟩
theorem lay_sps : ∀ (xs : List Spot), PyData.canLayAll0 (xs.map spD) = true
  | [] => rfl
  | x :: xs => by rw [List.map_cons, PyData.canLayAll0, lay_sps xs]; rfl
theorem depth_spD {p : Spot} : (spD p).depth = 2 := by simp [spD, frQ, PyData.depth, PyData.depthAll]
theorem depth_sps : ∀ (xs : List Spot), PyData.depthAll (xs.map spD) ≤ 2
  | [] => by simp [PyData.depthAll]
  | x :: xs => by
    have := depth_sps xs
    rw [List.map_cons, PyData.depthAll, depth_spD]; omega
theorem shaped_list {xs : List Spot} : SeqAt.shaped (.list (xs.map spD)) = true := by
  have h := depth_sps xs
  have h2 := lay_sps xs
  unfold SeqAt.shaped
  rw [PyData.canLay0, h2, PyData.depth, Bool.true_and]
  exact decide_eq_true (by omega)
theorem eqD_sps {xs ys : List Spot} : eqD (.list (xs.map spD)) (.list (ys.map spD)) = some (.bool (decide (xs = ys))) := by
  unfold eqD
  rw [if_pos ⟨shaped_list, shaped_list⟩, PyData.eqv, eqvAll_spD]
theorem neD_sps {xs ys : List Spot} : neD (.list (xs.map spD)) (.list (ys.map spD)) = some (.bool (!decide (xs = ys))) := by
  unfold neD
  rw [if_pos ⟨shaped_list, shaped_list⟩, PyData.eqv, eqvAll_spD]
@[simp] theorem eqD_fr {p q : Rat} : eqD (frQ p) (frQ q) = some (.bool (decide (p = q))) := by
  unfold eqD
  rw [if_pos ⟨shaped_frQ, shaped_frQ⟩, eqv_frQ]
@[simp] theorem neD_fr {p q : Rat} : neD (frQ p) (frQ q) = some (.bool (!decide (p = q))) := by
  unfold neD
  rw [if_pos ⟨shaped_frQ, shaped_frQ⟩, eqv_frQ]
@[simp] theorem listD_l {ds : List D} : listD (.list ds) = some ds := rfl
@[simp] theorem isD_nn : isD .none .none = some (.bool true) := rfl
theorem Spz.mono {m n : Nat} {p : Spot} (h : Spz m p) (hmn : m ≤ n) : Spz n p := ⟨h.1.mono hmn, h.2.mono hmn⟩
theorem rat_num_zero_le {q : Rat} (h : ¬ 0 < q.num) : q.num ≤ 0 := Int.not_lt.mp h
end DL

noncomputable section
namespace Lw
open PySem PySem.Spec PyProof.Rows L2 DL
def top (i : Nat) : Stmt := PySem.Challenge.pw_snugfit_k17_no_size.main.body.getD i (.Pass ⟨0, 0, 0, 0⟩)
abbrev s_divisor : Stmt := top 6
abbrev s_ratio : Stmt := top 7
abbrev s_times : Stmt := top 8
abbrev s_sized : Stmt := top 10
abbrev s__law_cell_at : Stmt := top 12
abbrev s__law_whole : Stmt := top 13
abbrev s__law_block : Stmt := top 14
abbrev s__law_mixed : Stmt := top 15
abbrev s__law_divisor : Stmt := top 16
abbrev s__law_lowest : Stmt := top 17
abbrev s__law_is_fraction : Stmt := top 18
abbrev s__law_points : Stmt := top 19
abbrev s__law_turn : Stmt := top 20
abbrev s__law_ring : Stmt := top 21
abbrev s__law_shape : Stmt := top 22
abbrev s__law_caught : Stmt := top 23
abbrev s__law_right : Stmt := top 24
abbrev s_law : Stmt := top 25
abbrev FnP (K : PySem.W.Frag) (x : Str) (st : Stmt) (f : Addr) (fd : FuncData) : Prop := FunD K x x (defArgs st) (defBody st) (defScope st) [] [] f fd
structure Top (K : PySem.W.Frag) (mg : Str → Option Value) : Prop where
  d_divisor : ∃ (fa : Addr) (fd : FuncData), mg "divisor" = some (.ref fa) ∧ PySem.W.keepIn K (.ref fa) = true ∧ FnP K "divisor" s_divisor fa fd
  d_ratio : ∃ (fa : Addr) (fd : FuncData), mg "ratio" = some (.ref fa) ∧ PySem.W.keepIn K (.ref fa) = true ∧ FnP K "ratio" s_ratio fa fd
  d_times : ∃ (fa : Addr) (fd : FuncData), mg "times" = some (.ref fa) ∧ PySem.W.keepIn K (.ref fa) = true ∧ FnP K "times" s_times fa fd
  d_sized : ∃ (fa : Addr) (fd : FuncData), mg "sized" = some (.ref fa) ∧ PySem.W.keepIn K (.ref fa) = true ∧ FnP K "sized" s_sized fa fd
  d__law_cell_at : ∃ (fa : Addr) (fd : FuncData), mg "_law_cell_at" = some (.ref fa) ∧ PySem.W.keepIn K (.ref fa) = true ∧ FnP K "_law_cell_at" s__law_cell_at fa fd
  d__law_whole : ∃ (fa : Addr) (fd : FuncData), mg "_law_whole" = some (.ref fa) ∧ PySem.W.keepIn K (.ref fa) = true ∧ FnP K "_law_whole" s__law_whole fa fd
  d__law_block : ∃ (fa : Addr) (fd : FuncData), mg "_law_block" = some (.ref fa) ∧ PySem.W.keepIn K (.ref fa) = true ∧ FnP K "_law_block" s__law_block fa fd
  d__law_mixed : ∃ (fa : Addr) (fd : FuncData), mg "_law_mixed" = some (.ref fa) ∧ PySem.W.keepIn K (.ref fa) = true ∧ FnP K "_law_mixed" s__law_mixed fa fd
  d__law_divisor : ∃ (fa : Addr) (fd : FuncData), mg "_law_divisor" = some (.ref fa) ∧ PySem.W.keepIn K (.ref fa) = true ∧ FnP K "_law_divisor" s__law_divisor fa fd
  d__law_lowest : ∃ (fa : Addr) (fd : FuncData), mg "_law_lowest" = some (.ref fa) ∧ PySem.W.keepIn K (.ref fa) = true ∧ FnP K "_law_lowest" s__law_lowest fa fd
  d__law_is_fraction : ∃ (fa : Addr) (fd : FuncData), mg "_law_is_fraction" = some (.ref fa) ∧ PySem.W.keepIn K (.ref fa) = true ∧ FnP K "_law_is_fraction" s__law_is_fraction fa fd
  d__law_points : ∃ (fa : Addr) (fd : FuncData), mg "_law_points" = some (.ref fa) ∧ PySem.W.keepIn K (.ref fa) = true ∧ FnP K "_law_points" s__law_points fa fd
  d__law_turn : ∃ (fa : Addr) (fd : FuncData), mg "_law_turn" = some (.ref fa) ∧ PySem.W.keepIn K (.ref fa) = true ∧ FnP K "_law_turn" s__law_turn fa fd
  d__law_ring : ∃ (fa : Addr) (fd : FuncData), mg "_law_ring" = some (.ref fa) ∧ PySem.W.keepIn K (.ref fa) = true ∧ FnP K "_law_ring" s__law_ring fa fd
  d__law_shape : ∃ (fa : Addr) (fd : FuncData), mg "_law_shape" = some (.ref fa) ∧ PySem.W.keepIn K (.ref fa) = true ∧ FnP K "_law_shape" s__law_shape fa fd
  d__law_caught : ∃ (fa : Addr) (fd : FuncData), mg "_law_caught" = some (.ref fa) ∧ PySem.W.keepIn K (.ref fa) = true ∧ FnP K "_law_caught" s__law_caught fa fd
  d__law_right : ∃ (fa : Addr) (fd : FuncData), mg "_law_right" = some (.ref fa) ∧ PySem.W.keepIn K (.ref fa) = true ∧ FnP K "_law_right" s__law_right fa fd
  d_law : ∃ (fa : Addr) (fd : FuncData), mg "law" = some (.ref fa) ∧ PySem.W.keepIn K (.ref fa) = true ∧ FnP K "law" s_law fa fd
  exc : ExcOk K mg
  b_abs : mg "abs" = none
  b_bool : mg "bool" = none
  b_int : mg "int" = none
  b_isinstance : mg "isinstance" = none
  b_len : mg "len" = none
  b_list : mg "list" = none
  b_min : mg "min" = none
  b_range : mg "range" = none
  b_reversed : mg "reversed" = none
  b_set : mg "set" = none
  b_sorted : mg "sorted" = none
  b_tuple : mg "tuple" = none
/-! ### divisor -/
def N_divisor : List Str := ["one", "other"]
def L1_divisor : SF := (parF 0 1 (vE 1) (o2 modD (vE 0) (vE 1)))
def B_divisor : SF := (seqF (setF 0 (o1 absD (vE 0))) (seqF (setF 1 (o1 absD (vE 1))) (seqF (whileF (fun ρ => natAt ρ 1) (tb (o2 gtD (vE 1) (cE (.int 0)))) L1_divisor) (retF (vE 0)))))
def F_divisor : List D → Option D := bodyFn false 2 B_divisor
theorem sc_divisor : FnScope N_divisor ["one", "other"] (defScope s_divisor) := ⟨rfl, rfl, rfl, by decide +kernel, rfl, by decide +kernel, by decide +kernel⟩
theorem ok_divisor {P : Program} {w : World} {K : PySem.W.Frag} {mg : Str → Option Value} (T : Top K mg) : DefOk P w K mg "divisor" 1 ["one", "other"] false F_divisor := by
  obtain ⟨fa, fd, hm, hk, hF⟩ := T.d_divisor
  have S := sc_divisor
  refine ⟨fa, fd, hm, hk, FunD.bindsA hF (fun _ _ _ _ _ _ us hl => match us, hl with | [_, _], _ => rfl), fun base => ?_⟩
  refine fn_ok (N := N_divisor) (own := false) (O' := []) (b := B_divisor) hF S (fun cdv A outer s H E hr => ?_) (by rfl)
  exact (dss_cons (s_set 0 S.nd (e_abs (e_v 0) T.b_abs)) (dss_cons (s_set 1 S.nd (e_abs (e_v 1) T.b_abs)) (dss_cons (s_while (fun ρ => natAt ρ 1) (t_cmp (dc_gt (e_v 1) de_int)) (dss_one (s_par 0 1 S.nd (e_v 1) (de_mod (e_v 0) (e_v 1))))) (dss_one (ds_ret (e_v 0))))))
/-! ### ratio -/
def N_ratio : List Str := ["top", "bottom", "by"]
def B_ratio : SF := (seqF (ifF (tb (o2 eqD (vE 1) (cE (.int 0)))) neverF skipF) (seqF (setF 2 (callE F_divisor (consA (vE 0) (consA (vE 1) nilA)))) (seqF (ifF (tb (o2 ltD (vE 1) (cE (.int 0)))) (setF 2 (o2 subD (cE (.int 0)) (vE 2))) skipF) (retF (tupE (consA (o2 fdivD (vE 0) (vE 2)) (consA (o2 fdivD (vE 1) (vE 2)) nilA)))))))
def F_ratio : List D → Option D := bodyFn false 3 B_ratio
theorem sc_ratio : FnScope N_ratio ["top", "bottom"] (defScope s_ratio) := ⟨rfl, rfl, rfl, by decide +kernel, rfl, by decide +kernel, by decide +kernel⟩
theorem ok_ratio {P : Program} {w : World} {K : PySem.W.Frag} {mg : Str → Option Value} (T : Top K mg) (ok_divisor : DefOk P w K mg "divisor" 1 ["one", "other"] false F_divisor) : DefOk P w K mg "ratio" 2 ["top", "bottom"] false F_ratio := by
  obtain ⟨fa, fd, hm, hk, hF⟩ := T.d_ratio
  have S := sc_ratio
  refine ⟨fa, fd, hm, hk, FunD.bindsA hF (fun _ _ _ _ _ _ us hl => match us, hl with | [_, _], _ => rfl), fun base => ?_⟩
  refine fn_ok (N := N_ratio) (own := false) (O' := []) (b := B_ratio) hF S (fun cdv A outer s H E hr => ?_) (by rfl)
  exact (dss_cons (ds_if (t_cmp (c_eq hr (r_v 1) (DE_r de_int))) (dss_one ds_never) dss_nil) (dss_cons (s_set 2 S.nd (e_call ok_divisor hr rfl (da_cons (e_v 0) (da_cons (e_v 1) da_nil)))) (dss_cons (ds_if (t_cmp (dc_lt (e_v 1) de_int)) (dss_one (s_set 2 S.nd (de_sub de_int (e_v 2)))) dss_nil) (dss_one (ds_ret (de_tup (da_cons (de_fdiv (e_v 0) (e_v 2)) (da_cons (de_fdiv (e_v 1) (e_v 2)) da_nil))))))))
/-! ### times -/
def N_times : List Str := ["one", "other"]
def B_times : SF := (retF (callE F_ratio (consA (o2 mulD (o2 ixD (vE 0) (cE (.int 0))) (o2 ixD (vE 1) (cE (.int 0)))) (consA (o2 mulD (o2 ixD (vE 0) (cE (.int 1))) (o2 ixD (vE 1) (cE (.int 1)))) nilA))))
def F_times : List D → Option D := bodyFn false 2 B_times
theorem sc_times : FnScope N_times ["one", "other"] (defScope s_times) := ⟨rfl, rfl, rfl, by decide +kernel, rfl, by decide +kernel, by decide +kernel⟩
theorem ok_times {P : Program} {w : World} {K : PySem.W.Frag} {mg : Str → Option Value} (T : Top K mg) (ok_ratio : DefOk P w K mg "ratio" 2 ["top", "bottom"] false F_ratio) : DefOk P w K mg "times" 3 ["one", "other"] false F_times := by
  obtain ⟨fa, fd, hm, hk, hF⟩ := T.d_times
  have S := sc_times
  refine ⟨fa, fd, hm, hk, FunD.bindsA hF (fun _ _ _ _ _ _ us hl => match us, hl with | [_, _], _ => rfl), fun base => ?_⟩
  refine fn_ok (N := N_times) (own := false) (O' := []) (b := B_times) hF S (fun cdv A outer s H E hr => ?_) (by rfl)
  exact (dss_one (ds_ret (e_call ok_ratio hr rfl (da_cons (de_mul (de_ix (r_v 0) de_int) (de_ix (r_v 1) de_int)) (da_cons (de_mul (de_ix (r_v 0) de_int) (de_ix (r_v 1) de_int)) da_nil)))))
/-! ### sized -/
def N_sized : List Str := ["shape", "factor", "x", "y"]
def B_sized : SF := (seqF (ifF (tb (o2 leD (o2 ixD (vE 1) (cE (.int 0))) (cE (.int 0)))) neverF skipF) (retL (compA [2, 3] (itemsF (vE 0)) (tupG 2 (consG (nameG 2) (consG (nameG 3) nilG))) yesB (tupE (consA (callE F_times (consA (vE 2) (consA (vE 1) nilA))) (consA (callE F_times (consA (vE 3) (consA (vE 1) nilA))) nilA))))))
def F_sized : List D → Option D := bodyFn true 4 B_sized
theorem sc_sized : FnScope N_sized ["shape", "factor"] (defScope s_sized) := ⟨rfl, rfl, rfl, by decide +kernel, rfl, by decide +kernel, by decide +kernel⟩
theorem ok_sized {P : Program} {w : World} {K : PySem.W.Frag} {mg : Str → Option Value} (T : Top K mg) (ok_times : DefOk P w K mg "times" 3 ["one", "other"] false F_times) : DefOk P w K mg "sized" 4 ["shape", "factor"] true F_sized := by
  obtain ⟨fa, fd, hm, hk, hF⟩ := T.d_sized
  have S := sc_sized
  refine ⟨fa, fd, hm, hk, FunD.bindsA hF (fun _ _ _ _ _ _ us hl => match us, hl with | [_, _], _ => rfl), fun base => ?_⟩
  refine fn_ok (N := N_sized) (own := true) (O' := []) (b := B_sized) hF S (fun cdv A outer s H E hr => ?_) (by rfl)
  exact (dss_cons (ds_if (t_cmp (dc_le (de_ix (r_v 1) de_int) de_int)) (dss_one ds_never) dss_nil) (dss_one (ds_retN (dn_comp (vs := [2, 3]) (i_list (e_v 0)) (or_two 2 3 rfl rfl rfl rfl) (fun _ _ _ _ _ => dts_nil) (fun _ _ _ _ _ => (de_tup (da_cons (e_call ok_times hr rfl (da_cons (e_v 2) (da_cons (e_v 1) da_nil))) (da_cons (e_call ok_times hr rfl (da_cons (e_v 3) (da_cons (e_v 1) da_nil))) da_nil)))) fun wi tt te h1 h2 h3 => pe_lc (own := [("x", 2), ("y", 3)]) rfl S.nd h1 (blkOk_by (own := [("x", 2), ("y", 3)]) (N := N_sized) (sc := defScope s_sized) (by decide +kernel)) (fun _ _ _ _ _ => pg_tup rfl (pgs_cons (pg_name (i := 2) S.nd rfl (Or.inl rfl)) (pgs_cons (pg_name (i := 3) S.nd rfl (Or.inl rfl)) pgs_nil))) h2 h3))))
def XB_sized : Rho → Option Str := (ifX (tb (o2 leD (o2 ixD (vE 1) (cE (.int 0))) (cE (.int 0)))) "NoSize")
def FX_sized : List D → Option Str := fun ds => XB_sized (startR 4 ds)
theorem okx_sized {P : Program} {w : World} {K : PySem.W.Frag} {mg : Str → Option Value} (T : Top K mg) (ok_times : DefOk P w K mg "times" 3 ["one", "other"] false F_times) : DefX P w K mg "sized" 4 ["shape", "factor"] F_sized FX_sized := by
  obtain ⟨fa, fd, hm, hk, hF⟩ := T.d_sized
  have S := sc_sized
  refine ⟨fa, fd, hm, hk, FunD.bindsA hF (fun _ _ _ _ _ _ us hl => match us, hl with | [_, _], _ => rfl), fun base => ?_⟩
  refine fnX_ok (N := N_sized) (own := true) (O' := []) (b := B_sized) (fx := XB_sized) hF S (fun cdv A outer s H E hr => ?_) (fun cdv A outer s H E hr => ?_) (by rfl) (by rfl)
  · exact (dss_cons (ds_if (t_cmp (dc_le (de_ix (r_v 1) de_int) de_int)) (dss_one ds_never) dss_nil) (dss_one (ds_retN (dn_comp (vs := [2, 3]) (i_list (e_v 0)) (or_two 2 3 rfl rfl rfl rfl) (fun _ _ _ _ _ => dts_nil) (fun _ _ _ _ _ => (de_tup (da_cons (e_call ok_times hr rfl (da_cons (e_v 2) (da_cons (e_v 1) da_nil))) (da_cons (e_call ok_times hr rfl (da_cons (e_v 3) (da_cons (e_v 1) da_nil))) da_nil)))) fun wi tt te h1 h2 h3 => pe_lc (own := [("x", 2), ("y", 3)]) rfl S.nd h1 (blkOk_by (own := [("x", 2), ("y", 3)]) (N := N_sized) (sc := defScope s_sized) (by decide +kernel)) (fun _ _ _ _ _ => pg_tup rfl (pgs_cons (pg_name (i := 2) S.nd rfl (Or.inl rfl)) (pgs_cons (pg_name (i := 3) S.nd rfl (Or.inl rfl)) pgs_nil))) h2 h3))))
  · have tk : Takes (cxOf (L2.CX P w) P w K mg base N_sized "sized" (defScope s_sized) fa cdv A outer s H E) (fun cls d _ H => E cls d H) := takes_of rfl rfl rfl rfl
    exact (dx_if "NoSize" T.exc (by decide +kernel) (t_cmp (dc_le (de_ix (r_v 1) de_int) de_int)) tk rfl rfl (by decide))
/-! ### _law_cell_at -/
def N__law_cell_at : List Str := ["_law_script", "_law_k"]
def B__law_cell_at : SF := (seqF (ifF (tb (o2 ltD (vE 1) (o1 lenD (vE 0)))) (retF (o2 ixD (vE 0) (vE 1))) skipF) (retF (cE (.int 0))))
def F__law_cell_at : List D → Option D := bodyFn false 2 B__law_cell_at
theorem sc__law_cell_at : FnScope N__law_cell_at ["_law_script", "_law_k"] (defScope s__law_cell_at) := ⟨rfl, rfl, rfl, by decide +kernel, rfl, by decide +kernel, by decide +kernel⟩
theorem ok__law_cell_at {P : Program} {w : World} {K : PySem.W.Frag} {mg : Str → Option Value} (T : Top K mg) : DefOk P w K mg "_law_cell_at" 1 ["_law_script", "_law_k"] false F__law_cell_at := by
  obtain ⟨fa, fd, hm, hk, hF⟩ := T.d__law_cell_at
  have S := sc__law_cell_at
  refine ⟨fa, fd, hm, hk, FunD.bindsA hF (fun _ _ _ _ _ _ us hl => match us, hl with | [_, _], _ => rfl), fun base => ?_⟩
  refine fn_ok (N := N__law_cell_at) (own := false) (O' := []) (b := B__law_cell_at) hF S (fun cdv A outer s H E hr => ?_) (by rfl)
  exact (dss_cons (ds_if (t_cmp (dc_lt (e_v 1) (e_len (r_v 0) T.b_len))) (dss_one (ds_ret (de_ix (r_v 0) (e_v 1)))) dss_nil) (dss_one (ds_ret de_int)))
/-! ### _law_whole -/
def N__law_whole : List Str := ["_law_found"]
def B__law_whole : SF := (retF (andE (o1 (isiD "int") (vE 0)) (notE (o1 (isiD "bool") (vE 0)))))
def F__law_whole : List D → Option D := bodyFn false 1 B__law_whole
theorem sc__law_whole : FnScope N__law_whole ["_law_found"] (defScope s__law_whole) := ⟨rfl, rfl, rfl, by decide +kernel, rfl, by decide +kernel, by decide +kernel⟩
theorem ok__law_whole {P : Program} {w : World} {K : PySem.W.Frag} {mg : Str → Option Value} (T : Top K mg) : DefOk P w K mg "_law_whole" 1 ["_law_found"] false F__law_whole := by
  obtain ⟨fa, fd, hm, hk, hF⟩ := T.d__law_whole
  have S := sc__law_whole
  refine ⟨fa, fd, hm, hk, FunD.bindsA hF (fun _ _ _ _ _ _ us hl => match us, hl with | [_], _ => rfl), fun base => ?_⟩
  refine fn_ok (N := N__law_whole) (own := false) (O' := []) (b := B__law_whole) hF S (fun cdv A outer s H E hr => ?_) (by rfl)
  exact (dss_one (ds_ret (de_and (e_isi "int" (r_v 0) T.b_isinstance T.b_int) (de_one (de_not (e_isi "bool" (r_v 0) T.b_isinstance T.b_bool))))))
/-! ### _law_block -/
def N__law_block : List Str := ["_law_script", "_law_k", "_law_cell", "_law_j"]
def L1__law_block : SF := (setF 2 (o2 fdivD (vE 2) (cE (.int 2147483587))))
def B__law_block : SF := (seqF (setF 2 (cE (.int 0))) (seqF (ifF (tb (o2 ltD (o2 addD (cE (.int 1)) (o2 modD (o2 fdivD (vE 1) (cE (.int 8))) (cE (.int 62)))) (o1 lenD (vE 0)))) (setF 2 (o2 fdivD (o2 ixD (vE 0) (o2 addD (cE (.int 1)) (o2 modD (o2 fdivD (vE 1) (cE (.int 8))) (cE (.int 62))))) (o2 powD (cE (.int 10)) (cE (.int 64))))) skipF) (seqF (forF (rng1F (o2 modD (vE 1) (cE (.int 8)))) (nameG 3) L1__law_block) (retF (vE 2)))))
def F__law_block : List D → Option D := bodyFn false 4 B__law_block
theorem sc__law_block : FnScope N__law_block ["_law_script", "_law_k"] (defScope s__law_block) := ⟨rfl, rfl, rfl, by decide +kernel, rfl, by decide +kernel, by decide +kernel⟩
theorem ok__law_block {P : Program} {w : World} {K : PySem.W.Frag} {mg : Str → Option Value} (T : Top K mg) : DefOk P w K mg "_law_block" 1 ["_law_script", "_law_k"] false F__law_block := by
  obtain ⟨fa, fd, hm, hk, hF⟩ := T.d__law_block
  have S := sc__law_block
  refine ⟨fa, fd, hm, hk, FunD.bindsA hF (fun _ _ _ _ _ _ us hl => match us, hl with | [_, _], _ => rfl), fun base => ?_⟩
  refine fn_ok (N := N__law_block) (own := false) (O' := []) (b := B__law_block) hF S (fun cdv A outer s H E hr => ?_) (by rfl)
  exact (dss_cons (s_set 2 S.nd de_int) (dss_cons (ds_if (t_cmp (dc_lt (de_add de_int (de_mod (de_fdiv (e_v 1) de_int) de_int)) (e_len (r_v 0) T.b_len))) (dss_one (s_set 2 S.nd (de_fdiv (de_ix (r_v 0) (de_add de_int (de_mod (de_fdiv (e_v 1) de_int) de_int))) (de_pow de_int de_int)))) dss_nil) (dss_cons (s_for (i_rng1 (de_mod (e_v 1) de_int) T.b_range) (g_name 3 S.nd) (dss_one (s_set 2 S.nd (de_fdiv (e_v 2) de_int)))) (dss_one (ds_ret (e_v 2))))))
/-! ### _law_mixed -/
def N__law_mixed : List Str := ["_law_script", "_law_k", "_law_cell", "_law_number"]
def B__law_mixed : SF := (seqF (setF 2 (cE (.int 0))) (seqF (ifF (tb (o2 gtD (o1 lenD (vE 0)) (cE (.int 0)))) (setF 2 (o2 ixD (vE 0) (cE (.int 0)))) skipF) (seqF (ifF (andB (tb (o2 eqD (o2 modD (o2 fdivD (vE 2) (o2 powD (cE (.int 10)) (cE (.int 6)))) (cE (.int 2))) (cE (.int 1)))) (tb (o2 neD (callE F__law_block (consA (vE 0) (consA (vE 1) nilA))) (cE (.int 0))))) (retF (o2 modD (callE F__law_block (consA (vE 0) (consA (vE 1) nilA))) (cE (.int 2147483587)))) skipF) (seqF (ifF (tb (o2 gtD (o1 lenD (vE 0)) (cE (.int 0)))) (setF 2 (o2 ixD (vE 0) (o2 modD (vE 1) (o2 min2D (cE (.int 63)) (o1 lenD (vE 0)))))) skipF) (seqF (setF 3 (o2 addD (o2 modD (vE 2) (o2 powD (cE (.int 10)) (cE (.int 18)))) (o2 mulD (cE (.int 48271)) (o2 addD (vE 1) (cE (.int 1)))))) (seqF (setF 3 (o2 addD (o2 modD (o2 mulD (vE 3) (vE 3)) (cE (.int 2147483629))) (o2 mulD (cE (.int 69621)) (vE 1)))) (retF (o2 modD (o2 mulD (vE 3) (vE 3)) (cE (.int 2147483587))))))))))
def F__law_mixed : List D → Option D := bodyFn false 4 B__law_mixed
theorem sc__law_mixed : FnScope N__law_mixed ["_law_script", "_law_k"] (defScope s__law_mixed) := ⟨rfl, rfl, rfl, by decide +kernel, rfl, by decide +kernel, by decide +kernel⟩
theorem ok__law_mixed {P : Program} {w : World} {K : PySem.W.Frag} {mg : Str → Option Value} (T : Top K mg) (ok__law_block : DefOk P w K mg "_law_block" 1 ["_law_script", "_law_k"] false F__law_block) : DefOk P w K mg "_law_mixed" 2 ["_law_script", "_law_k"] false F__law_mixed := by
  obtain ⟨fa, fd, hm, hk, hF⟩ := T.d__law_mixed
  have S := sc__law_mixed
  refine ⟨fa, fd, hm, hk, FunD.bindsA hF (fun _ _ _ _ _ _ us hl => match us, hl with | [_, _], _ => rfl), fun base => ?_⟩
  refine fn_ok (N := N__law_mixed) (own := false) (O' := []) (b := B__law_mixed) hF S (fun cdv A outer s H E hr => ?_) (by rfl)
  exact (dss_cons (s_set 2 S.nd de_int) (dss_cons (ds_if (t_cmp (dc_gt (e_len (r_v 0) T.b_len) de_int)) (dss_one (s_set 2 S.nd (de_ix (r_v 0) de_int))) dss_nil) (dss_cons (ds_if (dw_t (dw_and (t_cmp (c_eq hr (DE_r (de_mod (de_fdiv (e_v 2) (de_pow de_int de_int)) de_int)) (DE_r de_int))) (dw_and1 (t_cmp (c_ne hr (DE_r (e_call ok__law_block hr rfl (da_cons (e_v 0) (da_cons (e_v 1) da_nil)))) (DE_r de_int)))))) (dss_one (ds_ret (de_mod (e_call ok__law_block hr rfl (da_cons (e_v 0) (da_cons (e_v 1) da_nil))) de_int))) dss_nil) (dss_cons (ds_if (t_cmp (dc_gt (e_len (r_v 0) T.b_len) de_int)) (dss_one (s_set 2 S.nd (de_ix (r_v 0) (de_mod (e_v 1) (e_min2 de_int (e_len (r_v 0) T.b_len) T.b_min))))) dss_nil) (dss_cons (s_set 3 S.nd (de_add (de_mod (e_v 2) (de_pow de_int de_int)) (de_mul de_int (de_add (e_v 1) de_int)))) (dss_cons (s_set 3 S.nd (de_add (de_mod (de_mul (e_v 3) (e_v 3)) de_int) (de_mul de_int (e_v 1)))) (dss_one (ds_ret (de_mod (de_mul (e_v 3) (e_v 3)) de_int)))))))))
/-! ### _law_divisor -/
def N__law_divisor : List Str := ["_law_one", "_law_other"]
def L1__law_divisor : SF := (parF 0 1 (vE 1) (o2 modD (vE 0) (vE 1)))
def B__law_divisor : SF := (seqF (setF 0 (o1 absD (vE 0))) (seqF (setF 1 (o1 absD (vE 1))) (seqF (whileF (fun ρ => natAt ρ 1) (tb (o2 gtD (vE 1) (cE (.int 0)))) L1__law_divisor) (retF (vE 0)))))
def F__law_divisor : List D → Option D := bodyFn false 2 B__law_divisor
theorem sc__law_divisor : FnScope N__law_divisor ["_law_one", "_law_other"] (defScope s__law_divisor) := ⟨rfl, rfl, rfl, by decide +kernel, rfl, by decide +kernel, by decide +kernel⟩
theorem ok__law_divisor {P : Program} {w : World} {K : PySem.W.Frag} {mg : Str → Option Value} (T : Top K mg) : DefOk P w K mg "_law_divisor" 1 ["_law_one", "_law_other"] false F__law_divisor := by
  obtain ⟨fa, fd, hm, hk, hF⟩ := T.d__law_divisor
  have S := sc__law_divisor
  refine ⟨fa, fd, hm, hk, FunD.bindsA hF (fun _ _ _ _ _ _ us hl => match us, hl with | [_, _], _ => rfl), fun base => ?_⟩
  refine fn_ok (N := N__law_divisor) (own := false) (O' := []) (b := B__law_divisor) hF S (fun cdv A outer s H E hr => ?_) (by rfl)
  exact (dss_cons (s_set 0 S.nd (e_abs (e_v 0) T.b_abs)) (dss_cons (s_set 1 S.nd (e_abs (e_v 1) T.b_abs)) (dss_cons (s_while (fun ρ => natAt ρ 1) (t_cmp (dc_gt (e_v 1) de_int)) (dss_one (s_par 0 1 S.nd (e_v 1) (de_mod (e_v 0) (e_v 1))))) (dss_one (ds_ret (e_v 0))))))
/-! ### _law_lowest -/
def N__law_lowest : List Str := ["_law_top", "_law_bottom", "_law_by"]
def B__law_lowest : SF := (seqF (setF 2 (callE F__law_divisor (consA (vE 0) (consA (vE 1) nilA)))) (seqF (ifF (tb (o2 ltD (vE 1) (cE (.int 0)))) (setF 2 (o2 subD (cE (.int 0)) (vE 2))) skipF) (retF (tupE (consA (o2 fdivD (vE 0) (vE 2)) (consA (o2 fdivD (vE 1) (vE 2)) nilA))))))
def F__law_lowest : List D → Option D := bodyFn false 3 B__law_lowest
theorem sc__law_lowest : FnScope N__law_lowest ["_law_top", "_law_bottom"] (defScope s__law_lowest) := ⟨rfl, rfl, rfl, by decide +kernel, rfl, by decide +kernel, by decide +kernel⟩
theorem ok__law_lowest {P : Program} {w : World} {K : PySem.W.Frag} {mg : Str → Option Value} (T : Top K mg) (ok__law_divisor : DefOk P w K mg "_law_divisor" 1 ["_law_one", "_law_other"] false F__law_divisor) : DefOk P w K mg "_law_lowest" 2 ["_law_top", "_law_bottom"] false F__law_lowest := by
  obtain ⟨fa, fd, hm, hk, hF⟩ := T.d__law_lowest
  have S := sc__law_lowest
  refine ⟨fa, fd, hm, hk, FunD.bindsA hF (fun _ _ _ _ _ _ us hl => match us, hl with | [_, _], _ => rfl), fun base => ?_⟩
  refine fn_ok (N := N__law_lowest) (own := false) (O' := []) (b := B__law_lowest) hF S (fun cdv A outer s H E hr => ?_) (by rfl)
  exact (dss_cons (s_set 2 S.nd (e_call ok__law_divisor hr rfl (da_cons (e_v 0) (da_cons (e_v 1) da_nil)))) (dss_cons (ds_if (t_cmp (dc_lt (e_v 1) de_int)) (dss_one (s_set 2 S.nd (de_sub de_int (e_v 2)))) dss_nil) (dss_one (ds_ret (de_tup (da_cons (de_fdiv (e_v 0) (e_v 2)) (da_cons (de_fdiv (e_v 1) (e_v 2)) da_nil)))))))
/-! ### _law_is_fraction -/
def N__law_is_fraction : List Str := ["_law_found"]
def B__law_is_fraction : SF := (seqF (ifF (orB (notB (tb (o1 (isiD "tuple") (vE 0)))) (orB (tb (o2 neD (o1 lenD (vE 0)) (cE (.int 2)))) (orB (notB (tb (callE F__law_whole (consA (o2 ixD (vE 0) (cE (.int 0))) nilA)))) (notB (tb (callE F__law_whole (consA (o2 ixD (vE 0) (cE (.int 1))) nilA))))))) (retF (cE (.bool false))) skipF) (retF (andE (o2 gtD (o2 ixD (vE 0) (cE (.int 1))) (cE (.int 0))) (o2 eqD (callE F__law_divisor (consA (o2 ixD (vE 0) (cE (.int 0))) (consA (o2 ixD (vE 0) (cE (.int 1))) nilA))) (cE (.int 1))))))
def F__law_is_fraction : List D → Option D := bodyFn false 1 B__law_is_fraction
theorem sc__law_is_fraction : FnScope N__law_is_fraction ["_law_found"] (defScope s__law_is_fraction) := ⟨rfl, rfl, rfl, by decide +kernel, rfl, by decide +kernel, by decide +kernel⟩
theorem ok__law_is_fraction {P : Program} {w : World} {K : PySem.W.Frag} {mg : Str → Option Value} (T : Top K mg) (ok__law_whole : DefOk P w K mg "_law_whole" 1 ["_law_found"] false F__law_whole) (ok__law_divisor : DefOk P w K mg "_law_divisor" 1 ["_law_one", "_law_other"] false F__law_divisor) : DefOk P w K mg "_law_is_fraction" 2 ["_law_found"] false F__law_is_fraction := by
  obtain ⟨fa, fd, hm, hk, hF⟩ := T.d__law_is_fraction
  have S := sc__law_is_fraction
  refine ⟨fa, fd, hm, hk, FunD.bindsA hF (fun _ _ _ _ _ _ us hl => match us, hl with | [_], _ => rfl), fun base => ?_⟩
  refine fn_ok (N := N__law_is_fraction) (own := false) (O' := []) (b := B__law_is_fraction) hF S (fun cdv A outer s H E hr => ?_) (by rfl)
  exact (dss_cons (ds_if (dw_t (dw_or (dt_not (dt_val (e_isi "tuple" (r_v 0) T.b_isinstance T.b_tuple))) (dw_or (t_cmp (c_ne hr (DE_r (e_len (r_v 0) T.b_len)) (DE_r de_int))) (dw_or (dt_not (dt_val (e_call ok__law_whole hr rfl (da_cons (de_ix (r_v 0) de_int) da_nil)))) (dw_or1 (dt_not (dt_val (e_call ok__law_whole hr rfl (da_cons (de_ix (r_v 0) de_int) da_nil))))))))) (dss_one (ds_ret de_bl)) dss_nil) (dss_one (ds_ret (de_and (e_cmp (dc_gt (de_ix (r_v 0) de_int) de_int)) (de_one (e_cmp (c_eq hr (DE_r (e_call ok__law_divisor hr rfl (da_cons (de_ix (r_v 0) de_int) (da_cons (de_ix (r_v 0) de_int) da_nil)))) (DE_r de_int))))))))
/-! ### _law_points -/
def N__law_points : List Str := ["_law_script", "_law_start", "_law_most", "_law_way", "_law_found", "_law_k", "_law_number", "_law_point", "_law_x", "_law_y"]
def L1__law_points : SF := (seqF (setF 6 (callE F__law_mixed (consA (vE 0) (consA (o2 addD (o2 addD (vE 1) (cE (.int 2))) (vE 5)) nilA)))) (seqF (setF 7 (tupE (consA (o2 subD (o2 modD (vE 6) (cE (.int 7))) (cE (.int 3))) (consA (o2 subD (o2 modD (o2 fdivD (vE 6) (cE (.int 7))) (cE (.int 7))) (cE (.int 3))) nilA)))) (seqF (ifF (tb (o2 eqD (vE 3) (cE (.int 1)))) (setF 7 (tupE (consA (o2 subD (o2 modD (vE 6) (cE (.int 2001))) (cE (.int 1000))) (consA (o2 subD (o2 modD (o2 fdivD (vE 6) (cE (.int 2001))) (cE (.int 2001))) (cE (.int 1000))) nilA)))) skipF) (seqF (ifF (tb (o2 eqD (vE 3) (cE (.int 2)))) (setF 7 (tupE (consA (o2 modD (vE 6) (cE (.int 3))) (consA (o2 modD (o2 fdivD (vE 6) (cE (.int 3))) (cE (.int 3))) nilA)))) skipF) (appF 4 (vE 7))))))
def B__law_points : SF := (seqF (setF 3 (o2 modD (callE F__law_mixed (consA (vE 0) (consA (vE 1) nilA))) (cE (.int 4)))) (seqF (setL 4 (lstA nilA)) (seqF (forF (rng1F (o2 addD (cE (.int 3)) (o2 modD (callE F__law_mixed (consA (vE 0) (consA (o2 addD (vE 1) (cE (.int 1))) nilA))) (o2 subD (vE 2) (cE (.int 2)))))) (nameG 5) L1__law_points) (seqF (asgF (o2 ixD (vE 4) (cE (.int 0))) (tupG 2 (consG (nameG 8) (consG (nameG 9) nilG)))) (seqF (putF 4 (tupE (consA (o2 addD (vE 8) (cE (.int 1))) (consA (o2 addD (vE 9) (o2 modD (o2 ixD (o2 ixD (vE 4) (o1 negD (cE (.int 2)))) (cE (.int 1))) (cE (.int 2)))) nilA))) (o1 negD (cE (.int 2)))) (seqF (putF 4 (tupE (consA (o2 subD (vE 8) (o2 modD (o2 ixD (o2 ixD (vE 4) (o1 negD (cE (.int 1)))) (cE (.int 0))) (cE (.int 2)))) (consA (o2 addD (o2 addD (vE 9) (cE (.int 1))) (o2 modD (o2 ixD (o2 ixD (vE 4) (o1 negD (cE (.int 1)))) (cE (.int 1))) (cE (.int 3)))) nilA))) (o1 negD (cE (.int 1)))) (retV 4)))))))
def F__law_points : List D → Option D := bodyFn true 10 B__law_points
theorem sc__law_points : FnScope N__law_points ["_law_script", "_law_start", "_law_most"] (defScope s__law_points) := ⟨rfl, rfl, rfl, by decide +kernel, rfl, by decide +kernel, by decide +kernel⟩
theorem ok__law_points {P : Program} {w : World} {K : PySem.W.Frag} {mg : Str → Option Value} (T : Top K mg) (ok__law_mixed : DefOk P w K mg "_law_mixed" 2 ["_law_script", "_law_k"] false F__law_mixed) : DefOk P w K mg "_law_points" 3 ["_law_script", "_law_start", "_law_most"] true F__law_points := by
  obtain ⟨fa, fd, hm, hk, hF⟩ := T.d__law_points
  have S := sc__law_points
  refine ⟨fa, fd, hm, hk, FunD.bindsA hF (fun _ _ _ _ _ _ us hl => match us, hl with | [_, _, _], _ => rfl), fun base => ?_⟩
  refine fn_ok (N := N__law_points) (own := true) (O' := []) (b := B__law_points) hF S (fun cdv A outer s H E hr => ?_) (by rfl)
  exact (dss_cons (s_set 3 S.nd (de_mod (e_call ok__law_mixed hr rfl (da_cons (e_v 0) (da_cons (e_v 1) da_nil))) de_int)) (dss_cons (s_setN 4 S.nd (dn_lst da_nil)) (dss_cons (s_for (i_rng1 (de_add de_int (de_mod (e_call ok__law_mixed hr rfl (da_cons (e_v 0) (da_cons (de_add (e_v 1) de_int) da_nil))) (de_sub (e_v 2) de_int))) T.b_range) (g_name 5 S.nd) (dss_cons (s_set 6 S.nd (e_call ok__law_mixed hr rfl (da_cons (e_v 0) (da_cons (de_add (de_add (e_v 1) de_int) (e_v 5)) da_nil)))) (dss_cons (s_set 7 S.nd (de_tup (da_cons (de_sub (de_mod (e_v 6) de_int) de_int) (da_cons (de_sub (de_mod (de_fdiv (e_v 6) de_int) de_int) de_int) da_nil)))) (dss_cons (ds_if (t_cmp (c_eq hr (r_v 3) (DE_r de_int))) (dss_one (s_set 7 S.nd (de_tup (da_cons (de_sub (de_mod (e_v 6) de_int) de_int) (da_cons (de_sub (de_mod (de_fdiv (e_v 6) de_int) de_int) de_int) da_nil))))) dss_nil) (dss_cons (ds_if (t_cmp (c_eq hr (r_v 3) (DE_r de_int))) (dss_one (s_set 7 S.nd (de_tup (da_cons (de_mod (e_v 6) de_int) (da_cons (de_mod (de_fdiv (e_v 6) de_int) de_int) da_nil))))) dss_nil) (dss_one (s_app 4 (e_v 7)))))))) (dss_cons (s_asg (de_ix (r_v 4) de_int) (gs_cons (g_name 8 S.nd) (gs_cons (g_name 9 S.nd) gs_nil))) (dss_cons (s_put 4 (de_tup (da_cons (de_add (e_v 8) de_int) (da_cons (de_add (e_v 9) (de_mod (de_ix (DE_r (de_ix (r_v 4) (de_neg de_int))) de_int) de_int)) da_nil))) (de_neg de_int)) (dss_cons (s_put 4 (de_tup (da_cons (de_sub (e_v 8) (de_mod (de_ix (DE_r (de_ix (r_v 4) (de_neg de_int))) de_int) de_int)) (da_cons (de_add (de_add (e_v 9) de_int) (de_mod (de_ix (DE_r (de_ix (r_v 4) (de_neg de_int))) de_int) de_int)) da_nil))) (de_neg de_int)) (dss_one (s_retOwn 4))))))))
/-! ### _law_turn -/
def N__law_turn : List Str := ["_law_one", "_law_two", "_law_three", "_law_found"]
def B__law_turn : SF := (seqF (setF 3 (o2 mulD (o2 subD (o2 ixD (vE 1) (cE (.int 0))) (o2 ixD (vE 0) (cE (.int 0)))) (o2 subD (o2 ixD (vE 2) (cE (.int 1))) (o2 ixD (vE 0) (cE (.int 1)))))) (retF (o2 subD (vE 3) (o2 mulD (o2 subD (o2 ixD (vE 1) (cE (.int 1))) (o2 ixD (vE 0) (cE (.int 1)))) (o2 subD (o2 ixD (vE 2) (cE (.int 0))) (o2 ixD (vE 0) (cE (.int 0))))))))
def F__law_turn : List D → Option D := bodyFn false 4 B__law_turn
theorem sc__law_turn : FnScope N__law_turn ["_law_one", "_law_two", "_law_three"] (defScope s__law_turn) := ⟨rfl, rfl, rfl, by decide +kernel, rfl, by decide +kernel, by decide +kernel⟩
theorem ok__law_turn {P : Program} {w : World} {K : PySem.W.Frag} {mg : Str → Option Value} (T : Top K mg) : DefOk P w K mg "_law_turn" 1 ["_law_one", "_law_two", "_law_three"] false F__law_turn := by
  obtain ⟨fa, fd, hm, hk, hF⟩ := T.d__law_turn
  have S := sc__law_turn
  refine ⟨fa, fd, hm, hk, FunD.bindsA hF (fun _ _ _ _ _ _ us hl => match us, hl with | [_, _, _], _ => rfl), fun base => ?_⟩
  refine fn_ok (N := N__law_turn) (own := false) (O' := []) (b := B__law_turn) hF S (fun cdv A outer s H E hr => ?_) (by rfl)
  exact (dss_cons (s_set 3 S.nd (de_mul (de_sub (de_ix (r_v 1) de_int) (de_ix (r_v 0) de_int)) (de_sub (de_ix (r_v 2) de_int) (de_ix (r_v 0) de_int)))) (dss_one (ds_ret (de_sub (e_v 3) (de_mul (de_sub (de_ix (r_v 1) de_int) (de_ix (r_v 0) de_int)) (de_sub (de_ix (r_v 2) de_int) (de_ix (r_v 0) de_int)))))))
/-! ### _law_ring -/
def N__law_ring : List Str := ["_law_points_here", "_law_found", "_law_row", "_law_part", "_law_point"]
def L3__law_ring : SF := (popF 3)
def L2__law_ring : SF := (seqF (whileF (fun ρ => lenAt ρ 3 + 1) (andB (tb (o2 gtD (o1 lenD (vE 3)) (cE (.int 1)))) (tb (o2 leD (callE F__law_turn (consA (o2 ixD (vE 3) (o1 negD (cE (.int 2)))) (consA (o2 ixD (vE 3) (o1 negD (cE (.int 1)))) (consA (vE 4) nilA)))) (cE (.int 0))))) L3__law_ring) (appF 3 (vE 4)))
def L1__law_ring : SF := (seqF (setL 3 (lstA nilA)) (seqF (forF (itemsF (vE 2)) (nameG 4) L2__law_ring) (setL 1 (catA (vE 1) (lE (slA (vE 3) (fun _ => some none) (partO (o1 negD (cE (.int 1))))))))))
def B__law_ring : SF := (seqF (setL 1 (lstA nilA)) (seqF (forF (itemsF (lE (lstA (consA (lE (o1L sortsetD (vE 0))) (consA (lE (o1L revD (lE (o1L sortsetD (vE 0))))) nilA))))) (nameG 2) L1__law_ring) (retV 1)))
def F__law_ring : List D → Option D := bodyFn true 5 B__law_ring
theorem sc__law_ring : FnScope N__law_ring ["_law_points_here"] (defScope s__law_ring) := ⟨rfl, rfl, rfl, by decide +kernel, rfl, by decide +kernel, by decide +kernel⟩
theorem ok__law_ring {P : Program} {w : World} {K : PySem.W.Frag} {mg : Str → Option Value} (T : Top K mg) (ok__law_turn : DefOk P w K mg "_law_turn" 1 ["_law_one", "_law_two", "_law_three"] false F__law_turn) : DefOk P w K mg "_law_ring" 2 ["_law_points_here"] true F__law_ring := by
  obtain ⟨fa, fd, hm, hk, hF⟩ := T.d__law_ring
  have S := sc__law_ring
  refine ⟨fa, fd, hm, hk, FunD.bindsA hF (fun _ _ _ _ _ _ us hl => match us, hl with | [_], _ => rfl), fun base => ?_⟩
  refine fn_ok (N := N__law_ring) (own := true) (O' := []) (b := B__law_ring) hF S (fun cdv A outer s H E hr => ?_) (by rfl)
  exact (dss_cons (s_setN 1 S.nd (dn_lst da_nil)) (dss_cons (s_for (i_list (DN_e (dn_lst (da_cons (DN_e (n_sortset hr (r_v 0) T.b_sorted T.b_set)) (da_cons (DN_e (n_listrev (DN_r (n_sortset hr (r_v 0) T.b_sorted T.b_set)) T.b_list T.b_reversed)) da_nil))))) (g_name 2 S.nd) (dss_weak (O2 := [1]) (dss_cons (s_setN 3 S.nd (dn_lst da_nil)) (dss_cons (s_for (i_list (e_v 2)) (g_name 4 S.nd) (dss_cons (s_while (fun ρ => lenAt ρ 3 + 1) (dw_t (dw_and (t_cmp (dc_gt (e_len (r_v 3) T.b_len) de_int)) (dw_and1 (t_cmp (dc_le (e_call ok__law_turn hr rfl (da_cons (de_ix (r_v 3) (de_neg de_int)) (da_cons (de_ix (r_v 3) (de_neg de_int)) (da_cons (e_v 4) da_nil)))) de_int))))) (dss_one (s_pop 3))) (dss_one (s_app 3 (e_v 4))))) (dss_one (s_setN 1 S.nd (dn_cat (r_v 1) (DN_r (dn_sl (r_v 3) dp_none (dp_some (de_neg de_int))))))))))) (dss_one (s_retOwn 1))))
/-! ### _law_shape -/
def N__law_shape : List Str := ["_law_script", "_law_start", "_law_most", "_law_ring_here", "_law_number", "_law_share", "_law_by", "_law_far", "_law_x", "_law_y"]
def B__law_shape : SF := (seqF (setL 3 (callL F__law_ring (consA (lE (callL F__law_points (consA (vE 0) (consA (vE 1) (consA (vE 2) nilA))))) nilA))) (seqF (setF 4 (callE F__law_mixed (consA (vE 0) (consA (o2 addD (vE 1) (cE (.int 1))) nilA)))) (seqF (setF 5 (o2 ixD (lE (lstA (consA (cE (.int 1)) (consA (o2 addD (cE (.int 1)) (o2 modD (o2 fdivD (vE 4) (cE (.int 64))) (cE (.int 9)))) (consA (o2 addD (cE (.int 1)) (o2 modD (callE F__law_cell_at (consA (vE 0) (consA (vE 1) nilA))) (o2 powD (cE (.int 10)) (cE (.int 9))))) nilA))))) (o2 modD (o2 fdivD (vE 4) (cE (.int 16))) (cE (.int 3))))) (seqF (setF 6 (o2 ixD (lE (lstA (consA (cE (.int 1)) (consA (o2 addD (cE (.int 1)) (o2 modD (callE F__law_cell_at (consA (vE 0) (consA (o2 addD (vE 1) (cE (.int 1))) nilA))) (o2 powD (cE (.int 10)) (cE (.int 9))))) nilA)))) (o2 modD (o2 fdivD (vE 4) (cE (.int 1024))) (cE (.int 2))))) (seqF (setF 7 (o2 ixD (lE (lstA (consA (cE (.int 0)) (consA (o2 subD (o2 modD (callE F__law_cell_at (consA (vE 0) (consA (o2 addD (vE 1) (cE (.int 2))) nilA))) (o2 mulD (cE (.int 2)) (o2 powD (cE (.int 10)) (cE (.int 18))))) (o2 powD (cE (.int 10)) (cE (.int 18)))) nilA)))) (o2 modD (o2 fdivD (vE 4) (cE (.int 2048))) (cE (.int 2))))) (retL (compA [8, 9] (itemsF (vE 3)) (tupG 2 (consG (nameG 8) (consG (nameG 9) nilG))) yesB (tupE (consA (callE F__law_lowest (consA (o2 addD (o2 mulD (vE 8) (vE 6)) (vE 7)) (consA (vE 5) nilA))) (consA (callE F__law_lowest (consA (o2 subD (o2 mulD (vE 9) (vE 6)) (o2 mulD (cE (.int 2)) (vE 7))) (consA (vE 5) nilA))) nilA))))))))))
def F__law_shape : List D → Option D := bodyFn true 10 B__law_shape
theorem sc__law_shape : FnScope N__law_shape ["_law_script", "_law_start", "_law_most"] (defScope s__law_shape) := ⟨rfl, rfl, rfl, by decide +kernel, rfl, by decide +kernel, by decide +kernel⟩
theorem ok__law_shape {P : Program} {w : World} {K : PySem.W.Frag} {mg : Str → Option Value} (T : Top K mg) (ok__law_cell_at : DefOk P w K mg "_law_cell_at" 1 ["_law_script", "_law_k"] false F__law_cell_at) (ok__law_mixed : DefOk P w K mg "_law_mixed" 2 ["_law_script", "_law_k"] false F__law_mixed) (ok__law_lowest : DefOk P w K mg "_law_lowest" 2 ["_law_top", "_law_bottom"] false F__law_lowest) (ok__law_points : DefOk P w K mg "_law_points" 3 ["_law_script", "_law_start", "_law_most"] true F__law_points) (ok__law_ring : DefOk P w K mg "_law_ring" 2 ["_law_points_here"] true F__law_ring) : DefOk P w K mg "_law_shape" 4 ["_law_script", "_law_start", "_law_most"] true F__law_shape := by
  obtain ⟨fa, fd, hm, hk, hF⟩ := T.d__law_shape
  have S := sc__law_shape
  refine ⟨fa, fd, hm, hk, FunD.bindsA hF (fun _ _ _ _ _ _ us hl => match us, hl with | [_, _, _], _ => rfl), fun base => ?_⟩
  refine fn_ok (N := N__law_shape) (own := true) (O' := []) (b := B__law_shape) hF S (fun cdv A outer s H E hr => ?_) (by rfl)
  exact (dss_cons (s_setN 3 S.nd (n_call ok__law_ring hr rfl (da_cons (DN_e (n_call ok__law_points hr rfl (da_cons (e_v 0) (da_cons (e_v 1) (da_cons (e_v 2) da_nil))))) da_nil))) (dss_cons (s_set 4 S.nd (e_call ok__law_mixed hr rfl (da_cons (e_v 0) (da_cons (de_add (e_v 1) de_int) da_nil)))) (dss_cons (s_set 5 S.nd (de_ix (DN_r (dn_lst (da_cons de_int (da_cons (de_add de_int (de_mod (de_fdiv (e_v 4) de_int) de_int)) (da_cons (de_add de_int (de_mod (e_call ok__law_cell_at hr rfl (da_cons (e_v 0) (da_cons (e_v 1) da_nil))) (de_pow de_int de_int))) da_nil))))) (de_mod (de_fdiv (e_v 4) de_int) de_int))) (dss_cons (s_set 6 S.nd (de_ix (DN_r (dn_lst (da_cons de_int (da_cons (de_add de_int (de_mod (e_call ok__law_cell_at hr rfl (da_cons (e_v 0) (da_cons (de_add (e_v 1) de_int) da_nil))) (de_pow de_int de_int))) da_nil)))) (de_mod (de_fdiv (e_v 4) de_int) de_int))) (dss_cons (s_set 7 S.nd (de_ix (DN_r (dn_lst (da_cons de_int (da_cons (de_sub (de_mod (e_call ok__law_cell_at hr rfl (da_cons (e_v 0) (da_cons (de_add (e_v 1) de_int) da_nil))) (de_mul de_int (de_pow de_int de_int))) (de_pow de_int de_int)) da_nil)))) (de_mod (de_fdiv (e_v 4) de_int) de_int))) (dss_one (ds_pre (O2 := []) (ds_retN (dn_comp (vs := [8, 9]) (i_list (e_v 3)) (or_two 8 9 rfl rfl rfl rfl) (fun _ _ _ _ _ => dts_nil) (fun _ _ _ _ _ => (de_tup (da_cons (e_call ok__law_lowest hr rfl (da_cons (de_add (de_mul (e_v 8) (e_v 6)) (e_v 7)) (da_cons (e_v 5) da_nil))) (da_cons (e_call ok__law_lowest hr rfl (da_cons (de_sub (de_mul (e_v 9) (e_v 6)) (de_mul de_int (e_v 7))) (da_cons (e_v 5) da_nil))) da_nil)))) fun wi tt te h1 h2 h3 => pe_lc (own := [("_law_x", 8), ("_law_y", 9)]) rfl S.nd h1 (blkOk_by (own := [("_law_x", 8), ("_law_y", 9)]) (N := N__law_shape) (sc := defScope s__law_shape) (by decide +kernel)) (fun _ _ _ _ _ => pg_tup rfl (pgs_cons (pg_name (i := 8) S.nd rfl (Or.inl rfl)) (pgs_cons (pg_name (i := 9) S.nd rfl (Or.inl rfl)) pgs_nil))) h2 h3)))))))))
/-! ### _law_caught -/
def N__law_caught : List Str := ["_law_shape_here", "_law_factor", "_law_caught_here", "e"]
def B__law_caught : SF := (seqF (setF 2 (cE .none)) (seqF (tryF 3 2 (consA (vE 0) (consA (vE 1) nilA)) F_sized FX_sized) (retF (vE 2))))
def F__law_caught : List D → Option D := bodyFn false 4 B__law_caught
theorem sc__law_caught : FnScope N__law_caught ["_law_shape_here", "_law_factor"] (defScope s__law_caught) := ⟨rfl, rfl, rfl, by decide +kernel, rfl, by decide +kernel, by decide +kernel⟩
theorem ok__law_caught {P : Program} {w : World} {K : PySem.W.Frag} {mg : Str → Option Value} (T : Top K mg) (ok_sized : DefOk P w K mg "sized" 4 ["shape", "factor"] true F_sized) (okx_sized : DefX P w K mg "sized" 4 ["shape", "factor"] F_sized FX_sized) : DefOk P w K mg "_law_caught" 5 ["_law_shape_here", "_law_factor"] false F__law_caught := by
  obtain ⟨fa, fd, hm, hk, hF⟩ := T.d__law_caught
  have S := sc__law_caught
  refine ⟨fa, fd, hm, hk, FunD.bindsA hF (fun _ _ _ _ _ _ us hl => match us, hl with | [_, _], _ => rfl), fun base => ?_⟩
  refine fn_ok (N := N__law_caught) (own := false) (O' := []) (b := B__law_caught) hF S (fun cdv A outer s H E hr => ?_) (by rfl)
  exact (dss_cons (s_set 2 S.nd de_non) (dss_cons (s_try 3 2 T.exc okx_sized hr rfl rfl rfl (fun W pn xe => (da_cons (e_v 0) (da_cons (e_v 1) da_nil))) (by decide) S.nd) (dss_one (ds_ret (e_v 2)))))
/-! ### _law_right -/
def N__law_right : List Str := ["_law_shape_here", "_law_factor", "_law_handed", "_law_caught_here", "_law_found"]
def B__law_right : SF := (seqF (setL 2 (o1L listD (vE 0))) (seqF (setF 3 (callE F__law_caught (consA (vE 2) (consA (vE 1) nilA)))) (seqF (ifF (tb (o2 neD (vE 2) (vE 0))) (retF (cE (.bool false))) skipF) (seqF (ifF (tb (o2 gtD (o2 ixD (vE 1) (cE (.int 0))) (cE (.int 0)))) (seqF (setL 4 (callL F_sized (consA (vE 2) (consA (vE 1) nilA)))) (retF (andE (o2 isD (vE 3) (cE .none)) (andE (o1 (isiD "list") (vE 4)) (o2 eqD (o1 lenD (vE 4)) (o1 lenD (vE 0))))))) skipF) (seqF (ifF (tb (o1 (isx2 "NoNumber" "NoShape") (vE 3))) (retF (cE (.bool false))) skipF) (retF (andE (o1 (isx1 "NoSize") (vE 3)) (o1 isxV (vE 3)))))))))
def F__law_right : List D → Option D := bodyFn false 5 B__law_right
theorem sc__law_right : FnScope N__law_right ["_law_shape_here", "_law_factor"] (defScope s__law_right) := ⟨rfl, rfl, rfl, by decide +kernel, rfl, by decide +kernel, by decide +kernel⟩
theorem ok__law_right {P : Program} {w : World} {K : PySem.W.Frag} {mg : Str → Option Value} (T : Top K mg) (ok_sized : DefOk P w K mg "sized" 4 ["shape", "factor"] true F_sized) (ok__law_caught : DefOk P w K mg "_law_caught" 5 ["_law_shape_here", "_law_factor"] false F__law_caught) : DefOk P w K mg "_law_right" 6 ["_law_shape_here", "_law_factor"] false F__law_right := by
  obtain ⟨fa, fd, hm, hk, hF⟩ := T.d__law_right
  have S := sc__law_right
  refine ⟨fa, fd, hm, hk, FunD.bindsA hF (fun _ _ _ _ _ _ us hl => match us, hl with | [_, _], _ => rfl), fun base => ?_⟩
  refine fn_ok (N := N__law_right) (own := false) (O' := []) (b := B__law_right) hF S (fun cdv A outer s H E hr => ?_) (by rfl)
  exact (dss_cons (s_setN 2 S.nd (n_list (r_v 0) T.b_list)) (dss_cons (ds_pre (O2 := []) (s_set 3 S.nd (e_call ok__law_caught hr rfl (da_cons (e_v 2) (da_cons (e_v 1) da_nil))))) (dss_cons (ds_if (t_cmp (c_ne hr (r_v 2) (r_v 0))) (dss_one (ds_ret de_bl)) dss_nil) (dss_cons (ds_if (t_cmp (dc_gt (de_ix (r_v 1) de_int) de_int)) (dss_cons (s_setN 4 S.nd (n_call ok_sized hr rfl (da_cons (e_v 2) (da_cons (e_v 1) da_nil)))) (dss_one (ds_ret (de_and (e_cmp (dc_is (e_v 3) de_non)) (de_and (e_isi "list" (r_v 4) T.b_isinstance T.b_list) (de_one (e_cmp (c_eq hr (DE_r (e_len (r_v 4) T.b_len)) (DE_r (e_len (r_v 0) T.b_len)))))))))) dss_nil) (dss_cons (ds_if (dt_val (e_isx2 T.exc (e_v 3))) (dss_one (ds_ret de_bl)) dss_nil) (dss_one (ds_ret (de_and (e_isx1 T.exc (e_v 3)) (de_one (e_isxV T.exc (e_v 3)))))))))))
/-! ### law -/
def N_law : List Str := ["_law_script", "_law_shape_here", "_law_k", "_law_cell", "_law_number", "_law_top"]
def L1_law : SF := (seqF (setF 3 (callE F__law_cell_at (consA (vE 0) (consA (vE 2) nilA)))) (seqF (setF 4 (callE F__law_mixed (consA (vE 0) (consA (o2 addD (cE (.int 60)) (vE 2)) nilA)))) (seqF (setF 5 (o2 subD (o2 modD (vE 4) (cE (.int 19))) (cE (.int 9)))) (seqF (ifF (tb (o2 eqD (o2 modD (o2 fdivD (vE 4) (cE (.int 19))) (cE (.int 3))) (cE (.int 1)))) (setF 5 (o2 subD (o2 modD (vE 3) (o2 mulD (cE (.int 2)) (o2 powD (cE (.int 10)) (cE (.int 30))))) (o2 powD (cE (.int 10)) (cE (.int 30))))) skipF) (ifF (notB (tb (callE F__law_right (consA (vE 1) (consA (callE F__law_lowest (consA (vE 5) (consA (o2 addD (cE (.int 1)) (o2 modD (o2 fdivD (vE 4) (cE (.int 57))) (o2 powD (cE (.int 10)) (cE (.int 9))))) nilA))) nilA))))) (retF (cE (.bool false))) skipF)))))
def B_law : SF := (seqF (setL 1 (callL F__law_shape (consA (vE 0) (consA (cE (.int 1)) (consA (cE (.int 6)) nilA))))) (seqF (forF (rng1F (o2 min2D (cE (.int 20)) (o1 lenD (vE 0)))) (nameG 2) L1_law) (retF (callE F__law_right (consA (vE 1) (consA (tupE (consA (cE (.int 0)) (consA (cE (.int 1)) nilA))) nilA))))))
def F_law : List D → Option D := bodyFn false 6 B_law
theorem sc_law : FnScope N_law ["_law_script"] (defScope s_law) := ⟨rfl, rfl, rfl, by decide +kernel, rfl, by decide +kernel, by decide +kernel⟩
theorem ok_law {P : Program} {w : World} {K : PySem.W.Frag} {mg : Str → Option Value} (T : Top K mg) (ok__law_cell_at : DefOk P w K mg "_law_cell_at" 1 ["_law_script", "_law_k"] false F__law_cell_at) (ok__law_mixed : DefOk P w K mg "_law_mixed" 2 ["_law_script", "_law_k"] false F__law_mixed) (ok__law_lowest : DefOk P w K mg "_law_lowest" 2 ["_law_top", "_law_bottom"] false F__law_lowest) (ok__law_shape : DefOk P w K mg "_law_shape" 4 ["_law_script", "_law_start", "_law_most"] true F__law_shape) (ok__law_right : DefOk P w K mg "_law_right" 6 ["_law_shape_here", "_law_factor"] false F__law_right) : DefOk P w K mg "law" 7 ["_law_script"] false F_law := by
  obtain ⟨fa, fd, hm, hk, hF⟩ := T.d_law
  have S := sc_law
  refine ⟨fa, fd, hm, hk, FunD.bindsA hF (fun _ _ _ _ _ _ us hl => match us, hl with | [_], _ => rfl), fun base => ?_⟩
  refine fn_ok (N := N_law) (own := false) (O' := []) (b := B_law) hF S (fun cdv A outer s H E hr => ?_) (by rfl)
  exact (dss_cons (s_setN 1 S.nd (n_call ok__law_shape hr rfl (da_cons (e_v 0) (da_cons de_int (da_cons de_int da_nil))))) (dss_cons (ds_pre (O2 := []) (s_for (i_rng1 (e_min2 de_int (e_len (r_v 0) T.b_len) T.b_min) T.b_range) (g_name 2 S.nd) (dss_cons (s_set 3 S.nd (e_call ok__law_cell_at hr rfl (da_cons (e_v 0) (da_cons (e_v 2) da_nil)))) (dss_cons (s_set 4 S.nd (e_call ok__law_mixed hr rfl (da_cons (e_v 0) (da_cons (de_add de_int (e_v 2)) da_nil)))) (dss_cons (s_set 5 S.nd (de_sub (de_mod (e_v 4) de_int) de_int)) (dss_cons (ds_if (t_cmp (c_eq hr (DE_r (de_mod (de_fdiv (e_v 4) de_int) de_int)) (DE_r de_int))) (dss_one (s_set 5 S.nd (de_sub (de_mod (e_v 3) (de_mul de_int (de_pow de_int de_int))) (de_pow de_int de_int)))) dss_nil) (dss_one (ds_if (dt_not (dt_val (e_call ok__law_right hr rfl (da_cons (e_v 1) (da_cons (e_call ok__law_lowest hr rfl (da_cons (e_v 5) (da_cons (de_add de_int (de_mod (de_fdiv (e_v 4) de_int) (de_pow de_int de_int))) da_nil))) da_nil))))) (dss_one (ds_ret de_bl)) dss_nil)))))))) (dss_one (ds_ret (e_call ok__law_right hr rfl (da_cons (e_v 1) (da_cons (de_tup (da_cons de_int (da_cons de_int da_nil))) da_nil)))))))
end Lw

namespace Lw
open PySem PySem.Spec PyProof.Rows L2 DL
theorem F_divisor_eq (a b : Int) : F_divisor [.int a, .int b] = some (.int (Int.gcd a b)) := by
  unfold F_divisor B_divisor L1_divisor
  simp [whileF, natAt]
  rw [gcd_loop _ _ _ (by omega)]
  simp [Int.gcd]
theorem F_ratio_eq (t b : Int) (hb : b ≠ 0) (hs : Sz 9000 b) : F_ratio [.int t, .int b] = some (frQ (Rat.divInt t b)) := by
  obtain ⟨g, hg, h⟩ := lowest_parts (t := t) hb hs
  unfold F_ratio B_ratio frQ
  by_cases hn : b < 0
  · rw [if_pos hn] at h
    simp [hb, F_divisor_eq, hg, hn, h.1, h.2]
  · rw [if_neg hn] at h
    simp [hb, F_divisor_eq, hg, hn, h.1, h.2]
theorem F_times_eq {n : Nat} {p q : Rat} (hp : Qz n p) (hq : Qz n q) (hn : 2 * n ≤ 9000) : F_times [frQ p, frQ q] = some (frQ (p * q)) := by
  have hd : Sz (n + n) ((p.den : Int) * q.den) := hp.2.mul hq.2
  unfold F_times B_times
  simp [mulD_i (mulB_sz hp.1 hq.1 (by omega)), mulD_i (mulB_sz hp.2 hq.2 (by omega))]
  rw [F_ratio_eq _ _ (Int.mul_ne_zero (den_ne p) (den_ne q)) (hd.mono (by omega)), mul_divInt]
  all_goals rfl
theorem F_cell_at_eq (ns : List Int) (k : Nat) : F__law_cell_at [intsL ns, .int k] = some (.int (ns.getD k 0)) := by
  unfold F__law_cell_at B__law_cell_at intsL
  simp
  by_cases h : k < ns.length
  · simp [h, atI_lt]
  · simp [h]
theorem F_whole_int (i : Int) : F__law_whole [.int i] = some (.bool true) := by
  unfold F__law_whole B__law_whole
  simp
theorem F_ldivisor_eq (a b : Int) : F__law_divisor [.int a, .int b] = some (.int (Int.gcd a b)) := by
  unfold F__law_divisor B__law_divisor L1__law_divisor
  simp [whileF, natAt]
  rw [gcd_loop _ _ _ (by omega)]
  simp [Int.gcd]
theorem F_lowest_eq (t b : Int) (hb : b ≠ 0) (hs : Sz 9000 b) : F__law_lowest [.int t, .int b] = some (frQ (Rat.divInt t b)) := by
  obtain ⟨g, hg, h⟩ := lowest_parts (t := t) hb hs
  unfold F__law_lowest B__law_lowest frQ
  by_cases hn : b < 0
  · rw [if_pos hn] at h
    simp [hb, F_ldivisor_eq, hg, hn, h.1, h.2]
  · rw [if_neg hn] at h
    simp [hb, F_ldivisor_eq, hg, hn, h.1, h.2]
theorem F_is_fraction_gen (a b : Int) (hb : 0 < b) (hg : Int.gcd a b = 1) : F__law_is_fraction [.tuple [.int a, .int b]] = some (.bool true) := by
  unfold F__law_is_fraction B__law_is_fraction
  simp [F_whole_int, F_ldivisor_eq, hb, hg]
theorem F_is_fraction_eq (q : Rat) : F__law_is_fraction [frQ q] = some (.bool true) := by
  have hb : (0 : Int) < (q.den : Int) := by have := q.den_pos; omega
  have hg := rat_gcd q
  unfold frQ
  generalize q.num = a at *
  generalize (q.den : Int) = b at *
  exact F_is_fraction_gen a b hb hg
theorem block_loop (S k : D) : ∀ (ds : List D) (z : Int) (j : Option D), ∃ z' j', forL (nameG 3) L1__law_block ds [some S, some k, some (.int z), j] = some (.nx [some S, some k, some (.int z'), j'])
  | [], z, j => ⟨z, j, rfl⟩
  | d :: ds, z, j => by
    obtain ⟨z', j', h⟩ := block_loop S k ds (z / 2147483587) (some d)
    refine ⟨z', j', ?_⟩
    have e1 : L1__law_block [some S, some k, some (.int z), some d] = some (.nx [some S, some k, some (.int (z / 2147483587)), some d]) := by
      unfold L1__law_block; simp
    unfold forL
    simp [e1, h]
theorem F_block_ex (ns : List Int) (k : Nat) (hk : k ≤ 10000) : ∃ z : Int, F__law_block [intsL ns, .int k] = some (.int z) := by
  have c1 : -4611686018427387904 ≤ (k : Int) % 8 ∧ (k : Int) % 8 < 4611686018427387904 := by
    have h1 := Int.emod_nonneg (k : Int) (show (8 : Int) ≠ 0 by decide)
    have h2 := Int.emod_lt_of_pos (k : Int) (show (0 : Int) < 8 by decide)
    omega
  have key : ∀ z : Int, ∃ z' j', forL (nameG 3) L1__law_block (rngL 0 ((k : Int) % 8).toNat) [some (intsL ns), some (.int k), some (.int z), none] = some (.nx [some (intsL ns), some (.int k), some (.int z'), j']) := fun z => block_loop _ _ _ _ _
  have c2 : (0 : Int) ≤ (k : Int) / 8 % 62 := Int.emod_nonneg _ (by decide)
  have c3 : (k : Int) / 8 % 62 < 62 := Int.emod_lt_of_pos _ (by decide)
  unfold F__law_block B__law_block
  unfold intsL at *
  by_cases h : 1 + (k : Int) / 8 % 62 < ns.length
  · have e : atI (ns.map PyData.int) (1 + (k : Int) / 8 % 62) = some (.int (ns.getD (1 + (k : Int) / 8 % 62).toNat 0)) := by
      rw [atI_lt (by omega), List.getElem?_map]
      have : (1 + (k : Int) / 8 % 62).toNat < ns.length := by omega
      simp [this]
    generalize ns.getD (1 + (k : Int) / 8 % 62).toNat 0 = w at e
    obtain ⟨z', j', hz⟩ := key (w / 10000000000000000000000000000000000000000000000000000000000000000)
    --(ns.getD (1 + (k : Int) / 8 % 62).toNat 0 / 10000000000000000000000000000000000000000000000000000000000000000)
    exact ⟨z', by simp [h, e, powD_e, c1, hz]⟩
  · obtain ⟨z', j', hz⟩ := key 0
    exact ⟨z', by simp [h, c1, hz]⟩
theorem mixed_tail (S : D) (c : Int) (k : Nat) (hk : k ≤ 10000) : ∃ n : Int, (seqF (setF 3 (o2 addD (o2 modD (vE 2) (o2 powD (cE (.int 10)) (cE (.int 18)))) (o2 mulD (cE (.int 48271)) (o2 addD (vE 1) (cE (.int 1)))))) (seqF (setF 3 (o2 addD (o2 modD (o2 mulD (vE 3) (vE 3)) (cE (.int 2147483629))) (o2 mulD (cE (.int 69621)) (vE 1)))) (retF (o2 modD (o2 mulD (vE 3) (vE 3)) (cE (.int 2147483587)))))) [some S, some (.int k), some (.int c), none] = some (.rt (.int n)) ∧ 0 ≤ n ∧ n < 2147483587 := by
  obtain ⟨u, hu, u0, u1⟩ : ∃ u, modD (.int c) (.int 1000000000000000000) = some (.int u) ∧ 0 ≤ u ∧ u < 1000000000000000000 := ⟨_, modD_pos (by decide), Int.emod_nonneg _ (by decide), Int.emod_lt_of_pos _ (by decide)⟩
  have a1 : mulD (.int 48271) (.int ((k : Int) + 1)) = some (.int (48271 * ((k : Int) + 1))) := mulD_i (mulB_l (by decide))
  have a2 : mulD (.int 69621) (.int (k : Int)) = some (.int (69621 * (k : Int))) := mulD_i (mulB_l (by decide))
  obtain ⟨x, hx, x1⟩ : ∃ x, addD (.int u) (.int (48271 * ((k : Int) + 1))) = some (.int x) ∧ x.natAbs < 18446744073709551616 := ⟨_, rfl, by omega⟩
  have a3 : mulD (.int x) (.int x) = some (.int (x * x)) := mulD_i (mulB_l x1)
  obtain ⟨y, hy, y0, y1⟩ : ∃ y, modD (.int (x * x)) (.int 2147483629) = some (.int y) ∧ 0 ≤ y ∧ y < 2147483629 := ⟨_, modD_pos (by decide), Int.emod_nonneg _ (by decide), Int.emod_lt_of_pos _ (by decide)⟩
  obtain ⟨z, hz, z1⟩ : ∃ z, addD (.int y) (.int (69621 * (k : Int))) = some (.int z) ∧ z.natAbs < 18446744073709551616 := ⟨_, rfl, by omega⟩
  have a4 : mulD (.int z) (.int z) = some (.int (z * z)) := mulD_i (mulB_l z1)
  obtain ⟨n, hn, n0, n1⟩ : ∃ y, modD (.int (z * z)) (.int 2147483587) = some (.int y) ∧ 0 ≤ y ∧ y < 2147483587 := ⟨_, modD_pos (by decide), Int.emod_nonneg _ (by decide), Int.emod_lt_of_pos _ (by decide)⟩
  refine ⟨n, ?_, n0, n1⟩
  have p : powD (.int 10) (.int 18) = some (.int 1000000000000000000) := by simp [powD_e]
  have s1 : addD (.int (k : Int)) (.int 1) = some (.int ((k : Int) + 1)) := rfl
  simp only [seqF_e, setF_e, o2_e, cE_e, vE_2, vE_1, vE_3, Option.bind_some, p, hu, s1, a1, hx, Option.map_some, List.set_cons_succ, List.set_cons_zero, a3, hy, a2, hz, retF_e, a4, hn]
theorem F_mixed_ex (ns : List Int) (k : Nat) (hk : k ≤ 10000) : ∃ n : Int, F__law_mixed [intsL ns, .int k] = some (.int n) ∧ 0 ≤ n ∧ n < 2147483587 := by
  obtain ⟨z, hz⟩ := F_block_ex ns k hk
  have tl := fun c => mixed_tail (intsL ns) c k hk
  have zb1 := Int.emod_nonneg z (show (2147483587 : Int) ≠ 0 by decide)
  have zb2 := Int.emod_lt_of_pos z (show (0 : Int) < 2147483587 by decide)
  obtain ⟨y, hy, y0, y1⟩ : ∃ y, modD (.int z) (.int 2147483587) = some (.int y) ∧ 0 ≤ y ∧ y < 2147483587 := ⟨_, modD_pos (by decide), zb1, zb2⟩
  unfold F__law_mixed B__law_mixed
  generalize (seqF (setF 3 _) _) = T at tl ⊢
  by_cases hn : ns.length = 0
  · have hnil : ns = [] := List.length_eq_zero_iff.mp hn
    subst hnil
    obtain ⟨n, h1, h2, h3⟩ := tl 0
    refine ⟨n, ?_, h2, h3⟩
    unfold intsL at *
    simp at h1
    simp [powD_e, h1]
  · have hp : 0 < ns.length := by omega
    have e0 : atI (ns.map PyData.int) 0 = some (.int (ns.getD 0 0)) := by
      rw [atI_lt (by omega), List.getElem?_map]; simp [hp]
    have hmod : ∃ i : Nat, i < ns.length ∧ (min2D (.int 63) (.int ns.length)).bind (fun y => modD (.int k) y) = some (.int i) := by
      obtain ⟨m, hm, h1, h2⟩ : ∃ m : Int, min2D (.int 63) (.int ns.length) = some (.int m) ∧ 0 < m ∧ m ≤ ns.length := ⟨_, rfl, by split <;> omega, by split <;> omega⟩
      rw [hm]
      have a1 := Int.emod_nonneg (k : Int) (show m ≠ 0 by omega)
      have a2 := Int.emod_lt_of_pos (k : Int) h1
      exact ⟨((k : Int) % m).toNat, by omega, by rw [Option.bind_some, modD_pos h1, Int.toNat_of_nonneg a1]⟩
    obtain ⟨i, hi, hmi⟩ := hmod
    have ei : atI (ns.map PyData.int) (i : Int) = some (.int (ns.getD i 0)) := by
      rw [atI_lt (by omega), List.getElem?_map]; simp [hi]
    unfold intsL at *
    generalize ns.getD 0 0 = c0 at *
    generalize ns.getD i 0 = ci at *
    obtain ⟨n, h1, h2, h3⟩ := tl ci
    by_cases hg1 : c0 / 1000000 % 2 = 1
    · by_cases hg : z = 0
      · subst hg
        exact ⟨n, by simp [hp, e0, powD_e, hz, hg1, hmi, ei, h1], h2, h3⟩
      · exact ⟨y, by simp [hp, e0, powD_e, hz, hg1, hg, hy], y0, y1⟩
    · exact ⟨n, by simp [hp, e0, powD_e, hz, hg1, hmi, ei, h1], h2, h3⟩
theorem F_turn_eq {n : Nat} {a b c : Pt} (ha : Pz n a) (hb : Pz n b) (hc : Pz n c) (hn : n ≤ 4000) : F__law_turn [ptD a, ptD b, ptD c] = some (.int (bendZ a b c)) := by
  have m1 := mulD_i (mulB_sz (hb.1.sub ha.1) (hc.2.sub ha.2) (by omega))
  have m2 := mulD_i (mulB_sz (hb.2.sub ha.2) (hc.1.sub ha.1) (by omega))
  unfold F__law_turn B__law_turn bendZ
  simp [m1, m2]
theorem ring_pop {n : Nat} (hn : n ≤ 4000) (p : Pt) (hp : Pz n p) (a b c : Option D) : ∀ (st : List Pt) (k : Nat), st.length < k → (∀ q ∈ st, Pz n q) →
    whileN (andB (tb (o2 gtD (o1 lenD (vE 3)) (cE (.int 1)))) (tb (o2 leD (callE F__law_turn (consA (o2 ixD (vE 3) (o1 negD (cE (.int 2)))) (consA (o2 ixD (vE 3) (o1 negD (cE (.int 1)))) (consA (vE 4) nilA)))) (cE (.int 0))))) L3__law_ring k
      [a, b, c, some (.list (st.map ptD).reverse), some (ptD p)] = some (.nx [a, b, c, some (.list ((popS st p).map ptD).reverse), some (ptD p)])
  | _, 0, h, _ => absurd h (by omega)
  | [], k + 1, _, _ => by
    unfold whileN popS; simp
  | [x], k + 1, _, _ => by
    unfold whileN popS; simp
  | y :: x :: r, k + 1, h, hz => by
    have ih := ring_pop hn p hp a b c (x :: r) k (by simp at h ⊢; omega) (fun q hq => hz q (List.mem_cons_of_mem _ hq))
    have t := F_turn_eq (hz x (by simp)) (hz y (by simp)) hp hn
    have e1 : atI ((y :: x :: r).map ptD).reverse (-1) = some (ptD y) := atI_m1
    have e2 : atI ((y :: x :: r).map ptD).reverse (-2) = some (ptD x) := atI_m2
    have e3 : ((y :: x :: r).map ptD).reverse.length = r.length + 2 := by simp
    have e4 : ((y :: x :: r).map ptD).reverse.dropLast = ((x :: r).map ptD).reverse := by simp
    by_cases hb : bendZ x y p ≤ 0
    · rw [show popS (y :: x :: r) p = popS (x :: r) p by rw [popS, if_pos hb]]
      unfold whileN
      generalize ((y :: x :: r).map ptD).reverse = L at e1 e2 e3 e4 ⊢
      have e5 : (1 : Int) < (L.length : Int) := by omega
      have e6 : 0 < L.length := by omega
      unfold L3__law_ring at ih ⊢
      simp [e1, e2, e5, t, hb, popF, e6, e4]
      simpa using ih
    · rw [show popS (y :: x :: r) p = y :: x :: r by rw [popS, if_neg hb]]
      unfold whileN
      generalize ((y :: x :: r).map ptD).reverse = L at e1 e2 e3 e4 ⊢
      have e5 : (1 : Int) < (L.length : Int) := by omega
      simp [e1, e2, e5, t, hb]
theorem ring_step {n : Nat} (hn : n ≤ 4000) (p : Pt) (hp : Pz n p) (a b c d : Option D) (st : List Pt) (hl : st.length < 1000) (hz : ∀ q ∈ st, Pz n q) :
    L2__law_ring [a, b, c, some (.list (st.map ptD).reverse), some (ptD p)] = some (.nx [a, b, c, some (.list ((stepS st p).map ptD).reverse), some (ptD p)]) := by
  have h := ring_pop hn p hp a b c st (st.length + 1) (by omega) hz
  have hs : (popS st p).length < sizeLine := Nat.lt_of_le_of_lt (popS_len st p) (Nat.lt_of_lt_of_le hl (small_size (Nat.le_refl _)))
  unfold L2__law_ring whileF stepS
  simp only [seqF_e]
  rw [show lenAt [a, b, c, some (.list (st.map ptD).reverse), some (ptD p)] 3 + 1 = st.length + 1 by simp [lenAt], h]
  simp [appF, hs]
theorem ring_row {n : Nat} (hn : n ≤ 4000) (a b c : Option D) : ∀ (ps st : List Pt) (d : Option D), ps.length + st.length < 1000 → (∀ q ∈ st, Pz n q) → (∀ q ∈ ps, Pz n q) →
    ∃ d', forL (nameG 4) L2__law_ring (ps.map ptD) [a, b, c, some (.list (st.map ptD).reverse), d] = some (.nx [a, b, c, some (.list ((ps.foldl stepS st).map ptD).reverse), d'])
  | [], st, d, _, _, _ => ⟨d, rfl⟩
  | p :: ps, st, d, h, hs, hp => by
    have hl := popS_len st p
    obtain ⟨d', e⟩ := ring_row hn a b c ps (stepS st p) (some (ptD p)) (by simp only [stepS, List.length_cons] at *; omega) (fun q hq => by
      rcases List.mem_cons.mp hq with z | z
      · exact z ▸ hp p List.mem_cons_self
      · exact hs q (popS_mem _ _ _ z)) (fun q hq => hp q (List.mem_cons_of_mem _ hq))
    refine ⟨d', ?_⟩
    have st1 := ring_step hn p (hp p List.mem_cons_self) a b c d st (by simp at h; omega) hs
    rw [List.map_cons]
    unfold forL
    simp only [nameG_e, List.set_cons_succ, List.set_cons_zero, Option.bind_some]
    rw [st1]
    simpa using e
theorem ring_turn {n : Nat} (hn : n ≤ 4000) (a : Option D) (acc row : List Pt) (h1 : row.length < 500) (h2 : acc.length < 500) (hz : ∀ q ∈ row, Pz n q) (d e : Option D) :
    ∃ d' e', L1__law_ring [a, some (.list (acc.map ptD)), some (.list (row.map ptD)), d, e] = some (.nx [a, some (.list ((acc ++ (chainP row).dropLast).map ptD)), some (.list (row.map ptD)), d', e']) := by
  obtain ⟨e', he⟩ := ring_row hn a (some (.list (acc.map ptD))) (some (.list (row.map ptD))) row [] e (by simp; omega) (fun q hq => absurd hq (by simp)) hz
  have hl := chainP_len row
  have cc : ((row.foldl stepS []).map ptD).reverse = (chainP row).map ptD := by unfold chainP chainS; rw [List.map_reverse]
  rw [cc] at he
  refine ⟨some (.list ((chainP row).map ptD)), e', ?_⟩
  have hs : acc.length + (chainP row).length - 1 ≤ sizeLine := small_size (by omega)
  have hs2 : acc.length + ((chainP row).length - 1) ≤ sizeLine := small_size (by omega)
  have hcut : cutD ((chainP row).map ptD) none (some (-1)) = (chainP row).dropLast.map ptD := by rw [cutD_m1, List.map_dropLast]
  unfold L1__law_ring
  simp only [List.map_nil, List.reverse_nil] at he
  simp [he, catA, hcut, hs2]
theorem F_ring_eq {n : Nat} (hn : n ≤ 4000) (ps : List Pt) (h1 : ps.length < 64) (hz : ∀ q ∈ ps, Pz n q) : F__law_ring [.list (ps.map ptD)] = some (.list ((ringP ps).map ptD)) := by
  have hl := sset_len ps
  have hzs : ∀ q ∈ sset ps, Pz n q := fun q hq => hz q (mem_sset.mp hq)
  obtain ⟨d1, e1, t1⟩ := ring_turn hn (some (.list (ps.map ptD))) [] (sset ps) (by omega) (by simp) hzs none none
  have hc := chainP_len (sset ps)
  obtain ⟨d2, e2, t2⟩ := ring_turn hn (some (.list (ps.map ptD))) (chainP (sset ps)).dropLast (sset ps).reverse (by rw [List.length_reverse]; omega) (by rw [List.length_dropLast]; omega) (fun q hq => hzs q (List.mem_reverse.mp hq)) d1 e1
  have hs := sortsetD_pts h1
  unfold F__law_ring B__law_ring
  simp only [List.map_nil, List.nil_append] at t1
  simp only [List.map_reverse, List.map_dropLast, List.map_append] at t1 t2
  simp [hs, retV, forL, t1, t2, ringP]
theorem pz_of {a b : Int} (h1 : a.natAbs < 4096) (h2 : b.natAbs < 4096) : Pz 12 (a, b) := ⟨h1, h2⟩
theorem points_step (ns : List Int) (start : Nat) (most : D) (w : Int) (ps : List Pt) (hl : ps.length < 1000) (j : Nat) (hj : start + 2 + j ≤ 10000) (b c : Option D) :
    ∃ q b' , Pz 12 q ∧ L1__law_points [some (intsL ns), some (.int start), some most, some (.int w), some (.list (ps.map ptD)), some (.int j), b, c, none, none] = some (.nx [some (intsL ns), some (.int start), some most, some (.int w), some (.list ((ps ++ [q]).map ptD)), some (.int j), b', some (ptD q), none, none]) := by
  obtain ⟨n, hn, n0, n1⟩ := F_mixed_ex ns (start + 2 + j) hj
  have e : (((start + 2 + j : Nat) : Int)) = (start : Int) + 2 + (j : Int) := by omega
  rw [e] at hn
  have hs : ps.length < sizeLine := Nat.lt_of_lt_of_le hl (small_size (by decide))
  have r3 := fun x : Int => (⟨Int.emod_nonneg x (show (3 : Int) ≠ 0 by decide), Int.emod_lt_of_pos x (show (0 : Int) < 3 by decide)⟩ : _ ∧ _)
  have r7 := fun x : Int => (⟨Int.emod_nonneg x (show (7 : Int) ≠ 0 by decide), Int.emod_lt_of_pos x (show (0 : Int) < 7 by decide)⟩ : _ ∧ _)
  have r2 := fun x : Int => (⟨Int.emod_nonneg x (show (2001 : Int) ≠ 0 by decide), Int.emod_lt_of_pos x (show (0 : Int) < 2001 by decide)⟩ : _ ∧ _)
  by_cases h1 : w = 1
  · refine ⟨(n % 2001 - 1000, n / 2001 % 2001 - 1000), some (.int n), pz_of (by have := r2 n; omega) (by have := r2 (n / 2001); omega), ?_⟩
    unfold L1__law_points
    simp [hn, h1, appF, hs, ptD_mk]
  · by_cases h2 : w = 2
    · refine ⟨(n % 3, n / 3 % 3), some (.int n), pz_of (by have := r3 n; omega) (by have := r3 (n / 3); omega), ?_⟩
      unfold L1__law_points
      simp [hn, h1, h2, appF, hs, ptD_mk]
    · refine ⟨(n % 7 - 3, n / 7 % 7 - 3), some (.int n), pz_of (by have := r7 n; omega) (by have := r7 (n / 7); omega), ?_⟩
      unfold L1__law_points
      simp [hn, h1, h2, appF, hs, ptD_mk]
theorem points_loop (ns : List Int) (start : Nat) (most : D) (w : Int) : ∀ (js : List Nat) (ps : List Pt) (a b c : Option D), (∀ j ∈ js, start + 2 + j ≤ 10000) → ps.length + js.length < 1000 → (∀ q ∈ ps, Pz 12 q) →
    ∃ (qs : List Pt) (a' b' c' : Option D), forL (nameG 5) L1__law_points (js.map fun (j : Nat) => PyData.int (j : Int)) [some (intsL ns), some (.int start), some most, some (.int w), some (.list (ps.map ptD)), a, b, c, none, none] = some (.nx [some (intsL ns), some (.int start), some most, some (.int w), some (.list (qs.map ptD)), a', b', c', none, none]) ∧ qs.length = ps.length + js.length ∧ ∀ q ∈ qs, Pz 12 q
  | [], ps, a, b, c, _, _, hz => ⟨ps, a, b, c, rfl, rfl, hz⟩
  | j :: js, ps, a, b, c, hj, hl, hz => by
    obtain ⟨q, b', hq, e⟩ := points_step ns start most w ps (by simp at hl; omega) j (hj j List.mem_cons_self) b c
    obtain ⟨qs, a2, b2, c2, e2, l2, z2⟩ := points_loop ns start most w js (ps ++ [q]) (some (.int j)) b' (some (ptD q)) (fun i hi => hj i (List.mem_cons_of_mem _ hi)) (by simp at hl ⊢; omega) (fun x hx => by
      rcases List.mem_append.mp hx with h | h
      · exact hz x h
      · rw [List.mem_singleton.mp h]; exact hq)
    refine ⟨qs, a2, b2, c2, ?_, by simp at l2 ⊢; omega, z2⟩
    rw [List.map_cons]
    unfold forL
    simp only [nameG_e, List.set_cons_succ, List.set_cons_zero, Option.bind_some]
    rw [e]
    exact e2
/-- three points off one line, at the ends -/
def TriP (ps : List Pt) : Prop := ∃ p q r : Pt, p ∈ ps ∧ q ∈ ps ∧ r ∈ ps ∧ 0 < bendZ p q r
theorem F_points_ex (ns : List Int) (start : Nat) (most : Nat) (hs : start + most ≤ 9000) (hm : 3 ≤ most) (hm2 : most ≤ 40) : ∃ ps : List Pt, F__law_points [intsL ns, .int start, .int most] = some (.list (ps.map ptD)) ∧ 3 ≤ ps.length ∧ ps.length ≤ most ∧ (∀ q ∈ ps, Pz 13 q) ∧ TriP ps := by
  obtain ⟨n1, e1, _, _⟩ := F_mixed_ex ns start (by omega)
  obtain ⟨n2, e2, _, _⟩ := F_mixed_ex ns (start + 1) (by omega)
  have ec : ((start + 1 : Nat) : Int) = (start : Int) + 1 := by omega
  rw [ec] at e2
  have d1 : (0 : Int) < (most : Int) - 2 := by omega
  obtain ⟨v, hm3, v0, v1⟩ : ∃ v : Int, modD (.int n2) (.int ((most : Int) - 2)) = some (.int v) ∧ 0 ≤ v ∧ v < (most : Int) - 2 :=
    ⟨_, modD_pos d1, Int.emod_nonneg n2 (by omega), Int.emod_lt_of_pos n2 d1⟩
  obtain ⟨m, hv⟩ : ∃ m : Nat, 3 + v = (m : Int) := ⟨(3 + v).toNat, by omega⟩
  have hm4 : 3 ≤ m := by omega
  have hm5 : m ≤ most := by omega
  have hr : rngL 0 (3 + v).toNat = (List.range m).map fun (j : Nat) => PyData.int (j : Int) := by
    have : (3 + v).toNat = m := by omega
    unfold rngL; rw [this]; simp
  obtain ⟨qs, a, b, c, el, hl, hz⟩ := points_loop ns start (.int most) (n1 % 4) (List.range m) [] none none none (fun j hj => by have := List.mem_range.mp hj; omega) (by simp; omega) (fun q hq => absurd hq (by simp))
  have hl : qs.length = m := by simpa using hl
  -- the first, the last but one, the last
  obtain ⟨p0, h0⟩ : ∃ p, qs[0]? = some p := ⟨_, List.getElem?_eq_getElem (by omega)⟩
  obtain ⟨p1, h1⟩ : ∃ p, qs[m - 2]? = some p := ⟨_, List.getElem?_eq_getElem (by omega)⟩
  obtain ⟨p2, h2⟩ : ∃ p, qs[m - 1]? = some p := ⟨_, List.getElem?_eq_getElem (by omega)⟩
  have z0 := hz p0 (List.mem_of_getElem? h0)
  have i0 : atI (qs.map ptD) 0 = some (ptD p0) := by rw [atI_lt (by omega), List.getElem?_map]; simp [h0]
  have i1 : atI (qs.map ptD) (-2) = some (ptD p1) := by
    rw [show (-2 : Int) = -((2 : Nat) : Int) by rfl, atI_neg (by decide) (by simp; omega), List.getElem?_map, List.length_map, hl, h1]; rfl
  have x1 : ixN qs.length (-2) = some (m - 2) := by
    unfold ixN; rw [hl, if_neg (by decide), if_pos (by omega)]; congr 1; omega
  let q1 : Pt := (p0.1 + 1, p0.2 + p1.2 % 2)
  let q2 : Pt := (p0.1 - p2.1 % 2, p0.2 + 1 + p2.2 % 3)
  have i2 : atI ((qs.map ptD).set (m - 2) (ptD q1)) (-1) = some (ptD p2) := by
    rw [show (-1 : Int) = -((1 : Nat) : Int) by rfl, atI_neg (by decide) (by simp; omega), List.length_set, List.length_map, hl, List.getElem?_set, if_neg (by omega), List.getElem?_map, h2]; rfl
  have x2 : ixN qs.length (-1) = some (m - 1) := by
    unfold ixN; rw [hl, if_neg (by decide), if_pos (by omega)]; congr 1; omega
  have em : (((qs.map ptD).set (m - 2) (ptD q1)).set (m - 1) (ptD q2)) = ((qs.set (m - 2) q1).set (m - 1) q2).map ptD := by rw [List.map_set, List.map_set]
  have b1 : 0 ≤ p1.2 % 2 ∧ p1.2 % 2 < 2 := ⟨Int.emod_nonneg _ (by decide), Int.emod_lt_of_pos _ (by decide)⟩
  have b2 : 0 ≤ p2.1 % 2 ∧ p2.1 % 2 < 2 := ⟨Int.emod_nonneg _ (by decide), Int.emod_lt_of_pos _ (by decide)⟩
  have b3 : 0 ≤ p2.2 % 3 ∧ p2.2 % 3 < 3 := ⟨Int.emod_nonneg _ (by decide), Int.emod_lt_of_pos _ (by decide)⟩
  obtain ⟨z01, z02⟩ := z0
  have zz1 : p0.1.natAbs < 4096 := z01
  have zz2 : p0.2.natAbs < 4096 := z02
  refine ⟨(qs.set (m - 2) q1).set (m - 1) q2, ?_, by simp; omega, by simp; omega, fun q hq => ?_, p0, q1, q2, ?_, ?_, ?_, ?_⟩
  · have c1 : -4611686018427387904 ≤ 3 + v ∧ 3 + v < 4611686018427387904 := by omega
    simp only [List.map_nil] at el
    have q1d : PyData.tuple [.int (p0.1 + 1), .int (p0.2 + p1.2 % 2)] = ptD q1 := rfl
    have q2d : PyData.tuple [.int (p0.1 - p2.1 % 2), .int (p0.2 + 1 + p2.2 % 3)] = ptD q2 := rfl
    rw [← em]
    unfold F__law_points B__law_points
    simp [e1, e2, hm3, c1, hr, el, i0, i1, DL.putF, x1, q1d, i2, x2, q2d, retV]
  · rcases List.mem_or_eq_of_mem_set hq with h | h
    · rcases List.mem_or_eq_of_mem_set h with h | h
      · exact ⟨(hz q h).1.mono (by decide), (hz q h).2.mono (by decide)⟩
      · rw [h]; exact ⟨show (p0.1 + 1).natAbs < 8192 by omega, show (p0.2 + p1.2 % 2).natAbs < 8192 by omega⟩
    · rw [h]; exact ⟨show (p0.1 - p2.1 % 2).natAbs < 8192 by omega, show (p0.2 + 1 + p2.2 % 3).natAbs < 8192 by omega⟩
  · refine List.mem_of_getElem? (i := 0) ?_
    rw [List.getElem?_set, if_neg (by omega), List.getElem?_set, if_neg (by omega), h0]
  · refine List.mem_of_getElem? (i := m - 2) ?_
    rw [List.getElem?_set, if_neg (by omega), List.getElem?_set, if_pos rfl, if_pos (by omega)]
  · refine List.mem_of_getElem? (i := m - 1) ?_
    rw [List.getElem?_set, if_pos rfl, if_pos (by simp; omega)]
  · show 0 < (p0.1 + 1 - p0.1) * (p0.2 + 1 + p2.2 % 3 - p0.2) - (p0.2 + p1.2 % 2 - p0.2) * (p0.1 - p2.1 % 2 - p0.1)
    have e1 : (p0.1 + 1 - p0.1) * (p0.2 + 1 + p2.2 % 3 - p0.2) = 1 + p2.2 % 3 := by grind
    have e2 : (p0.2 + p1.2 % 2 - p0.2) * (p0.1 - p2.1 % 2 - p0.1) = -(p1.2 % 2 * (p2.1 % 2)) := by grind
    rw [e1, e2]
    have := Int.mul_nonneg b1.1 b2.1
    omega
def sizeP (s m f : Int) (p : Pt) : Spot := (Rat.divInt (p.1 * m + f) s, Rat.divInt (p.2 * m - 2 * f) s)
structure Drawn (most : Nat) (ps : List Pt) (s m f : Int) : Prop where
  l3 : 3 ≤ ps.length
  lm : ps.length ≤ most
  z : ∀ q ∈ ps, Pz 13 q
  tri : TriP ps
  s0 : 0 < s
  s1 : s ≤ 1000000000
  m0 : 0 < m
  m1 : m ≤ 1000000000
  f0 : f.natAbs ≤ 1000000000000000000
theorem F_shape_ex (ns : List Int) (start most : Nat) (hs : start + most ≤ 8000) (hm : 3 ≤ most) (hm2 : most ≤ 40) : ∃ (ps : List Pt) (s m f : Int), Drawn most ps s m f ∧
    F__law_shape [intsL ns, .int start, .int most] = some (.list ((ringP ps).map fun p => spD (sizeP s m f p))) := by
  obtain ⟨ps, ep, l3, lm, zp, tri⟩ := F_points_ex ns start most (by omega) hm hm2
  obtain ⟨n, en, _, _⟩ := F_mixed_ex ns (start + 1) (by omega)
  rw [show ((start + 1 : Nat) : Int) = (start : Int) + 1 by omega] at en
  have er := F_ring_eq (n := 13) (by decide) ps (by omega) zp
  have c0 := F_cell_at_eq ns start
  have c1 := F_cell_at_eq ns (start + 1)
  have c2 := F_cell_at_eq ns (start + 2)
  rw [show ((start + 1 : Nat) : Int) = (start : Int) + 1 by omega] at c1
  rw [show ((start + 2 : Nat) : Int) = (start : Int) + 2 by omega] at c2
  generalize ns.getD start 0 = x0 at c0
  generalize ns.getD (start + 1) 0 = x1 at c1
  generalize ns.getD (start + 2) 0 = x2 at c2
  have b0 : 0 ≤ x0 % 1000000000 ∧ x0 % 1000000000 < 1000000000 := ⟨Int.emod_nonneg _ (by decide), Int.emod_lt_of_pos _ (by decide)⟩
  have b1 : 0 ≤ x1 % 1000000000 ∧ x1 % 1000000000 < 1000000000 := ⟨Int.emod_nonneg _ (by decide), Int.emod_lt_of_pos _ (by decide)⟩
  have b2 : 0 ≤ x2 % 2000000000000000000 ∧ x2 % 2000000000000000000 < 2000000000000000000 := ⟨Int.emod_nonneg _ (by decide), Int.emod_lt_of_pos _ (by decide)⟩
  have b3 : 0 ≤ n / 64 % 9 ∧ n / 64 % 9 < 9 := ⟨Int.emod_nonneg _ (by decide), Int.emod_lt_of_pos _ (by decide)⟩
  obtain ⟨s, es, s0, s1⟩ : ∃ s : Int, atI [PyData.int 1, .int (1 + n / 64 % 9), .int (1 + x0 % 1000000000)] (n / 16 % 3) = some (.int s) ∧ 0 < s ∧ s ≤ 1000000000 := by
    rw [atI_three (Int.emod_nonneg _ (by decide)) (Int.emod_lt_of_pos _ (by decide))]
    split
    · exact ⟨_, rfl, by decide, by decide⟩
    · split
      · exact ⟨_, rfl, by omega, by omega⟩
      · exact ⟨_, rfl, by omega, by omega⟩
  obtain ⟨m, em, m0, m1⟩ : ∃ s : Int, atI [PyData.int 1, .int (1 + x1 % 1000000000)] (n / 1024 % 2) = some (.int s) ∧ 0 < s ∧ s ≤ 1000000000 := by
    rw [atI_two (Int.emod_nonneg _ (by decide)) (Int.emod_lt_of_pos _ (by decide))]
    split
    · exact ⟨_, rfl, by decide, by decide⟩
    · exact ⟨_, rfl, by omega, by omega⟩
  obtain ⟨f, ef, f0⟩ : ∃ s : Int, atI [PyData.int 0, .int (x2 % 2000000000000000000 - 1000000000000000000)] (n / 2048 % 2) = some (.int s) ∧ s.natAbs ≤ 1000000000000000000 := by
    rw [atI_two (Int.emod_nonneg _ (by decide)) (Int.emod_lt_of_pos _ (by decide))]
    split
    · exact ⟨_, rfl, by decide⟩
    · exact ⟨_, rfl, by omega⟩
  refine ⟨ps, s, m, f, ⟨l3, lm, zp, tri, s0, s1, m0, m1, f0⟩, ?_⟩
  have rl := ringP_len ps
  have hlt : (ringP ps).length < sizeLine := Nat.lt_of_lt_of_le (show (ringP ps).length < 1000 by omega) (small_size (by decide))
  have mx : ∀ x : Int, mulD (.int x) (.int m) = some (.int (x * m)) := fun x => mulD_i (mulB_r (by omega))
  have m2 : mulD (.int 2) (.int f) = some (.int (2 * f)) := mulD_i (mulB_l (by decide))
  have lo := fun t => F_lowest_eq t s (by omega) (Sz.mono (m := 30) (show s.natAbs < 2 ^ 30 by omega) (by decide))
  have comp : compL (tupG 2 (consG (nameG 8) (consG (nameG 9) nilG))) yesB (tupE (consA (callE F__law_lowest (consA (o2 addD (o2 mulD (vE 8) (vE 6)) (vE 7)) (consA (vE 5) nilA))) (consA (callE F__law_lowest (consA (o2 subD (o2 mulD (vE 9) (vE 6)) (o2 mulD (cE (.int 2)) (vE 7))) (consA (vE 5) nilA))) nilA)))
      [some (intsL ns), some (.int start), some (.int most), some (.list ((ringP ps).map ptD)), some (.int n), some (.int s), some (.int m), some (.int f), none, none] ((ringP ps).map ptD) = some ((ringP ps).map fun p => spD (sizeP s m f p)) :=
    compL_map (ringP ps) fun p hp => ⟨[some (intsL ns), some (.int start), some (.int most), some (.list ((ringP ps).map ptD)), some (.int n), some (.int s), some (.int m), some (.int f), some (.int p.1), some (.int p.2)], by simp, by simp, by simp [mx, m2, lo, spD_mk]; rfl, rfl⟩
  have two : mulD (.int 2) (.int 1000000000000000000) = some (.int 2000000000000000000) := mulD_i (mulB_l (by decide))
  have cl := fun (fa : AF) (ρ : Rho) (xs ds : List D) (h : fa ρ = some xs) (h2 : F__law_points xs = some (.list ds)) => callL_some h h2
  unfold F__law_shape B__law_shape
  simp [callL, ep, er, en, c0, c1, c2, powD_e, es, em, ef, two, compA, wipeR, hlt]
  rw [comp]; rfl
theorem size_z {most : Nat} {ps : List Pt} {s m f : Int} (d : Drawn most ps s m f) {p : Pt} (hp : p ∈ ps) : Spz 64 (sizeP s m f p) := by
  obtain ⟨z1, z2⟩ := d.z p hp
  have s0 := d.s0; have s1 := d.s1; have m0 := d.m0; have m1 := d.m1; have f0 := d.f0
  have a1 : Sz 13 p.1 := z1
  have a2 : Sz 13 p.2 := z2
  have am : Sz 30 m := show m.natAbs < 2 ^ 30 by omega
  have af : Sz 60 f := show f.natAbs < 2 ^ 60 by omega
  have as : Sz 30 s := show s.natAbs < 2 ^ 30 by omega
  have a2f : Sz 62 (2 * f) := (show Sz 2 2 by unfold Sz; decide).mul af
  exact ⟨divInt_sz (by omega) (((a1.mul am).add af).mono (by decide)) (as.mono (by decide)), divInt_sz (by omega) (((a2.mul am).sub a2f).mono (by decide)) (as.mono (by decide))⟩
def mulS (f : Rat) (p : Spot) : Spot := (p.1 * f, p.2 * f)
theorem F_sized_eq {n : Nat} {f : Rat} (hf : Qz n f) (h0 : 0 < f.num) (qs : List Spot) (hl : qs.length < 1000) (hz : ∀ q ∈ qs, Spz n q) (hn : 2 * n ≤ 9000) : F_sized [.list (qs.map spD), frQ f] = some (.list ((qs.map (mulS f)).map spD)) := by
  have hlt : qs.length < sizeLine := Nat.lt_of_lt_of_le hl (small_size (by decide))
  have hne : ¬ f.num ≤ 0 := by omega
  have comp : compL (tupG 2 (consG (nameG 2) (consG (nameG 3) nilG))) yesB (tupE (consA (callE F_times (consA (vE 2) (consA (vE 1) nilA))) (consA (callE F_times (consA (vE 3) (consA (vE 1) nilA))) nilA)))
      [some (.list (qs.map spD)), some (frQ f), none, none] (qs.map spD) = some (qs.map fun q => spD (mulS f q)) :=
    compL_map qs fun q hq => ⟨[some (.list (qs.map spD)), some (frQ f), some (frQ q.1), some (frQ q.2)], by simp, by simp, by
      have t1 := F_times_eq (hz q hq).1 hf hn
      have t2 := F_times_eq (hz q hq).2 hf hn
      simp [t1, t2, spD_mk, mulS], rfl⟩
  have e : (qs.map fun q => spD (mulS f q)) = (qs.map (mulS f)).map spD := by rw [List.map_map]; rfl
  rw [e] at comp
  unfold F_sized B_sized
  simp only [seqF_e, ifF_e, tb_e, o2_e, vE_1, cE_e, bodyFn_e, startR_e, List.map_cons, List.map_nil, List.length_cons, List.length_nil]
  simp [h0, hne, compA, hlt, wipeR]
  rw [comp]; simp
theorem FX_sized_no {f : Rat} (h0 : ¬ 0 < f.num) (s : D) : FX_sized [s, frQ f] = some "NoSize" := by
  have : f.num ≤ 0 := by omega
  unfold FX_sized XB_sized
  simp [ifX, this]
theorem FX_sized_yes {f : Rat} (h0 : 0 < f.num) (s : D) : FX_sized [s, frQ f] = none := by
  have : ¬ f.num ≤ 0 := by omega
  unfold FX_sized XB_sized
  simp [ifX, this]
end Lw

namespace Lw
open PySem PySem.Spec PyProof.Rows L2 DL
theorem F_right_eq {f : Rat} (hf : Qz 128 f) (qs : List Spot) (hl : qs.length < 1000) (hz : ∀ q ∈ qs, Spz 128 q) : F__law_right [.list (qs.map spD), frQ f] = some (.bool true) := by
  have ne := neD_sps (xs := qs) (ys := qs)
  rw [show (!decide (qs = qs)) = false by simp] at ne
  by_cases h0 : 0 < f.num
  · have es := F_sized_eq hf h0 qs hl hz (by decide)
    have ec : F__law_caught [.list (qs.map spD), frQ f] = some .none := by
      unfold F__law_caught B__law_caught
      simp [tryF, FX_sized_yes h0, es]
    have el : ∀ fa : AF, ∀ ρ, fa ρ = some [.list (qs.map spD), frQ f] → callL F_sized fa ρ = some ((qs.map (mulS f)).map spD) := fun fa ρ h => callL_some h es
    unfold F__law_right B__law_right
    generalize hL : PyData.list (qs.map spD) = L at *
    have hd : listD L = some (qs.map spD) := by rw [← hL]; rfl
    have hlen : lenD L = some (.int qs.length) := by rw [← hL]; simp
    simp [hd, hL, ec, ne, h0, callL, es, hlen]
  · have ec : F__law_caught [.list (qs.map spD), frQ f] = some (excD "NoSize") := by
      unfold F__law_caught B__law_caught
      simp [tryF, FX_sized_no h0]
    unfold F__law_right B__law_right
    generalize hL : PyData.list (qs.map spD) = L at *
    have hd : listD L = some (qs.map spD) := by rw [← hL]; rfl
    simp [hd, hL, ec, ne, h0]
def Inv17 (S L : D) (i : Nat) (ρ : Rho) : Prop := ∃ d a b c : Option D, ρ = [some S, some L, d, a, b, c]
theorem law_true (ns : List Int) (hl : ns.length ≤ 63) : F_law [intsL ns] = some (.bool true) := by
  obtain ⟨ps, s, m, f, dr, es⟩ := F_shape_ex ns 1 6 (by decide) (by decide) (by decide)
  have e1 : ((ringP ps).map fun p => spD (sizeP s m f p)) = ((ringP ps).map (sizeP s m f)).map spD := by rw [List.map_map]; rfl
  rw [e1] at es
  have hz : ∀ q ∈ (ringP ps).map (sizeP s m f), Spz 128 q := fun q hq => by
    obtain ⟨p, hp, rfl⟩ := List.mem_map.mp hq
    exact (size_z dr (ringP_mem hp)).mono (by decide)
  have hlen : ((ringP ps).map (sizeP s m f)).length < 1000 := by
    have := ringP_len ps; have := dr.lm; rw [List.length_map]; omega
  generalize (ringP ps).map (sizeP s m f) = qs at es hz hlen
  have r := fun (g : Rat) (hg : Qz 128 g) => F_right_eq hg qs hlen hz
  obtain ⟨k, hk, k1⟩ : ∃ k : Nat, min2D (.int 20) (.int ns.length) = some (.int k) ∧ k ≤ 20 := by
    by_cases h : (ns.length : Int) < 20
    · exact ⟨ns.length, by simp only [min2D, h, if_true], by omega⟩
    · exact ⟨20, by simp only [min2D, h, if_false]; rfl, by omega⟩
  have es' : callL F__law_shape (consA (vE 0) (consA (cE (.int 1)) (consA (cE (.int 6)) nilA))) [some (intsL ns), none, none, none, none, none] = some (qs.map spD) := callL_some (by simp) es
  have h0 : Inv17 (intsL ns) (.list (qs.map spD)) 0 [some (intsL ns), some (.list (qs.map spD)), none, none, none, none] := ⟨_, _, _, _, rfl⟩
  obtain ⟨ρ', e, d, a, b, c, rfl⟩ := forL_inv (g := nameG 2) (b := L1_law) (Inv17 (intsL ns) (.list (qs.map spD))) (rngL 0 k) 0 _ h0
    (fun i d ρ hd hI => by
      obtain ⟨d0, a, b, c, rfl⟩ := hI
      have hi : i < k := by
        have := (List.getElem?_eq_some_iff.mp hd).1
        simpa [rngL] using this
      have hd' : d = .int (i : Int) := by
        unfold rngL at hd
        rw [List.getElem?_map, List.getElem?_range hi] at hd
        simpa using hd.symm
      subst hd'
      have c0 := F_cell_at_eq ns i
      obtain ⟨n, hn, _, _⟩ := F_mixed_ex ns (60 + i) (by omega)
      rw [show ((60 + i : Nat) : Int) = 60 + (i : Int) by omega] at hn
      generalize ns.getD i 0 = x at c0
      have b1 : 0 ≤ n % 19 ∧ n % 19 < 19 := ⟨Int.emod_nonneg _ (by decide), Int.emod_lt_of_pos _ (by decide)⟩
      have b2 : 0 ≤ x % 2000000000000000000000000000000 ∧ x % 2000000000000000000000000000000 < 2000000000000000000000000000000 := ⟨Int.emod_nonneg _ (by decide), Int.emod_lt_of_pos _ (by decide)⟩
      have b3 : 0 ≤ n / 57 % 1000000000 ∧ n / 57 % 1000000000 < 1000000000 := ⟨Int.emod_nonneg _ (by decide), Int.emod_lt_of_pos _ (by decide)⟩
      have two : mulD (.int 2) (.int 1000000000000000000000000000000) = some (.int 2000000000000000000000000000000) := mulD_i (mulB_l (by decide))
      have zb : Sz 128 (1 + n / 57 % 1000000000) := by unfold Sz; omega
      have lo : ∀ t : Int, Sz 128 t → ∃ q : Rat, Qz 128 q ∧ F__law_lowest [.int t, .int (1 + n / 57 % 1000000000)] = some (frQ q) := fun t ht =>
        ⟨_, divInt_sz (by omega) ht zb, F_lowest_eq t _ (by omega) (zb.mono (by decide))⟩
      by_cases h : n / 19 % 3 = 1
      · obtain ⟨q, hq, el⟩ := lo (x % 2000000000000000000000000000000 - 1000000000000000000000000000000) (by unfold Sz; omega)
        refine ⟨_, .nx [some (intsL ns), some (.list (qs.map spD)), some (.int i), some (.int x), some (.int n), some (.int (x % 2000000000000000000000000000000 - 1000000000000000000000000000000))], nameG_e, ?_, _, .inl rfl, _, _, _, _, rfl⟩
        unfold L1_law
        simp [c0, hn, h, powD_e, two, el, r q hq]
      · obtain ⟨q, hq, el⟩ := lo (n % 19 - 9) (by unfold Sz; omega)
        refine ⟨_, .nx [some (intsL ns), some (.list (qs.map spD)), some (.int i), some (.int x), some (.int n), some (.int (n % 19 - 9))], nameG_e, ?_, _, .inl rfl, _, _, _, _, rfl⟩
        unfold L1_law
        simp [c0, hn, h, powD_e, two, el, r q hq])
  have rz : F__law_right [.list (qs.map spD), .tuple [.int 0, .int 1]] = some (.bool true) := r 0 ⟨by unfold Sz; decide, by unfold Sz; decide⟩
  have c1 : -4611686018427387904 ≤ (k : Int) ∧ (k : Int) < 4611686018427387904 := by omega
  have lens : lenD (intsL ns) = some (.int ns.length) := by unfold intsL; simp
  unfold F_law B_law
  simp only [seqF_e, setL_e, bodyFn_e, startR_e, List.map_cons, List.map_nil, List.length_cons, List.length_nil]
  rw [show ([some (intsL ns)] ++ List.replicate (6 - (0 + 1)) none : Rho) = [some (intsL ns), none, none, none, none, none] by rfl, es']
  simp [lens, hk, c1, e, rz]
end Lw

noncomputable section
namespace Lw
open PySem PySem.Spec PyProof.Rows L2 DL
def dd_divisor : He.DefD := ⟨("divisor", none), "divisor", "divisor", defArgs s_divisor, defBody s_divisor, defScope s_divisor, [], []⟩
def dd_ratio : He.DefD := ⟨("ratio", none), "ratio", "ratio", defArgs s_ratio, defBody s_ratio, defScope s_ratio, [], []⟩
def dd_times : He.DefD := ⟨("times", none), "times", "times", defArgs s_times, defBody s_times, defScope s_times, [], []⟩
def dd_sized : He.DefD := ⟨("sized", none), "sized", "sized", defArgs s_sized, defBody s_sized, defScope s_sized, [], []⟩
def dd__law_cell_at : He.DefD := ⟨("_law_cell_at", none), "_law_cell_at", "_law_cell_at", defArgs s__law_cell_at, defBody s__law_cell_at, defScope s__law_cell_at, [], []⟩
def dd__law_whole : He.DefD := ⟨("_law_whole", none), "_law_whole", "_law_whole", defArgs s__law_whole, defBody s__law_whole, defScope s__law_whole, [], []⟩
def dd__law_block : He.DefD := ⟨("_law_block", none), "_law_block", "_law_block", defArgs s__law_block, defBody s__law_block, defScope s__law_block, [], []⟩
def dd__law_mixed : He.DefD := ⟨("_law_mixed", none), "_law_mixed", "_law_mixed", defArgs s__law_mixed, defBody s__law_mixed, defScope s__law_mixed, [], []⟩
def dd__law_divisor : He.DefD := ⟨("_law_divisor", none), "_law_divisor", "_law_divisor", defArgs s__law_divisor, defBody s__law_divisor, defScope s__law_divisor, [], []⟩
def dd__law_lowest : He.DefD := ⟨("_law_lowest", none), "_law_lowest", "_law_lowest", defArgs s__law_lowest, defBody s__law_lowest, defScope s__law_lowest, [], []⟩
def dd__law_is_fraction : He.DefD := ⟨("_law_is_fraction", none), "_law_is_fraction", "_law_is_fraction", defArgs s__law_is_fraction, defBody s__law_is_fraction, defScope s__law_is_fraction, [], []⟩
def dd__law_points : He.DefD := ⟨("_law_points", none), "_law_points", "_law_points", defArgs s__law_points, defBody s__law_points, defScope s__law_points, [], []⟩
def dd__law_turn : He.DefD := ⟨("_law_turn", none), "_law_turn", "_law_turn", defArgs s__law_turn, defBody s__law_turn, defScope s__law_turn, [], []⟩
def dd__law_ring : He.DefD := ⟨("_law_ring", none), "_law_ring", "_law_ring", defArgs s__law_ring, defBody s__law_ring, defScope s__law_ring, [], []⟩
def dd__law_shape : He.DefD := ⟨("_law_shape", none), "_law_shape", "_law_shape", defArgs s__law_shape, defBody s__law_shape, defScope s__law_shape, [], []⟩
def dd__law_caught : He.DefD := ⟨("_law_caught", none), "_law_caught", "_law_caught", defArgs s__law_caught, defBody s__law_caught, defScope s__law_caught, [], []⟩
def dd__law_right : He.DefD := ⟨("_law_right", none), "_law_right", "_law_right", defArgs s__law_right, defBody s__law_right, defScope s__law_right, [], []⟩
def dd_law : He.DefD := ⟨("law", none), "law", "law", defArgs s_law, defBody s_law, defScope s_law, [], []⟩
def hfn : List He.DefD := [dd_divisor, dd_ratio, dd_times, dd_sized, dd__law_cell_at, dd__law_whole, dd__law_block, dd__law_mixed, dd__law_divisor, dd__law_lowest, dd__law_is_fraction, dd__law_points, dd__law_turn, dd__law_ring, dd__law_shape, dd__law_caught, dd__law_right, dd_law]
def hfa : List He.Fa := [.glo "divisor", .glo "ratio", .glo "times", .glo "sized", .glo "_law_cell_at", .glo "_law_whole", .glo "_law_block", .glo "_law_mixed", .glo "_law_divisor", .glo "_law_lowest", .glo "_law_is_fraction", .glo "_law_points", .glo "_law_turn", .glo "_law_ring", .glo "_law_shape", .glo "_law_caught", .glo "_law_right", .glo "law", .free "abs", .free "bool", .free "int", .free "isinstance", .free "len", .free "list", .free "min", .free "range", .free "reversed", .free "set", .free "sorted", .free "tuple"]
abbrev R : PySem.W.OpenRow := PySem.W.OpenLaw.row PySem.Challenge.rw_snugfit_k17_no_size
abbrev hk : PySem.W.Hook := DL.hookX 4 hfa hfn DL.excOkB
def ob (s : PySem.W.SharedT) : He.AlD × Bool := DL.obsXG 4 hfa hfn DL.excOkB (HandSHeadRun.getT s)
theorem ob_eq (s : PySem.W.SharedT) : ob s = hk.obs s.abs := DL.obsXG_eq (HandSHeadRun.getT_eq s)
def names : List PySem.Str := ["FitError", "NoNumber", "NoShape", "NoSize", "divisor", "ratio", "times", "sized", "_law_cell_at", "_law_whole", "_law_block", "_law_mixed", "_law_divisor", "_law_lowest", "_law_is_fraction", "_law_points", "_law_turn", "_law_ring", "_law_shape", "_law_caught", "_law_right"]
theorem run (w : World) : HandSHeadRun.RunEq R (PySem.W.view R.prog [25]) hk ob 4000 names w := by
  intro os
  kernel_rfl
theorem top_of {K : PySem.W.Frag} {h : Heap} {mg : Str → Option Value} (X : K.In h) (G : h.Ns mainGlobals mg) (c : He.SaysD hfa hfn K) (cx : DL.excOkB K = true) : Top K mg where
  exc := DL.excOkB_ok X G cx
  d_divisor := by
    obtain ⟨fd, F⟩ := c.def_ 0 (d := dd_divisor) rfl
    exact ⟨_, fd, He.glo_ok X G (c.fact 0 (f := .glo "divisor") rfl), F.kp, F⟩
  d_ratio := by
    obtain ⟨fd, F⟩ := c.def_ 1 (d := dd_ratio) rfl
    exact ⟨_, fd, He.glo_ok X G (c.fact 1 (f := .glo "ratio") rfl), F.kp, F⟩
  d_times := by
    obtain ⟨fd, F⟩ := c.def_ 2 (d := dd_times) rfl
    exact ⟨_, fd, He.glo_ok X G (c.fact 2 (f := .glo "times") rfl), F.kp, F⟩
  d_sized := by
    obtain ⟨fd, F⟩ := c.def_ 3 (d := dd_sized) rfl
    exact ⟨_, fd, He.glo_ok X G (c.fact 3 (f := .glo "sized") rfl), F.kp, F⟩
  d__law_cell_at := by
    obtain ⟨fd, F⟩ := c.def_ 4 (d := dd__law_cell_at) rfl
    exact ⟨_, fd, He.glo_ok X G (c.fact 4 (f := .glo "_law_cell_at") rfl), F.kp, F⟩
  d__law_whole := by
    obtain ⟨fd, F⟩ := c.def_ 5 (d := dd__law_whole) rfl
    exact ⟨_, fd, He.glo_ok X G (c.fact 5 (f := .glo "_law_whole") rfl), F.kp, F⟩
  d__law_block := by
    obtain ⟨fd, F⟩ := c.def_ 6 (d := dd__law_block) rfl
    exact ⟨_, fd, He.glo_ok X G (c.fact 6 (f := .glo "_law_block") rfl), F.kp, F⟩
  d__law_mixed := by
    obtain ⟨fd, F⟩ := c.def_ 7 (d := dd__law_mixed) rfl
    exact ⟨_, fd, He.glo_ok X G (c.fact 7 (f := .glo "_law_mixed") rfl), F.kp, F⟩
  d__law_divisor := by
    obtain ⟨fd, F⟩ := c.def_ 8 (d := dd__law_divisor) rfl
    exact ⟨_, fd, He.glo_ok X G (c.fact 8 (f := .glo "_law_divisor") rfl), F.kp, F⟩
  d__law_lowest := by
    obtain ⟨fd, F⟩ := c.def_ 9 (d := dd__law_lowest) rfl
    exact ⟨_, fd, He.glo_ok X G (c.fact 9 (f := .glo "_law_lowest") rfl), F.kp, F⟩
  d__law_is_fraction := by
    obtain ⟨fd, F⟩ := c.def_ 10 (d := dd__law_is_fraction) rfl
    exact ⟨_, fd, He.glo_ok X G (c.fact 10 (f := .glo "_law_is_fraction") rfl), F.kp, F⟩
  d__law_points := by
    obtain ⟨fd, F⟩ := c.def_ 11 (d := dd__law_points) rfl
    exact ⟨_, fd, He.glo_ok X G (c.fact 11 (f := .glo "_law_points") rfl), F.kp, F⟩
  d__law_turn := by
    obtain ⟨fd, F⟩ := c.def_ 12 (d := dd__law_turn) rfl
    exact ⟨_, fd, He.glo_ok X G (c.fact 12 (f := .glo "_law_turn") rfl), F.kp, F⟩
  d__law_ring := by
    obtain ⟨fd, F⟩ := c.def_ 13 (d := dd__law_ring) rfl
    exact ⟨_, fd, He.glo_ok X G (c.fact 13 (f := .glo "_law_ring") rfl), F.kp, F⟩
  d__law_shape := by
    obtain ⟨fd, F⟩ := c.def_ 14 (d := dd__law_shape) rfl
    exact ⟨_, fd, He.glo_ok X G (c.fact 14 (f := .glo "_law_shape") rfl), F.kp, F⟩
  d__law_caught := by
    obtain ⟨fd, F⟩ := c.def_ 15 (d := dd__law_caught) rfl
    exact ⟨_, fd, He.glo_ok X G (c.fact 15 (f := .glo "_law_caught") rfl), F.kp, F⟩
  d__law_right := by
    obtain ⟨fd, F⟩ := c.def_ 16 (d := dd__law_right) rfl
    exact ⟨_, fd, He.glo_ok X G (c.fact 16 (f := .glo "_law_right") rfl), F.kp, F⟩
  d_law := by
    obtain ⟨fd, F⟩ := c.def_ 17 (d := dd_law) rfl
    exact ⟨_, fd, He.glo_ok X G (c.fact 17 (f := .glo "law") rfl), F.kp, F⟩
  b_abs := He.free_ok X G (c.fact 18 (f := .free "abs") rfl)
  b_bool := He.free_ok X G (c.fact 19 (f := .free "bool") rfl)
  b_int := He.free_ok X G (c.fact 20 (f := .free "int") rfl)
  b_isinstance := He.free_ok X G (c.fact 21 (f := .free "isinstance") rfl)
  b_len := He.free_ok X G (c.fact 22 (f := .free "len") rfl)
  b_list := He.free_ok X G (c.fact 23 (f := .free "list") rfl)
  b_min := He.free_ok X G (c.fact 24 (f := .free "min") rfl)
  b_range := He.free_ok X G (c.fact 25 (f := .free "range") rfl)
  b_reversed := He.free_ok X G (c.fact 26 (f := .free "reversed") rfl)
  b_set := He.free_ok X G (c.fact 27 (f := .free "set") rfl)
  b_sorted := He.free_ok X G (c.fact 28 (f := .free "sorted") rfl)
  b_tuple := He.free_ok X G (c.fact 29 (f := .free "tuple") rfl)
theorem all_ok {P : Program} {w : World} {K : PySem.W.Frag} {mg : Str → Option Value} (T : Top K mg) : DefOk P w K mg "law" 7 ["_law_script"] false F_law := by
  have k_divisor := ok_divisor (P := P) (w := w) T
  have k_ratio := ok_ratio (P := P) (w := w) T k_divisor
  have k_times := ok_times (P := P) (w := w) T k_ratio
  have k_sized := ok_sized (P := P) (w := w) T k_times
  have x_sized := okx_sized (P := P) (w := w) T k_times
  have k__law_cell_at := ok__law_cell_at (P := P) (w := w) T
  have k__law_whole := ok__law_whole (P := P) (w := w) T
  have k__law_block := ok__law_block (P := P) (w := w) T
  have k__law_mixed := ok__law_mixed (P := P) (w := w) T k__law_block
  have k__law_divisor := ok__law_divisor (P := P) (w := w) T
  have k__law_lowest := ok__law_lowest (P := P) (w := w) T k__law_divisor
  have k__law_is_fraction := ok__law_is_fraction (P := P) (w := w) T k__law_whole k__law_divisor
  have k__law_points := ok__law_points (P := P) (w := w) T k__law_mixed
  have k__law_turn := ok__law_turn (P := P) (w := w) T
  have k__law_ring := ok__law_ring (P := P) (w := w) T k__law_turn
  have k__law_shape := ok__law_shape (P := P) (w := w) T k__law_cell_at k__law_mixed k__law_lowest k__law_points k__law_ring
  have k__law_caught := ok__law_caught (P := P) (w := w) T k_sized x_sized
  have k__law_right := ok__law_right (P := P) (w := w) T k_sized k__law_caught
  have k_law := ok_law (P := P) (w := w) T k__law_cell_at k__law_mixed k__law_lowest k__law_shape k__law_right
  exact k_law
end Lw
open PySem PySem.W PySem.Calls PyProof.Rows
theorem PySem.Challenge.cw_snugfit_k17_no_size_holds : PySem.Challenge.rw_snugfit_k17_no_size.Holds := by
  w_on; o_law
  refine HandSHeadRun.head_any (r := OpenLaw.row PySem.Challenge.rw_snugfit_k17_no_size) (q := view (OpenLaw.row PySem.Challenge.rw_snugfit_k17_no_size).prog [25]) (H := Lw.hk) (ob := Lw.ob) (M := 4000) (loose := Lw.names) (d := HandSHeadRun.topDef (OpenLaw.row PySem.Challenge.rw_snugfit_k17_no_size).prog 25) (kwd := []) Lw.ob_eq
    (by kernel_rfl) (fun s => by kernel_rfl) Lw.run (by kernel_rfl) (by kernel_rfl) (by kernel_rfl) (by rfl) (by first | assumption | decide +kernel) (by decide +kernel) ⟨rfl, rfl, rfl, rfl, rfl, by decide +kernel⟩ ?hw ?hc
  case hw => w_witness2
  case hc =>
    refine L2.walk_ofE (l := PySem.Challenge.rw_snugfit_k17_no_size) (n := 63) (k := 7) (x := "_law_script") (CX := L2.CX0) rfl (by decide) (by kernel_rfl) ⟨rfl, by decide, by decide⟩ ?F (fun _ _ _ _ z => z)
    intro w mg fa h Y G hmg0
    obtain ⟨K, KX, c, cx⟩ := Y
    have hmg : mg ("law" : PySem.Str) = some (.ref fa) := by
      have e : (HandSHeadRun.topDef (OpenLaw.row PySem.Challenge.rw_snugfit_k17_no_size).prog 25).name = ("law" : PySem.Str) := by kernel_rfl
      rw [← e]
      exact hmg0
    exact DL.law_end KX hmg (Lw.all_ok (Lw.top_of KX G c cx)) Lw.law_true
end

