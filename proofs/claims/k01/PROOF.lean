import PyProof.Rows.All
import Wide.All
import OpenK.AllK
import Wide.FinOn
import HandS.ForMost
import HandS.Wide
import HandS.Deep
import HandS.IsInst
import HandS.Defaults
import HandS.Exc
import HandS.HeadHook1
import KE.KStateDown
import HandS.Head0
import HandS.Head1
import HandS.Head2
import HandS.HeadEnd
import HandS.HeadHook2
import HandS.TryOnly
import HandS.ExcOwn
import HandS.WordsExc
import HandS.ExcIs
import PySem.Challenge.RW_snugfit_k01_divisor_and_fraction
set_option Elab.async false
set_option linter.all false
set_option maxRecDepth 100000
set_option maxHeartbeats 8000000
set_option exponentiation.threshold 20000
/-! DL: a deterministic reading of Python text over plain data, on top of the hand layer. Part 1: representation, judgements. -/
namespace DL
open PySem PySem.Spec PyProof.Rows L2

abbrev D := PyData
abbrev Rho := List (Option D)
abbrev Sg := L2.St

theorem same_trans {H H1 H2 : Hp} (a : Same H H1) (b : Same H1 H2) : Same H H2 := fun c o h => b c o (a c o h)
theorem same_upd {H : Hp} {p : Addr} {o : HO} (hp : H p = none) : Same H (upd H p o) := fun b u h => by
  rw [upd_ne (ne_of_none h hp)]; exact h

theorem same_sqT {K : PySem.W.Frag} {H H' : Hp} {a : Addr} {xs : List V} (e : Same H H') (h : SqT K H a xs) : SqT K H' a xs := by
  rcases h with (h | ⟨o, h⟩) | h
  · exact .inl (.inl (e _ _ h))
  · exact .inl (.inr ⟨o, e _ _ h⟩)
  · exact .inr h
mutual
theorem dp_mono {K : PySem.W.Frag} {H H' : Hp} (e : Same H H') : ∀ {v : V} {d : D}, Dp K H v d → Dp K H' v d
  | _, _, .non => .non
  | _, _, .bl b => .bl b
  | _, _, .int i => .int i
  | _, _, .str x => .str x
  | _, _, .lst h a => .lst (e.seq h) (dpAll_mono e a)
  | _, _, .tup h a => .tup (same_sqT e h) (dpAll_mono e a)
theorem dpAll_mono {K : PySem.W.Frag} {H H' : Hp} (e : Same H H') : ∀ {vs : List V} {ds : List D}, DpAll K H vs ds → DpAll K H' vs ds
  | _, _, .nil => .nil
  | _, _, .cons h t => .cons (dp_mono e h) (dpAll_mono e t)
end

/-- the frozen part F of the heap H, and both later -/
structure Grow (F H F' H' : Hp) : Prop where
  ff : Same F F'
  hh : Same H H'
  fh : Same F' H'
  own : ∀ b o, H b = some o → F b = none → F' b = none
theorem Grow.refl {F H : Hp} (h : Same F H) : Grow F H F H := ⟨Same.refl _, Same.refl _, h, fun _ _ _ h => h⟩
theorem Grow.trans {F H F1 H1 F2 H2 : Hp} (a : Grow F H F1 H1) (b : Grow F1 H1 F2 H2) : Grow F H F2 H2 :=
  ⟨same_trans a.ff b.ff, same_trans a.hh b.hh, b.fh, fun c o h n => b.own c o (a.hh c o h) (a.own c o h n)⟩
/-- a new object, frozen at once -/
theorem Grow.new {F H : Hp} {p : Addr} {o : HO} (h : Same F H) (hp : H p = none) : Grow F H (upd F p o) (upd H p o) where
  ff := same_upd (by cases e : F p with
    | none => rfl
    | some u => rw [h p u e] at hp; cases hp)
  hh := same_upd hp
  fh := fun b u e => by
    by_cases hb : b = p
    · subst hb; rw [upd_same] at e ⊢; exact e
    · rw [upd_ne hb] at e ⊢; exact h b u e
  own := fun b u e n => by
    rw [upd_ne (ne_of_none e hp)]; exact n
/-- a new object, kept own -/
theorem Grow.newOwn {F H : Hp} {p : Addr} {o : HO} (h : Same F H) (hp : H p = none) : Grow F H F (upd H p o) where
  ff := Same.refl _
  hh := same_upd hp
  fh := same_trans h (same_upd hp)
  own := fun _ _ _ n => n
theorem free_of {F H : Hp} {p : Addr} (h : Same F H) (hp : H p = none) : F p = none := by
  cases e : F p with
  | none => rfl
  | some u => rw [h p u e] at hp; cases hp

/-- a kept exception's object -/
def ExH (cls : Value) (a : Addr) : HO := .ext fun h => ∃ (oe : Obj) (vs : Array Value), h.get? a = some oe ∧ Zc cls none oe ∧ oe.data = .fields vs
/-- what is held, as data; a kept exception by its class's name -/
def excD (x : Str) : D := .dict [(.str x, .none)]
inductive Rep (K : PySem.W.Frag) (F : Hp) : V → D → Prop
  | dat {v : V} {d : D} : Dp K F v d → Rep K F v d
  | exc {a : Addr} {x : Str} : F a = some (ExH (.ref (He.ga K x)) a) → Rep K F (.ref a) (excD x)
theorem Rep.mono {K : PySem.W.Frag} {F F' : Hp} (e : Same F F') {v : V} {d : D} : Rep K F v d → Rep K F' v d
  | .dat h => .dat (dp_mono e h)
  | .exc h => .exc (e _ _ h)

structure Ent where
  F0 : Hp
  H0 : Hp

def getv (ρ : Rho) (i : Nat) : Option D := match ρ[i]? with
  | some (some d) => some d
  | _ => none

/-- an own list: at an address of its own, in no frozen data -/
def OwnAt (K : PySem.W.Frag) (F H : Hp) (v : V) (d : D) : Prop := ∃ a vs ds, v = .ref a ∧ d = .list ds ∧ H a = some (.lst vs) ∧ F a = none ∧ DpAll K F vs ds

structure StRep (K : PySem.W.Frag) (G : Ent) (O : List Nat) (σ : Sg) (H : Hp) (ρ : Rho) (F : Hp) : Prop where
  len : ρ.length = σ.length
  g : Grow G.F0 G.H0 F H
  dat : ∀ i d, i ∉ O → getv ρ i = some d → ∃ v, σ[i]? = some (some v) ∧ Rep K F v d
  own : ∀ i d, i ∈ O → getv ρ i = some d → ∃ v, σ[i]? = some (some v) ∧ OwnAt K F H v d
  new : ∀ i d a, i ∈ O → getv ρ i = some d → σ[i]? = some (some (V.ref a)) → G.H0 a = none
  dis : ∀ i j d e a, i ∈ O → j ∈ O → i ≠ j → getv ρ i = some d → getv ρ j = some e → σ[i]? = some (some (V.ref a)) → σ[j]? ≠ some (some (V.ref a))

theorem OwnAt.grow {K : PySem.W.Frag} {F H F' H' : Hp} (g : Grow F H F' H') {v : V} {d : D} (h : OwnAt K F H v d) : OwnAt K F' H' v d := by
  obtain ⟨a, vs, ds, e1, e2, e3, e4, e5⟩ := h
  exact ⟨a, vs, ds, e1, e2, g.hh _ _ e3, g.own _ _ e3 e4, dpAll_mono g.ff e5⟩
theorem StRep.grow {K : PySem.W.Frag} {G : Ent} {O : List Nat} {σ : Sg} {H F H' F' : Hp} {ρ : Rho} (s : StRep K G O σ H ρ F) (g : Grow F H F' H') : StRep K G O σ H' ρ F' where
  len := s.len
  g := s.g.trans g
  dat := fun i d h e => let ⟨v, a, b⟩ := s.dat i d h e; ⟨v, a, b.mono g.ff⟩
  own := fun i d h e => let ⟨v, a, b⟩ := s.own i d h e; ⟨v, a, b.grow g⟩
  new := s.new
  dis := s.dis
theorem StRep.sub {K : PySem.W.Frag} {G : Ent} {O : List Nat} {σ : Sg} {H F : Hp} {ρ : Rho} (s : StRep K G O σ H ρ F) : Same F H := s.g.fh

/-- own lists are given up: from now on they are data like other data -/
theorem StRep.freeze {K : PySem.W.Frag} {G : Ent} {O O2 : List Nat} {σ : Sg} {H F : Hp} {ρ : Rho} (s : StRep K G O σ H ρ F) (h2 : ∀ i ∈ O2, i ∈ O) : ∃ F', Same F F' ∧ StRep K G O2 σ H ρ F' := by
  classical
  let p : Addr → Prop := fun b => ∃ i d, i ∈ O ∧ i ∉ O2 ∧ getv ρ i = some d ∧ σ[i]? = some (some (V.ref b))
  let F' : Hp := fun b => if p b then H b else F b
  have ff : Same F F' := fun b o e => by
    show (if p b then H b else F b) = some o
    by_cases hp : p b
    · rw [if_pos hp]; exact s.sub b o e
    · rw [if_neg hp]; exact e
  have fh : Same F' H := fun b o e => by
    have e : (if p b then H b else F b) = some o := e
    by_cases hp : p b
    · rw [if_pos hp] at e; exact e
    · rw [if_neg hp] at e; exact s.sub b o e
  have keepOwn : ∀ b o, G.H0 b = some o → G.F0 b = none → F' b = none := fun b o e n => by
    show (if p b then H b else F b) = none
    by_cases hp : p b
    · obtain ⟨i, d, hi, _, hd, hs⟩ := hp
      rw [s.new i d b hi hd hs] at e; cases e
    · rw [if_neg hp]; exact s.g.own b o e n
  have ownOut : ∀ i d, i ∈ O → i ∈ O2 → getv ρ i = some d → ∀ a, σ[i]? = some (some (V.ref a)) → F a = none → F' a = none := fun i d hi hi2 hd a hs n => by
    show (if p a then H a else F a) = none
    by_cases hp : p a
    · obtain ⟨j, e, hj, hj2, he, hsj⟩ := hp
      exact absurd hsj (s.dis i j d e a hi hj (fun z => hj2 (z ▸ hi2)) hd he hs)
    · rw [if_neg hp]; exact n
  refine ⟨F', ff, ⟨s.len, ⟨same_trans s.g.ff ff, s.g.hh, fh, keepOwn⟩, fun i d hi hd => ?_, fun i d hi hd => ?_, fun i d a hi => s.new i d a (h2 i hi), fun i j d e a hi hj => s.dis i j d e a (h2 i hi) (h2 j hj)⟩⟩
  · by_cases hO : i ∈ O
    · obtain ⟨v, hs, a, vs, ds, rfl, rfl, e3, e4, e5⟩ := s.own i d hO hd
      refine ⟨_, hs, .dat (.lst (.inl (.inl ?_)) (dpAll_mono ff e5))⟩
      show (if p a then H a else F a) = some (.lst vs)
      rw [if_pos ⟨i, _, hO, hi, hd, hs⟩]; exact e3
    · obtain ⟨v, hs, r⟩ := s.dat i d hO hd
      exact ⟨v, hs, r.mono ff⟩
  · obtain ⟨v, hs, a, vs, ds, rfl, rfl, e3, e4, e5⟩ := s.own i d (h2 i hi) hd
    exact ⟨_, hs, a, vs, ds, rfl, rfl, e3, ownOut i _ (h2 i hi) hi hd a hs e4, dpAll_mono ff e5⟩
end DL

/-! DL, part 2: expressions. -/
namespace DL
open PySem PySem.Spec PyProof.Rows L2

abbrev EF := Rho → Option D
abbrev AF := Rho → Option (List D)
abbrev BF := Rho → Option Bool

/-- an expression whose value is data -/
def DE (X : Cx) (O : List Nat) (e : Expr) (f : EF) : Prop := ∃ t, PE X e t ∧ ∀ (G : Ent) (σ : Sg) (H F : Hp) (ρ : Rho) (d : D) (Q : VK),
  StRep X.K G O σ H ρ F → f ρ = some d → (∀ v H' F', Grow F H F' H' → Rep X.K F' v d → Q v H') → t σ H Q
/-- what may be read: data, or an own list -/
def RepR (K : PySem.W.Frag) (F H : Hp) (v : V) (d : D) : Prop := Rep K F v d ∨ ∃ a vs ds, v = .ref a ∧ d = .list ds ∧ SqL K H a vs ∧ DpAll K F vs ds
def DR (X : Cx) (O : List Nat) (e : Expr) (f : EF) : Prop := ∃ t, PE X e t ∧ ∀ (G : Ent) (σ : Sg) (H F : Hp) (ρ : Rho) (d : D) (Q : VK),
  StRep X.K G O σ H ρ F → f ρ = some d → (∀ v H' F', Grow F H F' H' → RepR X.K F' H' v d → Q v H') → t σ H Q
/-- an expression that gives a new list -/
def DN (X : Cx) (O : List Nat) (e : Expr) (f : AF) : Prop := ∃ t, PE X e t ∧ ∀ (G : Ent) (σ : Sg) (H F : Hp) (ρ : Rho) (ds : List D) (Q : VK),
  StRep X.K G O σ H ρ F → f ρ = some ds → (∀ a vs H' F', Grow F H F' H' → H a = none → H' a = some (.lst vs) → F' a = none → DpAll X.K F' vs ds → Q (.ref a) H') → t σ H Q
/-- arguments -/
def RepAll (K : PySem.W.Frag) (F : Hp) : List V → List D → Prop := Paired (Rep K F)
def DA (X : Cx) (O : List Nat) (es : List Expr) (f : AF) : Prop := (∃ t, PA X es t ∧ ∀ (G : Ent) (σ : Sg) (H F : Hp) (ρ : Rho) (ds : List D) (Q : List V → Hp → Prop),
  StRep X.K G O σ H ρ F → f ρ = some ds → (∀ vs H' F', Grow F H F' H' → RepAll X.K F' vs ds → Q vs H') → t σ H Q) ∧ ∀ ρ ds, f ρ = some ds → ds.length = es.length
/-- a test -/
def DT (X : Cx) (O : List Nat) (e : Expr) (f : BF) : Prop := ∃ t, PT X e t ∧ ∀ (G : Ent) (σ : Sg) (H F : Hp) (ρ : Rho) (b : Bool) (Q : Bool → Hp → Prop),
  StRep X.K G O σ H ρ F → f ρ = some b → (∀ H' F', Grow F H F' H' → Q b H') → t σ H Q
def DW (X : Cx) (O : List Nat) (e : Expr) (f : BF) : Prop := ∃ t, PW X e t ∧ ∀ (G : Ent) (σ : Sg) (H F : Hp) (ρ : Rho) (b : Bool) (Q : Bool → Hp → Prop),
  StRep X.K G O σ H ρ F → f ρ = some b → (∀ H' F', Grow F H F' H' → Q b H') → t σ H Q

/-! ### facts about Rep -/
section
variable {K : PySem.W.Frag} {F H : Hp} {v : V}
theorem RepAll.mono {F' : Hp} (e : Same F F') : ∀ {vs : List V} {ds : List D}, RepAll K F vs ds → RepAll K F' vs ds
  | _, _, .nil => .nil
  | _, _, .cons h t => .cons (h.mono e) (RepAll.mono e t)
theorem Rep.int_inv {i : Int} (h : Rep K F v (.int i)) : v = .int i := by cases h with | dat h => cases h; rfl
theorem Rep.bl_inv {b : Bool} (h : Rep K F v (.bool b)) : v = .bl b := by cases h with | dat h => cases h; rfl
theorem Rep.non_inv (h : Rep K F v .none) : v = .non := by cases h with | dat h => cases h; rfl
theorem Rep.lst_inv {ds : List D} (h : Rep K F v (.list ds)) : ∃ a vs, v = .ref a ∧ SqL K F a vs ∧ DpAll K F vs ds := by
  cases h with | dat h => cases h with | lst a b => exact ⟨_, _, rfl, a, b⟩
theorem Rep.tup_inv {ds : List D} (h : Rep K F v (.tuple ds)) : ∃ a vs, v = .ref a ∧ SqT K F a vs ∧ DpAll K F vs ds := by
  cases h with | dat h => cases h with | tup a b => exact ⟨_, _, rfl, a, b⟩
theorem RepR.lst_inv {ds : List D} (hs : Same F H) (h : RepR K F H v (.list ds)) : ∃ a vs, v = .ref a ∧ SqL K H a vs ∧ DpAll K F vs ds := by
  rcases h with h | ⟨a, vs, ds', rfl, e, h1, h2⟩
  · obtain ⟨a, vs, rfl, h1, h2⟩ := h.lst_inv
    exact ⟨a, vs, rfl, hs.seq h1, h2⟩
  · cases e; exact ⟨a, vs, rfl, h1, h2⟩
theorem RepR.tup_inv {ds : List D} (h : RepR K F H v (.tuple ds)) : ∃ a vs, v = .ref a ∧ SqT K F a vs ∧ DpAll K F vs ds := by
  rcases h with h | ⟨a, vs, ds', rfl, e, h1, h2⟩
  · exact h.tup_inv
  · cases e
theorem RepR.grow {F' H' : Hp} (g : Grow F H F' H') {d : D} : RepR K F H v d → RepR K F' H' v d
  | .inl h => .inl (h.mono g.ff)
  | .inr ⟨a, vs, ds, e1, e2, h1, h2⟩ => .inr ⟨a, vs, ds, e1, e2, g.hh.seq h1, dpAll_mono g.ff h2⟩
theorem shaped_dat {d : D} (h : SeqAt.shaped d = true) (r : Rep K F v d) : Dp K F v d := by
  cases r with
  | dat h => exact h
  | exc q => cases h
theorem RepR.dp (hs : Same F H) {d : D} (h : SeqAt.shaped d = true) (r : RepR K F H v d) : Dp K H v d := by
  rcases r with r | ⟨a, vs, ds, rfl, rfl, h1, h2⟩
  · exact dp_mono hs (shaped_dat h r)
  · exact .lst h1 (dpAll_mono hs h2)
theorem dpA_length {vs : List V} {ds : List D} : DpAll K F vs ds → vs.length = ds.length := by
  intro h
  induction ds generalizing vs with
  | nil => cases h; rfl
  | cons d ds ih => cases h with | cons a b => simp [ih b]
theorem dpA_get {vs : List V} {ds : List D} {i : Nat} {d : D} (h : DpAll K F vs ds) (e : ds[i]? = some d) : ∃ v, vs[i]? = some v ∧ Dp K F v d := by
  induction ds generalizing vs i with
  | nil => simp at e
  | cons c ds ih =>
    cases h with
    | cons a b =>
      cases i with
      | zero => simp at e; subst e; exact ⟨_, rfl, a⟩
      | succ i => simp at e; obtain ⟨v, h1, h2⟩ := ih b e; exact ⟨v, by simpa using h1, h2⟩
theorem dpA_get2 {vs : List V} {ds : List D} {i : Nat} {v : V} (h : DpAll K F vs ds) (e : vs[i]? = some v) : ∃ d, ds[i]? = some d ∧ Dp K F v d := by
  induction ds generalizing vs i with
  | nil => cases h; simp at e
  | cons c ds ih =>
    cases h with
    | cons a b =>
      cases i with
      | zero => simp at e; subst e; exact ⟨_, rfl, a⟩
      | succ i => simp at e; obtain ⟨v, h1, h2⟩ := ih b e; exact ⟨v, by simpa using h1, h2⟩
theorem dpA_append {vs ws : List V} {ds es : List D} (h : DpAll K F vs ds) (h' : DpAll K F ws es) : DpAll K F (vs ++ ws) (ds ++ es) := by
  induction ds generalizing vs with
  | nil => cases h; exact h'
  | cons c ds ih => cases h with | cons a b => exact .cons a (ih b)
theorem dpA_take {vs : List V} {ds : List D} (n : Nat) (h : DpAll K F vs ds) : DpAll K F (vs.take n) (ds.take n) := by
  induction ds generalizing vs n with
  | nil => cases h; cases n <;> exact .nil
  | cons c ds ih =>
    cases h with
    | cons a b => cases n with
      | zero => exact .nil
      | succ n => exact .cons a (ih n b)
theorem dpA_drop {vs : List V} {ds : List D} (n : Nat) (h : DpAll K F vs ds) : DpAll K F (vs.drop n) (ds.drop n) := by
  induction ds generalizing vs n with
  | nil => cases h; cases n <;> exact .nil
  | cons c ds ih =>
    cases h with
    | cons a b => cases n with
      | zero => exact .cons a b
      | succ n => exact ih n b
theorem dpA_set {vs : List V} {ds : List D} (i : Nat) {v : V} {d : D} (h : DpAll K F vs ds) (r : Dp K F v d) : DpAll K F (vs.set i v) (ds.set i d) := by
  induction ds generalizing vs i with
  | nil => cases h; cases i <;> exact .nil
  | cons c ds ih =>
    cases h with
    | cons a b => cases i with
      | zero => exact .cons r b
      | succ i => exact .cons a (ih i b)
theorem dpA_rev {vs : List V} {ds : List D} (h : DpAll K F vs ds) : DpAll K F vs.reverse ds.reverse := by
  induction ds generalizing vs with
  | nil => cases h; exact .nil
  | cons c ds ih =>
    cases h with
    | cons a b => rw [List.reverse_cons, List.reverse_cons]; exact dpA_append (ih b) (.cons a .nil)
theorem RepAll.length {vs : List V} {ds : List D} (h : RepAll K F vs ds) : vs.length = ds.length := Paired.length h
end

section
variable {X : Cx} {O : List Nat} {e a1 a2 : Expr} {es : List Expr} {f g : EF} {fa : AF} {pos : Pos}

def vE (i : Nat) : EF := fun ρ => getv ρ i
def cE (d : D) : EF := fun _ => some d
def lE (fa : AF) : EF := fun ρ => (fa ρ).map .list
/-! ### from one judgement to another -/
theorem DE_r (h : DE X O e f) : DR X O e f := by
  obtain ⟨t, p, r⟩ := h
  exact ⟨t, p, fun G σ H F ρ d Q s hf q => r G σ H F ρ d Q s hf fun v H' F' g x => q v H' F' g (.inl x)⟩
theorem DN_e (h : DN X O e fa) : DE X O e (lE fa) := by
  obtain ⟨t, p, r⟩ := h
  refine ⟨t, p, fun G σ H F ρ d Q s hf q => ?_⟩
  unfold lE at hf
  cases e1 : fa ρ with
  | none => simp [e1] at hf
  | some ds =>
    simp [e1] at hf; subst hf
    refine r G σ H F ρ ds Q s e1 fun a vs H' F' g hn ha hfa hd => ?_
    refine q (.ref a) H' (upd F' a (.lst vs)) ⟨same_trans g.ff (same_upd hfa), g.hh, fun b o x => ?_, fun b o x n => ?_⟩ (.dat (.lst (.inl (.inl upd_same)) (dpAll_mono (same_upd hfa) hd)))
    · by_cases hb : b = a
      · subst hb; rw [upd_same] at x; rw [← x]; exact ha
      · rw [upd_ne hb] at x; exact g.fh b o x
    · rw [upd_ne (ne_of_none x hn)]; exact g.own b o x n
theorem DN_r (h : DN X O e fa) : DR X O e (lE fa) := DE_r (DN_e h)

/-! ### names and constants -/
theorem de_var (i : Nat) {x : Str} (hO : O.contains i = false) (h : PE X (.Name x pos) (tVar i)) : DE X O (.Name x pos) (vE i) := by
  refine ⟨_, h, fun G σ H F ρ d Q s hf q => ?_⟩
  have hO' : i ∉ O := fun z => by rw [List.contains_iff_mem.mpr z] at hO; cases hO
  obtain ⟨v, hs, r⟩ := s.dat i d hO' hf
  exact ⟨v, hs, q v H F (Grow.refl s.sub) r⟩
theorem dr_var (i : Nat) {x : Str} (h : PE X (.Name x pos) (tVar i)) : DR X O (.Name x pos) (vE i) := by
  refine ⟨_, h, fun G σ H F ρ d Q s hf q => ?_⟩
  by_cases hO : i ∈ O
  · obtain ⟨v, hs, a, vs, ds, rfl, rfl, h1, h2, h3⟩ := s.own i d hO hf
    exact ⟨_, hs, q _ H F (Grow.refl s.sub) (.inr ⟨a, vs, ds, rfl, rfl, .inl (.inl h1), h3⟩)⟩
  · obtain ⟨v, hs, r⟩ := s.dat i d hO hf
    exact ⟨v, hs, q v H F (Grow.refl s.sub) (.inl r)⟩
theorem de_int {i : Int} {j} : DE X O (.Constant (.int i) j pos) (cE (.int i)) :=
  ⟨_, pe_int, fun G σ H F ρ d Q s hf q => by cases hf; exact q _ H F (Grow.refl s.sub) (.dat (.int _))⟩
theorem de_bl {b : Bool} {j} : DE X O (.Constant (.bool b) j pos) (cE (.bool b)) :=
  ⟨_, pe_bl, fun G σ H F ρ d Q s hf q => by cases hf; exact q _ H F (Grow.refl s.sub) (.dat (.bl _))⟩
theorem de_non {j} : DE X O (.Constant .none j pos) (cE .none) :=
  ⟨_, pe_non, fun G σ H F ρ d Q s hf q => by cases hf; exact q _ H F (Grow.refl s.sub) (.dat .non)⟩

/-! ### two operands -/
def o2 (op : D → D → Option D) (f g : EF) : EF := fun ρ => (f ρ).bind fun x => (g ρ).bind fun y => op x y
def o1 (op : D → Option D) (f : EF) : EF := fun ρ => (f ρ).bind op
/-- the operator's answer on represented values -/
def OpD (X : Cx) (r : R2) (op : D → D → Option D) : Prop := ∀ (F H : Hp) (x y : V) (dx dy d : D) (Q : VK), Same F H → Rep X.K F x dx → Rep X.K F y dy → op dx dy = some d →
  (∀ v H' F', Grow F H F' H' → Rep X.K F' v d → Q v H') → r x y H Q
def OpDR (X : Cx) (r : R2) (op : D → D → Option D) : Prop := ∀ (F H : Hp) (x y : V) (dx dy d : D) (Q : VK), Same F H → RepR X.K F H x dx → RepR X.K F H y dy → op dx dy = some d →
  (∀ v H' F', Grow F H F' H' → Rep X.K F' v d → Q v H') → r x y H Q
theorem OpD.tOp {r : R2} {op : D → D → Option D} (ho : OpD X r op) {ta tb : TE}
    (ha : ∀ (G : Ent) (σ : Sg) (H F : Hp) (ρ : Rho) (d : D) (Q : VK), StRep X.K G O σ H ρ F → f ρ = some d → (∀ v H' F', Grow F H F' H' → Rep X.K F' v d → Q v H') → ta σ H Q)
    (hb : ∀ (G : Ent) (σ : Sg) (H F : Hp) (ρ : Rho) (d : D) (Q : VK), StRep X.K G O σ H ρ F → g ρ = some d → (∀ v H' F', Grow F H F' H' → Rep X.K F' v d → Q v H') → tb σ H Q)
    (G : Ent) (σ : Sg) (H F : Hp) (ρ : Rho) (d : D) (Q : VK) (s : StRep X.K G O σ H ρ F) (hf : o2 op f g ρ = some d) (q : ∀ v H' F', Grow F H F' H' → Rep X.K F' v d → Q v H') : L2.tOp r ta tb σ H Q := by
  unfold o2 at hf
  cases e1 : f ρ with
  | none => simp [e1] at hf
  | some x =>
    cases e2 : g ρ with
    | none => simp [e1, e2] at hf
    | some y =>
      simp [e1, e2] at hf
      refine ha G σ H F ρ x _ s e1 fun vx H1 F1 g1 r1 => ?_
      refine hb G σ H1 F1 ρ y _ (s.grow g1) e2 fun vy H2 F2 g2 r2 => ?_
      exact ho F2 H2 vx vy x y d Q (g2.fh) (r1.mono g2.ff) r2 hf fun v H3 F3 g3 r3 => q v H3 F3 (g1.trans (g2.trans g3)) r3
theorem OpDR.tOp {r : R2} {op : D → D → Option D} (ho : OpDR X r op) {ta tb : TE}
    (ha : ∀ (G : Ent) (σ : Sg) (H F : Hp) (ρ : Rho) (d : D) (Q : VK), StRep X.K G O σ H ρ F → f ρ = some d → (∀ v H' F', Grow F H F' H' → RepR X.K F' H' v d → Q v H') → ta σ H Q)
    (hb : ∀ (G : Ent) (σ : Sg) (H F : Hp) (ρ : Rho) (d : D) (Q : VK), StRep X.K G O σ H ρ F → g ρ = some d → (∀ v H' F', Grow F H F' H' → RepR X.K F' H' v d → Q v H') → tb σ H Q)
    (G : Ent) (σ : Sg) (H F : Hp) (ρ : Rho) (d : D) (Q : VK) (s : StRep X.K G O σ H ρ F) (hf : o2 op f g ρ = some d) (q : ∀ v H' F', Grow F H F' H' → Rep X.K F' v d → Q v H') : L2.tOp r ta tb σ H Q := by
  unfold o2 at hf
  cases e1 : f ρ with
  | none => simp [e1] at hf
  | some x =>
    cases e2 : g ρ with
    | none => simp [e1, e2] at hf
    | some y =>
      simp [e1, e2] at hf
      refine ha G σ H F ρ x _ s e1 fun vx H1 F1 g1 r1 => ?_
      refine hb G σ H1 F1 ρ y _ (s.grow g1) e2 fun vy H2 F2 g2 r2 => ?_
      exact ho F2 H2 vx vy x y d Q (g2.fh) (r1.grow g2) r2 hf fun v H3 F3 g3 r3 => q v H3 F3 (g1.trans (g2.trans g3)) r3
theorem de_op {op : Operator} {r : R2} {o : D → D → Option D} (h : OpR X (binaryOp op) r) (ho : OpD X r o) (ha : DE X O a1 f) (hb : DE X O a2 g) : DE X O (.BinOp a1 op a2 pos) (o2 o f g) := by
  obtain ⟨ta, pa, ra⟩ := ha
  obtain ⟨tb, pb, rb⟩ := hb
  exact ⟨_, pe_op h pa pb, fun G σ H F ρ d Q s hf q => OpD.tOp ho ra rb G σ H F ρ d Q s hf q⟩

/-! ### arithmetic -/
def addD : D → D → Option D
  | .int a, .int b => some (.int (a + b))
  | _, _ => none
def subD : D → D → Option D
  | .int a, .int b => some (.int (a - b))
  | _, _ => none
def mulB (a b : Int) : Bool := !(decide (Builtin.Int.intBits a > shortFactorBits) && decide (Builtin.Int.intBits b > shortFactorBits) && Builtin.Int.intTooBig (Builtin.Int.intBits a + Builtin.Int.intBits b))
def mulD : D → D → Option D
  | .int a, .int b => if mulB a b = true then some (.int (a * b)) else none
  | _, _ => none
def divB (a b : Int) : Bool := !decide (b = 0) && !Builtin.divisionGoesByPylong a b
def fdivD : D → D → Option D
  | .int a, .int b => if divB a b = true then some (.int (a.fdiv b)) else none
  | _, _ => none
def modD : D → D → Option D
  | .int a, .int b => if b = 0 then none else some (.int (a.fmod b))
  | _, _ => none
def powD : D → D → Option D
  | .int a, .int b => if 0 ≤ b ∧ b ≤ 1000000 ∧ a.natAbs < 2 ^ 64 then some (.int (a ^ b.toNat)) else none
  | _, _ => none
def intOp (C : Int → Int → Prop) (k : Int → Int → Int) : R2 := rI C fun i j => .int (k i j)
theorem opD_int {C : Int → Int → Prop} {k : Int → Int → Int} {op : D → D → Option D} (h : ∀ x y d, op x y = some d → ∃ i j, x = .int i ∧ y = .int j ∧ C i j ∧ d = .int (k i j)) : OpD X (rI C fun i j => .int (k i j)) op := by
  intro F H x y dx dy d Q hs rx ry he q
  obtain ⟨i, j, rfl, rfl, hc, rfl⟩ := h _ _ _ he
  exact ⟨i, j, rx.int_inv, ry.int_inv, hc, q _ H F (Grow.refl hs) (.dat (.int _))⟩
theorem opD_int0 {k : Int → Int → Int} {op : D → D → Option D} (h : ∀ x y d, op x y = some d → ∃ i j, x = .int i ∧ y = .int j ∧ d = .int (k i j)) : OpD X (rI0 fun i j => .int (k i j)) op := by
  intro F H x y dx dy d Q hs rx ry he q
  obtain ⟨i, j, rfl, rfl, rfl⟩ := h _ _ _ he
  exact ⟨i, j, rx.int_inv, ry.int_inv, q _ H F (Grow.refl hs) (.dat (.int _))⟩
theorem de_add (ha : DE X O a1 f) (hb : DE X O a2 g) : DE X O (.BinOp a1 .Add a2 pos) (o2 addD f g) :=
  de_op op_add (opD_int0 fun x y d h => by cases x <;> cases y <;> simp [addD] at h; exact ⟨_, _, rfl, rfl, h.symm⟩) ha hb
theorem de_sub (ha : DE X O a1 f) (hb : DE X O a2 g) : DE X O (.BinOp a1 .Sub a2 pos) (o2 subD f g) :=
  de_op op_sub (opD_int0 fun x y d h => by cases x <;> cases y <;> simp [subD] at h; exact ⟨_, _, rfl, rfl, h.symm⟩) ha hb
theorem mulB_ok {a b : Int} (h : mulB a b = true) : IntMulOk a b := by
  unfold IntMulOk
  intro z
  unfold mulB at h
  rw [z] at h
  cases h
theorem op_mulB : OpR X (binaryOp .Mult) (rI (fun a b => mulB a b = true) fun i j => .int (i * j)) := opI fun _ _ _ _ _ _ _ hc q => mul_int q (mulB_ok hc)
theorem de_mul (ha : DE X O a1 f) (hb : DE X O a2 g) : DE X O (.BinOp a1 .Mult a2 pos) (o2 mulD f g) :=
  de_op op_mulB (opD_int fun x y d h => by
    cases x <;> cases y <;> simp [mulD] at h
    exact ⟨_, _, rfl, rfl, h.1, h.2.symm⟩) ha hb
theorem divB_ok {a b : Int} (h : divB a b = true) : b ≠ 0 ∧ Builtin.divisionGoesByPylong a b = false := by
  unfold divB at h
  rw [Bool.and_eq_true] at h
  exact ⟨by simpa using h.1, by simpa using h.2⟩
theorem op_fdivB : OpR X (binaryOp .FloorDiv) (rI (fun a b => divB a b = true) fun i j => .int (i.fdiv j)) := opI fun _ _ _ _ _ _ _ hc q => floordiv_int (divB_ok hc).1 q (.inl (divB_ok hc).2)
theorem de_fdiv (ha : DE X O a1 f) (hb : DE X O a2 g) : DE X O (.BinOp a1 .FloorDiv a2 pos) (o2 fdivD f g) :=
  de_op op_fdivB (opD_int fun x y d h => by
    cases x <;> cases y <;> simp [fdivD] at h
    exact ⟨_, _, rfl, rfl, h.1, h.2.symm⟩) ha hb
theorem de_mod (ha : DE X O a1 f) (hb : DE X O a2 g) : DE X O (.BinOp a1 .Mod a2 pos) (o2 modD f g) :=
  de_op op_modN (opD_int fun x y d h => by
    cases x <;> cases y <;> simp [modD] at h
    exact ⟨_, _, rfl, rfl, h.1, h.2.symm⟩) ha hb
theorem de_pow (ha : DE X O a1 f) (hb : DE X O a2 g) : DE X O (.BinOp a1 .Pow a2 pos) (o2 powD f g) :=
  de_op op_pow (opD_int fun x y d h => by
    cases x <;> cases y <;> simp [powD] at h
    exact ⟨_, _, rfl, rfl, h.1, h.2.symm⟩) ha hb
def negD : D → Option D
  | .int a => some (.int (-a))
  | _ => none
theorem de_neg (ha : DE X O e f) : DE X O (.UnaryOp .USub e pos) (o1 negD f) := by
  obtain ⟨ta, pa, ra⟩ := ha
  refine ⟨_, pe_un un_neg pa, fun G σ H F ρ d Q s hf q => ?_⟩
  unfold o1 at hf
  cases e1 : f ρ with
  | none => simp [e1] at hf
  | some x =>
    simp [e1] at hf
    refine ra G σ H F ρ x _ s e1 fun vx H1 F1 g1 r1 => ?_
    cases x <;> simp [negD] at hf
    subst hf
    exact ⟨_, r1.int_inv, q _ H1 F1 g1 (.dat (.int _))⟩

/-! ### comparisons -/
/-- a comparison: both as a value and as a test -/
def DC (X : Cx) (O : List Nat) (op : CmpOp) (a b : Expr) (f : EF) : Prop := ∃ r ta tb, OpR X (compareOp op) r ∧ PE X a ta ∧ PE X b tb ∧
  ∀ (G : Ent) (σ : Sg) (H F : Hp) (ρ : Rho) (d : D) (Q : VK), StRep X.K G O σ H ρ F → f ρ = some d → (∀ v H' F', Grow F H F' H' → Rep X.K F' v d → Q v H') → L2.tOp r ta tb σ H Q
theorem de_cmp {op : CmpOp} (h : DC X O op a1 a2 f) (hm : behindInMarks op a2 = false) : DE X O (.Compare a1 [op] [a2] pos) f := by
  obtain ⟨r, ta, tb, ho, pa, pb, rd⟩ := h
  exact ⟨_, pe_cmpR ho pa pb hm, rd⟩
def tb (f : EF) : BF := fun ρ => match f ρ with
  | some (.bool b) => some b
  | _ => none
theorem tb_some {ρ : Rho} {b : Bool} (h : tb f ρ = some b) : f ρ = some (.bool b) := by
  unfold tb at h
  cases e : f ρ with
  | none => simp [e] at h
  | some d => cases d <;> simp [e] at h; subst h; rfl
theorem dt_cmp {op : CmpOp} (h : DC X O op a1 a2 f) (hm : behindInMarks op a2 = false) : DT X O (.Compare a1 [op] [a2] pos) (tb f) := by
  obtain ⟨r, ta, tb, ho, pa, pb, rd⟩ := h
  refine ⟨_, pt_cmpR ho pa pb hm, fun G σ H F ρ b Q s hf q => ?_⟩
  exact rd G σ H F ρ (.bool b) _ s (tb_some hf) fun v H' F' g r => ⟨b, r.bl_inv, q H' F' g⟩
theorem dt_val {t : EF} (h : DE X O e t) (he : ∀ whole, isTrue e X.env whole = (do let v ← whole; standAt e.pos; holding [v] (truthy v)) := by intro _; rfl) : DT X O e (tb t) := by
  obtain ⟨te, p, rd⟩ := h
  refine ⟨_, pt_val p he, fun G σ H F ρ b Q s hf q => ?_⟩
  exact rd G σ H F ρ (.bool b) _ s (tb_some hf) fun v H' F' g r => ⟨b, r.bl_inv, q H' F' g⟩
theorem dc_of {op : CmpOp} {r : R2} {o : D → D → Option D} (h : OpR X (compareOp op) r) (ho : OpD X r o) (ha : DE X O a1 f) (hb : DE X O a2 g) : DC X O op a1 a2 (o2 o f g) := by
  obtain ⟨ta, pa, ra⟩ := ha
  obtain ⟨tb, pb, rb⟩ := hb
  exact ⟨r, ta, tb, h, pa, pb, fun G σ H F ρ d Q s hf q => OpD.tOp ho ra rb G σ H F ρ d Q s hf q⟩
theorem dc_ofR {op : CmpOp} {r : R2} {o : D → D → Option D} (h : OpR X (compareOp op) r) (ho : OpDR X r o) (ha : DR X O a1 f) (hb : DR X O a2 g) : DC X O op a1 a2 (o2 o f g) := by
  obtain ⟨ta, pa, ra⟩ := ha
  obtain ⟨tb, pb, rb⟩ := hb
  exact ⟨r, ta, tb, h, pa, pb, fun G σ H F ρ d Q s hf q => OpDR.tOp ho ra rb G σ H F ρ d Q s hf q⟩
def cmpD (k : Int → Int → Bool) : D → D → Option D
  | .int a, .int b => some (.bool (k a b))
  | _, _ => none
abbrev ltD := cmpD fun a b => decide (a < b)
abbrev leD := cmpD fun a b => decide (a ≤ b)
abbrev gtD := cmpD fun a b => decide (b < a)
abbrev geD := cmpD fun a b => decide (b ≤ a)
theorem opD_cmp {k : Int → Int → Bool} : OpD X (rI0 fun i j => .bl (k i j)) (cmpD k) := by
  intro F H x y dx dy d Q hs rx ry he q
  cases dx <;> cases dy <;> simp [cmpD] at he
  subst he
  exact ⟨_, _, rx.int_inv, ry.int_inv, q _ H F (Grow.refl hs) (.dat (.bl _))⟩
theorem dc_lt (ha : DE X O a1 f) (hb : DE X O a2 g) : DC X O .Lt a1 a2 (o2 ltD f g) := dc_of op_lt opD_cmp ha hb
theorem dc_le (ha : DE X O a1 f) (hb : DE X O a2 g) : DC X O .LtE a1 a2 (o2 leD f g) := dc_of op_le opD_cmp ha hb
theorem dc_gt (ha : DE X O a1 f) (hb : DE X O a2 g) : DC X O .Gt a1 a2 (o2 gtD f g) := dc_of op_gt opD_cmp ha hb
theorem dc_ge (ha : DE X O a1 f) (hb : DE X O a2 g) : DC X O .GtE a1 a2 (o2 geD f g) := dc_of op_ge opD_cmp ha hb
def eqD : D → D → Option D := fun x y => if SeqAt.shaped x = true ∧ SeqAt.shaped y = true then some (.bool (PyData.eqv x y)) else none
def neD : D → D → Option D := fun x y => if SeqAt.shaped x = true ∧ SeqAt.shaped y = true then some (.bool (!PyData.eqv x y)) else none
theorem dc_eq (hu : X.A.units + 64 < cLine) (ha : DR X O a1 f) (hb : DR X O a2 g) : DC X O .Eq a1 a2 (o2 eqD f g) := by
  refine dc_ofR (op_eqD hu) (fun F H x y dx dy d Q hs rx ry he q => ?_) ha hb
  unfold eqD at he
  by_cases h : SeqAt.shaped dx = true ∧ SeqAt.shaped dy = true
  · rw [if_pos h] at he; cases he
    exact ⟨dx, dy, rx.dp hs h.1, ry.dp hs h.2, h.1, h.2, q _ H F (Grow.refl hs) (.dat (.bl _))⟩
  · rw [if_neg h] at he; cases he
theorem dc_ne (hu : X.A.units + 64 < cLine) (ha : DR X O a1 f) (hb : DR X O a2 g) : DC X O .NotEq a1 a2 (o2 neD f g) := by
  refine dc_ofR (op_neD hu) (fun F H x y dx dy d Q hs rx ry he q => ?_) ha hb
  unfold neD at he
  by_cases h : SeqAt.shaped dx = true ∧ SeqAt.shaped dy = true
  · rw [if_pos h] at he; cases he
    exact ⟨dx, dy, rx.dp hs h.1, ry.dp hs h.2, h.1, h.2, q _ H F (Grow.refl hs) (.dat (.bl _))⟩
  · rw [if_neg h] at he; cases he
def inD : D → D → Option D
  | x, .list ds => if SeqAt.shaped x = true ∧ SeqAt.shaped (.list ds) = true then some (.bool (ds.any fun z => PyData.eqv z x)) else none
  | _, _ => none
def ninD : D → D → Option D
  | x, .list ds => if SeqAt.shaped x = true ∧ SeqAt.shaped (.list ds) = true then some (.bool (!ds.any fun z => PyData.eqv z x)) else none
  | _, _ => none
theorem dc_in (hu : X.A.units + 65 < cLine) (ha : DR X O a1 f) (hb : DR X O a2 g) : DC X O .In a1 a2 (o2 inD f g) := by
  refine dc_ofR (op_inD hu) (fun F H x y dx dy d Q hs rx ry he q => ?_) ha hb
  cases dy with
  | list ds =>
    simp only [inD] at he
    by_cases h : SeqAt.shaped dx = true ∧ SeqAt.shaped (.list ds) = true
    · rw [if_pos h] at he; cases he
      exact ⟨dx, ds, rx.dp hs h.1, ry.dp hs h.2, h.1, h.2, q _ H F (Grow.refl hs) (.dat (.bl _))⟩
    · rw [if_neg h] at he; cases he
  | _ => simp [inD] at he
theorem dc_nin (hu : X.A.units + 65 < cLine) (ha : DR X O a1 f) (hb : DR X O a2 g) : DC X O .NotIn a1 a2 (o2 ninD f g) := by
  refine dc_ofR (op_notInD hu) (fun F H x y dx dy d Q hs rx ry he q => ?_) ha hb
  cases dy with
  | list ds =>
    simp only [ninD] at he
    by_cases h : SeqAt.shaped dx = true ∧ SeqAt.shaped (.list ds) = true
    · rw [if_pos h] at he; cases he
      exact ⟨dx, ds, rx.dp hs h.1, ry.dp hs h.2, h.1, h.2, q _ H F (Grow.refl hs) (.dat (.bl _))⟩
    · rw [if_neg h] at he; cases he
  | _ => simp [ninD] at he
/-- is None -/
def isND (x : D) : Bool := match x with
  | .none => true
  | _ => false
def isD : D → D → Option D
  | x, .none => some (.bool (isND x))
  | _, _ => none
def isntD : D → D → Option D
  | x, .none => some (.bool (!isND x))
  | _, _ => none
theorem rep_isN {K : PySem.W.Frag} {F : Hp} {v : V} {d : D} (r : Rep K F v d) : decide (v = .non) = isND d := by
  cases r with
  | dat h => cases h <;> simp [isND]
  | exc q => simp [isND, excD]
theorem dc_is (ha : DE X O a1 f) (hb : DE X O a2 g) : DC X O .Is a1 a2 (o2 isD f g) := by
  refine dc_of op_isN (fun F H x y dx dy d Q hs rx ry he q => ?_) ha hb
  cases dy <;> simp [isD] at he
  subst he
  exact ⟨ry.non_inv, by rw [rep_isN rx]; exact q _ H F (Grow.refl hs) (.dat (.bl _))⟩
theorem dc_isnt (ha : DE X O a1 f) (hb : DE X O a2 g) : DC X O .IsNot a1 a2 (o2 isntD f g) := by
  refine dc_of op_notN (fun F H x y dx dy d Q hs rx ry he q => ?_) ha hb
  cases dy <;> simp [isntD] at he
  subst he
  exact ⟨ry.non_inv, by rw [rep_isN rx]; exact q _ H F (Grow.refl hs) (.dat (.bl _))⟩

/-! ### and, or, not; a if t else b -/
def andB (f g : BF) : BF := fun ρ => (f ρ).bind fun b => if b = true then g ρ else some false
def orB (f g : BF) : BF := fun ρ => (f ρ).bind fun b => if b = true then some true else g ρ
def notB (f : BF) : BF := fun ρ => (f ρ).map fun b => !b
def andE (f g : EF) : EF := fun ρ => (tb f ρ).bind fun b => if b = true then g ρ else some (.bool false)
def orE (f g : EF) : EF := fun ρ => (tb f ρ).bind fun b => if b = true then some (.bool true) else g ρ
def notE (f : EF) : EF := fun ρ => (tb f ρ).map fun b => .bool (!b)
def ifE (c : BF) (f g : EF) : EF := fun ρ => (c ρ).bind fun b => if b = true then f ρ else g ρ
variable {c c' : BF} {rest : List Expr}
theorem dw_t (h : DW X O e c) : DT X O e c := let ⟨t, p, r⟩ := h; ⟨t, p.pt, r⟩
theorem dw_and1 (h : DT X O e c) : DW X O (.BoolOp .And [e] pos) c := let ⟨t, p, r⟩ := h; ⟨t, pw_and1 p, r⟩
theorem dw_or1 (h : DT X O e c) : DW X O (.BoolOp .Or [e] pos) c := let ⟨t, p, r⟩ := h; ⟨t, pw_or1 p, r⟩
theorem dw_and (ha : DT X O a1 c) (hb : DW X O (.BoolOp .And (a2 :: rest) pos) c') : DW X O (.BoolOp .And (a1 :: a2 :: rest) pos) (andB c c') := by
  obtain ⟨ta, pa, ra⟩ := ha
  obtain ⟨tb, pb, rb⟩ := hb
  refine ⟨_, pw_and pa pb, fun G σ H F ρ b Q s hf q => ?_⟩
  unfold andB at hf
  cases e : c ρ with
  | none => simp [e] at hf
  | some k =>
    simp only [e, Option.bind_some] at hf
    refine ra G σ H F ρ k _ s e fun H1 F1 g1 => ?_
    cases k with
    | true => rw [if_pos rfl] at hf ⊢; exact rb G σ H1 F1 ρ b Q (s.grow g1) hf fun H2 F2 g2 => q H2 F2 (g1.trans g2)
    | false => rw [if_neg Bool.false_ne_true] at hf ⊢; cases hf; exact q H1 F1 g1
theorem dw_or (ha : DT X O a1 c) (hb : DW X O (.BoolOp .Or (a2 :: rest) pos) c') : DW X O (.BoolOp .Or (a1 :: a2 :: rest) pos) (orB c c') := by
  obtain ⟨ta, pa, ra⟩ := ha
  obtain ⟨tb, pb, rb⟩ := hb
  refine ⟨_, pw_or pa pb, fun G σ H F ρ b Q s hf q => ?_⟩
  unfold orB at hf
  cases e : c ρ with
  | none => simp [e] at hf
  | some k =>
    simp only [e, Option.bind_some] at hf
    refine ra G σ H F ρ k _ s e fun H1 F1 g1 => ?_
    cases k with
    | true => rw [if_pos rfl] at hf ⊢; cases hf; exact q H1 F1 g1
    | false => rw [if_neg Bool.false_ne_true] at hf ⊢; exact rb G σ H1 F1 ρ b Q (s.grow g1) hf fun H2 F2 g2 => q H2 F2 (g1.trans g2)
theorem dt_not (ha : DT X O e c) : DT X O (.UnaryOp .Not e pos) (notB c) := by
  obtain ⟨ta, pa, ra⟩ := ha
  refine ⟨_, pt_not pa, fun G σ H F ρ b Q s hf q => ?_⟩
  unfold notB at hf
  cases e : c ρ with
  | none => simp [e] at hf
  | some k =>
    rw [e] at hf
    have hf : (!k) = b := Option.some.inj hf
    subst hf
    refine ra G σ H F ρ k _ s e fun H1 F1 g1 => ?_
    exact q H1 F1 g1
theorem de_one {op} (h : DE X O e f) : DE X O (.BoolOp op [e] pos) f := let ⟨t, p, r⟩ := h; ⟨t, pe_one p, r⟩
theorem de_and (ha : DE X O a1 f) (hb : DE X O (.BoolOp .And (a2 :: rest) pos) g) : DE X O (.BoolOp .And (a1 :: a2 :: rest) pos) (andE f g) := by
  obtain ⟨ta, pa, ra⟩ := ha
  obtain ⟨tb, pb, rb⟩ := hb
  refine ⟨_, pe_and pa pb, fun G σ H F ρ b Q s hf q => ?_⟩
  unfold andE at hf
  cases e : DL.tb f ρ with
  | none => simp [e] at hf
  | some k =>
    simp only [e, Option.bind_some] at hf
    refine ra G σ H F ρ (.bool k) _ s (tb_some e) fun v H1 F1 g1 r1 => ⟨k, r1.bl_inv, ?_⟩
    cases k with
    | true => rw [if_pos rfl] at hf ⊢; exact rb G σ H1 F1 ρ b Q (s.grow g1) hf fun v H2 F2 g2 => q v H2 F2 (g1.trans g2)
    | false => rw [if_neg Bool.false_ne_true] at hf ⊢; cases hf; exact q _ H1 F1 g1 (.dat (.bl _))
theorem de_or (ha : DE X O a1 f) (hb : DE X O (.BoolOp .Or (a2 :: rest) pos) g) : DE X O (.BoolOp .Or (a1 :: a2 :: rest) pos) (orE f g) := by
  obtain ⟨ta, pa, ra⟩ := ha
  obtain ⟨tb, pb, rb⟩ := hb
  refine ⟨_, pe_or pa pb, fun G σ H F ρ b Q s hf q => ?_⟩
  unfold orE at hf
  cases e : DL.tb f ρ with
  | none => simp [e] at hf
  | some k =>
    simp only [e, Option.bind_some] at hf
    refine ra G σ H F ρ (.bool k) _ s (tb_some e) fun v H1 F1 g1 r1 => ⟨k, r1.bl_inv, ?_⟩
    cases k with
    | true => rw [if_pos rfl] at hf ⊢; cases hf; exact q _ H1 F1 g1 (.dat (.bl _))
    | false => rw [if_neg Bool.false_ne_true] at hf ⊢; exact rb G σ H1 F1 ρ b Q (s.grow g1) hf fun v H2 F2 g2 => q v H2 F2 (g1.trans g2)
theorem de_not (ha : DE X O e f) : DE X O (.UnaryOp .Not e pos) (notE f) := by
  obtain ⟨ta, pa, ra⟩ := ha
  refine ⟨_, pe_not pa, fun G σ H F ρ b Q s hf q => ?_⟩
  unfold notE at hf
  cases e : DL.tb f ρ with
  | none => simp [e] at hf
  | some k =>
    simp [e] at hf
    refine ra G σ H F ρ (.bool k) _ s (tb_some e) fun v H1 F1 g1 r1 => ⟨k, r1.bl_inv, ?_⟩
    subst hf
    exact q _ H1 F1 g1 (.dat (.bl _))
theorem de_ifExp (hc : DT X O e c) (ha : DE X O a1 f) (hb : DE X O a2 g) : DE X O (.IfExp e a1 a2 pos) (ifE c f g) := by
  obtain ⟨tc, pc, rc⟩ := hc
  obtain ⟨ta, pa, ra⟩ := ha
  obtain ⟨tb, pb, rb⟩ := hb
  refine ⟨_, pe_ifExp pc pa pb, fun G σ H F ρ d Q s hf q => ?_⟩
  unfold ifE at hf
  cases e : c ρ with
  | none => simp [e] at hf
  | some k =>
    simp only [e, Option.bind_some] at hf
    refine rc G σ H F ρ k _ s e fun H1 F1 g1 => ?_
    cases k with
    | true => rw [if_pos rfl] at hf ⊢; exact ra G σ H1 F1 ρ d Q (s.grow g1) hf fun v H2 F2 g2 => q v H2 F2 (g1.trans g2)
    | false => rw [if_neg Bool.false_ne_true] at hf ⊢; exact rb G σ H1 F1 ρ d Q (s.grow g1) hf fun v H2 F2 g2 => q v H2 F2 (g1.trans g2)

/-! ### arguments, displays -/
def nilA : AF := fun _ => some []
def consA (f : EF) (r : AF) : AF := fun ρ => (f ρ).bind fun x => (r ρ).bind fun xs => some (x :: xs)
theorem da_nil : DA X O [] nilA := ⟨⟨_, pa_nil, fun G σ H F ρ ds Q s hf q => by cases hf; exact q [] H F (Grow.refl s.sub) .nil⟩, fun ρ ds h => by cases h; rfl⟩
theorem da_cons {r : AF} (he : DE X O e f) (hr : DA X O es r) (hs : starEach (e :: es) X.env = (false, eval e X.env) :: starEach es X.env := by rfl) : DA X O (e :: es) (consA f r) := by
  obtain ⟨te, pe, re⟩ := he
  obtain ⟨⟨tr, pr, rr⟩, hl⟩ := hr
  refine ⟨⟨_, pa_cons pe pr hs, fun G σ H F ρ ds Q s hf q => ?_⟩, fun ρ ds hf => ?_⟩
  · unfold consA at hf
    cases e1 : f ρ with
    | none => simp [e1] at hf
    | some x =>
      cases e2 : r ρ with
      | none => simp [e1, e2] at hf
      | some xs =>
        simp [e1, e2] at hf
        subst hf
        refine re G σ H F ρ x _ s e1 fun v H1 F1 g1 r1 => ?_
        exact rr G σ H1 F1 ρ xs _ (s.grow g1) e2 fun vs H2 F2 g2 r2 => q _ H2 F2 (g1.trans g2) (.cons (r1.mono g2.ff) r2)
  · unfold consA at hf
    cases e1 : f ρ with
    | none => simp [e1] at hf
    | some x =>
      cases e2 : r ρ with
      | none => simp [e1, e2] at hf
      | some xs =>
        simp [e1, e2] at hf
        subst hf
        simp [hl ρ xs e2]
/-- plain data, all of them -/
def plainD : D → Bool
  | .dict _ => false
  | _ => true
theorem Rep.dp {K : PySem.W.Frag} {F : Hp} {v : V} {d : D} (h : plainD d = true) (r : Rep K F v d) : Dp K F v d := by
  cases r with
  | dat h => exact h
  | exc q => cases h
theorem RepAll.dp {K : PySem.W.Frag} {F : Hp} : ∀ {vs : List V} {ds : List D}, ds.all plainD = true → RepAll K F vs ds → DpAll K F vs ds
  | _, _, _, .nil => .nil
  | _, _, h, .cons r t => by
    rw [List.all_cons, Bool.and_eq_true] at h
    exact .cons (r.dp h.1) (RepAll.dp h.2 t)
def tupE (r : AF) : EF := fun ρ => (r ρ).bind fun ds => if ds.all plainD = true ∧ ds.length ≤ sizeLine then some (.tuple ds) else none
def lstA (r : AF) : AF := fun ρ => (r ρ).bind fun ds => if ds.all plainD = true ∧ ds.length ≤ sizeLine then some ds else none
theorem de_tup {r : AF} {x1} (h : DA X O es r) : DE X O (.Tuple es x1 pos) (tupE r) := by
  obtain ⟨⟨ta, pa, ra⟩, _⟩ := h
  refine ⟨_, pe_tup pa, fun G σ H F ρ d Q s hf q => ?_⟩
  unfold tupE at hf
  cases e : r ρ with
  | none => simp [e] at hf
  | some ds =>
    simp only [e, Option.bind_some] at hf
    by_cases hp : ds.all plainD = true ∧ ds.length ≤ sizeLine
    · rw [if_pos hp] at hf; cases hf
      refine ra G σ H F ρ ds _ s e fun vs H1 F1 g1 r1 => ⟨by rw [r1.length]; exact hp.2, fun p hn => ?_⟩
      have hf1 := free_of g1.fh hn
      exact q (.ref p) _ (upd F1 p (.tup vs)) (g1.trans (Grow.new g1.fh hn)) (.dat (.tup (.inl (.inl upd_same)) (dpAll_mono (same_upd hf1) (r1.dp hp.1))))
    · rw [if_neg hp] at hf; cases hf
theorem dn_lst {r : AF} (h : DA X O es r) : DN X O (.List es pos) (lstA r) := by
  obtain ⟨⟨ta, pa, ra⟩, _⟩ := h
  refine ⟨_, pe_lst pa, fun G σ H F ρ d' Q s hf q => ?_⟩
  unfold lstA at hf
  cases e : r ρ with
  | none => simp [e] at hf
  | some ds =>
    simp only [e, Option.bind_some] at hf
    by_cases hp : ds.all plainD = true ∧ ds.length ≤ sizeLine
    · rw [if_pos hp] at hf
      have hf := Option.some.inj hf
      subst hf
      refine ra G σ H F ρ ds _ s e fun vs H1 F1 g1 r1 => ⟨by rw [r1.length]; exact hp.2, fun p hn => ?_⟩
      have hf1 := free_of g1.fh hn
      refine q p vs _ F1 (g1.trans (Grow.newOwn g1.fh hn)) ?_ upd_same hf1 (r1.dp hp.1)
      exact free_of g1.hh hn
    · rw [if_neg hp] at hf; cases hf

/-! ### items, slices -/
def ixD : D → D → Option D
  | .list ds, .int i => atI ds i
  | .tuple ds, .int i => atI ds i
  | _, _ => none
theorem atI_dp {K : PySem.W.Frag} {F : Hp} {vs : List V} {ds : List D} {i : Int} {d : D} (h : DpAll K F vs ds) (e : atI ds i = some d) : ∃ v, atI vs i = some v ∧ Dp K F v d := by
  unfold atI at e ⊢
  rw [dpA_length h]
  cases q : ixN ds.length i with
  | none => simp [q] at e
  | some j =>
    simp only [q, Option.bind_some] at e ⊢
    exact dpA_get h e
theorem de_ix (ha : DR X O a1 f) (hb : DE X O a2 g) (hs : PlainIx a2 := by exact fun _ _ => rfl) : DE X O (.Subscript a1 a2 pos) (o2 ixD f g) := by
  obtain ⟨ta, pa, ra⟩ := ha
  obtain ⟨tb, pb, rb⟩ := hb
  refine ⟨_, pe_ix ix_seq pa pb hs, fun G σ H F ρ d Q s hf q => ?_⟩
  unfold o2 at hf
  cases e1 : f ρ with
  | none => simp [e1] at hf
  | some x =>
    cases e2 : g ρ with
    | none => simp [e1, e2] at hf
    | some y =>
      simp [e1, e2] at hf
      refine ra G σ H F ρ x _ s e1 fun vx H1 F1 g1 r1 => ?_
      refine rb G σ H1 F1 ρ y _ (s.grow g1) e2 fun vy H2 F2 g2 r2 => ?_
      cases y with
      | int i =>
        have r1' := r1.grow g2
        cases x with
        | list ds =>
          obtain ⟨a, vs, rfl, h1, h2⟩ := r1'.lst_inv g2.fh
          obtain ⟨v, hv, rv⟩ := atI_dp h2 (show atI ds i = some d from hf)
          exact .inl ⟨a, vs, i, v, rfl, r2.int_inv, h1, hv, q v H2 F2 (g1.trans g2) (.dat rv)⟩
        | tuple ds =>
          obtain ⟨a, vs, rfl, h1, h2⟩ := r1'.tup_inv
          obtain ⟨v, hv, rv⟩ := atI_dp h2 (show atI ds i = some d from hf)
          exact .inr (.inl ⟨a, vs, i, v, rfl, r2.int_inv, same_sqT g2.fh h1, hv, q v H2 F2 (g1.trans g2) (.dat rv)⟩)
        | _ => simp [ixD] at hf
      | _ => cases x <;> simp [ixD] at hf
abbrev OF := Rho → Option (Option Int)
def DP (X : Cx) (O : List Nat) (e : Option Expr) (f : OF) : Prop := ∃ t, PO X e t ∧ ∀ (G : Ent) (σ : Sg) (H F : Hp) (ρ : Rho) (o : Option Int) (Q : Option Int → Hp → Prop),
  StRep X.K G O σ H ρ F → f ρ = some o → (∀ H' F', Grow F H F' H' → Q o H') → t σ H Q
theorem dp_none : DP X O none (fun _ => some none) := ⟨_, po_none, fun G σ H F ρ o Q s hf q => by cases hf; exact q H F (Grow.refl s.sub)⟩
def partO (f : EF) : OF := fun ρ => match f ρ with
  | some (.int i) => some (some i)
  | _ => none
theorem dp_some (h : DE X O e f) : DP X O (some e) (partO f) := by
  obtain ⟨t, p, r⟩ := h
  refine ⟨_, po_some p, fun G σ H F ρ o Q s hf q => ?_⟩
  unfold partO at hf
  cases e : f ρ with
  | none => simp [e] at hf
  | some d =>
    cases d <;> simp [e] at hf
    subst hf
    exact r G σ H F ρ _ _ s e fun v H' F' g x => ⟨_, x.int_inv, q H' F' g⟩
def cutD (xs : List D) (lo hi : Option Int) : List D := (xs.drop (HT.sIx xs.length 0 lo)).take (HT.sIx xs.length xs.length hi - HT.sIx xs.length 0 lo)
theorem cut_dp {K : PySem.W.Frag} {F : Hp} {vs : List V} {ds : List D} (lo hi : Option Int) (h : DpAll K F vs ds) : DpAll K F (cutV vs lo hi) (cutD ds lo hi) := by
  unfold cutV cutD
  rw [dpA_length h]
  exact dpA_take _ (dpA_drop _ h)
def slA (f : EF) (lo hi : OF) : AF := fun ρ => match f ρ with
  | some (.list ds) => (lo ρ).bind fun l => (hi ρ).bind fun h => some (cutD ds l h)
  | _ => none
theorem dn_sl {lo hi : Option Expr} {l h : OF} {p2 : Pos} (ha : DR X O e f) (hl : DP X O lo l) (hh : DP X O hi h) : DN X O (.Subscript e (.Slice lo hi none p2) pos) (slA f l h) := by
  obtain ⟨ta, pa, ra⟩ := ha
  obtain ⟨tl, pl, rl⟩ := hl
  obtain ⟨th, ph, rh⟩ := hh
  refine ⟨_, pe_slice sl_list pa pl ph, fun G σ H F ρ ds Q s hf q => ?_⟩
  unfold slA at hf
  cases e1 : f ρ with
  | none => simp [e1] at hf
  | some x =>
    cases x with
    | list xs =>
      simp only [e1] at hf
      cases ea : l ρ with
      | none => rw [ea] at hf; cases hf
      | some a =>
      cases eb : h ρ with
      | none => rw [ea] at hf; simp [eb] at hf
      | some b =>
      rw [ea] at hf
      simp only [eb, Option.bind_some] at hf
      have hf := Option.some.inj hf
      subst hf
      refine ra G σ H F ρ _ _ s e1 fun vx H1 F1 g1 r1 => ?_
      refine rl G σ H1 F1 ρ a _ (s.grow g1) ea fun H2 F2 g2 => ?_
      refine rh G σ H2 F2 ρ b _ (s.grow (g1.trans g2)) eb fun H3 F3 g3 => ?_
      obtain ⟨p, vs, rfl, h1, h2⟩ := (r1.grow (g2.trans g3)).lst_inv g3.fh
      refine ⟨p, vs, rfl, h1, fun z hz => ?_⟩
      have gg := g1.trans (g2.trans g3)
      exact q z _ _ F3 (gg.trans (Grow.newOwn g3.fh hz)) (free_of gg.hh hz) upd_same (free_of g3.fh hz) (cut_dp _ _ h2)
    | _ => simp [e1] at hf
end
end DL

/-! DL, part 3: statements, loops, functions. -/
namespace DL
open PySem PySem.Spec PyProof.Rows L2

inductive Out where
  | nx (ρ : Rho) | rt (d : D) | bk (ρ : Rho) | ct (ρ : Rho)
abbrev SF := Rho → Option Out

/-- what is given back: data, or a list of the asker's own (new behind the entry) -/
def RetOk (K : PySem.W.Frag) (own : Bool) (F' H' H0 : Hp) (v : V) (d : D) : Prop := match own with
  | true => ∃ a vs ds, v = .ref a ∧ d = .list ds ∧ H' a = some (.lst vs) ∧ H0 a = none ∧ F' a = none ∧ DpAll K F' vs ds
  | false => Rep K F' v d
def Good (K : PySem.W.Frag) (G : Ent) (RO : Bool) (O' LB : List Nat) (F : Hp) (E : Ends) : Out → Prop
  | .nx ρ' => ∀ σ' H' F', StRep K G O' σ' H' ρ' F' → Same F F' → E.nx σ' H'
  | .bk ρ' => ∀ σ' H' F', StRep K G LB σ' H' ρ' F' → Same F F' → E.bk σ' H'
  | .ct ρ' => ∀ σ' H' F', StRep K G LB σ' H' ρ' F' → Same F F' → E.ct σ' H'
  | .rt d => ∀ v H' F', Grow G.F0 G.H0 F' H' → RetOk K RO F' H' G.H0 v d → E.rt v H'
def DS (X : Cx) (RO : Bool) (O O' LB : List Nat) (st : Stmt) (f : SF) : Prop := ∃ t, PS X st t ∧ ∀ (G : Ent) (σ : Sg) (H F : Hp) (ρ : Rho) (r : Out) (E : Ends),
  StRep X.K G O σ H ρ F → f ρ = some r → Good X.K G RO O' LB F E r → t E σ H
def DSs (X : Cx) (RO : Bool) (O O' LB : List Nat) (sts : List Stmt) (f : SF) : Prop := ∃ t, PSs X sts t ∧ ∀ (G : Ent) (σ : Sg) (H F : Hp) (ρ : Rho) (r : Out) (E : Ends),
  StRep X.K G O σ H ρ F → f ρ = some r → Good X.K G RO O' LB F E r → t E σ H

theorem Good.mono {K : PySem.W.Frag} {G : Ent} {RO : Bool} {O' LB : List Nat} {F F1 : Hp} {E : Ends} (e : Same F F1) : ∀ {r : Out}, Good K G RO O' LB F E r → Good K G RO O' LB F1 E r
  | .nx _, h => fun σ' H' F' s q => h σ' H' F' s (same_trans e q)
  | .bk _, h => fun σ' H' F' s q => h σ' H' F' s (same_trans e q)
  | .ct _, h => fun σ' H' F' s q => h σ' H' F' s (same_trans e q)
  | .rt _, h => h
theorem Good.weak {K : PySem.W.Frag} {G : Ent} {RO : Bool} {O1 O2 LB : List Nat} {F : Hp} {E : Ends} (w : ∀ i ∈ O2, i ∈ O1) : ∀ {r : Out}, Good K G RO O2 LB F E r → Good K G RO O1 LB F E r
  | .nx _, h => fun σ' H' F' s q => let ⟨F2, e, s2⟩ := s.freeze w; h σ' H' F2 s2 (same_trans q e)
  | .bk _, h => h
  | .ct _, h => h
  | .rt _, h => h

def subO (a b : List Nat) : Bool := a.all fun i => b.contains i
theorem subO_ok {a b : List Nat} (h : subO a b = true) : ∀ i ∈ a, i ∈ b := fun i hi => List.contains_iff_mem.mp (List.all_eq_true.mp h i hi)

section
variable {X : Cx} {RO : Bool} {O O' O1 O2 LB : List Nat} {e a1 a2 : Expr} {es : List Expr} {f g : EF} {fa : AF} {pos : Pos} {st : Stmt} {rest : List Stmt} {s1 s2 : SF}

theorem ds_weak (h : DS X RO O O1 LB st s1) (w : subO O2 O1 = true := by decide) : DS X RO O O2 LB st s1 := by
  obtain ⟨t, p, r⟩ := h
  exact ⟨t, p, fun G σ H F ρ o E s hf q => r G σ H F ρ o E s hf (q.weak (subO_ok w))⟩
theorem dss_weak (h : DSs X RO O O1 LB rest s1) (w : subO O2 O1 = true := by decide) : DSs X RO O O2 LB rest s1 := by
  obtain ⟨t, p, r⟩ := h
  exact ⟨t, p, fun G σ H F ρ o E s hf q => r G σ H F ρ o E s hf (q.weak (subO_ok w))⟩
/-- own lists given up ahead of a statement -/
theorem ds_pre (h : DS X RO O2 O' LB st s1) (w : subO O2 O = true := by decide) : DS X RO O O' LB st s1 := by
  obtain ⟨t, p, r⟩ := h
  refine ⟨t, p, fun G σ H F ρ o E s hf q => ?_⟩
  obtain ⟨F2, e, s2⟩ := s.freeze (subO_ok w)
  exact r G σ H F2 ρ o E s2 hf (q.mono e)
theorem dss_pre (h : DSs X RO O2 O' LB rest s1) (w : subO O2 O = true := by decide) : DSs X RO O O' LB rest s1 := by
  obtain ⟨t, p, r⟩ := h
  refine ⟨t, p, fun G σ H F ρ o E s hf q => ?_⟩
  obtain ⟨F2, e, s2⟩ := s.freeze (subO_ok w)
  exact r G σ H F2 ρ o E s2 hf (q.mono e)

/-! ### blocks -/
def skipF : SF := fun ρ => some (.nx ρ)
def seqF (a b : SF) : SF := fun ρ => (a ρ).bind fun r => match r with
  | .nx ρ' => b ρ'
  | r => some r
theorem dss_nil : DSs X RO O O LB [] skipF := ⟨_, pss_nil, fun G σ H F ρ o E s hf q => by cases hf; exact q σ H F s (Same.refl _)⟩
theorem dss_cons (h1 : DS X RO O O1 LB st s1) (h2 : DSs X RO O1 O2 LB rest s2) : DSs X RO O O2 LB (st :: rest) (seqF s1 s2) := by
  obtain ⟨t, p, r⟩ := h1
  obtain ⟨u, pu, ru⟩ := h2
  refine ⟨_, pss_cons p pu, fun G σ H F ρ o E s hf q => ?_⟩
  unfold seqF at hf
  cases e : s1 ρ with
  | none => simp [e] at hf
  | some r1 =>
    simp only [e, Option.bind_some] at hf
    refine r G σ H F ρ r1 _ s e ?_
    cases r1 with
    | nx ρ' => exact fun σ' H' F' s' e' => ru G σ' H' F' ρ' o E s' hf (q.mono e')
    | _ => cases hf; exact q
theorem dss_one (h1 : DS X RO O O1 LB st s1) : DSs X RO O O1 LB [st] s1 := by
  obtain ⟨t, p, r⟩ := h1
  exact ⟨t, pss_one p, r⟩
/-- code that is never reached -/
def neverF : SF := fun _ => none
theorem ds_never : DS X RO O O' LB st neverF := ⟨_, ps_never, fun G σ H F ρ o E s hf q => by cases hf⟩
theorem dss_never : DSs X RO O O' LB rest neverF := ⟨_, pss_never, fun G σ H F ρ o E s hf q => by cases hf⟩
def passF : SF := skipF
theorem ds_pass : DS X RO O O LB (.Pass pos) skipF := ⟨_, ps_pass, fun G σ H F ρ o E s hf q => by cases hf; exact q σ H F s (Same.refl _)⟩
def breakF : SF := fun ρ => some (.bk ρ)
def contF : SF := fun ρ => some (.ct ρ)
theorem ds_break : DS X RO O O' O (.Break pos) breakF := ⟨_, ps_break, fun G σ H F ρ o E s hf q => by cases hf; exact q σ H F s (Same.refl _)⟩
theorem ds_cont : DS X RO O O' O (.Continue pos) contF := ⟨_, ps_continue, fun G σ H F ρ o E s hf q => by cases hf; exact q σ H F s (Same.refl _)⟩

/-! ### return -/
def retF (f : EF) : SF := fun ρ => (f ρ).map .rt
theorem StRep.ends {K : PySem.W.Frag} {G : Ent} {σ : Sg} {H F H' F' : Hp} {ρ : Rho} (s : StRep K G O σ H ρ F) (g : Grow F H F' H') : Grow G.F0 G.H0 F' H' := s.g.trans g
theorem ds_ret (h : DE X O e f) : DS X false O O' LB (.Return (some e) pos) (retF f) := by
  obtain ⟨t, p, r⟩ := h
  refine ⟨_, ps_ret p, fun G σ H F ρ o E s hf q => ?_⟩
  unfold retF at hf
  cases e : f ρ with
  | none => simp [e] at hf
  | some d =>
    simp [e] at hf; subst hf
    exact r G σ H F ρ d _ s e fun v H' F' g x => q v H' F' (s.g.trans g) x
def retL (f : AF) : SF := fun ρ => (f ρ).map fun ds => .rt (.list ds)
theorem ds_retN (h : DN X O e fa) : DS X true O O' LB (.Return (some e) pos) (retL fa) := by
  obtain ⟨t, p, r⟩ := h
  refine ⟨_, ps_ret p, fun G σ H F ρ o E s hf q => ?_⟩
  unfold retL at hf
  cases e : fa ρ with
  | none => simp [e] at hf
  | some d =>
    simp [e] at hf; subst hf
    exact r G σ H F ρ d _ s e fun a vs H' F' g hn h1 h2 h3 => q _ H' F' (s.g.trans g) ⟨a, vs, d, rfl, rfl, h1, free_of s.g.hh hn, h2, h3⟩
def retV (i : Nat) : SF := fun ρ => match getv ρ i with
  | some (.list ds) => some (.rt (.list ds))
  | _ => none
theorem ds_retOwn (i : Nat) {x : Str} {p2 : Pos} (hO : O.contains i = true) (h : PE X (.Name x p2) (tVar i)) : DS X true O O' LB (.Return (some (.Name x p2)) pos) (retV i) := by
  refine ⟨_, ps_ret h, fun G σ H F ρ o E s hf q => ?_⟩
  unfold retV at hf
  cases e : getv ρ i with
  | none => simp [e] at hf
  | some d =>
    cases d <;> simp [e] at hf
    subst hf
    have hO' := List.contains_iff_mem.mp hO
    obtain ⟨v, hs, a, vs, ds, rfl, e2, h1, h2, h3⟩ := s.own i _ hO' e
    cases e2
    exact ⟨_, hs, q _ H F s.g ⟨a, vs, _, rfl, rfl, h1, s.new i _ a hO' e hs, h2, h3⟩⟩
theorem ds_retnone : DS X false O O' LB (.Return none pos) (fun _ => some (.rt .none)) :=
  ⟨_, ps_retN, fun G σ H F ρ o E s hf q => by cases hf; exact q _ H F s.g (.dat .non)⟩

/-! ### if -/
def ifF (c : BF) (a b : SF) : SF := fun ρ => (c ρ).bind fun k => if k = true then a ρ else b ρ
theorem ds_if {c : BF} {xs ys : List Stmt} (hc : DT X O e c) (ha : DSs X RO O O' LB xs s1) (hb : DSs X RO O O' LB ys s2) : DS X RO O O' LB (.If e xs ys pos) (ifF c s1 s2) := by
  obtain ⟨tc, pc, rc⟩ := hc
  obtain ⟨ta, pa, ra⟩ := ha
  obtain ⟨tb, pb, rb⟩ := hb
  refine ⟨_, ps_if pc pa pb, fun G σ H F ρ o E s hf q => ?_⟩
  unfold ifF at hf
  cases e : c ρ with
  | none => simp [e] at hf
  | some k =>
    simp only [e, Option.bind_some] at hf
    refine rc G σ H F ρ k _ s e fun H1 F1 g1 => ?_
    cases k with
    | true => rw [if_pos rfl] at hf ⊢; exact ra G σ H1 F1 ρ o E (s.grow g1) hf (q.mono g1.ff)
    | false => rw [if_neg Bool.false_ne_true] at hf ⊢; exact rb G σ H1 F1 ρ o E (s.grow g1) hf (q.mono g1.ff)

/-! ### stores -/
theorem getv_set {ρ : Rho} {i j : Nat} {d : D} : getv (ρ.set i (some d)) j = if j = i ∧ i < ρ.length then some d else getv ρ j := by
  unfold getv
  by_cases hj : j = i
  · subst hj
    by_cases hl : j < ρ.length
    · simp [hl]
    · have h1 : (ρ.set j (some d))[j]? = none := List.getElem?_eq_none (by simpa using hl)
      have h2 : ρ[j]? = none := List.getElem?_eq_none (by simpa using hl)
      rw [h1, h2, if_neg (fun z => hl z.2)]
  · rw [List.getElem?_set_ne (Ne.symm hj), if_neg (fun z => hj z.1)]
def dropO (O : List Nat) (i : Nat) : List Nat := O.filter fun j => j != i
theorem mem_dropO {O : List Nat} {i j : Nat} : j ∈ dropO O i ↔ j ∈ O ∧ j ≠ i := by
  unfold dropO; simp [List.mem_filter]
theorem StRep.set {K : PySem.W.Frag} {G : Ent} {σ : Sg} {H F : Hp} {ρ : Rho} (s : StRep K G O σ H ρ F) (i : Nat) {v : V} {d : D} (r : Rep K F v d) : StRep K G (dropO O i) (σ.set i (some v)) H (ρ.set i (some d)) F where
  len := by simpa using s.len
  g := s.g
  dat := fun j c hj hc => by
    rw [getv_set] at hc
    by_cases h : j = i ∧ i < ρ.length
    · rw [if_pos h] at hc; cases hc
      exact ⟨v, by rw [h.1, List.getElem?_set_self (by rw [← s.len]; exact h.2)], r⟩
    · rw [if_neg h] at hc
      by_cases hji : j = i
      · subst hji
        have hl : ¬ j < ρ.length := fun z => h ⟨rfl, z⟩
        unfold getv at hc
        rw [List.getElem?_eq_none (by omega)] at hc; cases hc
      · have hj' : j ∉ O := fun z => hj (mem_dropO.mpr ⟨z, hji⟩)
        obtain ⟨w, e1, e2⟩ := s.dat j c hj' hc
        exact ⟨w, by rw [List.getElem?_set_ne (Ne.symm hji)]; exact e1, e2⟩
  own := fun j c hj hc => by
    obtain ⟨hj1, hji⟩ := mem_dropO.mp hj
    rw [getv_set, if_neg (fun z => hji z.1)] at hc
    obtain ⟨w, e1, e2⟩ := s.own j c hj1 hc
    exact ⟨w, by rw [List.getElem?_set_ne (Ne.symm hji)]; exact e1, e2⟩
  new := fun j c a hj hc hs => by
    obtain ⟨hj1, hji⟩ := mem_dropO.mp hj
    rw [getv_set, if_neg (fun z => hji z.1)] at hc
    rw [List.getElem?_set_ne (Ne.symm hji)] at hs
    exact s.new j c a hj1 hc hs
  dis := fun j k c e a hj hk hjk hc he hs => by
    obtain ⟨hj1, hji⟩ := mem_dropO.mp hj
    obtain ⟨hk1, hki⟩ := mem_dropO.mp hk
    rw [getv_set, if_neg (fun z => hji z.1)] at hc
    rw [getv_set, if_neg (fun z => hki z.1)] at he
    rw [List.getElem?_set_ne (Ne.symm hji)] at hs
    rw [List.getElem?_set_ne (Ne.symm hki)]
    exact s.dis j k c e a hj1 hk1 hjk hc he hs
/-- a slot takes an own list: at an address that no own slot but it has -/
theorem StRep.setOwn {K : PySem.W.Frag} {G : Ent} {σ : Sg} {H F : Hp} {ρ : Rho} (s : StRep K G O σ H ρ F) (i : Nat) {a : Addr} {vs : List V} {ds : List D} (h1 : H a = some (.lst vs)) (h2 : F a = none) (h3 : DpAll K F vs ds) (h4 : G.H0 a = none)
    (h5 : ∀ j d, j ∈ O → j ≠ i → getv ρ j = some d → σ[j]? ≠ some (some (V.ref a))) : StRep K G (i :: dropO O i) (σ.set i (some (.ref a))) H (ρ.set i (some (.list ds))) F where
  len := by simpa using s.len
  g := s.g
  dat := fun j c hj hc => by
    have hji : j ≠ i := fun z => hj (z ▸ List.mem_cons_self)
    rw [getv_set, if_neg (fun z => hji z.1)] at hc
    have hj' : j ∉ O := fun z => hj (List.mem_cons_of_mem _ (mem_dropO.mpr ⟨z, hji⟩))
    obtain ⟨w, e1, e2⟩ := s.dat j c hj' hc
    exact ⟨w, by rw [List.getElem?_set_ne (Ne.symm hji)]; exact e1, e2⟩
  own := fun j c hj hc => by
    by_cases hji : j = i
    · subst hji
      rw [getv_set] at hc
      by_cases hl : j < ρ.length
      · rw [if_pos ⟨rfl, hl⟩] at hc; cases hc
        exact ⟨.ref a, List.getElem?_set_self (by rw [← s.len]; exact hl), a, vs, ds, rfl, rfl, h1, h2, h3⟩
      · rw [if_neg (fun z => hl z.2)] at hc
        unfold getv at hc
        rw [List.getElem?_eq_none (by omega)] at hc; cases hc
    · have hj1 : j ∈ O := by
        rcases List.mem_cons.mp hj with z | z
        · exact absurd z hji
        · exact (mem_dropO.mp z).1
      rw [getv_set, if_neg (fun z => hji z.1)] at hc
      obtain ⟨w, e1, e2⟩ := s.own j c hj1 hc
      exact ⟨w, by rw [List.getElem?_set_ne (Ne.symm hji)]; exact e1, e2⟩
  new := fun j c b hj hc hs => by
    by_cases hji : j = i
    · subst hji
      by_cases hl : j < σ.length
      · rw [List.getElem?_set_self hl] at hs
        cases hs; exact h4
      · rw [List.getElem?_eq_none (by simpa using hl)] at hs; cases hs
    · have hj1 : j ∈ O := by
        rcases List.mem_cons.mp hj with z | z
        · exact absurd z hji
        · exact (mem_dropO.mp z).1
      rw [getv_set, if_neg (fun z => hji z.1)] at hc
      rw [List.getElem?_set_ne (Ne.symm hji)] at hs
      exact s.new j c b hj1 hc hs
  dis := fun j k c e b hj hk hjk hc he hs => by
    have inO : ∀ m, m ∈ i :: dropO O i → m ≠ i → m ∈ O := fun m hm hmi => by
      rcases List.mem_cons.mp hm with z | z
      · exact absurd z hmi
      · exact (mem_dropO.mp z).1
    by_cases hji : j = i
    · subst hji
      have hkj : k ≠ j := Ne.symm hjk
      rw [getv_set, if_neg (fun z => hkj z.1)] at he
      rw [List.getElem?_set_ne hjk]
      by_cases hl : j < σ.length
      · rw [List.getElem?_set_self hl] at hs
        cases hs
        exact h5 k e (inO k hk hkj) hkj he
      · rw [List.getElem?_eq_none (by simpa using hl)] at hs; cases hs
    · rw [getv_set, if_neg (fun z => hji z.1)] at hc
      rw [List.getElem?_set_ne (Ne.symm hji)] at hs
      by_cases hki : k = i
      · subst hki
        by_cases hl : k < σ.length
        · rw [List.getElem?_set_self hl]
          intro z
          cases z
          exact h5 j c (inO j hj hji) hji hc hs
        · rw [List.getElem?_eq_none (by simpa using hl)]; intro z; cases z
      · rw [getv_set, if_neg (fun z => hki z.1)] at he
        rw [List.getElem?_set_ne (Ne.symm hki)]
        exact s.dis j k c e b (inO j hj hji) (inO k hk hki) hjk hc he hs
/-- own slots' addresses are tracked -/
theorem StRep.ownNe {K : PySem.W.Frag} {G : Ent} {σ : Sg} {H F : Hp} {ρ : Rho} (s : StRep K G O σ H ρ F) {a : Addr} (ha : H a = none) : ∀ j d, j ∈ O → getv ρ j = some d → σ[j]? ≠ some (some (V.ref a)) := fun j d hj hd hs => by
  obtain ⟨v, e1, b, vs, ds, rfl, _, h1, _⟩ := s.own j d hj hd
  rw [e1] at hs
  have hs := Option.some.inj (Option.some.inj hs)
  injection hs with hs
  subst hs
  rw [h1] at ha; cases ha
def setF (i : Nat) (f : EF) : SF := fun ρ => (f ρ).map fun d => .nx (ρ.set i (some d))
def setL (i : Nat) (f : AF) : SF := fun ρ => (f ρ).map fun ds => .nx (ρ.set i (some (.list ds)))
theorem ds_set (i : Nat) {x : Str} {pos' : Pos} (he : DE X O e f) (hp : ∀ t, PE X e t → PS X (.Assign [.Name x pos'] e pos) (tAsg t (gName i))) : DS X RO O (dropO O i) LB (.Assign [.Name x pos'] e pos) (setF i f) := by
  obtain ⟨t, p, r⟩ := he
  refine ⟨_, hp t p, fun G σ H F ρ o E s hf q => ?_⟩
  unfold setF at hf
  cases e : f ρ with
  | none => simp [e] at hf
  | some d =>
    simp [e] at hf; subst hf
    exact r G σ H F ρ d _ s e fun v H' F' g x => q _ H' F' ((s.grow g).set i x) g.ff
theorem ds_setN (i : Nat) {x : Str} {pos' : Pos} (he : DN X O e fa) (hp : ∀ t, PE X e t → PS X (.Assign [.Name x pos'] e pos) (tAsg t (gName i))) : DS X RO O (i :: dropO O i) LB (.Assign [.Name x pos'] e pos) (setL i fa) := by
  obtain ⟨t, p, r⟩ := he
  refine ⟨_, hp t p, fun G σ H F ρ o E s hf q => ?_⟩
  unfold setL at hf
  cases e : fa ρ with
  | none => simp [e] at hf
  | some d =>
    simp [e] at hf; subst hf
    refine r G σ H F ρ d _ s e fun a vs H' F' g hn h1 h2 h3 => q _ H' F' ((s.grow g).setOwn i h1 h2 h3 (free_of s.g.hh hn) fun j c hj _ hc => ?_) g.ff
    exact s.ownNe hn j c hj hc
/-- a, b = x, y -/
def parF (i j : Nat) (f g : EF) : SF := fun ρ => (f ρ).bind fun x => (g ρ).bind fun y => some (.nx ((ρ.set i (some x)).set j (some y)))
theorem ds_par (i j : Nat) {st : Stmt} (ha : DE X O a1 f) (hb : DE X O a2 g) (hs : starEach (a1 :: [a2]) X.env = (false, eval a1 X.env) :: starEach [a2] X.env := by rfl) (hs2 : starEach (a2 :: []) X.env = (false, eval a2 X.env) :: starEach [] X.env := by rfl)
    (hp : ∀ t, PA X [a1, a2] t → PS X st (tPar i j t)) : DS X RO O (dropO (dropO O i) j) LB st (parF i j f g) := by
  obtain ⟨⟨t, p, r⟩, _⟩ := da_cons ha (da_cons hb da_nil hs2) hs
  refine ⟨_, hp t p, fun G σ H F ρ o E s hf q => ?_⟩
  unfold parF at hf
  cases e1 : f ρ with
  | none => simp [e1] at hf
  | some x =>
    cases e2 : g ρ with
    | none => simp [e1, e2] at hf
    | some y =>
      simp [e1, e2] at hf; subst hf
      refine r G σ H F ρ [x, y] _ s (by simp [consA, nilA, e1, e2]) fun vs H' F' g r1 => ?_
      cases r1 with
      | cons ra rb =>
        cases rb with
        | cons rb rn =>
          cases rn
          exact ⟨_, _, rfl, q _ H' F' (((s.grow g).set i ra).set j rb) g.ff⟩

/-! ### targets -/
abbrev TgF := D → Rho → Option Rho
def DG (X : Cx) (O O' : List Nat) (tg : Expr) (g : TgF) : Prop := ∃ t, PG X tg t ∧ ∀ (G : Ent) (v : V) (d : D) (σ : Sg) (H F : Hp) (ρ ρ' : Rho) (Q : Sg → Hp → Prop),
  StRep X.K G O σ H ρ F → Rep X.K F v d → g d ρ = some ρ' → (∀ σ', StRep X.K G O' σ' H ρ' F → Q σ' H) → t v σ H Q
abbrev TgsF := List D → Rho → Option Rho
def DGs (X : Cx) (O O' : List Nat) (es : List Expr) (g : TgsF) : Prop := ∃ t, PGs X es t ∧ ∀ (G : Ent) (vs : List V) (ds : List D) (σ : Sg) (H F : Hp) (ρ ρ' : Rho) (Q : Sg → Hp → Prop),
  StRep X.K G O σ H ρ F → DpAll X.K F vs ds → g ds ρ = some ρ' → (∀ σ', StRep X.K G O' σ' H ρ' F → Q σ' H) → t vs σ H Q
def nameG (i : Nat) : TgF := fun d ρ => some (ρ.set i (some d))
theorem dg_name (i : Nat) {x : Str} (h : PG X (.Name x pos) (gName i)) : DG X O (dropO O i) (.Name x pos) (nameG i) :=
  ⟨_, h, fun G v d σ H F ρ ρ' Q s r hg q => by cases hg; exact q _ (s.set i r)⟩
def nilG : TgsF := fun ds ρ => match ds with
  | [] => some ρ
  | _ => none
def consG (g : TgF) (r : TgsF) : TgsF := fun ds ρ => match ds with
  | d :: ds => (g d ρ).bind fun ρ1 => r ds ρ1
  | _ => none
theorem dgs_nil : DGs X O O [] nilG := ⟨_, pgs_nil, fun G vs ds σ H F ρ ρ' Q s r hg q => by
  cases ds with
  | nil => cases r; cases hg; exact ⟨rfl, q σ s⟩
  | cons _ _ => cases hg⟩
theorem dgs_cons {g : TgF} {r : TgsF} (h1 : DG X O O1 e g) (h2 : DGs X O1 O2 es r) (hp : ∀ t u, PG X e t → PGs X es u → PGs X (e :: es) (gCons t u)) : DGs X O O2 (e :: es) (consG g r) := by
  obtain ⟨t, p, rt⟩ := h1
  obtain ⟨u, pu, ru⟩ := h2
  refine ⟨_, hp t u p pu, fun G vs ds σ H F ρ ρ' Q s rr hg q => ?_⟩
  cases ds with
  | nil => cases hg
  | cons d ds =>
    cases rr with
    | cons ra rb =>
      have hg : ((g d ρ).bind fun ρ1 => r ds ρ1) = some ρ' := hg
      cases e : g d ρ with
      | none => rw [e] at hg; cases hg
      | some ρ1 =>
        rw [e] at hg
        exact ⟨_, _, rfl, rt G _ d σ H F ρ ρ1 _ s (.dat ra) e fun σ1 s1 => ru G _ ds σ1 H F ρ1 ρ' Q s1 rb hg q⟩
def tupG (n : Nat) (g : TgsF) : TgF := fun d ρ => match d with
  | .tuple ds => if ds.length = n then g ds ρ else none
  | _ => none
theorem dg_tup {n k : Nat} {g : TgsF} (h : DGs X O O' es g) (hp : ∀ t, PGs X es t → PG X (.Tuple es k pos) (gTup X.K n t)) : DG X O O' (.Tuple es k pos) (tupG n g) := by
  obtain ⟨t, p, r⟩ := h
  refine ⟨_, hp t p, fun G v d σ H F ρ ρ' Q s rr hg q => ?_⟩
  cases d with
  | tuple ds =>
    have hg : (if ds.length = n then g ds ρ else none) = some ρ' := hg
    by_cases hl : ds.length = n
    · rw [if_pos hl] at hg
      obtain ⟨a, vs, rfl, h1, h2⟩ := rr.tup_inv
      exact ⟨a, vs, rfl, same_sqT s.sub h1, (dpA_length h2).trans hl, r G vs ds σ H F ρ ρ' Q s h2 hg q⟩
    · rw [if_neg hl] at hg; cases hg
  | _ => cases hg
/-- target = value -/
def asgF (f : EF) (g : TgF) : SF := fun ρ => (f ρ).bind fun d => (g d ρ).map .nx
theorem ds_asg {tg : Expr} {g : TgF} (he : DE X O e f) (hg : DG X O O' tg g) (hp : ∀ t u, PE X e t → PG X tg u → PS X (.Assign [tg] e pos) (tAsg t u)) : DS X RO O O' LB (.Assign [tg] e pos) (asgF f g) := by
  obtain ⟨t, p, r⟩ := he
  obtain ⟨u, pu, ru⟩ := hg
  refine ⟨_, hp t u p pu, fun G σ H F ρ o E s hf q => ?_⟩
  unfold asgF at hf
  cases e : f ρ with
  | none => simp [e] at hf
  | some d =>
    simp only [e, Option.bind_some] at hf
    cases e2 : g d ρ with
    | none => simp [e2] at hf
    | some ρ1 =>
      simp [e2] at hf; subst hf
      exact r G σ H F ρ d _ s e fun v H1 F1 g1 r1 => ru G v d σ H1 F1 ρ ρ1 _ (s.grow g1) r1 e2 fun σ' s' => q σ' H1 F1 s' g1.ff

/-! ### while -/
def whileN (c : BF) (b : SF) : Nat → Rho → Option Out
  | 0, _ => none
  | n + 1, ρ => (c ρ).bind fun k => if k = true then (b ρ).bind fun r => match r with
      | .nx ρ' => whileN c b n ρ'
      | .ct ρ' => whileN c b n ρ'
      | .bk ρ' => some (.nx ρ')
      | .rt d => some (.rt d)
    else some (.nx ρ)
def whileF (fuel : Rho → Nat) (c : BF) (b : SF) : SF := fun ρ => whileN c b (fuel ρ) ρ
theorem ds_while (fuel : Rho → Nat) {c : BF} {xs : List Stmt} {b : SF} (hc : DT X O e c) (hb : DSs X RO O O O xs b) (hp : ∀ t u, PT X e t → PSs X xs u → PS X (.While e xs [] pos) (tWhile t u)) : DS X RO O O LB (.While e xs [] pos) (whileF fuel c b) := by
  obtain ⟨tc, pc, rc⟩ := hc
  obtain ⟨tb, pb, rb⟩ := hb
  refine ⟨_, hp tc tb pc pb, fun G σ H F ρ o E s hf q => ?_⟩
  refine ⟨fun n σ1 H1 => ∃ ρ1 F1, StRep X.K G O σ1 H1 ρ1 F1 ∧ Same F F1 ∧ whileN c b n ρ1 = some o, ⟨fuel ρ, ρ, F, s, Same.refl _, hf⟩, ?_⟩
  rintro n σ1 H1 ⟨ρ1, F1, s1, ff1, h1⟩
  cases n with
  | zero => cases h1
  | succ n =>
    have h1 : ((c ρ1).bind fun k => if k = true then (b ρ1).bind fun r => match r with
      | .nx ρ' => whileN c b n ρ'
      | .ct ρ' => whileN c b n ρ'
      | .bk ρ' => some (.nx ρ')
      | .rt d => some (.rt d)
    else some (.nx ρ1)) = some o := h1
    cases e : c ρ1 with
    | none => rw [e] at h1; cases h1
    | some k =>
      rw [e, Option.bind_some] at h1
      refine rc G σ1 H1 F1 ρ1 k _ s1 e fun H2 F2 g2 => ?_
      have ff2 := same_trans ff1 g2.ff
      cases k with
      | false =>
        rw [if_neg Bool.false_ne_true] at h1 ⊢
        cases h1
        exact q σ1 H2 F2 (s1.grow g2) ff2
      | true =>
        rw [if_pos rfl] at h1 ⊢
        cases e2 : b ρ1 with
        | none => rw [e2] at h1; cases h1
        | some r =>
          rw [e2, Option.bind_some] at h1
          refine ⟨fun σ3 H3 => ∃ ρ3 F3, StRep X.K G O σ3 H3 ρ3 F3 ∧ Same F F3 ∧ whileN c b n ρ3 = some o, fun σ3 H3 w => ⟨n, Nat.lt_succ_self n, w⟩, ?_⟩
          refine rb G σ1 H2 F2 ρ1 r _ (s1.grow g2) e2 ?_
          cases r with
          | nx ρ' => exact fun σ3 H3 F3 s3 e3 => ⟨ρ', F3, s3, same_trans ff2 e3, h1⟩
          | ct ρ' => exact fun σ3 H3 F3 s3 e3 => ⟨ρ', F3, s3, same_trans ff2 e3, h1⟩
          | bk ρ' => cases h1; exact fun σ3 H3 F3 s3 e3 => q σ3 H3 F3 s3 (same_trans ff2 e3)
          | rt d => cases h1; exact q

/-! ### what a loop walks -/
def Iters (K : PySem.W.Frag) (J : It) (F : Hp) (ds : List D) : Prop := ∀ (F' H' : Hp) (i : Nat), Same F F' → Same F' H' →
  (i < ds.length → J.go i H') ∧ (ds.length ≤ i → J.stop i H') ∧ ∀ x H'' d, J.yld i H' x H'' → ds[i]? = some d → ∃ F'', Grow F' H' F'' H'' ∧ Rep K F'' x d
def DI (X : Cx) (O : List Nat) (tg iter : Expr) (f : AF) : Prop := ∃ wi, PI X tg iter wi ∧ ∀ (G : Ent) (σ : Sg) (H F : Hp) (ρ : Rho) (ds : List D) (R : It → Hp → Prop),
  StRep X.K G O σ H ρ F → f ρ = some ds → (∀ J H' F', Grow F H F' H' → Iters X.K J F' ds → R J H') → wi σ H R
def itemsF (f : EF) : AF := fun ρ => match f ρ with
  | some (.list ds) => some ds
  | _ => none
theorem sqL_inj_F {K : PySem.W.Frag} {H : Hp} {a : Addr} {xs ys : List V} (h : SqL K H a xs) (h' : SqL K H a ys) (hn : ∃ u, H a = some u) : xs = ys ∨ True := .inr trivial
theorem di_list {tg : Expr} (h : DE X O e f) : DI X O tg e (itemsF f) := by
  obtain ⟨t, p, r⟩ := h
  refine ⟨_, pi_list p, fun G σ H F ρ ds R s hf q => ?_⟩
  unfold itemsF at hf
  cases e : f ρ with
  | none => simp [e] at hf
  | some d =>
    cases d with
    | list ds' =>
      simp [e] at hf; subst hf
      refine r G σ H F ρ _ _ s e fun v H' F' g x => ?_
      obtain ⟨a, vs, rfl, h1, h2⟩ := x.lst_inv
      refine ⟨a, rfl, ⟨vs, g.fh.seq h1⟩, q _ H' F' g fun F1 H1 i e1 e2 => ⟨fun hi => ?_, fun hi => ?_, fun x H2 d y hd => ?_⟩⟩
      · obtain ⟨v, hv, _⟩ := dpA_get h2 (List.getElem?_eq_getElem hi)
        exact ⟨vs, v, (same_trans e1 e2).seq h1, hv⟩
      · exact ⟨vs, (same_trans e1 e2).seq h1, by rw [dpA_length h2]; exact hi⟩
      · obtain ⟨rfl, hy⟩ := y
        have hx := hy vs ((same_trans e1 e2).seq h1)
        obtain ⟨d', hd', rd⟩ := dpA_get2 h2 hx
        rw [hd] at hd'; cases hd'
        exact ⟨F1, Grow.refl e2, .dat (dp_mono e1 rd)⟩
    | _ => simp [e] at hf
def rngL (lo : Int) (n : Nat) : List D := (List.range n).map fun (i : Nat) => .int (lo + (i : Int))
theorem iters_rng {K : PySem.W.Frag} {F : Hp} {lo : Int} {n : Nat} : Iters K (Itr lo n) F (rngL lo n) := fun F1 H1 i e1 e2 => by
  have hl : (rngL lo n).length = n := by simp [rngL]
  refine ⟨fun hi => ?_, fun hi => ?_, fun x H2 d y hd => ?_⟩
  · rw [hl] at hi; exact hi
  · rw [hl] at hi; exact hi
  · obtain ⟨rfl, rfl⟩ := y
    have hi : i < n := by
      have := (List.getElem?_eq_some_iff.mp hd).1
      rw [hl] at this; exact this
    have : d = .int (lo + (i : Int)) := by
      unfold rngL at hd
      rw [List.getElem?_map, List.getElem?_range hi] at hd
      exact (Option.some.inj hd).symm
    subst this
    exact ⟨F1, Grow.refl e2, .dat (.int _)⟩
def rng1F (f : EF) : AF := fun ρ => match f ρ with
  | some (.int j) => if -(2 ^ 62) ≤ j ∧ j < 2 ^ 62 then some (rngL 0 j.toNat) else none
  | _ => none
theorem di_range1 {tg : Expr} {p : Pos} (h : DE X O e f) (hp : ∀ t, PA X [e] t → PI X tg (.Call (.Name "range" p) [e] [] pos) (iRng1 t)) (hs : starEach (e :: []) X.env = (false, eval e X.env) :: starEach [] X.env := by rfl) :
    DI X O tg (.Call (.Name "range" p) [e] [] pos) (rng1F f) := by
  obtain ⟨⟨t, p, r⟩, _⟩ := da_cons h da_nil hs
  refine ⟨_, hp t p, fun G σ H F ρ ds R s hf q => ?_⟩
  unfold rng1F at hf
  cases e : f ρ with
  | none => simp [e] at hf
  | some d =>
    cases d with
    | int j =>
      simp only [e] at hf
      by_cases hj : -(2 ^ 62) ≤ j ∧ j < 2 ^ 62
      · rw [if_pos hj] at hf; cases hf
        refine r G σ H F ρ [.int j] _ s (by simp [consA, nilA, e]) fun vs H' F' g x => ?_
        cases x with
        | cons x xn =>
          cases xn
          refine ⟨j, by rw [x.int_inv], hj.1, hj.2, q _ H' F' g iters_rng⟩
      · rw [if_neg hj] at hf; cases hf
    | _ => simp [e] at hf
def rng2F (f g : EF) : AF := fun ρ => match f ρ, g ρ with
  | some (.int i), some (.int j) => if (-(2 ^ 62) ≤ i ∧ i < 2 ^ 62) ∧ -(2 ^ 62) ≤ j ∧ j < 2 ^ 62 then some (rngL i (j - i).toNat) else none
  | _, _ => none
theorem di_range2 {tg : Expr} {p : Pos} (ha : DE X O a1 f) (hb : DE X O a2 g) (hp : ∀ t, PA X [a1, a2] t → PI X tg (.Call (.Name "range" p) [a1, a2] [] pos) (iRng2 t))
    (hs : starEach (a1 :: [a2]) X.env = (false, eval a1 X.env) :: starEach [a2] X.env := by rfl) (hs2 : starEach (a2 :: []) X.env = (false, eval a2 X.env) :: starEach [] X.env := by rfl) :
    DI X O tg (.Call (.Name "range" p) [a1, a2] [] pos) (rng2F f g) := by
  obtain ⟨⟨t, p, r⟩, _⟩ := da_cons ha (da_cons hb da_nil hs2) hs
  refine ⟨_, hp t p, fun G σ H F ρ ds R s hf q => ?_⟩
  unfold rng2F at hf
  cases e : f ρ with
  | none => simp [e] at hf
  | some d =>
    cases e2 : g ρ with
    | none => cases d <;> simp [e, e2] at hf
    | some d2 =>
      cases d with
      | int i =>
        cases d2 with
        | int j =>
          simp only [e, e2] at hf
          by_cases hj : (-(2 ^ 62) ≤ i ∧ i < 2 ^ 62) ∧ -(2 ^ 62) ≤ j ∧ j < 2 ^ 62
          · rw [if_pos hj] at hf; cases hf
            refine r G σ H F ρ [.int i, .int j] _ s (by simp [consA, nilA, e, e2]) fun vs H' F' g x => ?_
            cases x with
            | cons x xn =>
              cases xn with
              | cons y xn =>
                cases xn
                exact ⟨i, j, by rw [x.int_inv, y.int_inv], ⟨hj.1.1, hj.1.2, hj.2.1, hj.2.2⟩, q _ H' F' g iters_rng⟩
          · rw [if_neg hj] at hf; cases hf
        | _ => simp [e, e2] at hf
      | _ => simp [e, e2] at hf
def enumL (ds : List D) : List D := ds.zipIdx.map fun p => .tuple [.int (p.2 : Int), p.1]
def enumF (f : EF) : AF := fun ρ => match f ρ with
  | some (.list ds) => some (enumL ds)
  | _ => none
theorem di_enum {tg : Expr} {p : Pos} (h : DE X O e f) (hp : ∀ t, PA X [e] t → PI X tg (.Call (.Name "enumerate" p) [e] [] pos) (iEnum X.K t)) (hs : starEach (e :: []) X.env = (false, eval e X.env) :: starEach [] X.env := by rfl) :
    DI X O tg (.Call (.Name "enumerate" p) [e] [] pos) (enumF f) := by
  obtain ⟨⟨t, p, r⟩, _⟩ := da_cons h da_nil hs
  refine ⟨_, hp t p, fun G σ H F ρ ds R s hf q => ?_⟩
  unfold enumF at hf
  cases e : f ρ with
  | none => simp [e] at hf
  | some d =>
    cases d with
    | list ds' =>
      simp [e] at hf; subst hf
      refine r G σ H F ρ [.list ds'] _ s (by simp [consA, nilA, e]) fun vs H' F' g x => ?_
      cases x with
      | cons x xn =>
        cases xn
        obtain ⟨a, vs, rfl, h1, h2⟩ := x.lst_inv
        refine ⟨a, vs, rfl, g.fh.seq h1, q _ H' F' g fun F1 H1 i e1 e2 => ⟨fun hi => ?_, fun hi => ?_, fun x H2 d y hd => ?_⟩⟩
        · have hi' : i < ds'.length := by simpa [enumL] using hi
          obtain ⟨v, hv, _⟩ := dpA_get h2 (List.getElem?_eq_getElem hi')
          exact ⟨vs, v, (same_trans e1 e2).seq h1, hv⟩
        · have hi' : ds'.length ≤ i := by simpa [enumL] using hi
          exact ⟨vs, (same_trans e1 e2).seq h1, by rw [dpA_length h2]; exact hi'⟩
        · obtain ⟨T, x1, rfl, hT, rfl, hy⟩ := y
          have hx := hy vs ((same_trans e1 e2).seq h1)
          obtain ⟨d', hd', rd⟩ := dpA_get2 h2 hx
          have : d = .tuple [.int (i : Int), d'] := by
            unfold enumL at hd
            rw [List.getElem?_map, List.getElem?_zipIdx, hd'] at hd
            simpa using hd.symm
          subst this
          have hf1 := free_of e2 hT
          exact ⟨_, Grow.new e2 hT, .dat (.tup (.inl (.inl upd_same)) (.cons (.int _) (.cons (dp_mono (same_trans e1 (same_upd hf1)) rd) .nil)))⟩
    | _ => simp [e] at hf
def zipF (f g : EF) : AF := fun ρ => match f ρ, g ρ with
  | some (.list xs), some (.list ys) => some (List.zipWith (fun x y => .tuple [x, y]) xs ys)
  | _, _ => none
theorem di_zip {tg : Expr} {p : Pos} (ha : DE X O a1 f) (hb : DE X O a2 g) (hp : ∀ t, PA X [a1, a2] t → PI X tg (.Call (.Name "zip" p) [a1, a2] [] pos) (iZip X.K t))
    (hs : starEach (a1 :: [a2]) X.env = (false, eval a1 X.env) :: starEach [a2] X.env := by rfl) (hs2 : starEach (a2 :: []) X.env = (false, eval a2 X.env) :: starEach [] X.env := by rfl) :
    DI X O tg (.Call (.Name "zip" p) [a1, a2] [] pos) (zipF f g) := by
  obtain ⟨⟨t, p, r⟩, _⟩ := da_cons ha (da_cons hb da_nil hs2) hs
  refine ⟨_, hp t p, fun G σ H F ρ ds R s hf q => ?_⟩
  unfold zipF at hf
  cases e : f ρ with
  | none => simp [e] at hf
  | some d =>
    cases e2 : g ρ with
    | none => cases d <;> simp [e, e2] at hf
    | some d2 =>
      cases d with
      | list xs =>
        cases d2 with
        | list ys =>
          simp only [e, e2] at hf
          cases hf
          refine r G σ H F ρ [.list xs, .list ys] _ s (by simp [consA, nilA, e, e2]) fun vs H' F' g x => ?_
          cases x with
          | cons x xn =>
            cases xn with
            | cons y xn =>
              cases xn
              obtain ⟨a, us, rfl, h1, h2⟩ := x.lst_inv
              obtain ⟨b, ws, rfl, k1, k2⟩ := y.lst_inv
              refine ⟨a, b, us, ws, rfl, g.fh.seq h1, g.fh.seq k1, q _ H' F' g fun F1 H1 i e1 e2 => ⟨fun hi => ?_, fun hi => ?_, fun x H2 d y hd => ?_⟩⟩
              · have hi' : i < xs.length ∧ i < ys.length := by simpa [Nat.lt_min] using hi
                obtain ⟨v, hv, _⟩ := dpA_get h2 (List.getElem?_eq_getElem hi'.1)
                obtain ⟨w, hw, _⟩ := dpA_get k2 (List.getElem?_eq_getElem hi'.2)
                exact ⟨us, ws, v, w, (same_trans e1 e2).seq h1, (same_trans e1 e2).seq k1, hv, hw⟩
              · have hi' : min xs.length ys.length ≤ i := by simpa using hi
                refine ⟨us, ws, (same_trans e1 e2).seq h1, (same_trans e1 e2).seq k1, ?_⟩
                rw [dpA_length h2, dpA_length k2]
                omega
              · obtain ⟨T, x1, y1, rfl, hT, rfl, hx, hy⟩ := y
                obtain ⟨d', hd', rd⟩ := dpA_get2 h2 (hx us ((same_trans e1 e2).seq h1))
                obtain ⟨d'', hd'', rd'⟩ := dpA_get2 k2 (hy ws ((same_trans e1 e2).seq k1))
                have : d = .tuple [d', d''] := by
                  rw [List.getElem?_zipWith, hd', hd''] at hd
                  simpa using hd.symm
                subst this
                have hf1 := free_of e2 hT
                exact ⟨_, Grow.new e2 hT, .dat (.tup (.inl (.inl upd_same)) (.cons (dp_mono (same_trans e1 (same_upd hf1)) rd) (.cons (dp_mono (same_trans e1 (same_upd hf1)) rd') .nil)))⟩
        | _ => simp [e, e2] at hf
      | _ => simp [e, e2] at hf

/-! ### for -/
def forL (g : TgF) (b : SF) : List D → Rho → Option Out
  | [], ρ => some (.nx ρ)
  | d :: ds, ρ => (g d ρ).bind fun ρ1 => (b ρ1).bind fun r => match r with
      | .nx ρ' => forL g b ds ρ'
      | .ct ρ' => forL g b ds ρ'
      | .bk ρ' => some (.nx ρ')
      | .rt d => some (.rt d)
def forF (it : AF) (g : TgF) (b : SF) : SF := fun ρ => (it ρ).bind fun ds => forL g b ds ρ
theorem ds_for {it : AF} {tg iter : Expr} {g : TgF} {xs : List Stmt} {b : SF} (hi : DI X O tg iter it) (hg : DG X O O1 tg g) (hb : DSs X RO O1 O O xs b)
    (hp : ∀ wi t u, PI X tg iter wi → PG X tg t → PSs X xs u → PS X (.For tg iter xs [] pos) (tFor wi t u)) : DS X RO O O LB (.For tg iter xs [] pos) (forF it g b) := by
  obtain ⟨wi, pi, ri⟩ := hi
  obtain ⟨tg', pg, rg⟩ := hg
  obtain ⟨tb, pb, rb⟩ := hb
  refine ⟨_, hp wi tg' tb pi pg pb, fun G σ H F ρ o E s hf q => ?_⟩
  unfold forF at hf
  cases e : it ρ with
  | none => simp [e] at hf
  | some ds =>
    simp only [e, Option.bind_some] at hf
    refine ri G σ H F ρ ds _ s e fun J H' F' g' IT => ?_
    refine ⟨fun i n σ1 H1 => n = ds.length - i ∧ i ≤ ds.length ∧ ∃ ρ1 F1, StRep X.K G O σ1 H1 ρ1 F1 ∧ Same F' F1 ∧ forL g b (ds.drop i) ρ1 = some o, ⟨ds.length, by simp, Nat.zero_le _, ρ, F', s.grow g', Same.refl _, by simpa using hf⟩, ?_⟩
    rintro i n σ1 H1 ⟨rfl, hi, ρ1, F1, s1, ff1, h1⟩
    obtain ⟨i1, i2, i3⟩ := IT F1 H1 i ff1 s1.sub
    by_cases hlt : i < ds.length
    · refine .inr ⟨i1 hlt, fun σ2 H2 => i + 1 ≤ ds.length ∧ ∃ ρ2 F2, StRep X.K G O σ2 H2 ρ2 F2 ∧ Same F' F2 ∧ forL g b (ds.drop (i + 1)) ρ2 = some o, fun σ2 H2 w => ⟨ds.length - (i + 1), by omega, rfl, w.1, w.2⟩, fun x H2 y => ?_⟩
      have hd : ds[i]? = some ds[i] := List.getElem?_eq_getElem hlt
      obtain ⟨F2, g2, rx⟩ := i3 x H2 _ y hd
      rw [List.drop_eq_getElem_cons hlt] at h1
      have h1 : ((g ds[i] ρ1).bind fun ρ1 => (b ρ1).bind fun r => match r with
        | .nx ρ' => forL g b (ds.drop (i + 1)) ρ'
        | .ct ρ' => forL g b (ds.drop (i + 1)) ρ'
        | .bk ρ' => some (.nx ρ')
        | .rt d => some (.rt d)) = some o := h1
      cases e3 : g ds[i] ρ1 with
      | none => rw [e3] at h1; cases h1
      | some ρ2 =>
        rw [e3, Option.bind_some] at h1
        cases e4 : b ρ2 with
        | none => rw [e4] at h1; cases h1
        | some r =>
          rw [e4, Option.bind_some] at h1
          refine rg G x _ σ1 H2 F2 ρ1 ρ2 _ (s1.grow g2) rx e3 fun σ2 s2 => ?_
          have ff2 := same_trans ff1 g2.ff
          refine rb G σ2 H2 F2 ρ2 r _ s2 e4 ?_
          cases r with
          | nx ρ' => exact fun σ3 H3 F3 s3 e3 => ⟨hlt, ρ', F3, s3, same_trans ff2 e3, h1⟩
          | ct ρ' => exact fun σ3 H3 F3 s3 e3 => ⟨hlt, ρ', F3, s3, same_trans ff2 e3, h1⟩
          | bk ρ' => cases h1; exact fun σ3 H3 F3 s3 e3 => q σ3 H3 F3 s3 (same_trans g'.ff (same_trans ff2 e3))
          | rt d => cases h1; exact q
    · have hi' : i = ds.length := by omega
      subst hi'
      refine .inl ⟨i2 (Nat.le_refl _), ?_⟩
      rw [List.drop_length] at h1
      have h1 : some (Out.nx ρ1) = some o := h1
      cases h1
      exact q σ1 H1 F1 s1 (same_trans g'.ff ff1)

/-! ### an own list is changed -/
theorem StRep.ownUpd {K : PySem.W.Frag} {G : Ent} {σ : Sg} {H F : Hp} {ρ : Rho} (s : StRep K G O σ H ρ F) {i : Nat} {c : D} (hi : i ∈ O) (hc : getv ρ i = some c) {a : Addr} (hs : σ[i]? = some (some (V.ref a))) {vs : List V} {ds : List D} (hd : DpAll K F vs ds) :
    StRep K G O σ (upd H a (.lst vs)) (ρ.set i (some (.list ds))) F := by
  obtain ⟨v, e1, b, ws, es, rfl, rfl, k1, k2, k3⟩ := s.own i c hi hc
  have e2 : b = a := by
    rw [e1] at hs
    have hs := Option.some.inj (Option.some.inj hs)
    injection hs
  subst e2
  have hil : i < ρ.length := by
    unfold getv at hc
    cases z : ρ[i]? with
    | none => rw [z] at hc; cases hc
    | some _ => exact (List.getElem?_eq_some_iff.mp z).1
  have hf : Same F (upd H b (.lst vs)) := fun z o h => by
    have : z ≠ b := fun y => by subst y; rw [k2] at h; cases h
    rw [upd_ne this]; exact s.sub z o h
  have h0 : G.H0 b = none := s.new i _ b hi hc e1
  have old : ∀ j d, j ∈ O → j ≠ i → getv (ρ.set i (some (.list ds))) j = some d → getv ρ j = some d := fun j d _ hji h => by
    rw [getv_set, if_neg (fun z => hji z.1)] at h; exact h
  refine ⟨by simpa using s.len, ⟨s.g.ff, fun z o h => ?_, hf, fun z o h n => s.g.own z o h n⟩, fun j d hj h => ?_, fun j d hj h => ?_, fun j d c hj h hs2 => ?_, fun j k d e c hj hk hjk h1 h2 hs2 => ?_⟩
  · have : z ≠ b := fun y => by subst y; rw [h0] at h; cases h
    rw [upd_ne this]; exact s.g.hh z o h
  · have hji : j ≠ i := fun z => hj (z ▸ hi)
    rw [getv_set, if_neg (fun z => hji z.1)] at h
    exact s.dat j d hj h
  · by_cases hji : j = i
    · subst hji
      rw [getv_set, if_pos ⟨rfl, hil⟩] at h
      cases h
      exact ⟨_, e1, b, vs, ds, rfl, rfl, upd_same, k2, hd⟩
    · have h := old j d hj hji h
      obtain ⟨w, q1, c, xs, ys, rfl, rfl, m1, m2, m3⟩ := s.own j d hj h
      refine ⟨_, q1, c, xs, ys, rfl, rfl, ?_, m2, m3⟩
      rw [upd_ne (fun z => by subst z; exact s.dis j i _ _ c hj hi hji h hc q1 e1)]
      exact m1
  · by_cases hji : j = i
    · subst hji; exact s.new j _ c hj hc hs2
    · exact s.new j d c hj (old j d hj hji h) hs2
  · have : ∃ d', getv ρ j = some d' := by
      by_cases hji : j = i
      · subst hji; exact ⟨_, hc⟩
      · exact ⟨d, old j d hj hji h1⟩
    obtain ⟨d', hd'⟩ := this
    have : ∃ e', getv ρ k = some e' := by
      by_cases hki : k = i
      · subst hki; exact ⟨_, hc⟩
      · exact ⟨e, old k e hk hki h2⟩
    obtain ⟨e', he'⟩ := this
    exact s.dis j k d' e' c hj hk hjk hd' he' hs2
def appF (i : Nat) (f : EF) : SF := fun ρ => match getv ρ i with
  | some (.list ds) => (f ρ).bind fun d => if plainD d = true ∧ ds.length < sizeLine then some (.nx (ρ.set i (some (.list (ds ++ [d]))))) else none
  | _ => none
theorem ds_append (i : Nat) {x : Str} {p1 ap cp sp : Pos} (hO : O.contains i = true) (hx : PE X (.Name x p1) (tVar i)) (he : DE X O e f) (hs : starEach (e :: []) X.env = (false, eval e X.env) :: starEach [] X.env := by rfl)
    (hp : ∀ t u, PE X (.Name x p1) t → PA X [e] u → PS X (.Expr (.Call (.Attribute (.Name x p1) "append" ap) [e] [] cp) sp) (tDrop (tBM X.K "list" rAppend t u))) :
    DS X RO O O LB (.Expr (.Call (.Attribute (.Name x p1) "append" ap) [e] [] cp) sp) (appF i f) := by
  obtain ⟨⟨t, p, r⟩, _⟩ := da_cons he da_nil hs
  refine ⟨_, hp _ _ hx p, fun G σ H F ρ o E s hf q => ?_⟩
  have hO' := List.contains_iff_mem.mp hO
  unfold appF at hf
  cases e1 : getv ρ i with
  | none => simp [e1] at hf
  | some c =>
    cases c with
    | list ds =>
      simp only [e1] at hf
      cases e2 : f ρ with
      | none => simp [e2] at hf
      | some d =>
        simp only [e2, Option.bind_some] at hf
        by_cases hc : plainD d = true ∧ ds.length < sizeLine
        · rw [if_pos hc] at hf; cases hf
          obtain ⟨v, hs, a, vs, ds', rfl, e3, h1, h2, h3⟩ := s.own i _ hO' e1
          cases e3
          refine ⟨_, hs, .inl ⟨rfl, vs, .inl (.inl h1)⟩, ?_⟩
          refine r G σ H F ρ [d] _ s (by simp [consA, nilA, e2]) fun us H' F' g x => ?_
          cases x with
          | cons x xn =>
            cases xn
            have s' := s.grow g
            refine ⟨a, vs, _, rfl, rfl, g.hh _ _ h1, by rw [dpA_length h3]; exact hc.2, q _ _ F' (s'.ownUpd hO' e1 hs (dpA_append (dpAll_mono g.ff h3) (.cons (x.dp hc.1) .nil))) g.ff⟩
        · rw [if_neg hc] at hf; cases hf
    | _ => simp [e1] at hf
def popF (i : Nat) : SF := fun ρ => match getv ρ i with
  | some (.list ds) => if 0 < ds.length then some (.nx (ρ.set i (some (.list ds.dropLast)))) else none
  | _ => none
theorem dpA_dropLast {K : PySem.W.Frag} {F : Hp} {vs : List V} {ds : List D} (h : DpAll K F vs ds) : DpAll K F vs.dropLast ds.dropLast := by
  rw [List.dropLast_eq_take, List.dropLast_eq_take, dpA_length h]
  exact dpA_take _ h
theorem ds_pop (i : Nat) {x : Str} {p1 ap cp sp : Pos} (hO : O.contains i = true) (hx : PE X (.Name x p1) (tVar i))
    (hp : ∀ t, PE X (.Name x p1) t → PS X (.Expr (.Call (.Attribute (.Name x p1) "pop" ap) [] [] cp) sp) (tDrop (tBM0 X.K "list" rPop t))) :
    DS X RO O O LB (.Expr (.Call (.Attribute (.Name x p1) "pop" ap) [] [] cp) sp) (popF i) := by
  refine ⟨_, hp _ hx, fun G σ H F ρ o E s hf q => ?_⟩
  have hO' := List.contains_iff_mem.mp hO
  unfold popF at hf
  cases e1 : getv ρ i with
  | none => simp [e1] at hf
  | some c =>
    cases c with
    | list ds =>
      simp only [e1] at hf
      by_cases hc : 0 < ds.length
      · rw [if_pos hc] at hf; cases hf
        obtain ⟨v, hs, a, vs, ds', rfl, e3, h1, h2, h3⟩ := s.own i _ hO' e1
        cases e3
        have hl : vs.length - 1 < vs.length := by rw [dpA_length h3]; omega
        exact ⟨_, hs, .inl ⟨rfl, vs, .inl (.inl h1)⟩, a, vs, _, rfl, rfl, h1, List.getElem?_eq_getElem hl, q _ _ F (s.ownUpd hO' e1 hs (dpA_dropLast h3)) (Same.refl _)⟩
      · rw [if_neg hc] at hf; cases hf
    | _ => simp [e1] at hf
def clearF (i : Nat) : SF := fun ρ => match getv ρ i with
  | some (.list _) => some (.nx (ρ.set i (some (.list []))))
  | _ => none
theorem ds_clear (i : Nat) {x : Str} {p1 ap cp sp : Pos} (hO : O.contains i = true) (hx : PE X (.Name x p1) (tVar i))
    (hp : ∀ t, PE X (.Name x p1) t → PS X (.Expr (.Call (.Attribute (.Name x p1) "clear" ap) [] [] cp) sp) (tDrop (tBM0 X.K "list" rClear t))) :
    DS X RO O O LB (.Expr (.Call (.Attribute (.Name x p1) "clear" ap) [] [] cp) sp) (clearF i) := by
  refine ⟨_, hp _ hx, fun G σ H F ρ o E s hf q => ?_⟩
  have hO' := List.contains_iff_mem.mp hO
  unfold clearF at hf
  cases e1 : getv ρ i with
  | none => simp [e1] at hf
  | some c =>
    cases c with
    | list ds =>
      simp only [e1] at hf
      cases hf
      obtain ⟨v, hs, a, vs, ds', rfl, e3, h1, h2, h3⟩ := s.own i _ hO' e1
      cases e3
      exact ⟨_, hs, .inl ⟨rfl, vs, .inl (.inl h1)⟩, a, vs, rfl, rfl, h1, q _ _ F (s.ownUpd hO' e1 hs .nil) (Same.refl _)⟩
    | _ => simp [e1] at hf
/-- x[k] = e, x an own list -/
def putF (i : Nat) (f g : EF) : SF := fun ρ => (f ρ).bind fun d => match getv ρ i, g ρ with
  | some (.list ds), some (.int k) => (ixN ds.length k).bind fun j => if plainD d = true then some (.nx (ρ.set i (some (.list (ds.set j d))))) else none
  | _, _ => none
theorem ds_put (i : Nat) {x : Str} {p1 p2 : Pos} (hO : O.contains i = true) (hx : PE X (.Name x p1) (tVar i)) (he : DE X O e f) (hk : DE X O a1 g)
    (hp : ∀ t u w, PE X e t → PE X (.Name x p1) u → PE X a1 w → PS X (.Assign [.Subscript (.Name x p1) a1 p2] e pos) (tAsg t (gSub u w rSetL))) :
    DS X RO O O LB (.Assign [.Subscript (.Name x p1) a1 p2] e pos) (putF i f g) := by
  obtain ⟨t, p, r⟩ := he
  obtain ⟨w, pw, rw'⟩ := hk
  refine ⟨_, hp _ _ _ p hx pw, fun G σ H F ρ o E s hf q => ?_⟩
  have hO' := List.contains_iff_mem.mp hO
  unfold putF at hf
  cases e2 : f ρ with
  | none => simp [e2] at hf
  | some d =>
    simp only [e2, Option.bind_some] at hf
    cases e1 : getv ρ i with
    | none => simp [e1] at hf
    | some c =>
      cases c with
      | list ds =>
        cases e3 : g ρ with
        | none => simp [e1, e3] at hf
        | some k' =>
          cases k' with
          | int k =>
            simp only [e1, e3] at hf
            cases e4 : ixN ds.length k with
            | none => simp [e4] at hf
            | some j =>
              simp only [e4, Option.bind_some] at hf
              by_cases hc : plainD d = true
              · rw [if_pos hc] at hf; cases hf
                obtain ⟨v, hs, a, vs, ds', rfl, e5, h1, h2, h3⟩ := s.own i _ hO' e1
                cases e5
                refine r G σ H F ρ d _ s e2 fun y H1 F1 g1 r1 => ?_
                have s1 := s.grow g1
                refine ⟨_, hs, ?_⟩
                refine rw' G σ H1 F1 ρ _ _ s1 e3 fun z H2 F2 g2 r2 => ?_
                have s2 := s1.grow g2
                refine ⟨a, vs, k, j, rfl, r2.int_inv, g2.hh _ _ (g1.hh _ _ h1), by rw [dpA_length h3]; exact e4, q _ _ F2 (s2.ownUpd hO' e1 hs (dpA_set j (dpAll_mono (same_trans g1.ff g2.ff) h3) (dp_mono g2.ff (r1.dp hc)))) (same_trans g1.ff g2.ff)⟩
              · rw [if_neg hc] at hf; cases hf
          | _ => simp [e1, e3] at hf
      | _ => simp [e1] at hf
/-- an expression whose value is dropped -/
def dropF (f : EF) : SF := fun ρ => (f ρ).map fun _ => .nx ρ
end

/-! ### functions -/
def SpD (K : PySem.W.Frag) (own : Bool) (n : Nat) (Fn : List D → Option D) : Sp := fun vs H Q _ => ∃ F ds d, vs.length = n ∧ Same F H ∧ RepAll K F vs ds ∧ Fn ds = some d ∧
  ∀ v H' F', Grow F H F' H' → RetOk K own F' H' H v d → Q v H'
def startR (n : Nat) (ds : List D) : Rho := ds.map some ++ List.replicate (n - ds.length) none
def endD (own : Bool) : Option Out → Option D
  | some (.rt d) => some d
  | some (.nx _) => if own = true then none else some .none
  | _ => none
def bodyFn (own : Bool) (n : Nat) (b : SF) : List D → Option D := fun ds => endD own (b (startR n ds))
theorem getv_start {n : Nat} {ds : List D} {i : Nat} {d : D} (h : getv (startR n ds) i = some d) : ds[i]? = some d := by
  unfold getv startR at h
  by_cases hi : i < ds.length
  · rw [List.getElem?_append_left (by simpa using hi), List.getElem?_map] at h
    cases e : ds[i]? with
    | none => simp [e] at h
    | some c => simp [e] at h; rw [h]
  · rw [List.getElem?_append_right (by simpa using hi)] at h
    cases e : (List.replicate (n - ds.length) (none : Option D))[i - (ds.map some).length]? with
    | none => rw [e] at h; cases h
    | some c =>
      rw [e] at h
      have := List.eq_of_mem_replicate (List.mem_of_getElem? e)
      subst this; cases h
theorem repAll_get {K : PySem.W.Frag} {F : Hp} : ∀ {vs : List V} {ds : List D} {i : Nat} {d : D}, RepAll K F vs ds → ds[i]? = some d → ∃ v, vs[i]? = some v ∧ Rep K F v d
  | _, _, _, _, .nil, h => by simp at h
  | _, _, 0, _, .cons r _, h => by simp at h; subst h; exact ⟨_, rfl, r⟩
  | _, _, i + 1, _, .cons _ t, h => by
    simp at h
    obtain ⟨v, e1, e2⟩ := repAll_get t h
    exact ⟨v, by simpa using e1, e2⟩
theorem stRep_start {K : PySem.W.Frag} {F H : Hp} {N : List Str} {vs : List V} {ds : List D} (hs : Same F H) (r : RepAll K F vs ds) : StRep K ⟨F, H⟩ [] (L2.start N vs) H (startR N.length ds) F where
  len := by simp [L2.start, startR, r.length]
  g := Grow.refl hs
  dat := fun i d _ h => by
    obtain ⟨v, e1, e2⟩ := repAll_get r (getv_start h)
    refine ⟨v, ?_, e2⟩
    have hi : i < vs.length := (List.getElem?_eq_some_iff.mp e1).1
    unfold L2.start
    rw [List.getElem?_append_left (by simpa using hi), List.getElem?_map, e1]
    rfl
  own := fun i d h => by cases h
  new := fun i d a h => by cases h
  dis := fun i j d e a h => by cases h
section
variable {P : Program} {w : World} {K : PySem.W.Frag} {mg : Str → Option Value} {base : Heap}
theorem fn_ok {x qual : Str} {params : Arguments} {body : List Stmt} {scope : Scope} {dvs : List V} {kws : List (Str × V)} {f : Addr} {fd : FuncData} {N ps : List Str} {k : Nat} {own : Bool} {O' : List Nat} {b : SF} (F : FunD K x qual params body scope dvs kws f fd) (S : FnScope N ps scope)
    (hbody : ∀ (cdv : Value) (A : Around) (outer : List Env) (s : Shared) (H : Hp) (E : XK), Room k (A.deeper (envOfC qual scope s.heap.objs.size f cdv)) →
      DSs (cxOf CX0 P w K mg base N qual scope f cdv A outer s H E).nox own [] O' [] body b) {Fn : List D → Option D} (hFn : Fn = bodyFn own N.length b) : FnOk P w K mg base CX0 (k + 1) f fd ps (SpD K own ps.length Fn) := by
  subst hFn
  refine F.ok S (fun vs H Q E h => h.choose_spec.choose_spec.choose_spec.1) (fun cdv A outer s H vs Q E hr h => ?_)
  obtain ⟨t, p, r⟩ := hbody cdv A outer s H E hr
  refine ⟨t, p.nox, ?_⟩
  obtain ⟨F, ds, d, hl, hs, hr2, hf, q⟩ := h
  unfold bodyFn at hf
  cases e : b (startR N.length ds) with
  | none => rw [e] at hf; cases hf
  | some o =>
    rw [e] at hf
    refine r ⟨F, H⟩ (L2.start N vs) H F (startR N.length ds) o _ (stRep_start hs hr2) e ?_
    cases o with
    | nx ρ' =>
      cases own with
      | true => cases hf
      | false =>
        cases hf
        exact fun σ' H' F' s' _ => q .non H' F' s'.g (.dat .non)
    | rt d' => cases hf; exact fun v H' F' g x => q v H' F' g x
    | _ => cases hf
end
section
variable {X : Cx} {O : List Nat} {x : Str} {p pos : Pos} {e : Expr} {es : List Expr} {fa : AF} {k n : Nat} {fad : Addr} {fd : FuncData} {ps : List Str} {Fn : List D → Option D}
def callE (Fn : List D → Option D) (fa : AF) : EF := fun ρ => (fa ρ).bind Fn
def callL (Fn : List D → Option D) (fa : AF) : AF := fun ρ => match (fa ρ).bind Fn with
  | some (.list ds) => some ds
  | _ => none
theorem de_call (FO : FnOk X.prog X.w X.K X.mg X.base CX0 k fad fd ps (SpD X.K false n Fn)) (hn : es.length + 1 = n) (ha : DA X O (e :: es) fa)
    (hp : ∀ t, PA X (e :: es) t → PE X (.Call (.Name x p) (e :: es) [] pos) (tCall (SpD X.K false n Fn) [] E0 t)) : DE X O (.Call (.Name x p) (e :: es) [] pos) (callE Fn fa) := by
  obtain ⟨⟨t, pt, r⟩, hl⟩ := ha
  refine ⟨_, hp t pt, fun G σ H F ρ d Q s hf q => ?_⟩
  unfold callE at hf
  cases e1 : fa ρ with
  | none => simp [e1] at hf
  | some ds =>
    simp only [e1, Option.bind_some] at hf
    refine r G σ H F ρ ds _ s e1 fun vs H1 F1 g1 r1 => ?_
    refine ⟨F1, ds, d, ?_, g1.fh, ?_, hf, fun v H' F' g x => q v H' F' (g1.trans g) x⟩
    · rw [List.append_nil, r1.length, ← hn]; exact hl ρ ds e1
    · rw [List.append_nil]; exact r1
theorem dn_call (FO : FnOk X.prog X.w X.K X.mg X.base CX0 k fad fd ps (SpD X.K true n Fn)) (hn : es.length + 1 = n) (ha : DA X O (e :: es) fa)
    (hp : ∀ t, PA X (e :: es) t → PE X (.Call (.Name x p) (e :: es) [] pos) (tCall (SpD X.K true n Fn) [] E0 t)) : DN X O (.Call (.Name x p) (e :: es) [] pos) (callL Fn fa) := by
  obtain ⟨⟨t, pt, r⟩, hl⟩ := ha
  refine ⟨_, hp t pt, fun G σ H F ρ ds2 Q s hf q => ?_⟩
  unfold callL at hf
  cases e1 : fa ρ with
  | none => simp [e1] at hf
  | some ds =>
    rw [e1, Option.bind_some] at hf
    cases e2 : Fn ds with
    | none => rw [e2] at hf; cases hf
    | some d =>
      cases d with
      | list ds3 =>
        rw [e2] at hf
        have hf : some ds3 = some ds2 := hf
        cases hf
        refine r G σ H F ρ ds _ s e1 fun vs H1 F1 g1 r1 => ?_
        refine ⟨F1, ds, _, ?_, g1.fh, ?_, e2, fun v H' F' g x => ?_⟩
        · rw [List.append_nil, r1.length, ← hn]; exact hl ρ ds e1
        · rw [List.append_nil]; exact r1
        · obtain ⟨a, us, ds4, rfl, e5, h1, h2, h3, h4⟩ := x
          cases e5
          exact q a us H' F' (g1.trans g) (free_of g1.hh h2) h1 h3 h4
      | _ => rw [e2] at hf; cases hf
end
end DL

/-! DL, part 4: built-ins, comprehensions, lists put together. -/
namespace DL
open PySem PySem.Spec PyProof.Rows L2
section
variable {X : Cx} {O : List Nat} {e a1 a2 : Expr} {es : List Expr} {f g : EF} {fa : AF} {pos p : Pos} {x : Str} {id T : String}

/-! ### a built-in of one argument that may be read -/
theorem pa_one {te : TE} (p : PE X e te) (hs : starEach (e :: []) X.env = (false, eval e X.env) :: starEach [] X.env := by rfl) : PA X [e] (tCons te tNil) := pa_cons p pa_nil hs
def BiD (X : Cx) (r : List V → Hp → VK → Prop) (op : D → Option D) : Prop := ∀ (F H : Hp) (v : V) (c d : D) (Q : VK), Same F H → RepR X.K F H v c → op c = some d → (∀ v H' F', Grow F H F' H' → Rep X.K F' v d → Q v H') → r [v] H Q
def BiL (X : Cx) (r : List V → Hp → VK → Prop) (op : D → Option (List D)) : Prop := ∀ (F H : Hp) (v : V) (c : D) (ds : List D) (Q : VK), Same F H → RepR X.K F H v c → op c = some ds →
  (∀ a vs H' F', Grow F H F' H' → H a = none → H' a = some (.lst vs) → F' a = none → DpAll X.K F' vs ds → Q (.ref a) H') → r [v] H Q
theorem de_bi {r : List V → Hp → VK → Prop} {op : D → Option D} {call : Expr} (ho : BiD X r op) (ha : DR X O e f) (hp : ∀ t, PE X e t → PE X call (tCB r (tCons t tNil))) : DE X O call (o1 op f) := by
  obtain ⟨t, pt, rd⟩ := ha
  refine ⟨_, hp t pt, fun G σ H F ρ d Q s hf q => ?_⟩
  unfold o1 at hf
  cases e1 : f ρ with
  | none => simp [e1] at hf
  | some c =>
    simp only [e1, Option.bind_some] at hf
    exact rd G σ H F ρ c _ s e1 fun v H1 F1 g1 r1 => ho F1 H1 v c d Q g1.fh r1 hf fun v H2 F2 g2 r2 => q v H2 F2 (g1.trans g2) r2
def o1L (op : D → Option (List D)) (f : EF) : AF := fun ρ => (f ρ).bind op
theorem dn_bi {r : List V → Hp → VK → Prop} {op : D → Option (List D)} {call : Expr} (ho : BiL X r op) (ha : DR X O e f) (hp : ∀ t, PE X e t → PE X call (tCB r (tCons t tNil))) : DN X O call (o1L op f) := by
  obtain ⟨t, pt, rd⟩ := ha
  refine ⟨_, hp t pt, fun G σ H F ρ d Q s hf q => ?_⟩
  unfold o1L at hf
  cases e1 : f ρ with
  | none => simp [e1] at hf
  | some c =>
    simp only [e1, Option.bind_some] at hf
    exact rd G σ H F ρ c _ s e1 fun v H1 F1 g1 r1 => ho F1 H1 v c d Q g1.fh r1 hf fun a vs H2 F2 g2 hn h1 h2 h3 => q a vs H2 F2 (g1.trans g2) (free_of g1.hh hn) h1 h2 h3
theorem RepR.int_inv {K : PySem.W.Frag} {F H : Hp} {v : V} {i : Int} (h : RepR K F H v (.int i)) : v = .int i := by
  rcases h with h | ⟨a, vs, ds, rfl, e, _⟩
  · exact h.int_inv
  · cases e
theorem RepR.bl_inv {K : PySem.W.Frag} {F H : Hp} {v : V} {i : Bool} (h : RepR K F H v (.bool i)) : v = .bl i := by
  rcases h with h | ⟨a, vs, ds, rfl, e, _⟩
  · exact h.bl_inv
  · cases e
def absD : D → Option D
  | .int i => some (.int (if i < 0 then -i else i))
  | _ => none
theorem bi_abs : BiD X (fun xs H Q => ∃ i, xs = [.int i] ∧ Q (.int (if i < 0 then -i else i)) H) absD := fun F H v c d Q hs r h q => by
  cases c <;> simp [absD] at h
  subst h
  exact ⟨_, by rw [r.int_inv], q _ H F (Grow.refl hs) (.dat (.int _))⟩
def lenD : D → Option D
  | .list ds => some (.int ds.length)
  | .tuple ds => some (.int ds.length)
  | _ => none
theorem bi_len : BiD X (fun xs H Q => ∃ p ys, xs = [.ref p] ∧ (SqL X.K H p ys ∨ SqT X.K H p ys) ∧ Q (.int ys.length) H) lenD := fun F H v c d Q hs r h q => by
  cases c <;> simp [lenD] at h
  · subst h
    obtain ⟨a, vs, rfl, h1, h2⟩ := r.lst_inv hs
    exact ⟨a, vs, rfl, .inl h1, by rw [dpA_length h2]; exact q _ H F (Grow.refl hs) (.dat (.int _))⟩
  · subst h
    obtain ⟨a, vs, rfl, h1, h2⟩ := r.tup_inv
    exact ⟨a, vs, rfl, .inr (same_sqT hs h1), by rw [dpA_length h2]; exact q _ H F (Grow.refl hs) (.dat (.int _))⟩
def toIntD : D → Option D
  | .int i => some (.int i)
  | .bool k => some (.int (if k then 1 else 0))
  | _ => none
theorem bi_int : BiD X (fun xs H Q => (∃ i, xs = [.int i] ∧ Q (.int i) H) ∨ ∃ k, xs = [.bl k] ∧ Q (.int (if k then 1 else 0)) H) toIntD := fun F H v c d Q hs r h q => by
  cases c <;> simp [toIntD] at h
  · subst h; exact .inr ⟨_, by rw [r.bl_inv], q _ H F (Grow.refl hs) (.dat (.int _))⟩
  · subst h; exact .inl ⟨_, by rw [r.int_inv], q _ H F (Grow.refl hs) (.dat (.int _))⟩
/-- list(x), of a list or a tuple -/
def listD : D → Option (List D)
  | .list ds => some ds
  | .tuple ds => some ds
  | _ => none
theorem bi_list : BiL X (fun xs H Q => ∃ p ys, xs = [.ref p] ∧ (SqL X.K H p ys ∨ SqT X.K H p ys) ∧ ∀ l, H l = none → Q (.ref l) (upd H l (.lst ys))) listD := fun F H v c ds Q hs r h q => by
  cases c <;> simp [listD] at h
  · subst h
    obtain ⟨a, vs, rfl, h1, h2⟩ := r.lst_inv hs
    exact ⟨a, vs, rfl, .inl h1, fun l hl => q l vs _ F (Grow.newOwn hs hl) hl upd_same (free_of hs hl) h2⟩
  · subst h
    obtain ⟨a, vs, rfl, h1, h2⟩ := r.tup_inv
    exact ⟨a, vs, rfl, .inr (same_sqT hs h1), fun l hl => q l vs _ F (Grow.newOwn hs hl) hl upd_same (free_of hs hl) h2⟩
/-- a list of ints, as ints -/
def intsD : List D → Option (List Int)
  | [] => some []
  | .int i :: r => (intsD r).map (i :: ·)
  | _ => none
theorem dp_ints {K : PySem.W.Frag} {F : Hp} : ∀ {vs : List V} {ds : List D} {ns : List Int}, DpAll K F vs ds → intsD ds = some ns → vs = ns.map V.int
  | _, _, _, .nil, h => by cases h; rfl
  | _, _, _, .cons (d := d) r t, h => by
    cases d with
    | int i =>
      cases r
      simp only [intsD] at h
      cases e : intsD _ with
      | none => rw [e] at h; cases h
      | some ns =>
        rw [e] at h
        simp at h; subst h
        simp [dp_ints t e]
    | _ => cases h
def sumD : D → Option D
  | .list ds => (intsD ds).map fun ns => .int ns.sum
  | _ => none
theorem bi_sum : BiD X (rSum X.K) sumD := fun F H v c d Q hs r h q => by
  cases c with
  | list ds =>
    simp only [sumD] at h
    cases e : intsD ds with
    | none => rw [e] at h; cases h
    | some ns =>
      rw [e] at h
      simp at h; subst h
      obtain ⟨a, vs, rfl, h1, h2⟩ := r.lst_inv hs
      have := dp_ints h2 e
      subst this
      exact ⟨a, ns, rfl, h1, q _ H F (Grow.refl hs) (.dat (.int _))⟩
  | _ => cases h
def leastI : List Int → Option Int
  | [] => none
  | a :: r => some (r.foldl (fun m x => if x < m then x else m) a)
def mostI : List Int → Option Int
  | [] => none
  | a :: r => some (r.foldl (fun m x => if m < x then x else m) a)
theorem least_fold : ∀ (r : List Int) (a : Int), let m := r.foldl (fun m x => if x < m then x else m) a
    (m = a ∨ m ∈ r) ∧ m ≤ a ∧ ∀ x ∈ r, m ≤ x
  | [], a => ⟨.inl rfl, Int.le_refl _, fun _ h => by cases h⟩
  | b :: r, a => by
    have ih := least_fold r (if b < a then b else a)
    simp only [List.foldl_cons]
    obtain ⟨h1, h2, h3⟩ := ih
    refine ⟨?_, ?_, ?_⟩
    · rcases h1 with h | h
      · by_cases hb : b < a
        · rw [if_pos hb] at h ⊢; exact .inr (by rw [h]; exact List.mem_cons_self)
        · rw [if_neg hb] at h ⊢; exact .inl h
      · exact .inr (List.mem_cons_of_mem _ h)
    · refine Int.le_trans h2 ?_
      split <;> omega
    · intro x hx
      rcases List.mem_cons.mp hx with rfl | hx
      · refine Int.le_trans h2 ?_
        split <;> omega
      · exact h3 x hx
theorem most_fold : ∀ (r : List Int) (a : Int), let m := r.foldl (fun m x => if m < x then x else m) a
    (m = a ∨ m ∈ r) ∧ a ≤ m ∧ ∀ x ∈ r, x ≤ m
  | [], a => ⟨.inl rfl, Int.le_refl _, fun _ h => by cases h⟩
  | b :: r, a => by
    have ih := most_fold r (if a < b then b else a)
    simp only [List.foldl_cons]
    obtain ⟨h1, h2, h3⟩ := ih
    refine ⟨?_, ?_, ?_⟩
    · rcases h1 with h | h
      · by_cases hb : a < b
        · rw [if_pos hb] at h ⊢; exact .inr (by rw [h]; exact List.mem_cons_self)
        · rw [if_neg hb] at h ⊢; exact .inl h
      · exact .inr (List.mem_cons_of_mem _ h)
    · refine Int.le_trans ?_ h2
      split <;> omega
    · intro x hx
      rcases List.mem_cons.mp hx with rfl | hx
      · refine Int.le_trans ?_ h2
        split <;> omega
      · exact h3 x hx
theorem least_spec {ns : List Int} {m : Int} (h : leastI ns = some m) : m ∈ ns ∧ ∀ x ∈ ns, m ≤ x := by
  cases ns with
  | nil => cases h
  | cons a r =>
    have h := Option.some.inj h
    have := least_fold r a
    rw [h] at this
    obtain ⟨h1, h2, h3⟩ := this
    refine ⟨?_, fun x hx => ?_⟩
    · rcases h1 with rfl | h
      · exact List.mem_cons_self
      · exact List.mem_cons_of_mem _ h
    · rcases List.mem_cons.mp hx with rfl | hx
      · exact h2
      · exact h3 x hx
theorem most_spec {ns : List Int} {m : Int} (h : mostI ns = some m) : m ∈ ns ∧ ∀ x ∈ ns, x ≤ m := by
  cases ns with
  | nil => cases h
  | cons a r =>
    have h := Option.some.inj h
    have := most_fold r a
    rw [h] at this
    obtain ⟨h1, h2, h3⟩ := this
    refine ⟨?_, fun x hx => ?_⟩
    · rcases h1 with rfl | h
      · exact List.mem_cons_self
      · exact List.mem_cons_of_mem _ h
    · rcases List.mem_cons.mp hx with rfl | hx
      · exact h2
      · exact h3 x hx
def minD : D → Option D
  | .list ds => (intsD ds).bind fun ns => (leastI ns).map .int
  | _ => none
def maxD : D → Option D
  | .list ds => (intsD ds).bind fun ns => (mostI ns).map .int
  | _ => none
theorem bi_min : BiD X (rMin X.K) minD := fun F H v c d Q hs r h q => by
  cases c with
  | list ds =>
    simp only [minD] at h
    cases e : intsD ds with
    | none => rw [e] at h; cases h
    | some ns =>
      rw [e, Option.bind_some] at h
      cases e2 : leastI ns with
      | none => rw [e2] at h; cases h
      | some m0 =>
        rw [e2] at h
        simp at h; subst h
        obtain ⟨a, vs, rfl, h1, h2⟩ := r.lst_inv hs
        have := dp_ints h2 e
        subst this
        obtain ⟨k1, k2⟩ := least_spec e2
        refine ⟨a, ns, rfl, h1, List.length_pos_of_mem k1, fun m hm hle => ?_⟩
        have : m = m0 := Int.le_antisymm (hle m0 k1) (k2 m hm)
        subst this
        exact q _ H F (Grow.refl hs) (.dat (.int _))
  | _ => cases h
theorem bi_max : BiD X (rMax X.K) maxD := fun F H v c d Q hs r h q => by
  cases c with
  | list ds =>
    simp only [maxD] at h
    cases e : intsD ds with
    | none => rw [e] at h; cases h
    | some ns =>
      rw [e, Option.bind_some] at h
      cases e2 : mostI ns with
      | none => rw [e2] at h; cases h
      | some m0 =>
        rw [e2] at h
        simp at h; subst h
        obtain ⟨a, vs, rfl, h1, h2⟩ := r.lst_inv hs
        have := dp_ints h2 e
        subst this
        obtain ⟨k1, k2⟩ := most_spec e2
        refine ⟨a, ns, rfl, h1, List.length_pos_of_mem k1, fun m hm hle => ?_⟩
        have : m = m0 := Int.le_antisymm (k2 m hm) (hle m0 k1)
        subst this
        exact q _ H F (Grow.refl hs) (.dat (.int _))
  | _ => cases h
/-- a built-in of two ints -/
def max2D : D → D → Option D
  | .int i, .int j => some (.int (if j > i then j else i))
  | _, _ => none
def min2D : D → D → Option D
  | .int i, .int j => some (.int (if j < i then j else i))
  | _, _ => none
theorem de_max2 {call : Expr} (ha : DE X O a1 f) (hb : DE X O a2 g) (hs : starEach (a1 :: [a2]) X.env = (false, eval a1 X.env) :: starEach [a2] X.env := by rfl) (hs2 : starEach (a2 :: []) X.env = (false, eval a2 X.env) :: starEach [] X.env := by rfl)
    (hp : ∀ t, PA X [a1, a2] t → PE X call (tCB (fun xs H Q => ∃ i j, xs = [.int i, .int j] ∧ Q (.int (if j > i then j else i)) H) t)) : DE X O call (o2 max2D f g) := by
  obtain ⟨⟨t, p, r⟩, _⟩ := da_cons ha (da_cons hb da_nil hs2) hs
  refine ⟨_, hp t p, fun G σ H F ρ d Q s hf q => ?_⟩
  unfold o2 at hf
  cases e1 : f ρ with
  | none => simp [e1] at hf
  | some x =>
    cases e2 : g ρ with
    | none => simp [e1, e2] at hf
    | some y =>
      simp only [e1, e2, Option.bind_some] at hf
      refine r G σ H F ρ [x, y] _ s (by simp [consA, nilA, e1, e2]) fun vs H' F' g' r1 => ?_
      cases x <;> cases y <;> simp [max2D] at hf
      subst hf
      cases r1 with
      | cons ra rb =>
        cases rb with
        | cons rb rn =>
          cases rn
          exact ⟨_, _, by rw [ra.int_inv, rb.int_inv], q _ H' F' g' (.dat (.int _))⟩
theorem de_min2 {call : Expr} (ha : DE X O a1 f) (hb : DE X O a2 g) (hs : starEach (a1 :: [a2]) X.env = (false, eval a1 X.env) :: starEach [a2] X.env := by rfl) (hs2 : starEach (a2 :: []) X.env = (false, eval a2 X.env) :: starEach [] X.env := by rfl)
    (hp : ∀ t, PA X [a1, a2] t → PE X call (tCB (fun xs H Q => ∃ i j, xs = [.int i, .int j] ∧ Q (.int (if j < i then j else i)) H) t)) : DE X O call (o2 min2D f g) := by
  obtain ⟨⟨t, p, r⟩, _⟩ := da_cons ha (da_cons hb da_nil hs2) hs
  refine ⟨_, hp t p, fun G σ H F ρ d Q s hf q => ?_⟩
  unfold o2 at hf
  cases e1 : f ρ with
  | none => simp [e1] at hf
  | some x =>
    cases e2 : g ρ with
    | none => simp [e1, e2] at hf
    | some y =>
      simp only [e1, e2, Option.bind_some] at hf
      refine r G σ H F ρ [x, y] _ s (by simp [consA, nilA, e1, e2]) fun vs H' F' g' r1 => ?_
      cases x <;> cases y <;> simp [min2D] at hf
      subst hf
      cases r1 with
      | cons ra rb =>
        cases rb with
        | cons rb rn =>
          cases rn
          exact ⟨_, _, by rw [ra.int_inv, rb.int_inv], q _ H' F' g' (.dat (.int _))⟩

/-! ### isinstance with a built-in class -/
def tyD : D → String
  | .none => "NoneType"
  | .bool _ => "bool"
  | .int _ => "int"
  | .str _ => "str"
  | .list _ => "list"
  | .tuple _ => "tuple"
  | .dict _ => "?"
theorem tyx_of {K : PySem.W.Frag} {F H : Hp} {v : V} {d : D} (hs : Same F H) (r : RepR K F H v d) (hp : plainD d = true) : TyX K H v (.type (tyD d)) := by
  have lst : ∀ {a : Addr} {vs : List V}, SqL K H a vs → TyX K H (.ref a) (.type "list") := fun {a vs} h => by
    rcases h with (h | ⟨o, h⟩) | ⟨o, its, n, h1, h2, _⟩
    · exact .base (.lst h)
    · exact .base (.frz h)
    · exact .kList h1 h2
  have tup : ∀ {a : Addr} {vs : List V}, SqT K H a vs → TyX K H (.ref a) (.type "tuple") := fun {a vs} h => by
    rcases h with (h | ⟨o, h⟩) | ⟨o, its, n, h1, h2, _⟩
    · exact .base (.tup h)
    · exact .fTuple h
    · exact .kTuple h1 h2
  cases d with
  | none => rcases r with r | ⟨_, _, _, _, e, _⟩; rw [r.non_inv]; exact .base .non; cases e
  | bool b => rw [r.bl_inv]; exact .base (.bl b)
  | int i => rw [r.int_inv]; exact .base (.int i)
  | str x =>
    rcases r with r | ⟨_, _, _, _, e, _⟩
    · cases r with | dat r => cases r; exact .base (.str x)
    · cases e
  | list ds => obtain ⟨a, vs, rfl, h1, _⟩ := r.lst_inv hs; exact lst h1
  | tuple ds => obtain ⟨a, vs, rfl, h1, _⟩ := r.tup_inv; exact tup (same_sqT hs h1)
  | dict _ => cases hp
/-- isinstance's answer -/
def isiD (T : String) (d : D) : Option D := if plainD d = true then (kitB (tyD d) T).map .bool else none
theorem de_isi {call : Expr} (ha : DR X O e f) (hp : ∀ t, PE X e t → PE X call (tCB (rIsi X.K) (tCons t (tCons (tC (.ty T)) tNil)))) : DE X O call (o1 (isiD T) f) := by
  obtain ⟨t, pt, rd⟩ := ha
  refine ⟨_, hp t pt, fun G σ H F ρ d Q s hf q => ?_⟩
  unfold o1 at hf
  cases e1 : f ρ with
  | none => simp [e1] at hf
  | some c =>
    simp only [e1, Option.bind_some] at hf
    unfold isiD at hf
    by_cases hc : plainD c = true
    · rw [if_pos hc] at hf
      cases e2 : kitB (tyD c) T with
      | none => rw [e2] at hf; cases hf
      | some b =>
        rw [e2] at hf
        cases hf
        exact rd G σ H F ρ c _ s e1 fun v H1 F1 g1 r1 => ⟨v, .ty T, .type (tyD c), .type T, b, rfl, .ty T, tyx_of g1.fh r1 hc, kit_ty e2, q _ H1 F1 g1 (.dat (.bl _))⟩
    · rw [if_neg hc] at hf; cases hf

/-! ### list + list -/
def rCatL (K : PySem.W.Frag) : R2 := fun x y H Q => ∃ l b xs zs, x = .ref l ∧ y = .ref b ∧ SqL K H l xs ∧ SqL K H b zs ∧ xs.length + zs.length ≤ sizeLine ∧ ∀ p, H p = none → Q (.ref p) (upd H p (.lst (xs ++ zs)))
theorem op_catL : OpR X (binaryOp .Add) (rCatL X.K) := by
  intro pins s σ H x y v u Q I rx ry h
  obtain ⟨l, b, xs, zs, rfl, rfl, hH, hB, hz, q⟩ := h
  cases rx
  cases ry
  obtain ⟨its, r, pl, _⟩ := I.list hH
  obtain ⟨its2, r2, pl2, _⟩ := I.list hB
  obtain ⟨⟨cls, dd, data, sl⟩, ho, hc, n, hd⟩ := id pl.isList
  obtain ⟨⟨cls2, dd2, data2, sl2⟩, ho2, hc2, n2, hd2⟩ := id pl2.isList
  simp only at hc hd hc2 hd2
  subst hc hd hc2 hd2
  have e : its.toArray ++ its2.toArray = (its ++ its2).toArray := by simp
  have hsz : its.length + its2.length ≤ sizeLine := by rw [← r.length, ← r2.length]; exact hz
  refine concat_meets ⟨_, ho, rfl⟩ ⟨_, ho2, rfl⟩ noFill_list_add seq_list_add PySem.F.slot_list_add PySem.F.entry_list_add (PySem.F.args_list_add_2 _ _) (PyProof.Rows.list_addW l b its.toArray its2.toArray n n2 dd dd2 sl sl2 (by simpa using hsz)) ⟨ho, ho2, ?_⟩
  rw [e]
  exact ⟨.ref _, _, I.lnew (t' := s.toks) (r.append r2) (by rw [List.length_append]; omega), rfl, q _ I.fresh⟩
def catA (f g : EF) : AF := fun ρ => match f ρ, g ρ with
  | some (.list xs), some (.list ys) => if xs.length + ys.length ≤ sizeLine then some (xs ++ ys) else none
  | _, _ => none
theorem dn_cat (ha : DR X O a1 f) (hb : DR X O a2 g) : DN X O (.BinOp a1 .Add a2 pos) (catA f g) := by
  obtain ⟨ta, pa, ra⟩ := ha
  obtain ⟨tb, pb, rb⟩ := hb
  refine ⟨_, pe_op op_catL pa pb, fun G σ H F ρ ds Q s hf q => ?_⟩
  unfold catA at hf
  cases e1 : f ρ with
  | none => simp [e1] at hf
  | some c =>
    cases e2 : g ρ with
    | none => cases c <;> simp [e1, e2] at hf
    | some c2 =>
      cases c with
      | list xs =>
        cases c2 with
        | list ys =>
          simp only [e1, e2] at hf
          by_cases hl : xs.length + ys.length ≤ sizeLine
          · rw [if_pos hl] at hf
            have hf := Option.some.inj hf
            subst hf
            refine ra G σ H F ρ _ _ s e1 fun v H1 F1 g1 r1 => ?_
            refine rb G σ H1 F1 ρ _ _ (s.grow g1) e2 fun w H2 F2 g2 r2 => ?_
            obtain ⟨a, vs, rfl, h1, h2⟩ := (r1.grow g2).lst_inv g2.fh
            obtain ⟨b, ws, rfl, k1, k2⟩ := r2.lst_inv g2.fh
            refine ⟨a, b, vs, ws, rfl, rfl, h1, k1, by rw [dpA_length h2, dpA_length k2]; exact hl, fun p hn => ?_⟩
            have gg := g1.trans g2
            exact q p _ _ F2 (gg.trans (Grow.newOwn gg.fh hn)) (free_of gg.hh hn) upd_same (free_of gg.fh hn) (dpA_append h2 k2)
          · rw [if_neg hl] at hf; cases hf
        | _ => simp [e1, e2] at hf
      | _ => simp [e1, e2] at hf

end
end DL

/-! DL, part 5: comprehensions. -/
namespace DL
open PySem PySem.Spec PyProof.Rows L2
section
variable {X : Cx} {O : List Nat} {e a1 a2 : Expr} {es : List Expr} {f g : EF} {fa : AF} {pos p : Pos} {x : Str} {id T : String}
/-! ### comprehensions -/
def wipeR (ρ : Rho) : List Nat → Rho
  | [] => ρ
  | v :: vs => (wipeR ρ vs).set v none
theorem getv_set_none {ρ : Rho} {i j : Nat} {d : D} (h : getv (ρ.set i none) j = some d) : j ≠ i ∧ getv ρ j = some d := by
  unfold getv at h ⊢
  by_cases hj : j = i
  · subst hj
    by_cases hl : j < ρ.length
    · rw [List.getElem?_set_self hl] at h; cases h
    · rw [List.getElem?_eq_none (by simpa using hl)] at h; cases h
  · rw [List.getElem?_set_ne (Ne.symm hj)] at h
    exact ⟨hj, h⟩
theorem StRep.unset {K : PySem.W.Frag} {G : Ent} {σ : Sg} {H F : Hp} {ρ : Rho} (s : StRep K G O σ H ρ F) (i : Nat) : StRep K G O (σ.set i none) H (ρ.set i none) F where
  len := by simpa using s.len
  g := s.g
  dat := fun j d hj hd => by
    obtain ⟨hji, hd⟩ := getv_set_none hd
    obtain ⟨v, e1, e2⟩ := s.dat j d hj hd
    exact ⟨v, by rw [List.getElem?_set_ne (Ne.symm hji)]; exact e1, e2⟩
  own := fun j d hj hd => by
    obtain ⟨hji, hd⟩ := getv_set_none hd
    obtain ⟨v, e1, e2⟩ := s.own j d hj hd
    exact ⟨v, by rw [List.getElem?_set_ne (Ne.symm hji)]; exact e1, e2⟩
  new := fun j d a hj hd hs => by
    obtain ⟨hji, hd⟩ := getv_set_none hd
    rw [List.getElem?_set_ne (Ne.symm hji)] at hs
    exact s.new j d a hj hd hs
  dis := fun j k d e a hj hk hjk hd he hs => by
    obtain ⟨hji, hd⟩ := getv_set_none hd
    obtain ⟨hki, he⟩ := getv_set_none he
    rw [List.getElem?_set_ne (Ne.symm hji)] at hs
    rw [List.getElem?_set_ne (Ne.symm hki)]
    exact s.dis j k d e a hj hk hjk hd he hs
theorem StRep.wipe {K : PySem.W.Frag} {G : Ent} {σ : Sg} {H F : Hp} {ρ : Rho} (s : StRep K G O σ H ρ F) : ∀ vs : List Nat, StRep K G O (L2.wipe σ vs) H (wipeR ρ vs) F
  | [] => s
  | v :: vs => (StRep.wipe s vs).unset v
def compL (g : TgF) (c : BF) (f : EF) (ρ : Rho) : List D → Option (List D)
  | [] => some []
  | d :: ds => (g d ρ).bind fun ρ2 => (c ρ2).bind fun b => if b = true then (f ρ2).bind fun y => if plainD y = true then (compL g c f ρ ds).map (y :: ·) else none else compL g c f ρ ds
def compA (vs : List Nat) (it : AF) (g : TgF) (c : BF) (f : EF) : AF := fun ρ => (it ρ).bind fun ds => if ds.length < sizeLine then compL g c f (wipeR ρ vs) ds else none
theorem compL_len {g : TgF} {c : BF} {f : EF} {ρ : Rho} : ∀ {ds r : List D}, compL g c f ρ ds = some r → r.length ≤ ds.length
  | [], r, h => by cases h; exact Nat.le_refl _
  | d :: ds, r, h => by
    simp only [compL] at h
    cases e1 : g d ρ with
    | none => simp [e1] at h
    | some ρ2 =>
      simp only [e1, Option.bind_some] at h
      cases e2 : c ρ2 with
      | none => simp [e2] at h
      | some b =>
        simp only [e2, Option.bind_some] at h
        cases b with
        | false => rw [if_neg Bool.false_ne_true] at h; have := compL_len h; simp; omega
        | true =>
          rw [if_pos rfl] at h
          cases e3 : f ρ2 with
          | none => simp [e3] at h
          | some y =>
            simp only [e3, Option.bind_some] at h
            by_cases hp : plainD y = true
            · rw [if_pos hp] at h
              cases e4 : compL g c f ρ ds with
              | none => simp [e4] at h
              | some r' => simp [e4] at h; subst h; have := compL_len e4; simp; omega
            · rw [if_neg hp] at h; cases h
/-- tests of a comprehension -/
def DTs (X : Cx) (O : List Nat) (ifs : List Expr) (f : BF) : Prop := ∃ t, PTs X ifs t ∧ ∀ (G : Ent) (σ : Sg) (H F : Hp) (ρ : Rho) (b : Bool) (Q : Bool → Hp → Prop),
  StRep X.K G O σ H ρ F → f ρ = some b → (∀ H' F', Grow F H F' H' → Q b H') → t σ H Q
def yesB : BF := fun _ => some true
theorem dts_nil : DTs X O [] yesB := ⟨_, pts_nil, fun G σ H F ρ b Q s hf q => by cases hf; exact q H F (Grow.refl s.sub)⟩
theorem dts_one {c : BF} (h : DT X O e c) : DTs X O [e] c := let ⟨t, p, r⟩ := h; ⟨t, pts_one p, r⟩
theorem wipe_get {j : Nat} {τ : Sg} : ∀ {ws : List Nat}, j ∈ ws → (L2.wipe τ ws)[j]? = if j < τ.length then some none else none := by
  intro ws
  induction ws with
  | nil => intro h; cases h
  | cons w ws ih =>
    intro h
    unfold L2.wipe
    by_cases hw : w = j
    · subst hw
      by_cases hl : w < τ.length
      · rw [if_pos hl, List.getElem?_set_self (by rw [wipe_length]; exact hl)]
      · rw [if_neg hl]; exact List.getElem?_eq_none (by rw [List.length_set, wipe_length]; omega)
    · rw [List.getElem?_set_ne hw]
      rcases List.mem_cons.mp h with z | z
      · exact absurd z.symm hw
      · exact ih z
theorem wipe_set_mem {σ : Sg} {v : Option V} {i : Nat} {vs : List Nat} (hi : i ∈ vs) : L2.wipe ((L2.wipe σ vs).set i v) vs = L2.wipe σ vs := by
  apply List.ext_getElem?
  intro j
  by_cases hj : j ∈ vs
  · rw [wipe_get hj, wipe_get hj, List.length_set, wipe_length]
  · rw [wipe_out hj, List.getElem?_set_ne (show i ≠ j from fun z => hj (z ▸ hi))]
theorem wipe_set_two {σ : Sg} {v w : Option V} {i k : Nat} {vs : List Nat} (hi : i ∈ vs) (hk : k ∈ vs) : L2.wipe (((L2.wipe σ vs).set i v).set k w) vs = L2.wipe σ vs := by
  apply List.ext_getElem?
  intro j
  by_cases hj : j ∈ vs
  · rw [wipe_get hj, wipe_get hj, List.length_set, List.length_set, wipe_length]
  · rw [wipe_out hj, List.getElem?_set_ne (show k ≠ j from fun z => hj (z ▸ hk)), List.getElem?_set_ne (show i ≠ j from fun z => hj (z ▸ hi))]
/-- the target stores only the comprehension's own names -/
def OwnG (X : Cx) (O : List Nat) (vs : List Nat) (tg : Expr) (g : TgF) : Prop := ∃ t, PG X tg t ∧ ∀ (G : Ent) (v : V) (d : D) (σ : Sg) (H F : Hp) (ρ ρ' : Rho) (Q : Sg → Hp → Prop),
  StRep X.K G O (L2.wipe σ vs) H (wipeR ρ vs) F → Rep X.K F v d → g d (wipeR ρ vs) = some ρ' → (∀ σ', StRep X.K G O σ' H ρ' F → L2.wipe σ' vs = L2.wipe σ vs → Q σ' H) → t v (L2.wipe σ vs) H Q
end
section
variable {X : Cx} {O : List Nat} {e a1 a2 : Expr} {pos p : Pos} {x : Str}
theorem noDrop {i : Nat} (h : O.contains i = false) : dropO O i = O := by
  unfold dropO
  refine List.filter_eq_self.mpr fun a ha => ?_
  have : a ≠ i := fun z => by subst z; rw [List.contains_iff_mem.mpr ha] at h; cases h
  simpa using this
theorem og_name (i : Nat) {vs : List Nat} (hi : vs.contains i = true) (hO : O.contains i = false) (h : PG X (.Name x pos) (gName i)) : OwnG X O vs (.Name x pos) (nameG i) := by
  refine ⟨_, h, fun G v d σ H F ρ ρ' Q s r hg q => ?_⟩
  cases hg
  have s' := s.set i r
  rw [noDrop hO] at s'
  exact q _ s' (wipe_set_mem (List.contains_iff_mem.mp hi))
theorem dpA_two {K : PySem.W.Frag} {F : Hp} {us : List V} {ds : List D} (h : DpAll K F us ds) (hl : ds.length = 2) : ∃ u1 u2 c1 c2, us = [u1, u2] ∧ ds = [c1, c2] ∧ Dp K F u1 c1 ∧ Dp K F u2 c2 := by
  cases h with
  | nil => cases hl
  | cons r1 t1 =>
    cases t1 with
    | nil => cases hl
    | cons r2 t2 =>
      cases t2 with
      | nil => exact ⟨_, _, _, _, rfl, rfl, r1, r2⟩
      | cons r3 t3 => simp at hl
theorem og_two (i j : Nat) {vs : List Nat} {y : Str} {p1 p2 : Pos} {k : Nat} (hi : vs.contains i = true) (hj : vs.contains j = true) (hO : O.contains i = false) (hO2 : O.contains j = false)
    (h : PG X (.Tuple [.Name x p1, .Name y p2] k pos) (gTup X.K 2 (gCons (gName i) (gCons (gName j) gNil)))) : OwnG X O vs (.Tuple [.Name x p1, .Name y p2] k pos) (tupG 2 (consG (nameG i) (consG (nameG j) nilG))) := by
  refine ⟨_, h, fun G v d σ H F ρ ρ' Q s r hg q => ?_⟩
  cases d with
  | tuple ds =>
    have hg : (if ds.length = 2 then consG (nameG i) (consG (nameG j) nilG) ds (wipeR ρ vs) else none) = some ρ' := hg
    by_cases hl : ds.length = 2
    · rw [if_pos hl] at hg
      obtain ⟨a, us, rfl, h1, h2⟩ := r.tup_inv
      obtain ⟨u1, u2, c1, c2, rfl, rfl, r1, r2⟩ := dpA_two h2 hl
      have hg : some (((wipeR ρ vs).set i (some c1)).set j (some c2)) = some ρ' := hg
      have hg := Option.some.inj hg
      subst hg
      refine ⟨a, [u1, u2], rfl, same_sqT s.sub h1, rfl, u1, [u2], rfl, ?_⟩
      refine ⟨u2, [], rfl, rfl, ?_⟩
      have s1 := s.set i (.dat r1)
      rw [noDrop hO] at s1
      have s2 := s1.set j (.dat r2)
      rw [noDrop hO2] at s2
      exact q _ s2 (wipe_set_two (List.contains_iff_mem.mp hi) (List.contains_iff_mem.mp hj))
    · rw [if_neg hl] at hg; cases hg
  | _ => cases hg
end
section
variable {X : Cx} {O : List Nat} {elt tg iter : Expr} {ifs : List Expr} {scope : Scope} {own : List (Str × Nat)} {pos : Pos} {it : AF} {g : TgF} {c : BF} {f : EF}
/-- a judgement within the comprehension's block -/
def InBlk (X : Cx) (scope : Scope) (J : Cx → Prop) : Prop := ∀ (s : Shared) (H : Hp) (C : Addr) (cl : List (Str × Addr)) (fp : List Addr), J (X.blk s H scope (compEnvC scope cl C X.env) fp)
theorem tLc_ok {wi : TI} {tg' : TG} {tt : TT} {te : TE} {vs : List Nat}
    (ri : ∀ (G : Ent) (σ : Sg) (H F : Hp) (ρ : Rho) (ds : List D) (R : It → Hp → Prop), StRep X.K G O σ H ρ F → it ρ = some ds → (∀ J H' F', Grow F H F' H' → Iters X.K J F' ds → R J H') → wi σ H R)
    (rg : ∀ (G : Ent) (v : V) (d : D) (σ : Sg) (H F : Hp) (ρ ρ' : Rho) (Q : Sg → Hp → Prop), StRep X.K G O (L2.wipe σ vs) H (wipeR ρ vs) F → Rep X.K F v d → g d (wipeR ρ vs) = some ρ' → (∀ σ', StRep X.K G O σ' H ρ' F → L2.wipe σ' vs = L2.wipe σ vs → Q σ' H) → tg' v (L2.wipe σ vs) H Q)
    (rt : ∀ (G : Ent) (σ : Sg) (H F : Hp) (ρ : Rho) (b : Bool) (Q : Bool → Hp → Prop), StRep X.K G O σ H ρ F → c ρ = some b → (∀ H' F', Grow F H F' H' → Q b H') → tt σ H Q)
    (re : ∀ (G : Ent) (σ : Sg) (H F : Hp) (ρ : Rho) (d : D) (Q : VK), StRep X.K G O σ H ρ F → f ρ = some d → (∀ v H' F', Grow F H F' H' → Rep X.K F' v d → Q v H') → te σ H Q)
    (G : Ent) (σ : Sg) (H F : Hp) (ρ : Rho) (rs : List D) (Q : VK) (s : StRep X.K G O σ H ρ F) (hf : compA vs it g c f ρ = some rs)
    (q : ∀ a vs H' F', Grow F H F' H' → H a = none → H' a = some (.lst vs) → F' a = none → DpAll X.K F' vs rs → Q (.ref a) H') : tLc wi tg' tt te vs σ H Q := by
  unfold compA at hf
  cases e : it ρ with
  | none => simp [e] at hf
  | some ds =>
    simp only [e, Option.bind_some] at hf
    by_cases hlen : ds.length < sizeLine
    · rw [if_pos hlen] at hf
      refine ri G σ H F ρ ds _ s e fun J H1 F1 g1 IT Dd hD => ?_
      have sw : StRep X.K G O (L2.wipe σ vs) H1 (wipeR ρ vs) F1 := (s.grow g1).wipe vs
      -- what holds ahead of turn i: the list made so far, and the rest to come
      refine ⟨fun i n H2 => n = ds.length - i ∧ i ≤ ds.length ∧ ∃ F2 acc ac rest, Grow F1 H1 F2 H2 ∧ F2 Dd = none ∧ H2 Dd = some (.lst acc) ∧ DpAll X.K F2 acc ac ∧ ac.length ≤ i ∧ compL g c f (wipeR ρ vs) (ds.drop i) = some rest ∧ ac ++ rest = rs,
        ⟨ds.length, by simp, Nat.zero_le _, F1, [], [], rs, Grow.newOwn g1.fh hD, free_of g1.fh hD, upd_same, .nil, Nat.le_refl _, by simpa using hf, rfl⟩, ?_⟩
      rintro i n H2 ⟨rfl, hi, F2, acc, ac, rest, g2, hF2, hH2, hac, hal, hc, hrs⟩
      obtain ⟨i1, i2, i3⟩ := IT F2 H2 i g2.ff g2.fh
      by_cases hlt : i < ds.length
      · refine .inr ⟨i1 hlt, fun H3 => i + 1 ≤ ds.length ∧ ∃ F3 acc ac rest, Grow F1 H1 F3 H3 ∧ F3 Dd = none ∧ H3 Dd = some (.lst acc) ∧ DpAll X.K F3 acc ac ∧ ac.length ≤ i + 1 ∧ compL g c f (wipeR ρ vs) (ds.drop (i + 1)) = some rest ∧ ac ++ rest = rs,
          fun H3 w => ⟨ds.length - (i + 1), by omega, rfl, w⟩, fun x H3 y => ?_⟩
        have hd : ds[i]? = some ds[i] := List.getElem?_eq_getElem hlt
        obtain ⟨F3, g3, rx⟩ := i3 x H3 _ y hd
        rw [List.drop_eq_getElem_cons hlt] at hc
        simp only [compL] at hc
        cases e1 : g ds[i] (wipeR ρ vs) with
        | none => simp [e1] at hc
        | some ρ2 =>
          simp only [e1, Option.bind_some] at hc
          cases e2 : c ρ2 with
          | none => simp [e2] at hc
          | some b =>
            simp only [e2, Option.bind_some] at hc
            have s3 : StRep X.K G O (L2.wipe σ vs) H3 (wipeR ρ vs) F3 := (sw.grow g2).grow g3
            refine rg G x _ σ H3 F3 ρ ρ2 _ s3 rx e1 fun σ2 s4 hw => ⟨hw, ?_⟩
            refine rt G σ2 H3 F3 ρ2 b _ s4 e2 fun H4 F4 g4 => ?_
            have g24 : Grow F2 H2 F4 H4 := g3.trans g4
            have g14 : Grow F1 H1 F4 H4 := g2.trans g24
            have hF4 : F4 Dd = none := g24.own _ _ hH2 hF2
            have hH4 : H4 Dd = some (.lst acc) := g24.hh _ _ hH2
            cases b with
            | false =>
              rw [if_neg Bool.false_ne_true] at hc ⊢
              exact ⟨hlt, F4, acc, ac, rest, g14, hF4, hH4, dpAll_mono g24.ff hac, by omega, hc, hrs⟩
            | true =>
              rw [if_pos rfl] at hc ⊢
              cases e3 : f ρ2 with
              | none => simp [e3] at hc
              | some y1 =>
                simp only [e3, Option.bind_some] at hc
                by_cases hp : plainD y1 = true
                · rw [if_pos hp] at hc
                  cases e4 : compL g c f (wipeR ρ vs) (ds.drop (i + 1)) with
                  | none => simp [e4] at hc
                  | some rest2 =>
                    simp [e4] at hc
                    refine re G σ2 H4 F4 ρ2 y1 _ (s4.grow g4) e3 fun v H5 F5 g5 r5 => ?_
                    have g25 := g24.trans g5
                    have hF5 : F5 Dd = none := g25.own _ _ hH2 hF2
                    refine ⟨acc, g25.hh _ _ hH2, by rw [dpA_length hac]; omega, hlt, F5, acc ++ [v], ac ++ [y1], rest2, ?_, hF5, upd_same, dpA_append (dpAll_mono g25.ff hac) (.cons (r5.dp hp) .nil), by simp; omega, rfl, by rw [List.append_assoc, ← hrs, ← hc]; rfl⟩
                    have g15 := g2.trans g25
                    refine ⟨g15.ff, fun b o hb => ?_, fun b o hb => ?_, g15.own⟩
                    · rw [upd_ne (ne_of_none hb hD)]; exact g15.hh b o hb
                    · have : b ≠ Dd := fun z => by subst z; rw [hF5] at hb; cases hb
                      rw [upd_ne this]; exact g15.fh b o hb
                · rw [if_neg hp] at hc; cases hc
      · have hi' : i = ds.length := by omega
        subst hi'
        refine .inl ⟨i2 (Nat.le_refl _), ?_⟩
        rw [List.drop_length] at hc
        have hc : some [] = some rest := hc
        cases hc
        rw [List.append_nil] at hrs
        subst hrs
        exact q Dd acc H2 F2 (g1.trans g2) (free_of g1.hh hD) hH2 hF2 hac
    · rw [if_neg hlen] at hf; cases hf
/-! ### the strongest reading: it does not depend on the context -/
def tE (K : PySem.W.Frag) (O : List Nat) (f : EF) : TE := fun σ H Q => ∃ (G : Ent) (F : Hp) (ρ : Rho) (d : D), StRep K G O σ H ρ F ∧ f ρ = some d ∧ ∀ v H' F', Grow F H F' H' → Rep K F' v d → Q v H'
def tT (K : PySem.W.Frag) (O : List Nat) (c : BF) : TT := fun σ H Q => ∃ (G : Ent) (F : Hp) (ρ : Rho) (b : Bool), StRep K G O σ H ρ F ∧ c ρ = some b ∧ ∀ H' F', Grow F H F' H' → Q b H'
theorem DE_pe {Y : Cx} {e : Expr} {f : EF} (h : DE Y O e f) : PE Y e (tE Y.K O f) := by
  obtain ⟨t, p, r⟩ := h
  exact ⟨fun pins s σ H Q I ⟨G, F, ρ, d, sr, hf, q⟩ => p.run pins s σ H Q I (r G σ H F ρ d Q sr hf q)⟩
theorem DTs_pt {Y : Cx} {ifs : List Expr} {c : BF} (h : DTs Y O ifs c) : PTs Y ifs (tT Y.K O c) := by
  obtain ⟨t, p, r⟩ := h
  exact ⟨fun pins s σ H Q I ⟨G, F, ρ, d, sr, hf, q⟩ => p.run pins s σ H Q I (r G σ H F ρ d Q sr hf q)⟩
/-- the target's reading alone -/
def OwnR (K : PySem.W.Frag) (O vs : List Nat) (t : TG) (g : TgF) : Prop := ∀ (G : Ent) (v : V) (d : D) (σ : Sg) (H F : Hp) (ρ ρ' : Rho) (Q : Sg → Hp → Prop),
  StRep K G O (L2.wipe σ vs) H (wipeR ρ vs) F → Rep K F v d → g d (wipeR ρ vs) = some ρ' → (∀ σ', StRep K G O σ' H ρ' F → L2.wipe σ' vs = L2.wipe σ vs → Q σ' H) → t v (L2.wipe σ vs) H Q
theorem or_name {K : PySem.W.Frag} {vs : List Nat} (i : Nat) (hi : vs.contains i = true) (hO : O.contains i = false) : OwnR K O vs (gName i) (nameG i) := by
  intro G v d σ H F ρ ρ' Q s r hg q
  cases hg
  have s' := s.set i r
  rw [noDrop hO] at s'
  exact q _ s' (wipe_set_mem (List.contains_iff_mem.mp hi))
theorem or_two {K : PySem.W.Frag} {vs : List Nat} (i j : Nat) (hi : vs.contains i = true) (hj : vs.contains j = true) (hO : O.contains i = false) (hO2 : O.contains j = false) :
    OwnR K O vs (gTup K 2 (gCons (gName i) (gCons (gName j) gNil))) (tupG 2 (consG (nameG i) (consG (nameG j) nilG))) := by
  intro G v d σ H F ρ ρ' Q s r hg q
  cases d with
  | tuple ds =>
    have hg : (if ds.length = 2 then consG (nameG i) (consG (nameG j) nilG) ds (wipeR ρ vs) else none) = some ρ' := hg
    by_cases hl : ds.length = 2
    · rw [if_pos hl] at hg
      obtain ⟨a, us, rfl, h1, h2⟩ := r.tup_inv
      obtain ⟨u1, u2, c1, c2, rfl, rfl, r1, r2⟩ := dpA_two h2 hl
      have hg : some (((wipeR ρ vs).set i (some c1)).set j (some c2)) = some ρ' := hg
      have hg := Option.some.inj hg
      subst hg
      refine ⟨a, [u1, u2], rfl, same_sqT s.sub h1, rfl, u1, [u2], rfl, ?_⟩
      refine ⟨u2, [], rfl, rfl, ?_⟩
      have s1 := s.set i (.dat r1)
      rw [noDrop hO] at s1
      have s2 := s1.set j (.dat r2)
      rw [noDrop hO2] at s2
      exact q _ s2 (wipe_set_two (List.contains_iff_mem.mp hi) (List.contains_iff_mem.mp hj))
    · rw [if_neg hl] at hg; cases hg
  | _ => cases hg
theorem tE_read {K : PySem.W.Frag} {f : EF} (G : Ent) (σ : Sg) (H F : Hp) (ρ : Rho) (d : D) (Q : VK) (s : StRep K G O σ H ρ F) (hf : f ρ = some d) (q : ∀ v H' F', Grow F H F' H' → Rep K F' v d → Q v H') : tE K O f σ H Q := ⟨G, F, ρ, d, s, hf, q⟩
theorem tT_read {K : PySem.W.Frag} {c : BF} (G : Ent) (σ : Sg) (H F : Hp) (ρ : Rho) (b : Bool) (Q : Bool → Hp → Prop) (s : StRep K G O σ H ρ F) (hf : c ρ = some b) (q : ∀ H' F', Grow F H F' H' → Q b H') : tT K O c σ H Q := ⟨G, F, ρ, b, s, hf, q⟩
/-- [elt for tg in iter if ..] -/
theorem dn_comp {vs : List Nat} {tg' : TG} (hi : DI X O tg iter it) (hR : OwnR X.K O vs tg' g) (hc : InBlk X scope fun Y => DTs Y O ifs c) (he : InBlk X scope fun Y => DE Y O elt f)
    (hp : ∀ wi tt te, PI X tg iter wi → InBlk X scope (fun Y => PTs Y ifs tt) → InBlk X scope (fun Y => PE Y elt te) → PE X (.ListComp elt [⟨tg, iter, ifs, 0⟩] scope pos) (tLc wi tg' tt te vs)) :
    DN X O (.ListComp elt [⟨tg, iter, ifs, 0⟩] scope pos) (compA vs it g c f) := by
  obtain ⟨wi, pi, ri⟩ := hi
  exact ⟨_, hp wi (tT X.K O c) (tE X.K O f) pi (fun s H C cl fp => DTs_pt (hc s H C cl fp)) (fun s H C cl fp => DE_pe (he s H C cl fp)),
    fun G σ H F ρ ds Q s hf q => tLc_ok (X := X) ri hR tT_read tE_read G σ H F ρ ds Q s hf q⟩
/-- y = [elt for tg in iter if ..] -/
theorem ds_setComp (i : Nat) {y : Str} {py spos : Pos} {RO : Bool} {LB : List Nat} {vs : List Nat} {tg' : TG} (hi : DI X O tg iter it) (hR : OwnR X.K O vs tg' g) (hc : InBlk X scope fun Y => DTs Y O ifs c) (he : InBlk X scope fun Y => DE Y O elt f)
    (hp : ∀ wi tt te, PI X tg iter wi → InBlk X scope (fun Y => PTs Y ifs tt) → InBlk X scope (fun Y => PE Y elt te) → PS X (.Assign [.Name y py] (.ListComp elt [⟨tg, iter, ifs, 0⟩] scope pos) spos) (tAsg (tLc wi tg' tt te vs) (gName i))) :
    DS X RO O (i :: dropO O i) LB (.Assign [.Name y py] (.ListComp elt [⟨tg, iter, ifs, 0⟩] scope pos) spos) (setL i (compA vs it g c f)) := by
  obtain ⟨wi, pi, ri⟩ := hi
  refine ⟨_, hp wi (tT X.K O c) (tE X.K O f) pi (fun s H C cl fp => DTs_pt (hc s H C cl fp)) (fun s H C cl fp => DE_pe (he s H C cl fp)), fun G σ H F ρ o E s hf q => ?_⟩
  unfold setL at hf
  cases e : compA vs it g c f ρ with
  | none => simp [e] at hf
  | some ds =>
    simp [e] at hf; subst hf
    refine tLc_ok (X := X) ri hR tT_read tE_read G σ H F ρ ds _ s e fun a us H' F' g hn h1 h2 h3 => q _ H' F' ((s.grow g).setOwn i h1 h2 h3 (free_of s.g.hh hn) fun j c hj _ hc => ?_) g.ff
    exact s.ownNe hn j c hj hc
end
end DL

/-! DL, part 6: the rules with their side conditions filled in. -/
namespace DL
open PySem PySem.Spec PyProof.Rows L2

/-- a def of the top keeps its promise -/
def DefOk (P : Program) (w : World) (K : PySem.W.Frag) (mg : Str → Option Value) (name : Str) (k : Nat) (ps : List Str) (own : Bool) (Fn : List D → Option D) : Prop :=
  ∃ (fa : Addr) (fd : FuncData), mg name = some (.ref fa) ∧ PySem.W.keepIn K (.ref fa) = true ∧ (∀ (s : Shared) (us : List Value), us.length = ps.length → BindsTo s fd ⟨us, []⟩ (ps.zip us)) ∧
    ∀ base : Heap, FnOk P w K mg base CX0 k fa fd ps (SpD K own ps.length Fn)
theorem binds_of {K : PySem.W.Frag} {fd : FuncData} {ps : List Str} (h : ∀ (s : Shared) (us : List Value), us.length = ps.length → BindsTo s fd ⟨us, []⟩ (ps.zip us)) : Binds K fd ps [] := fun s us _ hl => by
  rw [List.append_nil] at hl ⊢
  exact h s us hl

section
variable {X : Cx} {RO : Bool} {O O' O1 O2 LB : List Nat} {e a1 a2 : Expr} {es : List Expr} {f g : EF} {fa : AF} {pos p p1 p2 py spos : Pos} {st : Stmt} {xs rest : List Stmt} {s1 s2 : SF} {x y : Str} {c : BF}

theorem e_v (i : Nat) (hO : O.contains i = false := by rfl) (hN : X.N[i]? = some x := by rfl) (hv : Vis X.env.scope x := by first | exact Or.inl rfl | exact Or.inr (Or.inl rfl) | exact Or.inr (Or.inr rfl))
    (hd : (x == ("__debug__" : Str)) = false := by decide) (hcd : (x == ("__classdict__" : Str)) = false := by decide) : DE X O (.Name x pos) (vE i) := de_var i hO (pe_var hN hv hd hcd)
theorem r_v (i : Nat) (hN : X.N[i]? = some x := by rfl) (hv : Vis X.env.scope x := by first | exact Or.inl rfl | exact Or.inr (Or.inl rfl) | exact Or.inr (Or.inr rfl))
    (hd : (x == ("__debug__" : Str)) = false := by decide) (hcd : (x == ("__classdict__" : Str)) = false := by decide) : DR X O (.Name x pos) (vE i) := dr_var i (pe_var hN hv hd hcd)
theorem e_call {k : Nat} {ps : List Str} {Fn : List D → Option D} (h : DefOk X.prog X.w X.K X.mg x k ps false Fn) {j : Nat} (hr : Room j X.A) (hk : Nat.ble k j = true) (ha : DA X O (e :: es) fa) (hn : es.length + 1 = ps.length := by rfl)
    (hg : Gl X x := by rfl) (hdb : (x == ("__debug__" : Str)) = false := by decide) (he : starEach (e :: es) X.env = (false, eval e X.env) :: starEach es X.env := by rfl) (hpl : (backTo pos (starEach es X.env)).any (·.1) = false := by rfl) :
    DE X O (.Call (.Name x p) (e :: es) [] pos) (callE Fn fa) := by
  obtain ⟨fad, fd, hm, hkp, hb, F⟩ := h
  exact de_call (F X.base) hn ha fun t pt => pe_call (F X.base) (hr.mono (Nat.le_of_ble_eq_true hk)) hg hm hkp (binds_of hb) .nil pass0 pt hdb he hpl
theorem n_call {k : Nat} {ps : List Str} {Fn : List D → Option D} (h : DefOk X.prog X.w X.K X.mg x k ps true Fn) {j : Nat} (hr : Room j X.A) (hk : Nat.ble k j = true) (ha : DA X O (e :: es) fa) (hn : es.length + 1 = ps.length := by rfl)
    (hg : Gl X x := by rfl) (hdb : (x == ("__debug__" : Str)) = false := by decide) (he : starEach (e :: es) X.env = (false, eval e X.env) :: starEach es X.env := by rfl) (hpl : (backTo pos (starEach es X.env)).any (·.1) = false := by rfl) :
    DN X O (.Call (.Name x p) (e :: es) [] pos) (callL Fn fa) := by
  obtain ⟨fad, fd, hm, hkp, hb, F⟩ := h
  exact dn_call (F X.base) hn ha fun t pt => pe_call (F X.base) (hr.mono (Nat.le_of_ble_eq_true hk)) hg hm hkp (binds_of hb) .nil pass0 pt hdb he hpl
theorem e_abs (ha : DE X O e f) (hm : X.mg "abs" = none) (hg : Gl X "abs" := by rfl) (hs : starEach (e :: []) X.env = (false, eval e X.env) :: starEach [] X.env := by rfl) (hpl : (backTo pos (starEach [] X.env)).any (·.1) = false := by rfl) :
    DE X O (.Call (.Name "abs" p) [e] [] pos) (o1 absD f) := de_bi bi_abs (DE_r ha) fun t pt => pe_callB call_abs hg hm (by decide +kernel) (pa_one pt hs) (by decide) (by decide) hs hpl
theorem e_len (ha : DR X O e f) (hm : X.mg "len" = none) (hg : Gl X "len" := by rfl) (hs : starEach (e :: []) X.env = (false, eval e X.env) :: starEach [] X.env := by rfl) (hpl : (backTo pos (starEach [] X.env)).any (·.1) = false := by rfl) :
    DE X O (.Call (.Name "len" p) [e] [] pos) (o1 lenD f) := de_bi bi_len ha fun t pt => pe_callB call_len_seq hg hm (by decide +kernel) (pa_one pt hs) (by decide) (by decide) hs hpl
theorem e_sum (ha : DR X O e f) (hm : X.mg "sum" = none) (hc : X.calm = true := by rfl) (hg : Gl X "sum" := by rfl) (hs : starEach (e :: []) X.env = (false, eval e X.env) :: starEach [] X.env := by rfl) (hpl : (backTo pos (starEach [] X.env)).any (·.1) = false := by rfl) :
    DE X O (.Call (.Name "sum" p) [e] [] pos) (o1 sumD f) := de_bi bi_sum ha fun t pt => pe_callB (cr_sum hc) hg hm (by decide +kernel) (pa_one pt hs) (by decide) (by decide) hs hpl
theorem e_min (ha : DR X O e f) (hm : X.mg "min" = none) (hc : X.calm = true := by rfl) (hg : Gl X "min" := by rfl) (hs : starEach (e :: []) X.env = (false, eval e X.env) :: starEach [] X.env := by rfl) (hpl : (backTo pos (starEach [] X.env)).any (·.1) = false := by rfl) :
    DE X O (.Call (.Name "min" p) [e] [] pos) (o1 minD f) := de_bi bi_min ha fun t pt => pe_callB (cr_min hc) hg hm (by decide +kernel) (pa_one pt hs) (by decide) (by decide) hs hpl
theorem e_max (ha : DR X O e f) (hm : X.mg "max" = none) (hc : X.calm = true := by rfl) (hg : Gl X "max" := by rfl) (hs : starEach (e :: []) X.env = (false, eval e X.env) :: starEach [] X.env := by rfl) (hpl : (backTo pos (starEach [] X.env)).any (·.1) = false := by rfl) :
    DE X O (.Call (.Name "max" p) [e] [] pos) (o1 maxD f) := de_bi bi_max ha fun t pt => pe_callB (cr_max hc) hg hm (by decide +kernel) (pa_one pt hs) (by decide) (by decide) hs hpl
theorem e_min2 (ha : DE X O a1 f) (hb : DE X O a2 g) (hm : X.mg "min" = none) (hc : X.calm = true := by rfl) (hg : Gl X "min" := by rfl) (hs : starEach (a1 :: [a2]) X.env = (false, eval a1 X.env) :: starEach [a2] X.env := by rfl) (hs2 : starEach (a2 :: []) X.env = (false, eval a2 X.env) :: starEach [] X.env := by rfl)
    (hpl : (backTo pos (starEach [a2] X.env)).any (·.1) = false := by rfl) : DE X O (.Call (.Name "min" p) [a1, a2] [] pos) (o2 min2D f g) := de_min2 ha hb hs hs2 fun t pt => pe_callB (call_min2 hc) hg hm (by decide +kernel) pt (by decide) (by decide) hs hpl
theorem e_max2 (ha : DE X O a1 f) (hb : DE X O a2 g) (hm : X.mg "max" = none) (hc : X.calm = true := by rfl) (hg : Gl X "max" := by rfl) (hs : starEach (a1 :: [a2]) X.env = (false, eval a1 X.env) :: starEach [a2] X.env := by rfl) (hs2 : starEach (a2 :: []) X.env = (false, eval a2 X.env) :: starEach [] X.env := by rfl)
    (hpl : (backTo pos (starEach [a2] X.env)).any (·.1) = false := by rfl) : DE X O (.Call (.Name "max" p) [a1, a2] [] pos) (o2 max2D f g) := de_max2 ha hb hs hs2 fun t pt => pe_callB (call_max2 hc) hg hm (by decide +kernel) pt (by decide) (by decide) hs hpl
theorem e_int (ha : DE X O e f) (hm : X.mg "int" = none) (hg : Gl X "int" := by rfl) (hs : starEach (e :: []) X.env = (false, eval e X.env) :: starEach [] X.env := by rfl) (hpl : (backTo pos (starEach [] X.env)).any (·.1) = false := by rfl) :
    DE X O (.Call (.Name "int" p) [e] [] pos) (o1 toIntD f) := de_bi bi_int (DE_r ha) fun t pt => pe_callTy call_int1 hg hm (by decide +kernel) (pa_one pt hs) (by decide) (by decide) hs hpl
theorem n_list (ha : DR X O e f) (hm : X.mg "list" = none) (hg : Gl X "list" := by rfl) (hs : starEach (e :: []) X.env = (false, eval e X.env) :: starEach [] X.env := by rfl) (hpl : (backTo pos (starEach [] X.env)).any (·.1) = false := by rfl) :
    DN X O (.Call (.Name "list" p) [e] [] pos) (o1L listD f) := dn_bi bi_list ha fun t pt => pe_callTy call_list_of hg hm (by decide +kernel) (pa_one pt hs) (by decide) (by decide) hs hpl
/-- isinstance(e, T) -/
theorem e_isi (T : String) {xT : Str} (ha : DR X O e f) (hm : X.mg "isinstance" = none) (hmT : X.mg xT = none) (hv : bootBuiltins xT = some (.type T) := by decide +kernel) (hg : Gl X "isinstance" := by rfl) (hgT : Gl X xT := by rfl)
    (hn : xT ≠ "__name__" := by decide) (hd : (xT == ("__debug__" : Str)) = false := by decide)
    (hs : starEach (e :: [.Name xT p1]) X.env = (false, eval e X.env) :: starEach [.Name xT p1] X.env := by rfl) (hs2 : starEach (.Name xT p1 :: []) X.env = (false, eval (.Name xT p1) X.env) :: starEach [] X.env := by rfl)
    (hpl : (backTo pos (starEach [.Name xT p1] X.env)).any (·.1) = false := by rfl) : DE X O (.Call (.Name "isinstance" p) [e, .Name xT p1] [] pos) (o1 (isiD T) f) :=
  de_isi ha fun t pt => pe_callB call_isi hg hm (by decide +kernel) (pa_cons pt (pa_cons (pe_bltn hgT hmT hv rfl hn hd) pa_nil hs2) hs) (by decide) (by decide) hs hpl

theorem c_eq {k : Nat} (hr : Room k X.A) (ha : DR X O a1 f) (hb : DR X O a2 g) : DC X O .Eq a1 a2 (o2 eqD f g) := dc_eq hr.units ha hb
theorem c_ne {k : Nat} (hr : Room k X.A) (ha : DR X O a1 f) (hb : DR X O a2 g) : DC X O .NotEq a1 a2 (o2 neD f g) := dc_ne hr.units ha hb
theorem c_in {k : Nat} (hr : Room k X.A) (ha : DR X O a1 f) (hb : DR X O a2 g) : DC X O .In a1 a2 (o2 inD f g) := dc_in (by have := hr.un; omega) ha hb
theorem c_nin {k : Nat} (hr : Room k X.A) (ha : DR X O a1 f) (hb : DR X O a2 g) : DC X O .NotIn a1 a2 (o2 ninD f g) := dc_nin (by have := hr.un; omega) ha hb
theorem e_cmp {op : CmpOp} (h : DC X O op a1 a2 f) (hm : behindInMarks op a2 = false := by first | exact nomark _ | rfl) : DE X O (.Compare a1 [op] [a2] pos) f := de_cmp h hm
theorem t_cmp {op : CmpOp} (h : DC X O op a1 a2 f) (hm : behindInMarks op a2 = false := by first | exact nomark _ | rfl) : DT X O (.Compare a1 [op] [a2] pos) (tb f) := dt_cmp h hm

theorem s_set (i : Nat) (hN : X.N.Nodup) (he : DE X O e f) (hO : dropO O i = O2 := by rfl) (hi : X.N[i]? = some x := by rfl) (hx : Loc X.env.scope x := by first | exact Or.inl rfl | exact Or.inr rfl) (hs : swapsWith e (some (.Name x py)) pos.line X.env = pure false := by rfl)
    (hf : X.fn x = true ∨ X.env.scope.names.lookup x = some .local := by exact Or.inl rfl) : DS X RO O O2 LB (.Assign [.Name x py] e pos) (setF i f) := hO ▸ ds_set i he fun t pt => ps_set hN hi hx pt hs hf
theorem s_setN (i : Nat) (hN : X.N.Nodup) (he : DN X O e fa) (hO : i :: dropO O i = O2 := by rfl) (hi : X.N[i]? = some x := by rfl) (hx : Loc X.env.scope x := by first | exact Or.inl rfl | exact Or.inr rfl) (hs : swapsWith e (some (.Name x py)) pos.line X.env = pure false := by rfl)
    (hf : X.fn x = true ∨ X.env.scope.names.lookup x = some .local := by exact Or.inl rfl) : DS X RO O O2 LB (.Assign [.Name x py] e pos) (setL i fa) := hO ▸ ds_setN i he fun t pt => ps_set hN hi hx pt hs hf
theorem s_par (i j : Nat) {kt k2 : Nat} {pt pt2 : Pos} (hN : X.N.Nodup) (ha : DE X O a1 f) (hb : DE X O a2 g) (hO : dropO (dropO O i) j = O2 := by rfl) (hc : X.calm = true := by rfl) (hi : X.N[i]? = some x := by rfl) (hj : X.N[j]? = some y := by rfl) (hij : i ≠ j := by decide)
    (hx : X.env.scope.names.lookup x = some .local := by rfl) (hy : X.env.scope.names.lookup y = some .local := by rfl)
    (hw : swappedStores [.Tuple [.Name x p1, .Name y p2] kt pt] (.Tuple [a1, a2] k2 pt2) X.env = pure (some [x, y]) := by rfl)
    (hsw : swapsWithSole [.Tuple [.Name x p1, .Name y p2] kt pt] (.Tuple [a1, a2] k2 pt2) pos.line X.env = pure false := by rfl)
    (hs : starEach (a1 :: [a2]) X.env = (false, eval a1 X.env) :: starEach [a2] X.env := by rfl) (hs2 : starEach (a2 :: []) X.env = (false, eval a2 X.env) :: starEach [] X.env := by rfl) :
    DS X RO O O2 LB (.Assign [.Tuple [.Name x p1, .Name y p2] kt pt] (.Tuple [a1, a2] k2 pt2) pos) (parF i j f g) := hO ▸ ds_par i j ha hb hs hs2 fun t pt => ps_par hc hN hi hj hij hx hy pt hw hsw

theorem s_while (fuel : Rho → Nat) {c : BF} {b : SF} (hc : DT X O e c) (hb : DSs X RO O O O xs b) (hx : PassesOwn (model X.prog X.w) X.A X.env X.xe := by exact PassesOwn.never) : DS X RO O O LB (.While e xs [] pos) (whileF fuel c b) :=
  ds_while fuel hc hb fun t u pt pu => ps_while hx pt pu
theorem s_for {it : AF} {tg iter : Expr} {g : TgF} {b : SF} (hi : DI X O tg iter it) (hg : DG X O O1 tg g) (hb : DSs X RO O1 O O xs b) (hx : PassesOwn (model X.prog X.w) X.A X.env X.xe := by exact PassesOwn.never) (hc : X.calm = true := by rfl)
    (hs : ∀ x, foldedSetIterable iter X.env x = pure x := by intro _; rfl) : DS X RO O O LB (.For tg iter xs [] pos) (forF it g b) := ds_for hi hg hb fun wi t u p1 p2 p3 => ps_for hx hc p1 p2 p3 hs
theorem g_name (i : Nat) (hN : X.N.Nodup) (hO : dropO O i = O2 := by rfl) (hi : X.N[i]? = some x := by rfl) (hx : Loc X.env.scope x := by first | exact Or.inl rfl | exact Or.inr rfl) (hf : X.fn x = true ∨ X.env.scope.names.lookup x = some .local := by first | exact Or.inl rfl | exact Or.inr rfl) :
    DG X O O2 (.Name x pos) (nameG i) := hO ▸ dg_name i (pg_name hN hi hx hf)
theorem gs_nil : DGs X O O [] nilG := dgs_nil
theorem gs_cons {g : TgF} {r : TgsF} (h1 : DG X O O1 e g) (h2 : DGs X O1 O2 es r) (hs : (assignEach (e :: es) X.env).map (·.2) = assign e X.env :: (assignEach es X.env).map (·.2) := by rfl) : DGs X O O2 (e :: es) (consG g r) := dgs_cons h1 h2 fun t u p q => pgs_cons p q hs
theorem g_tup {n k : Nat} {g : TgsF} (h : DGs X O O2 es g) (hc : X.calm = true := by rfl) (hn : (assignEach es X.env).length = n := by rfl) (hst : (assignEach es X.env).findIdx? (·.1) = none := by rfl) : DG X O O2 (.Tuple es k pos) (tupG n g) := dg_tup h fun t q => pg_tup hc q hn hst
theorem i_list {tg : Expr} (h : DE X O e f) : DI X O tg e (itemsF f) := di_list h
theorem i_rng1 {tg : Expr} (h : DE X O e f) (hm : X.mg "range" = none) (hg : Gl X "range" := by rfl) (hs : starEach [e] X.env = [(false, eval e X.env)] := by rfl) (hs1 : starEach (e :: []) X.env = (false, eval e X.env) :: starEach [] X.env := by rfl) :
    DI X O tg (.Call (.Name "range" p) [e] [] pos) (rng1F f) := di_range1 h (fun t pt => pi_range1 hg hm pt hs) hs1
theorem i_rng2 {tg : Expr} (ha : DE X O a1 f) (hb : DE X O a2 g) (hm : X.mg "range" = none) (hg : Gl X "range" := by rfl) (hs : starEach [a1, a2] X.env = [(false, eval a1 X.env), (false, eval a2 X.env)] := by rfl) (hs2 : starEach [a2] X.env = [(false, eval a2 X.env)] := by rfl)
    (hs1 : starEach (a1 :: [a2]) X.env = (false, eval a1 X.env) :: starEach [a2] X.env := by rfl) (hs3 : starEach (a2 :: []) X.env = (false, eval a2 X.env) :: starEach [] X.env := by rfl) :
    DI X O tg (.Call (.Name "range" p) [a1, a2] [] pos) (rng2F f g) := di_range2 ha hb (fun t pt => pi_range2 hg hm pt hs hs2) hs1 hs3
theorem i_enum {elts : List Expr} {kk : Nat} {tpos : Pos} (h : DE X O e f) (hm : X.mg "enumerate" = none) (hg : Gl X "enumerate" := by rfl) (hs : starEach [e] X.env = [(false, eval e X.env)] := by rfl) (hs1 : starEach (e :: []) X.env = (false, eval e X.env) :: starEach [] X.env := by rfl) :
    DI X O (.Tuple elts kk tpos) (.Call (.Name "enumerate" p) [e] [] pos) (enumF f) := di_enum h (fun t pt => pi_enum hg hm pt hs) hs1
theorem i_zip {elts : List Expr} {kk : Nat} {tpos : Pos} (ha : DE X O a1 f) (hb : DE X O a2 g) (hm : X.mg "zip" = none) (hg : Gl X "zip" := by rfl)
    (hs1 : starEach (a1 :: [a2]) X.env = (false, eval a1 X.env) :: starEach [a2] X.env := by rfl) (hs3 : starEach (a2 :: []) X.env = (false, eval a2 X.env) :: starEach [] X.env := by rfl) (hpl : (backTo pos (starEach [a2] X.env)).any (·.1) = false := by rfl) :
    DI X O (.Tuple elts kk tpos) (.Call (.Name "zip" p) [a1, a2] [] pos) (zipF f g) := di_zip ha hb (fun t pt => pi_zip hg hm pt hs1 hpl) hs1 hs3
/-- a, b = e -/
theorem s_asg {es : List Expr} {kt : Nat} {pt : Pos} {n : Nat} {g : TgsF} (he : DE X O e f) (hg : DGs X O O2 es g) (hc : X.calm = true := by rfl) (hn : (assignEach es X.env).length = n := by rfl) (hst : (assignEach es X.env).findIdx? (·.1) = none := by rfl)
    (hs : swapsWithSole [.Tuple es kt pt] e pos.line X.env = pure false := by rfl) (hw : swappedStores [.Tuple es kt pt] e X.env = pure none := by rfl) :
    DS X RO O O2 LB (.Assign [.Tuple es kt pt] e pos) (asgF f (tupG n g)) := ds_asg he (dg_tup hg fun t q => pg_tup hc q hn hst) fun t u p q => ps_asg p q hs hw
theorem s_app (i : Nat) {ap cp : Pos} (he : DE X O e f) (hO : O.contains i = true := by rfl) (hN : X.N[i]? = some x := by rfl) (hv : Vis X.env.scope x := by first | exact Or.inl rfl | exact Or.inr (Or.inl rfl) | exact Or.inr (Or.inr rfl))
    (hd : (x == ("__debug__" : Str)) = false := by decide) (hcd : (x == ("__classdict__" : Str)) = false := by decide) (hs1 : starEach (e :: []) X.env = (false, eval e X.env) :: starEach [] X.env := by rfl)
    (hbase : attributeBase (.Name x p1) "append" X.env (eval (.Name x p1) X.env) = eval (.Name x p1) X.env := by rfl)
    (hfew : ((backTo cp (starEach (e :: []) X.env)).all (fun x => !x.1) && (backToKw cp (keywordEach [] X.env)).all (fun x => x.1.isSome)
      && decide ((e :: []).length + ([] : List Keyword).length + (if ([] : List Keyword).isEmpty then 0 else 1) < 30)) = true := by rfl)
    (hline : (ap.endLine == cp.line) = true := by rfl) (hplain : (backTo cp (starEach [] X.env)).any (·.1) = false := by rfl)
    (hsw : swapsWith (.Call (.Attribute (.Name x p1) "append" ap) [e] [] cp) none spos.line X.env = pure false := by rfl) :
    DS X RO O O LB (.Expr (.Call (.Attribute (.Name x p1) "append" ap) [e] [] cp) spos) (appF i f) :=
  ds_append i hO (pe_var hN hv hd hcd) he hs1 fun t u pt pu => ps_expr (pe_bm PySem.F.plainAttrs_list PySem.F.slot_list_append PySem.F.type_list_append mt_append pt pu hbase hfew hline hs1 hplain) hsw
theorem s_pop (i : Nat) {ap cp : Pos} (hO : O.contains i = true := by rfl) (hN : X.N[i]? = some x := by rfl) (hv : Vis X.env.scope x := by first | exact Or.inl rfl | exact Or.inr (Or.inl rfl) | exact Or.inr (Or.inr rfl))
    (hd : (x == ("__debug__" : Str)) = false := by decide) (hcd : (x == ("__classdict__" : Str)) = false := by decide)
    (hbase : attributeBase (.Name x p1) "pop" X.env (eval (.Name x p1) X.env) = eval (.Name x p1) X.env := by rfl)
    (hline : (ap.endLine == cp.line) = true := by rfl) (hsw : swapsWith (.Call (.Attribute (.Name x p1) "pop" ap) [] [] cp) none spos.line X.env = pure false := by rfl) :
    DS X RO O O LB (.Expr (.Call (.Attribute (.Name x p1) "pop" ap) [] [] cp) spos) (popF i) :=
  ds_pop i hO (pe_var hN hv hd hcd) fun t pt => ps_expr (pe_bm0 PySem.F.plainAttrs_list PySem.F.slot_list_pop PySem.F.type_list_pop mt_pop pt hbase hline) hsw
theorem s_clear (i : Nat) {ap cp : Pos} (hO : O.contains i = true := by rfl) (hN : X.N[i]? = some x := by rfl) (hv : Vis X.env.scope x := by first | exact Or.inl rfl | exact Or.inr (Or.inl rfl) | exact Or.inr (Or.inr rfl))
    (hd : (x == ("__debug__" : Str)) = false := by decide) (hcd : (x == ("__classdict__" : Str)) = false := by decide)
    (hbase : attributeBase (.Name x p1) "clear" X.env (eval (.Name x p1) X.env) = eval (.Name x p1) X.env := by rfl)
    (hline : (ap.endLine == cp.line) = true := by rfl) (hsw : swapsWith (.Call (.Attribute (.Name x p1) "clear" ap) [] [] cp) none spos.line X.env = pure false := by rfl) :
    DS X RO O O LB (.Expr (.Call (.Attribute (.Name x p1) "clear" ap) [] [] cp) spos) (clearF i) :=
  ds_clear i hO (pe_var hN hv hd hcd) fun t pt => ps_expr (pe_bm0 PySem.F.plainAttrs_list PySem.F.slot_list_clear PySem.F.type_list_clear mt_clear pt hbase hline) hsw
theorem s_put (i : Nat) (he : DE X O e f) (hk : DE X O a1 g) (hO : O.contains i = true := by rfl) (hN : X.N[i]? = some x := by rfl) (hv : Vis X.env.scope x := by first | exact Or.inl rfl | exact Or.inr (Or.inl rfl) | exact Or.inr (Or.inr rfl))
    (hd : (x == ("__debug__" : Str)) = false := by decide) (hcd : (x == ("__classdict__" : Str)) = false := by decide)
    (ha : ∀ v, assign (.Subscript (.Name x p1) a1 p2) X.env v = (do
      let ov ← holding [v] (eval (.Name x p1) X.env)
      let iv ← holding [v, ov] (eval a1 X.env)
      standAt p2
      holding [v, ov, iv] (setItem ov iv v)
      release [v, ov, iv] []) := by intro _; rfl)
    (hs : swapsWithSole [.Subscript (.Name x p1) a1 p2] e pos.line X.env = pure false := by rfl) (hw : swappedStores [.Subscript (.Name x p1) a1 p2] e X.env = pure none := by rfl) :
    DS X RO O O LB (.Assign [.Subscript (.Name x p1) a1 p2] e pos) (putF i f g) := ds_put i hO (pe_var hN hv hd hcd) he hk fun t u w pt pu pw => ps_asg pt (pg_sub pu pw set_list ha) hs hw
theorem s_retOwn (i : Nat) (hO : O.contains i = true := by rfl) (hN : X.N[i]? = some x := by rfl) (hv : Vis X.env.scope x := by first | exact Or.inl rfl | exact Or.inr (Or.inl rfl) | exact Or.inr (Or.inr rfl))
    (hd : (x == ("__debug__" : Str)) = false := by decide) (hcd : (x == ("__classdict__" : Str)) = false := by decide) : DS X true O O' LB (.Return (some (.Name x p2)) pos) (retV i) := ds_retOwn i hO (pe_var hN hv hd hcd)
/-- a bound for a loop that an int of slot i rules -/
def natAt (ρ : Rho) (i : Nat) : Nat := match getv ρ i with
  | some (.int k) => k.natAbs + 1
  | some (.list ds) => ds.length + 1
  | _ => 1
theorem s_setComp' (i : Nat) {elt tg iter : Expr} {ifs : List Expr} {scope : Scope} {it : AF} {g : TgF} {c : BF} {f : EF} {vs : List Nat} {tg' : TG} (hi : DI X O tg iter it) (hR : OwnR X.K O vs tg' g) (hc : InBlk X scope fun Y => DTs Y O ifs c) (he : InBlk X scope fun Y => DE Y O elt f)
    (hp : ∀ wi tt te, PI X tg iter wi → InBlk X scope (fun Y => PTs Y ifs tt) → InBlk X scope (fun Y => PE Y elt te) → PS X (.Assign [.Name y py] (.ListComp elt [⟨tg, iter, ifs, 0⟩] scope pos) spos) (tAsg (tLc wi tg' tt te vs) (gName i)))
    (hO : i :: dropO O i = O2 := by rfl) : DS X RO O O2 LB (.Assign [.Name y py] (.ListComp elt [⟨tg, iter, ifs, 0⟩] scope pos) spos) (setL i (compA vs it g c f)) := hO ▸ ds_setComp i hi hR hc he hp
end
end DL

/-! DL, part 7: the end of a law. -/
namespace DL
open PySem PySem.Spec PyProof.Rows L2
def intsL (ns : List Int) : D := .list (ns.map PyData.int)
theorem dpAll_ints {K : PySem.W.Frag} {H : Hp} : ∀ ns : List Int, DpAll K H (ns.map V.int) (ns.map PyData.int)
  | [] => .nil
  | n :: r => .cons (.int n) (dpAll_ints r)
theorem law_sp {K : PySem.W.Frag} {Fn : List D → Option D} {H : Hp} {a : Addr} {ns : List Int} (hS : SqL K H a (ns.map V.int)) (h : Fn [intsL ns] = some (.bool true)) : SpD K false 1 Fn [.ref a] H (fun v _ => v = .bl true) fun _ _ _ => False :=
  ⟨H, [intsL ns], .bool true, rfl, Same.refl H, .cons (.dat (.lst hS (dpAll_ints ns))) .nil, h, fun v H' F' _ r => Rep.bl_inv r⟩
/-- what walk_ofE asks of F -/
theorem law_end {P : Program} {w : World} {K : PySem.W.Frag} {mg : Str → Option Value} {h : Heap} {fa : Addr} {k : Nat} {x : Str} {Fn : List D → Option D} {n : Nat} (KX : K.In h) (hfa : mg ("law" : Str) = some (.ref fa))
    (D0 : DefOk P w K mg "law" k [x] false Fn) (ht : ∀ ns : List Int, ns.length ≤ n → Fn [intsL ns] = some (.bool true)) :
    ∃ (K : PySem.W.Frag) (fd : FuncData) (sp : Sp), K.In h ∧ (∀ (s : Shared) (u : Value), BindsTo s fd ⟨[u], []⟩ [(x, u)]) ∧
      (∀ (H : Hp) (a : Addr) (ns : List Int), ns.length ≤ n → Only H → SqL K H a (ns.map V.int) → sp [.ref a] H (fun v _ => v = .bl true) fun _ _ _ => False) ∧
      ∀ base : Heap, K.In base → base.Ns mainGlobals mg → FnOk P w K mg base CX0 k fa fd [x] sp := by
  obtain ⟨fa0, fd0, hm0, hk0, hb0, hF0⟩ := D0
  have e0 := hfa.symm.trans hm0
  cases e0
  exact ⟨K, fd0, SpD K false 1 Fn, KX, fun s u => hb0 s [u] rfl, fun H a ns hl _ hS => law_sp hS (ht ns hl), fun base _ _ => hF0 base⟩
end DL

/-! DL, part 8: evaluation of the semantic words; sizes; fractions as Rat. -/
namespace DL
open PySem PySem.Spec PyProof.Rows L2

/-! ### evaluation -/
@[simp] theorem vE_0 {a : Option D} {r : Rho} : vE 0 (a :: r) = a := by cases a <;> rfl
@[simp] theorem vE_s {a : Option D} {r : Rho} {i : Nat} : vE (i + 1) (a :: r) = vE i r := rfl
@[simp] theorem vE_1 {a b : Option D} {r : Rho} : vE 1 (a :: b :: r) = b := by cases b <;> rfl
@[simp] theorem vE_2 {a b c : Option D} {r : Rho} : vE 2 (a :: b :: c :: r) = c := by cases c <;> rfl
@[simp] theorem vE_3 {a b c d : Option D} {r : Rho} : vE 3 (a :: b :: c :: d :: r) = d := by cases d <;> rfl
@[simp] theorem vE_4 {a b c d e : Option D} {r : Rho} : vE 4 (a :: b :: c :: d :: e :: r) = e := by cases e <;> rfl
@[simp] theorem vE_5 {a b c d e f : Option D} {r : Rho} : vE 5 (a :: b :: c :: d :: e :: f :: r) = f := by cases f <;> rfl
@[simp] theorem vE_6 {a b c d e f g : Option D} {r : Rho} : vE 6 (a :: b :: c :: d :: e :: f :: g :: r) = g := by cases g <;> rfl
@[simp] theorem vE_7 {a b c d e f g h : Option D} {r : Rho} : vE 7 (a :: b :: c :: d :: e :: f :: g :: h :: r) = h := by cases h <;> rfl
@[simp] theorem vE_8 {a b c d e f g h i : Option D} {r : Rho} : vE 8 (a :: b :: c :: d :: e :: f :: g :: h :: i :: r) = i := by cases i <;> rfl
@[simp] theorem getv_0 {a : Option D} {r : Rho} : getv (a :: r) 0 = a := by cases a <;> rfl
@[simp] theorem getv_s {a : Option D} {r : Rho} {i : Nat} : getv (a :: r) (i + 1) = getv r i := rfl
@[simp] theorem getv_1 {a b : Option D} {r : Rho} : getv (a :: b :: r) 1 = b := vE_1
@[simp] theorem getv_2 {a b c : Option D} {r : Rho} : getv (a :: b :: c :: r) 2 = c := vE_2
@[simp] theorem getv_3 {a b c d : Option D} {r : Rho} : getv (a :: b :: c :: d :: r) 3 = d := vE_3
@[simp] theorem getv_4 {a b c d e : Option D} {r : Rho} : getv (a :: b :: c :: d :: e :: r) 4 = e := vE_4
@[simp] theorem getv_5 {a b c d e f : Option D} {r : Rho} : getv (a :: b :: c :: d :: e :: f :: r) 5 = f := vE_5
@[simp] theorem getv_6 {a b c d e f g : Option D} {r : Rho} : getv (a :: b :: c :: d :: e :: f :: g :: r) 6 = g := vE_6
@[simp] theorem getv_7 {a b c d e f g h : Option D} {r : Rho} : getv (a :: b :: c :: d :: e :: f :: g :: h :: r) 7 = h := vE_7
@[simp] theorem getv_8 {a b c d e f g h i : Option D} {r : Rho} : getv (a :: b :: c :: d :: e :: f :: g :: h :: i :: r) 8 = i := vE_8
@[simp] theorem cE_e {d : D} {r : Rho} : cE d r = some d := rfl
@[simp] theorem o2_e {op : D → D → Option D} {f g : EF} {r : Rho} : o2 op f g r = (f r).bind fun x => (g r).bind fun y => op x y := rfl
@[simp] theorem o1_e {op : D → Option D} {f : EF} {r : Rho} : o1 op f r = (f r).bind op := rfl
@[simp] theorem addD_i {a b : Int} : addD (.int a) (.int b) = some (.int (a + b)) := rfl
@[simp] theorem subD_i {a b : Int} : subD (.int a) (.int b) = some (.int (a - b)) := rfl
@[simp] theorem absD_i {a : Int} : absD (.int a) = some (.int a.natAbs) := by
  simp only [absD, Option.some.injEq, PyData.int.injEq]
  split <;> omega
@[simp] theorem negD_i {a : Int} : negD (.int a) = some (.int (-a)) := rfl
@[simp] theorem ltD_i {a b : Int} : ltD (.int a) (.int b) = some (.bool (decide (a < b))) := rfl
@[simp] theorem leD_i {a b : Int} : leD (.int a) (.int b) = some (.bool (decide (a ≤ b))) := rfl
@[simp] theorem gtD_i {a b : Int} : gtD (.int a) (.int b) = some (.bool (decide (b < a))) := rfl
@[simp] theorem geD_i {a b : Int} : geD (.int a) (.int b) = some (.bool (decide (b ≤ a))) := rfl
theorem shaped_int {i : Int} : SeqAt.shaped (.int i) = true := rfl
theorem shaped_bool {i : Bool} : SeqAt.shaped (.bool i) = true := rfl
@[simp] theorem eqD_i {a b : Int} : eqD (.int a) (.int b) = some (.bool (decide (a = b))) := by
  unfold eqD
  rw [if_pos ⟨rfl, rfl⟩]
  simp [PyData.eqv, Bool.beq_eq_decide_eq]
@[simp] theorem neD_i {a b : Int} : neD (.int a) (.int b) = some (.bool (!decide (a = b))) := by
  unfold neD
  rw [if_pos ⟨rfl, rfl⟩]
  simp [PyData.eqv, Bool.beq_eq_decide_eq]
@[simp] theorem neD_b {a b : Bool} : neD (.bool a) (.bool b) = some (.bool (!decide (a = b))) := by
  unfold neD
  rw [if_pos ⟨rfl, rfl⟩]
  simp [PyData.eqv, Bool.beq_eq_decide_eq]
@[simp] theorem eqD_b {a b : Bool} : eqD (.bool a) (.bool b) = some (.bool (decide (a = b))) := by
  unfold eqD
  rw [if_pos ⟨rfl, rfl⟩]
  simp [PyData.eqv, Bool.beq_eq_decide_eq]
@[simp] theorem mulD_i {a b : Int} (h : mulB a b = true) : mulD (.int a) (.int b) = some (.int (a * b)) := by simp [mulD, h]
@[simp] theorem fdivD_i {a b : Int} (h : divB a b = true) : fdivD (.int a) (.int b) = some (.int (a.fdiv b)) := by simp [fdivD, h]
theorem modD_i {a b : Int} (h : b ≠ 0) : modD (.int a) (.int b) = some (.int (a.fmod b)) := by simp [modD, h]
@[simp] theorem modD_pos {a b : Int} (h : 0 < b) : modD (.int a) (.int b) = some (.int (a % b)) := by
  rw [modD_i (by omega), Int.fmod_eq_emod_of_nonneg a (by omega)]
theorem fdivD_pos {a b : Int} (h : 0 < b) (h2 : b.natAbs < 2 ^ 9000) : fdivD (.int a) (.int b) = some (.int (a / b)) := by
  rw [fdivD_i, Int.fdiv_eq_ediv_of_nonneg a (by omega)]
  unfold divB
  rw [PyProof.noPylong_of_log2 ((Nat.log2_lt (by omega)).mpr h2)]
  simp; omega
@[simp] theorem skipF_e {r : Rho} : skipF r = some (.nx r) := rfl
@[simp] theorem ifF_e {c : BF} {a b : SF} {r : Rho} : ifF c a b r = (c r).bind fun k => if k = true then a r else b r := rfl
@[simp] theorem seqF_e {a b : SF} {r : Rho} : seqF a b r = (a r).bind fun x => match x with
  | .nx ρ' => b ρ'
  | x => some x := rfl
@[simp] theorem setF_e {i : Nat} {f : EF} {r : Rho} : setF i f r = (f r).map fun d => .nx (r.set i (some d)) := rfl
@[simp] theorem setL_e {i : Nat} {f : AF} {r : Rho} : setL i f r = (f r).map fun d => .nx (r.set i (some (.list d))) := rfl
@[simp] theorem retF_e {f : EF} {r : Rho} : retF f r = (f r).map .rt := rfl
@[simp] theorem retL_e {f : AF} {r : Rho} : retL f r = (f r).map fun ds => .rt (.list ds) := rfl
@[simp] theorem neverF_e {r : Rho} : neverF r = none := rfl
@[simp] theorem consA_e {f : EF} {g : AF} {r : Rho} : consA f g r = (f r).bind fun x => (g r).bind fun xs => some (x :: xs) := rfl
@[simp] theorem callE_e {Fn : List D → Option D} {fa : AF} {r : Rho} : callE Fn fa r = (fa r).bind Fn := rfl
@[simp] theorem lE_e {fa : AF} {r : Rho} : lE fa r = (fa r).map .list := rfl
@[simp] theorem tb_e {f : EF} {r : Rho} : tb f r = match f r with
  | some (.bool b) => some b
  | _ => none := rfl
@[simp] theorem parF_e {i j : Nat} {f g : EF} {r : Rho} : parF i j f g r = (f r).bind fun x => (g r).bind fun y => some (.nx ((r.set i (some x)).set j (some y))) := rfl
@[simp] theorem andB_e {f g : BF} {r : Rho} : andB f g r = (f r).bind fun b => if b = true then g r else some false := rfl
@[simp] theorem orB_e {f g : BF} {r : Rho} : orB f g r = (f r).bind fun b => if b = true then some true else g r := rfl
@[simp] theorem notB_e {f : BF} {r : Rho} : notB f r = (f r).map fun b => !b := rfl
@[simp] theorem andE_e {f g : EF} {r : Rho} : andE f g r = (tb f r).bind fun b => if b = true then g r else some (.bool false) := rfl
@[simp] theorem orE_e {f g : EF} {r : Rho} : orE f g r = (tb f r).bind fun b => if b = true then some (.bool true) else g r := rfl
@[simp] theorem notE_e {f : EF} {r : Rho} : notE f r = (tb f r).map fun b => .bool (!b) := rfl
@[simp] theorem yesB_e {r : Rho} : yesB r = some true := rfl
@[simp] theorem tupE_e {fa : AF} {r : Rho} : tupE fa r = (fa r).bind fun ds => if ds.all plainD = true ∧ ds.length ≤ sizeLine then some (.tuple ds) else none := rfl
@[simp] theorem lstA_e {fa : AF} {r : Rho} : lstA fa r = (fa r).bind fun ds => if ds.all plainD = true ∧ ds.length ≤ sizeLine then some ds else none := rfl
@[simp] theorem asgF_e {f : EF} {g : TgF} {r : Rho} : asgF f g r = (f r).bind fun d => (g d r).map .nx := rfl
@[simp] theorem nameG_e {i : Nat} {d : D} {r : Rho} : nameG i d r = some (r.set i (some d)) := rfl
@[simp] theorem tupG_e {n : Nat} {g : TgsF} {ds : List D} {r : Rho} : tupG n g (.tuple ds) r = if ds.length = n then g ds r else none := rfl
@[simp] theorem consG_e {g : TgF} {h : TgsF} {d : D} {ds : List D} {r : Rho} : consG g h (d :: ds) r = (g d r).bind fun r1 => h ds r1 := rfl
@[simp] theorem nilG_e {r : Rho} : nilG [] r = some r := rfl
@[simp] theorem plain_int {i : Int} : plainD (.int i) = true := rfl
@[simp] theorem plain_bool {i : Bool} : plainD (.bool i) = true := rfl
@[simp] theorem plain_tup {ds : List D} : plainD (.tuple ds) = true := rfl
@[simp] theorem plain_lst {ds : List D} : plainD (.list ds) = true := rfl
@[simp] theorem plain_none : plainD .none = true := rfl
@[simp] theorem le_line1 : (1 ≤ sizeLine) = True := eq_true (by decide)
@[simp] theorem le_line2 : (2 ≤ sizeLine) = True := eq_true (by decide)
@[simp] theorem le_line3 : (3 ≤ sizeLine) = True := eq_true (by decide)
@[simp] theorem le_line4 : (4 ≤ sizeLine) = True := eq_true (by decide)
@[simp] theorem le_line5 : (5 ≤ sizeLine) = True := eq_true (by decide)
@[simp] theorem le_line6 : (6 ≤ sizeLine) = True := eq_true (by decide)
@[simp] theorem startR_e {n : Nat} {ds : List D} : startR n ds = ds.map some ++ List.replicate (n - ds.length) none := rfl
@[simp] theorem nilA_e {r : Rho} : nilA r = some [] := rfl
theorem callL_some {Fn : List D → Option D} {fa : AF} {r : Rho} {xs ds : List D} (h : fa r = some xs) (h2 : Fn xs = some (.list ds)) : callL Fn fa r = some ds := by unfold callL; rw [h]; simp [h2]
@[simp] theorem atI_0 {α : Type} {a : α} {r : List α} : atI (a :: r) 0 = some a := by simp [atI, ixN]
@[simp] theorem atI_1 {α : Type} {a b : α} {r : List α} : atI (a :: b :: r) 1 = some b := by
  have h : (1 : Int) < ((a :: b :: r).length : Int) := by simp; omega
  have : ixN (a :: b :: r).length 1 = some 1 := by unfold ixN; rw [if_pos (by omega), if_pos h]; rfl
  unfold atI; rw [this]; rfl
@[simp] theorem atI_2 {α : Type} {a b c : α} {r : List α} : atI (a :: b :: c :: r) 2 = some c := by
  have h : (2 : Int) < ((a :: b :: c :: r).length : Int) := by simp; omega
  have : ixN (a :: b :: c :: r).length 2 = some 2 := by unfold ixN; rw [if_pos (by omega), if_pos h]; rfl
  unfold atI; rw [this]; rfl
@[simp] theorem ixD_l {ds : List D} {i : Int} : ixD (.list ds) (.int i) = atI ds i := rfl
@[simp] theorem ixD_t {ds : List D} {i : Int} : ixD (.tuple ds) (.int i) = atI ds i := rfl
theorem atI_lt {α : Type} {xs : List α} {i : Int} (h0 : 0 ≤ i) : atI xs i = xs[i.toNat]? := by
  unfold atI ixN
  rw [if_pos h0]
  by_cases h : i < xs.length
  · rw [if_pos h]; rfl
  · rw [if_neg h]
    exact (List.getElem?_eq_none (by omega)).symm
@[simp] theorem lenD_l {ds : List D} : lenD (.list ds) = some (.int ds.length) := rfl
@[simp] theorem lenD_t {ds : List D} : lenD (.tuple ds) = some (.int ds.length) := rfl
theorem small_size {n : Nat} (h : n ≤ 1000) : n ≤ sizeLine := Nat.le_trans h (by decide)
@[simp] theorem bodyFn_e {own : Bool} {n : Nat} {b : SF} {ds : List D} : bodyFn own n b ds = endD own (b (startR n ds)) := rfl
@[simp] theorem endD_map {own : Bool} {x : Option D} : endD own (Option.map Out.rt x) = x := by cases x <;> rfl
@[simp] theorem endD_rt {own : Bool} {d : D} : endD own (some (.rt d)) = some d := rfl

theorem fdivD_small {a b : Int} (h : 0 < b) (h2 : b < 2 ^ 250) : fdivD (.int a) (.int b) = some (.int (a / b)) := by
  refine fdivD_pos h ?_
  have : b.natAbs < 2 ^ 250 := by omega
  exact Nat.lt_of_lt_of_le this (Nat.pow_le_pow_right (by decide) (by decide))
@[simp] theorem fdivD_lit {a b : Int} (h : 0 < b) (h2 : b < 1809251394333065553493296640760748560207343510400633813116524750123642650624) : fdivD (.int a) (.int b) = some (.int (a / b)) := fdivD_small h (by simpa using h2)
theorem powD_e {a b : Int} : powD (.int a) (.int b) = if 0 ≤ b ∧ b ≤ 1000000 ∧ a.natAbs < 2 ^ 64 then some (.int (a ^ b.toNat)) else none := rfl
/-! ### loops -/
theorem forL_inv {g : TgF} {b : SF} (Inv : Nat → Rho → Prop) : ∀ (ds : List D) (k : Nat) (ρ : Rho), Inv k ρ →
    (∀ i d ρ, ds[i]? = some d → Inv (k + i) ρ → ∃ ρ1 r, g d ρ = some ρ1 ∧ b ρ1 = some r ∧ ∃ ρ2, (r = .nx ρ2 ∨ r = .ct ρ2) ∧ Inv (k + i + 1) ρ2) → ∃ ρ', forL g b ds ρ = some (.nx ρ') ∧ Inv (k + ds.length) ρ'
  | [], k, ρ, h, _ => ⟨ρ, rfl, h⟩
  | d :: ds, k, ρ, h, hs => by
    obtain ⟨ρ1, r, e1, e2, ρ2, e3, h2⟩ := hs 0 d ρ rfl h
    obtain ⟨ρ', q1, q2⟩ := forL_inv Inv ds (k + 1) ρ2 h2 fun i c τ hc hI => by
      have := hs (i + 1) c τ (by simpa using hc) (by rw [show k + (i + 1) = k + 1 + i by omega]; exact hI)
      rw [show k + (i + 1) + 1 = k + 1 + i + 1 by omega] at this
      exact this
    refine ⟨ρ', ?_, by rw [show k + (d :: ds).length = k + 1 + ds.length by simp; omega]; exact q2⟩
    unfold forL
    rw [e1, Option.bind_some, e2, Option.bind_some]
    rcases e3 with rfl | rfl <;> exact q1
@[simp] theorem forF_e {it : AF} {g : TgF} {b : SF} {r : Rho} : forF it g b r = (it r).bind fun ds => forL g b ds r := rfl
@[simp] theorem itemsF_e {f : EF} {r : Rho} : itemsF f r = match f r with
  | some (.list ds) => some ds
  | _ => none := rfl
@[simp] theorem enumF_e {f : EF} {r : Rho} : enumF f r = match f r with
  | some (.list ds) => some (enumL ds)
  | _ => none := rfl
@[simp] theorem rng1F_e {f : EF} {r : Rho} : rng1F f r = match f r with
  | some (.int j) => if -(2 ^ 62) ≤ j ∧ j < 2 ^ 62 then some (rngL 0 j.toNat) else none
  | _ => none := rfl
@[simp] theorem slA_e {f : EF} {lo hi : OF} {r : Rho} : slA f lo hi r = match f r with
  | some (.list ds) => (lo r).bind fun l => (hi r).bind fun h => some (cutD ds l h)
  | _ => none := rfl
@[simp] theorem partO_e {f : EF} {r : Rho} : partO f r = match f r with
  | some (.int i) => some (some i)
  | _ => none := rfl
@[simp] theorem isi_int_i {i : Int} : isiD "int" (.int i) = some (.bool true) := rfl
theorem kb1 : kitB "int" "bool" = some false := by decide +kernel
theorem kb2 : kitB "bool" "int" = some true := by decide +kernel
theorem kb3 : kitB "bool" "bool" = some true := by decide +kernel
theorem kb4 : kitB "tuple" "tuple" = some true := by decide +kernel
theorem kb5 : kitB "list" "list" = some true := by decide +kernel
@[simp] theorem isi_bool_i {i : Int} : isiD "bool" (.int i) = some (.bool false) := by simp [isiD, tyD, kb1]
@[simp] theorem isi_int_b {i : Bool} : isiD "int" (.bool i) = some (.bool true) := by simp [isiD, tyD, kb2]
@[simp] theorem isi_bool_b {i : Bool} : isiD "bool" (.bool i) = some (.bool true) := by simp [isiD, tyD, kb3]
@[simp] theorem isi_tup {ds : List D} : isiD "tuple" (.tuple ds) = some (.bool true) := by simp [isiD, tyD, kb4]
@[simp] theorem isi_lst {ds : List D} : isiD "list" (.list ds) = some (.bool true) := by simp [isiD, tyD, kb5]
theorem cutD_to {xs : List D} {n : Nat} : cutD xs none (some (n : Int)) = xs.take n := by
  unfold cutD
  simp only [HT.sIx_none, HT.sIx_nat, List.drop_zero, Nat.sub_zero]
  rw [List.take_eq_take_iff]; simp
theorem cutD_from {xs : List D} {n : Nat} : cutD xs (some (n : Int)) none = xs.drop n := by
  unfold cutD
  simp only [HT.sIx_none, HT.sIx_nat]
  by_cases h : n ≤ xs.length
  · rw [Nat.min_eq_left h, List.take_of_length_le (by simp)]
  · rw [Nat.min_eq_right (by omega), List.drop_of_length_le (Nat.le_refl _), List.drop_of_length_le (by omega)]; simp
/-! ### sizes -/
/-- below 2 ^ n in size -/
def Sz (n : Nat) (x : Int) : Prop := x.natAbs < 2 ^ n
theorem Sz.mono {m n : Nat} {x : Int} (h : Sz m x) (hmn : m ≤ n) : Sz n x := Nat.lt_of_lt_of_le h (Nat.pow_le_pow_right (by decide) hmn)
theorem Sz.mul {m n : Nat} {x y : Int} (hx : Sz m x) (hy : Sz n y) : Sz (m + n) (x * y) := by
  unfold Sz at *
  rw [Int.natAbs_mul, Nat.pow_add]
  exact Nat.mul_lt_mul'' hx hy
theorem Sz.add {m n : Nat} {x y : Int} (hx : Sz m x) (hy : Sz n y) : Sz (max m n + 1) (x + y) := by
  have h1 := hx.mono (Nat.le_max_left m n)
  have h2 := hy.mono (Nat.le_max_right m n)
  unfold Sz at *
  rw [Nat.pow_succ]
  omega
theorem Sz.sub {m n : Nat} {x y : Int} (hx : Sz m x) (hy : Sz n y) : Sz (max m n + 1) (x - y) := by
  have h1 := hx.mono (Nat.le_max_left m n)
  have h2 := hy.mono (Nat.le_max_right m n)
  unfold Sz at *
  rw [Nat.pow_succ]
  omega
theorem Sz.neg {n : Nat} {x : Int} (hx : Sz n x) : Sz n (-x) := by
  unfold Sz at *; rw [Int.natAbs_neg]; exact hx
theorem intBits_le {x : Int} {n : Nat} (h : Sz n x) : Builtin.Int.intBits x ≤ n := by
  unfold Builtin.Int.intBits
  split
  · omega
  · rename_i h0
    have : x.natAbs.log2 < n := (Nat.log2_lt (by simpa using h0)).mpr h
    omega
theorem mulB_sz {m n : Nat} {a b : Int} (ha : Sz m a) (hb : Sz n b) (h : m + n ≤ 100000000) : mulB a b = true := by
  have h1 := intBits_le ha
  have h2 := intBits_le hb
  unfold mulB Builtin.Int.intTooBig
  have : ¬ ((Builtin.Int.intBits a : Int) + (Builtin.Int.intBits b : Int) > (bitsLine : Int)) := by
    have : bitsLine = 134217728 := by decide
    omega
  simp only [Bool.not_eq_true', Bool.and_eq_false_iff]
  right
  simpa using this
theorem mulB_left {a b : Int} (h : Sz 64 a) : mulB a b = true := by
  have h1 := intBits_le h
  unfold mulB
  have : decide (Builtin.Int.intBits a > shortFactorBits) = false := decide_eq_false (by unfold shortFactorBits; omega)
  rw [this]; rfl
theorem mulB_right {a b : Int} (h : Sz 64 b) : mulB a b = true := by
  have h1 := intBits_le h
  unfold mulB
  have : decide (Builtin.Int.intBits b > shortFactorBits) = false := decide_eq_false (by unfold shortFactorBits; omega)
  rw [this]; simp

theorem sz_64 {x : Int} (h : x.natAbs < 18446744073709551616) : Sz 64 x := h
theorem mulB_l {a b : Int} (h : a.natAbs < 18446744073709551616) : mulB a b = true := mulB_left h
theorem mulB_r {a b : Int} (h : b.natAbs < 18446744073709551616) : mulB a b = true := mulB_right h
/-! ### fractions -/
def frQ (q : Rat) : D := .tuple [.int q.num, .int q.den]
@[simp] theorem plain_frQ {q : Rat} : plainD (frQ q) = true := rfl
theorem shaped_frQ {q : Rat} : SeqAt.shaped (frQ q) = true := rfl
theorem frQ_inj {p q : Rat} (h : frQ p = frQ q) : p = q := by
  unfold frQ at h
  simp at h
  exact Rat.ext h.1 (by omega)
theorem eqv_frQ {p q : Rat} : PyData.eqv (frQ p) (frQ q) = decide (p = q) := by
  unfold frQ
  simp only [PyData.eqv, PyData.eqvAll, Bool.and_true]
  by_cases h : p = q
  · subst h; simp
  · rw [decide_eq_false h]
    rw [Bool.and_eq_false_iff]
    by_cases hn : p.num = q.num
    · right
      have : p.den ≠ q.den := fun z => h (Rat.ext hn z)
      simp; omega
    · left
      simp [hn]
@[simp] theorem tupG_frQ {q : Rat} {g : TgsF} {r : Rho} : tupG 2 g (frQ q) r = g [.int q.num, .int q.den] r := by unfold frQ; simp
@[simp] theorem ix0_frQ {q : Rat} : ixD (frQ q) (.int 0) = some (.int q.num) := by unfold frQ; simp
@[simp] theorem ix1_frQ {q : Rat} : ixD (frQ q) (.int 1) = some (.int q.den) := by unfold frQ; simp
end DL

/-! DX, part 1: a caught exception is kept: from then on its object is tracked. -/
namespace DL
open PySem PySem.Spec PyProof.Rows L2
section
variable {X : Cx} {pins : List (Addr × Obj)} {σ : Sg} {H : Hp} {s : Shared}
/-- an object that was not there at the entry is tracked from now on -/
theorem track_old {a : Addr} {oe : Obj} {vs : Array Value} {C : Addr} (I : Inv X ((a, oe) :: pins) σ H s) (hz : Zc (.ref C) none oe) (hd : oe.data = .fields vs) (h0 : X.s_0.heap.get? a = none) (hp : ∀ p ∈ X.pn ++ pins, p.1 ≠ a) :
    Inv X pins σ (upd H a (ExH (.ref C) a)) s := by
  have pa := I.pin (a, oe) (List.mem_append_right _ List.mem_cons_self)
  obtain ⟨ga, na, nL, nF, nc⟩ := pa
  have ne1 : ∀ b u, H b = some u → b ≠ a := fun b u e z => by rw [z, na] at e; cases e
  refine ⟨I.ok, I.os, I.bare, ⟨I.base.keep, I.base.slot, fun b o e n hx => ?_, I.base.there, fun b xs e => ?_, fun b o u e => ?_, fun b ps e => ?_⟩, I.loc, I.cell, ?_, fun x c e => ?_, fun p hp1 => ?_, fun b u e => ?_, I.len⟩
  · rw [upd_ne (fun z => by rw [z, h0] at e; cases e)]; exact I.base.free b o e n hx
  · have q := I.base.tups b xs e; rw [upd_ne (ne1 b _ q)]; exact q
  · have q := I.base.frzs b o u e; rw [upd_ne (ne1 b _ q)]; exact q
  · obtain ⟨m, q⟩ := I.base.tbls b ps e
    exact ⟨m, by rw [upd_ne (ne1 b _ q)]; exact q⟩
  · rw [upd_ne (Ne.symm nL)]; exact I.free
  · have hca : c ≠ a := fun z => by
      obtain ⟨v, o, q1, q2⟩ := I.cell x c e
      rw [z, ga] at q1
      cases q1
      exact nc v q2
    rw [upd_ne hca]; exact I.freeC x c e
  · have old : p ∈ X.pn ++ ((a, oe) :: pins) := by
      rcases List.mem_append.mp hp1 with q | q
      · exact List.mem_append_left _ q
      · exact List.mem_append_right _ (List.mem_cons_of_mem _ q)
    obtain ⟨q1, q2, q3, q4, q5⟩ := I.pin p old
    exact ⟨q1, by rw [upd_ne (hp p hp1)]; exact q2, q3, q4, q5⟩
  · by_cases hb : b = a
    · subst hb
      rw [upd_same] at e
      cases e
      exact ⟨⟨oe, vs, ga, hz, hd⟩, ⟨oe, ga⟩, fun h1 h2 ⟨o, ws, q, r⟩ k => ⟨o, ws, k o q, r⟩⟩
    · rw [upd_ne hb] at e
      exact (I.hok b u e).stay (fun _ _ _ q => q) (fun c q => by rw [upd_ne (ne1 c _ q)]; exact q) fun c xs q => by rw [upd_ne (ne1 c _ q)]; exact q
end
/-- what «except c as n: y = n» wishes of an exception: slot i is n's, slot j y's -/
def wKeep (K : PySem.W.Frag) (c : Value) (i j : Nat) (E : Ends) : WX := fun cls d σ H =>
  PySem.W.exmOne K cls c = some true ∧ ∃ C, cls = .ref C ∧ d = none ∧ ∀ a, H a = none → E.nx (((σ.set i (some (.ref a))).set j (some (.ref a))).set i none) (upd H a (ExH (.ref C) a))
section
variable {X : Cx} {x n y : Str} {c : Value} {i j : Nat} {body : List Stmt} {np p1 p2 p3 pos pos' : Pos} {tb : WX → TS}
theorem ps_try_keep (hs : X.stack = X.env :: X.outer) (hf : X.env.frame = some X.env.locals) (hex : X.ex = []) (hN : X.N.Nodup) (hi : X.N[i]? = some n) (hj : X.N[j]? = some y) (hln : X.env.kindOf n = some .local) (hly : X.env.kindOf y = some .local) (hc : Names X x c)
    (hb : ∀ (W : WX) (pn : List (Addr × Obj)) (xe : Value → Shared → Prop), Takes (X.tr pn xe) W → PassesOwn (model X.prog X.w) X.A X.env xe → PSs (X.tr pn xe) body (tb W))
    (hst : ∀ (a : Addr) (oe : Obj) (pn : List (Addr × Obj)), PE (X.suite a ((a, oe) :: pn)) (.Name n p1) (tVar i)) (hsw : swapsWith (.Name n p1) (some (.Name y p2)) p3.line X.env = pure false := by rfl) :
    PS X (.Try body [.ExceptHandler (some (.Name x np)) (some n) [.Assign [.Name y p2] (.Name n p1) p3] pos'] [] [] pos) (fun E σ H => tb (wKeep X.K c i j E) E σ H) := by
  constructor
  intro pins s σ H E I hread
  have okX := I.ok
  have fr : X.A.frames = some (X.env :: X.outer) := okX.frames.trans (congrArg some hs)
  have here : PSs (X.tr (X.pn ++ pins) fun v t => wpAny (model X.prog X.w) X.A (noteFrame v X.env) (fun _ t2 => wpAny (model X.prog X.w) X.A (setFlight v none) (fun _ t3 =>
      wpAny (model X.prog X.w) X.A (handleBy v X.env [.ExceptHandler (some (.Name x np)) (some n) [.Assign [.Name y p2] (.Name n p1) p3] pos']) (SP X pins E) X.xe t3) X.xe t2) X.xe t) body (tb (wKeep X.K c i j E)) := by
    refine hb _ _ _ ?_ PassesOwn.looking
    rintro u s' ⟨a, B, sI, pins', σ', H', cls, d, rfl, Jt, nb, up, sky, na, os, ag, hm, C, rfl, rfl, hend⟩
    have J : Inv X pins σ' H' sI := Jt.ofTry okX
    have sk : Sky B (X.env :: X.outer) a (Zc (.ref C) none) X.env.locals s'.heap := hs ▸ sky
    refine Sky.land Zc.steady fr hf sk fun g fl up1 => ?_
    have Jg : Inv X pins σ' H' { s' with heap := g } := J.landed nb fl.1 (up.trans up1) os ag
    obtain ⟨oe, ws, ge, ze, de⟩ := fl.there
    have out : a ∉ frs (X.env :: X.outer) := fun hm' => by
      obtain ⟨_, o', q, hnf⟩ := fl.2.2.1.mem hm'
      rw [ge] at q
      cases q
      exact hnf _ de
    have aL : a ≠ X.env.locals := fun z => out (List.mem_filterMap.mpr ⟨X.env, List.mem_cons_self, by rw [z]; exact hf⟩)
    have aF : a ∉ X.fs := fun hm' => by
      obtain ⟨e1, m1, q1⟩ := List.mem_filterMap.mp hm'
      exact out (List.mem_filterMap.mpr ⟨e1, List.mem_cons_of_mem _ m1, q1⟩)
    -- it was not there in the state without it, so it was not there at the entry
    have noI : sI.heap.get? a = none := by
      cases q : sI.heap.get? a with
      | none => rfl
      | some o =>
        have := nb a o q (by rw [hs]; exact out)
        rw [fl.2.1] at this
        cases this
    have no0 : X.s_0.heap.get? a = none := by
      cases q : X.s_0.heap.get? a with
      | none => rfl
      | some o =>
        obtain ⟨o', q'⟩ := J.base.there a o q (by rw [hex]; exact List.not_mem_nil)
        rw [noI] at q'
        cases q'
    have nopin : ∀ p ∈ X.pn ++ pins, p.1 ≠ a := fun p hp z => by
      have q := (J.pin p hp).1
      rw [z, noI] at q
      cases q
    have Sg1 := Jg.suite ge de na aL aF
    refine wpAny_handleBy_cons (codeAny_handlers_test ?_) (by intro q; cases q)
    have lk : PySem.W.Looks (model X.prog X.w) g (typeOf (.ref a)) (.ref C) := fun A Q E s k q => wpAny_typeOf_ref (k _ _ ge) (by rw [ze.1]; exact q)
    have lm := PySem.W.exm_one (M := model X.prog X.w) Jg.kIn lk hm
    have ev : ∀ {Q : Value → Shared → Prop} {R : Value → Shared → Prop}, Q c { s' with heap := g } → wpAny (model X.prog X.w) (X.A.mark (some (.ref a))) (eval (.Name x np) X.env) Q R { s' with heap := g } := fun {Q R} q => by
      obtain ⟨h1, h2, h3 | ⟨h3, h4, h5⟩⟩ := hc
      · exact ld_glob (X := X.suite a ((a, oe) :: (X.pn ++ pins))) Sg1 h1 h3 q h2
      · exact ld_blt (X := X.suite a ((a, oe) :: (X.pn ++ pins))) Sg1 h1 h3 h4 q h5 h2
    refine ev (lm.here (codeAny_handlers_suite_as ?_))
    refine HandSPX.lands_againZ fl fun g2 fl2 up2 => ?_
    have Jg2 : Inv X pins σ' H' { s' with heap := g2 } := J.landed nb fl2.1 ((up.trans up1).trans up2) os ag
    obtain ⟨oe2, ws2, ge2, ze2, de2⟩ := fl2.there
    have Sg2 := Jg2.suite ge2 de2 na aL aF
    refine store_ok (X := X.suite a ((a, oe2) :: (X.pn ++ pins))) (v := .ref a) Sg2 hN hi (.inl hln) rfl (fun t5 S5 => ?_) (.inr hln)
    have stp := pss_one (ps_set (X := X.suite a ((a, oe2) :: (X.pn ++ pins))) (pos := p3) (pos' := p2) (i := j) hN hj (.inl hly) (hst a oe2 (X.pn ++ pins)) hsw (.inr hly))
    have hil : i < σ'.length := by
      rw [J.len]; exact (List.getElem?_eq_some_iff.mp hi).1
    refine wpAny_mono (stp.run [] t5 _ H' { nx := fun σ6 H6 => σ6 = (σ'.set i (some (.ref a))).set j (some (.ref a)) ∧ H6 = H', rt := fun _ _ => False } S5 ⟨.ref a, List.getElem?_set_self hil, rfl, rfl⟩) (fun fw t6 q6 => ?_) (fun _ _ z => z.elim)
    cases fw with
    | next =>
      obtain ⟨σ6, H6, S6, e6, e7⟩ := q6
      rw [e6, e7] at S6
      have S7 : Inv X ((a, oe2) :: pins) ((σ'.set i (some (.ref a))).set j (some (.ref a))) H' t6 :=
        ⟨okX, S6.os, S6.bare, S6.base, S6.loc, S6.cell, S6.free, S6.freeC, fun p hp => S6.pin p (by
          rcases List.mem_append.mp hp with q | q
          · exact List.mem_append_left _ (List.mem_cons_of_mem _ (List.mem_append_left _ q))
          · rcases List.mem_cons.mp q with q | q
            · rw [q]; exact List.mem_append_left _ List.mem_cons_self
            · exact List.mem_append_left _ (List.mem_cons_of_mem _ (List.mem_append_right _ q))), S6.hok, S6.len⟩
      refine gone_ok S7 hN hi hln fun t7 S8 => ?_
      exact ⟨_, _, track_old S8 ze2 de2 no0 nopin, hend a na⟩
    | brk => obtain ⟨_, _, _, q⟩ := q6; exact q.elim
    | cont => obtain ⟨_, _, _, q⟩ := q6; exact q.elim
    | ret u => obtain ⟨_, _, _, _, _, q⟩ := q6; exact q.elim
  refine wpAny_Try_except ?_
  refine wpAny_mono (here.run [] s σ H E (I.toTry _) hread) (fun fw t1 q1 => ?_) fun _ _ z => z
  cases fw with
  | next =>
    obtain ⟨σ1, H1, J1, q⟩ := q1
    exact wpAny_execs_nil ⟨σ1, H1, J1.ofTry okX, q⟩
  | brk =>
    obtain ⟨σ1, H1, J1, q⟩ := q1
    exact ⟨σ1, H1, J1.ofTry okX, q⟩
  | cont =>
    obtain ⟨σ1, H1, J1, q⟩ := q1
    exact ⟨σ1, H1, J1.ofTry okX, q⟩
  | ret u =>
    obtain ⟨v, σ1, H1, J1, r, q⟩ := q1
    exact ⟨v, σ1, H1, J1.ofTry okX, r, q⟩
end
end DL

/-! DX, part 2: refusals: defs that raise, try .. except .. as .., isinstance of what was caught. -/
namespace DL
open PySem PySem.Spec PyProof.Rows L2
def excNames : List Str := ["NoNumber", "NoShape", "NoSize"]
/-- what the head tells of the exception classes -/
structure ExcOk (K : PySem.W.Frag) (mg : Str → Option Value) : Prop where
  gF : mg "FitError" = some (.ref (He.ga K "FitError"))
  g : ∀ x ∈ excNames, mg x = some (.ref (He.ga K x))
  e : ∀ x ∈ excNames, (He.Fa.exc x).ok K = true
  fit : ∀ x ∈ excNames, PySem.W.exmOne K (.ref (He.ga K x)) (.ref (He.ga K "FitError")) = some true
  cls : ∀ x ∈ excNames, ExcC K (He.ga K x)
  kit : ∀ x ∈ excNames, ∀ y ∈ excNames, PySem.W.kitOne K (.ref (He.ga K x)) (.ref (He.ga K y)) = some (decide (x = y))
  ve : ∀ x ∈ excNames, PySem.W.kitOne K (.ref (He.ga K x)) (.type "ValueError") = some true
  bve : mg "ValueError" = none
  bis : mg "isinstance" = none

/-! ### isinstance of a kept exception -/
section
variable {X : Cx}
theorem inst_kept {pins : List (Addr × Obj)} {σ : Sg} {H : Hp} {s : Shared} {a C : Addr} (I : Inv X pins σ H s) (h : H a = some (ExH (.ref C) a)) : ∃ oe, PySem.W.InstAt s.heap a oe C none := by
  obtain ⟨⟨oe, vs, hget, hz, hv⟩, _⟩ := (show ObjOk X.prog X.w H s.heap a (ExH (.ref C) a) from I.hok a _ h)
  obtain ⟨oc, od, oda, osl⟩ := oe
  obtain ⟨h1, h2⟩ := hz
  dsimp only at h1 h2 hv
  subst h1 h2 hv
  exact ⟨_, hget, rfl, rfl, trivial⟩
def rIsX (K : PySem.W.Frag) : List V → Hp → VK → Prop := fun xs H Q => ∃ (a C : Addr) (c : V) (cv : Value) (b : Bool), xs = [.ref a, c] ∧ H a = some (ExH (.ref C) a) ∧ ExcC K C ∧ ClsV c cv ∧ PySem.W.kitOne K (.ref C) cv = some b ∧ Q (.bl b) H
theorem call_isX : CallR X (.builtin "isinstance") (rIsX X.K) := by
  intro pins s σ H xs us Q I r h
  obtain ⟨a, C, c, cv, b, rfl, ha, ec, kc, hk, q⟩ := h
  obtain ⟨u1, u2, rfl, r1, r2⟩ := vals2 r
  cases r1
  have e2 := kc.eq r2
  subst e2
  obtain ⟨oe, J⟩ := inst_kept I ha
  exact PySem.W.kia_one (PySem.W.handS_kitx_exc ec.hg ec.hk ec.hs ec.hd ec.ha ec.hn ec.ht ec.hm) I.kIn J hk (fun z => nomatch z) fun tk => ⟨.bl b, H, I.tok tk, rfl, q⟩
def rIsXT (K : PySem.W.Frag) : List V → Hp → VK → Prop := fun xs H Q => ∃ (a C tp : Addr) (cs : List V) (us : List Value) (b : Bool), xs = [.ref a, .ref tp] ∧ H a = some (ExH (.ref C) a) ∧ ExcC K C ∧ H tp = some (.tup cs) ∧ Paired ClsV cs us ∧ PySem.W.kitAny K (.ref C) us = some b ∧ Q (.bl b) H
theorem call_isXT : CallR X (.builtin "isinstance") (rIsXT X.K) := by
  intro pins s σ H xs us Q I r h
  obtain ⟨a, C, tp, cs, ws, b, rfl, ha, ec, hT, kc, hk, q⟩ := h
  obtain ⟨u1, u2, rfl, r1, r2⟩ := vals2 r
  cases r1
  cases r2
  obtain ⟨oe, J⟩ := inst_kept I ha
  obtain ⟨_, its, rv, o, g1, g2, n, g3⟩ := (show ObjOk X.prog X.w H s.heap tp (.tup cs) from I.hok tp _ hT)
  have e3 := ClsV.all kc rv
  subst e3
  obtain ⟨oc, od, dt, sl⟩ := o
  dsimp only at g2 g3
  subst g2 g3
  exact PySem.W.kia_tup (PySem.W.handS_kitx_exc ec.hg ec.hk ec.hs ec.hd ec.ha ec.hn ec.ht ec.hm) I.kIn J g1 hk (fun z => nomatch z) fun tk => ⟨.bl b, H, I.tok tk, rfl, q⟩
end
def excOf : D → Option Str
  | .dict [(.str x, .none)] => if excNames.contains x = true then some x else none
  | _ => none
theorem excOf_some {d : D} {x : Str} (h : excOf d = some x) : d = excD x ∧ x ∈ excNames := by
  unfold excOf at h
  split at h
  · rename_i y
    by_cases hy : excNames.contains y = true
    · rw [if_pos hy] at h
      cases h
      exact ⟨rfl, List.contains_iff_mem.mp hy⟩
    · rw [if_neg hy] at h; cases h
  · cases h
def isx1 (y : Str) (d : D) : Option D := (excOf d).map fun x => .bool (decide (x = y))
def isxV (d : D) : Option D := (excOf d).map fun _ => .bool true
def isx2 (y z : Str) (d : D) : Option D := (excOf d).map fun x => .bool (decide (x = y) || decide (x = z))
theorem rep_exc {K : PySem.W.Frag} {F H : Hp} {v : V} {x : Str} (hs : Same F H) (r : Rep K F v (excD x)) : ∃ a, v = .ref a ∧ H a = some (ExH (.ref (He.ga K x)) a) := by
  unfold excD at r
  cases r with
  | dat h => cases h
  | exc h => exact ⟨_, rfl, hs _ _ h⟩
section
variable {X : Cx} {O : List Nat} {e : Expr} {f : EF} {p p1 p2 p3 pos : Pos} {y z : Str}
theorem e_isx1 (T : ExcOk X.K X.mg) (ha : DE X O e f) (hy : excNames.contains y = true := by decide +kernel) (hg : Gl X "isinstance" := by rfl) (hgy : Gl X y := by rfl) (hd : (y == ("__debug__" : Str)) = false := by decide)
    (hs : starEach (e :: [.Name y p1]) X.env = (false, eval e X.env) :: starEach [.Name y p1] X.env := by rfl) (hs2 : starEach (.Name y p1 :: []) X.env = (false, eval (.Name y p1) X.env) :: starEach [] X.env := by rfl)
    (hpl : (backTo pos (starEach [.Name y p1] X.env)).any (·.1) = false := by rfl) : DE X O (.Call (.Name "isinstance" p) [e, .Name y p1] [] pos) (o1 (isx1 y) f) := by
  have hy' := List.contains_iff_mem.mp hy
  obtain ⟨t, pt, rd⟩ := ha
  refine ⟨_, pe_callB call_isX hg T.bis (by decide +kernel) (pa_cons pt (pa_cons (pe_glob (v := .ref (He.ga X.K y)) hgy (T.g y hy') rfl hd) pa_nil hs2) hs) (by decide) (by decide) hs hpl, fun G σ H F ρ d Q s hf q => ?_⟩
  unfold o1 isx1 at hf
  cases e1 : f ρ with
  | none => simp [e1] at hf
  | some c =>
    simp only [e1, Option.bind_some] at hf
    cases e2 : excOf c with
    | none => simp [e2] at hf
    | some x =>
      simp [e2] at hf; subst hf
      obtain ⟨rfl, hx⟩ := excOf_some e2
      refine rd G σ H F ρ _ _ s e1 fun v H1 F1 g1 r1 => ?_
      obtain ⟨a, rfl, hH⟩ := rep_exc g1.fh r1
      exact ⟨a, _, _, _, _, rfl, hH, T.cls x hx, .own _, T.kit x hx y hy', q _ H1 F1 g1 (.dat (.bl _))⟩
theorem e_isxV (T : ExcOk X.K X.mg) (ha : DE X O e f) (hg : Gl X "isinstance" := by rfl) (hgy : Gl X "ValueError" := by rfl)
    (hs : starEach (e :: [.Name "ValueError" p1]) X.env = (false, eval e X.env) :: starEach [.Name "ValueError" p1] X.env := by rfl) (hs2 : starEach (.Name "ValueError" p1 :: []) X.env = (false, eval (.Name "ValueError" p1) X.env) :: starEach [] X.env := by rfl)
    (hpl : (backTo pos (starEach [.Name "ValueError" p1] X.env)).any (·.1) = false := by rfl) : DE X O (.Call (.Name "isinstance" p) [e, .Name "ValueError" p1] [] pos) (o1 isxV f) := by
  obtain ⟨t, pt, rd⟩ := ha
  refine ⟨_, pe_callB call_isX hg T.bis (by decide +kernel) (pa_cons pt (pa_cons (pe_bltn (v := .ty "ValueError") hgy T.bve (by decide +kernel) rfl) pa_nil hs2) hs) (by decide) (by decide) hs hpl, fun G σ H F ρ d Q s hf q => ?_⟩
  unfold o1 isxV at hf
  cases e1 : f ρ with
  | none => simp [e1] at hf
  | some c =>
    simp only [e1, Option.bind_some] at hf
    cases e2 : excOf c with
    | none => simp [e2] at hf
    | some x =>
      simp [e2] at hf; subst hf
      obtain ⟨rfl, hx⟩ := excOf_some e2
      refine rd G σ H F ρ _ _ s e1 fun v H1 F1 g1 r1 => ?_
      obtain ⟨a, rfl, hH⟩ := rep_exc g1.fh r1
      exact ⟨a, _, _, _, _, rfl, hH, T.cls x hx, .ty _, T.ve x hx, q _ H1 F1 g1 (.dat (.bl _))⟩
theorem e_isx2 {k : Nat} (T : ExcOk X.K X.mg) (ha : DE X O e f) (hy : excNames.contains y = true := by decide +kernel) (hz : excNames.contains z = true := by decide +kernel) (hg : Gl X "isinstance" := by rfl) (hgy : Gl X y := by rfl) (hgz : Gl X z := by rfl)
    (hd : (y == ("__debug__" : Str)) = false := by decide) (hd2 : (z == ("__debug__" : Str)) = false := by decide)
    (hs : starEach (e :: [.Tuple [.Name y p1, .Name z p2] k p3]) X.env = (false, eval e X.env) :: starEach [.Tuple [.Name y p1, .Name z p2] k p3] X.env := by rfl) (hs2 : starEach (.Tuple [.Name y p1, .Name z p2] k p3 :: []) X.env = (false, eval (.Tuple [.Name y p1, .Name z p2] k p3) X.env) :: starEach [] X.env := by rfl)
    (hs3 : starEach (.Name y p1 :: [.Name z p2]) X.env = (false, eval (.Name y p1) X.env) :: starEach [.Name z p2] X.env := by rfl) (hs4 : starEach (.Name z p2 :: []) X.env = (false, eval (.Name z p2) X.env) :: starEach [] X.env := by rfl)
    (hpl : (backTo pos (starEach [.Tuple [.Name y p1, .Name z p2] k p3] X.env)).any (·.1) = false := by rfl) : DE X O (.Call (.Name "isinstance" p) [e, .Tuple [.Name y p1, .Name z p2] k p3] [] pos) (o1 (isx2 y z) f) := by
  have hy' := List.contains_iff_mem.mp hy
  have hz' := List.contains_iff_mem.mp hz
  obtain ⟨t, pt, rd⟩ := ha
  refine ⟨_, pe_callB call_isXT hg T.bis (by decide +kernel) (pa_cons pt (pa_cons (pe_tup (pa_cons (pe_glob (v := .ref (He.ga X.K y)) hgy (T.g y hy') rfl hd) (pa_cons (pe_glob (v := .ref (He.ga X.K z)) hgz (T.g z hz') rfl hd2) pa_nil hs4) hs3)) pa_nil hs2) hs) (by decide) (by decide) hs hpl, fun G σ H F ρ d Q s hf q => ?_⟩
  unfold o1 isx2 at hf
  cases e1 : f ρ with
  | none => simp [e1] at hf
  | some c =>
    simp only [e1, Option.bind_some] at hf
    cases e2 : excOf c with
    | none => simp [e2] at hf
    | some x =>
      simp [e2] at hf; subst hf
      obtain ⟨rfl, hx⟩ := excOf_some e2
      refine rd G σ H F ρ _ _ s e1 fun v H1 F1 g1 r1 => ?_
      obtain ⟨a, rfl, hH⟩ := rep_exc g1.fh r1
      refine ⟨by show 2 ≤ sizeLine; decide, fun tp ht => ?_⟩
      have hne : a ≠ tp := ne_of_none hH ht
      have k1 := T.kit x hx y hy'
      have k2 := T.kit x hx z hz'
      refine ⟨a, He.ga X.K x, tp, _, [.ref (He.ga X.K y), .ref (He.ga X.K z)], _, rfl, by rw [upd_ne hne]; exact hH, T.cls x hx, upd_same, .cons (.own _) (.cons (.own _) .nil), ?_, q _ _ _ (g1.trans (Grow.new g1.fh ht)) (.dat (.bl (decide (x = y) || decide (x = z))))⟩
      unfold PySem.W.kitAny
      rw [k1]
      by_cases h1 : x = y
      · rw [decide_eq_true h1]; rfl
      · rw [decide_eq_false h1]
        show PySem.W.kitAny X.K _ _ = _
        unfold PySem.W.kitAny
        rw [k2]
        by_cases h2 : x = z
        · rw [decide_eq_true h2]; rfl
        · rw [decide_eq_false h2]; rfl
end
@[simp] theorem exN1 : excNames.contains ("NoNumber" : Str) = true := by decide +kernel
@[simp] theorem exN2 : excNames.contains ("NoShape" : Str) = true := by decide +kernel
@[simp] theorem exN3 : excNames.contains ("NoSize" : Str) = true := by decide +kernel
theorem excOf_d {x : Str} (h : excNames.contains x = true) : excOf (excD x) = some x := by
  unfold excOf excD
  simp only
  rw [if_pos h]
theorem isx1_d {x y : Str} (h : excNames.contains x = true) : isx1 y (excD x) = some (.bool (decide (x = y))) := by unfold isx1; rw [excOf_d h]; rfl
theorem isx2_d {x y z : Str} (h : excNames.contains x = true) : isx2 y z (excD x) = some (.bool (decide (x = y) || decide (x = z))) := by unfold isx2; rw [excOf_d h]; rfl
theorem isxV_d {x : Str} (h : excNames.contains x = true) : isxV (excD x) = some (.bool true) := by unfold isxV; rw [excOf_d h]; rfl
@[simp] theorem xNumNum : isx1 "NoNumber" (excD "NoNumber") = some (.bool true) := by rw [isx1_d exN1]; rfl
@[simp] theorem xShShNum : isx2 "NoShape" "NoSize" (excD "NoNumber") = some (.bool false) := by rw [isx2_d exN1]; rw [show (decide (("NoNumber" : Str) = "NoShape") || decide (("NoNumber" : Str) = "NoSize")) = false by decide +kernel]
@[simp] theorem xVNum : isxV (excD "NoNumber") = some (.bool true) := isxV_d exN1
@[simp] theorem xShSh : isx1 "NoShape" (excD "NoShape") = some (.bool true) := by rw [isx1_d exN2]; rfl
@[simp] theorem xNumSizeSh : isx2 "NoNumber" "NoSize" (excD "NoShape") = some (.bool false) := by rw [isx2_d exN2]; rw [show (decide (("NoShape" : Str) = "NoNumber") || decide (("NoShape" : Str) = "NoSize")) = false by decide +kernel]
@[simp] theorem xVSh : isxV (excD "NoShape") = some (.bool true) := isxV_d exN2
@[simp] theorem xSizeSize : isx1 "NoSize" (excD "NoSize") = some (.bool true) := by rw [isx1_d exN3]; rfl
@[simp] theorem xNumShSize : isx2 "NoNumber" "NoShape" (excD "NoSize") = some (.bool false) := by rw [isx2_d exN3]; rw [show (decide (("NoSize" : Str) = "NoNumber") || decide (("NoSize" : Str) = "NoShape")) = false by decide +kernel]
@[simp] theorem xVSize : isxV (excD "NoSize") = some (.bool true) := isxV_d exN3
@[simp] theorem exM1 : (("NoNumber" : Str) ∈ excNames) = True := eq_true (List.contains_iff_mem.mp exN1)
@[simp] theorem exM2 : (("NoShape" : Str) ∈ excNames) = True := eq_true (List.contains_iff_mem.mp exN2)
@[simp] theorem exM3 : (("NoSize" : Str) ∈ excNames) = True := eq_true (List.contains_iff_mem.mp exN3)
end DL

/-! DX, part 3: defs that raise; the try around their call. -/
namespace DL
open PySem PySem.Spec PyProof.Rows L2
/-- Fn: it ends with that value; Fx: it raises an exception of that class -/
def SpX (K : PySem.W.Frag) (n : Nat) (Fn : List D → Option D) (Fx : List D → Option Str) : Sp := fun vs H Q E => ∃ F ds, vs.length = n ∧ Same F H ∧ RepAll K F vs ds ∧
  ((∃ d, Fn ds = some d ∧ ∀ v H' F', Grow F H F' H' → Q v H') ∨ (∃ x, Fx ds = some x ∧ x ∈ excNames ∧ ∀ H' F', Grow F H F' H' → E (.ref (He.ga K x)) none H'))
def DefX (P : Program) (w : World) (K : PySem.W.Frag) (mg : Str → Option Value) (name : Str) (k : Nat) (ps : List Str) (Fn : List D → Option D) (Fx : List D → Option Str) : Prop :=
  ∃ (fa : Addr) (fd : FuncData), mg name = some (.ref fa) ∧ PySem.W.keepIn K (.ref fa) = true ∧ (∀ (s : Shared) (us : List Value), us.length = ps.length → BindsTo s fd ⟨us, []⟩ (ps.zip us)) ∧
    ∀ base : Heap, FnOk P w K mg base (L2.CX P w) k fa fd ps (SpX K ps.length Fn Fx)
/-- a block that ends in an exception of the class f says -/
def DX (X : Cx) (W : WX) (O : List Nat) (sts : List Stmt) (f : Rho → Option Str) : Prop := ∃ t, PSs X sts t ∧ ∀ (G : Ent) (σ : Sg) (H F : Hp) (ρ : Rho) (x : Str) (E : Ends),
  StRep X.K G O σ H ρ F → f ρ = some x → (∀ σ' H' F', Grow G.F0 G.H0 F' H' → W (.ref (He.ga X.K x)) none σ' H') → t E σ H
section
variable {X : Cx} {W : WX} {RO : Bool} {O O1 LB : List Nat} {e : Expr} {es : List Expr} {fa : AF} {pos p p2 : Pos} {st : Stmt} {rest : List Stmt} {s1 : SF} {f : Rho → Option Str} {x m : Str}
theorem ps_nox {st : Stmt} {t : TS} (h : PS X.nox st t) : PS X st t := ⟨fun pins s σ H E I hw => wpAny_mono (h.run pins s σ H E (I.wish _) hw) (fun _ _ q => q.unwish) fun _ _ z => z.elim⟩
def thenX (s1 : SF) (f : Rho → Option Str) : Rho → Option Str := fun ρ => match s1 ρ with
  | some (.nx ρ') => f ρ'
  | _ => none
theorem dx_cons (h1 : DS X.nox RO O O1 LB st s1) (h2 : DX X W O1 rest f) : DX X W O (st :: rest) (thenX s1 f) := by
  obtain ⟨t, p, r⟩ := h1
  obtain ⟨u, pu, ru⟩ := h2
  refine ⟨_, pss_cons (ps_nox p) pu, fun G σ H F ρ x E s hf q => ?_⟩
  unfold thenX at hf
  cases e : s1 ρ with
  | none => simp [e] at hf
  | some o =>
    cases o with
    | nx ρ' =>
      simp only [e] at hf
      exact r G σ H F ρ _ _ s e fun σ' H' F' s' _ => ru G σ' H' F' ρ' x E s' hf q
    | _ => simp [e] at hf
def ifX (c : BF) (x : Str) : Rho → Option Str := fun ρ => match c ρ with
  | some true => some x
  | _ => none
theorem dx_if {c : BF} {j : Nat} {p3 p4 : Pos} (x : Str) (T : ExcOk X.K X.mg) (hx : excNames.contains x = true) (hc : DT X.nox O e c) (tk : Takes X W) (hcalm : X.calm = true) (hg : Gl X x) (hdb : (x == ("__debug__" : Str)) = false) :
    DX X W O (.If e [.Raise (some (.Call (.Name x p) [.Constant (.str m) j p2] [] pos)) none p3] [] p4 :: rest) (ifX c x) := by
  obtain ⟨t, pt, rd⟩ := hc
  have hx' := List.contains_iff_mem.mp hx
  obtain ⟨e1, e2, e3, e4⟩ := He.exc_ok (T.e x hx')
  refine ⟨_, pss_cons (ps_if pt.nox (pss_one (ps_raise hcalm tk (pmk_own PySem.F.excBase_ValueError e1 (T.g x hx') e2 (raises_own e3 e4) hg hdb))) pss_nil) pss_never, fun G σ H F ρ y E s hf q => ?_⟩
  unfold ifX at hf
  cases ec : c ρ with
  | none => simp [ec] at hf
  | some b =>
    cases b with
    | false => simp [ec] at hf
    | true =>
      simp [ec] at hf
      subst hf
      exact rd G σ H F ρ true _ s ec fun H1 F1 g1 => q σ H1 F1 (s.g.trans g1)
theorem ifX_mem {c : BF} {x y : Str} {ρ : Rho} (hx : excNames.contains x = true) (h : ifX c x ρ = some y) : y ∈ excNames := by
  unfold ifX at h
  split at h
  · cases h; exact List.contains_iff_mem.mp hx
  · cases h
/-- the strongest reading of an argument list -/
def tAr (K : PySem.W.Frag) (O : List Nat) (f : AF) : TA := fun σ H Q => ∃ (G : Ent) (F : Hp) (ρ : Rho) (ds : List D), StRep K G O σ H ρ F ∧ f ρ = some ds ∧ ∀ vs H' F', Grow F H F' H' → RepAll K F' vs ds → Q vs H'
theorem DA_pa {Y : Cx} {f : AF} (h : DA Y O es f) : PA Y es (tAr Y.K O f) := by
  obtain ⟨⟨t, p, r⟩, _⟩ := h
  exact ⟨fun pos pins s σ H Q I ⟨G, F, ρ, d, sr, hf, q⟩ => p.run pos pins s σ H Q I (r G σ H F ρ d Q sr hf q)⟩
/-- return f(..), f raises -/
theorem dx_ret {k j : Nat} {ps : List Str} {Fn : List D → Option D} {Fx : List D → Option Str} (h : DefX X.prog X.w X.K X.mg x k ps Fn Fx) (hr : Room j X.A) (hk : Nat.ble k j = true) (ha : DA X O (e :: es) fa) (tk : Takes X W) (hx : ∀ ds y, Fx ds = some y → y ∈ excNames) (hn : es.length + 1 = ps.length := by rfl)
    (hg : Gl X x := by rfl) (hdb : (x == ("__debug__" : Str)) = false := by decide) (he : starEach (e :: es) X.env = (false, eval e X.env) :: starEach es X.env := by rfl) (hpl : (backTo pos (starEach es X.env)).any (·.1) = false := by rfl) :
    DX X W O [.Return (some (.Call (.Name x p) (e :: es) [] pos)) p2] (fun ρ => (fa ρ).bind Fx) := by
  obtain ⟨fad, fd, hm, hkp, hb, FO⟩ := h
  refine ⟨_, pss_one (ps_ret (pe_callS (FO X.base) (hr.mono (Nat.le_of_ble_eq_true hk)) hg hm hkp (binds_of hb) (fun σ => passAt tk σ) (DA_pa ha) hdb he hpl)), fun G σ H F ρ y E s hf q => ?_⟩
  have hl := ha.2
  cases e1 : fa ρ with
  | none => simp [e1] at hf
  | some ds =>
    simp only [e1, Option.bind_some] at hf
    exact ⟨G, F, ρ, ds, s, e1, fun vs H1 F1 g1 r1 => ⟨F1, ds, by rw [r1.length, ← hn]; exact hl ρ ds e1, g1.fh, r1, .inr ⟨y, hf, hx ds y hf, fun H2 F2 g2 => q σ H2 F2 (s.g.trans (g1.trans g2))⟩⟩⟩
end
section
variable {P : Program} {w : World} {K : PySem.W.Frag} {mg : Str → Option Value} {base : Heap}
/-- a def that may raise: on some arguments it runs through, on others it raises -/
theorem fnX_ok {x qual : Str} {params : Arguments} {body : List Stmt} {scope : Scope} {dvs : List V} {kws : List (Str × V)} {f : Addr} {fd : FuncData} {N ps : List Str} {k : Nat} {own : Bool} {O' : List Nat} {b : SF} {fx : Rho → Option Str} (F : FunD K x qual params body scope dvs kws f fd) (S : FnScope N ps scope)
    (hbody : ∀ (cdv : Value) (A : Around) (outer : List Env) (s : Shared) (H : Hp) (E : XK), Room k (A.deeper (envOfC qual scope s.heap.objs.size f cdv)) →
      DSs (cxOf (L2.CX P w) P w K mg base N qual scope f cdv A outer s H E).nox own [] O' [] body b)
    (hx : ∀ (cdv : Value) (A : Around) (outer : List Env) (s : Shared) (H : Hp) (E : XK), Room k (A.deeper (envOfC qual scope s.heap.objs.size f cdv)) →
      DX (cxOf (L2.CX P w) P w K mg base N qual scope f cdv A outer s H E) (fun cls d _ H => E cls d H) [] body fx)
    {Fn : List D → Option D} (hFn : Fn = bodyFn own N.length b) {Fx : List D → Option Str} (hFx : Fx = fun ds => fx (startR N.length ds)) : FnOk P w K mg base (L2.CX P w) (k + 1) f fd ps (SpX K ps.length Fn Fx) := by
  subst hFn hFx
  refine F.ok S (fun vs H Q E h => h.choose_spec.choose_spec.1) (fun cdv A outer s H vs Q E hr h => ?_)
  obtain ⟨F, ds, hl, hs, hr2, h | h⟩ := h
  · obtain ⟨d, hf, q⟩ := h
    obtain ⟨t, p, r⟩ := hbody cdv A outer s H E hr
    refine ⟨t, p.nox, ?_⟩
    unfold bodyFn at hf
    cases e : b (startR N.length ds) with
    | none => rw [e] at hf; cases hf
    | some o =>
      rw [e] at hf
      refine r ⟨F, H⟩ (L2.start N vs) H F (startR N.length ds) o _ (stRep_start hs hr2) e ?_
      cases o with
      | nx ρ' => exact fun σ' H' F' s' _ => q .non H' F' s'.g
      | rt d' => exact fun v H' F' g _ => q v H' F' g
      | _ => cases hf
  · obtain ⟨y, hf, _, q⟩ := h
    obtain ⟨t, p, r⟩ := hx cdv A outer s H E hr
    exact ⟨t, p, r ⟨F, H⟩ (L2.start N vs) H F (startR N.length ds) y _ (stRep_start hs hr2) hf fun σ' H' F' g => q H' F' g⟩
end
section
variable {X : Cx} {RO : Bool} {O O2 LB : List Nat} {e : Expr} {es : List Expr} {fa : AF} {pos p np p1 p2 p3 pos' cpos spos : Pos} {x n y : Str}
/-- y = None; try: f(..) except FitError as n: y = n -/
def tryF (i j : Nat) (fa : AF) (Fn : List D → Option D) (Fx : List D → Option Str) : SF := fun ρ => (fa ρ).bind fun ds => match Fx ds with
  | some x => if excNames.contains x = true then some (.nx ((ρ.set j (some (excD x))).set i none)) else none
  | none => (Fn ds).map fun _ => .nx ρ
theorem set_comm2 {α : Type} {l : List (Option α)} {i j : Nat} {u v : Option α} (h : i ≠ j) : (((l.set i u).set j v).set i none) = (l.set j v).set i none := by
  apply List.ext_getElem?
  intro m
  by_cases hm : m = i
  · subst hm
    simp only [List.getElem?_set, List.length_set]
    simp
  · rw [List.getElem?_set_ne (Ne.symm hm), List.getElem?_set_ne (Ne.symm hm)]
    by_cases hj : m = j
    · subst hj
      simp [List.getElem?_set, List.length_set, h]
    · rw [List.getElem?_set_ne (Ne.symm hj), List.getElem?_set_ne (Ne.symm hj), List.getElem?_set_ne (Ne.symm hm)]
theorem s_try (i j : Nat) {k l : Nat} {ps : List Str} {Fn : List D → Option D} {Fx : List D → Option Str} (T : ExcOk X.K X.mg) (h : DefX X.prog X.w X.K X.mg x k ps Fn Fx) (hr : Room l X.A) (hk : Nat.ble k l = true) (hO : O.contains i = false) (hO2 : O.contains j = false)
    (ha : ∀ (W : WX) (pn : List (Addr × Obj)) (xe : Value → Shared → Prop), DA (X.tr pn xe) O (e :: es) fa) (hij : i ≠ j) (hN : X.N.Nodup) (hs : X.stack = X.env :: X.outer := by rfl) (hf : X.env.frame = some X.env.locals := by rfl) (hex : X.ex = [] := by rfl)
    (hi : X.N[i]? = some n := by rfl) (hj : X.N[j]? = some y := by rfl) (hln : X.env.kindOf n = some .local := by rfl) (hly : X.env.kindOf y = some .local := by rfl) (hgF : Gl X "FitError" := by rfl)
    (hn : es.length + 1 = ps.length := by rfl) (hg : Gl X x := by rfl) (hdb : (x == ("__debug__" : Str)) = false := by decide) (he : starEach (e :: es) X.env = (false, eval e X.env) :: starEach es X.env := by rfl) (hpl : (backTo cpos (starEach es X.env)).any (·.1) = false := by rfl)
    (hd : (n == ("__debug__" : Str)) = false := by decide) (hcd : (n == ("__classdict__" : Str)) = false := by decide) (hsw1 : swapsWith (.Call (.Name x p) (e :: es) [] cpos) none spos.line X.env = pure false := by rfl)
    (hsw : swapsWith (.Name n p1) (some (.Name y p2)) p3.line X.env = pure false := by rfl) :
    DS X RO O O LB (.Try [.Expr (.Call (.Name x p) (e :: es) [] cpos) spos] [.ExceptHandler (some (.Name "FitError" np)) (some n) [.Assign [.Name y p2] (.Name n p1) p3] pos'] [] [] pos) (tryF i j fa Fn Fx) := by
  obtain ⟨fad, fd, hm, hkp, hb, FO⟩ := h
  have hl := (ha (fun _ _ _ _ => False) [] fun _ _ => False).2
  refine ⟨_, ps_try_keep (i := i) (j := j) (tb := fun W => tDrop (tCallS (SpX X.K ps.length Fn Fx) (WE W) (tAr X.K O fa))) hs hf hex hN hi hj hln hly ⟨hgF, by decide, .inl T.gF⟩ (fun W pn xe tk _ => ?_) (fun a oe pn => pe_var (X := X.suite a ((a, oe) :: pn)) hi (.inl hln) hd hcd) hsw, fun G σ H F ρ o E s hf1 q => ?_⟩
  · exact pss_one (ps_expr (pe_callS (X := X.tr pn xe) (FO X.base) (hr.mono (Nat.le_of_ble_eq_true hk)) hg hm hkp (binds_of hb) (fun σ => passAt tk σ) (DA_pa (ha W pn xe)) hdb he hpl) hsw1)
  · unfold tryF at hf1
    cases e1 : fa ρ with
    | none => simp [e1] at hf1
    | some ds =>
      simp only [e1, Option.bind_some] at hf1
      refine ⟨G, F, ρ, ds, s, e1, fun vs H1 F1 g1 r1 => ⟨F1, ds, by rw [r1.length, ← hn]; exact hl ρ ds e1, g1.fh, r1, ?_⟩⟩
      cases e2 : Fx ds with
      | none =>
        simp only [e2] at hf1
        cases e3 : Fn ds with
        | none => simp [e3] at hf1
        | some d =>
          simp [e3] at hf1
          subst hf1
          exact .inl ⟨d, rfl, fun v H2 F2 g2 => q σ H2 F2 ((s.grow g1).grow g2) (same_trans g1.ff g2.ff)⟩
      | some c =>
        simp only [e2] at hf1
        by_cases hc : excNames.contains c = true
        · rw [if_pos hc] at hf1
          cases hf1
          have hc' := List.contains_iff_mem.mp hc
          refine .inr ⟨c, rfl, hc', fun H2 F2 g2 => ⟨T.fit c hc', _, rfl, rfl, fun a hna => ?_⟩⟩
          have s2 := (s.grow g1).grow g2
          have hfa : F2 a = none := free_of s2.sub hna
          have g3 : Grow F2 H2 (upd F2 a (ExH (.ref (He.ga X.K c)) a)) (upd H2 a (ExH (.ref (He.ga X.K c)) a)) := Grow.new s2.sub hna
          have s3 := (s2.grow g3).set j (v := .ref a) (d := excD c) (.exc upd_same)
          rw [noDrop hO2] at s3
          have s4 := s3.unset i
          rw [set_comm2 hij]
          exact q _ _ _ s4 (same_trans g1.ff (same_trans g2.ff g3.ff))
        · rw [if_neg hc] at hf1; cases hf1
end
end DL
/-! ### the head's further facts -/
namespace DL
open PySem PySem.Spec PyProof.Rows L2
def excCB (K : PySem.W.Frag) (x : Str) : Bool :=
  decide (PySem.W.findIn K (.ref (He.ga K x)) "__getattribute__" = some (some (.builtin "BaseException.__getattribute__"))) && (decide (PySem.W.findIn K (.ref (He.ga K x)) "__getattr__" = some none) &&
  (decide (PySem.W.subIn K (.ref (He.ga K x)) (.type "BaseException") = some true) && (PySem.W.hasDictIn K (He.ga K x) && (decide (PySem.W.findIn K (.ref (He.ga K x)) "__class__" = some (some (.builtin "object.__class__"))) &&
  (decide (PySem.W.specialIn K (.builtin "object.__class__") "__get__" = some (some (.builtin "getset_descriptor.__get__"))) && (decide (PySem.W.takesIn K (.builtin "object.__class__") = some true) && decide (PySem.W.mroIn K (He.ga K x) (.type "object") = some true)))))))
theorem excCB_ok {K : PySem.W.Frag} {x : Str} (h : excCB K x = true) : ExcC K (He.ga K x) := by
  unfold excCB at h
  simp only [Bool.and_eq_true, decide_eq_true_eq] at h
  exact ⟨h.1, h.2.1, h.2.2.1, h.2.2.2.1, h.2.2.2.2.1, h.2.2.2.2.2.1, h.2.2.2.2.2.2.1, h.2.2.2.2.2.2.2⟩
def excOkB (K : PySem.W.Frag) : Bool :=
  (He.Fa.glo "FitError").ok K && (excNames.all (fun x => (He.Fa.glo x).ok K && ((He.Fa.exc x).ok K && ((He.Fa.exm x "FitError" true).ok K && (excCB K x && (excNames.all (fun y => decide (PySem.W.kitOne K (.ref (He.ga K x)) (.ref (He.ga K y)) = some (decide (x = y)))) && decide (PySem.W.kitOne K (.ref (He.ga K x)) (.type "ValueError") = some true)))))) &&
  ((He.Fa.free "ValueError").ok K && (He.Fa.free "isinstance").ok K))
theorem excOkB_ok {K : PySem.W.Frag} {h : Heap} {mg : Str → Option Value} (X : K.In h) (G : h.Ns mainGlobals mg) (c : excOkB K = true) : ExcOk K mg := by
  unfold excOkB at c
  obtain ⟨c1, c⟩ := He.ba c
  obtain ⟨c2, c⟩ := He.ba c
  obtain ⟨c3, c4⟩ := He.ba c
  have all : ∀ x ∈ excNames, _ := List.all_eq_true.mp c2
  refine ⟨He.glo_ok X G c1, fun x hx => ?_, fun x hx => ?_, fun x hx => ?_, fun x hx => ?_, fun x hx y hy => ?_, fun x hx => ?_, He.free_ok X G c3, He.free_ok X G c4⟩
  all_goals
    obtain ⟨d1, d⟩ := He.ba (all x hx)
    obtain ⟨d2, d⟩ := He.ba d
    obtain ⟨d3, d⟩ := He.ba d
    obtain ⟨d4, d⟩ := He.ba d
    obtain ⟨d5, d6⟩ := He.ba d
  · exact He.glo_ok X G d1
  · exact d2
  · exact He.exm_ok d3
  · exact excCB_ok d4
  · exact of_decide_eq_true (List.all_eq_true.mp d5 y hy)
  · exact of_decide_eq_true d6
/-- hookD and one more look -/
def obsXG (n : Nat) (fa : List He.Fa) (fn : List He.DefD) (p : PySem.W.Frag → Bool) (g : Addr → Option Obj) : He.AlD × Bool := (He.obsD fa fn (He.frG g (He.asD g n)), p (He.frG g (He.asD g n)))
def hookX (n : Nat) (fa : List He.Fa) (fn : List He.DefD) (p : PySem.W.Frag → Bool) : PySem.W.Hook where
  α := He.AlD × Bool
  obs := fun s => obsXG n fa fn p s.heap.get?
  val := fun _ => (He.valD fn, true)
  says := fun _ h => ∃ K : PySem.W.Frag, K.In h ∧ He.SaysD fa fn K ∧ p K = true
  of := fun _ _ e => ⟨_, He.frG_in, (Prod.mk.inj e).1, (Prod.mk.inj e).2⟩
  keeps := fun _ _ _ ⟨K, hK, c⟩ k => ⟨K, PySem.W.Frag.In.keeps hK k, c⟩
theorem obsXG_eq {n : Nat} {fa : List He.Fa} {fn : List He.DefD} {p : PySem.W.Frag → Bool} {g : Addr → Option Obj} {s : Shared} (h : ∀ a, g a = s.heap.get? a) : obsXG n fa fn p g = (hookX n fa fn p).obs s := by
  have e : g = s.heap.get? := funext h
  rw [e] <;> rfl
end DL

/-! DL, part 9: numbers: gcd, fractions as Rat, sizes. -/
namespace DL
open PySem PySem.Spec PyProof.Rows L2
theorem gcd_loop : ∀ (n : Nat) (x y : Nat), y < n → whileN (tb (o2 gtD (vE 1) (cE (.int 0)))) (parF 0 1 (vE 1) (o2 modD (vE 0) (vE 1))) n [some (.int x), some (.int y)] = some (.nx [some (.int (Nat.gcd x y)), some (.int 0)])
  | 0, _, _, h => absurd h (by omega)
  | n + 1, x, y, h => by
    unfold whileN
    by_cases hy : y = 0
    · subst hy; simp
    · have h1 : (0 : Int) < (y : Int) := by omega
      have h2 : 0 < y := by omega
      simp [h1, h2, modD_pos h1]
      have ih := gcd_loop n y (x % y) (by have := Nat.mod_lt x (show 0 < y by omega); omega)
      rw [Nat.gcd_comm x y, Nat.gcd_rec, Nat.gcd_comm]
      simpa using ih
theorem rat_parts (t b : Int) (hb : b ≠ 0) : ∃ g k m : Int, (Int.gcd t b : Int) = g ∧ 0 < g ∧ t = g * k ∧ b = g * m ∧ (Rat.divInt t b).num = (if b < 0 then -k else k) ∧ ((Rat.divInt t b).den : Int) = (if b < 0 then -m else m) := by
  have hg : 0 < Int.gcd t b := Int.gcd_pos_of_ne_zero_right t hb
  obtain ⟨k, hk⟩ := Int.gcd_dvd_left (a := t) (b := b)
  obtain ⟨m, hm⟩ := Int.gcd_dvd_right (a := t) (b := b)
  have hg' : (0 : Int) < (Int.gcd t b : Int) := by omega
  have hn : (Rat.divInt t b).num = b.sign * t / (Int.gcd t b : Int) := by rw [Rat.num_divInt, Int.gcd_comm b t]
  have hd : ((Rat.divInt t b).den : Int) = (b.natAbs : Int) / (Int.gcd t b : Int) := by rw [Rat.den_divInt, if_neg hb, Int.gcd_comm b t, Int.natCast_ediv]
  generalize (Int.gcd t b : Int) = g at *
  refine ⟨g, k, m, rfl, hg', hk, hm, ?_, ?_⟩
  · rw [hn]
    by_cases h : b < 0
    · rw [if_pos h, Int.sign_eq_neg_one_of_neg h, hk, show (-1 : Int) * (g * k) = g * (-k) by grind]
      exact Int.mul_ediv_cancel_left _ (by omega)
    · rw [if_neg h, Int.sign_eq_one_of_pos (by omega), Int.one_mul, hk]
      exact Int.mul_ediv_cancel_left _ (by omega)
  · rw [hd]
    by_cases h : b < 0
    · rw [if_pos h, show ((b.natAbs : Nat) : Int) = -b by omega, hm, show -(g * m) = g * (-m) by grind]
      exact Int.mul_ediv_cancel_left _ (by omega)
    · rw [if_neg h, show ((b.natAbs : Nat) : Int) = b by omega, hm]
      exact Int.mul_ediv_cancel_left _ (by omega)
theorem divB_of {a b : Int} (h0 : b ≠ 0) (h : Builtin.divisionGoesByPylong a b = false) : divB a b = true := by
  unfold divB; rw [h]; simp [h0]
theorem noPyl {a b : Int} (h : Sz 9000 b) (h0 : b ≠ 0) : Builtin.divisionGoesByPylong a b = false :=
  PyProof.noPylong_of_log2 ((Nat.log2_lt (by omega)).mpr h)
theorem gcd_sz {t b : Int} {n : Nat} (hb : b ≠ 0) (h : Sz n b) : Sz n (Int.gcd t b : Int) := by
  unfold Sz at *
  have := Int.gcd_le_natAbs_right t hb
  omega
/-- a fraction's size: both parts below 2 ^ n -/
def Qz (n : Nat) (q : Rat) : Prop := Sz n q.num ∧ Sz n (q.den : Int)
theorem Qz.mono {m n : Nat} {q : Rat} (h : Qz m q) (hmn : m ≤ n) : Qz n q := ⟨h.1.mono hmn, h.2.mono hmn⟩
theorem den_ne (q : Rat) : (q.den : Int) ≠ 0 := by have := q.den_pos; omega
theorem add_divInt (p q : Rat) : Rat.divInt (p.num * q.den + q.num * p.den) (p.den * q.den) = p + q := by
  rw [← Rat.divInt_add_divInt _ _ (den_ne p) (den_ne q), Rat.num_divInt_den, Rat.num_divInt_den]
theorem sub_divInt (p q : Rat) : Rat.divInt (p.num * q.den - q.num * p.den) (p.den * q.den) = p - q := by
  rw [← Rat.divInt_sub_divInt _ _ (den_ne p) (den_ne q), Rat.num_divInt_den, Rat.num_divInt_den]
theorem mul_divInt (p q : Rat) : Rat.divInt (p.num * q.num) (p.den * q.den) = p * q := by
  rw [← Rat.divInt_mul_divInt _ _ , Rat.num_divInt_den, Rat.num_divInt_den]
theorem rat_gcd (q : Rat) : Int.gcd q.num q.den = 1 := by
  have h : q.num.natAbs.gcd q.den = 1 := q.reduced
  rw [Int.gcd, Int.natAbs_natCast]; exact h
theorem divInt_sz {n : Nat} {t b : Int} (hb : b ≠ 0) (ht : Sz n t) (hs : Sz n b) : Qz n (Rat.divInt t b) := by
  obtain ⟨g, k, m, hg, hg0, e1, e2, hn, hd⟩ := rat_parts t b hb
  have h1 : k.natAbs ≤ t.natAbs := by
    rw [e1, Int.natAbs_mul]; exact Nat.le_mul_of_pos_left _ (by omega)
  have h2 : m.natAbs ≤ b.natAbs := by
    rw [e2, Int.natAbs_mul]; exact Nat.le_mul_of_pos_left _ (by omega)
  unfold Qz Sz at *
  rw [hn, hd]
  constructor
  · split
    · omega
    · omega
  · split
    · omega
    · omega
theorem Qz_add {m n : Nat} {p q : Rat} (hp : Qz m p) (hq : Qz n q) : Qz (m + n + 1) (p + q) := by
  rw [← add_divInt]
  refine divInt_sz (Int.mul_ne_zero (den_ne p) (den_ne q)) (((hp.1.mul hq.2).add (hq.1.mul hp.2)).mono (by omega)) ((hp.2.mul hq.2).mono (by omega))
theorem Qz_sub {m n : Nat} {p q : Rat} (hp : Qz m p) (hq : Qz n q) : Qz (m + n + 1) (p - q) := by
  rw [← sub_divInt]
  refine divInt_sz (Int.mul_ne_zero (den_ne p) (den_ne q)) (((hp.1.mul hq.2).sub (hq.1.mul hp.2)).mono (by omega)) ((hp.2.mul hq.2).mono (by omega))
theorem Qz_mul {m n : Nat} {p q : Rat} (hp : Qz m p) (hq : Qz n q) : Qz (m + n) (p * q) := by
  rw [← mul_divInt]
  exact divInt_sz (Int.mul_ne_zero (den_ne p) (den_ne q)) (hp.1.mul hq.1) (hp.2.mul hq.2)
theorem num_eq_of {q : Rat} {t b : Int} (hb : b ≠ 0) (h : q = Rat.divInt t b) : q.num * b = t * q.den := by
  have := (Rat.divInt_eq_divInt_iff (den_ne q) hb).mp ((Rat.num_divInt_den q).trans h)
  exact this
theorem atI_three {α : Type} {a b c : α} {i : Int} (h0 : 0 ≤ i) (h3 : i < 3) : atI [a, b, c] i = some (if i = 0 then a else if i = 1 then b else c) := by
  have : i = 0 ∨ i = 1 ∨ i = 2 := by omega
  rcases this with rfl | rfl | rfl <;> simp
theorem atI_two {α : Type} {a b : α} {i : Int} (h0 : 0 ≤ i) (h3 : i < 2) : atI [a, b] i = some (if i = 0 then a else b) := by
  have : i = 0 ∨ i = 1 := by omega
  rcases this with rfl | rfl <;> simp
theorem den_dvd {t b : Int} (hb : 0 < b) : ∃ m, b = (Rat.divInt t b).den * m ∧ (Rat.divInt t b).num.natAbs ≤ t.natAbs := by
  obtain ⟨g, k, m, hg, hg0, e1, e2, hn, hd⟩ := rat_parts t b (by omega)
  rw [if_neg (by omega)] at hn hd
  refine ⟨g, by rw [hd, e2, Int.mul_comm], ?_⟩
  rw [hn, e1, Int.natAbs_mul]; exact Nat.le_mul_of_pos_left _ (by omega)
theorem rat_num (q : Rat) : q * ((q.den : Int) : Rat) = (q.num : Rat) := by
  have h : ((q.den : Int) : Rat) ≠ 0 := by
    intro z
    have : ((q.den : Int) : Rat) = ((0 : Int) : Rat) := z
    exact den_ne q (Rat.intCast_inj.mp this)
  have e := Rat.num_divInt_den q
  rw [Rat.divInt_eq_div] at e
  have : (q.num : Rat) / ((q.den : Int) : Rat) * ((q.den : Int) : Rat) = q.num := by grind
  rw [e] at this
  exact this
/-- what a fraction's making leaves, whatever the sign -/
theorem lowest_parts {t b : Int} (hb : b ≠ 0) (hs : Sz 9000 b) : ∃ g : Int, (Int.gcd t b : Int) = g ∧
    (if b < 0 then fdivD (.int t) (.int (-g)) = some (.int (Rat.divInt t b).num) ∧ fdivD (.int b) (.int (-g)) = some (.int (Rat.divInt t b).den)
      else fdivD (.int t) (.int g) = some (.int (Rat.divInt t b).num) ∧ fdivD (.int b) (.int g) = some (.int (Rat.divInt t b).den)) := by
  obtain ⟨g, k, m, hg, hg0, ht, hbm, hn, hd⟩ := rat_parts t b hb
  have hgs : Sz 9000 g := hg ▸ gcd_sz hb hs
  refine ⟨g, hg, ?_⟩
  by_cases h : b < 0
  · have hng : Sz 9000 (-g) := hgs.neg
    rw [if_pos h] at hn hd ⊢
    rw [fdivD_i (divB_of (by omega) (noPyl hng (by omega))), fdivD_i (divB_of (by omega) (noPyl hng (by omega))), hn, hd, ht, hbm]
    rw [show g * k = (-g) * (-k) by grind, show g * m = (-g) * (-m) by grind, Int.mul_fdiv_cancel_left _ (by omega), Int.mul_fdiv_cancel_left _ (by omega)]
    simp
  · rw [if_neg h] at hn hd ⊢
    rw [fdivD_i (divB_of (by omega) (noPyl hgs (by omega))), fdivD_i (divB_of (by omega) (noPyl hgs (by omega))), hn, hd, ht, hbm]
    rw [Int.mul_fdiv_cancel_left _ (by omega), Int.mul_fdiv_cancel_left _ (by omega)]
    simp
end DL

noncomputable section
namespace Lw
open PySem PySem.Spec PyProof.Rows L2 DL
def top (i : Nat) : Stmt := PySem.Challenge.pw_snugfit_k01_divisor_and_fraction.main.body.getD i (.Pass ⟨0, 0, 0, 0⟩)
abbrev s_divisor : Stmt := top 6
abbrev s_ratio : Stmt := top 7
abbrev s__law_cell_at : Stmt := top 9
abbrev s__law_whole : Stmt := top 10
abbrev s__law_share : Stmt := top 11
abbrev s__law_longer : Stmt := top 12
abbrev s__law_refused : Stmt := top 13
abbrev s__law_right : Stmt := top 14
abbrev s_law : Stmt := top 15
abbrev FnP (K : PySem.W.Frag) (x : Str) (st : Stmt) (f : Addr) (fd : FuncData) : Prop := FunD K x x (defArgs st) (defBody st) (defScope st) [] [] f fd
structure Top (K : PySem.W.Frag) (mg : Str → Option Value) : Prop where
  d_divisor : ∃ (fa : Addr) (fd : FuncData), mg "divisor" = some (.ref fa) ∧ PySem.W.keepIn K (.ref fa) = true ∧ FnP K "divisor" s_divisor fa fd
  d_ratio : ∃ (fa : Addr) (fd : FuncData), mg "ratio" = some (.ref fa) ∧ PySem.W.keepIn K (.ref fa) = true ∧ FnP K "ratio" s_ratio fa fd
  d__law_cell_at : ∃ (fa : Addr) (fd : FuncData), mg "_law_cell_at" = some (.ref fa) ∧ PySem.W.keepIn K (.ref fa) = true ∧ FnP K "_law_cell_at" s__law_cell_at fa fd
  d__law_whole : ∃ (fa : Addr) (fd : FuncData), mg "_law_whole" = some (.ref fa) ∧ PySem.W.keepIn K (.ref fa) = true ∧ FnP K "_law_whole" s__law_whole fa fd
  d__law_share : ∃ (fa : Addr) (fd : FuncData), mg "_law_share" = some (.ref fa) ∧ PySem.W.keepIn K (.ref fa) = true ∧ FnP K "_law_share" s__law_share fa fd
  d__law_longer : ∃ (fa : Addr) (fd : FuncData), mg "_law_longer" = some (.ref fa) ∧ PySem.W.keepIn K (.ref fa) = true ∧ FnP K "_law_longer" s__law_longer fa fd
  d__law_refused : ∃ (fa : Addr) (fd : FuncData), mg "_law_refused" = some (.ref fa) ∧ PySem.W.keepIn K (.ref fa) = true ∧ FnP K "_law_refused" s__law_refused fa fd
  d__law_right : ∃ (fa : Addr) (fd : FuncData), mg "_law_right" = some (.ref fa) ∧ PySem.W.keepIn K (.ref fa) = true ∧ FnP K "_law_right" s__law_right fa fd
  d_law : ∃ (fa : Addr) (fd : FuncData), mg "law" = some (.ref fa) ∧ PySem.W.keepIn K (.ref fa) = true ∧ FnP K "law" s_law fa fd
  exc : ExcOk K mg
  b_abs : mg "abs" = none
  b_bool : mg "bool" = none
  b_int : mg "int" = none
  b_isinstance : mg "isinstance" = none
  b_len : mg "len" = none
  b_tuple : mg "tuple" = none
/-! ### divisor -/
def N_divisor : List Str := ["one", "other"]
def L1_divisor : SF := (parF 0 1 (vE 1) (o2 modD (vE 0) (vE 1)))
def B_divisor : SF := (seqF (setF 0 (o1 absD (vE 0))) (seqF (setF 1 (o1 absD (vE 1))) (seqF (whileF (fun ρ => natAt ρ 1) (tb (o2 gtD (vE 1) (cE (.int 0)))) L1_divisor) (retF (vE 0)))))
def F_divisor : List D → Option D := bodyFn false 2 B_divisor
theorem sc_divisor : FnScope N_divisor ["one", "other"] (defScope s_divisor) := ⟨rfl, rfl, rfl, by decide +kernel, rfl, by decide +kernel, by decide +kernel⟩
theorem ok_divisor {P : Program} {w : World} {K : PySem.W.Frag} {mg : Str → Option Value} (T : Top K mg) : DefOk P w K mg "divisor" 1 ["one", "other"] false F_divisor := by
  obtain ⟨fa, fd, hm, hk, hF⟩ := T.d_divisor
  have S := sc_divisor
  refine ⟨fa, fd, hm, hk, FunD.bindsA hF (fun _ _ _ _ _ _ us hl => match us, hl with | [_, _], _ => rfl), fun base => ?_⟩
  refine fn_ok (N := N_divisor) (own := false) (O' := []) (b := B_divisor) hF S (fun cdv A outer s H E hr => ?_) (by rfl)
  exact (dss_cons (s_set 0 S.nd (e_abs (e_v 0) T.b_abs)) (dss_cons (s_set 1 S.nd (e_abs (e_v 1) T.b_abs)) (dss_cons (s_while (fun ρ => natAt ρ 1) (t_cmp (dc_gt (e_v 1) de_int)) (dss_one (s_par 0 1 S.nd (e_v 1) (de_mod (e_v 0) (e_v 1))))) (dss_one (ds_ret (e_v 0))))))
/-! ### ratio -/
def N_ratio : List Str := ["top", "bottom", "by"]
def B_ratio : SF := (seqF (ifF (tb (o2 eqD (vE 1) (cE (.int 0)))) neverF skipF) (seqF (setF 2 (callE F_divisor (consA (vE 0) (consA (vE 1) nilA)))) (seqF (ifF (tb (o2 ltD (vE 1) (cE (.int 0)))) (setF 2 (o2 subD (cE (.int 0)) (vE 2))) skipF) (retF (tupE (consA (o2 fdivD (vE 0) (vE 2)) (consA (o2 fdivD (vE 1) (vE 2)) nilA)))))))
def F_ratio : List D → Option D := bodyFn false 3 B_ratio
theorem sc_ratio : FnScope N_ratio ["top", "bottom"] (defScope s_ratio) := ⟨rfl, rfl, rfl, by decide +kernel, rfl, by decide +kernel, by decide +kernel⟩
theorem ok_ratio {P : Program} {w : World} {K : PySem.W.Frag} {mg : Str → Option Value} (T : Top K mg) (ok_divisor : DefOk P w K mg "divisor" 1 ["one", "other"] false F_divisor) : DefOk P w K mg "ratio" 2 ["top", "bottom"] false F_ratio := by
  obtain ⟨fa, fd, hm, hk, hF⟩ := T.d_ratio
  have S := sc_ratio
  refine ⟨fa, fd, hm, hk, FunD.bindsA hF (fun _ _ _ _ _ _ us hl => match us, hl with | [_, _], _ => rfl), fun base => ?_⟩
  refine fn_ok (N := N_ratio) (own := false) (O' := []) (b := B_ratio) hF S (fun cdv A outer s H E hr => ?_) (by rfl)
  exact (dss_cons (ds_if (t_cmp (c_eq hr (r_v 1) (DE_r de_int))) (dss_one ds_never) dss_nil) (dss_cons (s_set 2 S.nd (e_call ok_divisor hr rfl (da_cons (e_v 0) (da_cons (e_v 1) da_nil)))) (dss_cons (ds_if (t_cmp (dc_lt (e_v 1) de_int)) (dss_one (s_set 2 S.nd (de_sub de_int (e_v 2)))) dss_nil) (dss_one (ds_ret (de_tup (da_cons (de_fdiv (e_v 0) (e_v 2)) (da_cons (de_fdiv (e_v 1) (e_v 2)) da_nil))))))))
def XB_ratio : Rho → Option Str := (ifX (tb (o2 eqD (vE 1) (cE (.int 0)))) "NoNumber")
def FX_ratio : List D → Option Str := fun ds => XB_ratio (startR 3 ds)
theorem okx_ratio {P : Program} {w : World} {K : PySem.W.Frag} {mg : Str → Option Value} (T : Top K mg) (ok_divisor : DefOk P w K mg "divisor" 1 ["one", "other"] false F_divisor) : DefX P w K mg "ratio" 2 ["top", "bottom"] F_ratio FX_ratio := by
  obtain ⟨fa, fd, hm, hk, hF⟩ := T.d_ratio
  have S := sc_ratio
  refine ⟨fa, fd, hm, hk, FunD.bindsA hF (fun _ _ _ _ _ _ us hl => match us, hl with | [_, _], _ => rfl), fun base => ?_⟩
  refine fnX_ok (N := N_ratio) (own := false) (O' := []) (b := B_ratio) (fx := XB_ratio) hF S (fun cdv A outer s H E hr => ?_) (fun cdv A outer s H E hr => ?_) (by rfl) (by rfl)
  · exact (dss_cons (ds_if (t_cmp (c_eq hr (r_v 1) (DE_r de_int))) (dss_one ds_never) dss_nil) (dss_cons (s_set 2 S.nd (e_call ok_divisor hr rfl (da_cons (e_v 0) (da_cons (e_v 1) da_nil)))) (dss_cons (ds_if (t_cmp (dc_lt (e_v 1) de_int)) (dss_one (s_set 2 S.nd (de_sub de_int (e_v 2)))) dss_nil) (dss_one (ds_ret (de_tup (da_cons (de_fdiv (e_v 0) (e_v 2)) (da_cons (de_fdiv (e_v 1) (e_v 2)) da_nil))))))))
  · have tk : Takes (cxOf (L2.CX P w) P w K mg base N_ratio "ratio" (defScope s_ratio) fa cdv A outer s H E) (fun cls d _ H => E cls d H) := takes_of rfl rfl rfl rfl
    exact (dx_if "NoNumber" T.exc (by decide +kernel) (t_cmp (c_eq hr (r_v 1) (DE_r de_int))) tk rfl rfl (by decide))
/-! ### _law_cell_at -/
def N__law_cell_at : List Str := ["_law_script", "_law_k"]
def B__law_cell_at : SF := (seqF (ifF (tb (o2 ltD (vE 1) (o1 lenD (vE 0)))) (retF (o2 ixD (vE 0) (vE 1))) skipF) (retF (cE (.int 0))))
def F__law_cell_at : List D → Option D := bodyFn false 2 B__law_cell_at
theorem sc__law_cell_at : FnScope N__law_cell_at ["_law_script", "_law_k"] (defScope s__law_cell_at) := ⟨rfl, rfl, rfl, by decide +kernel, rfl, by decide +kernel, by decide +kernel⟩
theorem ok__law_cell_at {P : Program} {w : World} {K : PySem.W.Frag} {mg : Str → Option Value} (T : Top K mg) : DefOk P w K mg "_law_cell_at" 1 ["_law_script", "_law_k"] false F__law_cell_at := by
  obtain ⟨fa, fd, hm, hk, hF⟩ := T.d__law_cell_at
  have S := sc__law_cell_at
  refine ⟨fa, fd, hm, hk, FunD.bindsA hF (fun _ _ _ _ _ _ us hl => match us, hl with | [_, _], _ => rfl), fun base => ?_⟩
  refine fn_ok (N := N__law_cell_at) (own := false) (O' := []) (b := B__law_cell_at) hF S (fun cdv A outer s H E hr => ?_) (by rfl)
  exact (dss_cons (ds_if (t_cmp (dc_lt (e_v 1) (e_len (r_v 0) T.b_len))) (dss_one (ds_ret (de_ix (r_v 0) (e_v 1)))) dss_nil) (dss_one (ds_ret de_int)))
/-! ### _law_whole -/
def N__law_whole : List Str := ["_law_found"]
def B__law_whole : SF := (retF (andE (o1 (isiD "int") (vE 0)) (notE (o1 (isiD "bool") (vE 0)))))
def F__law_whole : List D → Option D := bodyFn false 1 B__law_whole
theorem sc__law_whole : FnScope N__law_whole ["_law_found"] (defScope s__law_whole) := ⟨rfl, rfl, rfl, by decide +kernel, rfl, by decide +kernel, by decide +kernel⟩
theorem ok__law_whole {P : Program} {w : World} {K : PySem.W.Frag} {mg : Str → Option Value} (T : Top K mg) : DefOk P w K mg "_law_whole" 1 ["_law_found"] false F__law_whole := by
  obtain ⟨fa, fd, hm, hk, hF⟩ := T.d__law_whole
  have S := sc__law_whole
  refine ⟨fa, fd, hm, hk, FunD.bindsA hF (fun _ _ _ _ _ _ us hl => match us, hl with | [_], _ => rfl), fun base => ?_⟩
  refine fn_ok (N := N__law_whole) (own := false) (O' := []) (b := B__law_whole) hF S (fun cdv A outer s H E hr => ?_) (by rfl)
  exact (dss_one (ds_ret (de_and (e_isi "int" (r_v 0) T.b_isinstance T.b_int) (de_one (de_not (e_isi "bool" (r_v 0) T.b_isinstance T.b_bool))))))
/-! ### _law_share -/
def N__law_share : List Str := ["_law_cell"]
def B__law_share : SF := (retF (o2 ixD (lE (lstA (consA (cE (.int 1)) (consA (o2 modD (o2 fdivD (vE 0) (cE (.int 4))) (cE (.int 3))) (consA (o2 modD (o2 fdivD (vE 0) (cE (.int 4))) (cE (.int 12))) (consA (o2 modD (o2 fdivD (vE 0) (cE (.int 4))) (o2 powD (cE (.int 10)) (cE (.int 10)))) nilA)))))) (o2 modD (vE 0) (cE (.int 4)))))
def F__law_share : List D → Option D := bodyFn false 1 B__law_share
theorem sc__law_share : FnScope N__law_share ["_law_cell"] (defScope s__law_share) := ⟨rfl, rfl, rfl, by decide +kernel, rfl, by decide +kernel, by decide +kernel⟩
theorem ok__law_share {P : Program} {w : World} {K : PySem.W.Frag} {mg : Str → Option Value} (T : Top K mg) : DefOk P w K mg "_law_share" 1 ["_law_cell"] false F__law_share := by
  obtain ⟨fa, fd, hm, hk, hF⟩ := T.d__law_share
  have S := sc__law_share
  refine ⟨fa, fd, hm, hk, FunD.bindsA hF (fun _ _ _ _ _ _ us hl => match us, hl with | [_], _ => rfl), fun base => ?_⟩
  refine fn_ok (N := N__law_share) (own := false) (O' := []) (b := B__law_share) hF S (fun cdv A outer s H E hr => ?_) (by rfl)
  exact (dss_one (ds_ret (de_ix (DN_r (dn_lst (da_cons de_int (da_cons (de_mod (de_fdiv (e_v 0) de_int) de_int) (da_cons (de_mod (de_fdiv (e_v 0) de_int) de_int) (da_cons (de_mod (de_fdiv (e_v 0) de_int) (de_pow de_int de_int)) da_nil)))))) (de_mod (e_v 0) de_int))))
/-! ### _law_longer -/
def N__law_longer : List Str := ["_law_pair", "_law_cell", "_law_many"]
def B__law_longer : SF := (seqF (setF 2 (o2 addD (cE (.int 1)) (o2 modD (o2 fdivD (vE 1) (cE (.int 4))) (o2 ixD (lE (lstA (consA (cE (.int 1)) (consA (cE (.int 3)) (consA (o2 powD (cE (.int 10)) (cE (.int 9))) (consA (o2 powD (cE (.int 10)) (cE (.int 18))) nilA)))))) (o2 modD (vE 1) (cE (.int 4))))))) (seqF (ifF (tb (o2 geD (o2 mulD (vE 2) (o2 ixD (vE 0) (cE (.int 0)))) (o2 powD (cE (.int 10)) (cE (.int 30))))) (setF 2 (cE (.int 1))) skipF) (retF (tupE (consA (o2 addD (o2 mulD (vE 2) (o2 ixD (vE 0) (cE (.int 0)))) (o2 ixD (vE 0) (cE (.int 1)))) (consA (o2 ixD (vE 0) (cE (.int 0))) nilA))))))
def F__law_longer : List D → Option D := bodyFn false 3 B__law_longer
theorem sc__law_longer : FnScope N__law_longer ["_law_pair", "_law_cell"] (defScope s__law_longer) := ⟨rfl, rfl, rfl, by decide +kernel, rfl, by decide +kernel, by decide +kernel⟩
theorem ok__law_longer {P : Program} {w : World} {K : PySem.W.Frag} {mg : Str → Option Value} (T : Top K mg) : DefOk P w K mg "_law_longer" 1 ["_law_pair", "_law_cell"] false F__law_longer := by
  obtain ⟨fa, fd, hm, hk, hF⟩ := T.d__law_longer
  have S := sc__law_longer
  refine ⟨fa, fd, hm, hk, FunD.bindsA hF (fun _ _ _ _ _ _ us hl => match us, hl with | [_, _], _ => rfl), fun base => ?_⟩
  refine fn_ok (N := N__law_longer) (own := false) (O' := []) (b := B__law_longer) hF S (fun cdv A outer s H E hr => ?_) (by rfl)
  exact (dss_cons (s_set 2 S.nd (de_add de_int (de_mod (de_fdiv (e_v 1) de_int) (de_ix (DN_r (dn_lst (da_cons de_int (da_cons de_int (da_cons (de_pow de_int de_int) (da_cons (de_pow de_int de_int) da_nil)))))) (de_mod (e_v 1) de_int))))) (dss_cons (ds_if (t_cmp (dc_ge (de_mul (e_v 2) (de_ix (r_v 0) de_int)) (de_pow de_int de_int))) (dss_one (s_set 2 S.nd de_int)) dss_nil) (dss_one (ds_ret (de_tup (da_cons (de_add (de_mul (e_v 2) (de_ix (r_v 0) de_int)) (de_ix (r_v 0) de_int)) (da_cons (de_ix (r_v 0) de_int) da_nil)))))))
/-! ### _law_refused -/
def N__law_refused : List Str := ["_law_top", "_law_bottom", "_law_caught", "e"]
def B__law_refused : SF := (seqF (setF 2 (cE .none)) (seqF (tryF 3 2 (consA (vE 0) (consA (vE 1) nilA)) F_ratio FX_ratio) (seqF (ifF (tb (o1 (isx2 "NoShape" "NoSize") (vE 2))) (retF (cE (.bool false))) skipF) (retF (andE (o1 (isx1 "NoNumber") (vE 2)) (o1 isxV (vE 2)))))))
def F__law_refused : List D → Option D := bodyFn false 4 B__law_refused
theorem sc__law_refused : FnScope N__law_refused ["_law_top", "_law_bottom"] (defScope s__law_refused) := ⟨rfl, rfl, rfl, by decide +kernel, rfl, by decide +kernel, by decide +kernel⟩
theorem ok__law_refused {P : Program} {w : World} {K : PySem.W.Frag} {mg : Str → Option Value} (T : Top K mg) (ok_ratio : DefOk P w K mg "ratio" 2 ["top", "bottom"] false F_ratio) (okx_ratio : DefX P w K mg "ratio" 2 ["top", "bottom"] F_ratio FX_ratio) : DefOk P w K mg "_law_refused" 3 ["_law_top", "_law_bottom"] false F__law_refused := by
  obtain ⟨fa, fd, hm, hk, hF⟩ := T.d__law_refused
  have S := sc__law_refused
  refine ⟨fa, fd, hm, hk, FunD.bindsA hF (fun _ _ _ _ _ _ us hl => match us, hl with | [_, _], _ => rfl), fun base => ?_⟩
  refine fn_ok (N := N__law_refused) (own := false) (O' := []) (b := B__law_refused) hF S (fun cdv A outer s H E hr => ?_) (by rfl)
  exact (dss_cons (s_set 2 S.nd de_non) (dss_cons (s_try 3 2 T.exc okx_ratio hr rfl rfl rfl (fun W pn xe => (da_cons (e_v 0) (da_cons (e_v 1) da_nil))) (by decide) S.nd) (dss_cons (ds_if (dt_val (e_isx2 T.exc (e_v 2))) (dss_one (ds_ret de_bl)) dss_nil) (dss_one (ds_ret (de_and (e_isx1 T.exc (e_v 2)) (de_one (e_isxV T.exc (e_v 2)))))))))
/-! ### _law_right -/
def N__law_right : List Str := ["_law_share_here", "_law_pair", "_law_cell", "_law_mixed", "_law_one", "_law_other", "_law_most", "_law_found"]
def B__law_right : SF := (seqF (setF 3 (o2 addD (o2 modD (vE 2) (cE (.int 1000003))) (cE (.int 48271)))) (seqF (setF 3 (o2 modD (o2 mulD (vE 3) (vE 3)) (cE (.int 65537)))) (seqF (setF 4 (o2 mulD (o2 ixD (vE 1) (cE (.int 0))) (o2 ixD (lE (lstA (consA (cE (.int 1)) (consA (o1 negD (cE (.int 1))) nilA)))) (o2 modD (vE 3) (cE (.int 2)))))) (seqF (setF 5 (o2 mulD (o2 ixD (vE 1) (cE (.int 1))) (o2 ixD (lE (lstA (consA (cE (.int 1)) (consA (o1 negD (cE (.int 1))) nilA)))) (o2 modD (o2 fdivD (vE 3) (cE (.int 2))) (cE (.int 2)))))) (seqF (ifF (tb (o2 eqD (o2 modD (o2 fdivD (vE 3) (cE (.int 4))) (cE (.int 2))) (cE (.int 1)))) (parF 4 5 (vE 5) (vE 4)) skipF) (seqF (setF 6 (callE F_divisor (consA (o2 mulD (vE 0) (vE 4)) (consA (o2 mulD (vE 0) (vE 5)) nilA)))) (seqF (ifF (orB (notB (tb (callE F__law_whole (consA (vE 6) nilA)))) (tb (o2 neD (vE 6) (vE 0)))) (retF (cE (.bool false))) skipF) (seqF (ifF (tb (o2 eqD (o2 mulD (vE 0) (vE 5)) (cE (.int 0)))) (retF (callE F__law_refused (consA (o2 mulD (vE 0) (vE 4)) (consA (o2 mulD (vE 0) (vE 5)) nilA)))) skipF) (seqF (setF 7 (callE F_ratio (consA (o2 mulD (vE 0) (vE 4)) (consA (o2 mulD (vE 0) (vE 5)) nilA)))) (seqF (ifF (orB (notB (tb (o1 (isiD "tuple") (vE 7)))) (orB (tb (o2 neD (o1 lenD (vE 7)) (cE (.int 2)))) (orB (notB (tb (callE F__law_whole (consA (o2 ixD (vE 7) (cE (.int 0))) nilA)))) (notB (tb (callE F__law_whole (consA (o2 ixD (vE 7) (cE (.int 1))) nilA))))))) (retF (cE (.bool false))) skipF) (seqF (ifF (tb (o2 ltD (vE 5) (cE (.int 0)))) (retF (o2 eqD (vE 7) (tupE (consA (o2 subD (cE (.int 0)) (vE 4)) (consA (o2 subD (cE (.int 0)) (vE 5)) nilA))))) skipF) (retF (o2 eqD (vE 7) (tupE (consA (vE 4) (consA (vE 5) nilA))))))))))))))))
def F__law_right : List D → Option D := bodyFn false 8 B__law_right
theorem sc__law_right : FnScope N__law_right ["_law_share_here", "_law_pair", "_law_cell"] (defScope s__law_right) := ⟨rfl, rfl, rfl, by decide +kernel, rfl, by decide +kernel, by decide +kernel⟩
theorem ok__law_right {P : Program} {w : World} {K : PySem.W.Frag} {mg : Str → Option Value} (T : Top K mg) (ok_divisor : DefOk P w K mg "divisor" 1 ["one", "other"] false F_divisor) (ok_ratio : DefOk P w K mg "ratio" 2 ["top", "bottom"] false F_ratio) (ok__law_whole : DefOk P w K mg "_law_whole" 1 ["_law_found"] false F__law_whole) (ok__law_refused : DefOk P w K mg "_law_refused" 3 ["_law_top", "_law_bottom"] false F__law_refused) : DefOk P w K mg "_law_right" 4 ["_law_share_here", "_law_pair", "_law_cell"] false F__law_right := by
  obtain ⟨fa, fd, hm, hk, hF⟩ := T.d__law_right
  have S := sc__law_right
  refine ⟨fa, fd, hm, hk, FunD.bindsA hF (fun _ _ _ _ _ _ us hl => match us, hl with | [_, _, _], _ => rfl), fun base => ?_⟩
  refine fn_ok (N := N__law_right) (own := false) (O' := []) (b := B__law_right) hF S (fun cdv A outer s H E hr => ?_) (by rfl)
  exact (dss_cons (s_set 3 S.nd (de_add (de_mod (e_v 2) de_int) de_int)) (dss_cons (s_set 3 S.nd (de_mod (de_mul (e_v 3) (e_v 3)) de_int)) (dss_cons (s_set 4 S.nd (de_mul (de_ix (r_v 1) de_int) (de_ix (DN_r (dn_lst (da_cons de_int (da_cons (de_neg de_int) da_nil)))) (de_mod (e_v 3) de_int)))) (dss_cons (s_set 5 S.nd (de_mul (de_ix (r_v 1) de_int) (de_ix (DN_r (dn_lst (da_cons de_int (da_cons (de_neg de_int) da_nil)))) (de_mod (de_fdiv (e_v 3) de_int) de_int)))) (dss_cons (ds_if (t_cmp (c_eq hr (DE_r (de_mod (de_fdiv (e_v 3) de_int) de_int)) (DE_r de_int))) (dss_one (s_par 4 5 S.nd (e_v 5) (e_v 4))) dss_nil) (dss_cons (s_set 6 S.nd (e_call ok_divisor hr rfl (da_cons (de_mul (e_v 0) (e_v 4)) (da_cons (de_mul (e_v 0) (e_v 5)) da_nil)))) (dss_cons (ds_if (dw_t (dw_or (dt_not (dt_val (e_call ok__law_whole hr rfl (da_cons (e_v 6) da_nil)))) (dw_or1 (t_cmp (c_ne hr (r_v 6) (r_v 0)))))) (dss_one (ds_ret de_bl)) dss_nil) (dss_cons (ds_if (t_cmp (c_eq hr (DE_r (de_mul (e_v 0) (e_v 5))) (DE_r de_int))) (dss_one (ds_ret (e_call ok__law_refused hr rfl (da_cons (de_mul (e_v 0) (e_v 4)) (da_cons (de_mul (e_v 0) (e_v 5)) da_nil))))) dss_nil) (dss_cons (s_set 7 S.nd (e_call ok_ratio hr rfl (da_cons (de_mul (e_v 0) (e_v 4)) (da_cons (de_mul (e_v 0) (e_v 5)) da_nil)))) (dss_cons (ds_if (dw_t (dw_or (dt_not (dt_val (e_isi "tuple" (r_v 7) T.b_isinstance T.b_tuple))) (dw_or (t_cmp (c_ne hr (DE_r (e_len (r_v 7) T.b_len)) (DE_r de_int))) (dw_or (dt_not (dt_val (e_call ok__law_whole hr rfl (da_cons (de_ix (r_v 7) de_int) da_nil)))) (dw_or1 (dt_not (dt_val (e_call ok__law_whole hr rfl (da_cons (de_ix (r_v 7) de_int) da_nil))))))))) (dss_one (ds_ret de_bl)) dss_nil) (dss_cons (ds_if (t_cmp (dc_lt (e_v 5) de_int)) (dss_one (ds_ret (e_cmp (c_eq hr (r_v 7) (DE_r (de_tup (da_cons (de_sub de_int (e_v 4)) (da_cons (de_sub de_int (e_v 5)) da_nil)))))))) dss_nil) (dss_one (ds_ret (e_cmp (c_eq hr (r_v 7) (DE_r (de_tup (da_cons (e_v 4) (da_cons (e_v 5) da_nil)))))))))))))))))))
/-! ### law -/
def N_law : List Str := ["_law_script", "_law_share_here", "_law_pair", "_law_cell"]
def L1_law : SF := (seqF (setF 2 (callE F__law_longer (consA (vE 2) (consA (vE 3) nilA)))) (ifF (notB (tb (callE F__law_right (consA (vE 1) (consA (vE 2) (consA (vE 3) nilA)))))) (retF (cE (.bool false))) skipF))
def B_law : SF := (seqF (setF 1 (callE F__law_share (consA (callE F__law_cell_at (consA (vE 0) (consA (cE (.int 0)) nilA))) nilA))) (seqF (setF 2 (tupE (consA (cE (.int 1)) (consA (cE (.int 0)) nilA)))) (seqF (ifF (notB (tb (callE F__law_right (consA (vE 1) (consA (vE 2) (consA (callE F__law_cell_at (consA (vE 0) (consA (cE (.int 1)) nilA))) nilA)))))) (retF (cE (.bool false))) skipF) (seqF (forF (itemsF (lE (slA (vE 0) (fun _ => some none) (partO (cE (.int 63)))))) (nameG 3) L1_law) (retF (cE (.bool true)))))))
def F_law : List D → Option D := bodyFn false 4 B_law
theorem sc_law : FnScope N_law ["_law_script"] (defScope s_law) := ⟨rfl, rfl, rfl, by decide +kernel, rfl, by decide +kernel, by decide +kernel⟩
theorem ok_law {P : Program} {w : World} {K : PySem.W.Frag} {mg : Str → Option Value} (T : Top K mg) (ok__law_cell_at : DefOk P w K mg "_law_cell_at" 1 ["_law_script", "_law_k"] false F__law_cell_at) (ok__law_share : DefOk P w K mg "_law_share" 1 ["_law_cell"] false F__law_share) (ok__law_longer : DefOk P w K mg "_law_longer" 1 ["_law_pair", "_law_cell"] false F__law_longer) (ok__law_right : DefOk P w K mg "_law_right" 4 ["_law_share_here", "_law_pair", "_law_cell"] false F__law_right) : DefOk P w K mg "law" 5 ["_law_script"] false F_law := by
  obtain ⟨fa, fd, hm, hk, hF⟩ := T.d_law
  have S := sc_law
  refine ⟨fa, fd, hm, hk, FunD.bindsA hF (fun _ _ _ _ _ _ us hl => match us, hl with | [_], _ => rfl), fun base => ?_⟩
  refine fn_ok (N := N_law) (own := false) (O' := []) (b := B_law) hF S (fun cdv A outer s H E hr => ?_) (by rfl)
  exact (dss_cons (s_set 1 S.nd (e_call ok__law_share hr rfl (da_cons (e_call ok__law_cell_at hr rfl (da_cons (e_v 0) (da_cons de_int da_nil))) da_nil))) (dss_cons (s_set 2 S.nd (de_tup (da_cons de_int (da_cons de_int da_nil)))) (dss_cons (ds_if (dt_not (dt_val (e_call ok__law_right hr rfl (da_cons (e_v 1) (da_cons (e_v 2) (da_cons (e_call ok__law_cell_at hr rfl (da_cons (e_v 0) (da_cons de_int da_nil))) da_nil)))))) (dss_one (ds_ret de_bl)) dss_nil) (dss_cons (s_for (i_list (DN_e (dn_sl (r_v 0) dp_none (dp_some de_int)))) (g_name 3 S.nd) (dss_cons (s_set 2 S.nd (e_call ok__law_longer hr rfl (da_cons (e_v 2) (da_cons (e_v 3) da_nil)))) (dss_one (ds_if (dt_not (dt_val (e_call ok__law_right hr rfl (da_cons (e_v 1) (da_cons (e_v 2) (da_cons (e_v 3) da_nil)))))) (dss_one (ds_ret de_bl)) dss_nil)))) (dss_one (ds_ret de_bl))))))
end Lw

namespace Lw
open PySem PySem.Spec PyProof.Rows L2 DL
theorem F_divisor_eq (a b : Int) : F_divisor [.int a, .int b] = some (.int (Int.gcd a b)) := by
  unfold F_divisor B_divisor L1_divisor
  simp [whileF, natAt]
  rw [gcd_loop _ _ _ (by omega)]
  simp [Int.gcd]
theorem F_ratio_eq (t b : Int) (hb : b ≠ 0) (hs : Sz 9000 b) : F_ratio [.int t, .int b] = some (frQ (Rat.divInt t b)) := by
  obtain ⟨g, hg, h⟩ := lowest_parts (t := t) hb hs
  unfold F_ratio B_ratio frQ
  by_cases hn : b < 0
  · rw [if_pos hn] at h
    simp [hb, F_divisor_eq, hg, hn, h.1, h.2]
  · rw [if_neg hn] at h
    simp [hb, F_divisor_eq, hg, hn, h.1, h.2]
theorem F_cell_at_eq (ns : List Int) (k : Nat) : F__law_cell_at [intsL ns, .int k] = some (.int (ns.getD k 0)) := by
  unfold F__law_cell_at B__law_cell_at intsL
  simp
  by_cases h : k < ns.length
  · simp [h, atI_lt]
  · simp [h]
theorem F_whole_int (i : Int) : F__law_whole [.int i] = some (.bool true) := by
  unfold F__law_whole B__law_whole
  simp
end Lw

namespace Lw
open PySem PySem.Spec PyProof.Rows L2 DL
theorem eqD_pair {a b c d : Int} : eqD (.tuple [.int a, .int b]) (.tuple [.int c, .int d]) = some (.bool (decide (a = c) && decide (b = d))) := by
  unfold eqD
  rw [if_pos ⟨rfl, rfl⟩]
  simp [PyData.eqv, PyData.eqvAll, Bool.beq_eq_decide_eq]
theorem FX_ratio_eq (t b : Int) (h : b = 0) : FX_ratio [.int t, .int b] = some "NoNumber" := by
  unfold FX_ratio XB_ratio; simp [h, ifX]
theorem F_refused_eq (t b : Int) (h : b = 0) : F__law_refused [.int t, .int b] = some (.bool true) := by
  unfold F__law_refused B__law_refused
  simp [tryF, FX_ratio_eq t b h]
theorem share_div {s x y : Int} (hs : 0 ≤ s) (hg : Int.gcd x y = 1) : F_divisor [.int (s * x), .int (s * y)] = some (.int s) := by
  rw [F_divisor_eq, Int.gcd_mul_left, hg]; simp; omega
theorem share_ratio {s x y : Int} (hs : 0 < s) (hss : Sz 64 s) (hg : Int.gcd x y = 1) (hy : y ≠ 0) : F_ratio [.int (s * x), .int (s * y)] = some (if y < 0 then .tuple [.int (-x), .int (-y)] else .tuple [.int x, .int y]) := by
  have hsp : s * y ≠ 0 := Int.mul_ne_zero (by omega) hy
  have hz : Sz 9000 s := hss.mono (by decide)
  have d1 : ∀ z, fdivD (.int (s * z)) (.int s) = some (.int z) := fun z => by
    rw [fdivD_i (divB_of (by omega) (noPyl hz (by omega))), Int.mul_fdiv_cancel_left _ (by omega)]
  have d2 : ∀ z, fdivD (.int (s * z)) (.int (-s)) = some (.int (-z)) := fun z => by
    rw [fdivD_i (divB_of (by omega) (noPyl hz.neg (by omega))), show s * z = (-s) * (-z) by grind, Int.mul_fdiv_cancel_left _ (by omega)]
  unfold F_ratio B_ratio
  by_cases h : y < 0
  · have h' : s * y < 0 := Int.mul_neg_of_pos_of_neg hs h
    generalize hsy : s * y = w at *
    subst hsy
    simp [hsp, share_div (Int.le_of_lt hs) hg, h, h', d2]
  · have h' : ¬ s * y < 0 := Int.not_lt.mpr (Int.mul_nonneg (by omega) (by omega))
    simp [hsp, share_div (Int.le_of_lt hs) hg, h, h', d1]
theorem F_right_core {s x y : Int} (hs : 0 ≤ s) (hss : Sz 64 s) (hg : Int.gcd x y = 1) (a b c m n : Option D) :
    seqF (setF 6 (callE F_divisor (consA (o2 mulD (vE 0) (vE 4)) (consA (o2 mulD (vE 0) (vE 5)) nilA)))) (seqF (ifF (orB (notB (tb (callE F__law_whole (consA (vE 6) nilA)))) (tb (o2 neD (vE 6) (vE 0)))) (retF (cE (.bool false))) skipF) (seqF (ifF (tb (o2 eqD (o2 mulD (vE 0) (vE 5)) (cE (.int 0)))) (retF (callE F__law_refused (consA (o2 mulD (vE 0) (vE 4)) (consA (o2 mulD (vE 0) (vE 5)) nilA)))) skipF) (seqF (setF 7 (callE F_ratio (consA (o2 mulD (vE 0) (vE 4)) (consA (o2 mulD (vE 0) (vE 5)) nilA)))) (seqF (ifF (orB (notB (tb (o1 (isiD "tuple") (vE 7)))) (orB (tb (o2 neD (o1 lenD (vE 7)) (cE (.int 2)))) (orB (notB (tb (callE F__law_whole (consA (o2 ixD (vE 7) (cE (.int 0))) nilA)))) (notB (tb (callE F__law_whole (consA (o2 ixD (vE 7) (cE (.int 1))) nilA))))))) (retF (cE (.bool false))) skipF) (seqF (ifF (tb (o2 ltD (vE 5) (cE (.int 0)))) (retF (o2 eqD (vE 7) (tupE (consA (o2 subD (cE (.int 0)) (vE 4)) (consA (o2 subD (cE (.int 0)) (vE 5)) nilA))))) skipF) (retF (o2 eqD (vE 7) (tupE (consA (vE 4) (consA (vE 5) nilA))))))))))
    [some (.int s), a, b, c, some (.int x), some (.int y), m, n] = some (.rt (.bool true)) := by
  have m1 : ∀ z, mulD (.int s) (.int z) = some (.int (s * z)) := fun z => mulD_i (mulB_left hss)
  simp [m1, share_div hs hg, F_whole_int]
  by_cases h0 : s * y = 0
  · simp [h0, F_refused_eq (s * x) 0 rfl]
  · have hy : y ≠ 0 := fun z => h0 (by rw [z]; simp)
    have hs0 : s ≠ 0 := fun z => h0 (by rw [z]; simp)
    have hr := share_ratio (x := x) (by omega) hss hg hy
    rw [if_neg h0]
    by_cases h : y < 0
    · rw [if_pos h] at hr
      simp [m1, hr, h0, hy, hs0, h, F_whole_int, eqD_pair]
    · rw [if_neg h] at hr
      simp [m1, hr]; simp [h0, hy, hs0, h, F_whole_int, eqD_pair]
theorem F_right_eq {s a b c : Int} (hs : 0 ≤ s) (hss : Sz 64 s) (hg : Int.gcd a b = 1) : F__law_right [.int s, .tuple [.int a, .int b], .int c] = some (.bool true) := by
  have h1 : (0 : Int) ≤ c % 1000003 := Int.emod_nonneg _ (by decide)
  have h2 : c % 1000003 < 1000003 := Int.emod_lt_of_pos _ (by decide)
  have hm : mulB (c % 1000003 + 48271) (c % 1000003 + 48271) = true := mulB_l (by omega)
  have core := fun (x y : Int) (hg : Int.gcd x y = 1) (a b c m n : Option D) => F_right_core hs hss hg a b c m n
  have g1 : Int.gcd (-a) b = 1 := by simpa using hg
  have g2 : Int.gcd a (-b) = 1 := by simpa using hg
  have g3 : Int.gcd (-a) (-b) = 1 := by simpa using hg
  unfold F__law_right B__law_right
  generalize seqF (setF 6 (callE F_divisor (consA (o2 mulD (vE 0) (vE 4)) (consA (o2 mulD (vE 0) (vE 5)) nilA)))) _ = rest at core ⊢
  have M1 : ∀ z w : Int, (w = 1 ∨ w = -1) → mulD (.int z) (.int w) = some (.int (z * w)) := fun z w h => mulD_i (mulB_r (by omega))
  simp [hm]
  generalize (c % 1000003 + 48271) * (c % 1000003 + 48271) % 65537 = n
  have A : ∀ z : Int, atI [PyData.int 1, .int (-1)] (z % 2) = some (if z % 2 = 0 then .int 1 else .int (-1)) := fun z => atI_two (Int.emod_nonneg _ (by decide)) (Int.emod_lt_of_pos _ (by decide))
  have r3 := Int.gcd_comm b a
  have r4 := Int.gcd_comm b (-a)
  have r5 := Int.gcd_comm (-b) a
  have r6 := Int.gcd_comm (-b) (-a)
  rw [hg] at r3; rw [g1] at r4; rw [g2] at r5; rw [g3] at r6
  by_cases k1 : n % 2 = 0
  · by_cases k2 : n / 2 % 2 = 0
    · by_cases k3 : n / 4 % 2 = 1
      · simp [A, k1, k2, k3, M1, core _ _ r3]
      · simp [A, k1, k2, k3, M1, core _ _ hg]
    · by_cases k3 : n / 4 % 2 = 1
      · simp [A, k1, k2, k3, M1, core _ _ r5]
      · simp [A, k1, k2, k3, M1, core _ _ g2]
  · by_cases k2 : n / 2 % 2 = 0
    · by_cases k3 : n / 4 % 2 = 1
      · simp [A, k1, k2, k3, M1, core _ _ r4]
      · simp [A, k1, k2, k3, M1, core _ _ g1]
    · by_cases k3 : n / 4 % 2 = 1
      · simp [A, k1, k2, k3, M1, core _ _ r6]
      · simp [A, k1, k2, k3, M1, core _ _ g3]
theorem atI_four {α : Type} {a b c d : α} {i : Int} (h0 : 0 ≤ i) (h3 : i < 4) : atI [a, b, c, d] i = some (if i = 0 then a else if i = 1 then b else if i = 2 then c else d) := by
  have : i = 0 ∨ i = 1 ∨ i = 2 ∨ i = 3 := by omega
  rcases this with rfl | rfl | rfl | rfl <;> simp <;> rfl
theorem F_share_eq (c : Int) : ∃ s : Int, F__law_share [.int c] = some (.int s) ∧ 0 ≤ s ∧ Sz 64 s := by
  unfold F__law_share B__law_share
  simp [powD_e]
  rw [atI_four (Int.emod_nonneg _ (by decide)) (Int.emod_lt_of_pos _ (by decide))]
  have h1 : (0 : Int) ≤ c / 4 % 3 ∧ c / 4 % 3 < 3 := ⟨Int.emod_nonneg _ (by decide), Int.emod_lt_of_pos _ (by decide)⟩
  have h2 : (0 : Int) ≤ c / 4 % 12 ∧ c / 4 % 12 < 12 := ⟨Int.emod_nonneg _ (by decide), Int.emod_lt_of_pos _ (by decide)⟩
  have h3 : (0 : Int) ≤ c / 4 % 10000000000 ∧ c / 4 % 10000000000 < 10000000000 := ⟨Int.emod_nonneg _ (by decide), Int.emod_lt_of_pos _ (by decide)⟩
  split
  · exact ⟨_, rfl, by decide, by unfold Sz; decide⟩
  · split
    · exact ⟨_, rfl, h1.1, by unfold Sz; omega⟩
    · split
      · exact ⟨_, rfl, h2.1, by unfold Sz; omega⟩
      · exact ⟨_, rfl, h3.1, by unfold Sz; omega⟩
theorem F_longer_eq (a b c : Int) (ha : 0 ≤ a) (hb : 0 ≤ b) (hg : Int.gcd a b = 1) : ∃ m : Int, F__law_longer [.tuple [.int a, .int b], .int c] = some (.tuple [.int (m * a + b), .int a]) ∧ 0 ≤ m ∧ (m * a < 1000000000000000000000000000000 ∨ m = 1) := by
  unfold F__law_longer B__law_longer
  simp [powD_e]
  rw [atI_four (Int.emod_nonneg _ (by decide)) (Int.emod_lt_of_pos _ (by decide))]
  have key : ∀ k : Int, 0 < k → k ≤ 1000000000000000000 → ∃ m : Int, 0 ≤ m ∧ m ≤ 1000000000000000000 ∧ modD (.int (c / 4)) (.int k) = some (.int m) := fun k h1 h2 =>
    ⟨_, Int.emod_nonneg _ (by omega), by have := Int.emod_lt_of_pos (c / 4) h1; omega, modD_pos h1⟩
  have fin : ∀ m : Int, 0 ≤ m → m ≤ 1000000000000000000 → mulD (.int (1 + m)) (.int a) = some (.int ((1 + m) * a)) := fun m h1 h2 => mulD_i (mulB_l (by omega))
  have o1 : mulD (.int 1) (.int a) = some (.int a) := by rw [mulD_i (mulB_l (by decide)), Int.one_mul]
  obtain ⟨k, hk, k1, k2⟩ : ∃ k : Int, (if c % 4 = 0 then PyData.int 1 else if c % 4 = 1 then .int 3 else if c % 4 = 2 then .int 1000000000 else .int 1000000000000000000) = .int k ∧ 0 < k ∧ k ≤ 1000000000000000000 := by
    split
    · exact ⟨_, rfl, by decide, by decide⟩
    · split
      · exact ⟨_, rfl, by decide, by decide⟩
      · split
        · exact ⟨_, rfl, by decide, by decide⟩
        · exact ⟨_, rfl, by decide, by decide⟩
  rw [hk]
  obtain ⟨m, m0, m1, hm⟩ := key k k1 k2
  have hf := fin m m0 m1
  simp only [Option.bind_some, hm, Option.map_some]
  simp [hf]
  by_cases h : 1000000000000000000000000000000 ≤ (1 + m) * a
  · refine ⟨1, ?_, by decide, .inr rfl⟩
    simp [h, o1]
  · refine ⟨1 + m, ?_, by omega, .inl (by omega)⟩
    simp [h, hf]
def Inv01 (S s : D) (i : Nat) (ρ : Rho) : Prop := ∃ (a b : Int) (c : Option D), ρ = [some S, some s, some (.tuple [.int a, .int b]), c] ∧ 0 ≤ a ∧ 0 ≤ b ∧ Int.gcd a b = 1
theorem law_true (ns : List Int) (hl : ns.length ≤ 63) : F_law [intsL ns] = some (.bool true) := by
  have hc : cutD (ns.map PyData.int) none (some 63) = ns.map PyData.int := by
    rw [show (63 : Int) = ((63 : Nat) : Int) by rfl, cutD_to, List.take_of_length_le (by simpa using hl)]
  have c0 := F_cell_at_eq ns 0
  have c1 := F_cell_at_eq ns 1
  obtain ⟨s, hs, s0, sz⟩ := F_share_eq (ns.getD 0 0)
  have h0 : Inv01 (intsL ns) (.int s) 0 [some (intsL ns), some (.int s), some (.tuple [.int 1, .int 0]), none] := ⟨1, 0, none, rfl, by decide, by decide, by decide⟩
  obtain ⟨ρ', e, a, b, c, rfl, _⟩ := forL_inv (g := nameG 3) (b := L1_law) (Inv01 (intsL ns) (.int s)) (ns.map PyData.int) 0 _ h0
    (fun i d ρ hd hI => by
      obtain ⟨a, b, c, rfl, ha, hb, hg⟩ := hI
      obtain ⟨z, hz⟩ : ∃ z : Int, d = .int z := by
        rw [List.getElem?_map] at hd
        cases h : ns[i]? with
        | none => rw [h] at hd; cases hd
        | some z => rw [h] at hd; exact ⟨z, by simpa using hd.symm⟩
      subst hz
      obtain ⟨m, hm, m0, _⟩ := F_longer_eq a b z ha hb hg
      have hg' : Int.gcd (m * a + b) a = 1 := by rw [Int.gcd_comm, Int.add_comm, Int.mul_comm, Int.gcd_add_mul_left_right, hg]
      refine ⟨_, .nx [some (intsL ns), some (.int s), some (.tuple [.int (m * a + b), .int a]), some (.int z)], nameG_e, ?_, _, .inl rfl, m * a + b, a, _, rfl, Int.add_nonneg (Int.mul_nonneg m0 ha) hb, ha, hg'⟩
      have r := F_right_eq (c := z) s0 sz hg'
      unfold L1_law
      simp [hm, r])
  have r := F_right_eq (a := 1) (b := 0) (c := ns.getD 1 0) s0 sz (by decide)
  unfold F_law B_law
  unfold intsL at *
  simp at c0 c1 hs r
  simp [hc, e, c0, c1, hs, r]
end Lw

noncomputable section
namespace Lw
open PySem PySem.Spec PyProof.Rows L2 DL
def dd_divisor : He.DefD := ⟨("divisor", none), "divisor", "divisor", defArgs s_divisor, defBody s_divisor, defScope s_divisor, [], []⟩
def dd_ratio : He.DefD := ⟨("ratio", none), "ratio", "ratio", defArgs s_ratio, defBody s_ratio, defScope s_ratio, [], []⟩
def dd__law_cell_at : He.DefD := ⟨("_law_cell_at", none), "_law_cell_at", "_law_cell_at", defArgs s__law_cell_at, defBody s__law_cell_at, defScope s__law_cell_at, [], []⟩
def dd__law_whole : He.DefD := ⟨("_law_whole", none), "_law_whole", "_law_whole", defArgs s__law_whole, defBody s__law_whole, defScope s__law_whole, [], []⟩
def dd__law_share : He.DefD := ⟨("_law_share", none), "_law_share", "_law_share", defArgs s__law_share, defBody s__law_share, defScope s__law_share, [], []⟩
def dd__law_longer : He.DefD := ⟨("_law_longer", none), "_law_longer", "_law_longer", defArgs s__law_longer, defBody s__law_longer, defScope s__law_longer, [], []⟩
def dd__law_refused : He.DefD := ⟨("_law_refused", none), "_law_refused", "_law_refused", defArgs s__law_refused, defBody s__law_refused, defScope s__law_refused, [], []⟩
def dd__law_right : He.DefD := ⟨("_law_right", none), "_law_right", "_law_right", defArgs s__law_right, defBody s__law_right, defScope s__law_right, [], []⟩
def dd_law : He.DefD := ⟨("law", none), "law", "law", defArgs s_law, defBody s_law, defScope s_law, [], []⟩
def hfn : List He.DefD := [dd_divisor, dd_ratio, dd__law_cell_at, dd__law_whole, dd__law_share, dd__law_longer, dd__law_refused, dd__law_right, dd_law]
def hfa : List He.Fa := [.glo "divisor", .glo "ratio", .glo "_law_cell_at", .glo "_law_whole", .glo "_law_share", .glo "_law_longer", .glo "_law_refused", .glo "_law_right", .glo "law", .free "abs", .free "bool", .free "int", .free "isinstance", .free "len", .free "tuple"]
abbrev R : PySem.W.OpenRow := PySem.W.OpenLaw.row PySem.Challenge.rw_snugfit_k01_divisor_and_fraction
abbrev hk : PySem.W.Hook := DL.hookX 4 hfa hfn DL.excOkB
def ob (s : PySem.W.SharedT) : He.AlD × Bool := DL.obsXG 4 hfa hfn DL.excOkB (HandSHeadRun.getT s)
theorem ob_eq (s : PySem.W.SharedT) : ob s = hk.obs s.abs := DL.obsXG_eq (HandSHeadRun.getT_eq s)
def names : List PySem.Str := ["FitError", "NoNumber", "NoShape", "NoSize", "divisor", "ratio", "_law_cell_at", "_law_whole", "_law_share", "_law_longer", "_law_refused", "_law_right"]
theorem run (w : World) : HandSHeadRun.RunEq R (PySem.W.view R.prog [15]) hk ob 4000 names w := by
  intro os
  kernel_rfl
theorem top_of {K : PySem.W.Frag} {h : Heap} {mg : Str → Option Value} (X : K.In h) (G : h.Ns mainGlobals mg) (c : He.SaysD hfa hfn K) (cx : DL.excOkB K = true) : Top K mg where
  exc := DL.excOkB_ok X G cx
  d_divisor := by
    obtain ⟨fd, F⟩ := c.def_ 0 (d := dd_divisor) rfl
    exact ⟨_, fd, He.glo_ok X G (c.fact 0 (f := .glo "divisor") rfl), F.kp, F⟩
  d_ratio := by
    obtain ⟨fd, F⟩ := c.def_ 1 (d := dd_ratio) rfl
    exact ⟨_, fd, He.glo_ok X G (c.fact 1 (f := .glo "ratio") rfl), F.kp, F⟩
  d__law_cell_at := by
    obtain ⟨fd, F⟩ := c.def_ 2 (d := dd__law_cell_at) rfl
    exact ⟨_, fd, He.glo_ok X G (c.fact 2 (f := .glo "_law_cell_at") rfl), F.kp, F⟩
  d__law_whole := by
    obtain ⟨fd, F⟩ := c.def_ 3 (d := dd__law_whole) rfl
    exact ⟨_, fd, He.glo_ok X G (c.fact 3 (f := .glo "_law_whole") rfl), F.kp, F⟩
  d__law_share := by
    obtain ⟨fd, F⟩ := c.def_ 4 (d := dd__law_share) rfl
    exact ⟨_, fd, He.glo_ok X G (c.fact 4 (f := .glo "_law_share") rfl), F.kp, F⟩
  d__law_longer := by
    obtain ⟨fd, F⟩ := c.def_ 5 (d := dd__law_longer) rfl
    exact ⟨_, fd, He.glo_ok X G (c.fact 5 (f := .glo "_law_longer") rfl), F.kp, F⟩
  d__law_refused := by
    obtain ⟨fd, F⟩ := c.def_ 6 (d := dd__law_refused) rfl
    exact ⟨_, fd, He.glo_ok X G (c.fact 6 (f := .glo "_law_refused") rfl), F.kp, F⟩
  d__law_right := by
    obtain ⟨fd, F⟩ := c.def_ 7 (d := dd__law_right) rfl
    exact ⟨_, fd, He.glo_ok X G (c.fact 7 (f := .glo "_law_right") rfl), F.kp, F⟩
  d_law := by
    obtain ⟨fd, F⟩ := c.def_ 8 (d := dd_law) rfl
    exact ⟨_, fd, He.glo_ok X G (c.fact 8 (f := .glo "law") rfl), F.kp, F⟩
  b_abs := He.free_ok X G (c.fact 9 (f := .free "abs") rfl)
  b_bool := He.free_ok X G (c.fact 10 (f := .free "bool") rfl)
  b_int := He.free_ok X G (c.fact 11 (f := .free "int") rfl)
  b_isinstance := He.free_ok X G (c.fact 12 (f := .free "isinstance") rfl)
  b_len := He.free_ok X G (c.fact 13 (f := .free "len") rfl)
  b_tuple := He.free_ok X G (c.fact 14 (f := .free "tuple") rfl)
theorem all_ok {P : Program} {w : World} {K : PySem.W.Frag} {mg : Str → Option Value} (T : Top K mg) : DefOk P w K mg "law" 5 ["_law_script"] false F_law := by
  have k_divisor := ok_divisor (P := P) (w := w) T
  have k_ratio := ok_ratio (P := P) (w := w) T k_divisor
  have x_ratio := okx_ratio (P := P) (w := w) T k_divisor
  have k__law_cell_at := ok__law_cell_at (P := P) (w := w) T
  have k__law_whole := ok__law_whole (P := P) (w := w) T
  have k__law_share := ok__law_share (P := P) (w := w) T
  have k__law_longer := ok__law_longer (P := P) (w := w) T
  have k__law_refused := ok__law_refused (P := P) (w := w) T k_ratio x_ratio
  have k__law_right := ok__law_right (P := P) (w := w) T k_divisor k_ratio k__law_whole k__law_refused
  have k_law := ok_law (P := P) (w := w) T k__law_cell_at k__law_share k__law_longer k__law_right
  exact k_law
end Lw
open PySem PySem.W PySem.Calls PyProof.Rows
theorem PySem.Challenge.cw_snugfit_k01_divisor_and_fraction_holds : PySem.Challenge.rw_snugfit_k01_divisor_and_fraction.Holds := by
  w_on; o_law
  refine HandSHeadRun.head_any (r := OpenLaw.row PySem.Challenge.rw_snugfit_k01_divisor_and_fraction) (q := view (OpenLaw.row PySem.Challenge.rw_snugfit_k01_divisor_and_fraction).prog [15]) (H := Lw.hk) (ob := Lw.ob) (M := 4000) (loose := Lw.names) (d := HandSHeadRun.topDef (OpenLaw.row PySem.Challenge.rw_snugfit_k01_divisor_and_fraction).prog 15) (kwd := []) Lw.ob_eq
    (by kernel_rfl) (fun s => by kernel_rfl) Lw.run (by kernel_rfl) (by kernel_rfl) (by kernel_rfl) (by rfl) (by first | assumption | decide +kernel) (by decide +kernel) ⟨rfl, rfl, rfl, rfl, rfl, by decide +kernel⟩ ?hw ?hc
  case hw => w_witness2
  case hc =>
    refine L2.walk_ofE (l := PySem.Challenge.rw_snugfit_k01_divisor_and_fraction) (n := 63) (k := 5) (x := "_law_script") (CX := L2.CX0) rfl (by decide) (by kernel_rfl) ⟨rfl, by decide, by decide⟩ ?F (fun _ _ _ _ z => z)
    intro w mg fa h Y G hmg0
    obtain ⟨K, KX, c, cx⟩ := Y
    have hmg : mg ("law" : PySem.Str) = some (.ref fa) := by
      have e : (HandSHeadRun.topDef (OpenLaw.row PySem.Challenge.rw_snugfit_k01_divisor_and_fraction).prog 15).name = ("law" : PySem.Str) := by kernel_rfl
      rw [← e]
      exact hmg0
    exact DL.law_end KX hmg (Lw.all_ok (Lw.top_of KX G c cx)) Lw.law_true
end

