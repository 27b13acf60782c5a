import PyProof.Rows.All
import Wide.All
import OpenK.AllK
import Wide.FinOn
import PySem.Challenge.RW_linesdown_k36_whole_sizes_and_heights
import HandS.ForMost
import HandS.ForExc
import HandS.Wide
import HandS.Deep
import HandS.TupAny
import HandS.TupMul
import HandS.TupLe
import HandS.IsInst
import HandS.DictTup
import HandS.DictComp
import HandS.Conv
import HandS.Flow
import HandS.Style
import HandS.Zip
import KE.KExcSuper
import HandS.SortInts
set_option Elab.async false
set_option linter.all false
set_option maxRecDepth 100000
set_option maxHeartbeats 2000000
/-! FP1: values as plain data, their representation, the readings of a state monad. -/
namespace FP
open PySem PySem.Spec PyProof.Rows L2

inductive D where
  | non | bl (b : Bool) | int (i : Int) | str (x : Str)
  | tup (ds : List D) | lst (ds : List D)
  | dK (kvs : List (Key × D)) | dT (kvs : List (List Key × D)) | st
  /-- a tuple that stands written in the text -/
  | kt (ds : List D)
  deriving Inhabited

/-- the exceptions of the program: all have one text -/
inductive EC where
  | misstep | great
  deriving DecidableEq

/-- the constants of a run: the written part, the state's list, its cells' list, the exceptions' classes and fields -/
structure Gc where
  K : PySem.W.Frag
  cls : EC → Addr
def EC.fld : EC → Str
  | .misstep => "word"
  | .great => "limit"
structure G extends Gc where
  s : Addr
  c : Addr

mutual
inductive Rep (g : G) (F : Hp) : V → D → Prop
  | non : Rep g F .non .non
  | bl (b : Bool) : Rep g F (.bl b) (.bl b)
  | int (i : Int) : Rep g F (.int i) (.int i)
  | str (x : Str) : Rep g F (.str x) (.str x)
  | tup {a : Addr} {vs : List V} {ds : List D} : F a = some (.tup vs) → Reps g F vs ds → Rep g F (.ref a) (.tup ds)
  | kt {a : Addr} {vs : List V} {ds : List D} : SqT g.K F a vs → Reps g F vs ds → Rep g F (.ref a) (.kt ds)
  | lst {a : Addr} {vs : List V} {ds : List D} : F a = some (.lst vs) → Reps g F vs ds → Rep g F (.ref a) (.lst ds)
  | dK {a : Addr} {kvs : List (Key × V)} {dks : List (Key × D)} : F a = some (.dK kvs) → kvs.map (·.1) = dks.map (·.1) → Reps g F (kvs.map (·.2)) (dks.map (·.2)) → Rep g F (.ref a) (.dK dks)
  | dT {a : Addr} {kvs : List (List Key × V)} {dks : List (List Key × D)} : F a = some (.dT kvs) → kvs.map (·.1) = dks.map (·.1) → Reps g F (kvs.map (·.2)) (dks.map (·.2)) → Rep g F (.ref a) (.dT dks)
  | st : Rep g F (.ref g.s) .st
inductive Reps (g : G) (F : Hp) : List V → List D → Prop
  | nil : Reps g F [] []
  | cons {v : V} {vs : List V} {d : D} {ds : List D} : Rep g F v d → Reps g F vs ds → Reps g F (v :: vs) (d :: ds)
end

theorem sqT_mono {K : PySem.W.Frag} {F F' : Hp} {a : Addr} {xs : List V} (e : Same F F') (h : SqT K F a xs) : SqT K F' a xs := by
  rcases h with (h | ⟨o, h⟩) | h
  · exact .inl (.inl (e _ _ h))
  · exact .inl (.inr ⟨o, e _ _ h⟩)
  · exact .inr h

mutual
theorem Rep.mono {g : G} {F F' : Hp} (e : Same F F') : ∀ {v : V} {d : D}, Rep g F v d → Rep g F' v d
  | _, _, .non => .non
  | _, _, .bl b => .bl b
  | _, _, .int i => .int i
  | _, _, .str x => .str x
  | _, _, .tup h r => .tup (e _ _ h) (Reps.mono e r)
  | _, _, .kt h r => .kt (sqT_mono e h) (Reps.mono e r)
  | _, _, .lst h r => .lst (e _ _ h) (Reps.mono e r)
  | _, _, .dK h k r => .dK (e _ _ h) k (Reps.mono e r)
  | _, _, .dT h k r => .dT (e _ _ h) k (Reps.mono e r)
  | _, _, .st => .st
theorem Reps.mono {g : G} {F F' : Hp} (e : Same F F') : ∀ {vs : List V} {ds : List D}, Reps g F vs ds → Reps g F' vs ds
  | _, _, .nil => .nil
  | _, _, .cons h r => .cons (Rep.mono e h) (Reps.mono e r)
end
section
variable {g : G} {F : Hp}
theorem Reps.length : ∀ {vs : List V} {ds : List D}, Reps g F vs ds → vs.length = ds.length
  | _, _, .nil => rfl
  | _, _, .cons _ r => by rw [List.length_cons, List.length_cons, Reps.length r]
theorem Reps.get : ∀ {vs : List V} {ds : List D} {i : Nat} {d : D}, Reps g F vs ds → ds[i]? = some d → ∃ v, vs[i]? = some v ∧ Rep g F v d
  | _, _, _, _, .nil, h => by simp at h
  | _, _, 0, d, .cons h r, e => by
    simp at e; subst e; exact ⟨_, rfl, h⟩
  | _, _, i + 1, d, .cons h r, e => by
    obtain ⟨v, h1, h2⟩ := Reps.get (i := i) r (by simpa using e)
    exact ⟨v, by simpa using h1, h2⟩
theorem Reps.getV : ∀ {vs : List V} {ds : List D} {i : Nat} {v : V}, Reps g F vs ds → vs[i]? = some v → ∃ d, ds[i]? = some d ∧ Rep g F v d
  | _, _, _, _, .nil, h => by simp at h
  | _, _, 0, d, .cons h r, e => by
    simp at e; subst e; exact ⟨_, rfl, h⟩
  | _, _, i + 1, d, .cons h r, e => by
    obtain ⟨v, h1, h2⟩ := Reps.getV (i := i) r (by simpa using e)
    exact ⟨v, by simpa using h1, h2⟩
theorem Reps.append : ∀ {vs us : List V} {ds es : List D}, Reps g F vs ds → Reps g F us es → Reps g F (vs ++ us) (ds ++ es)
  | _, _, _, _, .nil, q => q
  | _, _, _, _, .cons h r, q => .cons h (Reps.append r q)
theorem Reps.take : ∀ {vs : List V} {ds : List D} (n : Nat), Reps g F vs ds → Reps g F (vs.take n) (ds.take n)
  | _, _, 0, _ => by simp; exact .nil
  | _, _, n + 1, .nil => by simp; exact .nil
  | _, _, n + 1, .cons h r => by simp; exact .cons h (Reps.take n r)
theorem Reps.drop : ∀ {vs : List V} {ds : List D} (n : Nat), Reps g F vs ds → Reps g F (vs.drop n) (ds.drop n)
  | _, _, 0, h => by simpa using h
  | _, _, n + 1, .nil => by simp; exact .nil
  | _, _, n + 1, .cons h r => by simp; exact Reps.drop n r
theorem Reps.set {v : V} {d : D} (hv : Rep g F v d) : ∀ {vs : List V} {ds : List D} (n : Nat), Reps g F vs ds → Reps g F (vs.set n v) (ds.set n d)
  | _, _, _, .nil => .nil
  | _, _, 0, .cons _ r => .cons hv r
  | _, _, n + 1, .cons h r => .cons h (Reps.set hv n r)
theorem Reps.rep {vs : List V} {ds : List D} (h : Reps g F vs ds) : ∀ n : Nat, Reps g F (List.replicate n vs).flatten (List.replicate n ds).flatten
  | 0 => .nil
  | n + 1 => by
    rw [List.replicate_succ, List.flatten_cons, List.replicate_succ, List.flatten_cons]
    exact h.append (Reps.rep h n)
theorem Reps.reverse : ∀ {vs : List V} {ds : List D}, Reps g F vs ds → Reps g F vs.reverse ds.reverse
  | _, _, .nil => .nil
  | _, _, .cons h r => by
    rw [List.reverse_cons, List.reverse_cons]
    exact (Reps.reverse r).append (.cons h .nil)
theorem Reps.nil_iff {vs : List V} {ds : List D} (h : Reps g F vs ds) : vs = [] ↔ ds = [] := by
  cases h <;> simp
theorem Reps.ints : ∀ (ns : List Int), Reps g F (ns.map V.int) (ns.map D.int)
  | [] => .nil
  | n :: ns => .cons (.int n) (Reps.ints ns)
theorem Reps.of_ints : ∀ {vs : List V} {ns : List Int}, Reps g F vs (ns.map D.int) → vs = ns.map V.int
  | _, [], .nil => rfl
  | _, n :: ns, .cons h r => by
    cases h
    rw [Reps.of_ints r]; rfl
theorem Reps.of_bls : ∀ {vs : List V} {ns : List Bool}, Reps g F vs (ns.map D.bl) → vs = ns.map V.bl
  | _, [], .nil => rfl
  | _, n :: ns, .cons h r => by
    cases h
    rw [Reps.of_bls r]; rfl
theorem Reps.one {v : V} {d : D} (h : Rep g F v d) : Reps g F [v] [d] := .cons h .nil
end

/-- the drawn numbers: the count, the cells -/
structure S where
  n : Int
  cells : List Int
structure StOK (g : G) (F H : Hp) (S : S) : Prop where
  fs : F g.s = none
  fc : F g.c = none
  ne : g.s ≠ g.c
  hs : H g.s = some (.lst [.int S.n, .ref g.c])
  hc : H g.c = some (.lst (S.cells.map V.int))

inductive Slot where
  | none | frz (d : D) | own (d : D)
structure W where
  Γ : List Slot
  S : S
inductive R (α : Type) where
  | ok (a : α) (w : W)
  | exc (c : EC) (x : Str) (w : W)
  | bad
abbrev M (α : Type) := W → R α
def M.pure {α : Type} (a : α) : M α := fun w => .ok a w
def R.bind {α β : Type} (r : R α) (k : α → M β) : R β := match r with
  | .ok a w => k a w
  | .exc c x w => .exc c x w
  | .bad => .bad
def M.bind {α β : Type} (m : M α) (k : α → M β) : M β := fun w => (m w).bind k
def M.bad {α : Type} : M α := fun _ => .bad
/-- a value that may lack -/
def ofO {α : Type} (o : Option α) : M α := fun w => match o with
  | some a => .ok a w
  | none => .bad

/-- a list or dict at a, as it stands in H, its items in F -/
inductive Top (g : G) (F H : Hp) (a : Addr) : D → Prop
  | lst {vs : List V} {ds : List D} : H a = some (.lst vs) → Reps g F vs ds → Top g F H a (.lst ds)
  | dK {kvs : List (Key × V)} {dks : List (Key × D)} : H a = some (.dK kvs) → kvs.map (·.1) = dks.map (·.1) → Reps g F (kvs.map (·.2)) (dks.map (·.2)) → Top g F H a (.dK dks)
  | dT {kvs : List (List Key × V)} {dks : List (List Key × D)} : H a = some (.dT kvs) → kvs.map (·.1) = dks.map (·.1) → Reps g F (kvs.map (·.2)) (dks.map (·.2)) → Top g F H a (.dT dks)
theorem Top.mono {g : G} {F F' H H' : Hp} {a : Addr} {d : D} (e : Same F F') (k : ∀ o, H a = some o → H' a = some o) (h : Top g F H a d) : Top g F' H' a d := by
  cases h with
  | lst h r => exact .lst (k _ h) (r.mono e)
  | dK h x r => exact .dK (k _ h) x (r.mono e)
  | dT h x r => exact .dT (k _ h) x (r.mono e)
theorem Top.rep {g : G} {F H : Hp} {a : Addr} {d : D} (h : Top g F H a d) {F' : Hp} (e : Same F F') (k : F' a = H a) : Rep g F' (.ref a) d := by
  cases h with
  | lst h r => exact .lst (k.trans h) (r.mono e)
  | dK h x r => exact .dK (k.trans h) x (r.mono e)
  | dT h x r => exact .dT (k.trans h) x (r.mono e)
theorem Top.some {g : G} {F H : Hp} {a : Addr} {d : D} (h : Top g F H a d) : ∃ o, H a = some o := by
  cases h with
  | lst h r => exact ⟨_, h⟩
  | dK h x r => exact ⟨_, h⟩
  | dT h x r => exact ⟨_, h⟩

/-- the state against the entry's heaps -/
structure Inv0 (g : G) (F0 H0 F H : Hp) (S : S) : Prop where
  sub : Same F H
  g0 : Same F0 F
  new : ∀ a o, F a = some o → F0 a = some o ∨ H0 a = none
  keep : ∀ a o, H0 a = some o → a ≠ g.s → a ≠ g.c → H a = some o
  st : StOK g F H S
  b0 : ∃ S0, StOK g F0 H0 S0
def SlotOK (g : G) (H0 F H : Hp) (v : Option (Option V)) : Slot → Prop
  | .none => True
  | .frz d => ∃ x, v = some (some x) ∧ Rep g F x d
  | .own d => ∃ a, v = some (some (.ref a)) ∧ F a = none ∧ H0 a = none ∧ Top g F H a d
structure Inv2 (g : G) (F0 H0 F : Hp) (σ : L2.St) (H : Hp) (w : W) : Prop extends Inv0 g F0 H0 F H w.S where
  len : σ.length = w.Γ.length
  slot : ∀ (i : Nat) (s : Slot), w.Γ[i]? = some s → SlotOK g H0 F H σ[i]? s
  dis : ∀ (i j : Nat) (a : Addr) (d e : D), w.Γ[i]? = some (.own d) → w.Γ[j]? = some (.own e) → σ[i]? = some (some (.ref a)) → σ[j]? = some (some (.ref a)) → i = j
def Own (σ : L2.St) (Γ : List Slot) (a : Addr) : Prop := ∃ (i : Nat) (d : D), Γ[i]? = some (.own d) ∧ σ[i]? = some (some (.ref a))
/-- what an expression leaves: all that stands, but the state; frozen are new things, or what a slot owned -/
structure Ext (g : G) (σ : L2.St) (F H : Hp) (w : W) (F' H' : Hp) (w' : W) : Prop where
  ff : Same F F'
  new : ∀ a o, F' a = some o → F a = some o ∨ H a = none ∨ Own σ w.Γ a
  keep : ∀ a o, H a = some o → a ≠ g.s → a ≠ g.c → H' a = some o
  own : ∀ a, Own σ w'.Γ a → Own σ w.Γ a
  tr : H g.s ≠ none ∧ H g.c ≠ none ∧ H' g.s ≠ none ∧ H' g.c ≠ none
section
variable {g : G} {F0 H0 F F1 F2 H H1 H2 : Hp} {σ : L2.St} {w w1 w2 : W}
theorem StOK.tr {S : S} (h : StOK g F H S) : H g.s ≠ none ∧ H g.c ≠ none := ⟨by rw [h.hs]; simp, by rw [h.hc]; simp⟩
theorem Ext.refl (i : Inv2 g F0 H0 F σ H w) : Ext g σ F H w F H w := ⟨Same.refl _, fun _ _ h => .inl h, fun _ _ h _ _ => h, fun _ h => h, i.st.tr.1, i.st.tr.2, i.st.tr.1, i.st.tr.2⟩
theorem Ext.trans (a : Ext g σ F H w F1 H1 w1) (b : Ext g σ F1 H1 w1 F2 H2 w2) : Ext g σ F H w F2 H2 w2 where
  ff := a.ff.trans b.ff
  new := fun x o h => by
    rcases b.new x o h with h | h | h
    · exact a.new x o h
    · refine .inr (.inl ?_)
      by_cases h1 : x = g.s
      · subst h1; exact absurd h a.tr.2.2.1
      by_cases h2 : x = g.c
      · subst h2; exact absurd h a.tr.2.2.2
      cases e : H x with
      | none => rfl
      | some o' => rw [a.keep x o' e h1 h2] at h; cases h
    · exact .inr (.inr (a.own x h))
  keep := fun x o h h1 h2 => b.keep x o (a.keep x o h h1 h2) h1 h2
  own := fun x h => a.own x (b.own x h)
  tr := ⟨a.tr.1, a.tr.2.1, b.tr.2.2.1, b.tr.2.2.2⟩
end

/-- what a body runs under: the constants, the heaps at its entry, the wish about exceptions -/
structure B where
  g : G
  F0 : Hp
  H0 : Hp
  X : WX
abbrev B.Inv (b : B) (F : Hp) (σ : L2.St) (H : Hp) (w : W) : Prop := Inv2 b.g b.F0 b.H0 F σ H w
/-- how a value stands for data: against the heap ahead (H), behind (F', H') -/
structure Rl (b : B) (β α : Type) where
  r : Hp → Hp → Hp → β → α → Prop
  rb : ∀ {σ : L2.St} {F H F1 H1 F' H' : Hp} {w w1 : W} {x : β} {d : α}, Ext b.g σ F H w F1 H1 w1 → r H1 F' H' x d → r H F' H' x d
theorem Ext.isN {g : G} {σ : L2.St} {F H F1 H1 : Hp} {w w1 : W} (e : Ext g σ F H w F1 H1 w1) {a : Addr} (h : H1 a = none) : H a = none := by
  cases q : H a with
  | none => rfl
  | some o =>
    by_cases h1 : a = g.s
    · subst h1; exact absurd h e.tr.2.2.1
    by_cases h2 : a = g.c
    · subst h2; exact absurd h e.tr.2.2.2
    rw [e.keep a o q h1 h2] at h; cases h
def relD (b : B) : Rl b V D := ⟨fun _ F' _ v d => Rep b.g F' v d, fun _ h => h⟩
def relA (b : B) : Rl b (List V) (List D) := ⟨fun _ F' _ v d => Reps b.g F' v d, fun _ h => h⟩
/-- plain: the value itself -/
def relE (b : B) (α : Type) : Rl b α α := ⟨fun _ _ _ v d => v = d, fun _ h => h⟩
/-- to be read: frozen, or a list or dict that stands so now -/
def relR (b : B) : Rl b V D := ⟨fun _ F' H' v d => Rep b.g F' v d ∨ ∃ a, v = .ref a ∧ a ≠ b.g.s ∧ a ≠ b.g.c ∧ Top b.g F' H' a d, fun _ h => h⟩
/-- a new list or dict, nobody's -/
def relF (b : B) : Rl b V D := ⟨fun H F' H' v d => ∃ a, v = .ref a ∧ H a = none ∧ F' a = none ∧ Top b.g F' H' a d, fun e ⟨a, h1, h2, h3⟩ => ⟨a, h1, e.isN h2, h3⟩⟩
/-- what is wanted of an outcome -/
def Post {α β : Type} {b : B} (rel : Rl b β α) (σ : L2.St) (F H : Hp) (w : W) (r : R α) (Q : β → Hp → Prop) : Prop := match r with
  | .ok d w' => ∀ F' H' v, Ext b.g σ F H w F' H' w' → b.Inv F' σ H' w' → rel.r H F' H' v d → Q v H'
  | .exc c x w' => ∀ F' H' dx, b.Inv F' σ H' w' → H' dx = some (.xd [(c.fld, .str x)]) → b.X (.ref (b.g.cls c)) (some dx) σ H'
  | .bad => False
/-- the reading of a computation -/
def tG {α β : Type} {b : B} (rel : Rl b β α) (m : M α) (σ : L2.St) (H : Hp) (Q : β → Hp → Prop) : Prop := ∃ F w, b.Inv F σ H w ∧ Post rel σ F H w (m w) Q
section
variable {α β γ δ : Type} {b : B} {rel : Rl b β α} {rel' : Rl b δ γ} {F F1 H H1 : Hp} {σ : L2.St} {w w1 : W} {Q Q' : β → Hp → Prop} {Q2 : δ → Hp → Prop}
theorem Post.base {r : R α} (e : Ext b.g σ F H w F1 H1 w1) (h : Post rel σ F H w r Q) : Post rel σ F1 H1 w1 r Q := by
  cases r with
  | ok d w' => exact fun F' H' v x i r => h F' H' v (e.trans x) i (rel.rb e r)
  | exc c x w' => exact h
  | bad => exact h
theorem Post.mono {r : R α} (h : Post rel σ F H w r Q) (hq : ∀ v H', Q v H' → Q' v H') : Post rel σ F H w r Q' := by
  cases r with
  | ok d w' => exact fun F' H' v x i r => hq _ _ (h F' H' v x i r)
  | exc c x w' => exact h
  | bad => exact h
/-- the first part, then the rest -/
structure Mid {b : B} (rel : Rl b β α) (rel' : Rl b δ γ) (σ : L2.St) (F H : Hp) (w : W) (k : α → M γ) (Q2 : δ → Hp → Prop) (x : β) (H1 : Hp) (F1 : Hp) (w1 : W) (d : α) : Prop where
  inv : b.Inv F1 σ H1 w1
  rep : rel.r H F1 H1 x d
  ext : Ext b.g σ F H w F1 H1 w1
  post : Post rel' σ F1 H1 w1 (k d w1) Q2
theorem Post.bind {m : M α} {k : α → M γ} (h : Post rel' σ F H w (m.bind k w) Q2) :
    Post rel σ F H w (m w) (fun x H1 => ∃ F1 w1 d, Mid rel rel' σ F H w k Q2 x H1 F1 w1 d) := by
  unfold M.bind at h
  generalize e : m w = r at h ⊢
  cases r with
  | ok d w' => exact fun F' H' v x i r => ⟨F', w', d, i, r, x, h.base x⟩
  | exc c x w' => exact h
  | bad => exact h
/-- bind as a reading -/
theorem tG.bind {m : M α} {k : α → M γ} (i : b.Inv F σ H w) (h : Post rel' σ F H w (m.bind k w) Q2) : tG rel m σ H (fun x H1 => ∃ F1 w1 d, Mid rel rel' σ F H w k Q2 x H1 F1 w1 d) :=
  ⟨F, w, i, Post.bind h⟩
theorem Post.ofO {o : Option α} (h : Post rel σ F H w (FP.ofO o w) Q) : ∃ d, o = some d ∧ Post rel σ F H w (.ok d w) Q := by
  cases o with
  | none => exact h.elim
  | some d => exact ⟨d, rfl, h⟩
end
theorem PE.weak {X : Cx} {e : Expr} {t t' : TE} (h : PE X e t) (k : ∀ σ H Q, t' σ H Q → t σ H Q) : PE X e t' := ⟨fun pins s σ H Q I q => h.run pins s σ H Q I (k _ _ _ q)⟩
theorem PS.weak {X : Cx} {e : Stmt} {t t' : TS} (h : PS X e t) (k : ∀ D σ H, t' D σ H → t D σ H) : PS X e t' := ⟨fun pins s σ H Q I q => h.run pins s σ H Q I (k _ _ _ q)⟩
theorem PSs.weak {X : Cx} {e : List Stmt} {t t' : TS} (h : PSs X e t) (k : ∀ D σ H, t' D σ H → t D σ H) : PSs X e t' := ⟨fun pins s σ H Q I q => h.run pins s σ H Q I (k _ _ _ q)⟩
theorem PT.weak {X : Cx} {e : Expr} {t t' : TT} (h : PT X e t) (k : ∀ σ H Q, t' σ H Q → t σ H Q) : PT X e t' := ⟨fun pins s σ H Q I q => h.run pins s σ H Q I (k _ _ _ q)⟩
theorem PA.weak {X : Cx} {e : List Expr} {t t' : TA} (h : PA X e t) (k : ∀ σ H Q, t' σ H Q → t σ H Q) : PA X e t' := ⟨fun po pins s σ H Q I q => h.run po pins s σ H Q I (k _ _ _ q)⟩
end FP


set_option Elab.async false
set_option linter.all false
set_option maxRecDepth 100000
set_option maxHeartbeats 2000000
/-! FP2: expressions. -/
namespace FP
open PySem PySem.Spec PyProof.Rows L2
/-! ### new things -/
section
variable {b : B} {F H F1 H1 : Hp} {σ : L2.St} {w w1 : W} {p : Addr} {o : HO} {Sx : S} {g : G} {F0 H0 : Hp}
theorem upd_some {H : Hp} {a p : Addr} {o x : HO} (hp : H p = none) (h : H a = some x) : upd H p o a = some x := by
  rw [upd_ne (ne_of_none h hp)]; exact h
theorem Same.upd {H : Hp} {p : Addr} {o : HO} (hp : H p = none) : Same H (upd H p o) := fun _ _ h => upd_some hp h
theorem Inv0.nF (i : Inv0 g F0 H0 F H Sx) (hp : H p = none) : F p = none := i.sub.free hp
theorem Inv0.n0 (i : Inv0 g F0 H0 F H Sx) (hp : H p = none) : H0 p = none := by
  cases q : H0 p with
  | none => rfl
  | some x =>
    by_cases h1 : p = g.s
    · subst h1; exact absurd hp i.st.tr.1
    by_cases h2 : p = g.c
    · subst h2; exact absurd hp i.st.tr.2
    rw [i.keep p x q h1 h2] at hp; cases hp
theorem StOK.new {F H F' H' : Hp} {Sx : S} (h : StOK g F H Sx) (k : ∀ a x, (a = g.s ∨ a = g.c) → H a = some x → H' a = some x) (n : ∀ a, (a = g.s ∨ a = g.c) → F a = none → F' a = none) : StOK g F' H' Sx :=
  ⟨n _ (.inl rfl) h.fs, n _ (.inr rfl) h.fc, h.ne, k _ _ (.inl rfl) h.hs, k _ _ (.inr rfl) h.hc⟩
theorem Inv0.lay (i : Inv0 g F0 H0 F H Sx) (hp : H p = none) : Inv0 g F0 H0 F (upd H p o) Sx where
  sub := fun a x h => upd_some hp (i.sub a x h)
  g0 := i.g0
  new := i.new
  keep := fun a x h h1 h2 => upd_some hp (i.keep a x h h1 h2)
  st := i.st.new (fun _ _ _ h => upd_some hp h) fun _ _ h => h
  b0 := i.b0
theorem Inv0.frz (i : Inv0 g F0 H0 F H Sx) (hp : H p = some o) (h0 : H0 p = none) (hF : F p = none) (hs : p ≠ g.s) (hc : p ≠ g.c) : Inv0 g F0 H0 (upd F p o) H Sx where
  sub := fun a x h => by
    by_cases e : a = p
    · subst e; rw [upd_same] at h; cases h; exact hp
    · rw [upd_ne e] at h; exact i.sub a x h
  g0 := i.g0.trans (Same.upd hF)
  new := fun a x h => by
    by_cases e : a = p
    · subst e; exact .inr h0
    · rw [upd_ne e] at h; exact i.new a x h
  keep := i.keep
  st := i.st.new (fun _ _ _ h => h) fun a ha h => by
    rw [upd_ne]; exact h
    rcases ha with e | e <;> rw [e] <;> first | exact Ne.symm hs | exact Ne.symm hc
  b0 := i.b0
theorem StOK.nes {Sx : S} (h : StOK g F H Sx) (hp : H p = none) : p ≠ g.s ∧ p ≠ g.c := ⟨fun e => by subst e; exact h.tr.1 hp, fun e => by subst e; exact h.tr.2 hp⟩
theorem SlotOK.mono {v : Option (Option V)} {s : Slot} (h : SlotOK g H0 F H v s) (e : Same F F1) (n : ∀ a, F a = none → H a ≠ none → F1 a = none) (k : ∀ a x, F a = none → H0 a = none → H a = some x → H1 a = some x) : SlotOK g H0 F1 H1 v s := by
  cases s with
  | none => trivial
  | frz d => obtain ⟨x, e1, r⟩ := h; exact ⟨x, e1, r.mono e⟩
  | own d =>
    obtain ⟨a, e1, h1, h2, t⟩ := h
    refine ⟨a, e1, n a h1 ?_, h2, t.mono e fun o q => k a o h1 h2 q⟩
    obtain ⟨o, q⟩ := t.some
    rw [q]; simp
theorem Inv2.lay (i : Inv2 g F0 H0 F σ H w) (hp : H p = none) : Inv2 g F0 H0 F σ (upd H p o) w :=
  { i.toInv0.lay hp with len := i.len, dis := i.dis, slot := fun j s h => (i.slot j s h).mono (Same.refl _) (fun _ h _ => h) fun _ _ _ _ q => upd_some hp q }
theorem Inv2.alloc (i : Inv2 g F0 H0 F σ H w) (hp : H p = none) : Inv2 g F0 H0 (upd F p o) σ (upd H p o) w := by
  have h0 := i.toInv0.n0 hp
  have hF := i.toInv0.nF hp
  obtain ⟨n1, n2⟩ := i.st.nes hp
  refine { (i.toInv0.lay (o := o) hp).frz upd_same h0 hF n1 n2 with len := i.len, dis := i.dis, slot := fun j s h => (i.slot j s h).mono (Same.upd hF) (fun a h1 h2 => ?_) fun _ _ _ _ q => upd_some hp q }
  rw [upd_ne]; exact h1
  intro e; subst e; exact h2 hp
theorem Ext.lay (i : Inv2 g F0 H0 F σ H w) (hp : H p = none) : Ext g σ F H w F (upd H p o) w := by
  have t := i.st.tr
  obtain ⟨n1, n2⟩ := i.st.nes hp
  refine ⟨Same.refl _, fun _ _ h => .inl h, fun a x h _ _ => upd_some hp h, fun _ h => h, t.1, t.2, ?_, ?_⟩
  · rw [upd_ne (Ne.symm n1)]; exact t.1
  · rw [upd_ne (Ne.symm n2)]; exact t.2
theorem Ext.alloc (i : Inv2 g F0 H0 F σ H w) (hp : H p = none) : Ext g σ F H w (upd F p o) (upd H p o) w := by
  have t := i.st.tr
  obtain ⟨n1, n2⟩ := i.st.nes hp
  refine ⟨Same.upd (i.toInv0.nF hp), fun a x h => ?_, fun a x h _ _ => upd_some hp h, fun _ h => h, t.1, t.2, ?_, ?_⟩
  · by_cases e : a = p
    · subst e; exact .inr (.inl hp)
    · rw [upd_ne e] at h; exact .inl h
  · rw [upd_ne (Ne.symm n1)]; exact t.1
  · rw [upd_ne (Ne.symm n2)]; exact t.2
end

/-! ### ends -/
section
variable {α β : Type} {b : B} {rel : Rl b β α} {F H : Hp} {σ : L2.St} {w : W} {Q : β → Hp → Prop} {d : α} {x : β}
theorem fin (i : b.Inv F σ H w) (h : Post rel σ F H w (.ok d w) Q) (r : rel.r H F H x d) : Q x H := h F H x (Ext.refl i) i r
end
section
variable {b : B} {F H : Hp} {σ : L2.St} {w : W} {Q : VK} {d : D} {x : V} {p : Addr} {o : HO}
theorem fin_new (i : b.Inv F σ H w) (h : Post (relD b) σ F H w (.ok d w) Q) (hp : H p = none) (r : ∀ F', Same F F' → F' p = some o → Rep b.g F' (.ref p) d) : Q (.ref p) (upd H p o) :=
  h _ _ _ (Ext.alloc i hp) (i.alloc hp) (r _ (Same.upd (i.toInv0.nF hp)) upd_same)
theorem fin_fresh (i : b.Inv F σ H w) (h : Post (relF b) σ F H w (.ok d w) Q) (hp : H p = none) (r : Top b.g F (upd H p o) p d) : Q (.ref p) (upd H p o) :=
  h _ _ _ (Ext.lay i hp) (i.lay hp) ⟨p, rfl, hp, i.toInv0.nF hp, r⟩
end

/-! ### judgements -/
def ED (X : Cx) (b : B) (e : Expr) (m : M D) : Prop := PE X e (tG (relD b) m)
/-- to be read at once -/
def ER (X : Cx) (b : B) (e : Expr) (m : M D) : Prop := PE X e (tG (relR b) m)
/-- a new list or dict -/
def EF (X : Cx) (b : B) (e : Expr) (m : M D) : Prop := PE X e (tG (relF b) m)
def EA (X : Cx) (b : B) (es : List Expr) (m : M (List D)) : Prop := PA X es (tG (relA b) m)
def ET (X : Cx) (b : B) (e : Expr) (m : M Bool) : Prop := PT X e (tG (relE b Bool) m)
def EW (X : Cx) (b : B) (e : Expr) (m : M Bool) : Prop := PW X e (tG (relE b Bool) m)
def EO (X : Cx) (b : B) (e : Option Expr) (m : M (Option Int)) : Prop := PO X e (tG (relE b (Option Int)) m)
theorem ED.er {X : Cx} {b : B} {e : Expr} {m : M D} (h : ED X b e m) : ER X b e m :=
  PE.weak h fun σ H Q ⟨F, w, i, p⟩ => ⟨F, w, i, by
    generalize m w = r at p ⊢
    cases r with
    | ok d w' => exact fun F' H' v x i r => p F' H' v x i (.inl r)
    | exc c x w' => exact p
    | bad => exact p⟩
/-- what is new is frozen -/
theorem EF.ed {X : Cx} {b : B} {e : Expr} {m : M D} (h : EF X b e m) : ED X b e m :=
  PE.weak h fun σ H Q ⟨F, w, i, p⟩ => ⟨F, w, i, by
    generalize m w = r at p ⊢
    cases r with
    | ok d w' =>
      intro F' H' v x i' r
      obtain ⟨a, rfl, ha, hF, t⟩ := r
      obtain ⟨o, ho⟩ := t.some
      have n0 : b.H0 a = none := i.toInv0.n0 ha
      obtain ⟨n1, n2⟩ := i.st.nes ha
      have sF : Same F' (upd F' a o) := Same.upd hF
      have no : ¬ Own σ w'.Γ a := fun z => by
        obtain ⟨j, d', h1, h2⟩ := x.own a z
        obtain ⟨a', e1, _, _, t'⟩ := i.slot j _ h1
        rw [h2] at e1
        cases e1
        obtain ⟨o', q⟩ := t'.some
        rw [ha] at q; cases q
      refine p (upd F' a o) H' _ ⟨x.ff.trans sF, fun c u h => ?_, x.keep, x.own, x.tr⟩ ?_ (t.rep sF (upd_same.trans ho.symm))
      · by_cases e : c = a
        · subst e; exact .inr (.inl ha)
        · rw [upd_ne e] at h; exact x.new c u h
      · refine { i'.toInv0.frz ho n0 hF n1 n2 with len := i'.len, dis := i'.dis, slot := fun j s h => ?_ }
        cases s with
        | none => trivial
        | frz d => obtain ⟨v, e1, r⟩ := i'.slot j _ h; exact ⟨v, e1, r.mono sF⟩
        | own d =>
          obtain ⟨c, e1, h1, h2, t'⟩ := i'.slot j _ h
          refine ⟨c, e1, ?_, h2, t'.mono sF fun _ q => q⟩
          rw [upd_ne]; exact h1
          intro e; subst e; exact no ⟨j, d, h, e1⟩
    | exc c x w' => exact p
    | bad => exact p⟩
theorem EF.er {X : Cx} {b : B} {e : Expr} {m : M D} (h : EF X b e m) : ER X b e m := h.ed.er

/-! ### names, constants -/
section
variable {X : Cx} {b : B} {pos : Pos}
/-- a name whose value is kept: an own list is frozen -/
def mName (i : Nat) : M D := fun w => match w.Γ[i]? with
  | some (.frz d) => .ok d w
  | some (.own d) => .ok d ⟨w.Γ.set i (.frz d), w.S⟩
  | _ => .bad
/-- a name whose value is read at once -/
def mRead (i : Nat) : M D := fun w => match w.Γ[i]? with
  | some (.frz d) => .ok d w
  | some (.own d) => .ok d w
  | _ => .bad
theorem Inv2.freeze {g : G} {F0 H0 F H : Hp} {σ : L2.St} {w : W} {i : Nat} {d : D} {a : Addr} {o : HO} (I : Inv2 g F0 H0 F σ H w) (hi : w.Γ[i]? = some (.own d)) (hσ : σ[i]? = some (some (.ref a))) (hF : F a = none) (h0 : H0 a = none) (t : Top g F H a d) (ho : H a = some o) :
    Inv2 g F0 H0 (upd F a o) σ H ⟨w.Γ.set i (.frz d), w.S⟩ ∧ Ext g σ F H w (upd F a o) H ⟨w.Γ.set i (.frz d), w.S⟩ := by
  have n1 : a ≠ g.s := fun e => by
    obtain ⟨S0, q⟩ := I.b0
    subst e; exact q.tr.1 h0
  have n2 : a ≠ g.c := fun e => by
    obtain ⟨S0, q⟩ := I.b0
    subst e; exact q.tr.2 h0
  have sF : Same F (upd F a o) := Same.upd hF
  have il : i < w.Γ.length := (List.getElem?_eq_some_iff.mp hi).1
  have tr := I.st.tr
  have old : ∀ (j : Nat) (e : D), (w.Γ.set i (.frz d))[j]? = some (.own e) → i ≠ j ∧ w.Γ[j]? = some (.own e) := fun j e h => by
    by_cases q : i = j
    · subst q
      rw [List.getElem?_set_self il] at h; cases h
    · rw [List.getElem?_set_ne q] at h; exact ⟨q, h⟩
  refine ⟨{ I.toInv0.frz ho h0 hF n1 n2 with len := ?_, dis := fun j k c d1 d2 h1 h2 h3 h4 => I.dis j k c d1 d2 (old _ _ h1).2 (old _ _ h2).2 h3 h4, slot := fun j s h => ?_ }, ⟨sF, fun c u h => ?_, fun _ _ h _ _ => h, fun c ⟨j, e, h1, h2⟩ => ⟨j, e, (old _ _ h1).2, h2⟩, tr.1, tr.2, tr.1, tr.2⟩⟩
  · rw [I.len]; simp
  · by_cases q : i = j
    · subst q
      rw [List.getElem?_set_self il] at h
      cases h
      exact ⟨.ref a, hσ, t.rep sF (upd_same.trans ho.symm)⟩
    · rw [List.getElem?_set_ne q] at h
      cases s with
      | none => trivial
      | frz e => obtain ⟨v, e1, r⟩ := I.slot j _ h; exact ⟨v, e1, r.mono sF⟩
      | own e =>
        obtain ⟨c, e1, h1, h2, t'⟩ := I.slot j _ h
        refine ⟨c, e1, ?_, h2, t'.mono sF fun _ q => q⟩
        rw [upd_ne]; exact h1
        intro z; subst z
        exact q (I.dis i j c d e hi h hσ e1)
  · by_cases e : c = a
    · subst e; exact .inr (.inr ⟨i, d, hi, hσ⟩)
    · rw [upd_ne e] at h; exact .inl h
theorem ed_name {x : Str} (i : Nat) (h : PE X (.Name x pos) (tVar i)) : ED X b (.Name x pos) (mName i) :=
  PE.weak h fun σ H Q ⟨F, w, I, p⟩ => by
    unfold mName at p
    split at p
    · rename_i d e
      obtain ⟨v, e1, r⟩ := I.slot i _ e
      exact ⟨v, e1, fin I p r⟩
    · rename_i d e
      obtain ⟨a, e1, h1, h2, t⟩ := I.slot i _ e
      obtain ⟨o, ho⟩ := t.some
      obtain ⟨I', x⟩ := I.freeze e e1 h1 h2 t ho
      exact ⟨.ref a, e1, p _ _ _ x I' (t.rep x.ff (upd_same.trans ho.symm))⟩
    · exact p.elim
theorem er_name {x : Str} (i : Nat) (h : PE X (.Name x pos) (tVar i)) : ER X b (.Name x pos) (mRead i) :=
  PE.weak h fun σ H Q ⟨F, w, I, p⟩ => by
    unfold mRead at p
    split at p
    · rename_i d e
      obtain ⟨v, e1, r⟩ := I.slot i _ e
      exact ⟨v, e1, fin I p (.inl r)⟩
    · rename_i d e
      obtain ⟨a, e1, h1, h2, t⟩ := I.slot i _ e
      refine ⟨.ref a, e1, fin I p (.inr ⟨a, rfl, fun z => ?_, fun z => ?_, t⟩)⟩
      · obtain ⟨S0, q⟩ := I.b0
        subst z; exact q.tr.1 h2
      · obtain ⟨S0, q⟩ := I.b0
        subst z; exact q.tr.2 h2
    · exact p.elim
def mC (d : D) : M D := M.pure d
theorem ed_int {i : Int} {j : Nat} : ED X b (.Constant (.int i) j pos) (mC (.int i)) := PE.weak pe_int fun σ H Q ⟨F, w, I, p⟩ => fin I p (Rep.int i)
theorem ed_bl {i : Bool} {j : Nat} : ED X b (.Constant (.bool i) j pos) (mC (.bl i)) := PE.weak pe_bl fun σ H Q ⟨F, w, I, p⟩ => fin I p (Rep.bl i)
theorem ed_non {j : Nat} : ED X b (.Constant .none j pos) (mC .non) := PE.weak pe_non fun σ H Q ⟨F, w, I, p⟩ => fin I p Rep.non
theorem ed_str {x : Str} {j : Nat} : ED X b (.Constant (.str x) j pos) (mC (.str x)) := PE.weak pe_str fun σ H Q ⟨F, w, I, p⟩ => fin I p (Rep.str x)
/-- a constant of the module -/
theorem ed_glob {x : Str} {u : Value} {v : V} {d : D} (hg : Gl X x) (hm : X.mg x = some u) (r : RelV v u) (hd : (x == ("__debug__" : Str)) = false := by decide) (hr : ∀ F, Rep b.g F v d) : ED X b (.Name x pos) (mC d) :=
  PE.weak (pe_glob hg hm r hd) fun σ H Q ⟨F, w, I, p⟩ => fin I p (hr F)
end

/-! ### argument lists, displays -/
section
variable {X : Cx} {b : B} {pos : Pos} {e : Expr} {es : List Expr}
def mNil : M (List D) := M.pure []
def mCons (m : M D) (r : M (List D)) : M (List D) := m.bind fun d => r.bind fun ds => M.pure (d :: ds)
theorem ea_nil : EA X b [] mNil := PA.weak pa_nil fun σ H Q ⟨F, w, I, p⟩ => fin I p Reps.nil
theorem ea_cons {m : M D} {r : M (List D)} (h : ED X b e m) (hr : EA X b es r) (hs : starEach (e :: es) X.env = (false, eval e X.env) :: starEach es X.env := by rfl) : EA X b (e :: es) (mCons m r) :=
  PA.weak (pa_cons h hr hs) fun σ H Q ⟨F, w, I, p⟩ => ⟨F, w, I, (Post.bind p).mono fun x H1 ⟨F1, w1, d, i1, r1, x1, p1⟩ => ⟨F1, w1, i1, (Post.bind p1).mono fun xs H2 ⟨F2, w2, ds, i2, r2, x2, p2⟩ =>
    fin i2 p2 (.cons (r1.mono x2.ff) r2)⟩⟩
def mTup (m : M (List D)) : M D := m.bind fun ds => if ds.length ≤ sizeLine then M.pure (.tup ds) else M.bad
def mLst (m : M (List D)) : M D := m.bind fun ds => if ds.length ≤ sizeLine then M.pure (.lst ds) else M.bad
theorem Post.ite {α β : Type} {rel : Rl b β α} {σ : L2.St} {F H : Hp} {w : W} {c : Prop} [Decidable c] {m : M α} {Q : β → Hp → Prop} (h : Post rel σ F H w ((if c then m else M.bad) w) Q) : c ∧ Post rel σ F H w (m w) Q := by
  by_cases hc : c
  · rw [if_pos hc] at h; exact ⟨hc, h⟩
  · rw [if_neg hc] at h; exact h.elim
theorem ed_tup {m : M (List D)} {x1 : Nat} (h : EA X b es m) : ED X b (.Tuple es x1 pos) (mTup m) :=
  PE.weak (pe_tup h) fun σ H Q ⟨F, w, I, p⟩ => ⟨F, w, I, (Post.bind p).mono fun xs H1 ⟨F1, w1, ds, i1, r1, x1, p1⟩ => by
    obtain ⟨hz, p1⟩ := Post.ite p1
    have r1 : Reps b.g F1 xs ds := r1
    exact ⟨by rw [r1.length]; exact hz, fun q hq => fin_new i1 p1 hq fun F' s e => .tup e (r1.mono s)⟩⟩
theorem ef_lst {m : M (List D)} (h : EA X b es m) : EF X b (.List es pos) (mLst m) :=
  PE.weak (pe_lst h) fun σ H Q ⟨F, w, I, p⟩ => ⟨F, w, I, (Post.bind p).mono fun xs H1 ⟨F1, w1, ds, i1, r1, x1, p1⟩ => by
    obtain ⟨hz, p1⟩ := Post.ite p1
    have r1 : Reps b.g F1 xs ds := r1
    exact ⟨by rw [r1.length]; exact hz, fun q hq => fin_fresh i1 p1 hq (.lst upd_same r1)⟩⟩
end
end FP


set_option Elab.async false
set_option linter.all false
set_option maxRecDepth 100000
set_option maxHeartbeats 2000000
/-! FP3: operators, comparisons, subscripts, slices, tests. -/
namespace FP
open PySem PySem.Spec PyProof.Rows L2
theorem OpR.or {X : Cx} {f : Value → Value → Sem Value} {r r' : R2} (h : OpR X f r) (h' : OpR X f r') : OpR X f (fun x y H Q => r x y H Q ∨ r' x y H Q) := by
  intro pins s σ H x y v u Q I rx ry q
  rcases q with q | q
  · exact h pins s σ H x y v u Q I rx ry q
  · exact h' pins s σ H x y v u Q I rx ry q

/-! ### data as the library's data -/
mutual
def D.py : D → PyData
  | .non => .none
  | .bl b => .bool b
  | .int i => .int i
  | .str x => .str x
  | .tup ds => .tuple (pyL ds)
  | .kt ds => .tuple (pyL ds)
  | .lst ds => .list (pyL ds)
  | .dK _ => .dict []
  | .dT _ => .dict []
  | .st => .dict []
def pyL : List D → List PyData
  | [] => []
  | d :: ds => d.py :: pyL ds
end
section
variable {g : G} {F : Hp}
mutual
theorem Rep.dp : ∀ {v : V} {d : D}, Rep g F v d → d.py.canLay0 = true → Dp g.K F v d.py
  | _, _, .non, _ => by unfold D.py; exact .non
  | _, _, .bl b, _ => by unfold D.py; exact .bl b
  | _, _, .int i, _ => by unfold D.py; exact .int i
  | _, _, .str x, _ => by unfold D.py; exact .str x
  | _, _, .tup h r, c => by unfold D.py at c ⊢; exact .tup (.of h) (Reps.dp r (by simpa [PyData.canLay0] using c))
  | _, _, .kt h r, c => by unfold D.py at c ⊢; exact .tup h (Reps.dp r (by simpa [PyData.canLay0] using c))
  | _, _, .lst h r, c => by unfold D.py at c ⊢; exact .lst (.of h) (Reps.dp r (by simpa [PyData.canLay0] using c))
  | _, _, .dK _ _ _, c => by unfold D.py at c; simp [PyData.canLay0] at c
  | _, _, .dT _ _ _, c => by unfold D.py at c; simp [PyData.canLay0] at c
  | _, _, .st, c => by unfold D.py at c; simp [PyData.canLay0] at c
theorem Reps.dp : ∀ {vs : List V} {ds : List D}, Reps g F vs ds → PyData.canLayAll0 (pyL ds) = true → DpAll g.K F vs (pyL ds)
  | _, _, .nil, _ => by unfold pyL; exact .nil
  | _, _, .cons h r, c => by
    unfold pyL at c ⊢
    simp only [PyData.canLayAll0, Bool.and_eq_true] at c
    exact .cons (Rep.dp h c.1) (Reps.dp r c.2)
end
end
def shp (d : D) : Bool := SeqAt.shaped d.py
theorem Rep.dpS {g : G} {F : Hp} {v : V} {d : D} (h : Rep g F v d) (s : shp d = true) : Dp g.K F v d.py := h.dp (SeqAt.canLay_of_shaped s)
theorem relR.lst {b : B} {H F' H' : Hp} {v : V} {ds : List D} (h : (relR b).r H F' H' v (.lst ds)) (s : Same F' H') : ∃ a vs, v = .ref a ∧ H' a = some (.lst vs) ∧ Reps b.g F' vs ds := by
  rcases h with h | ⟨a, rfl, _, _, t⟩
  · cases h with
    | lst h r => exact ⟨_, _, rfl, s _ _ h, r⟩
  · cases t with
    | lst h r => exact ⟨_, _, rfl, h, r⟩
theorem relR.ext {b : B} {σ : L2.St} {H0 F H F1 H1 : Hp} {w w1 : W} {v : V} {d : D} (h : (relR b).r H0 F H v d) (x : Ext b.g σ F H w F1 H1 w1) : (relR b).r H0 F1 H1 v d := by
  rcases h with h | ⟨a, rfl, n1, n2, t⟩
  · exact .inl (h.mono x.ff)
  · exact .inr ⟨a, rfl, n1, n2, t.mono x.ff fun o q => x.keep a o q n1 n2⟩
theorem relR.dp {b : B} {H F' H' : Hp} {v : V} {d : D} (h : (relR b).r H F' H' v d) (s : Same F' H') (hs : shp d = true) : Dp b.g.K H' v d.py := by
  rcases h with h | ⟨a, rfl, _, _, t⟩
  · exact (h.mono s).dpS hs
  · have c := SeqAt.canLay_of_shaped hs
    cases t with
    | lst h r =>
      unfold D.py at c ⊢
      exact .lst (.of h) ((r.mono s).dp (by simpa [PyData.canLay0] using c))
    | dK _ _ _ => unfold D.py at c; simp [PyData.canLay0] at c
    | dT _ _ _ => unfold D.py at c; simp [PyData.canLay0] at c

/-! ### what the operators do to data -/
def fAdd : D → D → Option D
  | .int i, .int j => some (.int (i + j))
  | .str x, .str y => if x.length + y.length ≤ sizeLine then some (.str (x ++ y)) else none
  | .tup xs, .tup ys => if xs.length + ys.length ≤ sizeLine then some (.tup (xs ++ ys)) else none
  | _, _ => none
def fCat : D → D → Option D
  | .lst xs, .lst ys => if xs.length + ys.length ≤ sizeLine then some (.lst (xs ++ ys)) else none
  | _, _ => none
def fSub : D → D → Option D
  | .int i, .int j => some (.int (i - j))
  | _, _ => none
def fMul : D → D → Option D
  | .int i, .int j => if i.natAbs.log2 + j.natAbs.log2 < 1000000 then some (.int (i * j)) else none
  | _, _ => none
def fRep : D → D → Option D
  | .lst xs, .int k => if -(2 ^ 63) ≤ k ∧ k < 2 ^ 63 ∧ xs.length * k.toNat ≤ sizeLine then some (.lst (List.replicate k.toNat xs).flatten) else none
  | _, _ => none
def fMod : D → D → Option D
  | .int i, .int j => if j ≠ 0 then some (.int (i.fmod j)) else none
  | _, _ => none
def fDiv : D → D → Option D
  | .int i, .int j => if 0 < j ∧ j.natAbs.log2 < 9000 then some (.int (i / j)) else none
  | _, _ => none
def fNeg : D → Option D
  | .int i => some (.int (-i))
  | _ => none
def fEq (x y : D) : Option D := if shp x = true ∧ shp y = true then some (.bl (PyData.eqv x.py y.py)) else none
def fNe (x y : D) : Option D := if shp x = true ∧ shp y = true then some (.bl (!PyData.eqv x.py y.py)) else none
def fLt : D → D → Option D
  | .int i, .int j => some (.bl (decide (i < j)))
  | _, _ => none
def fLe : D → D → Option D
  | .int i, .int j => some (.bl (decide (i ≤ j)))
  | _, _ => none
def fGt : D → D → Option D
  | .int i, .int j => some (.bl (decide (j < i)))
  | _, _ => none
def fGe : D → D → Option D
  | .int i, .int j => some (.bl (decide (j ≤ i)))
  | _, _ => none
def fIn (x : D) : D → Option D
  | .lst ys => if shp x = true ∧ shp (.lst ys) = true then some (.bl ((pyL ys).any fun z => PyData.eqv z x.py)) else none
  | _ => none
def fNotIn (x : D) : D → Option D
  | .lst ys => if shp x = true ∧ shp (.lst ys) = true then some (.bl (!(pyL ys).any fun z => PyData.eqv z x.py)) else none
  | _ => none
theorem gr {α : Type} {c : Prop} [Decidable c] {x y : α} (h : (if c then some x else none) = some y) : c ∧ x = y := by
  by_cases q : c
  · rw [if_pos q] at h; exact ⟨q, Option.some.inj h⟩
  · rw [if_neg q] at h; cases h

def mOp (f : D → D → Option D) (m k : M D) : M D := m.bind fun x => k.bind fun y => ofO (f x y)
section
variable {X : Cx} {b : B} {pos : Pos} {a c : Expr} {ma mc : M D}
/-- how an operator's rule answers to data -/
def AnsD (b : B) (f : D → D → Option D) (r : R2) : Prop := ∀ (F H : Hp) (σ : L2.St) (w : W) (x y : V) (d e z : D) (Q : VK), b.Inv F σ H w → Rep b.g F x d → Rep b.g F y e → f d e = some z → Post (relD b) σ F H w (.ok z w) Q → r x y H Q
def AnsF (b : B) (f : D → D → Option D) (r : R2) : Prop := ∀ (F H : Hp) (σ : L2.St) (w : W) (x y : V) (d e z : D) (Q : VK), b.Inv F σ H w → (relR b).r H F H x d → (relR b).r H F H y e → f d e = some z → Post (relF b) σ F H w (.ok z w) Q → r x y H Q
def AnsR (b : B) (f : D → D → Option D) (r : R2) : Prop := ∀ (F H : Hp) (σ : L2.St) (w : W) (x y : V) (d e z : D) (Q : VK), b.Inv F σ H w → Rep b.g F x d → (relR b).r H F H y e → f d e = some z → Post (relD b) σ F H w (.ok z w) Q → r x y H Q
def AnsI (b : B) (f : D → D → Option D) (r : R2) : Prop := ∀ (F H : Hp) (σ : L2.St) (w : W) (x y : V) (d e z : D) (Q : VK), b.Inv F σ H w → (relR b).r H F H x d → Rep b.g F y e → f d e = some z → Post (relD b) σ F H w (.ok z w) Q → r x y H Q
theorem op_DD {f : D → D → Option D} {r : R2} (hf : AnsD b f r) (σ : L2.St) (H : Hp) (Q : VK) (h : tG (relD b) (mOp f ma mc) σ H Q) : tOp r (tG (relD b) ma) (tG (relD b) mc) σ H Q := by
  obtain ⟨F, w, I, p⟩ := h
  refine ⟨F, w, I, (Post.bind p).mono fun x H1 ⟨F1, w1, d, i1, r1, x1, p1⟩ => ⟨F1, w1, i1, (Post.bind p1).mono fun y H2 ⟨F2, w2, e, i2, r2, x2, p2⟩ => ?_⟩⟩
  obtain ⟨z, hz, p3⟩ := Post.ofO p2
  exact hf _ _ _ _ _ _ _ _ _ _ i2 (r1.mono x2.ff) r2 hz p3
theorem op_DR {f : D → D → Option D} {r : R2} (hf : AnsR b f r) (σ : L2.St) (H : Hp) (Q : VK) (h : tG (relD b) (mOp f ma mc) σ H Q) : tOp r (tG (relD b) ma) (tG (relR b) mc) σ H Q := by
  obtain ⟨F, w, I, p⟩ := h
  refine ⟨F, w, I, (Post.bind p).mono fun x H1 ⟨F1, w1, d, i1, r1, x1, p1⟩ => ⟨F1, w1, i1, (Post.bind p1).mono fun y H2 ⟨F2, w2, e, i2, r2, x2, p2⟩ => ?_⟩⟩
  obtain ⟨z, hz, p3⟩ := Post.ofO p2
  exact hf _ _ _ _ _ _ _ _ _ _ i2 (r1.mono x2.ff) r2 hz p3
theorem op_RD {f : D → D → Option D} {r : R2} (hf : AnsI b f r) (σ : L2.St) (H : Hp) (Q : VK) (h : tG (relD b) (mOp f ma mc) σ H Q) : tOp r (tG (relR b) ma) (tG (relD b) mc) σ H Q := by
  obtain ⟨F, w, I, p⟩ := h
  refine ⟨F, w, I, (Post.bind p).mono fun x H1 ⟨F1, w1, d, i1, r1, x1, p1⟩ => ⟨F1, w1, i1, (Post.bind p1).mono fun y H2 ⟨F2, w2, e, i2, r2, x2, p2⟩ => ?_⟩⟩
  obtain ⟨z, hz, p3⟩ := Post.ofO p2
  exact hf _ _ _ _ _ _ _ _ _ _ i2 (relR.ext r1 x2) r2 hz p3
theorem op_RRF {f : D → D → Option D} {r : R2} (hf : AnsF b f r) (σ : L2.St) (H : Hp) (Q : VK) (h : tG (relF b) (mOp f ma mc) σ H Q) : tOp r (tG (relR b) ma) (tG (relR b) mc) σ H Q := by
  obtain ⟨F, w, I, p⟩ := h
  refine ⟨F, w, I, (Post.bind p).mono fun x H1 ⟨F1, w1, d, i1, r1, x1, p1⟩ => ⟨F1, w1, i1, (Post.bind p1).mono fun y H2 ⟨F2, w2, e, i2, r2, x2, p2⟩ => ?_⟩⟩
  obtain ⟨z, hz, p3⟩ := Post.ofO p2
  exact hf _ _ _ _ _ _ _ _ _ _ i2 (relR.ext r1 x2) r2 hz p3

/-! ### + - * // % -/
theorem ed_add (hK : X.K = b.g.K) (ha : ED X b a ma) (hc : ED X b c mc) : ED X b (.BinOp a .Add c pos) (mOp fAdd ma mc) := by
  refine PE.weak (pe_op (op_add.or (op_add_str.or op_catA)) ha hc) (op_DD fun F H σ w x y d e z Q i rx ry hz p => ?_)
  unfold fAdd at hz
  split at hz
  · cases hz; cases rx; cases ry
    exact .inl ⟨_, _, rfl, rfl, fin i p (Rep.int _)⟩
  · obtain ⟨h1, rfl⟩ := gr hz
    cases rx; cases ry
    exact .inr (.inl ⟨_, _, rfl, rfl, h1, fin i p (Rep.str _)⟩)
  · obtain ⟨h1, rfl⟩ := gr hz
    cases rx with
    | tup hx rx =>
      cases ry with
      | tup hy ry =>
        refine .inr (.inr ⟨_, _, _, _, rfl, rfl, SqT.of (i.sub _ _ hx), SqT.of (i.sub _ _ hy), by rw [rx.length, ry.length]; exact h1, fun e => ?_, fun _ e => ?_, fun _ _ q hq => ?_⟩)
        · have e' := rx.nil_iff.mp e
          rw [e', List.nil_append] at p
          exact fin i p (Rep.tup (hy) ry)
        · have e' := ry.nil_iff.mp e
          rw [e', List.append_nil] at p
          exact fin i p (Rep.tup (hx) rx)
        · exact fin_new i p hq fun F' s e => .tup e ((rx.append ry).mono s)
  · cases hz
theorem ef_cat (ha : ER X b a ma) (hc : ER X b c mc) : EF X b (.BinOp a .Add c pos) (mOp fCat ma mc) := by
  refine PE.weak (pe_op op_cat ha hc) (op_RRF fun F H σ w x y d e z Q i rx ry hz p => ?_)
  unfold fCat at hz
  split at hz
  · obtain ⟨h1, rfl⟩ := gr hz
    obtain ⟨l, vs, rfl, hl, rl⟩ := relR.lst rx i.sub
    obtain ⟨k, us, rfl, hk, rk⟩ := relR.lst ry i.sub
    exact ⟨_, _, _, _, rfl, rfl, hl, hk, by rw [rl.length, rk.length]; exact h1, fun q hq => fin_fresh i p hq (.lst upd_same (rl.append rk))⟩
  · cases hz
theorem ed_sub (ha : ED X b a ma) (hc : ED X b c mc) : ED X b (.BinOp a .Sub c pos) (mOp fSub ma mc) := by
  refine PE.weak (pe_op op_sub ha hc) (op_DD fun F H σ w x y d e z Q i rx ry hz p => ?_)
  unfold fSub at hz
  split at hz
  · cases hz; cases rx; cases ry
    exact ⟨_, _, rfl, rfl, fin i p (Rep.int _)⟩
  · cases hz
theorem ed_mul (ha : ED X b a ma) (hc : ED X b c mc) : ED X b (.BinOp a .Mult c pos) (mOp fMul ma mc) := by
  refine PE.weak (pe_op op_mulW ha hc) (op_DD fun F H σ w x y d e z Q i rx ry hz p => ?_)
  unfold fMul at hz
  split at hz
  · obtain ⟨h1, rfl⟩ := gr hz
    cases rx; cases ry
    exact ⟨_, _, rfl, rfl, h1, fin i p (Rep.int _)⟩
  · cases hz
theorem ef_rep (ha : ER X b a ma) (hc : ED X b c mc) : EF X b (.BinOp a .Mult c pos) (mOp fRep ma mc) := by
  refine PE.weak (pe_op op_rep ha hc) fun σ H Q h => ?_
  obtain ⟨F, w, I, p⟩ := h
  refine ⟨F, w, I, (Post.bind p).mono fun x H1 ⟨F1, w1, d, i1, r1, x1, p1⟩ => ⟨F1, w1, i1, (Post.bind p1).mono fun y H2 ⟨F2, w2, e, i2, r2, x2, p2⟩ => ?_⟩⟩
  obtain ⟨z, hz, p3⟩ := Post.ofO p2
  unfold fRep at hz
  split at hz
  · obtain ⟨⟨h1, h2, h3⟩, rfl⟩ := gr hz
    obtain ⟨l, vs, rfl, hl, rl⟩ := relR.lst (relR.ext r1 x2) i2.sub
    cases r2
    exact ⟨_, _, _, rfl, rfl, hl, h1, h2, by rw [rl.length]; exact h3, fun q hq => fin_fresh i2 p3 hq (.lst upd_same (rl.rep _))⟩
  · cases hz
theorem ed_mod (ha : ED X b a ma) (hc : ED X b c mc) : ED X b (.BinOp a .Mod c pos) (mOp fMod ma mc) := by
  refine PE.weak (pe_op op_modN ha hc) (op_DD fun F H σ w x y d e z Q i rx ry hz p => ?_)
  unfold fMod at hz
  split at hz
  · obtain ⟨h1, rfl⟩ := gr hz
    cases rx; cases ry
    exact ⟨_, _, rfl, rfl, h1, fin i p (Rep.int _)⟩
  · cases hz
theorem ed_div (ha : ED X b a ma) (hc : ED X b c mc) : ED X b (.BinOp a .FloorDiv c pos) (mOp fDiv ma mc) := by
  refine PE.weak (pe_op op_fdivW ha hc) (op_DD fun F H σ w x y d e z Q i rx ry hz p => ?_)
  unfold fDiv at hz
  split at hz
  · obtain ⟨h1, rfl⟩ := gr hz
    cases rx; cases ry
    exact ⟨_, _, rfl, rfl, h1, fin i p (Rep.int _)⟩
  · cases hz
def mUn (f : D → Option D) (m : M D) : M D := m.bind fun x => ofO (f x)
theorem ed_neg (ha : ED X b a ma) : ED X b (.UnaryOp .USub a pos) (mUn fNeg ma) := by
  refine PE.weak (pe_un un_neg ha) fun σ H Q ⟨F, w, I, p⟩ => ⟨F, w, I, (Post.bind p).mono fun x H1 ⟨F1, w1, d, i1, r1, x1, p1⟩ => ?_⟩
  obtain ⟨z, hz, p3⟩ := Post.ofO p1
  unfold fNeg at hz
  split at hz
  · cases hz
    cases r1
    exact ⟨_, rfl, fin i1 p3 (Rep.int _)⟩
  · cases hz

/-! ### comparisons: as values, as tests -/
theorem ansI {f : D → D → Option D} {p : Int → Int → Bool} (h1 : ∀ i j, f (.int i) (.int j) = some (.bl (p i j))) (h2 : ∀ d e z, f d e = some z → ∃ i j, d = .int i ∧ e = .int j) : AnsD b f (rI0 fun i j => .bl (p i j)) := by
  intro F H σ w x y d e z Q i rx ry hz q
  obtain ⟨n, m, rfl, rfl⟩ := h2 d e z hz
  rw [h1] at hz
  cases hz
  cases rx; cases ry
  exact ⟨_, _, rfl, rfl, fin i q (Rep.bl _)⟩
theorem ans_lt : AnsD b fLt (rI0 fun i j => .bl (decide (i < j))) := ansI (fun _ _ => rfl) fun d e z h => by unfold fLt at h; split at h <;> first | exact ⟨_, _, rfl, rfl⟩ | cases h
theorem ans_le : AnsD b fLe (rI0 fun i j => .bl (decide (i ≤ j))) := ansI (fun _ _ => rfl) fun d e z h => by unfold fLe at h; split at h <;> first | exact ⟨_, _, rfl, rfl⟩ | cases h
theorem ans_gt : AnsD b fGt (rI0 fun i j => .bl (decide (j < i))) := ansI (fun _ _ => rfl) fun d e z h => by unfold fGt at h; split at h <;> first | exact ⟨_, _, rfl, rfl⟩ | cases h
theorem ans_ge : AnsD b fGe (rI0 fun i j => .bl (decide (j ≤ i))) := ansI (fun _ _ => rfl) fun d e z h => by unfold fGe at h; split at h <;> first | exact ⟨_, _, rfl, rfl⟩ | cases h
theorem ans_eq {K : PySem.W.Frag} (hK : K = b.g.K) : AnsD b fEq (rEqD K) := by
  intro F H σ w x y d e z Q i rx ry hz p
  obtain ⟨⟨h1, h2⟩, rfl⟩ := gr hz
  subst hK
  exact ⟨_, _, (rx.mono i.sub).dpS h1, (ry.mono i.sub).dpS h2, h1, h2, fin i p (Rep.bl _)⟩
theorem ans_ne {K : PySem.W.Frag} (hK : K = b.g.K) : AnsD b fNe (rNeD K) := by
  intro F H σ w x y d e z Q i rx ry hz p
  obtain ⟨⟨h1, h2⟩, rfl⟩ := gr hz
  subst hK
  exact ⟨_, _, (rx.mono i.sub).dpS h1, (ry.mono i.sub).dpS h2, h1, h2, fin i p (Rep.bl _)⟩
theorem ans_in {K : PySem.W.Frag} (hK : K = b.g.K) : AnsR b fIn (rInD K) := by
  intro F H σ w x y d e z Q i rx ry hz p
  cases e with
  | lst ys =>
    obtain ⟨⟨h1, h2⟩, rfl⟩ := gr hz
    subst hK
    have t := relR.dp ry i.sub h2
    have s2 : SeqAt.shaped (.list (pyL ys)) = true := by simpa [shp, D.py] using h2
    exact ⟨_, _, (rx.mono i.sub).dpS h1, by simpa [D.py] using t, h1, s2, fin i p (Rep.bl _)⟩
  | _ => cases hz
theorem ans_notIn {K : PySem.W.Frag} (hK : K = b.g.K) : AnsR b fNotIn (rNotInD K) := by
  intro F H σ w x y d e z Q i rx ry hz p
  cases e with
  | lst ys =>
    obtain ⟨⟨h1, h2⟩, rfl⟩ := gr hz
    subst hK
    have t := relR.dp ry i.sub h2
    have s2 : SeqAt.shaped (.list (pyL ys)) = true := by simpa [shp, D.py] using h2
    exact ⟨_, _, (rx.mono i.sub).dpS h1, by simpa [D.py] using t, h1, s2, fin i p (Rep.bl _)⟩
  | _ => cases hz
theorem ed_cmp {op : CmpOp} {f : D → D → Option D} {r : R2} (ho : OpR X (compareOp op) r) (hf : AnsD b f r) (ha : ED X b a ma) (hc : ED X b c mc) (hm : behindInMarks op c = false) : ED X b (.Compare a [op] [c] pos) (mOp f ma mc) :=
  PE.weak (pe_cmpR ho ha hc hm) (op_DD hf)
theorem ed_cmpR {op : CmpOp} {f : D → D → Option D} {r : R2} (ho : OpR X (compareOp op) r) (hf : AnsR b f r) (ha : ED X b a ma) (hc : ER X b c mc) (hm : behindInMarks op c = false) : ED X b (.Compare a [op] [c] pos) (mOp f ma mc) :=
  PE.weak (pe_cmpR ho ha hc hm) (op_DR hf)
/-- a truth value, handed on -/
def mBool (m : M D) : M Bool := m.bind fun d => match d with
  | .bl k => M.pure k
  | _ => M.bad
theorem test_of {t : TE} {m : M D} (h : ∀ σ H Q, tG (relD b) m σ H Q → t σ H Q) (σ : L2.St) (H : Hp) (Q : Bool → Hp → Prop) (q : tG (relE b Bool) (mBool m) σ H Q) : t σ H fun x H' => ∃ k, x = .bl k ∧ Q k H' := by
  obtain ⟨F, w, I, p⟩ := q
  refine h σ H _ ⟨F, w, I, (Post.bind p).mono fun x H1 ⟨F1, w1, d, i1, r1, x1, p1⟩ => ?_⟩
  have r1 : Rep b.g F1 x d := r1
  cases d with
  | bl k =>
    cases r1
    exact ⟨_, rfl, fin i1 p1 rfl⟩
  | _ => exact p1.elim
theorem et_cmp {op : CmpOp} {f : D → D → Option D} {r : R2} (ho : OpR X (compareOp op) r) (hf : AnsD b f r) (ha : ED X b a ma) (hc : ED X b c mc) (hm : behindInMarks op c = false) : ET X b (.Compare a [op] [c] pos) (mBool (mOp f ma mc)) :=
  PT.weak (pt_cmpR ho ha hc hm) (test_of (op_DD hf))
theorem et_cmpR {op : CmpOp} {f : D → D → Option D} {r : R2} (ho : OpR X (compareOp op) r) (hf : AnsR b f r) (ha : ED X b a ma) (hc : ER X b c mc) (hm : behindInMarks op c = false) : ET X b (.Compare a [op] [c] pos) (mBool (mOp f ma mc)) :=
  PT.weak (pt_cmpR ho ha hc hm) (test_of (op_DR hf))
/-- a value that is a bool, as a test -/
theorem et_val {m : M D} (h : ED X b a m) (he : ∀ whole, isTrue a X.env whole = (do let v ← whole; standAt a.pos; holding [v] (truthy v)) := by intro _; rfl) : ET X b a (mBool m) :=
  PT.weak (pt_val h he) (test_of fun _ _ _ q => q)
/-- the truth of a list, an int .. -/
def fTru : D → Option Bool
  | .non => some false
  | .bl k => some k
  | .int i => some (i != 0)
  | .lst ds => some (!ds.isEmpty)
  | .tup ds => some (!ds.isEmpty)
  | _ => none
def mTru (m : M D) : M Bool := m.bind fun d => ofO (fTru d)
theorem Reps.isEmpty {g : G} {F : Hp} {vs : List V} {ds : List D} (h : Reps g F vs ds) : vs.isEmpty = ds.isEmpty := by cases h <;> rfl
theorem et_truth {m : M D} (hK : X.K = b.g.K) (h : ER X b a m) (he : ∀ whole, isTrue a X.env whole = (do let v ← whole; standAt a.pos; holding [v] (truthy v)) := by intro _; rfl) : ET X b a (mTru m) := by
  refine PT.weak (pt_truth h he) fun σ H Q ⟨F, w, I, p⟩ => ⟨F, w, I, (Post.bind p).mono fun x H1 ⟨F1, w1, d, i1, r1, x1, p1⟩ => ?_⟩
  obtain ⟨k, hk, p2⟩ := Post.ofO p1
  refine ⟨k, ?_, fin i1 p2 rfl⟩
  cases d with
  | lst ds =>
    obtain ⟨l, vs, rfl, hl, rl⟩ := relR.lst r1 i1.sub
    cases hk
    exact .inl ⟨vs, .of hl, by rw [rl.isEmpty]⟩
  | tup ds =>
    rcases r1 with r1 | ⟨_, _, _, _, t⟩
    · cases r1 with
      | tup ht rl =>
        cases hk
        exact .inr (.inl ⟨_, SqT.of (i1.sub _ _ ht), by rw [rl.isEmpty]⟩)
    · cases t
  | _ =>
    rcases r1 with r1 | ⟨_, _, _, _, t⟩
    · cases r1 <;> first | (cases hk; done) | (cases hk; rfl)
    · cases t <;> cases hk
end

/-! ### chains: a op b op c -/
section
variable {X : Cx} {b : B} {pos : Pos} {a c e : Expr} {ma mc me : M D}
def mChain (f f' : D → D → Option D) (ma mc me : M D) : M D := ma.bind fun x => mc.bind fun y => (ofO (f x y)).bind fun z => match z with
  | .bl true => me.bind fun u => ofO (f' y u)
  | .bl false => M.pure (.bl false)
  | _ => M.bad
theorem chain_t {f f' : D → D → Option D} {r r' : R2} (hf : AnsD b f r) (hf' : AnsD b f' r') (σ : L2.St) (H : Hp) (Q : VK) (h : tG (relD b) (mChain f f' ma mc me) σ H Q) : tChain r r' (tG (relD b) ma) (tG (relD b) mc) (tG (relD b) me) σ H Q := by
  obtain ⟨F, w, I, p⟩ := h
  refine ⟨F, w, I, (Post.bind p).mono fun x H1 ⟨F1, w1, d, i1, r1, x1, p1⟩ => ⟨F1, w1, i1, (Post.bind p1).mono fun y H2 ⟨F2, w2, e2, i2, r2, x2, p2⟩ => ?_⟩⟩
  have p3 := Post.bind (rel := relD b) p2
  obtain ⟨z, hz, p4⟩ := Post.ofO p3
  refine hf _ _ _ _ _ _ _ _ _ _ i2 (r1.mono x2.ff) r2 hz (p4.mono fun v H3 ⟨F3, w3, d3, i3, r3, x3, p5⟩ => ?_)
  have r3 : Rep b.g F3 v d3 := r3
  cases d3 with
  | bl k =>
    cases r3
    refine ⟨k, rfl, ?_⟩
    cases k with
    | true =>
      rw [if_pos rfl]
      refine ⟨F3, w3, i3, (Post.bind p5).mono fun u H4 ⟨F4, w4, d4, i4, r4, x4, p6⟩ => ?_⟩
      obtain ⟨z', hz', p7⟩ := Post.ofO p6
      exact hf' _ _ _ _ _ _ _ _ _ _ i4 (r2.mono (x3.ff.trans x4.ff)) r4 hz' p7
    | false =>
      rw [if_neg Bool.false_ne_true]
      exact fin i3 p5 (Rep.bl _)
  | _ => exact p5.elim
theorem ed_chain {op op' : CmpOp} {f f' : D → D → Option D} {r r' : R2} (ho : OpR X (compareOp op) r) (ho' : OpR X (compareOp op') r') (hf : AnsD b f r) (hf' : AnsD b f' r') (ha : ED X b a ma) (hc : ED X b c mc) (he : ED X b e me)
    (hm : lastMarks [op, op'] [c, e] = false := by with_unfolding_all rfl) : ED X b (.Compare a [op, op'] [c, e] pos) (mChain f f' ma mc me) := PE.weak (pe_chain ho ho' ha hc he hm) (chain_t hf hf')
theorem et_chain {op op' : CmpOp} {f f' : D → D → Option D} {r r' : R2} (ho : OpR X (compareOp op) r) (ho' : OpR X (compareOp op') r') (hf : AnsD b f r) (hf' : AnsD b f' r') (ha : ED X b a ma) (hc : ED X b c mc) (he : ED X b e me)
    (hm : lastMarks [op, op'] [c, e] = false := by with_unfolding_all rfl) : ET X b (.Compare a [op, op'] [c, e] pos) (mBool (mChain f f' ma mc me)) := PT.weak (pt_chain ho ho' ha hc he hm) (test_of (chain_t hf hf'))
end

/-! ### and, or, not, if .. else -/
section
variable {X : Cx} {b : B} {pos : Pos} {a c e : Expr} {rest : List Expr} {ta tc : M Bool} {ma mc : M D}
def mIf {α : Type} (t : M Bool) (m k : M α) : M α := t.bind fun c => if c = true then m else k
theorem t_if {α β : Type} {rel : Rl b β α} {m k : M α} {t t' : L2.St → Hp → (β → Hp → Prop) → Prop} {σ : L2.St} {H : Hp} {Q : β → Hp → Prop} (hm : ∀ H, tG rel m σ H Q → t σ H Q) (hk : ∀ H, tG rel k σ H Q → t' σ H Q) (h : tG rel (mIf ta m k) σ H Q) :
    tG (relE b Bool) ta σ H fun c H1 => if c = true then t σ H1 Q else t' σ H1 Q := by
  obtain ⟨F, w, I, p⟩ := h
  refine ⟨F, w, I, (Post.bind p).mono fun x H1 ⟨F1, w1, d, i1, r1, x1, p1⟩ => ?_⟩
  obtain rfl : x = d := r1
  cases x with
  | true => rw [if_pos rfl]; exact hm _ ⟨F1, w1, i1, p1⟩
  | false => rw [if_neg Bool.false_ne_true]; exact hk _ ⟨F1, w1, i1, p1⟩
theorem ew_and1 (ha : ET X b a ta) : EW X b (.BoolOp .And [a] pos) ta := pw_and1 ha
theorem ew_or1 (ha : ET X b a ta) : EW X b (.BoolOp .Or [a] pos) ta := pw_or1 ha
theorem PW.weak {X : Cx} {e : Expr} {t t' : TT} (h : PW X e t) (k : ∀ σ H Q, t' σ H Q → t σ H Q) : PW X e t' := ⟨fun wh pins s σ H Q I q => h.run wh pins s σ H Q I (k _ _ _ q)⟩
theorem t_pure {k : Bool} {σ : L2.St} {Q : Bool → Hp → Prop} (H : Hp) (h : tG (relE b Bool) (M.pure k) σ H Q) : Q k H := by
  obtain ⟨F, w, I, p⟩ := h
  exact fin I p rfl
theorem ew_and (ha : ET X b a ta) (hc : EW X b (.BoolOp .And (c :: rest) pos) tc) : EW X b (.BoolOp .And (a :: c :: rest) pos) (mIf ta tc (M.pure false)) :=
  PW.weak (pw_and ha hc) fun σ H Q h => t_if (t := tG (relE b Bool) tc) (t' := fun _ H Q => Q false H) (fun _ q => q) t_pure h
theorem ew_or (ha : ET X b a ta) (hc : EW X b (.BoolOp .Or (c :: rest) pos) tc) : EW X b (.BoolOp .Or (a :: c :: rest) pos) (mIf ta (M.pure true) tc) :=
  PW.weak (pw_or ha hc) fun σ H Q h => t_if (t := fun _ H Q => Q true H) (t' := tG (relE b Bool) tc) t_pure (fun _ q => q) h
theorem EW.et (h : EW X b a ta) : ET X b a ta := L2.PW.pt h
theorem et_not (ha : ET X b a ta) : ET X b (.UnaryOp .Not a pos) (ta.bind fun k => M.pure (!k)) :=
  PT.weak (pt_not ha) fun σ H Q ⟨F, w, I, p⟩ => ⟨F, w, I, (Post.bind p).mono fun x H1 ⟨F1, w1, d, i1, r1, x1, p1⟩ => by
    obtain rfl : x = d := r1
    exact fin i1 p1 rfl⟩
theorem ed_if (ht : ET X b c ta) (ha : ED X b a ma) (hc : ED X b e mc) : ED X b (.IfExp c a e pos) (mIf ta ma mc) :=
  PE.weak (pe_ifExp ht ha hc) fun σ H Q h => t_if (t := tG (relD b) ma) (t' := tG (relD b) mc) (fun _ q => q) (fun _ q => q) h
theorem ef_if (ht : ET X b c ta) (ha : EF X b a ma) (hc : EF X b e mc) : EF X b (.IfExp c a e pos) (mIf ta ma mc) :=
  PE.weak (pe_ifExp ht ha hc) fun σ H Q h => t_if (t := tG (relF b) ma) (t' := tG (relF b) mc) (fun _ q => q) (fun _ q => q) h
/-- as values -/
def mBl (m : M D) (k : Bool → M D) : M D := m.bind fun d => match d with
  | .bl c => k c
  | _ => M.bad
theorem t_bl {k : Bool → M D} {σ : L2.St} {H : Hp} {Q : VK} {R : V → Hp → Prop} (h : tG (relD b) (mBl ma k) σ H Q) (hk : ∀ c H, tG (relD b) (k c) σ H Q → R (.bl c) H) : tG (relD b) ma σ H R := by
  obtain ⟨F, w, I, p⟩ := h
  refine ⟨F, w, I, (Post.bind p).mono fun x H1 ⟨F1, w1, d, i1, r1, x1, p1⟩ => ?_⟩
  have r1 : Rep b.g F1 x d := r1
  cases d with
  | bl c => cases r1; exact hk _ _ ⟨F1, w1, i1, p1⟩
  | _ => exact p1.elim
theorem v_pure {d : D} {v : V} {σ : L2.St} {Q : VK} (hr : ∀ F, Rep b.g F v d) {H : Hp} (h : tG (relD b) (M.pure d) σ H Q) : Q v H := by
  obtain ⟨F, w, I, p⟩ := h
  exact fin I p (hr _)
theorem ed_and1 (ha : ED X b a ma) {op} : ED X b (.BoolOp op [a] pos) ma := pe_one ha
theorem ed_and (ha : ED X b a ma) (hc : ED X b (.BoolOp .And (c :: rest) pos) mc) : ED X b (.BoolOp .And (a :: c :: rest) pos) (mBl ma fun k => if k = true then mc else M.pure (.bl false)) :=
  PE.weak (pe_and ha hc) fun σ H Q h => t_bl h fun k H1 q => ⟨k, rfl, by
    cases k with
    | true => rw [if_pos rfl] at q ⊢; exact q
    | false => rw [if_neg Bool.false_ne_true] at q ⊢; exact v_pure Rep.bl_ q⟩
where Rep.bl_ : ∀ F, Rep b.g F (.bl false) (.bl false) := fun _ => .bl _
theorem ed_or (ha : ED X b a ma) (hc : ED X b (.BoolOp .Or (c :: rest) pos) mc) : ED X b (.BoolOp .Or (a :: c :: rest) pos) (mBl ma fun k => if k = true then M.pure (.bl true) else mc) :=
  PE.weak (pe_or ha hc) fun σ H Q h => t_bl h fun k H1 q => ⟨k, rfl, by
    cases k with
    | true => rw [if_pos rfl] at q ⊢; exact v_pure (fun _ => .bl _) q
    | false => rw [if_neg Bool.false_ne_true] at q ⊢; exact q⟩
theorem ed_not (ha : ED X b a ma) : ED X b (.UnaryOp .Not a pos) (mBl ma fun k => M.pure (.bl (!k))) :=
  PE.weak (pe_not ha) fun σ H Q h => t_bl h fun k H1 q => ⟨k, rfl, v_pure (fun _ => .bl _) q⟩
end

/-! ### subscripts, slices -/
section
variable {X : Cx} {b : B} {pos p2 : Pos} {a c : Expr} {ma mc : M D} {lo hi : Option Expr} {ml mh : M (Option Int)}
def fIx : D → D → Option D
  | .lst ds, .int i => atI ds i
  | .tup ds, .int i => atI ds i
  | _, _ => none
theorem Reps.at {g : G} {F : Hp} {vs : List V} {ds : List D} {i : Int} {d : D} (h : Reps g F vs ds) (e : atI ds i = some d) : ∃ v, atI vs i = some v ∧ Rep g F v d := by
  unfold atI at e ⊢
  rw [h.length]
  cases q : ixN ds.length i with
  | none => rw [q] at e; cases e
  | some j =>
    rw [q] at e
    obtain ⟨v, h1, h2⟩ := h.get (show ds[j]? = some d from e)
    exact ⟨v, h1, h2⟩
theorem ed_ix (hK : X.K = b.g.K) (ha : ER X b a ma) (hc : ED X b c mc) (hs : PlainIx c := by intro _ _; rfl) : ED X b (.Subscript a c pos) (mOp fIx ma mc) := by
  refine PE.weak (pe_ix ix_seq ha hc hs) (op_RD fun F H σ w x y d e z Q i rx ry hz p => ?_)
  unfold fIx at hz
  split at hz
  · obtain ⟨l, vs, rfl, hl, rl⟩ := relR.lst rx i.sub
    cases ry
    obtain ⟨v, hv, rv⟩ := rl.at hz
    exact .inl ⟨l, vs, _, v, rfl, rfl, .of hl, hv, fin i p rv⟩
  · rcases rx with rx | ⟨_, _, _, _, t⟩
    · cases rx with
      | tup ht rl =>
        cases ry
        obtain ⟨v, hv, rv⟩ := rl.at hz
        exact .inr (.inl ⟨_, _, _, v, rfl, rfl, SqT.of (i.sub _ _ ht), hv, fin i p rv⟩)
    · cases t
  · cases hz
def mPart (m : M D) : M (Option Int) := m.bind fun d => match d with
  | .int i => M.pure (some i)
  | _ => M.bad
theorem PO.weak {X : Cx} {e : Option Expr} {t t' : TO} (h : PO X e t) (k : ∀ σ H Q, t' σ H Q → t σ H Q) : PO X e t' := ⟨fun pins s σ H Q I q => h.run pins s σ H Q I (k _ _ _ q)⟩
theorem eo_none : EO X b none (M.pure none) := PO.weak po_none fun σ H Q ⟨F, w, I, p⟩ => fin I p rfl
theorem eo_some (ha : ED X b a ma) : EO X b (some a) (mPart ma) := PO.weak (po_some ha) fun σ H Q ⟨F, w, I, p⟩ => ⟨F, w, I, (Post.bind p).mono fun x H1 ⟨F1, w1, d, i1, r1, x1, p1⟩ => by
  have r1 : Rep b.g F1 x d := r1
  cases d with
  | int i => cases r1; exact ⟨_, rfl, fin i1 p1 rfl⟩
  | _ => exact p1.elim⟩
/-- xs[lo:hi] -/
def cut {α : Type} (xs : List α) (lo hi : Option Int) : List α := (xs.drop (HT.sIx xs.length 0 lo)).take (HT.sIx xs.length xs.length hi - HT.sIx xs.length 0 lo)
theorem Reps.cut {g : G} {F : Hp} {vs : List V} {ds : List D} (h : Reps g F vs ds) (lo hi : Option Int) : Reps g F (cutV vs lo hi) (cut ds lo hi) := by
  unfold cutV FP.cut
  rw [h.length]
  exact (h.drop _).take _
def mSlL (m : M D) (l h : M (Option Int)) : M D := m.bind fun d => l.bind fun i => h.bind fun j => match d with
  | .lst ds => M.pure (.lst (cut ds i j))
  | _ => M.bad
def mSlT (m : M D) (l h : M (Option Int)) : M D := m.bind fun d => l.bind fun i => h.bind fun j => match d with
  | .tup ds => M.pure (.tup (cut ds i j))
  | _ => M.bad
theorem ef_slL (ha : ER X b a ma) (hl : EO X b lo ml) (hh : EO X b hi mh) : EF X b (.Subscript a (.Slice lo hi none p2) pos) (mSlL ma ml mh) :=
  PE.weak (pe_slice sl_list ha hl hh) fun σ H Q ⟨F, w, I, p⟩ => ⟨F, w, I, (Post.bind p).mono fun x H1 ⟨F1, w1, d, i1, r1, x1, p1⟩ => ⟨F1, w1, i1, (Post.bind p1).mono fun l H2 ⟨F2, w2, dl, i2, r2, x2, p2⟩ =>
    ⟨F2, w2, i2, (Post.bind p2).mono fun h H3 ⟨F3, w3, dh, i3, r3, x3, p3⟩ => by
    obtain rfl : l = dl := r2
    obtain rfl : h = dh := r3
    cases d with
    | lst ds =>
      obtain ⟨q, vs, rfl, hl, rl⟩ := relR.lst (relR.ext (relR.ext r1 x2) x3) i3.sub
      exact ⟨q, vs, rfl, .of hl, fun z hz => fin_fresh i3 p3 hz (.lst upd_same (rl.cut _ _))⟩
    | _ => exact p3.elim⟩⟩⟩
theorem ed_slT (hK : X.K = b.g.K) (ha : ED X b a ma) (hl : EO X b lo ml) (hh : EO X b hi mh) : ED X b (.Subscript a (.Slice lo hi none p2) pos) (mSlT ma ml mh) :=
  PE.weak (pe_slice sl_tupA ha hl hh) fun σ H Q ⟨F, w, I, p⟩ => ⟨F, w, I, (Post.bind p).mono fun x H1 ⟨F1, w1, d, i1, r1, x1, p1⟩ => ⟨F1, w1, i1, (Post.bind p1).mono fun l H2 ⟨F2, w2, dl, i2, r2, x2, p2⟩ =>
    ⟨F2, w2, i2, (Post.bind p2).mono fun h H3 ⟨F3, w3, dh, i3, r3, x3, p3⟩ => by
    obtain rfl : l = dl := r2
    obtain rfl : h = dh := r3
    have r1 : Rep b.g F3 x d := Rep.mono (x2.ff.trans x3.ff) r1
    cases d with
    | tup ds =>
      cases r1 with
      | tup ht rl =>
        refine ⟨_, _, rfl, SqT.of (i3.sub _ _ ht), fun e => ?_, fun _ z hz => fin_new i3 p3 hz fun F' s e => .tup e ((rl.cut _ _).mono s)⟩
        have e2 : cut ds l h = ds := by
          unfold FP.cut
          rw [rl.length] at e
          rw [e.1, e.2, List.drop_zero, Nat.sub_zero, List.take_length]
        rw [show (match D.tup ds with | .tup ds => (M.pure (.tup (cut ds l h)) : M D) | _ => M.bad) = M.pure (.tup (cut ds l h)) from rfl, e2] at p3
        exact fin i3 p3 (Rep.tup ht rl)
    | _ => exact p3.elim⟩⟩⟩
end
end FP


set_option Elab.async false
set_option linter.all false
set_option maxRecDepth 100000
set_option maxHeartbeats 2000000
/-! FP4: built-ins, what is walked, comprehensions. -/
namespace FP
open PySem PySem.Spec PyProof.Rows L2

/-! ### calls of built-ins -/
/-- the names of built-ins that stay -/
structure Bl (mg : Str → Option Value) : Prop where
  len : mg "len" = none
  range : mg "range" = none
  tuple : mg "tuple" = none
  list : mg "list" = none
  sum : mg "sum" = none
  abs : mg "abs" = none
  int : mg "int" = none
  min : mg "min" = none
  max : mg "max" = none
  any : mg "any" = none
  all : mg "all" = none
  sorted : mg "sorted" = none
  set : mg "set" = none
  dict : mg "dict" = none
  isinst : mg "isinstance" = none
  str : mg "str" = none
section
variable {X : Cx} {b : B} {p pos : Pos} {a c : Expr} {ma mc : M D}
theorem t_one {α : Type} {rel : Rl b V D} {f : D → Option D} {rel' : Rl b V D} {r : List V → Hp → VK → Prop} (hf : ∀ (F H0 H : Hp) (σ : L2.St) (w : W) (x : V) (d z : D) (Q : VK), b.Inv F σ H w → rel.r H0 F H x d → f d = some z → Post rel' σ F H w (.ok z w) Q → r [x] H Q)
    (σ : L2.St) (H : Hp) (Q : VK) (h : tG rel' (mUn f ma) σ H Q) : tCB r (tCons (tG rel ma) tNil) σ H Q := by
  obtain ⟨F, w, I, p⟩ := h
  refine ⟨F, w, I, (Post.bind p).mono fun x H1 ⟨F1, w1, d, i1, r1, x1, p1⟩ => ?_⟩
  obtain ⟨z, hz, p2⟩ := Post.ofO p1
  exact hf _ _ _ _ _ _ _ _ _ i1 r1 hz p2
def fLen : D → Option D
  | .lst ds => some (.int ds.length)
  | .tup ds => some (.int ds.length)
  | _ => none
theorem ed_len (hK : X.K = b.g.K) (T : Bl X.mg) (hg : Gl X "len") (ha : ER X b a ma) (he : starEach (a :: []) X.env = (false, eval a X.env) :: starEach [] X.env := by rfl) : ED X b (.Call (.Name "len" p) [a] [] pos) (mUn fLen ma) := by
  refine PE.weak (pe_callB call_len_seq hg T.len PySem.boot_len (pa_cons ha pa_nil he) (he := he)) (t_one (α := Unit) fun F H0 H σ w x d z Q i rx hz q => ?_)
  unfold fLen at hz
  split at hz
  · cases hz
    obtain ⟨l, vs, rfl, hl, rl⟩ := relR.lst rx i.sub
    exact ⟨l, vs, rfl, .inl (.of hl), fin i q (by rw [rl.length]; exact Rep.int _)⟩
  · cases hz
    rcases rx with rx | ⟨_, _, _, _, t⟩
    · cases rx with
      | tup ht rl => exact ⟨_, _, rfl, .inr (SqT.of (i.sub _ _ ht)), fin i q (by rw [rl.length]; exact Rep.int _)⟩
    · cases t
  · cases hz
def fAbs : D → Option D
  | .int i => some (.int (if i < 0 then -i else i))
  | _ => none
theorem ed_abs (T : Bl X.mg) (hg : Gl X "abs") (ha : ED X b a ma) (he : starEach (a :: []) X.env = (false, eval a X.env) :: starEach [] X.env := by rfl) : ED X b (.Call (.Name "abs" p) [a] [] pos) (mUn fAbs ma) := by
  refine PE.weak (pe_callB call_abs hg T.abs (by decide +kernel) (pa_cons ha pa_nil he) (he := he)) (t_one (α := Unit) fun F H0 H σ w x d z Q i rx hz q => ?_)
  have rx : Rep b.g F x d := rx
  unfold fAbs at hz
  split at hz
  · cases hz; cases rx; exact ⟨_, rfl, fin i q (Rep.int _)⟩
  · cases hz
def fInt : D → Option D
  | .int i => some (.int i)
  | .bl k => some (.int (if k then 1 else 0))
  | _ => none
theorem ed_int1 (T : Bl X.mg) (hg : Gl X "int") (ha : ED X b a ma) (he : starEach (a :: []) X.env = (false, eval a X.env) :: starEach [] X.env := by rfl) : ED X b (.Call (.Name "int" p) [a] [] pos) (mUn fInt ma) := by
  refine PE.weak (pe_callTy call_int1 hg T.int (by decide +kernel) (pa_cons ha pa_nil he) (he := he)) (t_one (α := Unit) fun F H0 H σ w x d z Q i rx hz q => ?_)
  have rx : Rep b.g F x d := rx
  unfold fInt at hz
  split at hz
  · cases hz; cases rx; exact .inl ⟨_, rfl, fin i q (Rep.int _)⟩
  · cases hz; cases rx; exact .inr ⟨_, rfl, fin i q (Rep.int _)⟩
  · cases hz
def fTuple : D → Option D
  | .lst ds => some (.tup ds)
  | .tup ds => some (.tup ds)
  | _ => none
theorem ed_tuple (hK : X.K = b.g.K) (T : Bl X.mg) (hg : Gl X "tuple") (ha : ER X b a ma) (he : starEach (a :: []) X.env = (false, eval a X.env) :: starEach [] X.env := by rfl) : ED X b (.Call (.Name "tuple" p) [a] [] pos) (mUn fTuple ma) := by
  refine PE.weak (pe_callTy call_tuple_of hg T.tuple (by decide +kernel) (pa_cons ha pa_nil he) (he := he)) (t_one (α := Unit) fun F H0 H σ w x d z Q i rx hz q => ?_)
  unfold fTuple at hz
  split at hz
  · cases hz
    obtain ⟨l, vs, rfl, hl, rl⟩ := relR.lst rx i.sub
    exact ⟨l, vs, rfl, .inl ⟨.of hl, fun t ht => fin_new i q ht fun F' s e => .tup e (rl.mono s)⟩⟩
  · cases hz
    rcases rx with rx | ⟨_, _, _, _, t⟩
    · cases rx with
      | tup ht rl => exact ⟨_, _, rfl, .inr ⟨SqT.of (i.sub _ _ ht), fin i q (Rep.tup ht rl)⟩⟩
    · cases t
  · cases hz
def fList : D → Option D
  | .lst ds => some (.lst ds)
  | .tup ds => some (.lst ds)
  | _ => none
theorem ef_list (hK : X.K = b.g.K) (T : Bl X.mg) (hg : Gl X "list") (ha : ER X b a ma) (he : starEach (a :: []) X.env = (false, eval a X.env) :: starEach [] X.env := by rfl) : EF X b (.Call (.Name "list" p) [a] [] pos) (mUn fList ma) := by
  refine PE.weak (pe_callTy call_list_of hg T.list (by decide +kernel) (pa_cons ha pa_nil he) (he := he)) (t_one (α := Unit) fun F H0 H σ w x d z Q i rx hz q => ?_)
  unfold fList at hz
  split at hz
  · cases hz
    obtain ⟨l, vs, rfl, hl, rl⟩ := relR.lst rx i.sub
    exact ⟨l, vs, rfl, .inl (.of hl), fun t ht => fin_fresh i q ht (.lst upd_same rl)⟩
  · cases hz
    rcases rx with rx | ⟨_, _, _, _, t⟩
    · cases rx with
      | tup ht rl => exact ⟨_, _, rfl, .inr (SqT.of (i.sub _ _ ht)), fun t ht => fin_fresh i q ht (.lst upd_same rl)⟩
    · cases t
  · cases hz
/-- all ints -/
def ints? : List D → Option (List Int)
  | [] => some []
  | .int i :: r => (ints? r).map (i :: ·)
  | _ :: _ => none
theorem ints?_eq : ∀ {ds : List D} {ns : List Int}, ints? ds = some ns → ds = ns.map D.int
  | [], ns, h => by cases h; rfl
  | d :: r, ns, h => by
    cases d with
    | int i =>
      unfold ints? at h
      cases e : ints? r with
      | none => rw [e] at h; cases h
      | some ms =>
        rw [e] at h
        cases h
        rw [ints?_eq e]; rfl
    | _ => cases h
@[simp] theorem ints?_map (ns : List Int) : ints? (ns.map D.int) = some ns := by
  induction ns with
  | nil => rfl
  | cons n ns ih => show (ints? (ns.map D.int)).map (n :: ·) = _; rw [ih]; rfl
def bls? : List D → Option (List Bool)
  | [] => some []
  | .bl i :: r => (bls? r).map (i :: ·)
  | _ :: _ => none
theorem bls?_eq : ∀ {ds : List D} {ns : List Bool}, bls? ds = some ns → ds = ns.map D.bl
  | [], ns, h => by cases h; rfl
  | d :: r, ns, h => by
    cases d with
    | bl i =>
      unfold bls? at h
      cases e : bls? r with
      | none => rw [e] at h; cases h
      | some ms =>
        rw [e] at h
        cases h
        rw [bls?_eq e]; rfl
    | _ => cases h
@[simp] theorem bls?_map (ns : List Bool) : bls? (ns.map D.bl) = some ns := by
  induction ns with
  | nil => rfl
  | cons n ns ih => show (bls? (ns.map D.bl)).map (n :: ·) = _; rw [ih]; rfl
def fSum : D → Option D
  | .lst ds => (ints? ds).map fun ns => .int ns.sum
  | _ => none
theorem ed_sum (hc : X.calm = true) (T : Bl X.mg) (hg : Gl X "sum") (ha : ER X b a ma) (he : starEach (a :: []) X.env = (false, eval a X.env) :: starEach [] X.env := by rfl) : ED X b (.Call (.Name "sum" p) [a] [] pos) (mUn fSum ma) := by
  refine PE.weak (pe_callB (cr_sum hc) hg T.sum (by decide +kernel) (pa_cons ha pa_nil he) (he := he)) (t_one (α := Unit) fun F H0 H σ w x d z Q i rx hz q => ?_)
  unfold fSum at hz
  split at hz
  · rename_i ds
    cases e : ints? ds with
    | none => rw [e] at hz; cases hz
    | some ns =>
      rw [e] at hz; cases hz
      obtain ⟨l, vs, rfl, hl, rl⟩ := relR.lst rx i.sub
      rw [ints?_eq e] at rl
      rw [rl.of_ints] at hl
      exact ⟨l, ns, rfl, .of hl, fin i q (Rep.int _)⟩
  · cases hz
def fAny : D → Option D
  | .lst ds => (bls? ds).map fun ns => .bl (ns.any id)
  | _ => none
def fAll : D → Option D
  | .lst ds => (bls? ds).map fun ns => .bl (ns.all id)
  | _ => none
theorem ed_any (hc : X.calm = true) (T : Bl X.mg) (hg : Gl X "any") (ha : ER X b a ma) (he : starEach (a :: []) X.env = (false, eval a X.env) :: starEach [] X.env := by rfl) : ED X b (.Call (.Name "any" p) [a] [] pos) (mUn fAny ma) := by
  refine PE.weak (pe_callB (cr_any hc) hg T.any (by decide +kernel) (pa_cons ha pa_nil he) (he := he)) (t_one (α := Unit) fun F H0 H σ w x d z Q i rx hz q => ?_)
  unfold fAny at hz
  split at hz
  · rename_i ds
    cases e : bls? ds with
    | none => rw [e] at hz; cases hz
    | some ns =>
      rw [e] at hz; cases hz
      obtain ⟨l, vs, rfl, hl, rl⟩ := relR.lst rx i.sub
      rw [bls?_eq e] at rl
      rw [rl.of_bls] at hl
      exact ⟨l, ns, rfl, .of hl, fin i q (Rep.bl _)⟩
  · cases hz
theorem ed_all (hc : X.calm = true) (T : Bl X.mg) (hg : Gl X "all") (ha : ER X b a ma) (he : starEach (a :: []) X.env = (false, eval a X.env) :: starEach [] X.env := by rfl) : ED X b (.Call (.Name "all" p) [a] [] pos) (mUn fAll ma) := by
  refine PE.weak (pe_callB (cr_all hc) hg T.all (by decide +kernel) (pa_cons ha pa_nil he) (he := he)) (t_one (α := Unit) fun F H0 H σ w x d z Q i rx hz q => ?_)
  unfold fAll at hz
  split at hz
  · rename_i ds
    cases e : bls? ds with
    | none => rw [e] at hz; cases hz
    | some ns =>
      rw [e] at hz; cases hz
      obtain ⟨l, vs, rfl, hl, rl⟩ := relR.lst rx i.sub
      rw [bls?_eq e] at rl
      rw [rl.of_bls] at hl
      exact ⟨l, ns, rfl, .of hl, fin i q (Rep.bl _)⟩
  · cases hz
end

/-! ### targets -/
inductive Tg where
  | nm (i : Nat) | tp (is : List Nat)
def Tg.slots : Tg → List Nat
  | .nm i => [i]
  | .tp is => is
/-- what is stored -/
def asgL : List Nat → List D → List Slot → Option (List Slot)
  | [], [], Γ => some Γ
  | i :: is, d :: ds, Γ => if i < Γ.length then asgL is ds (Γ.set i (.frz d)) else none
  | _, _, _ => none
def asgT : Tg → D → List Slot → Option (List Slot)
  | .nm i, d, Γ => if i < Γ.length then some (Γ.set i (.frz d)) else none
  | .tp is, .tup ds, Γ => asgL is ds Γ
  | _, _, _ => none
def gNs : List Nat → TGs
  | [] => gNil
  | i :: is => gCons (gName i) (gNs is)
def gT (K : PySem.W.Frag) : Tg → TG
  | .nm i => gName i
  | .tp is => gTup K is.length (gNs is)
section
variable {g : G} {F0 H0 F H : Hp} {σ : L2.St} {w : W} {i : Nat} {d : D} {v : V}
theorem Inv2.set (I : Inv2 g F0 H0 F σ H w) (hi : i < w.Γ.length) (r : Rep g F v d) : Inv2 g F0 H0 F (σ.set i (some v)) H ⟨w.Γ.set i (.frz d), w.S⟩ := by
  have hl : i < σ.length := by rw [I.len]; exact hi
  have old : ∀ (j : Nat) (e : D), (w.Γ.set i (.frz d))[j]? = some (.own e) → i ≠ j ∧ w.Γ[j]? = some (.own e) := fun j e h => by
    by_cases q : i = j
    · subst q
      rw [List.getElem?_set_self hi] at h; cases h
    · rw [List.getElem?_set_ne q] at h; exact ⟨q, h⟩
  refine { I.toInv0 with len := by simp [I.len], slot := fun j s h => ?_, dis := fun j k c d1 d2 h1 h2 h3 h4 => ?_ }
  · by_cases q : i = j
    · subst q
      rw [List.getElem?_set_self hi] at h
      cases h
      exact ⟨v, List.getElem?_set_self hl, r⟩
    · rw [List.getElem?_set_ne q] at h ⊢
      exact I.slot j s h
  · obtain ⟨n1, e1⟩ := old _ _ h1
    obtain ⟨n2, e2⟩ := old _ _ h2
    rw [List.getElem?_set_ne n1] at h3
    rw [List.getElem?_set_ne n2] at h4
    exact I.dis j k c d1 d2 e1 e2 h3 h4
theorem Own.set {Γ : List Slot} {a : Addr} (h : Own (σ.set i (some v)) (Γ.set i (.frz d)) a) : Own σ Γ a := by
  obtain ⟨j, e, h1, h2⟩ := h
  by_cases q : i = j
  · subst q
    by_cases hi : i < Γ.length
    · rw [List.getElem?_set_self hi] at h1; cases h1
    · rw [List.getElem?_eq_none (by simpa using hi)] at h1; cases h1
  · rw [List.getElem?_set_ne q] at h1
    rw [List.getElem?_set_ne q] at h2
    exact ⟨j, e, h1, h2⟩
theorem wipe_set {σ : L2.St} {x : Option V} : ∀ {vs : List Nat} {i : Nat}, i ∈ vs → wipe (σ.set i x) vs = wipe σ vs
  | v :: vs, i, h => by
    unfold wipe
    by_cases e : i ∈ vs
    · rw [wipe_set e]
    · have : i = v := by
        rcases List.mem_cons.mp h with h | h
        · exact h
        · exact absurd h e
      subst this
      have hs : ∀ (us : List Nat) (τ : L2.St), i ∉ us → wipe (τ.set i x) us = (wipe τ us).set i x := by
        intro us τ
        induction us with
        | nil => intro _; rfl
        | cons u us ih =>
          intro hn
          unfold wipe
          rw [ih (fun z => hn (List.mem_cons_of_mem _ z)), List.set_comm]
          intro z; subst z; exact hn List.mem_cons_self
      rw [hs vs σ e, List.set_set]
end
/-- a target's store: the new slots, what it does not touch -/
theorem gNs_ok {b : B} {H : Hp} {us : List Nat} : ∀ {is : List Nat} {ds : List D} {vs : List V} {F : Hp} {σ : L2.St} {w : W} {Γ : List Slot} {Q : L2.St → Hp → Prop}, b.Inv F σ H w → Reps b.g F vs ds → asgL is ds w.Γ = some Γ → (∀ i ∈ is, i ∈ us) →
    (∀ σ', b.Inv F σ' H ⟨Γ, w.S⟩ → (∀ a, Own σ' Γ a → Own σ w.Γ a) → wipe σ' us = wipe σ us → Q σ' H) → gNs is vs σ H Q
  | [], [], _, F, σ, w, Γ, Q, I, r, h, hu, k => by
    cases r
    cases h
    exact ⟨rfl, k σ I (fun _ h => h) rfl⟩
  | i :: is, d :: ds, _, F, σ, w, Γ, Q, I, r, h, hu, k => by
    cases r with
    | @cons v vs _ _ rv rr =>
      unfold asgL at h
      split at h
      · rename_i hi
        refine ⟨v, vs, rfl, ?_⟩
        refine gNs_ok (w := ⟨w.Γ.set i (.frz d), w.S⟩) (I.set hi rv) rr h (fun j hj => hu j (List.mem_cons_of_mem _ hj)) fun σ' I' o e => k σ' I' (fun a z => (o a z).set) ?_
        rw [e, wipe_set (hu i List.mem_cons_self)]
      · cases h
  | [], _ :: _, _, F, σ, w, Γ, Q, I, r, h, hu, k => by cases h
  | _ :: _, [], _, F, σ, w, Γ, Q, I, r, h, hu, k => by cases h
theorem gT_ok {b : B} {K : PySem.W.Frag} (hK : K = b.g.K) {tg : Tg} {d : D} {v : V} {F H : Hp} {σ : L2.St} {w : W} {Γ : List Slot} {us : List Nat} {Q : L2.St → Hp → Prop} (I : b.Inv F σ H w) (r : Rep b.g F v d) (h : asgT tg d w.Γ = some Γ) (hu : ∀ i ∈ tg.slots, i ∈ us)
    (k : ∀ σ', b.Inv F σ' H ⟨Γ, w.S⟩ → (∀ a, Own σ' Γ a → Own σ w.Γ a) → wipe σ' us = wipe σ us → Q σ' H) : gT K tg v σ H Q := by
  cases tg with
  | nm i =>
    have h : (if i < w.Γ.length then some (w.Γ.set i (.frz d)) else none) = some Γ := h
    obtain ⟨hi, rfl⟩ := gr h
    exact k _ (I.set hi r) (fun a z => z.set) (wipe_set (hu i List.mem_cons_self))
  | tp is =>
    cases d with
    | tup ds =>
      cases r with
      | @tup a vs _ ht rr =>
        refine ⟨_, _, rfl, SqT.of (I.sub _ _ ht), ?_, gNs_ok (us := us) I rr h hu k⟩
        rw [rr.length]
        have : ∀ {is : List Nat} {ds : List D} {Γ Γ' : List Slot}, asgL is ds Γ = some Γ' → ds.length = is.length := by
          intro is
          induction is with
          | nil => intro ds Γ Γ' h; cases ds <;> first | rfl | cases h
          | cons i is ih =>
            intro ds Γ Γ' h
            cases ds with
            | nil => cases h
            | cons d ds =>
              unfold asgL at h
              split at h
              · rw [List.length_cons, List.length_cons, ih h]
              · cases h
        exact this h
    | _ => cases h

/-! ### what is walked -/
/-- from F, H on, as long as things stand, J gives these -/
def WalkH (g : G) (J : It) (F H : Hp) (ds : List D) : Prop := ∀ (F1 H1 : Hp) (i : Nat), Same F F1 → Same F1 H1 → (∀ a o, H a = some o → a ≠ g.s → a ≠ g.c → H1 a = some o) →
  (∀ d, ds[i]? = some d → J.go i H1 ∧ ∀ x H', J.yld i H1 x H' → H' = H1 ∧ Rep g F1 x d) ∧ (i = ds.length → J.stop i H1)
def WalkF (g : G) (J : It) (F : Hp) (ds : List D) : Prop := ∀ (F1 H1 : Hp) (i : Nat), Same F F1 → Same F1 H1 →
  (∀ d, ds[i]? = some d → J.go i H1 ∧ ∀ x H', J.yld i H1 x H' → H' = H1 ∧ Rep g F1 x d) ∧ (i = ds.length → J.stop i H1)
def relH (b : B) : Rl b It (List D) := ⟨fun _ F' H' J ds => WalkH b.g J F' H' ds, fun _ h => h⟩
def relL (b : B) : Rl b It (List D) := ⟨fun _ F' _ J ds => WalkF b.g J F' ds, fun _ h => h⟩
/-- for a comprehension; for a loop -/
def EH (X : Cx) (b : B) (tg e : Expr) (m : M (List D)) : Prop := PI X tg e (tG (relH b) m)
def EL (X : Cx) (b : B) (tg e : Expr) (m : M (List D)) : Prop := PI X tg e (tG (relL b) m)
theorem PI.weak {X : Cx} {tg e : Expr} {t t' : TI} (h : PI X tg e t) (k : ∀ σ H Q, t' σ H Q → t σ H Q) : PI X tg e t' := ⟨fun pins s σ H Q I q => h.run pins s σ H Q I (k _ _ _ q)⟩
theorem EL.eh {X : Cx} {b : B} {tg e : Expr} {m : M (List D)} (h : EL X b tg e m) : EH X b tg e m :=
  PI.weak h fun σ H Q ⟨F, w, i, p⟩ => ⟨F, w, i, by
    generalize m w = r at p ⊢
    cases r with
    | ok d w' => exact fun F' H' v x i r => p F' H' v x i fun F1 H1 j h1 h2 _ => r F1 H1 j h1 h2
    | exc c x w' => exact p
    | bad => exact p⟩
section
variable {X : Cx} {b : B} {p pos : Pos} {tg a c : Expr} {ma mc : M D}
def lstOf : D → Option (List D)
  | .lst ds => some ds
  | _ => none
def tupOf : D → Option (List D)
  | .tup ds => some ds
  | _ => none
def mIt (f : D → Option (List D)) (m : M D) : M (List D) := m.bind fun d => ofO (f d)
theorem Itl.ok {K : PySem.W.Frag} {g : G} {l : Addr} {F1 H1 : Hp} {vs : List V} {ds : List D} (uniq : ∀ xs, SqL K H1 l xs → xs = vs) (hl : SqL K H1 l vs) (r : Reps g F1 vs ds) (i : Nat) :
    (∀ d, ds[i]? = some d → (Itl K l).go i H1 ∧ ∀ x H', (Itl K l).yld i H1 x H' → H' = H1 ∧ Rep g F1 x d) ∧ (i = ds.length → (Itl K l).stop i H1) := by
  refine ⟨fun d h => ?_, fun h => ⟨vs, hl, by rw [r.length, h]; exact Nat.le_refl _⟩⟩
  obtain ⟨v, h1, h2⟩ := r.get h
  refine ⟨⟨vs, v, hl, h1⟩, fun x H' ⟨e, y⟩ => ⟨e, ?_⟩⟩
  have := y vs hl
  rw [h1] at this
  cases this
  exact h2
theorem el_list (ha : ED X b a ma) : EL X b tg a (mIt lstOf ma) :=
  PI.weak (pi_list ha) fun σ H Q ⟨F, w, I, p⟩ => ⟨F, w, I, (Post.bind p).mono fun x H1 ⟨F1, w1, d, i1, r1, x1, p1⟩ => by
    obtain ⟨ds, hd, p2⟩ := Post.ofO p1
    have r1 : Rep b.g F1 x d := r1
    cases d with
    | lst es =>
      cases hd
      cases r1 with
      | @lst l vs _ hl rl =>
        refine ⟨l, rfl, ⟨vs, .of (i1.sub _ _ hl)⟩, fin i1 p2 fun F2 H2 i s1 s2 => ?_⟩
        have e2 : H2 l = some (.lst vs) := s2 _ _ (s1 _ _ hl)
        refine ⟨fun d h => ?_, fun h => ⟨vs, .of e2, by rw [rl.length, h]; exact Nat.le_refl _⟩⟩
        obtain ⟨v, h1, h2⟩ := rl.get h
        exact ⟨⟨vs, v, .of e2, h1⟩, fun x H' ⟨e, y⟩ => ⟨e, by
          have := y vs (.of e2)
          rw [h1] at this
          cases this
          exact h2.mono s1⟩⟩
    | _ => cases hd⟩
theorem eh_list (ha : ER X b a ma) : EH X b tg a (mIt lstOf ma) :=
  PI.weak (pi_list ha) fun σ H Q ⟨F, w, I, p⟩ => ⟨F, w, I, (Post.bind p).mono fun x H1 ⟨F1, w1, d, i1, r1, x1, p1⟩ => by
    obtain ⟨ds, hd, p2⟩ := Post.ofO p1
    cases d with
    | lst es =>
      cases hd
      have st := i1.st.fs
      have : ∃ l vs, x = .ref l ∧ H1 l = some (.lst vs) ∧ Reps b.g F1 vs ds ∧ l ≠ b.g.s ∧ l ≠ b.g.c := by
        rcases r1 with r1 | ⟨a, rfl, n1, n2, t⟩
        · cases r1 with
          | lst h r =>
            refine ⟨_, _, rfl, i1.sub _ _ h, r, fun e => ?_, fun e => ?_⟩
            · rw [e, i1.st.fs] at h; cases h
            · rw [e, i1.st.fc] at h; cases h
        · cases t with
          | lst h r => exact ⟨_, _, rfl, h, r, n1, n2⟩
      obtain ⟨l, vs, rfl, hl, rl, n1, n2⟩ := this
      refine ⟨l, rfl, ⟨vs, .of hl⟩, fin i1 p2 fun F2 H2 i s1 s2 k => ?_⟩
      have e2 : H2 l = some (.lst vs) := k _ _ hl n1 n2
      refine ⟨fun d h => ?_, fun h => ⟨vs, .of e2, by rw [rl.length, h]; exact Nat.le_refl _⟩⟩
      obtain ⟨v, h1, h2⟩ := rl.get h
      exact ⟨⟨vs, v, .of e2, h1⟩, fun x H' ⟨e, y⟩ => ⟨e, by
        have := y vs (.of e2)
        rw [h1] at this
        cases this
        exact h2.mono s1⟩⟩
    | _ => cases hd⟩
theorem el_tup (hK : X.K = b.g.K) (ha : ED X b a ma) : EL X b tg a (mIt tupOf ma) :=
  PI.weak (pi_tup ha) fun σ H Q ⟨F, w, I, p⟩ => ⟨F, w, I, (Post.bind p).mono fun x H1 ⟨F1, w1, d, i1, r1, x1, p1⟩ => by
    obtain ⟨ds, hd, p2⟩ := Post.ofO p1
    have r1 : Rep b.g F1 x d := r1
    cases d with
    | tup es =>
      cases hd
      cases r1 with
      | @tup l vs _ hl rl =>
        refine ⟨l, rfl, ⟨vs, SqT.of (i1.sub _ _ hl)⟩, fin i1 p2 fun F2 H2 i s1 s2 => ?_⟩
        have e2 : SqT X.K H2 l vs := SqT.of ((s1.trans s2) _ _ hl)
        refine ⟨fun d h => ?_, fun h => ⟨vs, e2, by rw [rl.length, h]; exact Nat.le_refl _⟩⟩
        obtain ⟨v, h1, h2⟩ := rl.get h
        exact ⟨⟨vs, v, e2, h1⟩, fun x H' ⟨e, y⟩ => ⟨e, by
          have := y vs e2
          rw [h1] at this
          cases this
          exact h2.mono s1⟩⟩
    | _ => cases hd⟩
/-- range -/
def rng (lo : Int) (n : Nat) : List D := (List.range n).map fun k => .int (lo + (k : Nat))
theorem rng_get {lo : Int} {n i : Nat} {d : D} (h : (rng lo n)[i]? = some d) : i < n ∧ d = .int (lo + (i : Nat)) := by
  unfold rng at h
  rw [List.getElem?_map] at h
  by_cases hi : i < n
  · rw [List.getElem?_range hi] at h
    exact ⟨hi, (Option.some.inj h).symm⟩
  · rw [List.getElem?_eq_none (by simpa using hi)] at h; cases h
theorem walk_rng {g : G} {lo : Int} {n : Nat} {F : Hp} : WalkF g (Itr lo n) F (rng lo n) := fun F1 H1 i _ _ =>
  ⟨fun d h => by
    obtain ⟨hi, rfl⟩ := rng_get h
    exact ⟨hi, fun x H' ⟨e1, e2⟩ => ⟨e1, by rw [e2]; exact Rep.int _⟩⟩, fun h => by
    have : (rng lo n).length = n := by simp [rng]
    rw [this] at h
    exact Nat.le_of_eq h.symm⟩
def rng1 : D → Option (List D)
  | .int j => if -(2 ^ 62) ≤ j ∧ j < 2 ^ 62 then some (rng 0 j.toNat) else none
  | _ => none
def mRng2 (ma mc : M D) : M (List D) := ma.bind fun x => mc.bind fun y => match x, y with
  | .int i, .int j => if -(2 ^ 62) ≤ i ∧ i < 2 ^ 62 ∧ -(2 ^ 62) ≤ j ∧ j < 2 ^ 62 then M.pure (rng i (j - i).toNat) else M.bad
  | _, _ => M.bad
theorem el_range1 (T : Bl X.mg) (hg : Gl X "range") (ha : ED X b a ma) (he : starEach (a :: []) X.env = (false, eval a X.env) :: starEach [] X.env := by rfl) : EL X b tg (.Call (.Name "range" p) [a] [] pos) (mIt rng1 ma) :=
  PI.weak (pi_range1 hg T.range (pa_cons ha pa_nil he) he) fun σ H Q ⟨F, w, I, p⟩ => ⟨F, w, I, (Post.bind p).mono fun x H1 ⟨F1, w1, d, i1, r1, x1, p1⟩ => by
    obtain ⟨ds, hd, p2⟩ := Post.ofO p1
    have r1 : Rep b.g F1 x d := r1
    unfold rng1 at hd
    split at hd
    · obtain ⟨⟨h1, h2⟩, rfl⟩ := gr hd
      cases r1
      exact ⟨_, rfl, h1, h2, fin i1 p2 walk_rng⟩
    · cases hd⟩
theorem el_range2 (T : Bl X.mg) (hg : Gl X "range") (ha : ED X b a ma) (hc : ED X b c mc) (he : starEach (a :: [c]) X.env = (false, eval a X.env) :: starEach [c] X.env := by rfl) (he2 : starEach (c :: []) X.env = (false, eval c X.env) :: starEach [] X.env := by rfl)
    (hs : starEach [a, c] X.env = [(false, eval a X.env), (false, eval c X.env)] := by rfl) (hs2 : starEach [c] X.env = [(false, eval c X.env)] := by rfl) : EL X b tg (.Call (.Name "range" p) [a, c] [] pos) (mRng2 ma mc) :=
  PI.weak (pi_range2 hg T.range (pa_cons ha (pa_cons hc pa_nil he2) he) hs hs2) fun σ H Q ⟨F, w, I, p⟩ => ⟨F, w, I, (Post.bind p).mono fun x H1 ⟨F1, w1, d, i1, r1, x1, p1⟩ => ⟨F1, w1, i1, (Post.bind p1).mono fun y H2 ⟨F2, w2, e, i2, r2, x2, p2⟩ => by
    have r1 : Rep b.g F1 x d := r1
    have r2 : Rep b.g F2 y e := r2
    cases d with
    | int i =>
      cases e with
      | int j =>
        obtain ⟨h, p3⟩ := Post.ite p2
        cases r1; cases r2
        exact ⟨_, _, rfl, h, fin i2 p3 walk_rng⟩
      | _ => exact p2.elim
    | _ => exact p2.elim⟩⟩
end

/-! ### list comprehensions -/
def wipeΓ (Γ : List Slot) : List Nat → List Slot
  | [] => Γ
  | v :: vs => (wipeΓ Γ vs).set v .none
/-- nothing may be raised within -/
def nox {α : Type} (m : M α) : M α := fun w => match m w with
  | .ok a w' => .ok a w'
  | _ => .bad
/-- the items, one by one -/
def lcR (vs : List Nat) (tg : Tg) (mt : M Bool) (me : M D) : List D → List D → M (List D)
  | [], acc => M.pure acc
  | d :: ds, acc => fun w => match asgT tg d (wipeΓ w.Γ vs) with
    | none => .bad
    | some Γ => (nox mt ⟨Γ, w.S⟩).bind fun c => if c = true then (nox me).bind fun y => if acc.length < sizeLine then lcR vs tg mt me ds (acc ++ [y]) else M.bad else lcR vs tg mt me ds acc
def restore (Γ0 Γ : List Slot) (vs : List Nat) : List Slot := Γ.mapIdx fun i s => if i ∈ vs then Γ0.getD i .none else s
def mLc (vs : List Nat) (tg : Tg) (mi : M (List D)) (mt : M Bool) (me : M D) : M D := mi.bind fun ds w =>
  (lcR vs tg mt me ds [] w).bind fun acc w' => .ok (.lst acc) ⟨restore w.Γ w'.Γ vs, w'.S⟩
theorem wipeΓ_length (Γ : List Slot) : ∀ vs : List Nat, (wipeΓ Γ vs).length = Γ.length
  | [] => rfl
  | v :: vs => by unfold wipeΓ; rw [List.length_set, wipeΓ_length Γ vs]
theorem wipeΓ_get {Γ : List Slot} {i : Nat} {s : Slot} : ∀ {vs : List Nat}, (wipeΓ Γ vs)[i]? = some s → s = .none ∨ (Γ[i]? = some s ∧ i ∉ vs)
  | [], h => .inr ⟨h, by simp⟩
  | v :: vs, h => by
    unfold wipeΓ at h
    by_cases e : v = i
    · subst e
      by_cases hv : v < (wipeΓ Γ vs).length
      · rw [List.getElem?_set_self hv] at h; cases h; exact .inl rfl
      · rw [List.getElem?_eq_none (by simpa using hv)] at h; cases h
    · rw [List.getElem?_set_ne e] at h
      rcases wipeΓ_get h with h | ⟨h1, h2⟩
      · exact .inl h
      · exact .inr ⟨h1, by simp only [List.mem_cons, not_or]; exact ⟨fun z => e z.symm, h2⟩⟩
theorem wipe_get {σ : L2.St} {i : Nat} : ∀ {vs : List Nat}, i ∉ vs → (wipe σ vs)[i]? = σ[i]?
  | [], _ => rfl
  | v :: vs, h => by
    unfold wipe
    rw [List.getElem?_set_ne (fun e => h (by rw [e]; exact List.mem_cons_self)), wipe_get fun z => h (List.mem_cons_of_mem _ z)]
section
variable {g : G} {F0 H0 F H F1 H1 : Hp} {σ σ2 : L2.St} {w w1 : W} {vs : List Nat} {o : HO} {p : Addr}
theorem Inv2.wipe (I : Inv2 g F0 H0 F σ2 H w) (e : wipe σ2 vs = wipe σ vs) : Inv2 g F0 H0 F (wipe σ vs) H ⟨wipeΓ w.Γ vs, w.S⟩ := by
  have own : ∀ (j : Nat) (d : D), (wipeΓ w.Γ vs)[j]? = some (.own d) → w.Γ[j]? = some (.own d) ∧ j ∉ vs := fun j d h => by
    rcases wipeΓ_get h with h | h
    · cases h
    · exact h
  refine { I.toInv0 with len := ?_, slot := fun j s h => ?_, dis := fun j k c d1 d2 h1 h2 h3 h4 => ?_ }
  · rw [← e, wipe_length, I.len]; exact (wipeΓ_length _ _).symm
  · rcases wipeΓ_get h with h | ⟨h1, h2⟩
    · subst h; trivial
    · rw [← e, wipe_get h2]; exact I.slot j s h1
  · obtain ⟨a1, b1⟩ := own _ _ h1
    obtain ⟨a2, b2⟩ := own _ _ h2
    rw [← e, wipe_get b1] at h3
    rw [← e, wipe_get b2] at h4
    exact I.dis j k c d1 d2 a1 a2 h3 h4
theorem Own.wipe (e : L2.wipe σ2 vs = L2.wipe σ vs) {a : Addr} (h : Own (L2.wipe σ vs) (wipeΓ w.Γ vs) a) : Own σ2 w.Γ a := by
  obtain ⟨j, d, h1, h2⟩ := h
  rcases wipeΓ_get h1 with h | ⟨h3, h4⟩
  · cases h
  · rw [← e, wipe_get h4] at h2
    exact ⟨j, d, h3, h2⟩
/-- an object that nobody knows is changed -/
theorem Inv2.mut (I : Inv2 g F0 H0 F σ H w) (hF : F p = none) (h0 : H0 p = none) (n1 : p ≠ g.s) (n2 : p ≠ g.c) (ho : ¬ Own σ w.Γ p) : Inv2 g F0 H0 F σ (upd H p o) w := by
  have ne : ∀ a x, F a = some x → a ≠ p := fun a x h e => by subst e; rw [hF] at h; cases h
  refine { sub := fun a x h => by rw [upd_ne (ne a x h)]; exact I.sub a x h, g0 := I.g0, new := I.new, keep := fun a x h h1 h2 => ?_, st := I.st.new (fun a x ha h => ?_) fun _ _ h => h, b0 := I.b0, len := I.len, dis := I.dis, slot := fun j s h => ?_ }
  · rw [upd_ne (ne_of_none h h0)]; exact I.keep a x h h1 h2
  · rw [upd_ne]; exact h
    rcases ha with e | e <;> rw [e] <;> first | exact Ne.symm n1 | exact Ne.symm n2
  · cases s with
    | none => trivial
    | frz d => exact I.slot j _ h
    | own d =>
      obtain ⟨a, e1, h1, h2, t⟩ := I.slot j _ h
      refine ⟨a, e1, h1, h2, t.mono (Same.refl _) fun x q => ?_⟩
      rw [upd_ne]; exact q
      intro z; subst z; exact ho ⟨j, d, h, e1⟩
theorem Ext.mut (e : Ext g σ F H w F1 H1 w1) (hp : H p = none) : Ext g σ F H w F1 (upd H1 p o) w1 := by
  have n1 : g.s ≠ p := fun z => e.tr.1 (by rw [z]; exact hp)
  have n2 : g.c ≠ p := fun z => e.tr.2.1 (by rw [z]; exact hp)
  refine ⟨e.ff, e.new, fun a x h h1 h2 => ?_, e.own, e.tr.1, e.tr.2.1, ?_, ?_⟩
  · rw [upd_ne (ne_of_none h hp)]; exact e.keep a x h h1 h2
  · rw [upd_ne n1]; exact e.tr.2.2.1
  · rw [upd_ne n2]; exact e.tr.2.2.2
/-- another frame's slots, the same owners -/
theorem Ext.slots {σ' : L2.St} {w' w1' : W} (e : Ext g σ F H w F1 H1 w1) (h1 : ∀ a, Own σ w.Γ a → Own σ' w'.Γ a) (h2 : ∀ a, Own σ' w1'.Γ a → Own σ w1.Γ a) : Ext g σ' F H w' F1 H1 w1' :=
  ⟨e.ff, fun a x h => by
    rcases e.new a x h with h | h | h
    · exact .inl h
    · exact .inr (.inl h)
    · exact .inr (.inr (h1 a h)), e.keep, fun a h => h1 a (e.own a (h2 a h)), e.tr⟩
end
theorem restore_get {Γ0 Γ : List Slot} {vs : List Nat} {j : Nat} {s : Slot} (h : (restore Γ0 Γ vs)[j]? = some s) : (j ∈ vs ∧ s = Γ0.getD j .none) ∨ (j ∉ vs ∧ Γ[j]? = some s) := by
  unfold restore at h
  rw [List.getElem?_mapIdx] at h
  cases e : Γ[j]? with
  | none => rw [e] at h; cases h
  | some t =>
    rw [e] at h
    have h' : (if j ∈ vs then Γ0.getD j .none else t) = s := Option.some.inj h
    by_cases hj : j ∈ vs
    · rw [if_pos hj] at h'; exact .inl ⟨hj, h'.symm⟩
    · rw [if_neg hj] at h'; subst h'; exact .inr ⟨hj, rfl⟩
end FP


set_option Elab.async false
set_option linter.all false
set_option maxRecDepth 100000
set_option maxHeartbeats 2000000
/-! FP5: list comprehensions. -/
namespace FP
open PySem PySem.Spec PyProof.Rows L2
def WF : WX := fun _ _ _ _ => False
/-- within a comprehension nothing is let out -/
def B.nox (b : B) : B := { b with X := WF }
theorem PTs.weak {X : Cx} {e : List Expr} {t t' : TT} (h : PTs X e t) (k : ∀ σ H Q, t' σ H Q → t σ H Q) : PTs X e t' := ⟨fun pins s σ H Q I q => h.run pins s σ H Q I (k _ _ _ q)⟩
theorem tests_nil {X : Cx} {b : B} : PTs X [] (tG (relE b Bool) (M.pure true)) := PTs.weak pts_nil fun σ H Q h => by
  obtain ⟨F, w, I, p⟩ := h
  exact fin I p rfl
theorem tests_one {X : Cx} {b : B} {c : Expr} {m : M Bool} (h : ET X b c m) : PTs X [c] (tG (relE b Bool) m) := pts_one h
theorem Post.of_ok {α β : Type} {b : B} {rel : Rl b β α} {σ : L2.St} {F H : Hp} {w w' : W} {m : M α} {d : α} {Q : β → Hp → Prop} (h : m w = .ok d w')
    (k : ∀ F' H' v, Ext b.g σ F H w F' H' w' → b.Inv F' σ H' w' → rel.r H F' H' v d → Q v H') : Post rel σ F H w (m w) Q := by rw [h]; exact k
theorem nox_ok {α : Type} {m : M α} {w : W} {r : R α} (h : FP.nox m w = r) : (∃ a w', m w = .ok a w' ∧ r = .ok a w') ∨ r = .bad := by
  subst h
  unfold FP.nox
  cases e : m w with
  | ok a w' => exact .inl ⟨a, w', rfl, rfl⟩
  | exc _ _ _ => exact .inr rfl
  | bad => exact .inr rfl
/-- between two items -/
structure Lci (b : B) (vs : List Nat) (σ : L2.St) (F1 H1 : Hp) (w1 : W) (p : Addr) (Fc Hc : Hp) (wc : W) (acc : List D) : Prop where
  inv : ∃ σc, b.Inv Fc σc Hc wc ∧ wipe σc vs = wipe σ vs
  ff : Same F1 Fc
  new : ∀ a o, Fc a = some o → F1 a = some o ∨ H1 a = none ∨ Own (wipe σ vs) (wipeΓ w1.Γ vs) a
  keep : ∀ a o, H1 a = some o → a ≠ b.g.s → a ≠ b.g.c → Hc a = some o
  own : ∀ a, Own (wipe σ vs) (wipeΓ wc.Γ vs) a → Own (wipe σ vs) (wipeΓ w1.Γ vs) a
  lst : ∃ us, Hc p = some (.lst us) ∧ Reps b.g Fc us acc
  fp : Fc p = none
theorem Inv2.notOwn {g : G} {F0 H0 F H : Hp} {σ : L2.St} {w : W} {p : Addr} (i : Inv2 g F0 H0 F σ H w) (hp : H p = none) : ¬ Own σ w.Γ p := fun ⟨j, d, h1, h2⟩ => by
  obtain ⟨a, e1, _, _, t⟩ := i.slot j _ h1
  rw [h2] at e1
  cases e1
  obtain ⟨o, q⟩ := t.some
  rw [hp] at q; cases q
theorem Lci.step {b : B} {vs : List Nat} {σ σ2 : L2.St} {F1 H1 Fc Hc F4 H4 : Hp} {w1 wc w2 w4 : W} {p : Addr} {acc : List D} (L : Lci b vs σ F1 H1 w1 p Fc Hc wc acc) (hp : H1 p = none) (hs : wipe σ2 vs = wipe σ vs) (x : Ext b.g σ2 Fc Hc w2 F4 H4 w4) (i4 : b.Inv F4 σ2 H4 w4)
    (o2 : ∀ a, Own σ2 w2.Γ a → Own (wipe σ vs) (wipeΓ wc.Γ vs) a) (i1 : b.Inv F1 σ H1 w1) : Lci b vs σ F1 H1 w1 p F4 H4 w4 acc := by
  obtain ⟨us, hu, ru⟩ := L.lst
  obtain ⟨n1, n2⟩ := i1.st.nes hp
  have no := i1.notOwn hp
  refine ⟨⟨σ2, i4, hs⟩, L.ff.trans x.ff, fun a o h => ?_, fun a o h h1 h2 => x.keep a o (L.keep a o h h1 h2) h1 h2, fun a h => L.own a (o2 a (x.own a (h.wipe hs))), ⟨us, x.keep p _ hu n1 n2, ru.mono x.ff⟩, ?_⟩
  · rcases x.new a o h with h | h | h
    · exact L.new a o h
    · refine .inr (.inl ?_)
      cases q : H1 a with
      | none => rfl
      | some o' =>
        by_cases h1 : a = b.g.s
        · subst h1; exact absurd h x.tr.1
        by_cases h2 : a = b.g.c
        · subst h2; exact absurd h x.tr.2.1
        rw [L.keep a o' q h1 h2] at h; cases h
    · exact .inr (.inr (L.own a (o2 a h)))
  · cases q : F4 p with
    | none => rfl
    | some o =>
      rcases x.new p o q with h | h | h
      · rw [L.fp] at h; cases h
      · rw [hu] at h; cases h
      · exact absurd ((L.own p (o2 p h)).wipe rfl) no
/-- the item is laid behind the others -/
theorem Lci.put {b : B} {vs : List Nat} {σ σc : L2.St} {F1 H1 Fc Hc : Hp} {w1 wc : W} {p : Addr} {acc : List D} {y : V} {d : D} {us : List V} (L : Lci b vs σ F1 H1 w1 p Fc Hc wc acc) (hp : H1 p = none) (i1 : b.Inv F1 σ H1 w1) (hu : Hc p = some (.lst us)) (ru : Reps b.g Fc us acc) (ry : Rep b.g Fc y d)
    (ic : b.Inv Fc σc Hc wc) (hc : wipe σc vs = wipe σ vs) (no : ¬ Own σc wc.Γ p) : Lci b vs σ F1 H1 w1 p Fc (upd Hc p (.lst (us ++ [y]))) wc (acc ++ [d]) := by
  obtain ⟨n1, n2⟩ := i1.st.nes hp
  exact ⟨⟨σc, ic.mut L.fp (i1.toInv0.n0 hp) n1 n2 no, hc⟩, L.ff, L.new, fun a o h h1 h2 => by rw [upd_ne (ne_of_none h hp)]; exact L.keep a o h h1 h2, L.own, ⟨_, upd_same, ru.append (.one ry)⟩, L.fp⟩
theorem own_vs {σ : L2.St} {Γ : List Slot} {vs : List Nat} {a : Addr} : Own (wipe σ vs) (wipeΓ Γ vs) a ↔ ∃ j d, j ∉ vs ∧ Γ[j]? = some (.own d) ∧ σ[j]? = some (some (.ref a)) := by
  constructor
  · rintro ⟨j, d, h1, h2⟩
    rcases wipeΓ_get h1 with h | ⟨h3, h4⟩
    · cases h
    · rw [wipe_get h4] at h2; exact ⟨j, d, h4, h3, h2⟩
  · rintro ⟨j, d, h4, h3, h2⟩
    refine ⟨j, d, ?_, by rw [wipe_get h4]; exact h2⟩
    have : ∀ {vs : List Nat}, j ∉ vs → (wipeΓ Γ vs)[j]? = Γ[j]? := by
      intro vs
      induction vs with
      | nil => intro _; rfl
      | cons v vs ih =>
        intro h
        unfold wipeΓ
        rw [List.getElem?_set_ne (fun e => h (by rw [e]; exact List.mem_cons_self)), ih fun z => h (List.mem_cons_of_mem _ z)]
    rw [this h4]; exact h3
theorem Lci.done {b : B} {vs : List Nat} {σ : L2.St} {F1 H1 Fc Hc : Hp} {w1 wc : W} {p : Addr} {acc : List D} (L : Lci b vs σ F1 H1 w1 p Fc Hc wc acc) (i1 : b.Inv F1 σ H1 w1) :
    b.Inv Fc σ Hc ⟨restore w1.Γ wc.Γ vs, wc.S⟩ ∧ Ext b.g σ F1 H1 w1 Fc Hc ⟨restore w1.Γ wc.Γ vs, wc.S⟩ := by
  obtain ⟨σc, ic, hc⟩ := L.inv
  have hl : σc.length = σ.length := by rw [← wipe_length σc vs, hc, wipe_length]
  have sg : ∀ j, j ∉ vs → σc[j]? = σ[j]? := fun j h => by rw [← wipe_get h, hc, wipe_get h]
  have own0 : ∀ (j : Nat) (d : D), (w1.Γ.getD j .none) = .own d → w1.Γ[j]? = some (.own d) := fun j d h => by
    rw [List.getD_eq_getElem?_getD] at h
    cases e : w1.Γ[j]? with
    | none => rw [e] at h; cases h
    | some x => rw [e] at h; rw [show x = .own d from h]
  have wown : ∀ (j : Nat) (d : D) (a : Addr), j ∉ vs → wc.Γ[j]? = some (.own d) → σ[j]? = some (some (.ref a)) → ∃ k e, k ∉ vs ∧ w1.Γ[k]? = some (.own e) ∧ σ[k]? = some (some (.ref a)) := fun j d a h1 h2 h3 => by
    have := L.own a (own_vs.mpr ⟨j, d, h1, h2, h3⟩)
    exact own_vs.mp this
  refine ⟨{ ic.toInv0 with len := ?_, slot := fun j s h => ?_, dis := fun j k a d1 d2 h1 h2 h3 h4 => ?_ }, ⟨L.ff, fun a o h => ?_, L.keep, fun a h => ?_, i1.st.tr.1, i1.st.tr.2, ic.st.tr.1, ic.st.tr.2⟩⟩
  · show σ.length = (restore w1.Γ wc.Γ vs).length
    unfold restore
    rw [List.length_mapIdx, ← ic.len, hl]
  · rcases restore_get h with ⟨hj, rfl⟩ | ⟨hj, h⟩
    · cases e : w1.Γ.getD j .none with
      | none => trivial
      | frz d =>
        have e' : w1.Γ[j]? = some (.frz d) := by
          rw [List.getD_eq_getElem?_getD] at e
          cases q : w1.Γ[j]? with
          | none => rw [q] at e; cases e
          | some x => rw [q] at e; rw [show x = .frz d from e]
        obtain ⟨v, e1, r⟩ := i1.slot j _ e'
        exact ⟨v, e1, r.mono L.ff⟩
      | own d =>
        have e' := own0 j d e
        obtain ⟨a, e1, hF, h0, t⟩ := i1.slot j _ e'
        obtain ⟨o, ho⟩ := t.some
        refine ⟨a, e1, ?_, h0, t.mono L.ff fun x q => ?_⟩
        · cases q : Fc a with
          | none => rfl
          | some x =>
            rcases L.new a x q with h | h | h
            · rw [hF] at h; cases h
            · rw [ho] at h; cases h
            · obtain ⟨k, e2, hk, g1, g2⟩ := own_vs.mp h
              have := i1.dis j k a d e2 e' g1 e1 g2
              subst this
              exact absurd hj hk
        · obtain ⟨S0, z⟩ := i1.b0
          exact L.keep a x q (fun w => by subst w; exact z.tr.1 h0) fun w => by subst w; exact z.tr.2 h0
    · rw [← sg j hj]
      exact ic.slot j s h
  · rcases restore_get h1 with ⟨hj, e1⟩ | ⟨hj, e1⟩
    · have e1 := own0 j d1 e1.symm
      rcases restore_get h2 with ⟨hk, e2⟩ | ⟨hk, e2⟩
      · exact i1.dis j k a d1 d2 e1 (own0 k d2 e2.symm) h3 h4
      · obtain ⟨k', e', hk', g1, g2⟩ := wown k d2 a hk e2 h4
        have := i1.dis j k' a d1 e' e1 g1 h3 g2
        subst this
        exact absurd hj hk'
    · rcases restore_get h2 with ⟨hk, e2⟩ | ⟨hk, e2⟩
      · have e2 := own0 k d2 e2.symm
        obtain ⟨j', e', hj', g1, g2⟩ := wown j d1 a hj e1 h3
        have := i1.dis k j' a d2 e' e2 g1 h4 g2
        subst this
        exact absurd hk hj'
      · exact ic.dis j k a d1 d2 e1 e2 (by rw [sg j hj]; exact h3) (by rw [sg k hk]; exact h4)
  · rcases L.new a o h with h | h | h
    · exact .inl h
    · exact .inr (.inl h)
    · exact .inr (.inr (h.wipe rfl))
  · obtain ⟨j, d, h1, h2⟩ := h
    rcases restore_get h1 with ⟨hj, e1⟩ | ⟨hj, e1⟩
    · exact ⟨j, d, own0 j d e1.symm, h2⟩
    · obtain ⟨k, e, _, g1, g2⟩ := wown j d a hj e1 h2
      exact ⟨k, e, g1, g2⟩
section
variable {X : Cx} {b : B} {tgE iter elt : Expr} {ifs : List Expr} {scope : Scope} {own : List (Str × Nat)} {pos : Pos} {tg : Tg} {mi : M (List D)} {mt : M Bool} {me : M D}
theorem lc_t (hK : X.K = b.g.K) (hu : ∀ i ∈ tg.slots, i ∈ own.map (·.2)) (σ : L2.St) (H : Hp) (Q : VK) (h : tG (relF b) (mLc (own.map (·.2)) tg mi mt me) σ H Q) :
    tLc (tG (relH b) mi) (gT X.K tg) (tG (relE b.nox Bool) mt) (tG (relD b.nox) me) (own.map (·.2)) σ H Q := by
  obtain ⟨F, w, I, p⟩ := h
  generalize hvs : own.map (·.2) = vs at *
  refine ⟨F, w, I, (Post.bind p).mono fun J H1 ⟨F1, w1, ds, i1, r1, x1, p1⟩ => fun L hL => ?_⟩
  have r1 : WalkH b.g J F1 H1 ds := r1
  have no1 := i1.notOwn hL
  obtain ⟨n1, n2⟩ := i1.st.nes hL
  refine ⟨fun i m Hc => m = ds.length - i ∧ i ≤ ds.length ∧ ∃ Fc wc acc, Lci b vs σ F1 H1 w1 L Fc Hc wc acc ∧ Post (relF b) σ F1 H1 w1 ((lcR vs tg mt me (ds.drop i) acc wc).bind fun acc w' => .ok (.lst acc) ⟨restore w1.Γ w'.Γ vs, w'.S⟩) Q,
    ⟨ds.length, rfl, Nat.zero_le _, F1, w1, [], ⟨⟨σ, i1.lay hL, rfl⟩, Same.refl _, fun _ _ h => .inl h, fun a o h _ _ => upd_some hL h, fun a h => h, ⟨[], upd_same, .nil⟩, i1.toInv0.nF hL⟩, p1⟩, ?_⟩
  rintro i m Hc ⟨rfl, hi, Fc, wc, acc, L0, q⟩
  obtain ⟨σc, ic, hc⟩ := L0.inv
  have wk := r1 Fc Hc i L0.ff ic.sub L0.keep
  by_cases hlt : i < ds.length
  · -- an item
    obtain ⟨d, hd⟩ : ∃ d, ds[i]? = some d := ⟨ds[i], List.getElem?_eq_getElem hlt⟩
    obtain ⟨go, yl⟩ := wk.1 d hd
    have edr : ds.drop i = d :: ds.drop (i + 1) := by
      rw [List.drop_eq_getElem_cons hlt]
      rw [List.getElem?_eq_getElem hlt] at hd
      cases hd; rfl
    refine .inr ⟨go, fun H' => ∃ Fc wc acc, Lci b vs σ F1 H1 w1 L Fc H' wc acc ∧ Post (relF b) σ F1 H1 w1 ((lcR vs tg mt me (ds.drop (i + 1)) acc wc).bind fun acc w' => .ok (.lst acc) ⟨restore w1.Γ w'.Γ vs, w'.S⟩) Q,
      fun H' h => ⟨ds.length - (i + 1), by omega, rfl, hlt, h⟩, fun x H' hy => ?_⟩
    obtain ⟨rfl, rx⟩ := yl x H' hy
    rw [edr] at q
    unfold lcR at q
    cases ea : asgT tg d (wipeΓ wc.Γ vs) with
    | none => simp only [ea] at q; exact q.elim
    | some Γ =>
      simp only [ea] at q
      have iw := ic.wipe hc
      rw [← hc]
      refine gT_ok (w := ⟨wipeΓ wc.Γ vs, wc.S⟩) hK (by rw [hc]; exact iw) rx ea hu fun σ2 i2 o2 e2 => ?_
      have hs : wipe σ2 vs = wipe σ vs := by
        rw [e2, ← hc]
        have : ∀ (us : List Nat) (τ : L2.St), wipe (wipe τ us) us = wipe τ us := by
          intro us τ
          apply List.ext_getElem?
          intro j
          by_cases hj : j ∈ us
          · have z : ∀ (τ : L2.St), (wipe τ us)[j]? = none ∨ (wipe τ us)[j]? = some none := by
              intro τ
              cases e : (wipe τ us)[j]? with
              | none => exact .inl rfl
              | some o =>
                cases o with
                | none => exact .inr rfl
                | some v => exact absurd hj (wipe_some e).2
            have zl : ∀ (τ : L2.St), (wipe τ us).length = τ.length := fun τ => wipe_length τ us
            by_cases hjl : j < τ.length
            · rcases z (wipe τ us) with h | h
              · rw [List.getElem?_eq_none_iff, zl, zl] at h; omega
              · rcases z τ with h' | h'
                · rw [List.getElem?_eq_none_iff, zl] at h'; omega
                · rw [h, h']
            · rw [List.getElem?_eq_none (by rw [zl, zl]; omega), List.getElem?_eq_none (by rw [zl]; omega)]
          · rw [wipe_get hj]
        rw [this]
      have o2' : ∀ a, Own σ2 Γ a → Own (wipe σ vs) (wipeΓ wc.Γ vs) a := fun a h => by have := o2 a h; rw [hc] at this; exact this
      refine ⟨by rw [hs, hc], ⟨Fc, ⟨Γ, wc.S⟩, i2, ?_⟩⟩
      rcases nox_ok (rfl : FP.nox mt ⟨Γ, wc.S⟩ = _) with ⟨c, w3, e3, e3'⟩ | e3'
      · rw [e3'] at q
        refine Post.of_ok e3 fun F3 H3 v x3 i3 r3 => ?_
        obtain rfl : v = c := r3
        have L3 : Lci b vs σ F1 H1 w1 L F3 H3 w3 acc := L0.step hL hs x3 i3 o2' i1
        cases v with
        | true =>
          rw [if_pos rfl]
          simp only [R.bind, if_true] at q
          refine ⟨F3, w3, i3, ?_⟩
          unfold M.bind at q
          rcases nox_ok (rfl : FP.nox me w3 = _) with ⟨y, w4, e4, e4'⟩ | e4'
          · rw [e4'] at q
            refine Post.of_ok e4 fun F4 H4 v4 x4 i4 r4 => ?_
            simp only [R.bind] at q
            by_cases hz : acc.length < sizeLine
            · rw [if_pos hz] at q
              have x34 := x3.trans x4
              have L4 : Lci b vs σ F1 H1 w1 L F4 H4 w4 acc := L0.step hL hs x34 i4 o2' i1
              obtain ⟨us, hus, rus⟩ := L4.lst
              exact ⟨us, hus, by rw [rus.length]; exact hz, F4, w4, acc ++ [y], L4.put hL i1 hus rus r4 i4 hs (fun z => no1 ((L0.own L (o2' L (x34.own L z))).wipe rfl)), q⟩
            · rw [if_neg hz] at q; exact q.elim
          · rw [e4'] at q; exact q.elim
        | false =>
          rw [if_neg Bool.false_ne_true]
          simp only [R.bind, Bool.false_eq_true, if_false] at q
          exact ⟨F3, w3, acc, L3, q⟩
      · rw [e3'] at q; exact q.elim
  · -- the end
    have e : i = ds.length := by omega
    subst e
    refine .inl ⟨wk.2 rfl, ?_⟩
    rw [List.drop_length] at q
    unfold lcR at q
    obtain ⟨iE, xE⟩ := L0.done i1
    obtain ⟨us, hus, rus⟩ := L0.lst
    exact q Fc Hc (.ref L) xE iE ⟨L, rfl, hL, L0.fp, .lst hus rus⟩
theorem ef_lc (hK : X.K = b.g.K) (hc : X.calm = true) (hN : X.N.Nodup) (hi : EH X b tgE iter mi) (ok : BlkOk X.N X.env.scope scope own)
    (hg : ∀ (s : Shared) (H : Hp) (C : Addr) (cl : List (Str × Addr)) (fp : List Addr), PG (X.blk s H scope (compEnvC scope cl C X.env) fp) tgE (gT X.K tg))
    (ht : ∀ (s : Shared) (H : Hp) (C : Addr) (cl : List (Str × Addr)) (fp : List Addr), PTs (X.blk s H scope (compEnvC scope cl C X.env) fp) ifs (tG (relE b.nox Bool) mt))
    (he : ∀ (s : Shared) (H : Hp) (C : Addr) (cl : List (Str × Addr)) (fp : List Addr), ED (X.blk s H scope (compEnvC scope cl C X.env) fp) b.nox elt me)
    (hu : ∀ i ∈ tg.slots, i ∈ own.map (·.2)) (hs : ∀ x, foldedSetIterable iter X.env x = pure x := by intro _; rfl) :
    EF X b (.ListComp elt [⟨tgE, iter, ifs, 0⟩] scope pos) (mLc (own.map (·.2)) tg mi mt me) :=
  PE.weak (pe_lc hc hN hi ok hg ht he hs) (lc_t hK hu)
end
end FP


set_option Elab.async false
set_option linter.all false
set_option maxRecDepth 100000
set_option maxHeartbeats 2000000
/-! FP6: statements. -/
namespace FP
open PySem PySem.Spec PyProof.Rows L2
inductive Out where
  | nx (w : W) | rt (d : D) (w : W) | bk (w : W) | ct (w : W) | exc (c : EC) (x : Str) (w : W) | bad
abbrev Cmd := W → Out
/-- what is wanted behind a statement -/
def PostS (b : B) (F : Hp) (o : Out) (N : Ends) : Prop := match o with
  | .nx w' => ∀ F' σ' H', Same F F' → b.Inv F' σ' H' w' → N.nx σ' H'
  | .bk w' => ∀ F' σ' H', Same F F' → b.Inv F' σ' H' w' → N.bk σ' H'
  | .ct w' => ∀ F' σ' H', Same F F' → b.Inv F' σ' H' w' → N.ct σ' H'
  | .rt d w' => ∀ F' σ' H' v, b.Inv F' σ' H' w' → Rep b.g F' v d → N.rt v H'
  | .exc c x w' => ∀ F' σ' H' dx, b.Inv F' σ' H' w' → H' dx = some (.xd [(c.fld, .str x)]) → b.X (.ref (b.g.cls c)) (some dx) σ' H'
  | .bad => False
def tS (b : B) (c : Cmd) : TS := fun N σ H => ∃ F w, b.Inv F σ H w ∧ PostS b F (c w) N
def SD (X : Cx) (b : B) (st : Stmt) (c : Cmd) : Prop := PS X st (tS b c)
def SDs (X : Cx) (b : B) (sts : List Stmt) (c : Cmd) : Prop := PSs X sts (tS b c)
theorem PostS.base {b : B} {F F1 : Hp} {o : Out} {N : Ends} (e : Same F F1) (h : PostS b F o N) : PostS b F1 o N := by
  cases o with
  | nx w => exact fun F' σ' H' s i => h F' σ' H' (e.trans s) i
  | bk w => exact fun F' σ' H' s i => h F' σ' H' (e.trans s) i
  | ct w => exact fun F' σ' H' s i => h F' σ' H' (e.trans s) i
  | rt d w => exact h
  | exc c x w => exact h
  | bad => exact h
/-- an expression, then the rest of the statement -/
def R.out {α : Type} (r : R α) (k : α → Cmd) : Out := match r with
  | .ok a w => k a w
  | .exc c x w => .exc c x w
  | .bad => .bad
structure MidS {α β : Type} {b : B} (rel : Rl b β α) (σ : L2.St) (F H : Hp) (w : W) (k : α → Cmd) (N : Ends) (x : β) (H1 : Hp) (F1 : Hp) (w1 : W) (d : α) : Prop where
  inv : b.Inv F1 σ H1 w1
  rep : rel.r H F1 H1 x d
  ext : Ext b.g σ F H w F1 H1 w1
  post : PostS b F1 (k d w1) N
theorem PostS.ex {α β : Type} {b : B} {rel : Rl b β α} {σ : L2.St} {F H : Hp} {w : W} {m : M α} {k : α → Cmd} {N : Ends} (h : PostS b F ((m w).out k) N) :
    Post rel σ F H w (m w) (fun x H1 => ∃ F1 w1 d, MidS rel σ F H w k N x H1 F1 w1 d) := by
  generalize m w = r at h ⊢
  cases r with
  | ok d w' => exact fun F' H' v x i r => ⟨F', w', d, i, r, x, h.base x.ff⟩
  | exc c x w' => exact fun F' H' dx i e => h F' σ H' dx i e
  | bad => exact h
section
variable {X : Cx} {b : B} {pos : Pos} {st : Stmt} {rest : List Stmt} {c c' : Cmd} {e : Expr} {m : M D}
/-! ### blocks -/
def cNil : Cmd := fun w => .nx w
def cSeq (c c' : Cmd) : Cmd := fun w => match c w with
  | .nx w' => c' w'
  | o => o
theorem sds_nil : SDs X b [] cNil := PSs.weak pss_nil fun N σ H ⟨F, w, i, p⟩ => p F σ H (Same.refl _) i
theorem sds_cons (h1 : SD X b st c) (h2 : SDs X b rest c') : SDs X b (st :: rest) (cSeq c c') :=
  PSs.weak (pss_cons h1 h2) fun N σ H ⟨F, w, i, p⟩ => ⟨F, w, i, by
    unfold cSeq at p
    generalize c w = o at p ⊢
    cases o with
    | nx w' => exact fun F' σ' H' s i' => ⟨F', w', i', p.base s⟩
    | _ => exact p⟩
theorem sds_one (h1 : SD X b st c) : SDs X b [st] c := pss_one h1
def cPass : Cmd := fun w => .nx w
def cBrk : Cmd := fun w => .bk w
def cCont : Cmd := fun w => .ct w
theorem sd_pass : SD X b (.Pass pos) cPass := PS.weak ps_pass fun N σ H ⟨F, w, i, p⟩ => p F σ H (Same.refl _) i
theorem sd_break : SD X b (.Break pos) cBrk := PS.weak ps_break fun N σ H ⟨F, w, i, p⟩ => p F σ H (Same.refl _) i
theorem sd_continue : SD X b (.Continue pos) cCont := PS.weak ps_continue fun N σ H ⟨F, w, i, p⟩ => p F σ H (Same.refl _) i
def cDrop (m : M D) : Cmd := fun w => (m w).out fun _ w => .nx w
theorem sd_expr (h : ED X b e m) (hs : swapsWith e none pos.line X.env = pure false := by rfl) : SD X b (.Expr e pos) (cDrop m) :=
  PS.weak (ps_expr h hs) fun N σ H ⟨F, w, i, p⟩ => ⟨F, w, i, (PostS.ex p).mono fun x H1 ⟨F1, w1, d, i1, r1, x1, p1⟩ => p1 F1 σ H1 (Same.refl _) i1⟩
def cRet (m : M D) : Cmd := fun w => (m w).out fun d w => .rt d w
theorem sd_ret (h : ED X b e m) : SD X b (.Return (some e) pos) (cRet m) :=
  PS.weak (ps_ret h) fun N σ H ⟨F, w, i, p⟩ => ⟨F, w, i, (PostS.ex p).mono fun x H1 ⟨F1, w1, d, i1, r1, x1, p1⟩ => p1 F1 σ H1 x i1 r1⟩
def cRetN : Cmd := fun w => .rt .non w
theorem sd_retN : SD X b (.Return none pos) cRetN := PS.weak ps_retN fun N σ H ⟨F, w, i, p⟩ => p F σ H .non i .non
def cIf (t : M Bool) (c c' : Cmd) : Cmd := fun w => (t w).out fun k => if k = true then c else c'
theorem sd_if {t : Expr} {a q : List Stmt} {mt : M Bool} (ht : ET X b t mt) (ha : SDs X b a c) (hq : SDs X b q c') : SD X b (.If t a q pos) (cIf mt c c') :=
  PS.weak (ps_if ht ha hq) fun N σ H ⟨F, w, i, p⟩ => ⟨F, w, i, (PostS.ex p).mono fun x H1 ⟨F1, w1, d, i1, r1, x1, p1⟩ => by
    obtain rfl : x = d := r1
    cases x with
    | true => exact ⟨F1, w1, i1, p1⟩
    | false => exact ⟨F1, w1, i1, p1⟩⟩
/-- a statement that is not come to -/
def cNo : Cmd := fun _ => .bad
theorem sd_never : SD X b st cNo := PS.weak ps_never fun N σ H ⟨F, w, i, p⟩ => p

/-! ### stores -/
def sets (w : W) (i : Nat) (s : Slot) : W := ⟨w.Γ.set i s, w.S⟩
def cSet (i : Nat) (m : M D) : Cmd := fun w => (m w).out fun d w => if i < w.Γ.length then .nx ⟨w.Γ.set i (.frz d), w.S⟩ else .bad
theorem outIte {b : B} {F : Hp} {N : Ends} {p : Prop} [Decidable p] {o : Out} (h : PostS b F (if p then o else .bad) N) : p ∧ PostS b F o N := by
  by_cases q : p
  · rw [if_pos q] at h; exact ⟨q, h⟩
  · rw [if_neg q] at h; exact h.elim
theorem sd_set {i : Nat} {x : Str} {p' : Pos} (hN : X.N.Nodup) (hi : X.N[i]? = some x) (hx : Loc X.env.scope x) (h : ED X b e m) (hs : swapsWith e (some (.Name x p')) pos.line X.env = pure false := by rfl) (hf : X.fn x = true ∨ X.env.scope.names.lookup x = some .local := by first | exact .inl rfl | exact .inr rfl | assumption) :
    SD X b (.Assign [.Name x p'] e pos) (cSet i m) :=
  PS.weak (ps_set hN hi hx h hs hf) fun N σ H ⟨F, w, i, p⟩ => ⟨F, w, i, (PostS.ex p).mono fun v H1 ⟨F1, w1, d, i1, r1, x1, p1⟩ => by
    obtain ⟨hl, p2⟩ := outIte p1
    exact p2 F1 _ H1 (Same.refl _) (i1.set hl r1)⟩
def cOwn (i : Nat) (m : M D) : Cmd := fun w => (m w).out fun d w => if i < w.Γ.length then .nx ⟨w.Γ.set i (.own d), w.S⟩ else .bad
theorem Inv2.setOwn {g : G} {F0 H0 F H : Hp} {σ : L2.St} {w : W} {i : Nat} {d : D} {a : Addr} (I : Inv2 g F0 H0 F σ H w) (hi : i < w.Γ.length) (hF : F a = none) (h0 : H0 a = none) (t : Top g F H a d) (no : ¬ Own σ w.Γ a) : Inv2 g F0 H0 F (σ.set i (some (.ref a))) H ⟨w.Γ.set i (.own d), w.S⟩ := by
  have hl : i < σ.length := by rw [I.len]; exact hi
  have old : ∀ (j : Nat) (e : D) (c : Addr), (w.Γ.set i (.own d))[j]? = some (.own e) → (σ.set i (some (.ref a)))[j]? = some (some (.ref c)) → (i = j ∧ c = a) ∨ (i ≠ j ∧ w.Γ[j]? = some (.own e) ∧ σ[j]? = some (some (.ref c)) ∧ c ≠ a) := fun j e c h h' => by
    by_cases q : i = j
    · subst q
      rw [List.getElem?_set_self hl] at h'
      cases h'
      exact .inl ⟨rfl, rfl⟩
    · rw [List.getElem?_set_ne q] at h h'
      refine .inr ⟨q, h, h', fun z => no ?_⟩
      subst z
      exact ⟨j, e, h, h'⟩
  refine { I.toInv0 with len := by simp [I.len], slot := fun j s h => ?_, dis := fun j k c d1 d2 h1 h2 h3 h4 => ?_ }
  · by_cases q : i = j
    · subst q
      rw [List.getElem?_set_self hi] at h
      cases h
      exact ⟨a, List.getElem?_set_self hl, hF, h0, t⟩
    · rw [List.getElem?_set_ne q] at h ⊢
      exact I.slot j s h
  · rcases old j d1 c h1 h3 with ⟨e1, e2⟩ | ⟨n1, g1, g2, g3⟩
    · rcases old k d2 c h2 h4 with ⟨e3, _⟩ | ⟨_, _, _, g3⟩
      · rw [← e1, ← e3]
      · exact absurd e2 g3
    · rcases old k d2 c h2 h4 with ⟨_, e2⟩ | ⟨_, g4, g5, _⟩
      · exact absurd e2 g3
      · exact I.dis j k c d1 d2 g1 g4 g2 g5
theorem fresh_own {b : B} {σ : L2.St} {F H F1 H1 : Hp} {w w1 : W} {d : D} {v : V} (i : b.Inv F σ H w) (x : Ext b.g σ F H w F1 H1 w1) (r : (relF b).r H F1 H1 v d) : ∃ a, v = .ref a ∧ F1 a = none ∧ b.H0 a = none ∧ Top b.g F1 H1 a d ∧ ¬ Own σ w1.Γ a := by
  obtain ⟨a, rfl, ha, hF, t⟩ := r
  exact ⟨a, rfl, hF, i.toInv0.n0 ha, t, fun z => i.notOwn ha (x.own a z)⟩
theorem sd_own {i : Nat} {x : Str} {p' : Pos} (hN : X.N.Nodup) (hi : X.N[i]? = some x) (hx : Loc X.env.scope x) (h : EF X b e m) (hs : swapsWith e (some (.Name x p')) pos.line X.env = pure false := by rfl) (hf : X.fn x = true ∨ X.env.scope.names.lookup x = some .local := by first | exact .inl rfl | exact .inr rfl | assumption) :
    SD X b (.Assign [.Name x p'] e pos) (cOwn i m) :=
  PS.weak (ps_set hN hi hx h hs hf) fun N σ H ⟨F, w, i, p⟩ => ⟨F, w, i, (PostS.ex p).mono fun v H1 ⟨F1, w1, d, i1, r1, x1, p1⟩ => by
    obtain ⟨hl, p2⟩ := outIte p1
    obtain ⟨a, rfl, hF, h0, t, no⟩ := fresh_own i x1 r1
    exact p2 F1 _ H1 (Same.refl _) (i1.setOwn hl hF h0 t no)⟩
/-- a comprehension, stored at once -/
theorem sd_setLc {i : Nat} {y : Str} {py : Pos} {tgE iter elt : Expr} {ifs : List Expr} {scope : Scope} {own : List (Str × Nat)} {tg : Tg} {mi : M (List D)} {mt : M Bool} {me : M D} (hK : X.K = b.g.K) (hc : X.calm = true) (hN : X.N.Nodup) (hy : X.N[i]? = some y) (hyl : X.env.scope.names.lookup y = some .local)
    {spos : Pos} (hsw' : swapsWith (.ListComp elt [⟨tgE, iter, ifs, 0⟩] scope pos) (some (.Name y py)) spos.line X.env = pure true) (hi : EH X b tgE iter mi) (ok : BlkOk X.N X.env.scope scope own)
    (hg : ∀ (s : Shared) (H : Hp) (C : Addr) (cl : List (Str × Addr)) (fp : List Addr), PG (X.blk s H scope (compEnvC scope cl C X.env) fp) tgE (gT X.K tg))
    (ht : ∀ (s : Shared) (H : Hp) (C : Addr) (cl : List (Str × Addr)) (fp : List Addr), PTs (X.blk s H scope (compEnvC scope cl C X.env) fp) ifs (tG (relE b.nox Bool) mt))
    (he : ∀ (s : Shared) (H : Hp) (C : Addr) (cl : List (Str × Addr)) (fp : List Addr), ED (X.blk s H scope (compEnvC scope cl C X.env) fp) b.nox elt me)
    (hu : ∀ i ∈ tg.slots, i ∈ own.map (·.2)) (hs : ∀ x, foldedSetIterable iter X.env x = pure x := by intro _; rfl) :
    SD X b (.Assign [.Name y py] (.ListComp elt [⟨tgE, iter, ifs, 0⟩] scope pos) spos) (cOwn i (mLc (own.map (·.2)) tg mi mt me)) :=
  PS.weak (ps_setLc hc hN hy hyl hsw' hi ok hg ht he hs) fun N σ H ⟨F, w, i, p⟩ => lc_t hK hu σ H _ ⟨F, w, i, (PostS.ex p).mono fun v H1 ⟨F1, w1, d, i1, r1, x1, p1⟩ => by
    obtain ⟨hl, p2⟩ := outIte p1
    obtain ⟨a, rfl, hF, h0, t, no⟩ := fresh_own i x1 r1
    exact p2 F1 _ H1 (Same.refl _) (i1.setOwn hl hF h0 t no)⟩
/-- the list that a slot owns is taken to be frozen at once -/
def cFrz (i : Nat) (c : Cmd) : Cmd := fun w => match c w with
  | .nx w' => (mName i w').out fun _ w'' => .nx w''
  | o => o
theorem sd_frz {i : Nat} (h : SD X b st c) : SD X b st (cFrz i c) :=
  PS.weak h fun N σ H ⟨F, w, I, p⟩ => ⟨F, w, I, by
    unfold cFrz at p
    generalize c w = o at p ⊢
    cases o with
    | nx w' =>
      intro F' σ' H' s i'
      unfold mName at p
      simp only at p
      split at p
      · exact p F' σ' H' s i'
      · rename_i d e
        obtain ⟨a, e1, h1, h2, t⟩ := i'.slot i _ e
        obtain ⟨o, ho⟩ := t.some
        obtain ⟨I', x⟩ := i'.freeze e e1 h1 h2 t ho
        exact p _ σ' H' (s.trans x.ff) I'
      · exact p.elim
    | _ => exact p⟩
/-- a tuple, told apart -/
def cTg (tg : Tg) (m : M D) : Cmd := fun w => (m w).out fun d w => match asgT tg d w.Γ with
  | some Γ => .nx ⟨Γ, w.S⟩
  | none => .bad
theorem sd_tg {tgE : Expr} {tg : Tg} (hK : X.K = b.g.K) (h : ED X b e m) (hg : PG X tgE (gT X.K tg)) (hs : swapsWithSole [tgE] e pos.line X.env = pure false := by rfl) (hw : swappedStores [tgE] e X.env = pure none := by rfl)
    (h1 : (assignEach [tgE] X.env).map (·.2) = [assign tgE X.env] := by rfl) : SD X b (.Assign [tgE] e pos) (cTg tg m) :=
  PS.weak (ps_asg h hg hs hw h1) fun N σ H ⟨F, w, i, p⟩ => ⟨F, w, i, (PostS.ex p).mono fun v H1 ⟨F1, w1, d, i1, r1, x1, p1⟩ => by
    cases ea : asgT tg d w1.Γ with
    | none => rw [ea] at p1; exact p1.elim
    | some Γ =>
      rw [ea] at p1
      exact gT_ok (us := tg.slots) hK i1 r1 ea (fun _ h => h) fun σ' i' _ _ => p1 F1 σ' H1 (Same.refl _) i'⟩
/-- two values, kept as they are: frozen, or new -/
def Hd (b : B) (k : Bool) (σ : L2.St) (w : W) (F H : Hp) (v : V) (d : D) : Prop := if k = true then ∃ a, v = .ref a ∧ F a = none ∧ b.H0 a = none ∧ Top b.g F H a d ∧ ¬ Own σ w.Γ a else Rep b.g F v d
def relK (b : B) (k : Bool) : Rl b V D := if k = true then relF b else relD b
def EK (X : Cx) (b : B) (k : Bool) (e : Expr) (m : M D) : Prop := PE X e (tG (relK b k) m)
theorem ED.k (h : ED X b e m) : EK X b false e m := h
theorem EF.k (h : EF X b e m) : EK X b true e m := h
theorem relK.hd {k : Bool} {σ : L2.St} {F H F1 H1 : Hp} {w w1 : W} {v : V} {d : D} (i : b.Inv F σ H w) (x : Ext b.g σ F H w F1 H1 w1) (r : (relK b k).r H F1 H1 v d) : Hd b k σ w1 F1 H1 v d := by
  cases k with
  | true => exact fresh_own i x r
  | false => exact r
theorem Hd.ext {k : Bool} {σ : L2.St} {F H F1 H1 : Hp} {w w1 : W} {v : V} {d : D} (i : b.Inv F σ H w) (h : Hd b k σ w F H v d) (x : Ext b.g σ F H w F1 H1 w1) : Hd b k σ w1 F1 H1 v d := by
  cases k with
  | true =>
    obtain ⟨a, rfl, hF, h0, t, no⟩ := h
    obtain ⟨o, ho⟩ := t.some
    obtain ⟨S0, z⟩ := i.b0
    have n1 : a ≠ b.g.s := fun w => by subst w; exact z.tr.1 h0
    have n2 : a ≠ b.g.c := fun w => by subst w; exact z.tr.2 h0
    refine ⟨a, rfl, ?_, h0, t.mono x.ff fun o q => x.keep a o q n1 n2, fun z => no (x.own a z)⟩
    cases q : F1 a with
    | none => rfl
    | some o' =>
      rcases x.new a o' q with h | h | h
      · rw [hF] at h; cases h
      · rw [ho] at h; cases h
      · exact absurd h no
  | false => exact Rep.mono x.ff h
def sl (k : Bool) (d : D) : Slot := if k = true then .own d else .frz d
theorem Inv2.setK {k : Bool} {σ : L2.St} {F H : Hp} {w : W} {v : V} {d : D} {i : Nat} (I : b.Inv F σ H w) (hi : i < w.Γ.length) (h : Hd b k σ w F H v d) : b.Inv F (σ.set i (some v)) H ⟨w.Γ.set i (sl k d), w.S⟩ := by
  cases k with
  | true =>
    obtain ⟨a, rfl, hF, h0, t, no⟩ := h
    exact I.setOwn hi hF h0 t no
  | false => exact I.set hi h
def cPar (i j : Nat) (k k' : Bool) (m m' : M D) : Cmd := fun w => (m w).out fun d w => (m' w).out fun e w => if i < w.Γ.length ∧ j < w.Γ.length then .nx ⟨(w.Γ.set i (sl k d)).set j (sl k' e), w.S⟩ else .bad
theorem sd_par {i j : Nat} {k k' : Bool} {x y : Str} {a c : Expr} {m m' : M D} {px py pt : Pos} {kt k2 : Nat} {pt2 : Pos} (hc : X.calm = true) (hN : X.N.Nodup) (hi : X.N[i]? = some x) (hj : X.N[j]? = some y) (hij : i ≠ j)
    (hx : X.env.scope.names.lookup x = some .local) (hy : X.env.scope.names.lookup y = some .local) (ha : EK X b k a m) (hb : EK X b k' c m')
    (hw : swappedStores [.Tuple [.Name x px, .Name y py] kt pt] (.Tuple [a, c] k2 pt2) X.env = pure (some [x, y]))
    (s1 : starEach (a :: [c]) X.env = (false, eval a X.env) :: starEach [c] X.env := by rfl) (s2 : starEach (c :: []) X.env = (false, eval c X.env) :: starEach [] X.env := by rfl)
    (hs : swapsWithSole [.Tuple [.Name x px, .Name y py] kt pt] (.Tuple [a, c] k2 pt2) pos.line X.env = pure false := by rfl) :
    SD X b (.Assign [.Tuple [.Name x px, .Name y py] kt pt] (.Tuple [a, c] k2 pt2) pos) (cPar i j k k' m m') :=
  PS.weak (ps_par hc hN hi hj hij hx hy (pa_cons ha (pa_cons hb pa_nil s2) s1) hw hs) fun N σ H ⟨F, w, I, p⟩ => ⟨F, w, I, (PostS.ex p).mono fun v H1 ⟨F1, w1, d, i1, r1, x1, p1⟩ =>
    ⟨F1, w1, i1, (PostS.ex p1).mono fun u H2 ⟨F2, w2, e, i2, r2, x2, p2⟩ => ⟨v, u, rfl, by
      obtain ⟨⟨l1, l2⟩, p3⟩ := outIte p2
      have h1 := (relK.hd I x1 r1).ext i1 x2
      have h2 := relK.hd i1 x2 r2
      refine p3 F2 _ H2 (Same.refl _) ?_
      have I1 : b.Inv F2 (σ.set i (some v)) H2 ⟨w2.Γ.set i (sl k d), w2.S⟩ := i2.setK l1 h1
      refine Inv2.setK (w := ⟨w2.Γ.set i (sl k d), w2.S⟩) I1 (by simpa using l2) ?_
      cases k' with
      | false => exact h2
      | true =>
        obtain ⟨q, rfl, hF, h0, t, no⟩ := h2
        refine ⟨q, rfl, hF, h0, t, fun z => ?_⟩
        obtain ⟨n, e', g1, g2⟩ := z
        by_cases hn : i = n
        · subst hn
          rw [List.getElem?_set_self (by rw [i2.len]; exact l1)] at g2
          cases g2
          -- the first value is an older thing
          obtain ⟨q', e2, hq, hF', t'⟩ := (show ∃ a, V.ref q = .ref a ∧ H1 a = none ∧ F2 a = none ∧ Top b.g F2 H2 a e from r2)
          cases e2
          cases k with
          | true =>
            obtain ⟨a', e3, _, _, t1, _⟩ := relK.hd I x1 r1
            cases e3
            obtain ⟨o, ho⟩ := t1.some
            rw [hq] at ho; cases ho
          | false =>
            rw [List.getElem?_set_self l1] at g1
            cases g1
        · rw [List.getElem?_set_ne hn] at g2
          rw [List.getElem?_set_ne hn] at g1
          exact no ⟨n, e', g1, g2⟩⟩⟩⟩
end
end FP


set_option Elab.async false
set_option linter.all false
set_option maxRecDepth 100000
set_option maxHeartbeats 2000000
/-! FP7: loops, lists that change, raise. -/
namespace FP
open PySem PySem.Spec PyProof.Rows L2
section
variable {X : Cx} {b : B} {pos : Pos} {c : Cmd}
/-- slots forgotten -/
def kill (vs : List Nat) (w : W) : W := ⟨wipeΓ w.Γ vs, w.S⟩
theorem Inv2.kill {g : G} {F0 H0 F H : Hp} {σ : L2.St} {w : W} (I : Inv2 g F0 H0 F σ H w) (vs : List Nat) : Inv2 g F0 H0 F σ H (kill vs w) := by
  have own : ∀ (j : Nat) (d : D), (wipeΓ w.Γ vs)[j]? = some (.own d) → w.Γ[j]? = some (.own d) := fun j d h => by
    rcases wipeΓ_get h with h | h
    · cases h
    · exact h.1
  refine { I.toInv0 with len := I.len.trans (wipeΓ_length _ _).symm, slot := fun j s h => ?_, dis := fun j k c d1 d2 h1 h2 h3 h4 => I.dis j k c d1 d2 (own _ _ h1) (own _ _ h2) h3 h4 }
  rcases wipeΓ_get h with h | h
  · subst h; trivial
  · exact I.slot j s h.1
/-- the items, one by one; mask: what is forgotten between two turns -/
def forR (tg : Tg) (mask : List Nat) (c : Cmd) : List D → Cmd
  | [] => fun w => .nx w
  | d :: ds => fun w => match asgT tg d w.Γ with
    | none => .bad
    | some Γ => match c ⟨Γ, w.S⟩ with
      | .nx w' => forR tg mask c ds (kill mask w')
      | .ct w' => forR tg mask c ds (kill mask w')
      | .bk w' => .nx w'
      | .rt d w' => .rt d w'
      | .exc e x w' => .exc e x w'
      | .bad => .bad
def cFor (tg : Tg) (mask : List Nat) (mi : M (List D)) (c : Cmd) : Cmd := fun w => (mi w).out fun ds => forR tg mask c ds
theorem sd_for {tgE iter : Expr} {body : List Stmt} {tg : Tg} {mask : List Nat} {mi : M (List D)} (hK : X.K = b.g.K) (hp : PassesOwn (model X.prog X.w) X.A X.env X.xe) (hc : X.calm = true) (hi : EL X b tgE iter mi) (hg : PG X tgE (gT X.K tg)) (hb : SDs X b body c)
    (hs : ∀ x, foldedSetIterable iter X.env x = pure x := by intro _; rfl) : SD X b (.For tgE iter body [] pos) (cFor tg mask mi c) :=
  PS.weak (ps_for hp hc hi hg hb hs) fun N σ H ⟨F, w, I, p⟩ => ⟨F, w, I, (PostS.ex p).mono fun J H1 ⟨F1, w1, ds, i1, r1, x1, p1⟩ => by
    have r1 : WalkF b.g J F1 ds := r1
    refine ⟨fun i m σ H => m = ds.length - i ∧ i ≤ ds.length ∧ ∃ F w, Same F1 F ∧ b.Inv F σ H w ∧ PostS b F1 (forR tg mask c (ds.drop i) w) N, ⟨ds.length, rfl, Nat.zero_le _, F1, w1, Same.refl _, i1, p1⟩, ?_⟩
    rintro i m σ2 H2 ⟨rfl, hi, F2, w2, s2, i2, p2⟩
    have wk := r1 F2 H2 i s2 i2.sub
    by_cases hlt : i < ds.length
    · obtain ⟨d, hd⟩ : ∃ d, ds[i]? = some d := ⟨ds[i], List.getElem?_eq_getElem hlt⟩
      obtain ⟨go, yl⟩ := wk.1 d hd
      have edr : ds.drop i = d :: ds.drop (i + 1) := by
        rw [List.drop_eq_getElem_cons hlt]
        rw [List.getElem?_eq_getElem hlt] at hd
        cases hd; rfl
      rw [edr] at p2
      refine .inr ⟨go, fun σ' H' => ∃ F w, Same F1 F ∧ b.Inv F σ' H' w ∧ PostS b F1 (forR tg mask c (ds.drop (i + 1)) w) N, fun σ' H' h => ⟨ds.length - (i + 1), by omega, rfl, hlt, h⟩, fun x H' hy => ?_⟩
      obtain ⟨rfl, rx⟩ := yl x H' hy
      unfold forR at p2
      cases ea : asgT tg d w2.Γ with
      | none => simp only [ea] at p2; exact p2.elim
      | some Γ =>
        simp only [ea] at p2
        refine gT_ok (us := tg.slots) hK i2 rx ea (fun _ h => h) fun σ3 i3 _ _ => ⟨F2, ⟨Γ, w2.S⟩, i3, ?_⟩
        generalize c ⟨Γ, w2.S⟩ = o at p2 ⊢
        cases o with
        | nx w' => exact fun F' σ' H' s i' => ⟨F', _, s2.trans s, i'.kill mask, p2⟩
        | ct w' => exact fun F' σ' H' s i' => ⟨F', _, s2.trans s, i'.kill mask, p2⟩
        | bk w' => exact fun F' σ' H' s i' => p2 F' σ' H' (s2.trans s) i'
        | rt d w' => exact p2
        | exc e x w' => exact p2
        | bad => exact p2
    · have e : i = ds.length := by omega
      subst e
      rw [List.drop_length] at p2
      exact .inl ⟨wk.2 rfl, p2 F2 σ2 H2 s2 i2⟩⟩
/-- while, at most n turns -/
def whR (mask : List Nat) (t : M Bool) (c : Cmd) : Nat → Cmd
  | 0 => fun _ => .bad
  | n + 1 => fun w => (t w).out fun k w => if k = true then
      match c w with
      | .nx w' => whR mask t c n (kill mask w')
      | .ct w' => whR mask t c n (kill mask w')
      | .bk w' => .nx w'
      | .rt d w' => .rt d w'
      | .exc e x w' => .exc e x w'
      | .bad => .bad
    else .nx w
/-- while: as many turns as it takes (n: a bound that the data give) -/
def cWhile (mask : List Nat) (n : W → Nat) (t : M Bool) (c : Cmd) : Cmd := fun w => whR mask t c (n w) w
theorem sd_while {t : Expr} {body : List Stmt} {mask : List Nat} {n : W → Nat} {mt : M Bool} (hp : PassesOwn (model X.prog X.w) X.A X.env X.xe) (ht : ET X b t mt) (hb : SDs X b body c) : SD X b (.While t body [] pos) (cWhile mask n mt c) :=
  PS.weak (ps_while hp ht hb) fun N σ H ⟨F, w, I, p⟩ => by
    refine ⟨fun m σ H => ∃ F2 w2, b.Inv F2 σ H w2 ∧ PostS b F2 (whR mask mt c m w2) N, ⟨n w, F, w, I, p⟩, ?_⟩
    rintro m σ2 H2 ⟨F2, w2, i2, p2⟩
    cases m with
    | zero => exact p2.elim
    | succ m =>
      unfold whR at p2
      refine ⟨F2, w2, i2, (PostS.ex p2).mono fun x H3 ⟨F3, w3, d, i3, r3, x3, p3⟩ => ?_⟩
      obtain rfl : x = d := r3
      cases x with
      | false =>
        rw [if_neg Bool.false_ne_true] at p3 ⊢
        exact p3 F3 σ2 H3 (Same.refl _) i3
      | true =>
        rw [if_pos rfl] at p3 ⊢
        refine ⟨fun σ' H' => ∃ F2 w2, b.Inv F2 σ' H' w2 ∧ PostS b F2 (whR mask mt c m w2) N, fun σ' H' h => ⟨m, Nat.lt_succ_self m, h⟩, F3, w3, i3, ?_⟩
        generalize c w3 = o at p3 ⊢
        cases o with
        | nx w' => exact fun F' σ' H' s i' => ⟨F', _, i'.kill mask, PostS.base s p3⟩
        | ct w' => exact fun F' σ' H' s i' => ⟨F', _, i'.kill mask, PostS.base s p3⟩
        | bk w' => exact fun F' σ' H' s i' => p3 F' σ' H' s i'
        | rt d w' => exact p3
        | exc e x w' => exact p3
        | bad => exact p3

/-! ### a list that a slot owns changes -/
theorem Inv2.chg {g : G} {F0 H0 F H : Hp} {σ : L2.St} {w : W} {i : Nat} {d d' : D} {a : Addr} {o : HO} (I : Inv2 g F0 H0 F σ H w) (hi : w.Γ[i]? = some (.own d)) (hσ : σ[i]? = some (some (.ref a))) (t : Top g F (upd H a o) a d') : Inv2 g F0 H0 F σ (upd H a o) ⟨w.Γ.set i (.own d'), w.S⟩ := by
  obtain ⟨a', e1, hF, h0, t0⟩ := I.slot i _ hi
  rw [hσ] at e1
  cases e1
  obtain ⟨S0, z⟩ := I.b0
  have n1 : a ≠ g.s := fun w => by subst w; exact z.tr.1 h0
  have n2 : a ≠ g.c := fun w => by subst w; exact z.tr.2 h0
  have il : i < w.Γ.length := (List.getElem?_eq_some_iff.mp hi).1
  have ne : ∀ c x, F c = some x → c ≠ a := fun c x h e => by subst e; rw [hF] at h; cases h
  have old : ∀ (j : Nat) (e : D), (w.Γ.set i (.own d'))[j]? = some (.own e) → ∃ e', w.Γ[j]? = some (.own e') := fun j e h => by
    by_cases q : i = j
    · subst q; exact ⟨d, hi⟩
    · rw [List.getElem?_set_ne q] at h; exact ⟨e, h⟩
  refine { sub := fun c x h => by rw [upd_ne (ne c x h)]; exact I.sub c x h, g0 := I.g0, new := I.new, keep := fun c x h h1 h2 => ?_, st := I.st.new (fun c x hc h => ?_) fun _ _ h => h, b0 := I.b0, len := by simp [I.len], slot := fun j s h => ?_, dis := fun j k c d1 d2 h1 h2 h3 h4 => ?_ }
  · rw [upd_ne (ne_of_none h h0)]; exact I.keep c x h h1 h2
  · rw [upd_ne]; exact h
    rcases hc with e | e <;> rw [e] <;> first | exact Ne.symm n1 | exact Ne.symm n2
  · by_cases q : i = j
    · subst q
      rw [List.getElem?_set_self il] at h
      cases h
      exact ⟨a, hσ, hF, h0, t⟩
    · rw [List.getElem?_set_ne q] at h
      cases s with
      | none => trivial
      | frz e => exact I.slot j _ h
      | own e =>
        obtain ⟨c, e1, h1, h2, t'⟩ := I.slot j _ h
        refine ⟨c, e1, h1, h2, t'.mono (Same.refl _) fun x q' => ?_⟩
        rw [upd_ne]; exact q'
        intro z; subst z
        exact q (I.dis i j c d e hi h hσ e1)
  · obtain ⟨e1, g1⟩ := old _ _ h1
    obtain ⟨e2, g2⟩ := old _ _ h2
    exact I.dis j k c e1 e2 g1 g2 h3 h4
/-- x.append(e) -/
def cApp (i : Nat) (m : M D) : Cmd := fun w => match w.Γ[i]? with
  | some (.own (.lst _)) => (m w).out fun d w => match w.Γ[i]? with
    | some (.own (.lst ds)) => if ds.length < sizeLine then .nx ⟨w.Γ.set i (.own (.lst (ds ++ [d]))), w.S⟩ else .bad
    | _ => .bad
  | _ => .bad
theorem tyV_lst {K : PySem.W.Frag} {a : Addr} {H : Hp} {vs : List V} (h : H a = some (.lst vs)) : tyV K "list" (.ref a) H := Or.inl ⟨rfl, _, Or.inl (Or.inl h)⟩
theorem sd_app {i : Nat} {x : Str} {e : Expr} {m : M D} {p apos cpos : Pos} (hx : PE X (.Name x p) (tVar i)) (h : ED X b e m)
    (hbase : attributeBase (.Name x p) "append" X.env (eval (.Name x p) X.env) = eval (.Name x p) X.env := by rfl)
    (hfew : ((backTo cpos (starEach (e :: []) X.env)).all (fun x => !x.1) && (backToKw cpos (keywordEach [] X.env)).all (fun x => x.1.isSome)
      && decide ((e :: ([] : List Expr)).length + ([] : List Keyword).length + (if ([] : List Keyword).isEmpty then 0 else 1) < 30)) = true := by rfl)
    (hline : (apos.endLine == cpos.line) = true := by rfl) (hs : starEach (e :: []) X.env = (false, eval e X.env) :: starEach [] X.env := by rfl)
    (hsw : swapsWith (.Call (.Attribute (.Name x p) "append" apos) [e] [] cpos) none pos.line X.env = pure false := by rfl) :
    SD X b (.Expr (.Call (.Attribute (.Name x p) "append" apos) [e] [] cpos) pos) (cApp i m) :=
  PS.weak (ps_expr (pe_bm PySem.F.plainAttrs_list PySem.F.slot_list_append PySem.F.type_list_append mt_append hx (pa_cons h pa_nil hs) hbase hfew hline hs) hsw) fun N σ H ⟨F, w, I, p⟩ => by
    unfold cApp at p
    split at p
    · rename_i ds0 e0
      obtain ⟨a, e1, hF, h0, t⟩ := I.slot i _ e0
      cases t with
      | @lst vs0 _ hv0 rv0 =>
        refine ⟨.ref a, e1, tyV_lst hv0, F, w, I, (PostS.ex p).mono fun v H1 ⟨F1, w1, d, i1, r1, x1, p1⟩ => ?_⟩
        have r1 : Rep b.g F1 v d := r1
        split at p1
        · rename_i ds e2
          obtain ⟨hz, p2⟩ := outIte p1
          obtain ⟨a', e3, hF', h0', t'⟩ := i1.slot i _ e2
          rw [e1] at e3
          cases e3
          cases t' with
          | @lst vs _ hv rv =>
            exact ⟨a, vs, v, rfl, rfl, hv, by rw [rv.length]; exact hz, p2 F1 σ _ (Same.refl _) (i1.chg e2 e1 (.lst upd_same (rv.append (.one r1))))⟩
        · exact p1.elim
    · exact p.elim
/-- x.extend(e), e a list -/
def cExt (i : Nat) (m : M D) : Cmd := fun w => match w.Γ[i]? with
  | some (.own (.lst _)) => (m w).out fun d w => match w.Γ[i]?, d with
    | some (.own (.lst ds)), .lst es => if ds.length + es.length ≤ sizeLine then .nx ⟨w.Γ.set i (.own (.lst (ds ++ es))), w.S⟩ else .bad
    | _, _ => .bad
  | _ => .bad
theorem sd_ext {i : Nat} {x : Str} {e : Expr} {m : M D} {p apos cpos : Pos} (hx : PE X (.Name x p) (tVar i)) (h : ER X b e m)
    (hbase : attributeBase (.Name x p) "extend" X.env (eval (.Name x p) X.env) = eval (.Name x p) X.env := by rfl)
    (hfew : ((backTo cpos (starEach (e :: []) X.env)).all (fun x => !x.1) && (backToKw cpos (keywordEach [] X.env)).all (fun x => x.1.isSome)
      && decide ((e :: ([] : List Expr)).length + ([] : List Keyword).length + (if ([] : List Keyword).isEmpty then 0 else 1) < 30)) = true := by rfl)
    (hline : (apos.endLine == cpos.line) = true := by rfl) (hs : starEach (e :: []) X.env = (false, eval e X.env) :: starEach [] X.env := by rfl)
    (hsw : swapsWith (.Call (.Attribute (.Name x p) "extend" apos) [e] [] cpos) none pos.line X.env = pure false := by rfl) :
    SD X b (.Expr (.Call (.Attribute (.Name x p) "extend" apos) [e] [] cpos) pos) (cExt i m) :=
  PS.weak (ps_expr (pe_bm PySem.F.plainAttrs_list PySem.F.slot_list_extend PySem.F.type_list_extend mt_extend hx (pa_cons h pa_nil hs) hbase hfew hline hs) hsw) fun N σ H ⟨F, w, I, p⟩ => by
    unfold cExt at p
    split at p
    · rename_i ds0 e0
      obtain ⟨a, e1, hF, h0, t⟩ := I.slot i _ e0
      cases t with
      | @lst vs0 _ hv0 rv0 =>
        refine ⟨.ref a, e1, tyV_lst hv0, F, w, I, (PostS.ex p).mono fun v H1 ⟨F1, w1, d, i1, r1, x1, p1⟩ => ?_⟩
        split at p1
        · rename_i ds es e2
          obtain ⟨hz, p2⟩ := outIte p1
          obtain ⟨a', e3, hF', h0', t'⟩ := i1.slot i _ e2
          rw [e1] at e3
          cases e3
          obtain ⟨l, us, rfl, hl, rl⟩ := relR.lst r1 i1.sub
          cases t' with
          | @lst vs _ hv rv =>
            exact ⟨a, l, vs, us, rfl, rfl, hv, hl, by rw [rv.length, rl.length]; exact hz, p2 F1 σ _ (Same.refl _) (i1.chg e2 e1 (.lst upd_same (rv.append rl)))⟩
        · exact p1.elim
    · exact p.elim
/-- x[k] = e -/
def putW (i : Nat) (d k : D) : Cmd := fun w => match w.Γ[i]?, k with
  | some (.own (.lst ds)), .int n => match ixN ds.length n with
    | some j => .nx ⟨w.Γ.set i (.own (.lst (ds.set j d))), w.S⟩
    | none => .bad
  | _, _ => .bad
def cPut (i : Nat) (mk me : M D) : Cmd := fun w => (me w).out fun d w => (mk w).out fun k => putW i d k
theorem sd_put {i : Nat} {x : Str} {e k : Expr} {me mk : M D} {p tpos : Pos} (hx : PE X (.Name x p) (tVar i)) (he : ED X b e me) (hk : ED X b k mk) (hnb : ∀ w, ∃ d w', mk w = .ok d w' ∧ w' = w ∨ mk w = .bad)
    (ha : ∀ v, assign (.Subscript (.Name x p) k tpos) X.env v = (do
      let ov ← holding [v] (eval (.Name x p) X.env)
      let iv ← holding [v, ov] (eval k X.env)
      standAt tpos
      holding [v, ov, iv] (setItem ov iv v)
      release [v, ov, iv] []) := by intro _; rfl)
    (hs : swapsWithSole [.Subscript (.Name x p) k tpos] e pos.line X.env = pure false := by rfl) (hw : swappedStores [.Subscript (.Name x p) k tpos] e X.env = pure none := by rfl)
    (h1 : (assignEach [.Subscript (.Name x p) k tpos] X.env).map (·.2) = [assign (.Subscript (.Name x p) k tpos) X.env] := by rfl) :
    SD X b (.Assign [.Subscript (.Name x p) k tpos] e pos) (cPut i mk me) :=
  PS.weak (ps_asg he (pg_sub hx hk set_list ha) hs hw h1) fun N σ H ⟨F, w, I, p⟩ => ⟨F, w, I, (PostS.ex p).mono fun v H1 ⟨F1, w1, d, i1, r1, x1, p1⟩ => by
    have r1 : Rep b.g F1 v d := r1
    -- the list's place is read first: it stands before the index is reckoned
    obtain ⟨d2, w2, q⟩ := hnb w1
    rcases q with ⟨q, rfl⟩ | q
    · rw [q] at p1
      have p2 : PostS b F1 (putW i d d2 w2) N := p1
      unfold putW at p2
      split at p2
      · rename_i ds n e2
        obtain ⟨a, e3, hF', h0', t'⟩ := i1.slot i _ e2
        cases t' with
        | @lst vs _ hv rv =>
          cases ej : ixN ds.length n with
          | none => rw [ej] at p2; exact p2.elim
          | some j =>
            rw [ej] at p2
            refine ⟨.ref a, e3, F1, w2, i1, Post.of_ok q fun F3 H3 u x3 i3 r3 => ?_⟩
            have r3 : Rep b.g F3 u (.int n) := r3
            cases r3
            obtain ⟨a', e4, _, _, t3⟩ := i3.slot i _ e2
            rw [e3] at e4
            cases e4
            cases t3 with
            | @lst us _ hu ru =>
              exact ⟨a, us, n, j, rfl, rfl, hu, by rw [ru.length]; exact ej, p2 F3 σ _ x3.ff (i3.chg e2 e3 (.lst upd_same (ru.set (r1.mono x3.ff) j)))⟩
      · exact p2.elim
    · rw [q] at p1; exact p1.elim⟩
end
end FP


set_option Elab.async false
set_option linter.all false
set_option maxRecDepth 100000
set_option maxHeartbeats 4000000
/-! FP8: an own exception whose __init__ hands a text on by super() and keeps a word. -/
namespace FPX
open PySem PySem.W PySem.Calls PyProof.Rows PySem.HandSPX
/-- the text of __init__(self, fld): super().__init__(pre + fld); self.fld = fld -/
structure Ps where
  p : Nat → Pos
def iA (f : Str) (p : Nat → Pos) : Arguments := { posonlyargs := [], args := [{ arg := "self", annotation := none, pos := p 0 }, { arg := f, annotation := none, pos := p 1 }], vararg := none, kwonlyargs := [], kw_defaults := [], kwarg := none, defaults := [] }
def iB (pre f : Str) (p : Nat → Pos) : List Stmt :=
  [.Expr (.Call (.Attribute (.Call (.Name "super" (p 2)) [] [] (p 3)) "__init__" (p 4)) [.BinOp (.Constant (.str pre) 0 (p 5)) .Add (.Name f (p 6)) (p 7)] [] (p 8)) (p 9),
   .Assign [.Attribute (.Name "self" (p 10)) f (p 11)] (.Name f (p 12)) (p 13)]
def iS (f : Str) : Scope := { kind := .function, names := [(PySem.Str.ofString "self", .local), (f, .local), (PySem.Str.ofString "__class__", .free), (PySem.Str.ofString "super", .globalImplicit)], isGenerator := false, isCoroutine := false, more := [] }
structure MsTxt (prog : Program) (K : Frag) (mg : Str → Option Value) (nC pre f qual : Str) (C fI cc cda : Addr) : Prop where
  gC : mg nC = some (.ref C)
  cls : ∃ nm q N bs bm sn sub ab col dd k0 k1 k2 k3 k5, K.lookup C = some (excClassObj nm q C N bs bm true sn sub ab col dd k0 k1 k2 k3 k5 "ValueError.__new__") ∧ refsVE bm = true
  sa : findIn K (.ref C) "__setattr__" = some (some (.builtin "object.__setattr__"))
  ga : findIn K (.ref C) "__getattribute__" = some (some (.builtin "BaseException.__getattribute__"))
  gg : findIn K (.ref C) "__getattr__" = some none
  noN : findIn K (.ref C) f = some none
  iC : findIn K (.ref C) "__init__" = some (some (.ref fI))
  tC : typeIn K (.ref fI) = some (.type "function")
  kC : keepIn K (.ref C) = true
  exC : subIn K (.ref C) (.type "BaseException") = some true
  tyC : typeIn K (.ref C) = some (.type "type")
  hdC : hasDictIn K C = true
  te : exmOne K (.ref C) (.ref C) = some true
  fn : ∃ (oc : Value) (od : Option Addr) (doc pm : Value) (an : Option Addr) (ct : Value) (osl : Array (Option Value)) (p : Nat → Pos),
    K.lookup fI = some ⟨oc, od, .func (ksFn "__init__" qual (iA f p) (iB pre f p) (iS f) .none .none doc pm an (.ref cda) ct cc), osl⟩ ∧ codeIn K (.ref cda) qual = true ∧ (∃ pl : Sem Bool, ∀ env : Env, eval (.Call (.Attribute (.Call (.Name "super" (p 2)) [] [] (p 3)) "__init__" (p 4)) [.BinOp (.Constant (.str pre) 0 (p 5)) .Add (.Name f (p 6)) (p 7)] [] (p 8)) env = (do
      let ov ← attributeBase (.Call (.Name "super" (p 2)) [] [] (p 3)) "__init__" env (eval (.Call (.Name "super" (p 2)) [] [] (p 3)) env)
      standAt (p 4).atName
      let (f', first) ← holding [ov] (getMethod ov "__init__" pl)
      callWith (p 8) f' first (backTo (p 8) (starEach [.BinOp (.Constant (.str pre) 0 (p 5)) .Add (.Name f (p 6)) (p 7)] env)) []))
  cell : ∃ cl cld csl, K.lookup cc = some ⟨cl, cld, .cell (some (.ref C)), csl⟩
  code : ∃ ccl cdd vs ccs file tf, K.lookup cda = some ⟨ccl, cdd, .fields vs, ccs⟩ ∧ vs[2]? = some (.str file tf) ∧ ((prog.main.file : Str) == file) = true
  top : (prog.main.scope.names.lookup ("super" : Str)).isSome = false
  gs : mg "super" = none
  self : mroIn K C (.ref C) = some true
  up : ks_superIn K C C "__init__" = some (some (.builtin "ValueError.__init__"))
  isV : subIn K (.ref C) (.type "ValueError") = some true
  st : nsIn K cStatics "thirdparty.any" = some none
/-- what __init__ leaves of a fresh exception at x -/
structure InitEnd (h h' : Heap) (x C dx t1 : Addr) (f : Str) (v : Value) : Prop where
  keep : ∀ b o, b ≠ x → h.get? b = some o → h'.get? b = some o
  obj : h'.get? x = some { cls := .ref C, dict := some dx, data := .fields #[.ref t1, .none, .none, .none, .bool false, .none] }
  dbig : h.objs.size ≤ dx
  dne : dx ≠ x
  ns : h'.Ns1 dx (fun y => if y = f then some v else none)
section
variable {prog : Program} {w : World} {M : Model} {A : Around} {E : Value → Shared → Prop} {R : Result → Shared → Prop} {h : Heap} {g : Array GenState} {d : Drawn} {t : Nat} {os : OsState} {s : Shared} {K : Frag} {mg : Str → Option Value} {C fI cc cda : Addr} {nC pre f qual : Str}
/-- the bound ValueError.__init__ is called: the arguments are laid anew -/
theorem call_veinit {nm q : Str} {N : Addr} {bs bm : List Value} {hdct : Bool} {sn : List Str} {sub : List Value} {ab : Bool} {col : Option Bool} {dd : Option Addr} {k0 k1 k2 k3 k5 : Option Value} {u e t0 : Addr} {rest : List Value} {Q : Value → Shared → Prop}
    (hC : h.get? C = some (excClassObj nm q C N bs bm hdct sn sub ab col dd k0 k1 k2 k3 k5 "ValueError.__new__")) (he : h.get? e = some (excO C t0)) (hu : h.get? u = some (kxs_mw "ValueError.__init__" e)) (hz : rest.length ≤ sizeLine)
    (hq : ∀ h' t1, (∀ b o, b ≠ e → h.get? b = some o → h'.get? b = some o) → h'.get? e = some (excO C t1) → Q .none ⟨h', g, d, t, os⟩) :
    wpAny (model prog w) A (call (.ref u) rest) Q E ⟨h, g, d, t, os⟩ := by
  refine wpAny_call (codeAny_of_tree ?_)
  show wpAny _ A.in1 (callAny (.ref u) ⟨rest, []⟩) _ _ _
  simp only [callAny]
  refine wpAny_bind (wpAny_load hu ?_)
  simp only [kxs_mw, show (Value.type "method-wrapper" == Value.type "method" || Value.type "method-wrapper" == Value.type "builtin_function_or_method" || Value.type "method-wrapper" == Value.type "method-wrapper") = true by decide, if_true]
  refine KFB.if_so (by decide) ?_
  refine wpAny_bind (check_bound_init F.excBase_ValueError.toExcCallFacts hC he rfl ?_)
  refine wpAny_bind (wpAny_pure (wpAny_pure ?_))
  refine ⟨Code.quiet_builtin _ (by decide +kernel), codeAny_builtin F.excBase_ValueError.initEntry ?_⟩
  rw [Around.under_plainId F.excBase_ValueError.init.plain _]
  wp_walk
  refine hq _ h.objs.size (fun b o hb ho => ?_) ?_
  · rw [Heap.get?_update_other _ _ (Ne.symm hb)]
    exact Heap.get?_push_of_some _ ho
  · rw [Heap.get?_update_self _ (Heap.get?_push_of_some _ he) rfl]
    rfl
theorem loc_name {scope : Scope} {name : Str} {L a : Addr} {cd : Value} {cl : List (Str × Addr)} {m : Str → Option Value} {x : Str} {pos : Pos} {v : Value} {Q : Value → Shared → Prop} (hn : s.heap.Ns L m) (hv : m x = some v) (h : Q v s)
    (hk : scope.kind = .function) (hl : scope.names.lookup x = some .local) (hd : (x == ("__debug__" : Str)) = false) :
    wpAny M A (eval (.Name x pos) (envX name scope L a cd cl)) Q E s := wpAny_Name (wpAny_loadName_local hk hl hn hv h) hd
theorem ms_init (c : FP.EC) (T : MsTxt prog K mg nC pre c.fld qual C fI cc cda) {x t0 : Addr} {z : Str} {tz : Tok} (X : K.In s.heap) (hlim : s.heap.NoLimit) (hg : s.heap.Ns mainGlobals mg) (hb : ∃ mb, s.heap.Ns builtinsNs mb ∧ ∀ x : Str, x ≠ "__name__" → mb x = bootBuiltins x)
    (hx : s.heap.get? x = some (excO C t0)) (hnx : K.lookup x = none) (hroom : A.depth < recursionLimit) (hz : pre.length + z.length ≤ sizeLine)
    (hq : ∀ h' tk dx t1, InitEnd s.heap h' x C dx t1 c.fld (.str z tz) → R (.ok (.ret .none)) { s with heap := h', toks := tk }) :
    codeAny (model prog w) A (.call (.ref fI) ⟨[.ref x, .str z tz], []⟩) R s := by
  obtain ⟨oc, od, doc, pm, an, ct, osl, p, ho, hcd, pl, hev⟩ := T.fn
  obtain ⟨nm, q, N, bs, bm, sn, sub, ab, col, dd, k0, k1, k2, k3, k5, hC, hbm⟩ := T.cls
  obtain ⟨ccl, cdd, vs, ccs, file, tf, hcode, hvs, hfile⟩ := T.code
  obtain ⟨cl, cld, csl, hcell⟩ := T.cell
  have hcl : clsIn K C = some { name := nm, bases := bs, mro := .ref C :: bm, ns := N, qualname := q, hasDict := true, slotNames := sn, subclasses := sub, abstract := ab, collection := col, hasDel := false } := by unfold clsIn; rw [hC] <;> rfl
  have hself : (iS c.fld).names.lookup ("self" : Str) = some .local := by cases c <;> rfl
  have hfl : (iS c.fld).names.lookup c.fld = some .local := by cases c <;> rfl
  have hkc : (iS c.fld).names.lookup ("__class__" : Str) = some .free := by cases c <;> rfl
  have hks : (iS c.fld).names.lookup ("super" : Str) = some .globalImplicit := by cases c <;> rfl
  have hf4 : (c.fld == ("__debug__" : Str)) = false := by cases c <;> decide
  have hxC : x ≠ C := fun e => by rw [e, hC] at hnx; cases hnx
  refine ks_codeAny_call_defAt (fd := ksFn "__init__" qual (iA c.fld p) (iB pre c.fld p) (iS c.fld) .none .none doc pm an (.ref cda) ct cc) (body := iB pre c.fld p) (binds := [("self", .ref x), (c.fld, .str z tz)]) hroom (X _ _ ho) rfl hlim (codeRec_of X hcd) rfl (BindsTo.of_eq (by cases c <;> rfl)) ?_ ?_ (fun h1 hn k => ?_) rfl rfl rfl
  · show ∀ y ∈ (iS c.fld).names, y.2 ≠ .cell
    cases c <;> decide
  · intro y hy
    simp only [List.mem_cons, List.not_mem_nil, or_false] at hy
    rcases hy with rfl | rfl
    · exact hself
    · exact hfl
  obtain ⟨hp, gs, dr, tk, os⟩ := s
  dsimp only at *
  have X1 : K.In h1 := X.keeps k
  have hx1 := k _ _ hx
  have hm1 : ([("self", Value.ref x), (c.fld, Value.str z tz)] : List (Str × Value)).reverse.lookup ("self" : Str) = some (.ref x) := by cases c <;> rfl
  have hm2 : ([("self", Value.ref x), (c.fld, Value.str z tz)] : List (Str × Value)).reverse.lookup c.fld = some (.str z tz) := by cases c <;> rfl
  have hDcl : ∃ oD cdD, h1.get? C = some oD ∧ oD.data = .cls cdD := ⟨_, _, X1 _ _ hC, rfl⟩
  obtain ⟨oD, cdD, hD1, hD2⟩ := hDcl
  obtain ⟨mb, hb1, hb2⟩ := hb
  show PySem.wpAt _ _ _ (execs (iB pre c.fld p) _) _ _ _
  unfold iB
  refine ks_wpAt_execs_cons (ks_wpAt_Expr_any (ks_wpAt_MethodCall (args := [.BinOp (.Constant (.str pre) 0 (p 5)) .Add (.Name c.fld (p 6)) (p 7)]) ?_ (hev _)) (by rfl) (by rfl))
  refine ks_wpAt_super_base (env := envX qual (iS c.fld) hp.objs.size fI (.ref cda) [("__class__", cc)]) hks hkc (by decide) rfl (X1 _ _ ho) rfl rfl rfl (X1 _ _ hcode) rfl hvs hfile T.top ?_
  refine ks_loadName_global rfl hks (loadGlobal_builtin (env := envX qual (iS c.fld) hp.objs.size fI (.ref cda) [("__class__", cc)]) (hg.keeps k) T.gs (hb1.keeps k) ((hb2 _ (by decide)).trans (by decide +kernel)) ⟨rfl, ?_⟩)
  refine wpAny_loadName_free rfl hkc rfl ⟨_, X1 _ _ hcell, rfl⟩ ?_
  refine wpAny_loadName_local rfl hself hn hm1 ?_
  refine ks_wpAny_isType_cls hD1 hD2 ⟨rfl, ?_⟩
  refine ks_wpAny_call_super hD1 hD2 hx1 rfl (fun c' e => by cases e) (looks_mroIn X1 T.self) (fun h2 e2 k2 => ?_)
  have X2 : K.In h2 := X1.keeps k2
  have I2 : PySem.W.InstAt h2 x (excO C t0) C none := ⟨k2 _ _ hx1, rfl, rfl, trivial⟩
  have hup := T.up
  unfold ks_superIn at hup
  rw [hcl] at hup
  refine kxs_getMethod kxs_ValueError e2 (looks_opaque X2 T.st) (l₀ := .ref C :: bm) (fun A Q E s k q => wpAny_bind ((looks_clsIn X2 hcl) A _ E s k (wpAny_pure q))) rfl X2 hup (I2.type.andThen (looks_subIn X2 T.isV)) hxC (by decide) ?_
  -- the argument: pre + word
  have hso : (h2.push (kxs_mw "ValueError.__init__" x)).get? h2.objs.size = some (kxs_mw "ValueError.__init__" x) := Heap.get?_push_at rfl rfl
  have k3 : ∀ b o, h1.get? b = some o → (h2.push (kxs_mw "ValueError.__init__" x)).get? b = some o := fun b o e => Heap.get?_push_of_some _ (k2 b o e)
  have hn3 := hn.keeps k3
  refine kxs_callWith (i := "ValueError.__init__") (x := x) rfl ?_
  refine evalArgs_plain (Calls.spliced_cons ?_)
  refine wpAny_BinOp (Calls.Constant_str (loc_name hn3 hm2 ?_ rfl hfl hf4))
  refine PyProof.Rows.add_str (fun t' tk' => Calls.spliced_nil ⟨hso, ?_⟩) hz
  refine call_veinit (by exact (X2.keeps fun b o e => Heap.get?_push_of_some _ e) _ _ hC) (k3 _ _ hx1) hso (by rw [sizeLine_eq]; simp) (fun h4 t1 k4 hx4 => ?_)
  -- self.word = word
  have kk : ∀ b o, b ≠ x → h1.get? b = some o → h4.get? b = some o := fun b o hb e => k4 b o hb (k3 b o e)
  have xL : hp.objs.size ≠ x := Nat.ne_of_gt (Heap.lt_size hx)
  have X4 : K.In h4 := fun a o e => kk a o (fun e2 => by rw [e2, hnx] at e; cases e) (X1 a o e)
  have hn4 : h4.Ns hp.objs.size _ := hn.at fun o e => kk _ o xL e
  refine ks_wpAt_execs_cons (wpAt_of_wpAny (plainObj_wpAny_Assign_Attribute ?_))
  refine loc_name hn4 hm2 (loc_name hn4 hm1 ?_ rfl hself (by decide)) rfl hfl hf4
  refine set_plain X4 (ox := excO C t1) (od := none) ⟨hx4, rfl, rfl, trivial⟩ T.sa ?_
  refine exc_osa X4 hx4 hcl (show refsVE (.ref C :: bm) = true from hbm) rfl T.noN (fun h5 tk5 dx k5 dn dne hx5 hn5 => ?_)
  refine wpAt_of_wpAny (wpAny_execs_nil (hq h5 tk5 dx t1 ⟨fun b o hb e => k5 b o hb (kk b o hb (k b o e)), hx5, ?_, dne, hn5⟩))
  have z1 : hp.objs.size < h4.objs.size := hn4.lt
  exact Nat.le_of_lt (Nat.lt_of_lt_of_le z1 dn)
end
end FPX


set_option Elab.async false
set_option linter.all false
set_option maxRecDepth 100000
set_option maxHeartbeats 4000000
/-! FP9: raise Misstep(e), the caught error's word; defs and their calls. (The shape of ms_made, pmk_ms, pe_byMs is that of the skeleton 42_own_error_by_import, turned to this class.) -/
namespace FPX
open PySem PySem.W PySem.Calls PyProof.Rows PySem.HandSPX
/-- a made exception -/
structure Made (h h' : Heap) (e C d : Addr) (f : Str) (v : Value) : Prop where
  keep : ∀ b o, h.get? b = some o → h'.get? b = some o
  new : h.objs.size ≤ e
  obj : ∃ oe vs, h'.get? e = some oe ∧ oe.cls = .ref C ∧ oe.dict = some d ∧ oe.data = .fields vs ∧ vs[1]? = some .none
  dbig : h.objs.size ≤ d
  dne : d ≠ e
  ns : h'.Ns1 d (fun y => if y = f then some v else none)
section
variable {prog : Program} {w : World} {A : Around} {E : Value → Shared → Prop} {R : Result → Shared → Prop} {s : Shared} {K : Frag} {mg : Str → Option Value} {C fI cc cda : Addr} {nC pre qual : Str}
theorem ms_made (c : FP.EC) (T : MsTxt prog K mg nC pre c.fld qual C fI cc cda) {z : Str} {tz : Tok} (X : K.In s.heap) (hlim : s.heap.NoLimit) (hg : s.heap.Ns mainGlobals mg) (hb : ∃ mb, s.heap.Ns builtinsNs mb ∧ ∀ x : Str, x ≠ "__name__" → mb x = bootBuiltins x)
    (hroom : A.depth + 1 < recursionLimit) (hz : pre.length + z.length ≤ sizeLine)
    (hq : ∀ h' tk e d, Made s.heap h' e C d c.fld (.str z tz) → R (.ok (.ret (.ref e))) { s with heap := h', toks := tk }) :
    codeAny (model prog w) A (.call (.ref C) ⟨[.str z tz], []⟩) R s := by
  obtain ⟨nm, q, N, bs, bm, sn, sub, ab, col, dd, k0, k1, k2, k3, k5, hC, hbm⟩ := T.cls
  obtain ⟨hp, g, dr, tk, os⟩ := s
  have k : ∀ b o, hp.get? b = some o → ((hp.push (kdv_tup [.str z tz])).push (excO C hp.objs.size)).get? b = some o := fun b o e => Heap.get?_push_of_some _ (Heap.get?_push_of_some _ e)
  have hget : ((hp.push (kdv_tup [.str z tz])).push (excO C hp.objs.size)).get? (hp.objs.size + 1) = some (excO C hp.objs.size) := by heap_get
  have hnx : K.lookup (hp.objs.size + 1) = none := by
    cases e : K.lookup (hp.objs.size + 1) with
    | none => rfl
    | some o =>
      have y : hp.get? (hp.objs.size + 1) = some o := X _ _ e
      exact absurd (Nat.lt_of_succ_lt (Heap.lt_size y)) (Nat.lt_irrefl _)
  obtain ⟨mb, hb1, hb2⟩ := hb
  refine call_own F.excBase_ValueError (fun X => refsVE_contains X bm hbm) (X _ _ hC) (looks_findIn X T.iC) (fun self => bind_fn X self T.tC) (by rw [sizeLine_eq]; simp) ?_
  refine ms_init (s := ⟨(hp.push (kdv_tup [.str z tz])).push (excO C hp.objs.size), g, dr, tk, os⟩) c T (X.keeps k) (hlim.keeps k) (hg.keeps k) ⟨mb, hb1.keeps k, hb2⟩ hget hnx ?_ hz fun h' tk' dx t1 ⟨k', hx, dn, dne, hns⟩ => ?_
  · show A.depth + 1 < recursionLimit
    exact hroom
  · have old : ∀ b o, hp.get? b = some o → h'.get? b = some o := fun b o e => k' b o (Nat.ne_of_lt (Nat.lt_succ_of_lt (Heap.lt_size e))) (k b o e)
    have y : hp.objs.size + 1 + 1 ≤ dx := by
      first
        | (simpa only [Heap.size_push] using dn)
        | exact dn
        | (have q := dn; rw [Heap.size_push, Heap.size_push] at q; exact q)
    exact ⟨rfl, hq h' tk' (hp.objs.size + 1) dx ⟨old, Nat.le_succ _, ⟨_, _, hx, rfl, rfl, rfl, rfl⟩, Nat.le_trans (Nat.le_trans (Nat.le_succ _) (Nat.le_succ _)) y, dne, hns⟩⟩
end
end FPX
namespace FP
open PySem PySem.Spec PyProof.Rows L2
theorem relO_one {v : V} {v' : Value} (r : RelV v v') (fl f : Str) : RelO (List.lookup f [(fl, v)]) (if f = fl then some v' else none) := by
  by_cases hw : f = fl
  · subst hw
    rw [if_pos rfl, List.lookup_cons, beq_self_eq_true]
    exact r
  · rw [if_neg hw, List.lookup_cons, show (f == fl) = false by simpa using hw]
    trivial
section
variable {X : Cx} {C fI cc cda : Addr} {nC pre qual : Str}
/-- C(e), e a text -/
def tMkMs (C : Addr) (f : Str) (pre : Str) (ta : TA) : L2.St → Hp → XK → Prop := fun σ H Q => ta σ H fun vs H1 => ∃ z : Str, vs = [.str z] ∧ pre.length + z.length ≤ sizeLine ∧ ∀ d, H1 d = none → Q (.ref C) (some d) (upd H1 d (.xd [(f, .str z)]))
theorem pmk_ms {a : Expr} {ta : TA} {p pos : Pos} {k : Nat} (c : EC) (T : FPX.MsTxt X.prog X.K X.mg nC pre c.fld qual C fI cc cda) (hr : Room k X.A) (ha : PA X [a] ta) (hg : Gl X nC) (hdb : (nC == ("__debug__" : Str)) = false := by decide)
    (he : starEach (a :: []) X.env = (false, eval a X.env) :: starEach [] X.env := by rfl) (hpl : (backTo pos (starEach [] X.env)).any (·.1) = false := by rfl) :
    PMk X (.Call (.Name nC p) [a] [] pos) (tMkMs C c.fld pre ta) := by
  intro pins s σ H Q I h
  refine wpAny_Call_Name_kw (ld_glob I hg T.gC ?_ hdb)
  refine PySem.W.callWith_K (h₀ := X.base) I.ok.mod.kin T.kC (thn (ha.run pos pins s σ H _ I h) fun us s1 hh => ?_) he hpl
  obtain ⟨vs, H1, I1, r1, z, ev, hz, q1⟩ := hh
  subst ev
  refine ⟨I1.kIn, ?_⟩
  cases r1 with
  | cons rv rn =>
    rename_i v' us'
    cases rn
    obtain ⟨tz, rfl⟩ := rv
    show wpAny _ _ (call (.ref C) [.str z tz]) _ _ _
    have hlim := I1.nolimit
    have hgl : s1.heap.Ns mainGlobals X.mg := I1.mod.glob.keeps I1.bk
    obtain ⟨mb, b1, b2⟩ := I1.mod.blt
    have hbl : ∃ mb, s1.heap.Ns builtinsNs mb ∧ ∀ x : Str, x ≠ "__name__" → mb x = bootBuiltins x := ⟨mb, b1.keeps I1.bk, b2⟩
    obtain ⟨hp, g, dr, tk, os⟩ := s1
    refine wpAny_call (FPX.ms_made c T I1.kIn hlim hgl hbl (by have := hr.dp; omega) hz fun h' tk' e d M => ?_)
    show MkP X pins σ Q (.ref e) ⟨h', g, dr, tk', os⟩
    obtain ⟨oe, fv, hoe, hc, hd, hdat, h1⟩ := M.obj
    have hns := M.ns
    obtain ⟨G', g1, g2⟩ := restrict h' fun b => decide (b ≠ e)
    have gk : ∀ b, b ≠ e → G'.get? b = h'.get? b := fun b hb => g1 b (decide_eq_true hb)
    have ge : G'.get? e = none := g2 e (by simp)
    have old : ∀ b o, hp.get? b = some o → G'.get? b = some o := fun b o q => (gk b (Nat.ne_of_lt (Nat.lt_of_lt_of_le (Heap.lt_size q) M.new))).trans (M.keep b o q)
    have ob : ObjOk X.prog X.w (upd H1 d (.xd [(c.fld, .str z)])) G' d (.xd [(c.fld, .str z)]) :=
      ⟨_, hns.at (fun o q => (gk d M.dne).trans q), fun f => relO_one (v := .str z) ⟨tz, rfl⟩ _ f⟩
    have J : Inv X pins σ (upd H1 d (.xd [(c.fld, .str z)])) ⟨G', g, dr, tk', os⟩ := I1.laid (t' := tk') old M.dbig ob
    refine ⟨e, oe, fv, ⟨G', g, dr, tk', os⟩, _, .ref C, some d, rfl, J, fun b o q => ?_, ge, hoe, ⟨hc, hd⟩, hdat, h1, ?_, rfl, I1.bare, raises_own T.exC T.tyC, q1 d (I1.hok.fresh M.dbig)⟩
    · by_cases hb : b = e
      · have q' : G'.get? b = some o := q
        rw [hb, ge] at q'; cases q'
      · exact (gk b hb).symm.trans q
    · rw [upd_ne (Ne.symm M.dne)]
      exact I1.hok.fresh M.new
/-- err.word, err the exception that the suite holds (at a; its class cls, its dict d) -/
def tByMs (C : Addr) (f : Str) (a : Addr) (cls : Value) (d : Option Addr) (te : TE) : TE := fun σ H Q => te σ H fun x H1 => x = .ref a ∧ cls = .ref C ∧ ∃ (dd : Addr) (v : V), d = some dd ∧ H1 dd = some (.xd [(f, v)]) ∧ Q v H1
theorem pe_byMs {a : Addr} {oe : Obj} {cls : Value} {d : Option Addr} {pn : List (Addr × Obj)} {e : Expr} {te : TE} {pos : Pos} (c : EC) (T : FPX.MsTxt X.prog X.K X.mg nC pre c.fld qual C fI cc cda) (hz : Zc cls d oe) (hf : ∃ vs, oe.data = .fields vs) (he : PE (X.suite a ((a, oe) :: pn)) e te)
    (hb : attributeBase e c.fld X.env (eval e X.env) = eval e X.env) :
    PE (X.suite a ((a, oe) :: pn)) (.Attribute e c.fld pos) (tByMs C c.fld a cls d te) := by
  refine ⟨fun pins s σ H Q I h => ?_⟩
  refine attr_of hb (thn (he.run pins s σ H _ I h) fun u s1 hh => ?_)
  obtain ⟨x, H1, I1, rx, ex, ec, dd, v, ed, ea, q⟩ := hh
  subst ex
  obtain rfl : u = Value.ref a := rx
  subst ec
  subst ed
  obtain ⟨ha, _⟩ := I1.pin (a, oe) (List.mem_append_left _ List.mem_cons_self)
  obtain ⟨vs, hd⟩ := hf
  have hx : ObjOk X.prog X.w H1 s1.heap dd (.xd [(c.fld, v)]) := I1.hok dd _ ea
  obtain ⟨mA, hns, hr⟩ := hx
  obtain ⟨od, ho, hl⟩ := lookIn_ns hns
  have l : List.lookup c.fld [(c.fld, v)] = some v := by rw [List.lookup_cons, beq_self_eq_true]
  obtain ⟨u, hu, ru⟩ := RelO.some_of (v := v) (o := mA c.fld) (by rw [← l]; exact hr c.fld)
  have J : PySem.W.InstAt s1.heap a oe C (some od) := ⟨ha, hz.1, by unfold PySem.W.notCls; rw [hd] <;> rfl, by rw [hz.2]; exact ho⟩
  exact HandSPX.exc_get I1.kIn J T.ga T.gg T.exC (PySem.W.findObj_own T.hdC T.noN rfl (by rw [hl, hu])) (handed_of ru) ⟨v, H1, I1.tok _, ru, q⟩
end

/-! ### raise, try -/
section
variable {X : Cx} {b : B} {C fI cc cda : Addr} {nC pre qual : Str}
def cRaise (c : EC) (pre : Str) (m : M D) : Cmd := fun w => (m w).out fun d w => match d with
  | .str z => if pre.length + z.length ≤ sizeLine then .exc c z w else .bad
  | _ => .bad
theorem sd_raise {a : Expr} {m : M D} {p pos pos2 : Pos} {k : Nat} (c : EC) (hc : X.calm = true) (T : FPX.MsTxt X.prog X.K X.mg nC pre c.fld qual C fI cc cda) (hC : b.g.cls c = C) (hr : Room k X.A) (tk : Takes X b.X) (ha : ED X b a m) (hg : Gl X nC) (hdb : (nC == ("__debug__" : Str)) = false := by decide)
    (he : starEach (a :: []) X.env = (false, eval a X.env) :: starEach [] X.env := by rfl) (hpl : (backTo pos (starEach [] X.env)).any (·.1) = false := by rfl) :
    SD X b (.Raise (some (.Call (.Name nC p) [a] [] pos)) none pos2) (cRaise c pre m) :=
  PS.weak (ps_raise hc tk (pmk_ms c T hr (pa_cons ha pa_nil he) hg hdb he hpl)) fun N σ H ⟨F, w, I, p⟩ => ⟨F, w, I, (PostS.ex p).mono fun x H1 ⟨F1, w1, d, i1, r1, x1, p1⟩ => by
    have r1 : Rep b.g F1 x d := r1
    cases d with
    | str z =>
      cases r1
      obtain ⟨hz, p2⟩ := outIte p1
      refine ⟨z, rfl, hz, fun q hq => ?_⟩
      have := p2 F1 σ _ q (i1.lay (o := .xd [(c.fld, .str z)]) hq) upd_same
      rw [hC] at this
      exact this
    | _ => exact p1.elim⟩
/-- try: body / except C as e: return e.f -/
def cTry (i : Nat) (c : EC) (m : Cmd) : Cmd := fun w => match m w with
  | .exc c' x w' => if c' = c ∧ i < w'.Γ.length then .rt (.str x) w' else .bad
  | o => o
def B.wish (b : B) (W : WX) : B := { b with X := W }
theorem sd_try {body : List Stmt} {x n : Str} {i : Nat} {np pn1 pn2 rpos pos pos' : Pos} {m : Cmd} (c : EC) (hs : X.stack = X.env :: X.outer) (hf : X.env.frame = some X.env.locals) (hN : X.N.Nodup) (hi : X.N[i]? = some n) (hln : X.env.kindOf n = some .local) (T : FPX.MsTxt X.prog X.K X.mg nC pre c.fld qual C fI cc cda) (hC : b.g.cls c = C)
    (hg : Gl X nC) (hdb : (nC == ("__debug__" : Str)) = false) (tk : Takes X b.X)
    (hb : ∀ (W : WX) (pn : List (Addr × Obj)) (xe : Value → Shared → Prop), Takes (X.tr pn xe) W → PassesOwn (model X.prog X.w) X.A X.env xe → SDs (X.tr pn xe) (b.wish W) body m)
    (hv : ∀ (a : Addr) (pn : List (Addr × Obj)), PE (X.suite a pn) (.Name n pn1) (tVar i)) (hat : attributeBase (.Name n pn1) c.fld X.env (eval (.Name n pn1) X.env) = eval (.Name n pn1) X.env) :
    SD X b (.Try body [.ExceptHandler (some (.Name nC np)) (some n) [.Return (some (.Attribute (.Name n pn1) c.fld pn2)) rpos] pos'] [] [] pos) (cTry i c m) := by
  refine PS.weak (ps_try_as (i := i) (tb := fun W => tS (b.wish W) m) (ts := fun a cls d => tRet (tByMs C c.fld a cls d (tVar i))) (Wout := b.X) hs hf hN hi hln ⟨hg, hdb, .inl T.gC⟩ tk hb
    fun a oe cls d pn hz hd => pss_one (ps_ret (pe_byMs c T hz hd (hv _ _) hat))) fun N σ H ⟨F, w, I, p⟩ => ⟨F, w, I, ?_⟩
  unfold cTry at p
  generalize m w = o at p ⊢
  cases o with
  | exc c' z w' =>
    have p' : PostS b F (if c' = c ∧ i < w'.Γ.length then .rt (.str z) w' else .bad) N := p
    obtain ⟨⟨e, hl⟩, p2⟩ := outIte p'
    subst e
    intro F' σ' H' dx i' hx
    have i0 : b.Inv F' σ' H' w' := i'
    refine ⟨true, ?_, fun _ a _ => ?_, fun z => Bool.noConfusion z⟩
    · show PySem.W.exmOne X.K (.ref (b.g.cls c')) (.ref C) = _
      rw [hC]; exact T.te
    · refine ⟨.ref a, List.getElem?_set_self (by rw [i0.len]; exact hl), rfl, ?_, dx, .str z, rfl, hx, p2 F' σ' H' (.str z) i0 (.str z)⟩
      show Value.ref (b.g.cls c') = _
      rw [hC]
  | nx w' => exact p
  | bk w' => exact p
  | ct w' => exact p
  | rt d w' => exact p
  | bad => exact p
end

/-! ### defs and their calls -/
inductive RF where
  | ok (d : D) (S : S) | exc (c : EC) (x : Str) (S : S) | bad
abbrev Fnc := List D → S → RF
def PostF (g : G) (F H : Hp) (r : RF) (Q : VK) (E : XK) : Prop := match r with
  | .ok d S' => ∀ F' H' v, Inv0 g F H F' H' S' → Rep g F' v d → Q v H'
  | .exc c x S' => ∀ F' H' dx, Inv0 g F H F' H' S' → H' dx = some (.xd [(c.fld, .str x)]) → E (.ref (g.cls c)) (some dx) H'
  | .bad => False
/-- the promise of a def that reckons f -/
def spD (gc : Gc) (n : Nat) (f : Fnc) : Sp := fun vs H Q E => ∃ (s c : Addr) (F : Hp) (ds : List D) (Sx : S), vs.length = n ∧ Same F H ∧ StOK ⟨gc, s, c⟩ F H Sx ∧ Reps ⟨gc, s, c⟩ F vs ds ∧ PostF ⟨gc, s, c⟩ F H (f ds Sx) Q E
/-- a def's body, run at its arguments -/
def runF (n : Nat) (c : Cmd) : Fnc := fun ds Sx => match c ⟨ds.map .frz ++ List.replicate (n - ds.length) .none, Sx⟩ with
  | .nx w => .ok .non w.S
  | .rt d w => .ok d w.S
  | .exc e x w => .exc e x w.S
  | _ => .bad
theorem Inv0.start {g : G} {F H : Hp} {Sx : S} (s : Same F H) (st : StOK g F H Sx) : Inv0 g F H F H Sx := ⟨s, Same.refl _, fun _ _ h => .inl h, fun _ _ h _ _ => h, st, Sx, st⟩
theorem start_get {N : List Str} {vs : List V} {i : Nat} {v : V} (h : vs[i]? = some v) : (L2.start N vs)[i]? = some (some v) := by
  unfold L2.start
  have hi : i < vs.length := (List.getElem?_eq_some_iff.mp h).1
  rw [List.getElem?_append_left (by simpa using hi), List.getElem?_map, h]; rfl
theorem Inv2.start {g : G} {F H : Hp} {Sx : S} {N : List Str} {vs : List V} {ds : List D} (s : Same F H) (st : StOK g F H Sx) (r : Reps g F vs ds) : Inv2 g F H F (L2.start N vs) H ⟨ds.map .frz ++ List.replicate (N.length - ds.length) .none, Sx⟩ := by
  have get : ∀ (j : Nat) (x : Slot), (ds.map Slot.frz ++ List.replicate (N.length - ds.length) Slot.none)[j]? = some x → x = .none ∨ ∃ d, ds[j]? = some d ∧ x = .frz d := fun j x h => by
    by_cases hj : j < ds.length
    · rw [List.getElem?_append_left (by simpa using hj), List.getElem?_map, List.getElem?_eq_getElem hj] at h
      exact .inr ⟨_, List.getElem?_eq_getElem hj, (Option.some.inj h).symm⟩
    · rw [List.getElem?_append_right (by simpa using hj)] at h
      exact .inl (List.eq_of_mem_replicate (List.mem_of_getElem? h))
  refine { Inv0.start s st with len := ?_, slot := fun j x h => ?_, dis := fun j k a d e h1 _ _ _ => ?_ }
  · show (vs.map some ++ List.replicate (N.length - vs.length) none).length = _
    simp [r.length]
  · rcases get j x h with rfl | ⟨d, hd, rfl⟩
    · trivial
    · obtain ⟨v, hv, rv⟩ := r.get hd
      exact ⟨v, start_get hv, rv⟩
  · rcases get j _ h1 with h | ⟨_, _, h⟩ <;> cases h
section
variable {P : Program} {w : World} {K : PySem.W.Frag} {mg : Str → Option Value} {base : Heap}
/-- a def of the program that reckons f, by its name -/
structure Fn (P : Program) (w : World) (mg : Str → Option Value) (base : Heap) (gc : Gc) (k : Nat) (x : Str) (n : Nat) (f : Fnc) : Prop where
  ex : ∃ fa fd ps, ps.length = n ∧ FnOk P w gc.K mg base (L2.CX P w) k fa fd ps (spD gc n f) ∧ mg x = some (.ref fa) ∧ PySem.W.keepIn gc.K (.ref fa) = true ∧ Binds gc.K fd ps []
theorem Fn.mono {gc : Gc} {j k : Nat} {x : Str} {n : Nat} {f : Fnc} (h : Fn P w mg base gc j x n f) (l : j ≤ k) : Fn P w mg base gc k x n f := by
  obtain ⟨fa, fd, ps, h1, h2, h3⟩ := h.ex
  exact ⟨fa, fd, ps, h1, h2.mono l, h3⟩
/-- a def that is never called -/
theorem Fn.never {gc : Gc} {k : Nat} {x : Str} {n : Nat} {fa : Addr} {fd : FuncData} {ps : List Str} (hn : ps.length = n) (hm : mg x = some (.ref fa)) (hk : PySem.W.keepIn gc.K (.ref fa) = true) (hb : Binds gc.K fd ps []) : Fn P w mg base gc k x n (fun _ _ => .bad) :=
  ⟨fa, fd, ps, hn, ⟨fun vs H Q E ⟨_, _, _, _, _, h, _⟩ => by rw [h, hn], fun A outer s H args us vs Q E _ _ _ _ ⟨_, _, _, _, _, _, _, _, _, z⟩ => z.elim⟩, hm, hk, hb⟩
theorem Fn.imp {gc : Gc} {k : Nat} {x : Str} {n : Nat} {f f' : Fnc} (h : Fn P w mg base gc k x n f) (e : ∀ ds S, f' ds S = .bad ∨ f' ds S = f ds S) : Fn P w mg base gc k x n f' := by
  obtain ⟨fa, fd, ps, h1, h2, h3⟩ := h.ex
  refine ⟨fa, fd, ps, h1, h2.imp fun vs H Q E ⟨s, c, F, ds, Sx, q1, q2, q3, q4, q5⟩ => ⟨s, c, F, ds, Sx, q1, q2, q3, q4, ?_⟩, h3⟩
  rcases e ds Sx with z | z
  · rw [z] at q5; exact q5.elim
  · rw [z] at q5; exact q5
/-- the body, as a command, gives the def -/
theorem fn_body {x qual : Str} {st : Stmt} {fa : Addr} {fd : FuncData} {N ps : List Str} {k : Nat} {c : Cmd} {gc : Gc} (hK : gc.K = K) (F : Fun K x qual st fa fd) (Sc : FnScope N ps (defScope st)) (hm : mg x = some (.ref fa))
    (hb : ∀ (kV doc pm : Value) (an : Option Addr) (cdv ct : Value) (us : List Value), us.length = ps.length → bindArgs (PySem.W.fnOf x qual (defArgs st) (defBody st) (defScope st) .none kV doc pm an cdv ct) ⟨us, []⟩ = pure (ps.zip us))
    (hbody : ∀ (cdv : Value) (A : Around) (outer : List Env) (s : Shared) (H : Hp) (E : XK) (g : G) (F0 : Hp), g.toGc = gc → Room k (A.deeper (envOfC qual (defScope st) s.heap.objs.size fa cdv)) →
      SDs (cxOf (L2.CX P w) P w K mg base N qual (defScope st) fa cdv A outer s H E) ⟨g, F0, H, fun cls d _ H => E cls d H⟩ (defBody st) c) : Fn P w mg base gc (k + 1) x ps.length (runF N.length c) := by
  subst hK
  refine ⟨fa, fd, ps, rfl, F.okX Sc (fun vs H Q E ⟨_, _, _, _, _, h, _⟩ => h) (fun cdv A outer s H vs Q E hr h => ?_), hm, F.kp, F.binds hb⟩
  obtain ⟨sa, ca, F0, ds, Sx, hl, hs, st', r, q⟩ := h
  refine ⟨_, hbody cdv A outer s H E ⟨gc, sa, ca⟩ F0 rfl hr, F0, _, Inv2.start hs st' r, ?_⟩
  unfold runF at q
  generalize c ⟨ds.map .frz ++ List.replicate (N.length - ds.length) .none, Sx⟩ = o at q ⊢
  cases o with
  | nx w' => exact fun F' σ' H' _ i => q F' H' .non i.toInv0 .non
  | rt d w' => exact fun F' σ' H' v i rv => q F' H' v i.toInv0 rv
  | exc e x w' => exact fun F' σ' H' dx i hx => q F' H' dx i.toInv0 hx
  | bk w' => exact q.elim
  | ct w' => exact q.elim
  | bad => exact q.elim
end
section
variable {X : Cx} {b : B} {p pos : Pos} {e : Expr} {es : List Expr} {m : M (List D)}
theorem Inv2.call {g : G} {F0 H0 F H F' H' : Hp} {σ : L2.St} {w : W} {S' : S} (I : Inv2 g F0 H0 F σ H w) (i : Inv0 g F H F' H' S') : Inv2 g F0 H0 F' σ H' ⟨w.Γ, S'⟩ ∧ Ext g σ F H w F' H' ⟨w.Γ, S'⟩ := by
  have t1 := I.st.tr
  have t2 := i.st.tr
  have back : ∀ a, H' a = none → H a = none := fun a h => by
    cases q : H a with
    | none => rfl
    | some o =>
      by_cases h1 : a = g.s
      · subst h1; exact absurd h t2.1
      by_cases h2 : a = g.c
      · subst h2; exact absurd h t2.2
      rw [i.keep a o q h1 h2] at h; cases h
  have stay : ∀ a o, H a = some o → F a = none → F' a = none := fun a o h hF => by
    cases q : F' a with
    | none => rfl
    | some o' =>
      rcases i.new a o' q with h' | h'
      · rw [hF] at h'; cases h'
      · rw [h] at h'; cases h'
  refine ⟨{ sub := i.sub, g0 := I.g0.trans i.g0, new := fun a o h => ?_, keep := fun a o h h1 h2 => i.keep a o (I.keep a o h h1 h2) h1 h2, st := i.st, b0 := I.b0, len := I.len, dis := I.dis, slot := fun j s h => ?_ }, ⟨i.g0, fun a o h => ?_, i.keep, fun a h => h, t1.1, t1.2, t2.1, t2.2⟩⟩
  · rcases i.new a o h with h | h
    · exact I.new a o h
    · exact .inr (I.toInv0.n0 h)
  · cases s with
    | none => trivial
    | frz d => obtain ⟨v, e1, r⟩ := I.slot j _ h; exact ⟨v, e1, r.mono i.g0⟩
    | own d =>
      obtain ⟨a, e1, h1, h2, t⟩ := I.slot j _ h
      obtain ⟨o, ho⟩ := t.some
      obtain ⟨S0, z⟩ := I.b0
      have n1 : a ≠ g.s := fun w => by subst w; exact z.tr.1 h2
      have n2 : a ≠ g.c := fun w => by subst w; exact z.tr.2 h2
      exact ⟨a, e1, stay a o ho h1, h2, t.mono i.g0 fun x q => i.keep a x q n1 n2⟩
  · rcases i.new a o h with h | h
    · exact .inl h
    · exact .inr (.inl h)
def mCall (n : Nat) (f : Fnc) (m : M (List D)) : M D := m.bind fun ds w => if ds.length = n then
    match f ds w.S with
    | .ok d S' => .ok d ⟨w.Γ, S'⟩
    | .exc c x S' => .exc c x ⟨w.Γ, S'⟩
    | .bad => .bad
  else .bad
theorem ed_call {x : Str} {gc : Gc} {k n : Nat} {f : Fnc} (Fx : Fn X.prog X.w X.mg X.base gc k x n f) (hgc : b.g.toGc = gc) (hK : X.K = gc.K) (hr : Room k X.A) (hg : Gl X x) (tk : Takes X b.X) (ha : EA X b (e :: es) m) (hdb : (x == ("__debug__" : Str)) = false := by decide)
    (he : starEach (e :: es) X.env = (false, eval e X.env) :: starEach es X.env := by rfl) (hpl : (backTo pos (starEach es X.env)).any (·.1) = false := by rfl) : ED X b (.Call (.Name x p) (e :: es) [] pos) (mCall n f m) := by
  obtain ⟨fa, fd, ps, hn, hF, hm, hk, hb⟩ := Fx.ex
  rw [← hK] at hF hk hb
  refine PE.weak (pe_callS hF hr hg hm hk hb (fun σ => passAt tk σ) ha hdb he hpl) fun σ H Q ⟨F, w, I, q⟩ => ⟨F, w, I, (Post.bind q).mono fun vs H1 ⟨F1, w1, ds, i1, r1, x1, p1⟩ => ?_⟩
  have r1 : Reps b.g F1 vs ds := r1
  by_cases hl : ds.length = n
  · rw [if_pos hl] at p1
    subst hgc
    refine ⟨b.g.s, b.g.c, F1, ds, w1.S, by rw [r1.length]; exact hl, i1.sub, i1.st, r1, ?_⟩
    generalize f ds w1.S = r at p1 ⊢
    cases r with
    | ok d S' => exact fun F' H' v i rv => p1 F' H' v (i1.call i).2 (i1.call i).1 rv
    | exc c x S' => exact fun F' H' dx i hx => p1 F' H' dx (i1.call i).1 hx
    | bad => exact p1
  · rw [if_neg hl] at p1; exact p1.elim
end
end FP


set_option Elab.async false
set_option linter.all false
set_option maxRecDepth 100000
set_option maxHeartbeats 4000000
/-! FP10: sorted of pairs (a tuple of ints, an int). -/
namespace FPS
open PySem PyProof.Rows SrtO HT
/-! ### the order -/
theorem lex_irr : ∀ a : List Int, lexLt a a = false
  | [] => rfl
  | x :: xs => by rw [lexLt_cons, if_pos rfl]; exact lex_irr xs
theorem lex_asym : ∀ a b : List Int, lexLt a b = true → lexLt b a = false
  | [], [], h => rfl
  | [], _ :: _, _ => rfl
  | _ :: _, [], h => by cases h
  | x :: xs, y :: ys, h => by
    rw [lexLt_cons] at h ⊢
    by_cases e : x = y
    · subst e
      rw [if_pos rfl] at h ⊢
      exact lex_asym xs ys h
    · rw [if_neg e] at h
      rw [if_neg (Ne.symm e)]
      have := of_decide_eq_true h
      exact decide_eq_false (by omega)
theorem lex_tri : ∀ a b : List Int, lexLt a b = false → lexLt b a = false → a = b
  | [], [], _, _ => rfl
  | [], _ :: _, h, _ => by cases h
  | _ :: _, [], _, h => by cases h
  | x :: xs, y :: ys, h, h' => by
    rw [lexLt_cons] at h h'
    by_cases e : x = y
    · subst e
      rw [if_pos rfl] at h h'
      rw [lex_tri xs ys h h']
    · rw [if_neg e] at h
      rw [if_neg (Ne.symm e)] at h'
      have h1 := of_decide_eq_false h
      have h2 := of_decide_eq_false h'
      exact absurd (by omega) e
theorem lex_trans : ∀ a b c : List Int, lexLt a b = true → lexLt b c = true → lexLt a c = true
  | [], [], _, h, _ => by cases h
  | [], _ :: _, [], _, h => by cases h
  | [], _ :: _, _ :: _, _, _ => rfl
  | _ :: _, [], _, h, _ => by cases h
  | _ :: _, _ :: _, [], _, h => by cases h
  | x :: xs, y :: ys, z :: zs, h, h' => by
    rw [lexLt_cons] at h h' ⊢
    by_cases e : x = y
    · subst e
      rw [if_pos rfl] at h
      by_cases e2 : x = z
      · subst e2
        rw [if_pos rfl] at h' ⊢
        exact lex_trans xs ys zs h h'
      · rw [if_neg e2] at h' ⊢
        exact h'
    · rw [if_neg e] at h
      have h1 := of_decide_eq_true h
      by_cases e2 : y = z
      · subst e2
        rw [if_neg e]
        exact decide_eq_true h1
      · rw [if_neg e2] at h'
        have h2 := of_decide_eq_true h'
        rw [if_neg (by omega)]
        exact decide_eq_true (by omega)
abbrev K2 := List Int × Int
def lt2k (p q : K2) : Bool := if p.1 = q.1 then decide (p.2 < q.2) else lexLt p.1 q.1
theorem lt2k_asym (p q : K2) (h : lt2k p q = true) : lt2k q p = false := by
  unfold lt2k at *
  by_cases e : p.1 = q.1
  · rw [if_pos e] at h
    rw [if_pos e.symm]
    have := of_decide_eq_true h
    exact decide_eq_false (by omega)
  · rw [if_neg e] at h
    rw [if_neg (Ne.symm e)]
    exact lex_asym _ _ h
theorem lt2k_tri (p q : K2) (h : lt2k p q = false) (h' : lt2k q p = false) : p = q := by
  unfold lt2k at *
  obtain ⟨a, b⟩ := p
  obtain ⟨c, d⟩ := q
  dsimp only at *
  by_cases e : a = c
  · subst e
    rw [if_pos rfl] at h h'
    have h1 := of_decide_eq_false h
    have h2 := of_decide_eq_false h'
    rw [show b = d by omega]
  · rw [if_neg e] at h
    rw [if_neg (Ne.symm e)] at h'
    exact absurd (lex_tri _ _ h h') e
theorem lt2k_trans (p q r : K2) (h : lt2k p q = true) (h' : lt2k q r = true) : lt2k p r = true := by
  unfold lt2k at *
  by_cases e : p.1 = q.1
  · rw [if_pos e] at h
    by_cases e2 : q.1 = r.1
    · rw [if_pos e2] at h'
      rw [if_pos (e.trans e2)]
      have h1 := of_decide_eq_true h
      have h2 := of_decide_eq_true h'
      exact decide_eq_true (by omega)
    · rw [if_neg e2] at h'
      rw [if_neg (by rw [e]; exact e2), e]
      exact h'
  · rw [if_neg e] at h
    by_cases e2 : q.1 = r.1
    · rw [← e2, if_neg e]; exact h
    · rw [if_neg e2] at h'
      have ht := lex_trans _ _ _ h h'
      by_cases e3 : p.1 = r.1
      · rw [e3, lex_irr] at ht; cases ht
      · rw [if_neg e3]; exact ht
theorem swo2k : Swo lt2k := ⟨lt2k_asym, fun x y z h1 h2 => by
  cases e : lt2k z x with
  | false => rfl
  | true =>
    cases f : lt2k x y with
    | true => rw [lt2k_trans z x y e f] at h2; cases h2
    | false =>
      have := lt2k_tri x y f h1
      subst this
      rw [e] at h2; cases h2⟩
/-- the sorted list -/
def ins (x : K2) : List K2 → List K2
  | [] => [x]
  | y :: r => if lt2k y x = true then y :: ins x r else x :: y :: r
def srt : List K2 → List K2
  | [] => []
  | x :: r => ins x (srt r)
theorem ins_perm (x : K2) : ∀ l, (ins x l).Perm (x :: l)
  | [] => List.Perm.refl _
  | y :: r => by
    unfold ins
    by_cases h : lt2k y x = true
    · rw [if_pos h]
      exact ((ins_perm x r).cons y).trans (List.Perm.swap x y r)
    · rw [if_neg h]
theorem srt_perm : ∀ l, (srt l).Perm l
  | [] => List.Perm.refl _
  | x :: r => (ins_perm x (srt r)).trans ((srt_perm r).cons x)
theorem ins_srtd (x : K2) : ∀ {l}, Srtd lt2k l → Srtd lt2k (ins x l)
  | [], _ => List.pairwise_singleton _ _
  | y :: r, h => by
    unfold ins
    have hr := (List.pairwise_cons.mp h).2
    have hy := (List.pairwise_cons.mp h).1
    by_cases e : lt2k y x = true
    · rw [if_pos e]
      refine List.pairwise_cons.mpr ⟨fun z hz => ?_, ins_srtd x hr⟩
      rcases List.mem_cons.mp ((ins_perm x r).mem_iff.mp hz) with rfl | hz
      · exact lt2k_asym _ _ e
      · exact hy z hz
    · rw [if_neg e]
      have e' : lt2k y x = false := by simpa using e
      refine List.pairwise_cons.mpr ⟨fun z hz => ?_, h⟩
      rcases List.mem_cons.mp hz with rfl | hz
      · exact e'
      · exact swo2k.tr x y z e' (hy z hz)
theorem srt_srtd : ∀ l, Srtd lt2k (srt l)
  | [] => List.Pairwise.nil
  | x :: r => ins_srtd x (srt_srtd r)
/-- there is one such list -/
theorem srt_uniq : ∀ {l m : List K2}, Srtd lt2k l → Srtd lt2k m → l.Perm m → l = m
  | [], m, _, _, h => (List.Perm.eq_nil h.symm).symm
  | x :: l, [], _, _, h => absurd h.length_eq (by simp)
  | x :: l, y :: m, hl, hm, h => by
    have hx := (List.pairwise_cons.mp hl).1
    have hy := (List.pairwise_cons.mp hm).1
    have h1 : lt2k x y = false := by
      rcases List.mem_cons.mp (h.mem_iff.mp (List.mem_cons_self (a := x) (l := l))) with e | q
      · rw [e]; exact swo2k.refl y
      · exact hy x q
    have h2 : lt2k y x = false := by
      rcases List.mem_cons.mp (h.mem_iff.mpr (List.mem_cons_self (a := y) (l := m))) with e | q
      · rw [e]; exact swo2k.refl x
      · exact hx y q
    have e := lt2k_tri x y h1 h2
    subst e
    rw [srt_uniq (List.pairwise_cons.mp hl).2 (List.pairwise_cons.mp hm).2 h.cons_inv]
/-! ### the machine -/
/-- v is a pair of a tuple of these ints, and this int -/
def Is2 (h : Heap) (v : Value) (p : K2) : Prop := ∃ (a t : Addr) (its : Array Value) (tk : Tok), v = .ref a ∧ IsTup h a #[.ref t, .int p.2 tk] ∧ IsTup h t its ∧ IntsAre its.toList p.1
theorem tup_of {h h' : Heap} {a : Addr} {its : Array Value} (x : IsTup h a its) (k : ∀ b o, h.get? b = some o → o.cls = .type "tuple" → h'.get? b = some o) : IsTup h' a its := by
  obtain ⟨o, e, c, n, d⟩ := x
  exact ⟨o, k _ _ e c, c, n, d⟩
theorem Is2.keeps {h h' : Heap} {v : Value} {p : K2} (x : Is2 h v p) (k : ∀ b o, h.get? b = some o → o.cls = .type "tuple" → h'.get? b = some o) : Is2 h' v p := by
  obtain ⟨a, t, its, tk, e, x1, x2, x3⟩ := x
  exact ⟨a, t, its, tk, e, tup_of x1 k, tup_of x2 k, x3⟩
theorem ints_inj : ∀ {vs : List Value} {ns ms : List Int}, IntsAre vs ns → IntsAre vs ms → ns = ms
  | _, _, _, .nil, .nil => rfl
  | _, _, _, .cons n t r, .cons _ _ r' => by rw [ints_inj r r']
theorem Is2.uniq {h : Heap} {v : Value} {p q : K2} (x : Is2 h v p) (y : Is2 h v q) : p = q := by
  obtain ⟨a, t, its, tk, rfl, ⟨o, e, c, n, d⟩, ⟨o2, e2, c2, n2, d2⟩, x3⟩ := x
  obtain ⟨a', t', its', tk', e', ⟨o', f, c', n', d'⟩, ⟨o2', f2, c2', n2', d2'⟩, y3⟩ := y
  cases e'
  rw [e] at f; cases f
  rw [d] at d'
  injection d' with d1 _
  have d1 : ([.ref t, .int p.2 tk] : List Value) = [.ref t', .int q.2 tk'] := congrArg Array.toList d1
  injection d1 with d3 d4
  injection d3 with d3
  injection d4 with d4 _
  injection d4 with d4 _
  subst d3
  rw [e2] at f2; cases f2
  rw [d2] at d2'
  injection d2' with d5 _
  subst d5
  exact Prod.ext (ints_inj x3 y3) d4
theorem reads_ints {h : Heap} : ∀ {vs : List Value} {ns : List Int}, IntsAre vs ns → ∃ as, ReadsAll h vs (ns.map PyData.int) as
  | _, _, .nil => ⟨_, .nil⟩
  | _, _, .cons n t r => by
    obtain ⟨as, q⟩ := reads_ints (h := h) r
    exact ⟨_, .cons (.int n t) q⟩
theorem lay_ints : ∀ ns : List Int, PyData.canLayAll0 (ns.map PyData.int) = true
  | [] => rfl
  | n :: ns => by
    show (PyData.canLay0 (.int n) && PyData.canLayAll0 (ns.map PyData.int)) = true
    rw [lay_ints ns]; rfl
theorem depth_ints : ∀ ns : List Int, PyData.depthAll (ns.map PyData.int) = 0
  | [] => rfl
  | n :: ns => by
    show max (PyData.depth (.int n)) (PyData.depthAll (ns.map PyData.int)) = 0
    rw [depth_ints ns]; rfl
theorem eqv_ints : ∀ ns ms : List Int, PyData.eqvAll (ns.map PyData.int) (ms.map PyData.int) = decide (ns = ms)
  | [], [] => rfl
  | [], _ :: _ => rfl
  | _ :: _, [] => rfl
  | n :: ns, m :: ms => by
    show (PyData.eqv (.int n) (.int m) && PyData.eqvAll (ns.map PyData.int) (ms.map PyData.int)) = _
    rw [eqv_ints ns ms, PyData.eqv, Bool.eq_iff_iff]
    simp
section
variable {prog : Program} {w : World} {A : Around} {E : Value → Shared → Prop} {s : Shared}
theorem eqAt_tups {t u : Addr} {its jts : Array Value} {ns ms : List Int} (h1 : IsTup s.heap t its) (h2 : IsTup s.heap u jts) (i1 : IntsAre its.toList ns) (i2 : IntsAre jts.toList ms) (hu : A.units + 64 < cLine) : SeqAt.EqAt A s (.ref t) (.ref u) (decide (ns = ms)) := by
  obtain ⟨o, e, c, n, d⟩ := h1
  obtain ⟨o', e', c', n', d'⟩ := h2
  obtain ⟨as, r⟩ := reads_ints (h := s.heap) i1
  obtain ⟨bs, r'⟩ := reads_ints (h := s.heap) i2
  have q := SeqAt.eqAt_reads (.tuple (ns.map PyData.int)) (.tuple (ms.map PyData.int)) A s (.ref t) (.ref u) as bs (.tuple e c d r) (.tuple e' c' d' r') (by simpa [PyData.canLay0] using lay_ints ns) (by simpa [PyData.canLay0] using lay_ints ms)
    (by simp only [PyData.depth, depth_ints]; omega)
  rw [show PyData.eqv (.tuple (ns.map PyData.int)) (.tuple (ms.map PyData.int)) = decide (ns = ms) by rw [PyData.eqv]; exact eqv_ints ns ms] at q
  exact q
theorem cmp2 {vs : List Value} {k : Value → K2} (hp : ∀ v ∈ vs, Is2 s.heap v (k v)) (hu : A.units + 64 < cLine) : Cmp prog w A s (tuples' false) (fun p => p.1 ∈ vs) (lt2 fun v u => lt2k (k v) (k u)) := by
  intro p q hm hm'
  have h1 := hp _ hm
  have h2 := hp _ hm'
  show wpAny (model prog w) A (keyLt' (tuples' false) p.1 q.1) (fun r s' => s' = s ∧ r = lt2k (k p.1) (k q.1)) (fun _ _ => False) s
  generalize k p.1 = x at h1 ⊢
  generalize k q.1 = y at h2 ⊢
  obtain ⟨a, t, its, tk, e, ⟨o, ho, hc, n, hd⟩, x2, x3⟩ := h1
  obtain ⟨a', t', its', tk', e', ⟨o', ho', hc', n', hd'⟩, y2, y3⟩ := h2
  rw [e, e']
  refine PySem.W.kat_lt ho hd ho' hd' ?_
  show PySem.W.KatLex prog w A false (decide (2 < 2)) _ [(.ref t, .ref t'), (.int x.2 tk, .int y.2 tk')] 0 s
  refine PySem.W.kat_cons (eqAt_tups x2 y2 x3 y3 hu prog w _ _ ?_)
  refine PySem.W.kat_go (fun e1 => ?_) (fun e1 => ?_)
  · have e1 := of_decide_eq_true e1
    refine PySem.W.kat_yes (PySem.W.kat_cons (SeqAt.EqAt.int_int x.2 tk y.2 tk' prog w _ _ ?_))
    refine PySem.W.kat_go (fun e2 => ?_) (fun e2 => ?_)
    · have e2 : x.2 = y.2 := by simpa using e2
      refine PySem.W.kat_yes (PySem.W.kat_nil ⟨rfl, ?_⟩)
      unfold lt2k
      rw [if_pos e1, e2]
      exact (decide_eq_false (Int.lt_irrefl _)).symm
    · refine PySem.W.kat_no (PySem.W.kat_one _ _ (PyProof.Rows.lt_int ?_))
      refine (show s = s ∧ decide (x.2 < y.2) = lt2k x y from ⟨rfl, ?_⟩)
      unfold lt2k
      rw [if_pos e1]
  · have e1 := of_decide_eq_false e1
    refine PySem.W.kat_no (PySem.W.kat_one _ _ (lt_tupInts x2 y2 x3 y3 (by omega) ?_))
    refine (show s = s ∧ lexLt x.1 y.1 = lt2k x y from ⟨rfl, ?_⟩)
    unfold lt2k
    rw [if_neg e1]
theorem firsts2 {h : Heap} : ∀ {vs : List Value}, (∀ v ∈ vs, ∃ p, Is2 h v p) → ∃ fs : List Value, PySem.W.KatTups h vs fs ∧ fs.length = vs.length ∧ ∀ f ∈ fs, ∃ (t : Addr) (o : Obj), f = Value.ref t ∧ h.get? t = some o ∧ o.cls = .type "tuple"
  | [], _ => ⟨[], PySem.W.KatTups.nil, rfl, fun _ hm => by simp at hm⟩
  | v :: vs, hp => by
    obtain ⟨fs, h1, h2, h3⟩ := firsts2 (vs := vs) fun v' hm => hp v' (List.mem_cons_of_mem _ hm)
    obtain ⟨p, a, t, its, tk, rfl, ⟨o, ho, hc, n, hd⟩, ⟨o', ho', hc', _⟩, _⟩ := hp v List.mem_cons_self
    refine ⟨.ref t :: fs, PySem.W.KatTups.cons ho hc hd rfl h1, by rw [List.length_cons, List.length_cons, h2], fun f hm => ?_⟩
    rcases List.mem_cons.mp hm with rfl | hm
    · exact ⟨t, o', rfl, ho', hc'⟩
    · exact h3 f hm
theorem sortable2 {a : Addr} {vs : List Value} {k : Value → K2} (h0 : 0 < vs.length) (hp : ∀ v ∈ vs, Is2 s.heap v (k v)) (hu : A.units + 64 < cLine) (ha : ∀ o, s.heap.get? a = some o → o.cls ≠ .type "tuple") : SortableO prog w A s a vs fun v u => lt2k (k v) (k u) := by
  intro h' keep
  have hp' : ∀ v ∈ vs, Is2 h' v (k v) := fun v hm => (hp v hm).keeps fun b o e c => keep b o (fun z => by subst z; exact ha o e c) e
  obtain ⟨fs, h1, h2, h3⟩ := firsts2 fun v hm => ⟨_, hp' v hm⟩
  refine ⟨tuples' false, fun Q E hq => ?_, cmp2 (s := { s with heap := h' }) hp' hu⟩
  refine PySem.W.kat_kind (T := .type "tuple") h1 (by omega) (fun f hm => ?_) (by rfl) ?_
  · obtain ⟨t, o, rfl, e, c⟩ := h3 f hm
    exact fun A Q E s' kk q => wpAny_typeOf_ref (kk _ _ e) (by rw [c]; exact q)
  · have e : (Value.type "tuple" != Value.type "tuple") = false := by first | decide +kernel | rfl | decide
    rw [e]
    exact hq
end
end FPS

namespace FP
open PySem PySem.Spec PyProof.Rows L2 FPS
/-- x stands for the pair p -/
def Pr2 (K : PySem.W.Frag) (H : Hp) (x : V) (p : K2) : Prop := ∃ t u, x = V.ref t ∧ SqT K H t [.ref u, .int p.2] ∧ SqT K H u (p.1.map V.int)
def rSort2 (K : PySem.W.Frag) : List V → Hp → VK → Prop := fun vs H Q => ∃ (a : Addr) (xs : List V) (ps : List K2), ∃ R : V → K2 → Prop, (∀ x p, R x p → Pr2 K H x p) ∧ vs = [.ref a] ∧ SqL K H a xs ∧ Paired R xs ps ∧
  ∀ (ys : List V) (p : Addr), Paired R ys (srt ps) → H p = none → Q (.ref p) (upd H p (.lst ys))
theorem pr2_raw {X : Cx} {pins : List (Addr × Obj)} {σ : L2.St} {H : Hp} {s : Shared} {x : V} {v : Value} {p : K2} (I : Inv X pins σ H s) (h : Pr2 X.K H x p) (r : RelV x v) : Is2 s.heap v p := by
  obtain ⟨t, u, rfl, h1, h2⟩ := h
  cases r
  obtain ⟨its, r1, p1, _⟩ := I.tuple h1
  obtain ⟨jts, r2, p2, _⟩ := I.tuple h2
  cases r1 with
  | cons a1 a2 =>
    cases a2 with
    | cons b1 b2 =>
      cases b2
      obtain ⟨tk, rfl⟩ := b1
      cases a1
      exact ⟨t, u, jts.toArray, tk, rfl, p1, p2, by simpa using r2.ints⟩
theorem paired_mem {α β γ : Type} {R : α → β → Prop} {S : α → γ → Prop} : ∀ {xs : List α} {ps : List β} {us : List γ}, Paired R xs ps → Paired S xs us → ∀ u ∈ us, ∃ x ∈ xs, ∃ p ∈ ps, R x p ∧ S x u
  | _, _, _, .nil, .nil, u, hu => absurd hu (by simp)
  | _, _, _, .cons r rr, .cons s ss, u, hu => by
    rcases List.mem_cons.mp hu with rfl | hu
    · exact ⟨_, List.mem_cons_self, _, List.mem_cons_self, r, s⟩
    · obtain ⟨x, hx, p, hp, h⟩ := paired_mem rr ss u hu
      exact ⟨x, List.mem_cons_of_mem _ hx, p, List.mem_cons_of_mem _ hp, h⟩
theorem in1_units (A : Around) : A.in1.units = A.units + 1 := rfl
theorem cr_sort2 {X : Cx} (hu : X.A.units + 100 < cLine) : CallR X (.builtin "sorted") (rSort2 X.K) := by
  intro pins s σ H vs us Q I r h
  obtain ⟨a, xs, ps, R, hR, rfl, hs, hp, q⟩ := h
  obtain ⟨its, rv, hl, hz⟩ := I.list hs
  rw [Vals.ref1 r]
  classical
  let k : Value → K2 := fun v => if h : ∃ p, Is2 s.heap v p then Classical.choose h else ([], 0)
  have hk : ∀ v p, Is2 s.heap v p → k v = p := fun v p h => by
    have e : ∃ p, Is2 s.heap v p := ⟨p, h⟩
    show (if h : ∃ p, Is2 s.heap v p then Classical.choose h else ([], 0)) = p
    rw [dif_pos e]
    exact (Classical.choose_spec e).uniq h
  have hi : ∀ v ∈ its, Is2 s.heap v (k v) := fun v hv => by
    obtain ⟨x, _, p, _, h1, h2⟩ := paired_mem hp rv v hv
    have := pr2_raw I (hR _ _ h1) h2
    rw [hk v p this]; exact this
  have hkeys : its.map k = ps := by
    have : ∀ {xs : List V} {ps : List K2} {us : List Value}, Paired R xs ps → Vals xs us → us.map k = ps := by
      intro xs ps us h1 h2
      induction h1 generalizing us with
      | nil => cases h2; rfl
      | cons r rr ih =>
        cases h2 with
        | cons s ss => rw [List.map_cons, hk _ _ (pr2_raw I (hR _ _ r) s), ih ss]
    exact this hp rv
  refine SrtO.sorted_ord (ltv := fun v u => lt2k (k v) (k u)) ⟨fun x y h => lt2k_asym _ _ h, fun x y z h1 h2 => swo2k.tr (k x) (k y) (k z) h1 h2⟩ hl.isList (by rw [← rv.length]; exact hz) (fun h2 h₁ a' ha kk => ?_) fun out h1 h2 => ?_
  · refine sortable2 (s := { s with heap := h₁ }) (by omega) (fun v hv => (hi v hv).keeps fun b o e _ => (kk b o e).2) (by rw [in1_units, in1_units]; omega) fun o e => ?_
    have e' : some o = some _ := e.symm.trans ha
    have e2 := Option.some.inj e'
    intro c
    rw [e2] at c
    exact absurd (Value.type.inj c) (by decide)
  · obtain ⟨ep, he'⟩ := PyProof.Rows.sortedAll_at s.heap its out.toArray
    have hmem : ∀ v ∈ out, ∃ x, RelV x v ∧ R x (k v) := fun v hv => by
      obtain ⟨x, _, p, _, h1', h2'⟩ := paired_mem hp rv v (h2.perm.mem_iff.mp hv)
      rw [hk v p (pr2_raw I (hR _ _ h1') h2')]
      exact ⟨x, h2', h1'⟩
    have hys : ∃ ys, Vals ys out ∧ Paired R ys (out.map k) := by
      have : ∀ (l : List Value), (∀ v ∈ l, ∃ x, RelV x v ∧ R x (k v)) → ∃ ys, Vals ys l ∧ Paired R ys (l.map k) := by
        intro l
        induction l with
        | nil => intro _; exact ⟨[], .nil, .nil⟩
        | cons v l ih =>
          intro hm
          obtain ⟨ys, y1, y2⟩ := ih fun u hu => hm u (List.mem_cons_of_mem _ hu)
          obtain ⟨x, x1, x2⟩ := hm v List.mem_cons_self
          exact ⟨x :: ys, .cons x1 y1, .cons x2 y2⟩
      exact this out hmem
    obtain ⟨ys, y1, y2⟩ := hys
    have hsrt : out.map k = srt ps := by
      refine srt_uniq (SrtO.srtd_map (f := k) h1) (srt_srtd ps) ?_
      rw [← hkeys]
      exact (h2.perm.map k).trans (srt_perm _).symm
    rw [hsrt] at y2
    have hlen : ys.length ≤ sizeLine := by
      rw [y1.length, h2.perm.length_eq, ← rv.length]; exact hz
    exact ⟨.ref _, upd H (s.heap.objs.size + 1) (.lst ys), I.laid (t' := s.toks) (fun _ _ => PyProof.Rows.sortedAll_old) (Nat.le_succ _) ⟨hlen, out, ep, y1, he'⟩, rfl, q _ _ y2 (I.hok.fresh (Nat.le_succ _))⟩
/-- a list of pairs of a tuple of ints and an int -/
def pair2? : D → Option K2
  | .tup [.tup ds, .int n] => (ints? ds).map fun ns => (ns, n)
  | _ => none
def pairs2? : List D → Option (List K2)
  | [] => some []
  | d :: ds => (pair2? d).bind fun p => (pairs2? ds).map (p :: ·)
def dk2 (p : K2) : D := .tup [.tup (p.1.map D.int), .int p.2]
@[simp] theorem pair2?_dk (p : K2) : pair2? (dk2 p) = some p := by
  show (ints? (p.1.map D.int)).map (fun ns => (ns, p.2)) = some p
  rw [ints?_map]; rfl
@[simp] theorem pairs2?_map : ∀ ps : List K2, pairs2? (ps.map dk2) = some ps
  | [] => rfl
  | p :: ps => by
    show (pair2? (dk2 p)).bind (fun q => (pairs2? (ps.map dk2)).map (q :: ·)) = _
    rw [pair2?_dk, pairs2?_map ps]; rfl
theorem pair2?_eq {d : D} {p : K2} (h : pair2? d = some p) : d = dk2 p := by
  unfold pair2? at h
  split at h
  · rename_i ds n
    cases e : ints? ds with
    | none => rw [e] at h; cases h
    | some ns =>
      rw [e] at h
      cases h
      rw [ints?_eq e]; rfl
  · cases h
theorem pairs2?_eq : ∀ {ds : List D} {ps : List K2}, pairs2? ds = some ps → ds = ps.map dk2
  | [], ps, h => by cases h; rfl
  | d :: ds, ps, h => by
    unfold pairs2? at h
    cases e : pair2? d with
    | none => rw [e] at h; cases h
    | some p =>
      rw [e] at h
      cases e2 : pairs2? ds with
      | none => rw [e2] at h; cases h
      | some qs =>
        rw [e2] at h
        cases h
        rw [pair2?_eq e, pairs2?_eq e2]; rfl
def fSort2 : D → Option D
  | .lst ds => (pairs2? ds).map fun ps => .lst ((srt ps).map dk2)
  | _ => none
theorem reps_pr2 {g : G} {F : Hp} : ∀ {vs : List V} {ps : List K2}, Reps g F vs (ps.map dk2) → Paired (fun x p => Rep g F x (dk2 p)) vs ps
  | _, [], .nil => .nil
  | _, p :: ps, .cons r rr => .cons r (reps_pr2 rr)
theorem pr2_reps {g : G} {F : Hp} : ∀ {vs : List V} {ps : List K2}, Paired (fun x p => Rep g F x (dk2 p)) vs ps → Reps g F vs (ps.map dk2)
  | _, _, .nil => .nil
  | _, _, .cons r rr => .cons r (pr2_reps rr)
theorem rep_pr2 {g : G} {F H : Hp} (s : Same F H) {x : V} {p : K2} (r : Rep g F x (dk2 p)) : Pr2 g.K H x p := by
  cases r with
  | tup ht r =>
    cases r with
    | cons r1 r2 =>
      cases r2 with
      | cons r3 r4 =>
        cases r4
        cases r1 with
        | tup hu ru =>
          cases r3
          exact ⟨_, _, rfl, SqT.of (s _ _ ht), by rw [← ru.of_ints]; exact SqT.of (s _ _ hu)⟩
section
variable {X : Cx} {b : B} {p pos : Pos} {a : Expr} {ma : M D}
theorem ef_sort2 (hK : X.K = b.g.K) (hu : X.A.units + 100 < cLine) (T : Bl X.mg) (hg : Gl X "sorted") (ha : ER X b a ma) (he : starEach (a :: []) X.env = (false, eval a X.env) :: starEach [] X.env := by rfl) : EF X b (.Call (.Name "sorted" p) [a] [] pos) (mUn fSort2 ma) := by
  refine PE.weak (pe_callB (cr_sort2 hu) hg T.sorted (by decide +kernel) (pa_cons ha pa_nil he) (he := he)) (t_one (α := Unit) fun F H0 H σ w x d z Q i rx hz q => ?_)
  cases d with
  | lst ds =>
    have hz : (pairs2? ds).map (fun ps => D.lst ((srt ps).map dk2)) = some z := hz
    cases e : pairs2? ds with
    | none => rw [e] at hz; cases hz
    | some ps =>
      rw [e] at hz
      cases hz
      obtain ⟨l, vs, rfl, hl, rl⟩ := relR.lst rx i.sub
      rw [pairs2?_eq e] at rl
      exact ⟨l, vs, ps, fun x p => Rep b.g F x (dk2 p), fun x p h => hK ▸ rep_pr2 i.sub h, rfl, .of hl, reps_pr2 rl, fun ys t hy ht => fin_fresh i q ht (.lst upd_same (pr2_reps hy))⟩
  | _ => cases hz
end
end FP


set_option Elab.async false
set_option linter.all false
set_option maxRecDepth 100000
set_option maxHeartbeats 4000000
/-! FP11: a tuple, many times. -/
namespace FP
open PySem PySem.Spec PyProof.Rows L2
theorem tuple_mul1 (l : Addr) (items : Array Value) (n : Nat) (dd : Option Addr) (sl : Array (Option Value)) (u : Tok) :
    Meets (Builtin.«tuple.__mul__» ⟨[.ref l, .int 1 u], []⟩) (fun _ R s => s.heap.get? l = some { cls := .type "tuple", dict := dd, data := .seq items n, slots := sl } ∧ R (.ok (.ret (.ref l))) s) :=
  .of_wp fun prog w A R s h => by
    obtain ⟨hp, g, d, tk, os⟩ := s
    obtain ⟨hl, h⟩ := h
    have f1 := AutoSeq1.idx_int
    have c0 : (decide ((1 : Int) < -(2 ^ 63)) || decide ((1 : Int) ≥ 2 ^ 63)) = false := by decide
    have c1 : (items.isEmpty || (1 : Int) == 1) = true := by rw [Bool.or_eq_true]; exact .inr rfl
    wp_walk using wpAny_loadPart' hl
    repeat (first
      | (refine wpAny_ite_false (decide_eq_false (by rw [c0]; exact Bool.false_ne_true)) ?_; wp_walk using wpAny_loadPart' hl)
      | (refine wpAny_ite_true (decide_eq_true c1) ?_; wp_walk using wpAny_loadPart' hl))
    exact ⟨_, rfl, h⟩
def rRepT1 (K : PySem.W.Frag) : R2 := fun x y H Q => ∃ l xs, x = .ref l ∧ y = .int 1 ∧ SqT K H l xs ∧ Q (.ref l) H
section
variable {X : Cx}
theorem op_repT1 : OpR X (binaryOp .Mult) (rRepT1 X.K) := by
  intro pins s σ H x y v u Q I rx ry h
  obtain ⟨l, xs, rfl, rfl, hT, q⟩ := h
  cases rx
  obtain ⟨t, rfl⟩ := ry
  obtain ⟨its, r, ⟨⟨cls, dd, data, sl⟩, ho, hc, n, hd⟩, hs⟩ := I.tuple hT
  simp only at hc hd
  subst hc hd
  refine wpAny_binaryOp_repeat_ref (T := "tuple") (U := "int") (by decide) ⟨_, ho, rfl⟩ (fun s' => typeIs_int s' 1 t) noFill_tuple_mul F.fills_int_mul F.slot_int_rmul repeat_tuple F.slot_int_index.lookup
    (call_meets F.slot_int_rmul (typeIs_int s 1 t) F.entry_int_rmul (F.args_int_rmul_2 _ _) (int_rmul_tuple 1 t l its.toArray n dd sl)
      ⟨ho, rfl, ⟨_, ho, rfl⟩, call_meets F.slot_tuple_mul ⟨_, ho, rfl⟩ F.entry_tuple_mul (F.args_tuple_mul_2 _ _) (tuple_mul1 l its.toArray n dd sl t) ⟨ho, ?_⟩⟩)
  exact ⟨.ref l, H, I, rfl, q⟩
end
/-- a tuple of one to a thousand things, 1 to 1000 times -/
def fRepT : D → D → Option D
  | .tup xs, .int k => if xs ≠ [] ∧ 1 ≤ k ∧ k ≤ 1000 ∧ xs.length ≤ 1000 then some (.tup (List.replicate k.toNat xs).flatten) else none
  | _, _ => none
section
variable {X : Cx} {b : B} {pos : Pos} {a c : Expr} {ma mc : M D}
theorem ed_repT (hK : X.K = b.g.K) (ha : ED X b a ma) (hc : ED X b c mc) : ED X b (.BinOp a .Mult c pos) (mOp fRepT ma mc) := by
  refine PE.weak (pe_op (OpR.or op_repT1 op_repT) ha hc) (op_DD fun F H σ w x y d e z Q i rx ry hz p => ?_)
  unfold fRepT at hz
  split at hz
  · obtain ⟨⟨h1, h2, h3, h4⟩, rfl⟩ := gr hz
    cases ry
    cases rx with
    | @tup l vs _ hT r =>
      rename_i k
      by_cases hk : k = 1
      · subst hk
        refine .inl ⟨l, vs, rfl, rfl, SqT.of (i.sub _ _ hT), fin i p (.tup hT ?_)⟩
        simpa using r
      · refine .inr ⟨l, k, vs, rfl, rfl, SqT.of (i.sub _ _ hT), fun e => h1 (r.nil_iff.mp e), by omega, h3, by rw [r.length]; exact h4, fun q hq => fin_new i p hq fun F' s e => .tup e ((r.rep _).mono s)⟩
  · cases hz
end
end FP


set_option Elab.async false
set_option linter.all false
set_option maxRecDepth 100000
set_option maxHeartbeats 4000000
/-! FP12: the drawn numbers; two values told apart. -/
namespace FP
open PySem PySem.Spec PyProof.Rows L2
/-! the drawn numbers -/
/-- what the next draw gives -/
def tkR (S : S) (bound : Int) : Int :=
  let spot := (S.n % (S.cells.length : Int)).toNat
  let cell := S.cells.getD spot 0
  if 1000000000000000000 ≤ cell then cell % bound
  else (((cell * 48271 + (S.n + 1) * 69621) % 2147483647 * 16807 + (S.n + 1) * 7919) % 1000000007) / 7 % bound
def tkS (S : S) (bound : Int) : FP.S :=
  let spot := (S.n % (S.cells.length : Int)).toNat
  let cell := S.cells.getD spot 0
  if 1000000000000000000 ≤ cell then ⟨S.n, S.cells.set spot (cell / bound)⟩ else ⟨S.n + 1, S.cells⟩
/-- the drawn numbers as they are to be -/
def Sok (S : S) : Prop := S.cells ≠ [] ∧ 0 ≤ S.n ∧ S.n < 4611686018427387904 ∧ ∀ c ∈ S.cells, 0 ≤ c
open Classical in
noncomputable def fTake : Fnc := fun ds S => match ds with
  | [.st, .int bound] => if bound < 2 then .ok (.int 0) S else if Sok S ∧ bound < 4611686018427387904 then .ok (.int (tkR S bound)) (tkS S bound) else .bad
  | _ => .bad
theorem if_tt {A B : Prop} (h : A) : if true = true then A else B := by rw [if_pos rfl]; exact h
theorem ixN_nat {n j : Nat} (hj : j < n) : ixN n (j : Int) = some j := by
  unfold ixN
  rw [if_pos (by omega), if_pos (by omega)]
  simp
theorem Inv0.chg {g : G} {F0 H0 F H H' : Hp} {Sx Sy : S} (i : Inv0 g F0 H0 F H Sx) (k : ∀ a o, H a = some o → a ≠ g.s → a ≠ g.c → H' a = some o) (hs : H' g.s = some (.lst [.int Sy.n, .ref g.c])) (hc : H' g.c = some (.lst (Sy.cells.map V.int))) : Inv0 g F0 H0 F H' Sy where
  sub := fun a o h => k a o (i.sub a o h) (fun z => by subst z; rw [i.st.fs] at h; cases h) fun z => by subst z; rw [i.st.fc] at h; cases h
  g0 := i.g0
  new := i.new
  keep := fun a o h h1 h2 => k a o (i.keep a o h h1 h2) h1 h2
  st := ⟨i.st.fs, i.st.fc, i.st.ne, hs, hc⟩
  b0 := i.b0
def absI (i : Int) : Int := if i < 0 then -i else i
def stCells (ns : List Int) : List Int := if ns = [] then [0] else ns.map absI
def spState (K : PySem.W.Frag) : Sp := fun vs H Q _ => ∃ (a : Addr) (ns : List Int), vs = [.ref a] ∧ SqL K H a (ns.map V.int) ∧ ns.length ≤ 63 ∧
  ∀ (H' : Hp) (p q : Addr), L2.Same H H' → H p = none → H q = none → p ≠ q → H' p = some (.lst [.int 0, .ref q]) → H' q = some (.lst ((stCells ns).map V.int)) → Q (.ref p) H'
theorem cut63 (xs : List V) (h : xs.length ≤ 63) : cutV xs none (some 63) = xs := by
  unfold cutV HT.sIx
  simp only [List.drop_zero]
  rw [if_neg (by decide), List.take_of_length_le]
  show xs.length ≤ min 63 xs.length - 0
  omega

section
variable {X : Cx} {b : B} {pos : Pos}
/-- two values told apart by way of a tuple: one of the names is a cell -/
theorem sd_parT {i j : Nat} {k k' : Bool} {x y : Str} {a c : Expr} {m m' : M D} {px py pt : Pos} {kt k2 : Nat} {pt2 : Pos} (hc : X.calm = true) (hK : X.K = b.g.K) (hij : i ≠ j)
    (gx : PG X (.Name x px) (gName i)) (gy : PG X (.Name y py) (gName j)) (ha : EK X b k a m) (hb : EK X b k' c m')
    (hw : swappedStores [.Tuple [.Name x px, .Name y py] kt pt] (.Tuple [a, c] k2 pt2) X.env = pure none)
    (h1 : (assignEach [.Tuple [.Name x px, .Name y py] kt pt] X.env).map (·.2) = [assign (.Tuple [.Name x px, .Name y py] kt pt) X.env] := by rfl)
    (s1 : starEach (a :: [c]) X.env = (false, eval a X.env) :: starEach [c] X.env := by rfl) (s2 : starEach (c :: []) X.env = (false, eval c X.env) :: starEach [] X.env := by rfl)
    (hs : swapsWithSole [.Tuple [.Name x px, .Name y py] kt pt] (.Tuple [a, c] k2 pt2) pos.line X.env = pure false := by rfl) :
    SD X b (.Assign [.Tuple [.Name x px, .Name y py] kt pt] (.Tuple [a, c] k2 pt2) pos) (cPar i j k k' m m') :=
  PS.weak (ps_asg (pe_tup (pa_cons ha (pa_cons hb pa_nil s2) s1)) (pg_tup (n := 2) hc (pgs_cons gx (pgs_cons gy pgs_nil))) hs hw h1) fun N σ H ⟨F, w, I, p⟩ => ⟨F, w, I, (PostS.ex p).mono fun v H1 ⟨F1, w1, d, i1, r1, x1, p1⟩ =>
    ⟨F1, w1, i1, (PostS.ex p1).mono fun u H2 ⟨F2, w2, e, i2, r2, x2, p2⟩ => ⟨by show 2 ≤ sizeLine; decide, fun t ht => ⟨t, [v, u], rfl, .of upd_same, rfl, v, [u], rfl, u, [], rfl, rfl, by
      obtain ⟨⟨l1, l2⟩, p3⟩ := outIte p2
      have i3 : b.Inv F2 σ (upd H2 t (.tup [v, u])) w2 := i2.lay ht
      have x3 : Ext b.g σ F2 H2 w2 F2 (upd H2 t (.tup [v, u])) w2 := Ext.lay i2 ht
      have h1 := ((relK.hd I x1 r1).ext i1 x2).ext i2 x3
      have h2 := (relK.hd i1 x2 r2).ext i2 x3
      refine p3 F2 _ _ (Same.refl _) ?_
      have I1 : b.Inv F2 (σ.set i (some v)) (upd H2 t (.tup [v, u])) ⟨w2.Γ.set i (sl k d), w2.S⟩ := i3.setK l1 h1
      refine Inv2.setK (w := ⟨w2.Γ.set i (sl k d), w2.S⟩) I1 (by simpa using l2) ?_
      cases k' with
      | false => exact h2
      | true =>
        obtain ⟨q, rfl, hF, h0, t', no⟩ := h2
        refine ⟨q, rfl, hF, h0, t', fun z => ?_⟩
        obtain ⟨n, e', g1, g2⟩ := z
        by_cases hn : i = n
        · subst hn
          rw [List.getElem?_set_self (by rw [i2.len]; exact l1)] at g2
          cases g2
          obtain ⟨q', e2, hq, hF', t''⟩ := (show ∃ a, V.ref q = .ref a ∧ H1 a = none ∧ F2 a = none ∧ Top b.g F2 H2 a e from r2)
          cases e2
          cases k with
          | true =>
            obtain ⟨a', e3, _, _, t1, _⟩ := relK.hd I x1 r1
            cases e3
            obtain ⟨o, ho⟩ := t1.some
            rw [hq] at ho; cases ho
          | false =>
            rw [List.getElem?_set_self l1] at g1
            cases g1
        · rw [List.getElem?_set_ne hn] at g2
          rw [List.getElem?_set_ne hn] at g1
          exact no ⟨n, e', g1, g2⟩⟩⟩⟩⟩
end
end FP


set_option Elab.async false
set_option linter.all false
set_option maxRecDepth 100000
set_option maxHeartbeats 4000000
/-! FP13: the law's own head; its ends. -/
namespace FP
open PySem PySem.Spec PyProof.Rows L2
theorem PSs.exi {ι : Type} {X : Cx} {sts : List Stmt} {t : ι → TS} (h : ∀ i, PSs X sts (t i)) : PSs X sts (fun N σ H => ∃ i, t i N σ H) := ⟨fun pins s σ H D I ⟨i, q⟩ => (h i).run pins s σ H D I q⟩
/-- where the state came to lie -/
structure Ix where
  s : Addr
  c : Addr
  F0 : Hp
  H0 : Hp
def B.at (gc : Gc) (W : WX) (i : Ix) : B := ⟨⟨gc, i.s, i.c⟩, i.F0, i.H0, W⟩
def lawW (n : Nat) (Sx : S) : FP.W := ⟨.none :: .frz .st :: List.replicate n .none, Sx⟩
theorem Inv2.law {gc : Gc} {H : Hp} {p c a : Addr} {n : Nat} {Sx : S} (ne : p ≠ c) (hs : H p = some (.lst [.int Sx.n, .ref c])) (hc : H c = some (.lst (Sx.cells.map V.int))) :
    Inv2 ⟨gc, p, c⟩ (fun _ => none) H (fun _ => none) (some (.ref a) :: some (.ref p) :: List.replicate n none) H (lawW n Sx) := by
  have st : StOK ⟨gc, p, c⟩ (fun _ => none) H Sx := ⟨rfl, rfl, ne, hs, hc⟩
  refine { Inv0.start (g := ⟨gc, p, c⟩) (F := fun _ => none) (fun _ _ h => nomatch h) st with len := ?_, slot := fun i s h => ?_, dis := fun i j x d e h1 h2 h3 h4 => ?_ }
  · simp [lawW]
  · match i with
    | 0 => cases h; trivial
    | 1 => cases h; exact ⟨.ref p, rfl, .st⟩
    | i + 2 =>
      have h : (List.replicate n Slot.none)[i]? = some s := h
      rw [List.getElem?_replicate] at h
      split at h
      · cases h; trivial
      · cases h
  · match i with
    | 0 => cases h1
    | 1 => cases h1
    | i + 2 =>
      have h1 : (List.replicate n Slot.none)[i]? = some (.own d) := h1
      rw [List.getElem?_replicate] at h1
      split at h1 <;> cases h1
def spLaw (K : PySem.W.Frag) : Sp := fun vs H Q _ => ∃ (a : Addr) (ns : List Int), vs = [.ref a] ∧ SqL K H a (ns.map V.int) ∧ ns.length ≤ 63 ∧ ∀ H', Q (.bl true) H'
theorem tS.law {gc : Gc} {W0 : WX} {H : Hp} {p c a : Addr} {n : Nat} {Sx : S} {cm : Cmd} {N : Ends} {w' : FP.W} (ne : p ≠ c) (hs : H p = some (.lst [.int Sx.n, .ref c])) (hc : H c = some (.lst (Sx.cells.map V.int)))
    (e : cm (lawW n Sx) = .rt (.bl true) w') (q : ∀ H', N.rt (.bl true) H') : ∃ i : Ix, tS (B.at gc W0 i) cm N (some (.ref a) :: some (.ref p) :: List.replicate n none) H := by
  refine ⟨⟨p, c, fun _ => none, H⟩, fun _ => none, _, Inv2.law ne hs hc, ?_⟩
  rw [e]
  intro F' σ' H' v i r
  cases r
  exact q H'
theorem exm_self {K : PySem.W.Frag} {S : Addr} (h1 : PySem.W.subIn K (.ref S) (.type "BaseException") = some true) (h2 : PySem.W.isClsIn K S = true) (h3 : PySem.W.typeIn K (.ref S) = some (.type "type")) (h4 : PySem.W.subIn K (.ref S) (.ref S) = some true) :
    PySem.W.exmOne K (.ref S) (.ref S) = some true := by
  have e1 : (PySem.W.subIn K (.ref S) (.type "BaseException") == some true) = true := by rw [h1] <;> rfl
  have e2 : ((PySem.W.clsIn K S).isSome && PySem.W.typeIn K (.ref S) == some (.type "type")) = true := by
    have h2' : (PySem.W.clsIn K S).isSome = true := h2
    rw [h2', h3] <;> rfl
  show (if (PySem.W.subIn K (.ref S) (.type "BaseException") == some true) = true then (if ((PySem.W.clsIn K S).isSome && PySem.W.typeIn K (.ref S) == some (.type "type")) = true then PySem.W.subIn K (.ref S) (.ref S) else none) else none) = some true
  rw [if_pos e1, if_pos e2]
  exact h4
end FP


set_option Elab.async false
set_option linter.all false
set_option maxRecDepth 100000
set_option maxHeartbeats 2000000
/-! FP14: max, min, is, dicts. -/
namespace FP
open PySem PySem.Spec PyProof.Rows L2
/-! ### greatest, least -/
def maxL (n : Int) : List Int → Int
  | [] => n
  | m :: r => maxL (if n < m then m else n) r
def minL (n : Int) : List Int → Int
  | [] => n
  | m :: r => minL (if m < n then m else n) r
theorem maxL_ok : ∀ (r : List Int) (n : Int), maxL n r ∈ n :: r ∧ ∀ y ∈ n :: r, y ≤ maxL n r
  | [], n => ⟨List.mem_cons_self, fun y h => by rw [List.mem_singleton.mp h]; exact Int.le_refl _⟩
  | m :: r, n => by
    obtain ⟨h1, h2⟩ := maxL_ok r (if n < m then m else n)
    show maxL (if n < m then m else n) r ∈ n :: m :: r ∧ ∀ y ∈ n :: m :: r, y ≤ maxL (if n < m then m else n) r
    generalize hk : (if n < m then m else n) = k at h1 h2
    have hk1 : k = m ∨ k = n := by rw [← hk]; split <;> simp
    have hk2 : m ≤ k ∧ n ≤ k := by rw [← hk]; split <;> omega
    refine ⟨?_, fun y h => ?_⟩
    · rcases List.mem_cons.mp h1 with e | e
      · rw [e]
        rcases hk1 with rfl | rfl <;> simp
      · exact List.mem_cons_of_mem _ (List.mem_cons_of_mem _ e)
    · have h3 := h2 k List.mem_cons_self
      rcases List.mem_cons.mp h with rfl | h
      · omega
      · rcases List.mem_cons.mp h with rfl | h
        · omega
        · exact h2 y (List.mem_cons_of_mem _ h)
theorem minL_ok : ∀ (r : List Int) (n : Int), minL n r ∈ n :: r ∧ ∀ y ∈ n :: r, minL n r ≤ y
  | [], n => ⟨List.mem_cons_self, fun y h => by rw [List.mem_singleton.mp h]; exact Int.le_refl _⟩
  | m :: r, n => by
    obtain ⟨h1, h2⟩ := minL_ok r (if m < n then m else n)
    show minL (if m < n then m else n) r ∈ n :: m :: r ∧ ∀ y ∈ n :: m :: r, minL (if m < n then m else n) r ≤ y
    generalize hk : (if m < n then m else n) = k at h1 h2
    have hk1 : k = m ∨ k = n := by rw [← hk]; split <;> simp
    have hk2 : k ≤ m ∧ k ≤ n := by rw [← hk]; split <;> omega
    refine ⟨?_, fun y h => ?_⟩
    · rcases List.mem_cons.mp h1 with e | e
      · rw [e]
        rcases hk1 with rfl | rfl <;> simp
      · exact List.mem_cons_of_mem _ (List.mem_cons_of_mem _ e)
    · have h3 := h2 k List.mem_cons_self
      rcases List.mem_cons.mp h with rfl | h
      · omega
      · rcases List.mem_cons.mp h with rfl | h
        · omega
        · exact h2 y (List.mem_cons_of_mem _ h)
def maxI : List Int → Option D
  | [] => none
  | n :: r => some (.int (maxL n r))
def minI : List Int → Option D
  | [] => none
  | n :: r => some (.int (minL n r))
def fMax : D → Option D
  | .lst ds => (ints? ds).bind maxI
  | _ => none
def fMin : D → Option D
  | .lst ds => (ints? ds).bind minI
  | _ => none
section
variable {X : Cx} {b : B} {p pos : Pos} {a c : Expr} {ma mc : M D}
theorem ed_max1 (hc : X.calm = true) (T : Bl X.mg) (hg : Gl X "max") (ha : ER X b a ma) (he : starEach (a :: []) X.env = (false, eval a X.env) :: starEach [] X.env := by rfl) : ED X b (.Call (.Name "max" p) [a] [] pos) (mUn fMax ma) := by
  refine PE.weak (pe_callB (cr_max hc) hg T.max (by decide +kernel) (pa_cons ha pa_nil he) (he := he)) (t_one (α := Unit) fun F H0 H σ w x d z Q i rx hz q => ?_)
  unfold fMax at hz
  split at hz
  · rename_i ds
    cases e : ints? ds with
    | none => rw [e] at hz; cases hz
    | some ns =>
      rw [e] at hz
      obtain rfl := ints?_eq e
      obtain ⟨l, vs, rfl, hl, rl⟩ := relR.lst rx i.sub
      obtain rfl := rl.of_ints
      cases ns with
      | nil => cases hz
      | cons n r =>
        have hz : some (D.int (maxL n r)) = some z := hz
        cases hz
        obtain ⟨k1, k2⟩ := maxL_ok r n
        refine ⟨l, n :: r, rfl, .of hl, Nat.succ_pos _, fun m h1 h2 => ?_⟩
        have : m = maxL n r := by have := h2 _ k1; have := k2 _ h1; omega
        subst this
        exact fin i q (Rep.int _)
  · cases hz
theorem ed_min1 (hc : X.calm = true) (T : Bl X.mg) (hg : Gl X "min") (ha : ER X b a ma) (he : starEach (a :: []) X.env = (false, eval a X.env) :: starEach [] X.env := by rfl) : ED X b (.Call (.Name "min" p) [a] [] pos) (mUn fMin ma) := by
  refine PE.weak (pe_callB (cr_min hc) hg T.min (by decide +kernel) (pa_cons ha pa_nil he) (he := he)) (t_one (α := Unit) fun F H0 H σ w x d z Q i rx hz q => ?_)
  unfold fMin at hz
  split at hz
  · rename_i ds
    cases e : ints? ds with
    | none => rw [e] at hz; cases hz
    | some ns =>
      rw [e] at hz
      obtain rfl := ints?_eq e
      obtain ⟨l, vs, rfl, hl, rl⟩ := relR.lst rx i.sub
      obtain rfl := rl.of_ints
      cases ns with
      | nil => cases hz
      | cons n r =>
        have hz : some (D.int (minL n r)) = some z := hz
        cases hz
        obtain ⟨k1, k2⟩ := minL_ok r n
        refine ⟨l, n :: r, rfl, .of hl, Nat.succ_pos _, fun m h1 h2 => ?_⟩
        have : m = minL n r := by have := h2 _ k1; have := k2 _ h1; omega
        subst this
        exact fin i q (Rep.int _)
  · cases hz
/-- a built-in of two values -/
def mB2 (f : D → D → Option D) (m : M (List D)) : M D := m.bind fun ds => match ds with
  | [x, y] => ofO (f x y)
  | _ => M.bad
def fMax2 : D → D → Option D
  | .int i, .int j => some (.int (if j > i then j else i))
  | _, _ => none
def fMin2 : D → D → Option D
  | .int i, .int j => some (.int (if j < i then j else i))
  | _, _ => none
theorem ed_max2 (hc : X.calm = true) (T : Bl X.mg) (hg : Gl X "max") {m : M (List D)} (ha : EA X b [a, c] m) (he : starEach (a :: [c]) X.env = (false, eval a X.env) :: starEach [c] X.env := by rfl) (hpl : (backTo pos (starEach [c] X.env)).any (·.1) = false := by rfl) : ED X b (.Call (.Name "max" p) [a, c] [] pos) (mB2 fMax2 m) := by
  refine PE.weak (pe_callB (call_max2 hc) hg T.max (by decide +kernel) ha (he := he) (hpl := hpl)) fun σ H Q ⟨F, w, I, q⟩ => ⟨F, w, I, (Post.bind q).mono fun vs H1 ⟨F1, w1, ds, i1, r1, x1, p1⟩ => ?_⟩
  have r1 : Reps b.g F1 vs ds := r1
  split at p1
  · obtain ⟨z, hz, p2⟩ := Post.ofO p1
    unfold fMax2 at hz
    split at hz
    · cases hz
      cases r1 with
      | cons h1 r1 => cases r1 with
        | cons h2 r1 => cases r1; cases h1; cases h2; exact ⟨_, _, rfl, fin i1 p2 (Rep.int _)⟩
    · cases hz
  · exact p1.elim
theorem ed_min2 (hc : X.calm = true) (T : Bl X.mg) (hg : Gl X "min") {m : M (List D)} (ha : EA X b [a, c] m) (he : starEach (a :: [c]) X.env = (false, eval a X.env) :: starEach [c] X.env := by rfl) (hpl : (backTo pos (starEach [c] X.env)).any (·.1) = false := by rfl) : ED X b (.Call (.Name "min" p) [a, c] [] pos) (mB2 fMin2 m) := by
  refine PE.weak (pe_callB (call_min2 hc) hg T.min (by decide +kernel) ha (he := he) (hpl := hpl)) fun σ H Q ⟨F, w, I, q⟩ => ⟨F, w, I, (Post.bind q).mono fun vs H1 ⟨F1, w1, ds, i1, r1, x1, p1⟩ => ?_⟩
  have r1 : Reps b.g F1 vs ds := r1
  split at p1
  · obtain ⟨z, hz, p2⟩ := Post.ofO p1
    unfold fMin2 at hz
    split at hz
    · cases hz
      cases r1 with
      | cons h1 r1 => cases r1 with
        | cons h2 r1 => cases r1; cases h1; cases h2; exact ⟨_, _, rfl, fin i1 p2 (Rep.int _)⟩
    · cases hz
  · exact p1.elim
/-! ### is -/
def isNon : D → Bool
  | .non => true
  | _ => false
def fIsN (d : D) : D → Option D
  | .non => some (.bl (isNon d))
  | _ => none
def fNotN (d : D) : D → Option D
  | .non => some (.bl (!isNon d))
  | _ => none
def fIsB : D → D → Option D
  | .bl i, .bl j => some (.bl (decide (i = j)))
  | _, _ => none
def fNotB : D → D → Option D
  | .bl i, .bl j => some (.bl (!decide (i = j)))
  | _, _ => none
theorem Rep.isNon {g : G} {F : Hp} {v : V} {d : D} (h : Rep g F v d) : decide (v = V.non) = FP.isNon d := by
  cases h <;> first | rfl | exact decide_eq_false (fun z => by cases z)
theorem ans_isN : AnsD b fIsN (fun x y H Q => y = .non ∧ Q (.bl (decide (x = .non))) H) := fun F H σ w x y d e z Q i rx ry hz p => by
  unfold fIsN at hz
  split at hz
  · cases hz; cases ry
    rw [rx.isNon]
    exact ⟨rfl, fin i p (Rep.bl _)⟩
  · cases hz
theorem ans_notN : AnsD b fNotN (fun x y H Q => y = .non ∧ Q (.bl (!decide (x = .non))) H) := fun F H σ w x y d e z Q i rx ry hz p => by
  unfold fNotN at hz
  split at hz
  · cases hz; cases ry
    rw [rx.isNon]
    exact ⟨rfl, fin i p (Rep.bl _)⟩
  · cases hz
theorem ans_isB : AnsD b fIsB (fun x y H Q => ∃ a b, x = .bl a ∧ y = .bl b ∧ Q (.bl (decide (a = b))) H) := fun F H σ w x y d e z Q i rx ry hz p => by
  unfold fIsB at hz
  split at hz
  · cases hz; cases ry; cases rx
    exact ⟨_, _, rfl, rfl, fin i p (Rep.bl _)⟩
  · cases hz
theorem ans_notB : AnsD b fNotB (fun x y H Q => ∃ a b, x = .bl a ∧ y = .bl b ∧ Q (.bl (!decide (a = b))) H) := fun F H σ w x y d e z Q i rx ry hz p => by
  unfold fNotB at hz
  split at hz
  · cases hz; cases ry; cases rx
    exact ⟨_, _, rfl, rfl, fin i p (Rep.bl _)⟩
  · cases hz
end
/-! ### dicts -/
def key1 : D → Option Key
  | .int i => some (.inl i)
  | .str x => some (.inr x)
  | _ => none
def keyT : List D → Option (List Key)
  | [] => some []
  | d :: ds => match key1 d, keyT ds with
    | some k, some ks => some (k :: ks)
    | _, _ => none
def kD : Key → D
  | .inl i => .int i
  | .inr x => .str x
theorem key1_eq {d : D} {k : Key} (h : key1 d = some k) : d = kD k := by
  unfold key1 at h
  split at h <;> cases h <;> rfl
theorem key1_kD (k : Key) : key1 (kD k) = some k := by cases k <;> rfl
theorem keyT_eq : ∀ {ds : List D} {ks : List Key}, keyT ds = some ks → ds = ks.map kD
  | [], ks, h => by cases h; rfl
  | d :: ds, ks, h => by
    unfold keyT at h
    split at h
    · rename_i k ks' h1 h2
      cases h
      rw [List.map_cons, ← key1_eq h1, ← keyT_eq h2]
    · cases h
theorem Rep.key {g : G} {F : Hp} {v : V} {k : Key} (h : Rep g F v (kD k)) : v = kV k := by
  cases k with
  | inl i => cases h; rfl
  | inr x => cases h; rfl
theorem Reps.keys {g : G} {F : Hp} : ∀ {vs : List V} {ks : List Key}, Reps g F vs (ks.map kD) → vs = ks.map kV
  | _, [], .nil => rfl
  | _, k :: ks, .cons h r => by rw [List.map_cons, ← h.key, Reps.keys r]
def valD {κ : Type} [DecidableEq κ] (kvs : List (κ × D)) (k : κ) : Option D := (kvs.find? fun kv => decide (kv.1 = k)).map (·.2)
def putD {κ : Type} [DecidableEq κ] (kvs : List (κ × D)) (k : κ) (v : D) : List (κ × D) :=
  if (kvs.any fun kv => decide (kv.1 = k)) = true then kvs.map (fun kv => if kv.1 = k then (kv.1, v) else kv) else kvs ++ [(k, v)]
section
variable {κ : Type} [DecidableEq κ] {g : G} {F : Hp}
theorem valD_ok : ∀ {kvs : List (κ × V)} {dks : List (κ × D)} {k : κ}, kvs.map (·.1) = dks.map (·.1) → Reps g F (kvs.map (·.2)) (dks.map (·.2)) → (valV kvs k = none ∧ valD dks k = none) ∨ ∃ v d, valV kvs k = some v ∧ valD dks k = some d ∧ Rep g F v d
  | [], [], k, _, _ => .inl ⟨rfl, rfl⟩
  | [], _ :: _, k, e, _ => by cases e
  | _ :: _, [], k, e, _ => by cases e
  | (k1, v) :: kvs, (k2, d) :: dks, k, e, r => by
    injection e with e1 e2
    have e1 : k1 = k2 := e1
    subst e1
    cases r with
    | cons h r =>
      by_cases q : k1 = k
      · subst q
        refine .inr ⟨v, d, ?_, ?_, h⟩
        · unfold valV; rw [List.find?_cons_of_pos (by simp)]; rfl
        · unfold valD; rw [List.find?_cons_of_pos (by simp)]; rfl
      · have := valD_ok (k := k) e2 r
        unfold valV valD at this ⊢
        rw [List.find?_cons_of_neg (by simpa using q), List.find?_cons_of_neg (by simpa using q)]
        exact this
theorem any_keys (k : κ) : ∀ {α β : Type} {kvs : List (κ × α)} {dks : List (κ × β)}, kvs.map (·.1) = dks.map (·.1) → (kvs.any fun kv => decide (kv.1 = k)) = (dks.any fun kv => decide (kv.1 = k))
  | _, _, [], [], _ => rfl
  | _, _, [], _ :: _, e => by cases e
  | _, _, _ :: _, [], e => by cases e
  | _, _, p :: kvs, q :: dks, e => by
    injection e with e1 e2
    have e1 : p.1 = q.1 := e1
    rw [List.any_cons, List.any_cons, any_keys k e2, e1]
theorem putD_ok {v : V} {d : D} (hv : Rep g F v d) {kvs : List (κ × V)} {dks : List (κ × D)} {k : κ} (e : kvs.map (·.1) = dks.map (·.1)) (r : Reps g F (kvs.map (·.2)) (dks.map (·.2))) :
    (putK kvs k v).map (·.1) = (putD dks k d).map (·.1) ∧ Reps g F ((putK kvs k v).map (·.2)) ((putD dks k d).map (·.2)) := by
  unfold putK putD
  rw [any_keys k e]
  by_cases q : (dks.any fun kv => decide (kv.1 = k)) = true
  · rw [if_pos q, if_pos q]
    clear q
    induction kvs generalizing dks with
    | nil => cases dks with
      | nil => exact ⟨rfl, .nil⟩
      | cons => cases e
    | cons p kvs ih => cases dks with
      | nil => cases e
      | cons p2 dks =>
        injection e with e1 e2
        have e1 : p.1 = p2.1 := e1
        cases r with
        | cons h r =>
          obtain ⟨i1, i2⟩ := ih e2 r
          rw [List.map_cons, List.map_cons, List.map_cons, List.map_cons, List.map_cons, List.map_cons, i1]
          by_cases z : p.1 = k
          · rw [if_pos z, if_pos (e1 ▸ z), e1]; exact ⟨rfl, .cons hv i2⟩
          · rw [if_neg z, if_neg (fun y => z (e1.trans y)), e1]; exact ⟨rfl, .cons h i2⟩
  · rw [if_neg q, if_neg q, List.map_append, List.map_append, List.map_append, List.map_append, e]
    exact ⟨rfl, r.append (.one hv)⟩
theorem putD_len (kvs : List (κ × D)) (k : κ) (v : D) : (putD kvs k v).length ≤ kvs.length + 1 := by
  unfold putD
  split
  · rw [List.length_map]; omega
  · rw [List.length_append, List.length_singleton]; omega
end
/-- what a dict holds; that it is a key -/
def atD : D → D → Option (Option D)
  | .dT kvs, .tup ds => (keyT ds).map fun k => valD kvs k
  | .dK kvs, d => (key1 d).map fun k => valD kvs k
  | _, _ => none
def fDix (x y : D) : Option D := match atD x y with
  | some (some d) => some d
  | _ => none
def fDin (y x : D) : Option D := (atD x y).map fun o => .bl o.isSome
def fDnot (y x : D) : Option D := (atD x y).map fun o => .bl (!o.isSome)
section
variable {b : B} {F H0 H : Hp} {σ : L2.St} {w : W} {x y : V} {d e : D} {o : Option D}
theorem atD_ok (i : b.Inv F σ H w) (rx : (relR b).r H0 F H x d) (ry : Rep b.g F y e) (h : atD d e = some o) : ∃ a ov, x = .ref a ∧ DGet H a y ov ∧ ((ov = none ∧ o = none) ∨ ∃ v z, ov = some v ∧ o = some z ∧ Rep b.g F v z) := by
  unfold atD at h
  split at h
  · rename_i dks ds
    cases ek : keyT ds with
    | none => rw [ek] at h; cases h
    | some k =>
      rw [ek] at h
      obtain rfl := keyT_eq ek
      have h : some (valD dks k) = some o := h
      cases h
      cases ry with
      | @tup p vs _ hp rp =>
        obtain rfl := rp.keys
        have hp := i.sub _ _ hp
        have fin : ∀ (a : Addr) (kvs : List (List Key × V)), H a = some (.dT kvs) → kvs.map (·.1) = dks.map (·.1) → Reps b.g F (kvs.map (·.2)) (dks.map (·.2)) → ∃ a' ov, V.ref a = .ref a' ∧ DGet H a' (.ref p) ov ∧ ((ov = none ∧ valD dks k = none) ∨ ∃ v z, ov = some v ∧ valD dks k = some z ∧ Rep b.g F v z) := fun a kvs e1 e2 e3 =>
          ⟨a, _, rfl, DGet.t e1 hp, valD_ok e2 e3⟩
        rcases rx with rx | ⟨a, rfl, _, _, t⟩
        · cases rx with
          | dT e1 e2 e3 => exact fin _ _ (i.sub _ _ e1) e2 e3
        · cases t with
          | dT e1 e2 e3 => exact fin _ _ e1 e2 e3
  · rename_i dks
    cases ek : key1 e with
    | none => rw [ek] at h; cases h
    | some k =>
      rw [ek] at h
      obtain rfl := key1_eq ek
      have h : some (valD dks k) = some o := h
      cases h
      obtain rfl := ry.key
      have fin : ∀ (a : Addr) (kvs : List (Key × V)), H a = some (.dK kvs) → kvs.map (·.1) = dks.map (·.1) → Reps b.g F (kvs.map (·.2)) (dks.map (·.2)) → ∃ a' ov, V.ref a = .ref a' ∧ DGet H a' (kV k) ov ∧ ((ov = none ∧ valD dks k = none) ∨ ∃ v z, ov = some v ∧ valD dks k = some z ∧ Rep b.g F v z) := fun a kvs e1 e2 e3 =>
          ⟨a, _, rfl, DGet.k e1, valD_ok e2 e3⟩
      rcases rx with rx | ⟨a, rfl, _, _, t⟩
      · cases rx with
        | dK e1 e2 e3 => exact fin _ _ (i.sub _ _ e1) e2 e3
      · cases t with
        | dK e1 e2 e3 => exact fin _ _ e1 e2 e3
  · cases h
end
section
variable {X : Cx} {b : B} {p pos : Pos} {a c : Expr} {ma mc : M D}
theorem ed_dix (hu : X.A.units + 1 < cLine) (ha : ER X b a ma) (hc : ED X b c mc) (hs : NoSl c := by intro _ _; rfl) : ED X b (.Subscript a c pos) (mOp fDix ma mc) := by
  refine PE.weak (pe_dget hu ha hc hs) fun σ H Q h => ?_
  obtain ⟨F, w, I, p⟩ := h
  refine ⟨F, w, I, (Post.bind p).mono fun x H1 ⟨F1, w1, d, i1, r1, x1, p1⟩ => ⟨F1, w1, i1, (Post.bind p1).mono fun y H2 ⟨F2, w2, e, i2, r2, x2, p2⟩ => ?_⟩⟩
  obtain ⟨z, hz, p3⟩ := Post.ofO p2
  unfold fDix at hz
  split at hz
  · rename_i d' hd
    cases hz
    obtain ⟨l, ov, rfl, g, q⟩ := atD_ok i2 (relR.ext r1 x2) r2 hd
    rcases q with ⟨_, q⟩ | ⟨v, z', rfl, q, rv⟩
    · cases q
    · cases q
      exact ⟨l, v, rfl, g, fin i2 p3 rv⟩
  · cases hz
/-- k in d, k not in d: a test -/
theorem pc_dinD (hu : X.A.units + 1 < cLine) (ha : ED X b a ma) (hc : ER X b c mc) : PC X .In a c (tG (relD b) (mOp fDin ma mc)) := by
  have h := pc_din hu ha hc
  refine ⟨fun pins s σ H Q I q => h.run pins s σ H Q I ?_⟩
  obtain ⟨F, w, I', p⟩ := q
  refine ⟨F, w, I', (Post.bind p).mono fun x H1 ⟨F1, w1, d, i1, r1, x1, p1⟩ => ⟨F1, w1, i1, (Post.bind p1).mono fun y H2 ⟨F2, w2, e, i2, r2, x2, p2⟩ => ?_⟩⟩
  obtain ⟨z, hz, p3⟩ := Post.ofO p2
  unfold fDin at hz
  cases ea : atD e d with
  | none => rw [ea] at hz; cases hz
  | some o =>
    rw [ea] at hz
    cases hz
    have r1 : Rep b.g F1 x d := r1
    obtain ⟨l, ov, rfl, g, q⟩ := atD_ok i2 r2 (r1.mono x2.ff) ea
    refine ⟨l, ov, rfl, g, ?_⟩
    rcases q with ⟨rfl, rfl⟩ | ⟨v, z', rfl, rfl, rv⟩
    · exact fin i2 p3 (Rep.bl _)
    · exact fin i2 p3 (Rep.bl _)
theorem pc_dnotD (hu : X.A.units + 1 < cLine) (ha : ED X b a ma) (hc : ER X b c mc) : PC X .NotIn a c (tG (relD b) (mOp fDnot ma mc)) := by
  have h := pc_dnotin hu ha hc
  refine ⟨fun pins s σ H Q I q => h.run pins s σ H Q I ?_⟩
  obtain ⟨F, w, I', p⟩ := q
  refine ⟨F, w, I', (Post.bind p).mono fun x H1 ⟨F1, w1, d, i1, r1, x1, p1⟩ => ⟨F1, w1, i1, (Post.bind p1).mono fun y H2 ⟨F2, w2, e, i2, r2, x2, p2⟩ => ?_⟩⟩
  obtain ⟨z, hz, p3⟩ := Post.ofO p2
  unfold fDnot at hz
  cases ea : atD e d with
  | none => rw [ea] at hz; cases hz
  | some o =>
    rw [ea] at hz
    cases hz
    have r1 : Rep b.g F1 x d := r1
    obtain ⟨l, ov, rfl, g, q⟩ := atD_ok i2 r2 (r1.mono x2.ff) ea
    refine ⟨l, ov, rfl, g, ?_⟩
    rcases q with ⟨rfl, rfl⟩ | ⟨v, z', rfl, rfl, rv⟩
    · exact fin i2 p3 (Rep.bl _)
    · exact fin i2 p3 (Rep.bl _)
/-- {} -/
theorem ef_dT : EF X b (.Dict [] [] pos) (M.pure (.dT [])) := PE.weak pe_dnewT fun σ H Q ⟨F, w, I, p⟩ q hq => fin_fresh I p hq (.dT upd_same rfl .nil)
theorem ef_dK : EF X b (.Dict [] [] pos) (M.pure (.dK [])) := PE.weak pe_dnewK fun σ H Q ⟨F, w, I, p⟩ q hq => fin_fresh I p hq (.dK upd_same rfl .nil)
end
end FP


set_option Elab.async false
set_option linter.all false
set_option maxRecDepth 100000
set_option maxHeartbeats 2000000
/-! FP15: d[k] = e, d.get(k, x), two clauses, calls with an own dict or list lent. -/
namespace FP
open PySem PySem.Spec PyProof.Rows L2
/-! ### d[k] = e -/
def dputW (i : Nat) (d k : D) : Cmd := fun w => match w.Γ[i]? with
  | some (.own (.dT kvs)) => (match k with
    | .tup ds => (match keyT ds with
      | some ks => if kvs.length < sizeLine then .nx ⟨w.Γ.set i (.own (.dT (putD kvs ks d))), w.S⟩ else .bad
      | none => .bad)
    | _ => .bad)
  | some (.own (.dK kvs)) => (match key1 k with
    | some k => if kvs.length < sizeLine then .nx ⟨w.Γ.set i (.own (.dK (putD kvs k d))), w.S⟩ else .bad
    | none => .bad)
  | _ => .bad
def cDput (i : Nat) (mk me : M D) : Cmd := fun w => (me w).out fun d w1 => match w1.Γ[i]? with
  | some (.own _) => (mk w1).out fun k w3 => dputW i d k w3
  | _ => .bad
section
variable {X : Cx} {b : B} {pos : Pos}
theorem sd_dput {i : Nat} {x : Str} {e k : Expr} {me mk : M D} {p tpos : Pos} (hu : X.A.units + 1 < cLine) (hx : PE X (.Name x p) (tVar i)) (he : ED X b e me) (hk : ED X b k mk) (hs : swapsWith e (some (.Subscript (.Name x p) k tpos)) pos.line X.env = pure false := by rfl) :
    SD X b (.Assign [.Subscript (.Name x p) k tpos] e pos) (cDput i mk me) :=
  PS.weak (ps_dput hu hx hk he hs) fun N σ H ⟨F, w, I, p⟩ => ⟨F, w, I, (PostS.ex p).mono fun v H1 ⟨F1, w1, d, i1, r1, x1, p1⟩ => by
    have r1 : Rep b.g F1 v d := r1
    have p1 : PostS b F1 (match w1.Γ[i]? with
      | some (.own _) => (mk w1).out fun k w3 => dputW i d k w3
      | _ => .bad) N := p1
    cases e0 : w1.Γ[i]? with
    | none => rw [e0] at p1; exact p1.elim
    | some s0 =>
      cases s0 with
      | none => rw [e0] at p1; exact p1.elim
      | frz d0 => rw [e0] at p1; exact p1.elim
      | own d0 =>
        rw [e0] at p1
        obtain ⟨l, e1, _, _, _⟩ := i1.slot i _ e0
        have p1 : PostS b F1 ((mk w1).out fun k w3 => dputW i d k w3) N := p1
        refine ⟨.ref l, e1, F1, w1, i1, (PostS.ex p1).mono fun u H2 ⟨F2, w2, dk, i2, r2, x2, p2⟩ => ?_⟩
        have r2 : Rep b.g F2 u dk := r2
        have rv := r1.mono x2.ff
        have p2 : PostS b F2 (dputW i d dk w2) N := p2
        unfold dputW at p2
        split at p2
        · rename_i dks e2
          obtain ⟨l', e3, hF, h0, t⟩ := i2.slot i _ e2
          rw [e1] at e3
          cases e3
          split at p2
          · rename_i ds
            split at p2
            · rename_i ks ek
              obtain ⟨hz, p3⟩ := outIte p2
              obtain rfl := keyT_eq ek
              cases r2 with
              | @tup kp vs _ hp rp =>
                obtain rfl := rp.keys
                cases t with
                | @dT kvs _ ht hk hr =>
                  have hl : kvs.length = dks.length := by have := congrArg List.length hk; rwa [List.length_map, List.length_map] at this
                  obtain ⟨q1, q2⟩ := putD_ok (k := ks) rv hk hr
                  exact ⟨l, _, rfl, DPut.t ht (i2.sub _ _ hp) (by rw [hl]; exact hz), p3 F2 σ _ (Same.refl _) (i2.chg e2 e1 (.dT upd_same q1 q2))⟩
            · exact p2.elim
          · exact p2.elim
        · rename_i dks e2
          obtain ⟨l', e3, hF, h0, t⟩ := i2.slot i _ e2
          rw [e1] at e3
          cases e3
          split at p2
          · rename_i k ek
            obtain ⟨hz, p3⟩ := outIte p2
            obtain rfl := key1_eq ek
            obtain rfl := r2.key
            cases t with
            | @dK kvs _ ht hk hr =>
              have hl : kvs.length = dks.length := by have := congrArg List.length hk; rwa [List.length_map, List.length_map] at this
              obtain ⟨q1, q2⟩ := putD_ok (k := k) rv hk hr
              exact ⟨l, _, rfl, DPut.k ht (by rw [hl]; exact hz), p3 F2 σ _ (Same.refl _) (i2.chg e2 e1 (.dK upd_same q1 q2))⟩
          · exact p2.elim
        · exact p2.elim⟩
/-- d.get(k, x) -/
def isDict : D → Bool
  | .dT _ => true
  | .dK _ => true
  | _ => false
def mGet (md mk mx : M D) : M D := md.bind fun d => if isDict d = true then mk.bind fun k => mx.bind fun z => match atD d k with
  | some (some e) => M.pure e
  | some none => M.pure z
  | none => M.bad
  else M.bad
theorem isDict_ok {F H0 H : Hp} {σ : L2.St} {w : W} {x : V} {d : D} (i : b.Inv F σ H w) (rx : (relR b).r H0 F H x d) (h : isDict d = true) : ∃ a, x = .ref a ∧ IsD H a := by
  rcases rx with rx | ⟨a, rfl, _, _, t⟩
  · cases rx with
    | dT e _ _ => exact ⟨_, rfl, .inr ⟨_, .inl (i.sub _ _ e)⟩⟩
    | dK e _ _ => exact ⟨_, rfl, .inl ⟨_, .inl (i.sub _ _ e)⟩⟩
    | _ => cases h
  · cases t with
    | dT e _ _ => exact ⟨_, rfl, .inr ⟨_, .inl e⟩⟩
    | dK e _ _ => exact ⟨_, rfl, .inl ⟨_, .inl e⟩⟩
    | _ => cases h
theorem ed_get {o e f : Expr} {apos cpos : Pos} {mo me mf : M D} (hu : X.A.units + 1 < cLine) (ho : ER X b o mo) (he : ED X b e me) (hf : ED X b f mf)
    (m1 : attributeBase o "get" X.env (eval o X.env) = eval o X.env := by rfl)
    (m2 : ((backTo cpos (starEach [e, f] X.env)).all (fun x => !x.1) && (backToKw cpos (keywordEach [] X.env)).all (fun x => x.1.isSome) && decide (([e, f] : List Expr).length + ([] : List Keyword).length + (if ([] : List Keyword).isEmpty then 0 else 1) < 30)) = true := by rfl)
    (m3 : (apos.endLine == cpos.line) = true := by rfl) (m4 : backTo cpos (starEach [e, f] X.env) = [(false, eval e X.env), (false, eval f X.env)] := by rfl) :
    ED X b (.Call (.Attribute o "get" apos) [e, f] [] cpos) (mGet mo me mf) :=
  PE.weak (pe_dget2 hu ho he hf ⟨m1, m2, m3, m4⟩) fun σ H Q ⟨F, w, I, p⟩ => ⟨F, w, I, (Post.bind p).mono fun x H1 ⟨F1, w1, d, i1, r1, x1, p1⟩ => by
    obtain ⟨hd, p1⟩ := Post.ite p1
    obtain ⟨a, rfl, ha⟩ := isDict_ok i1 r1 hd
    refine ⟨a, rfl, ha, F1, w1, i1, (Post.bind p1).mono fun y H2 ⟨F2, w2, k, i2, r2, x2, p2⟩ => ⟨F2, w2, i2, (Post.bind p2).mono fun z H3 ⟨F3, w3, dz, i3, r3, x3, p3⟩ => ?_⟩⟩
    have r2 : Rep b.g F2 y k := r2
    have r3 : Rep b.g F3 z dz := r3
    cases e : atD d k with
    | none => rw [e] at p3; exact p3.elim
    | some ov =>
      obtain ⟨a', ov', q1, g, q⟩ := atD_ok i3 (relR.ext (relR.ext r1 x2) x3) (r2.mono x3.ff) e
      cases q1
      refine ⟨ov', g, ?_⟩
      rcases q with ⟨rfl, rfl⟩ | ⟨v, z', rfl, rfl, rv⟩
      · rw [e] at p3; exact fin i3 p3 r3
      · rw [e] at p3; exact fin i3 p3 rv⟩
end
/-! ### a call with an own dict lent -/
mutual
/-- no dict within -/
def noD : D → Bool
  | .tup ds => noDs ds
  | .lst ds => noDs ds
  | .kt _ => false
  | .dK _ => false
  | .dT _ => false
  | _ => true
def noDs : List D → Bool
  | [] => true
  | d :: ds => noD d && noDs ds
end
mutual
theorem Rep.unfrz {g : G} {F F' : Hp} {a : Addr} (hF : ∀ c, c ≠ a → F' c = F c) (ha : ∀ vs, F a ≠ some (.tup vs)) (h2 : ∀ vs, F a ≠ some (.lst vs)) : ∀ {v : V} {d : D}, Rep g F v d → noD d = true → Rep g F' v d
  | _, _, .non, _ => .non
  | _, _, .bl b, _ => .bl b
  | _, _, .int i, _ => .int i
  | _, _, .str x, _ => .str x
  | _, _, .st, _ => .st
  | _, _, .tup (a := c) h r, n => .tup (by rw [hF c (fun e => by subst e; exact ha _ h)]; exact h) (Reps.unfrz hF ha h2 r (by simpa [noD] using n))
  | _, _, .lst (a := c) h r, n => .lst (by rw [hF c (fun e => by subst e; exact h2 _ h)]; exact h) (Reps.unfrz hF ha h2 r (by simpa [noD] using n))
  | _, _, .kt _ _, n => by simp [noD] at n
  | _, _, .dK _ _ _, n => by simp [noD] at n
  | _, _, .dT _ _ _, n => by simp [noD] at n
theorem Reps.unfrz {g : G} {F F' : Hp} {a : Addr} (hF : ∀ c, c ≠ a → F' c = F c) (ha : ∀ vs, F a ≠ some (.tup vs)) (h2 : ∀ vs, F a ≠ some (.lst vs)) : ∀ {vs : List V} {ds : List D}, Reps g F vs ds → noDs ds = true → Reps g F' vs ds
  | _, _, .nil, _ => .nil
  | _, _, .cons h r, n => by
    simp only [noDs, Bool.and_eq_true] at n
    exact .cons (Rep.unfrz hF ha h2 h n.1) (Reps.unfrz hF ha h2 r n.2)
end
/-- F' but at a -/
def but (F' : Hp) (a : Addr) : Hp := fun c => if c = a then none else F' c
theorem but_ne {F' : Hp} {a c : Addr} (h : c ≠ a) : but F' a c = F' c := if_neg h
theorem but_eq {F' : Hp} {a : Addr} : but F' a a = none := if_pos rfl
theorem but_some {F' : Hp} {a c : Addr} {o : HO} (h : but F' a c = some o) : c ≠ a ∧ F' c = some o := by
  by_cases e : c = a
  · subst e; rw [but_eq] at h; cases h
  · rw [but_ne e] at h; exact ⟨e, h⟩
theorem Inv2.lend {g : G} {F0 H0 F H F' H' : Hp} {σ : L2.St} {w : W} {S' : S} {j : Nat} {d : D} {a : Addr} {o : HO} (I : Inv2 g F0 H0 F σ H w) (hj : w.Γ[j]? = some (.own d)) (hσ : σ[j]? = some (some (.ref a))) (ho : H a = some o) (i : Inv0 g (upd F a o) H F' H' S') :
    Inv2 g F0 H0 (but F' a) σ H' ⟨w.Γ, S'⟩ ∧ Ext g σ F H w (but F' a) H' ⟨w.Γ, S'⟩ := by
  obtain ⟨a', e1, hF, h0, t⟩ := I.slot j _ hj
  rw [hσ] at e1
  cases e1
  have t1 := I.st.tr
  have t2 := i.st.tr
  have up : ∀ c x, c ≠ a → (upd F a o) c = some x → F c = some x := fun c x e h => by rwa [upd_ne e] at h
  have sF : Same F (but F' a) := fun c x h => by
    have e : c ≠ a := fun e => by subst e; rw [hF] at h; cases h
    rw [but_ne e]
    exact i.g0 c x (by rw [upd_ne e]; exact h)
  have stay : ∀ c x, H c = some x → F c = none → but F' a c = none := fun c x h hc => by
    cases q : but F' a c with
    | none => rfl
    | some o' =>
      obtain ⟨e, q⟩ := but_some q
      rcases i.new c o' q with h' | h'
      · rw [up c o' e h'] at hc; cases hc
      · rw [h] at h'; cases h'
  refine ⟨{ sub := fun c x h => i.sub c x (but_some h).2, g0 := I.g0.trans sF, new := fun c x h => ?_, keep := fun c x h h1 h2 => i.keep c x (I.keep c x h h1 h2) h1 h2, st := ?_, b0 := I.b0, len := I.len, dis := I.dis, slot := fun k s h => ?_ }, ⟨sF, fun c x h => ?_, i.keep, fun a h => h, t1.1, t1.2, t2.1, t2.2⟩⟩
  · obtain ⟨e, h⟩ := but_some h
    rcases i.new c x h with h | h
    · exact I.new c x (up c x e h)
    · exact .inr (I.toInv0.n0 h)
  · refine ⟨?_, ?_, i.st.ne, i.st.hs, i.st.hc⟩
    · by_cases e : g.s = a
      · rw [e, but_eq]
      · rw [but_ne e]; exact i.st.fs
    · by_cases e : g.c = a
      · rw [e, but_eq]
      · rw [but_ne e]; exact i.st.fc
  · cases s with
    | none => trivial
    | frz d => obtain ⟨v, e1, r⟩ := I.slot k _ h; exact ⟨v, e1, r.mono sF⟩
    | own d =>
      obtain ⟨c, e1, h1, h2, t⟩ := I.slot k _ h
      obtain ⟨x, hx⟩ := t.some
      obtain ⟨S0, z⟩ := I.b0
      have n1 : c ≠ g.s := fun w => by subst w; exact z.tr.1 h2
      have n2 : c ≠ g.c := fun w => by subst w; exact z.tr.2 h2
      exact ⟨c, e1, stay c x hx h1, h2, t.mono sF fun y q => i.keep c y q n1 n2⟩
  · obtain ⟨e, h⟩ := but_some h
    rcases i.new c x h with h | h
    · exact .inl (up c x e h)
    · exact .inr (.inl h)
/-- the values of a call: data, or what slot j owns -/
inductive RepsL (g : G) (F : Hp) (σ : L2.St) (j : Nat) : List V → List (Option D) → Prop
  | nil : RepsL g F σ j [] []
  | cons {v : V} {vs : List V} {d : D} {ds : List (Option D)} : Rep g F v d → RepsL g F σ j vs ds → RepsL g F σ j (v :: vs) (some d :: ds)
  | lent {a : Addr} {vs : List V} {ds : List (Option D)} : σ[j]? = some (some (.ref a)) → RepsL g F σ j vs ds → RepsL g F σ j (.ref a :: vs) (none :: ds)
def relAL (b : B) (σ : L2.St) (j : Nat) : Rl b (List V) (List (Option D)) := ⟨fun _ F' _ vs ds => RepsL b.g F' σ j vs ds, fun _ h => h⟩
def EAL (X : Cx) (b : B) (j : Nat) (es : List Expr) (m : M (List (Option D))) : Prop := PA X es (fun σ H Q => tG (relAL b σ j) m σ H Q)
def lNil : M (List (Option D)) := M.pure []
def lCons (m : M D) (r : M (List (Option D))) : M (List (Option D)) := m.bind fun d => r.bind fun ds => M.pure (some d :: ds)
def lLent (j : Nat) (r : M (List (Option D))) : M (List (Option D)) := fun w => match w.Γ[j]? with
  | some (.own _) => (r w).bind fun ds => M.pure (none :: ds)
  | _ => .bad
section
variable {X : Cx} {b : B} {pos p : Pos} {e : Expr} {es : List Expr}
theorem eal_nil {j : Nat} : EAL X b j [] lNil := PA.weak pa_nil fun σ H Q ⟨F, w, I, p⟩ => fin I p RepsL.nil
theorem eal_cons {j : Nat} {m : M D} {r : M (List (Option D))} (h : ED X b e m) (hr : EAL X b j es r) (hs : starEach (e :: es) X.env = (false, eval e X.env) :: starEach es X.env := by rfl) : EAL X b j (e :: es) (lCons m r) :=
  PA.weak (pa_cons h hr hs) fun σ H Q ⟨F, w, I, p⟩ => ⟨F, w, I, (Post.bind p).mono fun x H1 ⟨F1, w1, d, i1, r1, x1, p1⟩ => ⟨F1, w1, i1, (Post.bind p1).mono fun xs H2 ⟨F2, w2, ds, i2, r2, x2, p2⟩ =>
    fin i2 p2 (.cons (r1.mono x2.ff) r2)⟩⟩
theorem eal_lent {j : Nat} {x : Str} {r : M (List (Option D))} (h : PE X (.Name x p) (tVar j)) (hr : EAL X b j es r) (hs : starEach (.Name x p :: es) X.env = (false, eval (.Name x p) X.env) :: starEach es X.env := by rfl) : EAL X b j (.Name x p :: es) (lLent j r) :=
  PA.weak (pa_cons h hr hs) fun σ H Q ⟨F, w, I, p⟩ => by
    unfold lLent at p
    split at p
    · rename_i d e0
      obtain ⟨a, e1, _, _, _⟩ := I.slot j _ e0
      exact ⟨.ref a, e1, F, w, I, (Post.bind (m := r) (k := fun ds => M.pure (none :: ds)) p).mono fun xs H2 ⟨F2, w2, ds, i2, r2, x2, p2⟩ => fin i2 p2 (.lent e1 r2)⟩
    · exact p.elim
def mCallL (n j : Nat) (f : Fnc) (m : M (List (Option D))) : M D := m.bind fun os w => match w.Γ[j]? with
  | some (.own d) => if os.length = n ∧ isDict d = true then
      match f (os.map fun o => o.getD d) w.S with
      | .ok z S' => if noD z = true then .ok z ⟨w.Γ, S'⟩ else .bad
      | .exc c x S' => .exc c x ⟨w.Γ, S'⟩
      | .bad => .bad
    else .bad
  | _ => .bad
theorem RepsL.reps {g : G} {F FL : Hp} {σ : L2.St} {j : Nat} {a : Addr} {d : D} (s : Same F FL) (hσ : σ[j]? = some (some (.ref a))) (hd : Rep g FL (.ref a) d) : ∀ {vs : List V} {os : List (Option D)}, RepsL g F σ j vs os → Reps g FL vs (os.map fun o => o.getD d)
  | _, _, .nil => .nil
  | _, _, .cons h r => .cons (h.mono s) (RepsL.reps s hσ hd r)
  | _, _, .lent h r => by
    rw [hσ] at h
    cases h
    exact .cons hd (RepsL.reps s hσ hd r)
theorem ed_callL {x : Str} {gc : Gc} {k n j : Nat} {f : Fnc} {m : M (List (Option D))} (Fx : Fn X.prog X.w X.mg X.base gc k x n f) (hgc : b.g.toGc = gc) (hK : X.K = gc.K) (hr : Room k X.A) (hg : Gl X x) (tk : Takes X b.X) (ha : EAL X b j (e :: es) m) (hdb : (x == ("__debug__" : Str)) = false := by decide)
    (he : starEach (e :: es) X.env = (false, eval e X.env) :: starEach es X.env := by rfl) (hpl : (backTo pos (starEach es X.env)).any (·.1) = false := by rfl) : ED X b (.Call (.Name x p) (e :: es) [] pos) (mCallL n j f m) := by
  obtain ⟨fa, fd, ps, hn, hF, hm, hk, hb⟩ := Fx.ex
  rw [← hK] at hF hk hb
  refine PE.weak (pe_callS hF hr hg hm hk hb (fun σ => passAt tk σ) ha hdb he hpl) fun σ H Q ⟨F, w, I, q⟩ => ⟨F, w, I, (Post.bind q).mono fun vs H1 ⟨F1, w1, os, i1, r1, x1, p1⟩ => ?_⟩
  have r1 : RepsL b.g F1 σ j vs os := r1
  cases e0 : w1.Γ[j]? with
  | none => rw [e0] at p1; exact p1.elim
  | some s0 =>
    cases s0 with
    | none => rw [e0] at p1; exact p1.elim
    | frz d => rw [e0] at p1; exact p1.elim
    | own d =>
      simp only [e0] at p1
      by_cases hc : os.length = n ∧ isDict d = true
      · rw [if_pos hc] at p1
        obtain ⟨a, e1, hFa, h0, t⟩ := i1.slot j _ e0
        obtain ⟨o, ho⟩ := t.some
        have sF : Same F1 (upd F1 a o) := Same.upd hFa
        obtain ⟨S0, z⟩ := i1.b0
        have n1 : a ≠ b.g.s := fun w => by subst w; exact z.tr.1 h0
        have n2 : a ≠ b.g.c := fun w => by subst w; exact z.tr.2 h0
        have rr := r1.reps sF e1 (t.rep sF (upd_same.trans ho.symm))
        have od : (∀ vs, o ≠ .tup vs) ∧ ∀ vs, o ≠ .lst vs := by
          cases t with
          | lst h _ => cases hc.2
          | dK h _ _ => rw [ho] at h; cases h; exact ⟨(fun _ z => by cases z), (fun _ z => by cases z)⟩
          | dT h _ _ => rw [ho] at h; cases h; exact ⟨(fun _ z => by cases z), (fun _ z => by cases z)⟩
        subst hgc
        have st : StOK b.g (upd F1 a o) H1 w1.S := i1.st.new (fun _ _ _ h => h) fun c hc h => by
          rw [upd_ne]; exact h
          rcases hc with e | e <;> rw [e] <;> first | exact Ne.symm n1 | exact Ne.symm n2
        refine ⟨b.g.s, b.g.c, upd F1 a o, os.map fun o => o.getD d, w1.S, by rw [rr.length, List.length_map]; exact hc.1, fun c x h => ?_, st, rr, ?_⟩
        · by_cases e : c = a
          · subst e; rw [upd_same] at h; cases h; exact ho
          · rw [upd_ne e] at h; exact i1.sub c x h
        generalize f (os.map fun o => o.getD d) w1.S = r at p1 ⊢
        cases r with
        | ok y S' =>
          by_cases hy : noD y = true
          · simp only [hy, if_true] at p1
            intro F' H' v i rv
            obtain ⟨q1, q2⟩ := i1.lend e0 e1 ho i
            have hF' : F' a = some o := i.g0 a o upd_same
            exact p1 (but F' a) H' v q2 q1 (Rep.unfrz (fun c h => but_ne h) (fun vs h => by rw [hF'] at h; exact od.1 vs (Option.some.inj h)) (fun vs h => by rw [hF'] at h; exact od.2 vs (Option.some.inj h)) rv hy)
          · simp only [hy] at p1; exact p1.elim
        | exc c x S' =>
          intro F' H' dx i hx
          obtain ⟨q1, q2⟩ := i1.lend e0 e1 ho i
          exact p1 (but F' a) H' dx q1 hx
        | bad => exact p1
      · rw [if_neg hc] at p1; exact p1.elim
end
end FP


set_option Elab.async false
set_option linter.all false
set_option maxRecDepth 100000
set_option maxHeartbeats 2000000
/-! FP16: comprehensions with two clauses. -/
namespace FP
open PySem PySem.Spec PyProof.Rows L2
def lcRR (vs : List Nat) (tg : Tg) (mt : M Bool) (mi1 : M (List D)) (vs1 : List Nat) (tg1 : Tg) (mt1 : M Bool) (me : M D) : List D → List D → M (List D)
  | [], acc => M.pure acc
  | d :: ds, acc => fun w => match asgT tg d (wipeΓ w.Γ vs) with
    | none => .bad
    | some Γ => (nox mt ⟨Γ, w.S⟩).bind fun c => if c = true then (nox mi1).bind fun ds1 => M.bind (lcR vs1 tg1 mt1 me ds1 acc) fun acc' => lcRR vs tg mt mi1 vs1 tg1 mt1 me ds acc' else lcRR vs tg mt mi1 vs1 tg1 mt1 me ds acc
def mLc2 (vs : List Nat) (tg : Tg) (mi : M (List D)) (mt : M Bool) (vs1 : List Nat) (tg1 : Tg) (mi1 : M (List D)) (mt1 : M Bool) (me : M D) : M D := mi.bind fun ds w =>
  (lcRR vs tg mt mi1 vs1 tg1 mt1 me ds [] w).bind fun acc w' => .ok (.lst acc) ⟨restore w.Γ w'.Γ vs, w'.S⟩
theorem wipe_idem (us : List Nat) (τ : L2.St) : wipe (wipe τ us) us = wipe τ us := by
  apply List.ext_getElem?
  intro j
  by_cases hj : j ∈ us
  · have z : ∀ (τ : L2.St), (wipe τ us)[j]? = none ∨ (wipe τ us)[j]? = some none := by
      intro τ
      cases e : (wipe τ us)[j]? with
      | none => exact .inl rfl
      | some o =>
        cases o with
        | none => exact .inr rfl
        | some v => exact absurd hj (wipe_some e).2
    have zl : ∀ (τ : L2.St), (wipe τ us).length = τ.length := fun τ => wipe_length τ us
    by_cases hjl : j < τ.length
    · rcases z (wipe τ us) with h | h
      · rw [List.getElem?_eq_none_iff, zl, zl] at h; omega
      · rcases z τ with h' | h'
        · rw [List.getElem?_eq_none_iff, zl] at h'; omega
        · rw [h, h']
    · rw [List.getElem?_eq_none (by rw [zl, zl]; omega), List.getElem?_eq_none (by rw [zl]; omega)]
  · rw [wipe_get hj]
theorem wipe_more {σ τ : L2.St} {us vs : List Nat} (h : wipe σ us = wipe τ us) (s : ∀ i ∈ us, i ∈ vs) : wipe σ vs = wipe τ vs := by
  have hl : σ.length = τ.length := by rw [← wipe_length σ us, h, wipe_length]
  have z : ∀ (τ : L2.St) (j : Nat), j ∈ vs → (wipe τ vs)[j]? = none ∨ (wipe τ vs)[j]? = some none := by
    intro τ j hj
    cases e : (wipe τ vs)[j]? with
    | none => exact .inl rfl
    | some o =>
      cases o with
      | none => exact .inr rfl
      | some v => exact absurd hj (wipe_some e).2
  apply List.ext_getElem?
  intro j
  by_cases hj : j ∈ vs
  · by_cases hjl : j < σ.length
    · rcases z σ j hj with h1 | h1
      · rw [List.getElem?_eq_none_iff, wipe_length] at h1; omega
      · rcases z τ j hj with h2 | h2
        · rw [List.getElem?_eq_none_iff, wipe_length] at h2; omega
        · rw [h1, h2]
    · rw [List.getElem?_eq_none (by rw [wipe_length]; omega), List.getElem?_eq_none (by rw [wipe_length]; omega)]
  · have hu : j ∉ us := fun q => hj (s j q)
    rw [wipe_get hj, wipe_get hj, ← wipe_get (vs := us) hu, h, wipe_get hu]
/-- as Lci.step, the owners told from the start -/
theorem Lci.step2 {b : B} {vs : List Nat} {σ σ2 : L2.St} {F1 H1 Fc Hc F4 H4 : Hp} {w1 wc w2 w4 : W} {p : Addr} {acc : List D} (L : Lci b vs σ F1 H1 w1 p Fc Hc wc acc) (hp : H1 p = none) (hs : wipe σ2 vs = wipe σ vs) (x : Ext b.g σ2 Fc Hc w2 F4 H4 w4) (i4 : b.Inv F4 σ2 H4 w4)
    (o2 : ∀ a, Own σ2 w2.Γ a → Own (wipe σ vs) (wipeΓ w1.Γ vs) a) (i1 : b.Inv F1 σ H1 w1) : Lci b vs σ F1 H1 w1 p F4 H4 w4 acc := by
  obtain ⟨us, hu, ru⟩ := L.lst
  obtain ⟨n1, n2⟩ := i1.st.nes hp
  have no := i1.notOwn hp
  refine ⟨⟨σ2, i4, hs⟩, L.ff.trans x.ff, fun a o h => ?_, fun a o h h1 h2 => x.keep a o (L.keep a o h h1 h2) h1 h2, fun a h => o2 a (x.own a (h.wipe hs)), ⟨us, x.keep p _ hu n1 n2, ru.mono x.ff⟩, ?_⟩
  · rcases x.new a o h with h | h | h
    · exact L.new a o h
    · refine .inr (.inl ?_)
      cases q : H1 a with
      | none => rfl
      | some o' =>
        by_cases h1 : a = b.g.s
        · subst h1; exact absurd h x.tr.1
        by_cases h2 : a = b.g.c
        · subst h2; exact absurd h x.tr.2.1
        rw [L.keep a o' q h1 h2] at h; cases h
    · exact .inr (.inr (o2 a h))
  · cases q : F4 p with
    | none => rfl
    | some o =>
      rcases x.new p o q with h | h | h
      · rw [L.fp] at h; cases h
      · rw [hu] at h; cases h
      · exact absurd ((o2 p h).wipe rfl) no
theorem own_of {σ : L2.St} {Γ : List Slot} {vs : List Nat} {a : Addr} (h : Own (wipe σ vs) (wipeΓ Γ vs) a) : Own σ Γ a := by
  obtain ⟨j, d, _, h1, h2⟩ := own_vs.mp h
  exact ⟨j, d, h1, h2⟩
section
variable {X : Cx} {b : B} {tgE iter elt tgE1 iter1 : Expr} {ifs ifs1 : List Expr} {scope : Scope} {own : List (Str × Nat)} {pos : Pos} {tg tg1 : Tg} {mi mi1 : M (List D)} {mt mt1 : M Bool} {me : M D} {vs1 : List Nat}
theorem lc2_t (hK : X.K = b.g.K) (hu : ∀ i ∈ tg.slots, i ∈ own.map (·.2)) (hu1 : ∀ i ∈ tg1.slots, i ∈ vs1) (hv : ∀ i ∈ vs1, i ∈ own.map (·.2)) (σ : L2.St) (H : Hp) (Q : VK) (h : tG (relF b) (mLc2 (own.map (·.2)) tg mi mt vs1 tg1 mi1 mt1 me) σ H Q) :
    tLc2 (tG (relH b) mi) (gT X.K tg) (tG (relE b.nox Bool) mt) (tG (relL b.nox) mi1) (gT X.K tg1) (tG (relE b.nox Bool) mt1) (tG (relD b.nox) me) (own.map (·.2)) vs1 σ H Q := by
  obtain ⟨F, w, I, p⟩ := h
  generalize hvs : own.map (·.2) = vs at *
  refine ⟨F, w, I, (Post.bind p).mono fun J H1 ⟨F1, w1, ds, i1, r1, x1, p1⟩ => fun L hL => ?_⟩
  have r1 : WalkH b.g J F1 H1 ds := r1
  have no1 := i1.notOwn hL
  obtain ⟨n1, n2⟩ := i1.st.nes hL
  refine ⟨fun i m Hc => m = ds.length - i ∧ i ≤ ds.length ∧ ∃ Fc wc acc, Lci b vs σ F1 H1 w1 L Fc Hc wc acc ∧ Post (relF b) σ F1 H1 w1 ((lcRR vs tg mt mi1 vs1 tg1 mt1 me (ds.drop i) acc wc).bind fun acc w' => .ok (.lst acc) ⟨restore w1.Γ w'.Γ vs, w'.S⟩) Q,
    ⟨ds.length, rfl, Nat.zero_le _, F1, w1, [], ⟨⟨σ, i1.lay hL, rfl⟩, Same.refl _, fun _ _ h => .inl h, fun a o h _ _ => upd_some hL h, fun a h => h, ⟨[], upd_same, .nil⟩, i1.toInv0.nF hL⟩, p1⟩, ?_⟩
  rintro i m Hc ⟨rfl, hi, Fc, wc, acc, L0, q⟩
  obtain ⟨σc, ic, hc⟩ := L0.inv
  have wk := r1 Fc Hc i L0.ff ic.sub L0.keep
  by_cases hlt : i < ds.length
  · -- an item
    obtain ⟨d, hd⟩ : ∃ d, ds[i]? = some d := ⟨ds[i], List.getElem?_eq_getElem hlt⟩
    obtain ⟨go, yl⟩ := wk.1 d hd
    have edr : ds.drop i = d :: ds.drop (i + 1) := by
      rw [List.drop_eq_getElem_cons hlt]
      rw [List.getElem?_eq_getElem hlt] at hd
      cases hd; rfl
    refine .inr ⟨go, fun H' => ∃ Fc wc acc, Lci b vs σ F1 H1 w1 L Fc H' wc acc ∧ Post (relF b) σ F1 H1 w1 ((lcRR vs tg mt mi1 vs1 tg1 mt1 me (ds.drop (i + 1)) acc wc).bind fun acc w' => .ok (.lst acc) ⟨restore w1.Γ w'.Γ vs, w'.S⟩) Q,
      fun H' h => ⟨ds.length - (i + 1), by omega, rfl, hlt, h⟩, fun x H' hy => ?_⟩
    obtain ⟨rfl, rx⟩ := yl x H' hy
    rw [edr] at q
    unfold lcRR at q
    cases ea : asgT tg d (wipeΓ wc.Γ vs) with
    | none => simp only [ea] at q; exact q.elim
    | some Γ =>
      simp only [ea] at q
      have iw := ic.wipe hc
      rw [← hc]
      refine gT_ok (w := ⟨wipeΓ wc.Γ vs, wc.S⟩) hK (by rw [hc]; exact iw) rx ea hu fun σ2 i2 o2 e2 => ?_
      have hs : wipe σ2 vs = wipe σ vs := by
        rw [e2, ← hc]
        exact wipe_idem vs σc
      have o2' : ∀ a, Own σ2 Γ a → Own (wipe σ vs) (wipeΓ w1.Γ vs) a := fun a h => by have := o2 a h; rw [hc] at this; exact L0.own a this
      refine ⟨by rw [hs, hc], ⟨Fc, ⟨Γ, wc.S⟩, i2, ?_⟩⟩
      rcases nox_ok (rfl : FP.nox mt ⟨Γ, wc.S⟩ = _) with ⟨c, w3, e3, e3'⟩ | e3'
      · rw [e3'] at q
        refine Post.of_ok e3 fun F3 H3 v x3 i3 r3 => ?_
        obtain rfl : v = c := r3
        have L3 : Lci b vs σ F1 H1 w1 L F3 H3 w3 acc := L0.step2 hL hs x3 i3 o2' i1
        cases v with
        | true =>
          rw [if_pos rfl]
          simp only [R.bind, if_true] at q
          refine ⟨F3, w3, i3, ?_⟩
          unfold M.bind at q
          rcases nox_ok (rfl : FP.nox mi1 w3 = _) with ⟨ds1, w4, e4, e4'⟩ | e4'
          · rw [e4'] at q
            refine Post.of_ok e4 fun F4 H4 J1 x4 i4 r4 => ?_
            have r4 : WalkF b.g J1 F4 ds1 := r4
            simp only [R.bind] at q
            have x34 := x3.trans x4
            have L4 : Lci b vs σ F1 H1 w1 L F4 H4 w4 acc := L0.step2 hL hs x34 i4 o2' i1
            have io4 : ∀ a, Own (wipe σ2 vs1) (wipeΓ w4.Γ vs1) a → Own (wipe σ vs) (wipeΓ w1.Γ vs) a := fun a h => o2' a (x34.own a (own_of h))
            refine ⟨fun j k Hd => k = ds1.length - j ∧ j ≤ ds1.length ∧ ∃ Fd wd acc, Lci b vs σ F1 H1 w1 L Fd Hd wd acc ∧ (∃ σd, b.Inv Fd σd Hd wd ∧ wipe σd vs1 = wipe σ2 vs1) ∧ Same F4 Fd ∧ (∀ a, Own (wipe σ2 vs1) (wipeΓ wd.Γ vs1) a → Own (wipe σ vs) (wipeΓ w1.Γ vs) a) ∧
                Post (relF b) σ F1 H1 w1 ((M.bind (lcR vs1 tg1 mt1 me (ds1.drop j) acc) (fun acc' => lcRR vs tg mt mi1 vs1 tg1 mt1 me (ds.drop (i + 1)) acc') wd).bind fun acc w' => .ok (.lst acc) ⟨restore w1.Γ w'.Γ vs, w'.S⟩) Q,
              ⟨ds1.length, rfl, Nat.zero_le _, F4, w4, acc, L4, ⟨σ2, i4, rfl⟩, Same.refl _, io4, q⟩, ?_⟩
            rintro j k Hd ⟨rfl, hj, Fd, wd, acc, Ld, ⟨σd, id, hd1⟩, sd, io, q⟩
            have wk1 := r4 Fd Hd j sd id.sub
            by_cases hlt1 : j < ds1.length
            · obtain ⟨d1, hd'⟩ : ∃ d, ds1[j]? = some d := ⟨ds1[j], List.getElem?_eq_getElem hlt1⟩
              obtain ⟨go1, yl1⟩ := wk1.1 d1 hd'
              have edr1 : ds1.drop j = d1 :: ds1.drop (j + 1) := by
                rw [List.drop_eq_getElem_cons hlt1]
                rw [List.getElem?_eq_getElem hlt1] at hd'
                cases hd'; rfl
              refine .inr ⟨go1, fun H' => ∃ Fd wd acc, Lci b vs σ F1 H1 w1 L Fd H' wd acc ∧ (∃ σd, b.Inv Fd σd H' wd ∧ wipe σd vs1 = wipe σ2 vs1) ∧ Same F4 Fd ∧ (∀ a, Own (wipe σ2 vs1) (wipeΓ wd.Γ vs1) a → Own (wipe σ vs) (wipeΓ w1.Γ vs) a) ∧
                Post (relF b) σ F1 H1 w1 ((M.bind (lcR vs1 tg1 mt1 me (ds1.drop (j + 1)) acc) (fun acc' => lcRR vs tg mt mi1 vs1 tg1 mt1 me (ds.drop (i + 1)) acc') wd).bind fun acc w' => .ok (.lst acc) ⟨restore w1.Γ w'.Γ vs, w'.S⟩) Q,
                fun H' h => ⟨ds1.length - (j + 1), by omega, rfl, hlt1, h⟩, fun x' H' hy' => ?_⟩
              obtain ⟨rfl, rx'⟩ := yl1 x' H' hy'
              rw [edr1] at q
              unfold M.bind lcR at q
              cases ea1 : asgT tg1 d1 (wipeΓ wd.Γ vs1) with
              | none => simp only [ea1] at q; exact q.elim
              | some Γ1 =>
                simp only [ea1] at q
                have iw1 := id.wipe hd1
                rw [← hd1]
                refine gT_ok (w := ⟨wipeΓ wd.Γ vs1, wd.S⟩) hK (by rw [hd1]; exact iw1) rx' ea1 hu1 fun σ3 i5 o5 e5 => ?_
                have hs1 : wipe σ3 vs1 = wipe σ2 vs1 := by
                  rw [e5, ← hd1]
                  exact wipe_idem vs1 σd
                have hs3 : wipe σ3 vs = wipe σ vs := (wipe_more hs1 hv).trans hs
                have o5' : ∀ a, Own σ3 Γ1 a → Own (wipe σ vs) (wipeΓ w1.Γ vs) a := fun a h => by have := o5 a h; rw [hd1] at this; exact io a this
                refine ⟨by rw [hs1, hd1], ⟨Fd, ⟨Γ1, wd.S⟩, i5, ?_⟩⟩
                rcases nox_ok (rfl : FP.nox mt1 ⟨Γ1, wd.S⟩ = _) with ⟨c1, w6, e6, e6'⟩ | e6'
                · rw [e6'] at q
                  refine Post.of_ok e6 fun F6 H6 v1 x6 i6 r6 => ?_
                  obtain rfl : v1 = c1 := r6
                  have L6 : Lci b vs σ F1 H1 w1 L F6 H6 w6 acc := Ld.step2 hL hs3 x6 i6 o5' i1
                  cases v1 with
                  | true =>
                    rw [if_pos rfl]
                    simp only [R.bind, if_true] at q
                    refine ⟨F6, w6, i6, ?_⟩
                    unfold M.bind at q
                    rcases nox_ok (rfl : FP.nox me w6 = _) with ⟨y, w7, e7, e7'⟩ | e7'
                    · rw [e7'] at q
                      refine Post.of_ok e7 fun F7 H7 v7 x7 i7 r7 => ?_
                      simp only [R.bind] at q
                      by_cases hz : acc.length < sizeLine
                      · rw [if_pos hz] at q
                        have x67 := x6.trans x7
                        have L7 : Lci b vs σ F1 H1 w1 L F7 H7 w7 acc := Ld.step2 hL hs3 x67 i7 o5' i1
                        obtain ⟨us, hus, rus⟩ := L7.lst
                        have noL : ¬ Own σ3 w7.Γ L := fun z => no1 ((o5' L (x67.own L z)).wipe rfl)
                        have n0 := i1.toInv0.n0 hL
                        exact ⟨us, hus, by rw [rus.length]; exact hz, F7, w7, acc ++ [y], L7.put hL i1 hus rus r7 i7 hs3 noL, ⟨σ3, i7.mut L7.fp n0 n1 n2 noL, hs1.trans hd1.symm⟩, sd.trans x67.ff, (fun a h => o5' a (x67.own a (h.wipe (hs1.trans hd1.symm)))), q⟩
                      · rw [if_neg hz] at q; exact q.elim
                    · rw [e7'] at q; exact q.elim
                  | false =>
                    rw [if_neg Bool.false_ne_true]
                    simp only [R.bind, Bool.false_eq_true, if_false] at q
                    exact ⟨F6, w6, acc, L6, ⟨σ3, i6, hs1.trans hd1.symm⟩, sd.trans x6.ff, fun a h => o5' a (x6.own a (h.wipe (hs1.trans hd1.symm))), q⟩
                · rw [e6'] at q; exact q.elim
            · have e : j = ds1.length := by omega
              subst e
              rw [List.drop_length] at q
              unfold M.bind lcR at q
              exact .inl ⟨wk1.2 rfl, Fd, wd, acc, Ld, q⟩
          · rw [e4'] at q; exact q.elim
        | false =>
          rw [if_neg Bool.false_ne_true]
          simp only [R.bind, Bool.false_eq_true, if_false] at q
          exact ⟨F3, w3, acc, L3, q⟩
      · rw [e3'] at q; exact q.elim
  · -- the end
    have e : i = ds.length := by omega
    subst e
    refine .inl ⟨wk.2 rfl, ?_⟩
    rw [List.drop_length] at q
    unfold lcRR at q
    obtain ⟨iE, xE⟩ := L0.done i1
    obtain ⟨us, hus, rus⟩ := L0.lst
    exact q Fc Hc (.ref L) xE iE ⟨L, rfl, hL, L0.fp, .lst hus rus⟩
theorem ef_lc2 (hK : X.K = b.g.K) (hc : X.calm = true) (hN : X.N.Nodup) (hi : EH X b tgE iter mi) (ok : BlkOk X.N X.env.scope scope own) (hv : ∀ i ∈ vs1, i ∈ own.map (·.2))
    (hg : ∀ (s : Shared) (H : Hp) (C : Addr) (cl : List (Str × Addr)) (fp : List Addr), PG (X.blk s H scope (compEnvC scope cl C X.env) fp) tgE (gT X.K tg))
    (ht : ∀ (s : Shared) (H : Hp) (C : Addr) (cl : List (Str × Addr)) (fp : List Addr), PTs (X.blk s H scope (compEnvC scope cl C X.env) fp) ifs (tG (relE b.nox Bool) mt))
    (hi1 : ∀ (s : Shared) (H : Hp) (C : Addr) (cl : List (Str × Addr)) (fp : List Addr), EL (X.blk s H scope (compEnvC scope cl C X.env) fp) b.nox tgE1 iter1 mi1)
    (hg1 : ∀ (s : Shared) (H : Hp) (C : Addr) (cl : List (Str × Addr)) (fp : List Addr), PG (X.blk s H scope (compEnvC scope cl C X.env) fp) tgE1 (gT X.K tg1))
    (ht1 : ∀ (s : Shared) (H : Hp) (C : Addr) (cl : List (Str × Addr)) (fp : List Addr), PTs (X.blk s H scope (compEnvC scope cl C X.env) fp) ifs1 (tG (relE b.nox Bool) mt1))
    (he : ∀ (s : Shared) (H : Hp) (C : Addr) (cl : List (Str × Addr)) (fp : List Addr), ED (X.blk s H scope (compEnvC scope cl C X.env) fp) b.nox elt me)
    (hu : ∀ i ∈ tg.slots, i ∈ own.map (·.2)) (hu1 : ∀ i ∈ tg1.slots, i ∈ vs1) (hs : ∀ x, foldedSetIterable iter X.env x = pure x := by intro _; rfl) (hs1 : ∀ env x, foldedSetIterable iter1 env x = pure x := by intro _ _; rfl) :
    EF X b (.ListComp elt [⟨tgE, iter, ifs, 0⟩, ⟨tgE1, iter1, ifs1, 0⟩] scope pos) (mLc2 (own.map (·.2)) tg mi mt vs1 tg1 mi1 mt1 me) :=
  PE.weak (pe_lc2 hc hN hi ok hv hg ht hi1 hg1 ht1 he hs hs1) (lc2_t hK hu hu1 hv)
theorem sd_setLc2 {i : Nat} {y : Str} {py : Pos} (hK : X.K = b.g.K) (hc : X.calm = true) (hN : X.N.Nodup) (hy : X.N[i]? = some y) (hyl : X.env.scope.names.lookup y = some .local)
    {spos : Pos} (hsw' : swapsWith (.ListComp elt [⟨tgE, iter, ifs, 0⟩, ⟨tgE1, iter1, ifs1, 0⟩] scope pos) (some (.Name y py)) spos.line X.env = pure true) (hi : EH X b tgE iter mi) (ok : BlkOk X.N X.env.scope scope own) (hv : ∀ i ∈ vs1, i ∈ own.map (·.2))
    (hg : ∀ (s : Shared) (H : Hp) (C : Addr) (cl : List (Str × Addr)) (fp : List Addr), PG (X.blk s H scope (compEnvC scope cl C X.env) fp) tgE (gT X.K tg))
    (ht : ∀ (s : Shared) (H : Hp) (C : Addr) (cl : List (Str × Addr)) (fp : List Addr), PTs (X.blk s H scope (compEnvC scope cl C X.env) fp) ifs (tG (relE b.nox Bool) mt))
    (hi1 : ∀ (s : Shared) (H : Hp) (C : Addr) (cl : List (Str × Addr)) (fp : List Addr), EL (X.blk s H scope (compEnvC scope cl C X.env) fp) b.nox tgE1 iter1 mi1)
    (hg1 : ∀ (s : Shared) (H : Hp) (C : Addr) (cl : List (Str × Addr)) (fp : List Addr), PG (X.blk s H scope (compEnvC scope cl C X.env) fp) tgE1 (gT X.K tg1))
    (ht1 : ∀ (s : Shared) (H : Hp) (C : Addr) (cl : List (Str × Addr)) (fp : List Addr), PTs (X.blk s H scope (compEnvC scope cl C X.env) fp) ifs1 (tG (relE b.nox Bool) mt1))
    (he : ∀ (s : Shared) (H : Hp) (C : Addr) (cl : List (Str × Addr)) (fp : List Addr), ED (X.blk s H scope (compEnvC scope cl C X.env) fp) b.nox elt me)
    (hu : ∀ i ∈ tg.slots, i ∈ own.map (·.2)) (hu1 : ∀ i ∈ tg1.slots, i ∈ vs1) (hs : ∀ x, foldedSetIterable iter X.env x = pure x := by intro _; rfl) (hs1 : ∀ env x, foldedSetIterable iter1 env x = pure x := by intro _ _; rfl) :
    SD X b (.Assign [.Name y py] (.ListComp elt [⟨tgE, iter, ifs, 0⟩, ⟨tgE1, iter1, ifs1, 0⟩] scope pos) spos) (cOwn i (mLc2 (own.map (·.2)) tg mi mt vs1 tg1 mi1 mt1 me)) :=
  PS.weak (ps_setLc2 hc hN hy hyl hsw' hi ok hv hg ht hi1 hg1 ht1 he hs hs1) fun N σ H ⟨F, w, i, p⟩ => lc2_t hK hu hu1 hv σ H _ ⟨F, w, i, (PostS.ex p).mono fun v H1 ⟨F1, w1, d, i1, r1, x1, p1⟩ => by
    obtain ⟨hl, p2⟩ := outIte p1
    obtain ⟨a, rfl, hF, h0, t, no⟩ := fresh_own i x1 r1
    exact p2 F1 _ H1 (Same.refl _) (i1.setOwn hl hF h0 t no)⟩
end
end FP


set_option Elab.async false
set_option linter.all false
set_option maxRecDepth 100000
set_option maxHeartbeats 4000000
namespace Law
open PySem PySem.Spec PyProof.Rows L2 FP
def top (i : Nat) : Stmt := PySem.Challenge.pw_linesdown_k36_whole_sizes_and_heights.main.body.getD i (.Pass ⟨0, 0, 0, 0⟩)
theorem tk0 {X : Cx} : Takes X WF := takes0
theorem hu65 {A : Around} {k : Nat} (hr : Room k A) : A.units + 65 < cLine := by have := hr.un; omega
theorem hu1_ {A : Around} {k : Nat} (hr : Room k A) : A.units + 1 < cLine := by have := hr.un; omega
theorem hu100 {A : Around} {k : Nat} (hr : Room k A) : A.units + 100 < cLine := by have := hr.un; omega
noncomputable abbrev f__law_take : Fnc := fTake
section
variable {P : Program} {w : World} {mg : Str → Option Value} {base : Heap}
abbrev s__law_state : Stmt := top 33
abbrev s__law_take : Stmt := top 34
theorem sc__law_take : FnScope ["state", "bound", "cells", "spot", "cell", "mixed"] ["state", "bound"] (defScope s__law_take) := ⟨rfl, rfl, rfl, by decide +kernel, rfl, by decide +kernel, by decide +kernel⟩
theorem fn_take {K : PySem.W.Frag} {gc : Gc} (T : Bl mg) (hgc : gc.K = K) {fa : Addr} {fd : FuncData} (F : Fun K "_law_take" "_law_take" s__law_take fa fd) (hm : mg "_law_take" = some (.ref fa)) : Fn P w mg base gc 1 "_law_take" 2 fTake := by
  subst hgc
  refine ⟨fa, fd, ["state", "bound"], rfl, F.okX sc__law_take (fun vs H Q E ⟨_, _, _, _, _, h, _⟩ => h) (fun cdv A outer s H vs Q E hr h => ?_), hm, F.kp, F.binds fun _ _ _ _ _ _ us hl => match us, hl with | [_, _], _ => rfl⟩
  obtain ⟨sa, ca, F0, ds, Sx, hl, hs, st, r, q⟩ := h
  have nd := sc__law_take.nd
  refine ⟨_, pss_cons (ps_if (pt_cmpR op_lt (pv 1) pe_int (nomark _)) (pss_one (ps_ret pe_int)) pss_nil)
    (pss_cons (ps_set (i := 2) nd rfl (Or.inl rfl) (pe_ix ix_list (pv 0) pe_int (fun _ _ => rfl)))
    (pss_cons (ps_set (i := 3) nd rfl (Or.inl rfl) (pe_op op_modN (pe_callTy call_int1 (by rfl) T.int (by decide +kernel) (pa_cons (pe_ix ix_list (pv 0) pe_int (fun _ _ => rfl)) pa_nil)) (pe_callB call_len_seq (by rfl) T.len PySem.boot_len (pa_cons (pv 2) pa_nil))))
    (pss_cons (ps_set (i := 4) nd rfl (Or.inl rfl) (pe_ix ix_list (pv 2) (pv 3) (fun _ _ => rfl)))
    (pss_cons (ps_if (pt_cmpR op_ge (pv 4) pe_int (nomark _)) (pss_cons (ps_asg (pe_op op_fdivW (pv 4) (pv 1)) (pg_sub (pv 2) (pv 3) set_list)) (pss_one (ps_ret (pe_op op_modN (pe_callTy call_int1 (by rfl) T.int (by decide +kernel) (pa_cons (pv 4) pa_nil)) (pv 1))))) pss_nil)
    (pss_cons (ps_asg (pe_op op_add (pe_ix ix_list (pv 0) pe_int (fun _ _ => rfl)) pe_int) (pg_sub (pv 0) pe_int set_list))
    (pss_cons (ps_set (i := 5) nd rfl (Or.inl rfl) (pe_op op_modN (pe_callTy call_int1 (by rfl) T.int (by decide +kernel) (pa_cons (pe_op op_add (pe_op op_mulW (pv 4) pe_int) (pe_op op_mulW (pe_ix ix_list (pv 0) pe_int (fun _ _ => rfl)) pe_int)) pa_nil)) pe_int))
    (pss_cons (ps_set (i := 5) nd rfl (Or.inl rfl) (pe_op op_modN (pe_callTy call_int1 (by rfl) T.int (by decide +kernel) (pa_cons (pe_op op_add (pe_op op_mulW (pv 5) pe_int) (pe_op op_mulW (pe_ix ix_list (pv 0) pe_int (fun _ _ => rfl)) pe_int)) pa_nil)) pe_int))
    (pss_one (ps_ret (pe_op op_modN (pe_callTy call_int1 (by rfl) T.int (by decide +kernel) (pa_cons (pe_op op_fdivW (pv 5) pe_int) pa_nil)) (pv 1))))))))))), ?_⟩
  unfold fTake at q
  split at q
  · rename_i bound
    cases r with
    | cons r1 r2 =>
      cases r2 with
      | cons r3 r4 =>
        cases r4
        cases r1
        cases r3
        have h1 : H sa = some (.lst [.int Sx.n, .ref ca]) := st.hs
        have h2 : H ca = some (.lst (Sx.cells.map V.int)) := st.hc
        have i0 : Inv0 ⟨gc, sa, ca⟩ F0 H F0 H Sx := Inv0.start hs st
        refine ⟨_, rfl, _, _, rfl, rfl, _, rfl, ?_⟩
        refine ite2 (fun hb => ?_) (fun hb => ?_)
        rotate_left
        have hb : decide (bound < 2) = false := Bool.eq_false_iff.mpr hb
        rotate_left
        · rw [if_pos (of_decide_eq_true hb)] at q
          exact q F0 H _ i0 (.int 0)
        · rw [if_neg (of_decide_eq_false hb)] at q
          split at q
          · rename_i hq
            obtain ⟨⟨ne, n0, n1, cp⟩, hb2⟩ := hq
            have lp : 0 < Sx.cells.length := List.length_pos_iff.mpr ne
            generalize hsp : (Sx.n % (Sx.cells.length : Int)).toNat = spot
            have sp1 : (Sx.n % (Sx.cells.length : Int)) = (spot : Int) := by
              rw [← hsp, Int.toNat_of_nonneg (Int.emod_nonneg _ (by omega))]
            have sp2 : spot < Sx.cells.length := by
              have := Int.emod_lt_of_pos Sx.n (show (0 : Int) < (Sx.cells.length : Int) by omega)
              omega
            have fm : ∀ x y : Int, 0 < y → x.fmod y = x % y := fun x y h => Int.fmod_eq_emod_of_nonneg x (by omega)
            generalize hce : Sx.cells.getD spot 0 = cell
            have ce1 : Sx.cells[spot]? = some cell := by
              rw [List.getD_eq_getElem?_getD, List.getElem?_eq_getElem sp2] at hce
              rw [List.getElem?_eq_getElem sp2, ← hce]; rfl
            have cell0 : 0 ≤ cell := cp _ (List.mem_of_getElem? ce1)
            have at0 : atI [V.int Sx.n, V.ref ca] (0 : Int) = some (.int Sx.n) := rfl
            have at1 : atI [V.int Sx.n, V.ref ca] (1 : Int) = some (.ref ca) := rfl
            have lm : (Sx.cells.map V.int).length = Sx.cells.length := List.length_map ..
            refine ⟨_, rfl, _, _, _, _, rfl, rfl, .of h1, at1, ?_⟩
            refine ⟨_, rfl, _, _, _, _, rfl, rfl, .of h1, at0, .inl ⟨_, rfl, _, rfl, ca, _, rfl, .inl (.of h2), _, _, rfl, rfl, (by rw [lm]; omega), ?_⟩⟩
            have e1 : Sx.n.fmod (((Sx.cells.map V.int).length : Nat) : Int) = (spot : Int) := by rw [lm, fm _ _ (by omega), sp1]
            have ats : atI (Sx.cells.map V.int) (Sx.n.fmod (((Sx.cells.map V.int).length : Nat) : Int)) = some (.int cell) := by
              rw [e1]
              refine atI_nat ?_
              rw [List.getElem?_map, ce1]; rfl
            refine ⟨_, rfl, _, rfl, _, _, _, _, rfl, rfl, .of h2, ats, ?_⟩
            refine ⟨_, rfl, _, _, rfl, rfl, _, rfl, ?_⟩
            have hbp : (0 : Int) < bound := by have := of_decide_eq_false hb; omega
            refine ite2 (fun hc => ?_) (fun hc => ?_)
            · have hc : 1000000000000000000 ≤ cell := of_decide_eq_true hc
              have et : tkR Sx bound = cell % bound := by
                unfold tkR; simp only [hsp, hce]; rw [if_pos hc]
              have es : tkS Sx bound = ⟨Sx.n, Sx.cells.set spot (cell / bound)⟩ := by
                unfold tkS; simp only [hsp, hce]; rw [if_pos hc]
              rw [et, es] at q
              refine ⟨_, rfl, _, rfl, _, _, rfl, rfl, wide_div (b := 62) hbp (by omega) (by decide) (by decide), ?_⟩
              refine ⟨_, rfl, _, rfl, _, _, _, spot, rfl, rfl, h2, (by rw [e1]; exact ixN_nat (by rw [lm]; exact sp2)), ?_⟩
              refine ⟨_, rfl, .inl ⟨_, rfl, _, rfl, _, _, rfl, rfl, (by omega), ?_⟩⟩
              have q := q F0 (upd H ca (.lst ((Sx.cells.map V.int).set spot (.int (cell / bound))))) (.int (cell.fmod bound)) (i0.chg (fun a o h _ z => by rw [upd_ne z]; exact h) (by rw [upd_ne st.ne]; exact h1) (by rw [List.map_set]; exact upd_same)) (by rw [fm _ _ hbp]; exact .int _)
              exact q
            · have hc : ¬ 1000000000000000000 ≤ cell := fun z => hc (decide_eq_true z)
              have et : tkR Sx bound = (((cell * 48271 + (Sx.n + 1) * 69621) % 2147483647 * 16807 + (Sx.n + 1) * 7919) % 1000000007) / 7 % bound := by
                unfold tkR; simp only [hsp, hce]; rw [if_neg hc]
              have es : tkS Sx bound = ⟨Sx.n + 1, Sx.cells⟩ := by
                unfold tkS; simp only [hsp, hce]; rw [if_neg hc]
              rw [et, es] at q
              refine ⟨_, rfl, _, _, _, _, rfl, rfl, .of h1, at0, _, _, rfl, rfl, ?_⟩
              refine ⟨_, rfl, _, _, _, 0, rfl, rfl, h1, rfl, ?_⟩
              have h1' : (upd H sa (.lst [V.int (Sx.n + 1), .ref ca])) sa = some (.lst [V.int (Sx.n + 1), .ref ca]) := upd_same
              have at0' : atI [V.int (Sx.n + 1), V.ref ca] (0 : Int) = some (.int (Sx.n + 1)) := rfl
              have m1 := Int.emod_nonneg (cell * 48271 + (Sx.n + 1) * 69621) (show (2147483647 : Int) ≠ 0 by decide)
              have m2 := Int.emod_lt_of_pos (cell * 48271 + (Sx.n + 1) * 69621) (show (0 : Int) < 2147483647 by decide)
              have nz1 : (2147483647 : Int) ≠ 0 := by decide
              have nz2 : (1000000007 : Int) ≠ 0 := by decide
              have f1 : (cell * 48271 + (Sx.n + 1) * 69621).fmod 2147483647 = (cell * 48271 + (Sx.n + 1) * 69621) % 2147483647 := fm _ _ (by decide)
              refine ⟨_, rfl, _, _, rfl, rfl, wide_mul (a := 62) (b := 62) (by omega) (by decide) (by decide) (by decide) (by decide), _, rfl, _, _, _, _, rfl, rfl, .of h1', at0', _, _, rfl, rfl, wide_mul (a := 63) (b := 62) (by omega) (by decide) (by decide) (by decide) (by decide), _, _, rfl, rfl, .inl ⟨_, rfl, _, _, rfl, rfl, nz1, ?_⟩⟩
              refine ⟨_, rfl, _, _, rfl, rfl, wide_mul (a := 62) (b := 62) (by rw [f1]; omega) (by decide) (by decide) (by decide) (by decide), _, rfl, _, _, _, _, rfl, rfl, .of h1', at0', _, _, rfl, rfl, wide_mul (a := 63) (b := 62) (by omega) (by decide) (by decide) (by decide) (by decide), _, _, rfl, rfl, .inl ⟨_, rfl, _, _, rfl, rfl, nz2, ?_⟩⟩
              refine ⟨_, rfl, _, _, rfl, rfl, wide_div (b := 4) (by decide) (by decide) (by decide) (by decide), .inl ⟨_, rfl, _, rfl, _, _, rfl, rfl, (by omega), ?_⟩⟩
              have q := q F0 (upd H sa (.lst [V.int (Sx.n + 1), .ref ca])) (.int (((((cell * 48271 + (Sx.n + 1) * 69621).fmod 2147483647 * 16807 + (Sx.n + 1) * 7919).fmod 1000000007) / 7).fmod bound)) (i0.chg (fun a o h z _ => by rw [upd_ne z]; exact h) upd_same (by rw [upd_ne st.ne.symm]; exact h2)) (by rw [fm _ _ hbp, f1, fm _ 1000000007 (by decide)]; exact .int _)
              exact q
          · exact q.elim
  · exact q.elim

theorem sc__law_state : FnScope ["script", "cells", "cell"] ["script"] (defScope s__law_state) := ⟨rfl, rfl, rfl, by decide +kernel, rfl, by decide +kernel, by decide +kernel⟩
theorem ok_state {K : PySem.W.Frag} (T : Bl mg) {fa : Addr} {fd : FuncData} (F : Fun K "_law_state" "_law_state" s__law_state fa fd) : FnOk P w K mg base (L2.CX P w) 1 fa fd ["script"] (spState K) := by
  refine F.okX sc__law_state (fun vs H Q E ⟨_, _, h, _⟩ => by subst h; rfl) (fun cdv A outer s H vs Q E hr h => ?_)
  obtain ⟨a, ns, rfl, hS, hlen, q⟩ := h
  have nd := sc__law_state.nd
  refine ⟨_, pss_cons (ps_setLc (i := 1) (own := [("cell", 2)]) (g := gName 2) (tt := tYes) (by rfl) nd rfl rfl (sw_true rfl rfl rfl (by decide +kernel)) (pi_list (pe_slice sl_list (pv 0) po_none (po_some pe_int))) (blkOk_by (own := [("cell", 2)]) (N := ["script", "cells", "cell"]) (sc := defScope s__law_state) (by decide +kernel))
      (fun _ _ _ _ _ => pg_name (i := 2) nd rfl (Or.inl rfl)) (fun _ _ _ _ _ => pts_nil) (fun _ _ _ _ _ => pe_callB call_abs (by rfl) T.abs (by decide +kernel) (pa_cons (pv 2) pa_nil)))
    (pss_cons (ps_if (pt_cmpR op_eq (pe_callB call_len_seq (by rfl) T.len PySem.boot_len (pa_cons (pv 1) pa_nil)) pe_int (nomark _)) (pss_one (ps_set (i := 1) nd rfl (Or.inl rfl) (pe_lst (pa_cons pe_int pa_nil)))) pss_nil)
    (pss_one (ps_ret (pe_lst (pa_cons pe_int (pa_cons (pv 1) pa_nil)))))), ?_⟩
  refine ⟨_, rfl, _, rfl, a, _, rfl, hS, fun p hp => ⟨p, rfl, ⟨_, .of upd_same⟩, fun D hD => ?_⟩⟩
  rw [cut63 _ (by rw [List.length_map]; exact hlen)] at hD ⊢
  have hpD : p ≠ D := fun z => by subst z; rw [upd_same] at hD; cases hD
  have hD0 : H D = none := by rw [upd_ne hpD.symm] at hD; exact hD
  refine lc_list (K := K) (a := p) (xs := ns.map V.int) (fun i H' => L2.Same H H' ∧ H' p = some (.lst (ns.map V.int)) ∧ H' D = some (.lst (((ns.take i).map absI).map V.int))) ⟨fun b o e => ?_, ?_, upd_same⟩ (fun i H' hi h => .of h.2.1) ?_ ?_
  · rw [upd_ne (ne_of_none e hD0), upd_ne (ne_of_none e hp)]; exact e
  · rw [upd_ne hpD]; exact upd_same
  · rintro i x H' hi ⟨s1, s2, s3⟩
    have hil : i < ns.length := by have := (List.getElem?_eq_some_iff.mp hi).1; rwa [List.length_map] at this
    obtain ⟨z, hz, rfl⟩ : ∃ z, ns[i]? = some z ∧ x = V.int z := by
      rw [List.getElem?_map] at hi
      cases e : ns[i]? with
      | none => rw [e] at hi; cases hi
      | some z => rw [e] at hi; exact ⟨z, rfl, (Option.some.inj hi).symm⟩
    refine ⟨rfl, ?_⟩
    refine ⟨_, rfl, z, rfl, ?_⟩
    refine ⟨_, s3, by rw [List.length_map, List.length_map, List.length_take, sizeLine_eq]; omega, fun b o e => ?_, ?_, ?_⟩
    · rw [upd_ne (ne_of_none e hD0)]; exact s1 b o e
    · rw [upd_ne hpD]; exact s2
    · rw [upd_same, List.take_add_one, hz, List.map_append, List.map_append]
      rfl
  · rintro H1 ⟨s1, s2, s3⟩
    rw [List.length_map, List.take_length] at s3
    have lz : ((ns.map absI).map V.int).length = ns.length := by rw [List.length_map, List.length_map]
    refine ⟨_, rfl, D, _, rfl, .inl (.of s3), rfl, _, rfl, ?_⟩
    refine ite2 (fun hb => ?_) (fun hb => ?_)
    · have e0 : ns = [] := by
        rw [lz] at hb
        have hb := of_decide_eq_true hb
        simpa using hb
      refine ⟨by show 1 ≤ sizeLine; decide, fun q1 hq1 => ?_⟩
      refine ⟨_, rfl, by show 2 ≤ sizeLine; decide, fun p1 hp1 => ?_⟩
      have nq : p1 ≠ q1 := fun z => by subst z; rw [upd_same] at hp1; cases hp1
      have hp2 : H1 p1 = none := by rw [upd_ne nq] at hp1; exact hp1
      have b1 : ∀ {x : Addr}, H1 x = none → H x = none := fun {x} h => by
        cases e : H x with
        | none => rfl
        | some o => rw [s1 x o e] at h; cases h
      refine q _ p1 q1 (fun b o e => ?_) (b1 hp2) (b1 hq1) nq upd_same ?_
      · rw [upd_ne (ne_of_none (s1 b o e) hp2), upd_ne (ne_of_none (s1 b o e) hq1)]; exact s1 b o e
      · rw [upd_ne nq.symm, upd_same]
        unfold stCells
        rw [if_pos e0]; rfl
    · have e0 : ns ≠ [] := fun z => hb (by rw [z]; rfl)
      refine ⟨_, rfl, by show 2 ≤ sizeLine; decide, fun p1 hp1 => ?_⟩
      have nq : p1 ≠ D := fun z => by subst z; rw [s3] at hp1; cases hp1
      have b1 : ∀ {x : Addr}, H1 x = none → H x = none := fun {x} h => by
        cases e : H x with
        | none => rfl
        | some o => rw [s1 x o e] at h; cases h
      refine q _ p1 D (fun b o e => ?_) (b1 hp1) hD0 nq upd_same ?_
      · rw [upd_ne (ne_of_none (s1 b o e) hp1)]; exact s1 b o e
      · rw [upd_ne nq.symm]
        unfold stCells
        rw [if_neg e0]; exact s3

abbrev s__law_lot : Stmt := top 41
/-- _law_lot: slots 0 state 1 many 2 most 3 lot 4 k 5 spot 6 j -/
noncomputable def c__law_lot : Cmd :=
  (cSeq (cSet 3 (mOp fRep (mLst (mCons (mC (.int 0)) mNil)) (mName 1)))
  (cSeq (cFor (.nm 4) [4, 5] (mIt rng1 (mCall 2 f__law_take (mCons (mName 0) (mCons (mOp fAdd (mName 2) (mC (.int 1))) mNil)))) (cSeq (cSet 5 (mCall 2 f__law_take (mCons (mName 0) (mCons (mName 1) mNil))))
  (cSet 3 (mLc [6] (.nm 6) (mIt rng1 (mName 1)) (M.pure true) (mOp fAdd (mOp fIx (mRead 3) (mName 6)) (mUn fInt (mOp fEq (mName 6) (mName 5))))))))
  (cRet (mUn fTuple (mRead 3)))))
theorem sc__law_lot : FnScope ["state", "many", "most", "lot", "k", "spot", "j"] ["state", "many", "most"] (defScope s__law_lot) := ⟨rfl, rfl, rfl, by decide +kernel, rfl, by decide +kernel, by decide +kernel⟩
noncomputable def f__law_lot : Fnc := runF 7 c__law_lot
theorem fn__law_lot {gc : Gc} (T : Bl mg) (w__law_take : Fn P w mg base gc 1 "_law_take" 2 f__law_take) {fa : Addr} {fd : FuncData} (F : Fun gc.K "_law_lot" "_law_lot" s__law_lot fa fd) (hm : mg "_law_lot" = some (.ref fa)) : Fn P w mg base gc 2 "_law_lot" 3 f__law_lot := by
  refine fn_body (k := 1) rfl F sc__law_lot hm (fun _ _ _ _ _ _ us hl => match us, hl with | [_, _, _], _ => rfl) (fun cdv A outer s H E g F0 hg hr => ?_)
  · have hK : gc.K = g.K := by rw [hg]
    have nd := sc__law_lot.nd
    have hu4 := hr.units
    have hu5 := hu65 hr
    have hu := hu100 hr
    have hu1 := hu1_ hr
    have u__law_take := w__law_take.mono (k := 1) (by omega)
    exact (sds_cons (sd_set (i := 3) nd rfl (by first | exact Or.inl rfl | exact Or.inr rfl) (EF.ed (ef_rep (EF.er (ef_lst (ea_cons ed_int ea_nil))) (ed_name 1 (pv 1)))))
    (sds_cons (sd_for (mask := [4, 5]) hK (passes_of rfl) rfl (el_range1 T (by rfl) (ed_call u__law_take hg rfl hr (by rfl) (takes_of rfl rfl rfl rfl) (ea_cons (ed_name 0 (pv 0)) (ea_cons (ed_add hK (ed_name 2 (pv 2)) ed_int) ea_nil)))) (pg_name (i := 4) nd rfl (by first | exact Or.inl rfl | exact Or.inr rfl)) (sds_cons (sd_set (i := 5) nd rfl (by first | exact Or.inl rfl | exact Or.inr rfl) (ed_call u__law_take hg rfl hr (by rfl) (takes_of rfl rfl rfl rfl) (ea_cons (ed_name 0 (pv 0)) (ea_cons (ed_name 1 (pv 1)) ea_nil))))
    (sds_one (sd_set (i := 3) nd rfl (by first | exact Or.inl rfl | exact Or.inr rfl) (EF.ed (ef_lc (own := [("j", 6)]) (tg := (.nm 6)) hK rfl nd (EL.eh (el_range1 T (by rfl) (ed_name 1 (pv 1)))) (blkOk_by (own := [("j", 6)]) (N := ["state", "many", "most", "lot", "k", "spot", "j"]) (sc := defScope s__law_lot) (by decide +kernel)) (fun _ _ _ _ _ => (pg_name (i := 6) nd rfl (by first | exact Or.inl rfl | exact Or.inr rfl))) (fun _ _ _ _ _ => tests_nil) (fun _ _ _ _ _ => (ed_add hK (ed_ix hK (er_name 3 (pv 3)) (ed_name 6 (pv 6))) (ed_int1 T (by rfl) (ed_cmp (op_eqD hu4) (ans_eq hK) (ed_name 6 (pv 6)) (ed_name 5 (pv 5)) (nomark _))))) (by decide)))))))
    (sds_one (sd_ret (ed_tuple hK T (by rfl) (er_name 3 (pv 3)))))))
abbrev s__law_fr : Stmt := top 36
/-- _law_fr: slots 0 upper 1 lower 2 one 3 other 4 turn -/
noncomputable def c__law_fr : Cmd :=
  (cSeq (cIf (mBool (mOp fLt (mName 1) (mC (.int 0)))) (cPar 0 1 false false (mOp fSub (mC (.int 0)) (mName 0)) (mOp fSub (mC (.int 0)) (mName 1))) cNil)
  (cSeq (cPar 2 3 false false (mUn fAbs (mName 0)) (mName 1))
  (cSeq (cFor (.nm 4) [4] (mIt rng1 (mC (.int 4000))) (cSeq (cIf (mBool (mOp fEq (mName 3) (mC (.int 0)))) cBrk cNil)
  (cPar 2 3 false false (mName 3) (mOp fMod (mUn fInt (mName 2)) (mName 3)))))
  (cRet (mTup (mCons (mOp fDiv (mName 0) (mName 2)) (mCons (mOp fDiv (mName 1) (mName 2)) mNil)))))))
theorem sc__law_fr : FnScope ["upper", "lower", "one", "other", "turn"] ["upper", "lower"] (defScope s__law_fr) := ⟨rfl, rfl, rfl, by decide +kernel, rfl, by decide +kernel, by decide +kernel⟩
noncomputable def f__law_fr : Fnc := runF 5 c__law_fr
theorem fn__law_fr {gc : Gc} (T : Bl mg) {fa : Addr} {fd : FuncData} (F : Fun gc.K "_law_fr" "_law_fr" s__law_fr fa fd) (hm : mg "_law_fr" = some (.ref fa)) : Fn P w mg base gc 1 "_law_fr" 2 f__law_fr := by
  refine fn_body (k := 0) rfl F sc__law_fr hm (fun _ _ _ _ _ _ us hl => match us, hl with | [_, _], _ => rfl) (fun cdv A outer s H E g F0 hg hr => ?_)
  · have hK : gc.K = g.K := by rw [hg]
    have nd := sc__law_fr.nd
    have hu4 := hr.units
    have hu5 := hu65 hr
    have hu := hu100 hr
    have hu1 := hu1_ hr
    exact (sds_cons (sd_if (et_cmp op_lt ans_lt (ed_name 1 (pv 1)) ed_int (nomark _)) (sds_one (sd_par (i := 0) (j := 1) (k := false) (k' := false) rfl nd rfl rfl (by decide) rfl rfl (ED.k (ed_sub ed_int (ed_name 0 (pv 0)))) (ED.k (ed_sub ed_int (ed_name 1 (pv 1)))) (by rfl))) sds_nil)
    (sds_cons (sd_par (i := 2) (j := 3) (k := false) (k' := false) rfl nd rfl rfl (by decide) rfl rfl (ED.k (ed_abs T (by rfl) (ed_name 0 (pv 0)))) (ED.k (ed_name 1 (pv 1))) (by rfl))
    (sds_cons (sd_for (mask := [4]) hK (passes_of rfl) rfl (el_range1 T (by rfl) ed_int) (pg_name (i := 4) nd rfl (by first | exact Or.inl rfl | exact Or.inr rfl)) (sds_cons (sd_if (et_cmp (op_eqD hu4) (ans_eq hK) (ed_name 3 (pv 3)) ed_int (nomark _)) (sds_one sd_break) sds_nil)
    (sds_one (sd_par (i := 2) (j := 3) (k := false) (k' := false) rfl nd rfl rfl (by decide) rfl rfl (ED.k (ed_name 3 (pv 3))) (ED.k (ed_mod (ed_int1 T (by rfl) (ed_name 2 (pv 2))) (ed_name 3 (pv 3)))) (by rfl)))))
    (sds_one (sd_ret (ed_tup (ea_cons (ed_div (ed_name 0 (pv 0)) (ed_name 2 (pv 2))) (ea_cons (ed_div (ed_name 1 (pv 1)) (ed_name 2 (pv 2))) ea_nil))))))))
abbrev s__law_ordered : Stmt := top 43
/-- _law_ordered: slots 0 lots 1 loads 2 rows 3 k 4 lot 5 load -/
noncomputable def c__law_ordered : Cmd :=
  (cSeq (cSet 2 (mUn fSort2 (mLc [3] (.nm 3) (mIt rng1 (mUn fLen (mRead 0))) (M.pure true) (mTup (mCons (mOp fIx (mRead 0) (mName 3)) (mCons (mOp fIx (mRead 1) (mName 3)) mNil))))))
  (cRet (mUn fTuple (mLc [4, 5] (.tp [4, 5]) (mIt lstOf (mRead 2)) (M.pure true) (mTup (mCons (mName 4) (mCons (mCall 2 f__law_fr (mCons (mName 5) (mCons (mUn fSum (mRead 1)) mNil))) mNil)))))))
theorem sc__law_ordered : FnScope ["lots", "loads", "rows", "k", "lot", "load"] ["lots", "loads"] (defScope s__law_ordered) := ⟨rfl, rfl, rfl, by decide +kernel, rfl, by decide +kernel, by decide +kernel⟩
noncomputable def f__law_ordered : Fnc := runF 6 c__law_ordered
theorem fn__law_ordered {gc : Gc} (T : Bl mg) (w__law_fr : Fn P w mg base gc 1 "_law_fr" 2 f__law_fr) {fa : Addr} {fd : FuncData} (F : Fun gc.K "_law_ordered" "_law_ordered" s__law_ordered fa fd) (hm : mg "_law_ordered" = some (.ref fa)) : Fn P w mg base gc 2 "_law_ordered" 2 f__law_ordered := by
  refine fn_body (k := 1) rfl F sc__law_ordered hm (fun _ _ _ _ _ _ us hl => match us, hl with | [_, _], _ => rfl) (fun cdv A outer s H E g F0 hg hr => ?_)
  · have hK : gc.K = g.K := by rw [hg]
    have nd := sc__law_ordered.nd
    have hu4 := hr.units
    have hu5 := hu65 hr
    have hu := hu100 hr
    have hu1 := hu1_ hr
    have u__law_fr := w__law_fr.mono (k := 1) (by omega)
    exact (sds_cons (sd_set (i := 2) nd rfl (by first | exact Or.inl rfl | exact Or.inr rfl) (EF.ed (ef_sort2 hK hu T (by rfl) (EF.er (ef_lc (own := [("k", 3)]) (tg := (.nm 3)) hK rfl nd (EL.eh (el_range1 T (by rfl) (ed_len hK T (by rfl) (er_name 0 (pv 0))))) (blkOk_by (own := [("k", 3)]) (N := ["lots", "loads", "rows", "k", "lot", "load"]) (sc := defScope s__law_ordered) (by decide +kernel)) (fun _ _ _ _ _ => (pg_name (i := 3) nd rfl (by first | exact Or.inl rfl | exact Or.inr rfl))) (fun _ _ _ _ _ => tests_nil) (fun _ _ _ _ _ => (ed_tup (ea_cons (ed_ix hK (er_name 0 (pv 0)) (ed_name 3 (pv 3))) (ea_cons (ed_ix hK (er_name 1 (pv 1)) (ed_name 3 (pv 3))) ea_nil)))) (by decide))))))
    (sds_one (sd_ret (ed_tuple hK T (by rfl) (EF.er (ef_lc (own := [("lot", 4), ("load", 5)]) (tg := (.tp [4, 5])) hK rfl nd (eh_list (er_name 2 (pv 2))) (blkOk_by (own := [("lot", 4), ("load", 5)]) (N := ["lots", "loads", "rows", "k", "lot", "load"]) (sc := defScope s__law_ordered) (by decide +kernel)) (fun _ _ _ _ _ => (pg_tup (n := 2) rfl (pgs_cons (pg_name (i := 4) nd rfl (by first | exact Or.inl rfl | exact Or.inr rfl)) (pgs_cons (pg_name (i := 5) nd rfl (by first | exact Or.inl rfl | exact Or.inr rfl)) pgs_nil)))) (fun _ _ _ _ _ => tests_nil) (fun _ _ _ _ _ => (ed_tup (ea_cons (ed_name 4 (pv 4)) (ea_cons (ed_call u__law_fr hg rfl hr (by rfl) tk0 (ea_cons (ed_name 5 (pv 5)) (ea_cons (ed_sum rfl T (by rfl) (er_name 1 (pv 1))) ea_nil))) ea_nil)))) (by decide)))))))
abbrev s__law_litters : Stmt := top 42
/-- _law_litters: slots 0 state 1 many 2 most 3 lots 4 k 5 lot 6 loads -/
noncomputable def c__law_litters : Cmd :=
  (cSeq (cSet 3 (mLst mNil))
  (cSeq (cFor (.nm 4) [4, 5] (mIt rng1 (mOp fAdd (mC (.int 1)) (mCall 2 f__law_take (mCons (mName 0) (mCons (mC (.int 4)) mNil))))) (cSeq (cSet 5 (mCall 3 f__law_lot (mCons (mName 0) (mCons (mName 1) (mCons (mName 2) mNil)))))
  (cSet 3 (mIf (mBool (mOp fIn (mName 5) (mRead 3))) (mName 3) (mOp fCat (mRead 3) (mLst (mCons (mName 5) mNil)))))))
  (cSeq (cIf (mIf (mBool (mOp fGt (mCall 2 f__law_take (mCons (mName 0) (mCons (mC (.int 3)) mNil))) (mC (.int 0)))) (mBool (mOp fNotIn (mOp fRepT (mTup (mCons (mC (.int 0)) mNil)) (mName 1)) (mRead 3))) (M.pure false)) (cSet 3 (mOp fCat (mRead 3) (mLst (mCons (mOp fRepT (mTup (mCons (mC (.int 0)) mNil)) (mName 1)) mNil)))) cNil)
  (cSeq (cFrz 6 (cOwn 6 (mLc [5] (.nm 5) (mIt lstOf (mRead 3)) (M.pure true) (mOp fAdd (mC (.int 1)) (mCall 2 f__law_take (mCons (mName 0) (mCons (mC (.int 5)) mNil)))))))
  (cRet (mCall 2 f__law_ordered (mCons (mName 3) (mCons (mName 6) mNil))))))))
theorem sc__law_litters : FnScope ["state", "many", "most", "lots", "k", "lot", "loads"] ["state", "many", "most"] (defScope s__law_litters) := ⟨rfl, rfl, rfl, by decide +kernel, rfl, by decide +kernel, by decide +kernel⟩
noncomputable def f__law_litters : Fnc := runF 7 c__law_litters
theorem fn__law_litters {gc : Gc} (T : Bl mg) (w__law_take : Fn P w mg base gc 1 "_law_take" 2 f__law_take) (w__law_lot : Fn P w mg base gc 2 "_law_lot" 3 f__law_lot) (w__law_ordered : Fn P w mg base gc 2 "_law_ordered" 2 f__law_ordered) {fa : Addr} {fd : FuncData} (F : Fun gc.K "_law_litters" "_law_litters" s__law_litters fa fd) (hm : mg "_law_litters" = some (.ref fa)) : Fn P w mg base gc 3 "_law_litters" 3 f__law_litters := by
  refine fn_body (k := 2) rfl F sc__law_litters hm (fun _ _ _ _ _ _ us hl => match us, hl with | [_, _, _], _ => rfl) (fun cdv A outer s H E g F0 hg hr => ?_)
  · have hK : gc.K = g.K := by rw [hg]
    have nd := sc__law_litters.nd
    have hu4 := hr.units
    have hu5 := hu65 hr
    have hu := hu100 hr
    have hu1 := hu1_ hr
    have u__law_take := w__law_take.mono (k := 2) (by omega)
    have u__law_lot := w__law_lot.mono (k := 2) (by omega)
    have u__law_ordered := w__law_ordered.mono (k := 2) (by omega)
    exact (sds_cons (sd_set (i := 3) nd rfl (by first | exact Or.inl rfl | exact Or.inr rfl) (EF.ed (ef_lst ea_nil)))
    (sds_cons (sd_for (mask := [4, 5]) hK (passes_of rfl) rfl (el_range1 T (by rfl) (ed_add hK ed_int (ed_call u__law_take hg rfl hr (by rfl) (takes_of rfl rfl rfl rfl) (ea_cons (ed_name 0 (pv 0)) (ea_cons ed_int ea_nil))))) (pg_name (i := 4) nd rfl (by first | exact Or.inl rfl | exact Or.inr rfl)) (sds_cons (sd_set (i := 5) nd rfl (by first | exact Or.inl rfl | exact Or.inr rfl) (ed_call u__law_lot hg rfl hr (by rfl) (takes_of rfl rfl rfl rfl) (ea_cons (ed_name 0 (pv 0)) (ea_cons (ed_name 1 (pv 1)) (ea_cons (ed_name 2 (pv 2)) ea_nil)))))
    (sds_one (sd_set (i := 3) nd rfl (by first | exact Or.inl rfl | exact Or.inr rfl) (ed_if (et_cmpR (op_inD hu5) (ans_in hK) (ed_name 5 (pv 5)) (er_name 3 (pv 3)) (by rfl)) (ed_name 3 (pv 3)) (EF.ed (ef_cat (er_name 3 (pv 3)) (EF.er (ef_lst (ea_cons (ed_name 5 (pv 5)) ea_nil))))))))))
    (sds_cons (sd_if (EW.et (ew_and (et_cmp op_gt ans_gt (ed_call u__law_take hg rfl hr (by rfl) (takes_of rfl rfl rfl rfl) (ea_cons (ed_name 0 (pv 0)) (ea_cons ed_int ea_nil))) ed_int (nomark _)) (ew_and1 (et_cmpR (op_notInD hu5) (ans_notIn hK) (ed_repT hK (ed_tup (ea_cons ed_int ea_nil)) (ed_name 1 (pv 1))) (er_name 3 (pv 3)) (by rfl))))) (sds_one (sd_set (i := 3) nd rfl (by first | exact Or.inl rfl | exact Or.inr rfl) (EF.ed (ef_cat (er_name 3 (pv 3)) (EF.er (ef_lst (ea_cons (ed_repT hK (ed_tup (ea_cons ed_int ea_nil)) (ed_name 1 (pv 1))) ea_nil))))))) sds_nil)
    (sds_cons (sd_frz (i := 6) (sd_setLc (i := 6) (own := [("lot", 5)]) (tg := (.nm 5)) hK rfl nd rfl rfl (sw_true rfl rfl rfl (by decide +kernel)) (eh_list (er_name 3 (pv 3))) (blkOk_by (own := [("lot", 5)]) (N := ["state", "many", "most", "lots", "k", "lot", "loads"]) (sc := defScope s__law_litters) (by decide +kernel)) (fun _ _ _ _ _ => (pg_name (i := 5) nd rfl (by first | exact Or.inl rfl | exact Or.inr rfl))) (fun _ _ _ _ _ => tests_nil) (fun _ _ _ _ _ => (ed_add hK ed_int (ed_call u__law_take hg rfl hr (by rfl) tk0 (ea_cons (ed_name 0 (pv 0)) (ea_cons ed_int ea_nil))))) (by decide)))
    (sds_one (sd_ret (ed_call u__law_ordered hg rfl hr (by rfl) (takes_of rfl rfl rfl rfl) (ea_cons (ed_name 3 (pv 3)) (ea_cons (ed_name 6 (pv 6)) ea_nil)))))))))
abbrev s__law_book : Stmt := top 44
/-- _law_book: slots 0 state 1 most 2 many 3 litters 4 k 5 start -/
noncomputable def c__law_book : Cmd :=
  (cSeq (cSet 2 (mOp fAdd (mC (.int 1)) (mCall 2 f__law_take (mCons (mName 0) (mCons (mC (.int 3)) mNil)))))
  (cSeq (cSet 3 (mUn fTuple (mLc [4] (.nm 4) (mIt rng1 (mName 2)) (M.pure true) (mCall 3 f__law_litters (mCons (mName 0) (mCons (mName 2) (mCons (mName 1) mNil)))))))
  (cSeq (cSet 5 (mCall 3 f__law_lot (mCons (mName 0) (mCons (mName 2) (mCons (mC (.int 3)) mNil)))))
  (cRet (mTup (mCons (mC (.str "book")) (mCons (mSlT (mTup (mCons (mC (.str "a")) (mCons (mC (.str "b")) (mCons (mC (.str "c")) mNil)))) (M.pure none) (mPart (mName 2))) (mCons (mName 3) (mCons (mName 5) mNil)))))))))
theorem sc__law_book : FnScope ["state", "most", "many", "litters", "k", "start"] ["state", "most"] (defScope s__law_book) := ⟨rfl, rfl, rfl, by decide +kernel, rfl, by decide +kernel, by decide +kernel⟩
noncomputable def f__law_book : Fnc := runF 6 c__law_book
theorem fn__law_book {gc : Gc} (T : Bl mg) (w__law_take : Fn P w mg base gc 1 "_law_take" 2 f__law_take) (w__law_litters : Fn P w mg base gc 3 "_law_litters" 3 f__law_litters) (w__law_lot : Fn P w mg base gc 2 "_law_lot" 3 f__law_lot) {fa : Addr} {fd : FuncData} (F : Fun gc.K "_law_book" "_law_book" s__law_book fa fd) (hm : mg "_law_book" = some (.ref fa)) : Fn P w mg base gc 4 "_law_book" 2 f__law_book := by
  refine fn_body (k := 3) rfl F sc__law_book hm (fun _ _ _ _ _ _ us hl => match us, hl with | [_, _], _ => rfl) (fun cdv A outer s H E g F0 hg hr => ?_)
  · have hK : gc.K = g.K := by rw [hg]
    have nd := sc__law_book.nd
    have hu4 := hr.units
    have hu5 := hu65 hr
    have hu := hu100 hr
    have hu1 := hu1_ hr
    have u__law_take := w__law_take.mono (k := 3) (by omega)
    have u__law_litters := w__law_litters.mono (k := 3) (by omega)
    have u__law_lot := w__law_lot.mono (k := 3) (by omega)
    exact (sds_cons (sd_set (i := 2) nd rfl (by first | exact Or.inl rfl | exact Or.inr rfl) (ed_add hK ed_int (ed_call u__law_take hg rfl hr (by rfl) (takes_of rfl rfl rfl rfl) (ea_cons (ed_name 0 (pv 0)) (ea_cons ed_int ea_nil)))))
    (sds_cons (sd_set (i := 3) nd rfl (by first | exact Or.inl rfl | exact Or.inr rfl) (ed_tuple hK T (by rfl) (EF.er (ef_lc (own := [("k", 4)]) (tg := (.nm 4)) hK rfl nd (EL.eh (el_range1 T (by rfl) (ed_name 2 (pv 2)))) (blkOk_by (own := [("k", 4)]) (N := ["state", "most", "many", "litters", "k", "start"]) (sc := defScope s__law_book) (by decide +kernel)) (fun _ _ _ _ _ => (pg_name (i := 4) nd rfl (by first | exact Or.inl rfl | exact Or.inr rfl))) (fun _ _ _ _ _ => tests_nil) (fun _ _ _ _ _ => (ed_call u__law_litters hg rfl hr (by rfl) tk0 (ea_cons (ed_name 0 (pv 0)) (ea_cons (ed_name 2 (pv 2)) (ea_cons (ed_name 1 (pv 1)) ea_nil))))) (by decide)))))
    (sds_cons (sd_set (i := 5) nd rfl (by first | exact Or.inl rfl | exact Or.inr rfl) (ed_call u__law_lot hg rfl hr (by rfl) (takes_of rfl rfl rfl rfl) (ea_cons (ed_name 0 (pv 0)) (ea_cons (ed_name 2 (pv 2)) (ea_cons ed_int ea_nil)))))
    (sds_one (sd_ret (ed_tup (ea_cons ed_str (ea_cons (ed_slT hK (ed_tup (ea_cons ed_str (ea_cons ed_str (ea_cons ed_str ea_nil)))) eo_none (eo_some (ed_name 2 (pv 2)))) (ea_cons (ed_name 3 (pv 3)) (ea_cons (ed_name 5 (pv 5)) ea_nil))))))))))
abbrev s__law_rows : Stmt := top 46
/-- _law_rows: slots 0 table 1 kinds 2 size 3 found 4 few 5 rest 6 first 7 row -/
noncomputable def c__law_rows (r__law_rows : Fnc) : Cmd :=
  (cSeq (cIf (mBool (mOp fEq (mName 1) (mLst mNil))) (cRet (mIf (mBool (mOp fEq (mName 2) (mC (.int 0)))) (mLst (mCons (mTup mNil) mNil)) (mLst mNil))) cNil)
  (cSeq (cSet 3 (mLst mNil))
  (cSeq (cFor (.nm 4) [4, 5, 6] (mRng2 (mC (.int 1)) (mOp fAdd (mOp fSub (mName 2) (mUn fLen (mRead 1))) (mC (.int 2)))) (cSeq (cSet 5 (mCall 3 r__law_rows (mCons (mName 0) (mCons (mSlL (mRead 1) (mPart (mC (.int 1))) (M.pure none)) (mCons (mOp fSub (mName 2) (mName 4)) mNil)))))
  (cFor (.nm 6) [6] (mIt lstOf (mOp fDix (mRead 0) (mTup (mCons (mOp fIx (mRead 1) (mC (.int 0))) (mCons (mName 4) mNil))))) (cSet 3 (mOp fCat (mRead 3) (mLc [7] (.nm 7) (mIt lstOf (mRead 5)) (M.pure true) (mOp fAdd (mTup (mCons (mName 6) mNil)) (mName 7))))))))
  (cRet (mName 3)))))
theorem sc__law_rows : FnScope ["table", "kinds", "size", "found", "few", "rest", "first", "row"] ["table", "kinds", "size"] (defScope s__law_rows) := ⟨rfl, rfl, rfl, by decide +kernel, rfl, by decide +kernel, by decide +kernel⟩
noncomputable def g__law_rows : Nat → Fnc
  | 0 => fun _ _ => .bad
  | k + 1 => runF 8 (c__law_rows (g__law_rows k))
noncomputable def f__law_rows : Fnc := g__law_rows 12
theorem rec__law_rows {gc : Gc} (T : Bl mg) {fa__law_rows : Addr} {fd__law_rows : FuncData} (F__law_rows : Fun gc.K "_law_rows" "_law_rows" s__law_rows fa__law_rows fd__law_rows) (m__law_rows : mg "_law_rows" = some (.ref fa__law_rows)) : ∀ k : Nat, Fn P w mg base gc (1 + k) "_law_rows" 3 (g__law_rows k)
  | 0 => Fn.never (ps := ["table", "kinds", "size"]) rfl m__law_rows F__law_rows.kp (F__law_rows.binds (fun _ _ _ _ _ _ us hl => match us, hl with | [_, _, _], _ => rfl))
  | k + 1 => by
    have ih := rec__law_rows T F__law_rows m__law_rows k
    have u__law_rows := ih
    refine fn_body (k := 1 + k) rfl F__law_rows sc__law_rows m__law_rows (fun _ _ _ _ _ _ us hl => match us, hl with | [_, _, _], _ => rfl) (fun cdv A outer s H E g F0 hg hr => ?_)
    · have hK : gc.K = g.K := by rw [hg]
      have nd := sc__law_rows.nd
      have hu4 := hr.units
      have hu5 := hu65 hr
      have hu := hu100 hr
      have hu1 := hu1_ hr
      exact (sds_cons (sd_if (et_cmp (op_eqD hu4) (ans_eq hK) (ed_name 1 (pv 1)) (EF.ed (ef_lst ea_nil)) (nomark _)) (sds_one (sd_ret (EF.ed (ef_if (et_cmp (op_eqD hu4) (ans_eq hK) (ed_name 2 (pv 2)) ed_int (nomark _)) (ef_lst (ea_cons (ed_tup ea_nil) ea_nil)) (ef_lst ea_nil))))) sds_nil)
    (sds_cons (sd_set (i := 3) nd rfl (by first | exact Or.inl rfl | exact Or.inr rfl) (EF.ed (ef_lst ea_nil)))
    (sds_cons (sd_for (mask := [4, 5, 6]) hK (passes_of rfl) rfl (el_range2 T (by rfl) ed_int (ed_add hK (ed_sub (ed_name 2 (pv 2)) (ed_len hK T (by rfl) (er_name 1 (pv 1)))) ed_int)) (pg_name (i := 4) nd rfl (by first | exact Or.inl rfl | exact Or.inr rfl)) (sds_cons (sd_set (i := 5) nd rfl (by first | exact Or.inl rfl | exact Or.inr rfl) (ed_call u__law_rows hg rfl hr (by rfl) (takes_of rfl rfl rfl rfl) (ea_cons (ed_name 0 (pv 0)) (ea_cons (EF.ed (ef_slL (er_name 1 (pv 1)) (eo_some ed_int) eo_none)) (ea_cons (ed_sub (ed_name 2 (pv 2)) (ed_name 4 (pv 4))) ea_nil)))))
    (sds_one (sd_for (mask := [6]) hK (passes_of rfl) rfl (el_list (ed_dix hu1 (er_name 0 (pv 0)) (ed_tup (ea_cons (ed_ix hK (er_name 1 (pv 1)) ed_int) (ea_cons (ed_name 4 (pv 4)) ea_nil))))) (pg_name (i := 6) nd rfl (by first | exact Or.inl rfl | exact Or.inr rfl)) (sds_one (sd_set (i := 3) nd rfl (by first | exact Or.inl rfl | exact Or.inr rfl) (EF.ed (ef_cat (er_name 3 (pv 3)) (EF.er (ef_lc (own := [("row", 7)]) (tg := (.nm 7)) hK rfl nd (eh_list (er_name 5 (pv 5))) (blkOk_by (own := [("row", 7)]) (N := ["table", "kinds", "size", "found", "few", "rest", "first", "row"]) (sc := defScope s__law_rows) (by decide +kernel)) (fun _ _ _ _ _ => (pg_name (i := 7) nd rfl (by first | exact Or.inl rfl | exact Or.inr rfl))) (fun _ _ _ _ _ => tests_nil) (fun _ _ _ _ _ => (ed_add hK (ed_tup (ea_cons (ed_name 6 (pv 6)) ea_nil)) (ed_name 7 (pv 7)))) (by decide)))))))))))
    (sds_one (sd_ret (ed_name 3 (pv 3)))))))
theorem fn__law_rows {gc : Gc} (T : Bl mg) {fa__law_rows : Addr} {fd__law_rows : FuncData} (F__law_rows : Fun gc.K "_law_rows" "_law_rows" s__law_rows fa__law_rows fd__law_rows) (m__law_rows : mg "_law_rows" = some (.ref fa__law_rows)) : Fn P w mg base gc 13 "_law_rows" 3 f__law_rows := (rec__law_rows T F__law_rows m__law_rows 12)
abbrev s__law_things : Stmt := top 45
/-- _law_things: slots 0 lot 1 found 2 k -/
noncomputable def c__law_things : Cmd :=
  (cSeq (cSet 1 (mLst mNil))
  (cSeq (cFor (.nm 2) [2] (mIt rng1 (mUn fLen (mRead 0))) (cSet 1 (mOp fCat (mRead 1) (mOp fRep (mLst (mCons (mName 2) mNil)) (mOp fIx (mRead 0) (mName 2))))))
  (cRet (mName 1))))
theorem sc__law_things : FnScope ["lot", "found", "k"] ["lot"] (defScope s__law_things) := ⟨rfl, rfl, rfl, by decide +kernel, rfl, by decide +kernel, by decide +kernel⟩
noncomputable def f__law_things : Fnc := runF 3 c__law_things
theorem fn__law_things {gc : Gc} (T : Bl mg) {fa : Addr} {fd : FuncData} (F : Fun gc.K "_law_things" "_law_things" s__law_things fa fd) (hm : mg "_law_things" = some (.ref fa)) : Fn P w mg base gc 1 "_law_things" 1 f__law_things := by
  refine fn_body (k := 0) rfl F sc__law_things hm (fun _ _ _ _ _ _ us hl => match us, hl with | [_], _ => rfl) (fun cdv A outer s H E g F0 hg hr => ?_)
  · have hK : gc.K = g.K := by rw [hg]
    have nd := sc__law_things.nd
    have hu4 := hr.units
    have hu5 := hu65 hr
    have hu := hu100 hr
    have hu1 := hu1_ hr
    exact (sds_cons (sd_set (i := 1) nd rfl (by first | exact Or.inl rfl | exact Or.inr rfl) (EF.ed (ef_lst ea_nil)))
    (sds_cons (sd_for (mask := [2]) hK (passes_of rfl) rfl (el_range1 T (by rfl) (ed_len hK T (by rfl) (er_name 0 (pv 0)))) (pg_name (i := 2) nd rfl (by first | exact Or.inl rfl | exact Or.inr rfl)) (sds_one (sd_set (i := 1) nd rfl (by first | exact Or.inl rfl | exact Or.inr rfl) (EF.ed (ef_cat (er_name 1 (pv 1)) (EF.er (ef_rep (EF.er (ef_lst (ea_cons (ed_name 2 (pv 2)) ea_nil))) (ed_ix hK (er_name 0 (pv 0)) (ed_name 2 (pv 2))))))))))
    (sds_one (sd_ret (ed_name 1 (pv 1))))))
abbrev s__law_laid : Stmt := top 47
/-- _law_laid: slots 0 book 1 most 2 table 3 size 4 kind 5 rows 6 k 7 row -/
noncomputable def c__law_laid : Cmd :=
  (cSeq (cOwn 2 (M.pure (.dT [])))
  (cSeq (cFor (.nm 3) [3, 5, 6] (mRng2 (mC (.int 1)) (mOp fAdd (mName 1) (mC (.int 1)))) (cSeq (cFor (.nm 4) [5, 6] (mIt rng1 (mUn fLen (mOp fIx (mRead 0) (mC (.int 1))))) (cSeq (cSet 5 (mLst mNil))
  (cSeq (cFor (.nm 6) [6] (mIt rng1 (mUn fLen (mOp fIx (mOp fIx (mRead 0) (mC (.int 2))) (mName 4)))) (cSet 5 (mOp fCat (mRead 5) (mLc [7] (.nm 7) (mIt lstOf (mCallL 3 2 f__law_rows (lLent 2 (lCons (mCall 1 f__law_things (mCons (mOp fIx (mOp fIx (mOp fIx (mOp fIx (mRead 0) (mC (.int 2))) (mName 4)) (mName 6)) (mC (.int 0))) mNil)) (lCons (mOp fSub (mName 3) (mC (.int 1))) lNil))))) (M.pure true) (mTup (mCons (mName 4) (mCons (mName 6) (mCons (mName 7) mNil))))))))
  (cDput 2 (mTup (mCons (mName 4) (mCons (mName 3) mNil))) (mName 5)))))
  (cIf (mBool (mOp fGt (mUn fSum (mLc [4] (.nm 4) (mIt rng1 (mUn fLen (mOp fIx (mRead 0) (mC (.int 1))))) (M.pure true) (mUn fLen (mOp fDix (mRead 2) (mTup (mCons (mName 4) (mCons (mName 3) mNil))))))) (mC (.int 120)))) (cRet (mTup (mCons (mName 2) (mCons (mName 3) mNil)))) cNil)))
  (cRet (mTup (mCons (mName 2) (mCons (mName 1) mNil))))))
theorem sc__law_laid : FnScope ["book", "most", "table", "size", "kind", "rows", "k", "row"] ["book", "most"] (defScope s__law_laid) := ⟨rfl, rfl, rfl, by decide +kernel, rfl, by decide +kernel, by decide +kernel⟩
noncomputable def f__law_laid : Fnc := runF 8 c__law_laid
theorem fn__law_laid {gc : Gc} (T : Bl mg) (w__law_rows : Fn P w mg base gc 13 "_law_rows" 3 f__law_rows) (w__law_things : Fn P w mg base gc 1 "_law_things" 1 f__law_things) {fa : Addr} {fd : FuncData} (F : Fun gc.K "_law_laid" "_law_laid" s__law_laid fa fd) (hm : mg "_law_laid" = some (.ref fa)) : Fn P w mg base gc 14 "_law_laid" 2 f__law_laid := by
  refine fn_body (k := 13) rfl F sc__law_laid hm (fun _ _ _ _ _ _ us hl => match us, hl with | [_, _], _ => rfl) (fun cdv A outer s H E g F0 hg hr => ?_)
  · have hK : gc.K = g.K := by rw [hg]
    have nd := sc__law_laid.nd
    have hu4 := hr.units
    have hu5 := hu65 hr
    have hu := hu100 hr
    have hu1 := hu1_ hr
    have u__law_rows := w__law_rows.mono (k := 13) (by omega)
    have u__law_things := w__law_things.mono (k := 13) (by omega)
    exact (sds_cons (sd_own (i := 2) nd rfl (by first | exact Or.inl rfl | exact Or.inr rfl) ef_dT)
    (sds_cons (sd_for (mask := [3, 5, 6]) hK (passes_of rfl) rfl (el_range2 T (by rfl) ed_int (ed_add hK (ed_name 1 (pv 1)) ed_int)) (pg_name (i := 3) nd rfl (by first | exact Or.inl rfl | exact Or.inr rfl)) (sds_cons (sd_for (mask := [5, 6]) hK (passes_of rfl) rfl (el_range1 T (by rfl) (ed_len hK T (by rfl) (ED.er (ed_ix hK (er_name 0 (pv 0)) ed_int)))) (pg_name (i := 4) nd rfl (by first | exact Or.inl rfl | exact Or.inr rfl)) (sds_cons (sd_set (i := 5) nd rfl (by first | exact Or.inl rfl | exact Or.inr rfl) (EF.ed (ef_lst ea_nil)))
    (sds_cons (sd_for (mask := [6]) hK (passes_of rfl) rfl (el_range1 T (by rfl) (ed_len hK T (by rfl) (ED.er (ed_ix hK (ED.er (ed_ix hK (er_name 0 (pv 0)) ed_int)) (ed_name 4 (pv 4)))))) (pg_name (i := 6) nd rfl (by first | exact Or.inl rfl | exact Or.inr rfl)) (sds_one (sd_set (i := 5) nd rfl (by first | exact Or.inl rfl | exact Or.inr rfl) (EF.ed (ef_cat (er_name 5 (pv 5)) (EF.er (ef_lc (own := [("row", 7)]) (tg := (.nm 7)) hK rfl nd (eh_list (ED.er (ed_callL (j := 2) u__law_rows hg rfl hr (by rfl) (takes_of rfl rfl rfl rfl) (eal_lent (pv 2) (eal_cons (ed_call u__law_things hg rfl hr (by rfl) (takes_of rfl rfl rfl rfl) (ea_cons (ed_ix hK (ED.er (ed_ix hK (ED.er (ed_ix hK (ED.er (ed_ix hK (er_name 0 (pv 0)) ed_int)) (ed_name 4 (pv 4)))) (ed_name 6 (pv 6)))) ed_int) ea_nil)) (eal_cons (ed_sub (ed_name 3 (pv 3)) ed_int) eal_nil)))))) (blkOk_by (own := [("row", 7)]) (N := ["book", "most", "table", "size", "kind", "rows", "k", "row"]) (sc := defScope s__law_laid) (by decide +kernel)) (fun _ _ _ _ _ => (pg_name (i := 7) nd rfl (by first | exact Or.inl rfl | exact Or.inr rfl))) (fun _ _ _ _ _ => tests_nil) (fun _ _ _ _ _ => (ed_tup (ea_cons (ed_name 4 (pv 4)) (ea_cons (ed_name 6 (pv 6)) (ea_cons (ed_name 7 (pv 7)) ea_nil))))) (by decide))))))))
    (sds_one (sd_dput (i := 2) hu1 (pv 2) (ed_name 5 (pv 5)) (ed_tup (ea_cons (ed_name 4 (pv 4)) (ea_cons (ed_name 3 (pv 3)) ea_nil))))))))
    (sds_one (sd_if (et_cmp op_gt ans_gt (ed_sum rfl T (by rfl) (EF.er (ef_lc (own := [("kind", 4)]) (tg := (.nm 4)) hK rfl nd (EL.eh (el_range1 T (by rfl) (ed_len hK T (by rfl) (ED.er (ed_ix hK (er_name 0 (pv 0)) ed_int))))) (blkOk_by (own := [("kind", 4)]) (N := ["book", "most", "table", "size", "kind", "rows", "k", "row"]) (sc := defScope s__law_laid) (by decide +kernel)) (fun _ _ _ _ _ => (pg_name (i := 4) nd rfl (by first | exact Or.inl rfl | exact Or.inr rfl))) (fun _ _ _ _ _ => tests_nil) (fun _ _ _ _ _ => (ed_len hK T (by rfl) (ED.er (ed_dix hu1 (er_name 2 (pv 2)) (ed_tup (ea_cons (ed_name 4 (pv 4)) (ea_cons (ed_name 3 (pv 3)) ea_nil))))))) (by decide)))) ed_int (nomark _)) (sds_one (sd_ret (ed_tup (ea_cons (ed_name 2 (pv 2)) (ea_cons (ed_name 3 (pv 3)) ea_nil))))) sds_nil))))
    (sds_one (sd_ret (ed_tup (ea_cons (ed_name 2 (pv 2)) (ea_cons (ed_name 1 (pv 1)) ea_nil)))))))
abbrev s__law_add : Stmt := top 37
/-- _law_add: slots 0 one 1 other -/
noncomputable def c__law_add : Cmd :=
  (cRet (mCall 2 f__law_fr (mCons (mOp fAdd (mOp fMul (mOp fIx (mRead 0) (mC (.int 0))) (mOp fIx (mRead 1) (mC (.int 1)))) (mOp fMul (mOp fIx (mRead 1) (mC (.int 0))) (mOp fIx (mRead 0) (mC (.int 1))))) (mCons (mOp fMul (mOp fIx (mRead 0) (mC (.int 1))) (mOp fIx (mRead 1) (mC (.int 1)))) mNil))))
theorem sc__law_add : FnScope ["one", "other"] ["one", "other"] (defScope s__law_add) := ⟨rfl, rfl, rfl, by decide +kernel, rfl, by decide +kernel, by decide +kernel⟩
noncomputable def f__law_add : Fnc := runF 2 c__law_add
theorem fn__law_add {gc : Gc} (T : Bl mg) (w__law_fr : Fn P w mg base gc 1 "_law_fr" 2 f__law_fr) {fa : Addr} {fd : FuncData} (F : Fun gc.K "_law_add" "_law_add" s__law_add fa fd) (hm : mg "_law_add" = some (.ref fa)) : Fn P w mg base gc 2 "_law_add" 2 f__law_add := by
  refine fn_body (k := 1) rfl F sc__law_add hm (fun _ _ _ _ _ _ us hl => match us, hl with | [_, _], _ => rfl) (fun cdv A outer s H E g F0 hg hr => ?_)
  · have hK : gc.K = g.K := by rw [hg]
    have nd := sc__law_add.nd
    have hu4 := hr.units
    have hu5 := hu65 hr
    have hu := hu100 hr
    have hu1 := hu1_ hr
    have u__law_fr := w__law_fr.mono (k := 1) (by omega)
    exact (sds_one (sd_ret (ed_call u__law_fr hg rfl hr (by rfl) (takes_of rfl rfl rfl rfl) (ea_cons (ed_add hK (ed_mul (ed_ix hK (er_name 0 (pv 0)) ed_int) (ed_ix hK (er_name 1 (pv 1)) ed_int)) (ed_mul (ed_ix hK (er_name 1 (pv 1)) ed_int) (ed_ix hK (er_name 0 (pv 0)) ed_int))) (ea_cons (ed_mul (ed_ix hK (er_name 0 (pv 0)) ed_int) (ed_ix hK (er_name 1 (pv 1)) ed_int)) ea_nil)))))
abbrev s__law_sum : Stmt := top 40
/-- _law_sum: slots 0 row 1 found 2 one -/
noncomputable def c__law_sum : Cmd :=
  (cSeq (cSet 1 (mTup (mCons (mC (.int 0)) (mCons (mC (.int 1)) mNil))))
  (cSeq (cFor (.nm 2) [2] (mIt lstOf (mName 0)) (cSet 1 (mCall 2 f__law_add (mCons (mName 1) (mCons (mName 2) mNil)))))
  (cRet (mName 1))))
theorem sc__law_sum : FnScope ["row", "found", "one"] ["row"] (defScope s__law_sum) := ⟨rfl, rfl, rfl, by decide +kernel, rfl, by decide +kernel, by decide +kernel⟩
noncomputable def f__law_sum : Fnc := runF 3 c__law_sum
theorem fn__law_sum {gc : Gc} (T : Bl mg) (w__law_add : Fn P w mg base gc 2 "_law_add" 2 f__law_add) {fa : Addr} {fd : FuncData} (F : Fun gc.K "_law_sum" "_law_sum" s__law_sum fa fd) (hm : mg "_law_sum" = some (.ref fa)) : Fn P w mg base gc 3 "_law_sum" 1 f__law_sum := by
  refine fn_body (k := 2) rfl F sc__law_sum hm (fun _ _ _ _ _ _ us hl => match us, hl with | [_], _ => rfl) (fun cdv A outer s H E g F0 hg hr => ?_)
  · have hK : gc.K = g.K := by rw [hg]
    have nd := sc__law_sum.nd
    have hu4 := hr.units
    have hu5 := hu65 hr
    have hu := hu100 hr
    have hu1 := hu1_ hr
    have u__law_add := w__law_add.mono (k := 2) (by omega)
    exact (sds_cons (sd_set (i := 1) nd rfl (by first | exact Or.inl rfl | exact Or.inr rfl) (ed_tup (ea_cons ed_int (ea_cons ed_int ea_nil))))
    (sds_cons (sd_for (mask := [2]) hK (passes_of rfl) rfl (el_list (ed_name 0 (pv 0))) (pg_name (i := 2) nd rfl (by first | exact Or.inl rfl | exact Or.inr rfl)) (sds_one (sd_set (i := 1) nd rfl (by first | exact Or.inl rfl | exact Or.inr rfl) (ed_call u__law_add hg rfl hr (by rfl) (takes_of rfl rfl rfl rfl) (ea_cons (ed_name 1 (pv 1)) (ea_cons (ed_name 2 (pv 2)) ea_nil))))))
    (sds_one (sd_ret (ed_name 1 (pv 1))))))
abbrev s__law_height : Stmt := top 48
/-- _law_height: slots 0 tree 1 one -/
noncomputable def c__law_height (r__law_height : Fnc) : Cmd :=
  (cRet (mOp fAdd (mC (.int 1)) (mUn fMax (mOp fCat (mLst (mCons (mC (.int 0)) mNil)) (mLc [1] (.nm 1) (mIt tupOf (mOp fIx (mRead 0) (mC (.int 2)))) (M.pure true) (mCall 1 r__law_height (mCons (mName 1) mNil)))))))
theorem sc__law_height : FnScope ["tree", "one"] ["tree"] (defScope s__law_height) := ⟨rfl, rfl, rfl, by decide +kernel, rfl, by decide +kernel, by decide +kernel⟩
noncomputable def g__law_height : Nat → Fnc
  | 0 => fun _ _ => .bad
  | k + 1 => runF 2 (c__law_height (g__law_height k))
noncomputable def f__law_height : Fnc := g__law_height 12
theorem rec__law_height {gc : Gc} (T : Bl mg) {fa__law_height : Addr} {fd__law_height : FuncData} (F__law_height : Fun gc.K "_law_height" "_law_height" s__law_height fa__law_height fd__law_height) (m__law_height : mg "_law_height" = some (.ref fa__law_height)) : ∀ k : Nat, Fn P w mg base gc (1 + k) "_law_height" 1 (g__law_height k)
  | 0 => Fn.never (ps := ["tree"]) rfl m__law_height F__law_height.kp (F__law_height.binds (fun _ _ _ _ _ _ us hl => match us, hl with | [_], _ => rfl))
  | k + 1 => by
    have ih := rec__law_height T F__law_height m__law_height k
    have u__law_height := ih
    refine fn_body (k := 1 + k) rfl F__law_height sc__law_height m__law_height (fun _ _ _ _ _ _ us hl => match us, hl with | [_], _ => rfl) (fun cdv A outer s H E g F0 hg hr => ?_)
    · have hK : gc.K = g.K := by rw [hg]
      have nd := sc__law_height.nd
      have hu4 := hr.units
      have hu5 := hu65 hr
      have hu := hu100 hr
      have hu1 := hu1_ hr
      exact (sds_one (sd_ret (ed_add hK ed_int (ed_max1 rfl T (by rfl) (EF.er (ef_cat (EF.er (ef_lst (ea_cons ed_int ea_nil))) (EF.er (ef_lc (own := [("one", 1)]) (tg := (.nm 1)) hK rfl nd (EL.eh (el_tup hK (ed_ix hK (er_name 0 (pv 0)) ed_int))) (blkOk_by (own := [("one", 1)]) (N := ["tree", "one"]) (sc := defScope s__law_height) (by decide +kernel)) (fun _ _ _ _ _ => (pg_name (i := 1) nd rfl (by first | exact Or.inl rfl | exact Or.inr rfl))) (fun _ _ _ _ _ => tests_nil) (fun _ _ _ _ _ => (ed_call u__law_height hg rfl hr (by rfl) tk0 (ea_cons (ed_name 1 (pv 1)) ea_nil))) (by decide)))))))))
theorem fn__law_height {gc : Gc} (T : Bl mg) {fa__law_height : Addr} {fd__law_height : FuncData} (F__law_height : Fun gc.K "_law_height" "_law_height" s__law_height fa__law_height fd__law_height) (m__law_height : mg "_law_height" = some (.ref fa__law_height)) : Fn P w mg base gc 13 "_law_height" 1 f__law_height := (rec__law_height T F__law_height m__law_height 12)
abbrev s__law_mul : Stmt := top 38
/-- _law_mul: slots 0 one 1 other -/
noncomputable def c__law_mul : Cmd :=
  (cRet (mCall 2 f__law_fr (mCons (mOp fMul (mOp fIx (mRead 0) (mC (.int 0))) (mOp fIx (mRead 1) (mC (.int 0)))) (mCons (mOp fMul (mOp fIx (mRead 0) (mC (.int 1))) (mOp fIx (mRead 1) (mC (.int 1)))) mNil))))
theorem sc__law_mul : FnScope ["one", "other"] ["one", "other"] (defScope s__law_mul) := ⟨rfl, rfl, rfl, by decide +kernel, rfl, by decide +kernel, by decide +kernel⟩
noncomputable def f__law_mul : Fnc := runF 2 c__law_mul
theorem fn__law_mul {gc : Gc} (T : Bl mg) (w__law_fr : Fn P w mg base gc 1 "_law_fr" 2 f__law_fr) {fa : Addr} {fd : FuncData} (F : Fun gc.K "_law_mul" "_law_mul" s__law_mul fa fd) (hm : mg "_law_mul" = some (.ref fa)) : Fn P w mg base gc 2 "_law_mul" 2 f__law_mul := by
  refine fn_body (k := 1) rfl F sc__law_mul hm (fun _ _ _ _ _ _ us hl => match us, hl with | [_, _], _ => rfl) (fun cdv A outer s H E g F0 hg hr => ?_)
  · have hK : gc.K = g.K := by rw [hg]
    have nd := sc__law_mul.nd
    have hu4 := hr.units
    have hu5 := hu65 hr
    have hu := hu100 hr
    have hu1 := hu1_ hr
    have u__law_fr := w__law_fr.mono (k := 1) (by omega)
    exact (sds_one (sd_ret (ed_call u__law_fr hg rfl hr (by rfl) (takes_of rfl rfl rfl rfl) (ea_cons (ed_mul (ed_ix hK (er_name 0 (pv 0)) ed_int) (ed_ix hK (er_name 1 (pv 1)) ed_int)) (ea_cons (ed_mul (ed_ix hK (er_name 0 (pv 0)) ed_int) (ed_ix hK (er_name 1 (pv 1)) ed_int)) ea_nil)))))
abbrev s__law_chance : Stmt := top 49
/-- _law_chance: slots 0 book 1 tree 2 found 3 one -/
noncomputable def c__law_chance (r__law_chance : Fnc) : Cmd :=
  (cSeq (cSet 2 (mOp fIx (mOp fIx (mOp fIx (mOp fIx (mRead 0) (mC (.int 2))) (mOp fIx (mRead 1) (mC (.int 0)))) (mOp fIx (mRead 1) (mC (.int 1)))) (mC (.int 1))))
  (cSeq (cFor (.nm 3) [3] (mIt tupOf (mOp fIx (mRead 1) (mC (.int 2)))) (cSet 2 (mCall 2 f__law_mul (mCons (mName 2) (mCons (mCall 2 r__law_chance (mCons (mName 0) (mCons (mName 3) mNil))) mNil)))))
  (cRet (mName 2))))
theorem sc__law_chance : FnScope ["book", "tree", "found", "one"] ["book", "tree"] (defScope s__law_chance) := ⟨rfl, rfl, rfl, by decide +kernel, rfl, by decide +kernel, by decide +kernel⟩
noncomputable def g__law_chance : Nat → Fnc
  | 0 => fun _ _ => .bad
  | k + 1 => runF 4 (c__law_chance (g__law_chance k))
noncomputable def f__law_chance : Fnc := g__law_chance 12
theorem rec__law_chance {gc : Gc} (T : Bl mg) (w__law_mul : Fn P w mg base gc 2 "_law_mul" 2 f__law_mul) {fa__law_chance : Addr} {fd__law_chance : FuncData} (F__law_chance : Fun gc.K "_law_chance" "_law_chance" s__law_chance fa__law_chance fd__law_chance) (m__law_chance : mg "_law_chance" = some (.ref fa__law_chance)) : ∀ k : Nat, Fn P w mg base gc (2 + k) "_law_chance" 2 (g__law_chance k)
  | 0 => Fn.never (ps := ["book", "tree"]) rfl m__law_chance F__law_chance.kp (F__law_chance.binds (fun _ _ _ _ _ _ us hl => match us, hl with | [_, _], _ => rfl))
  | k + 1 => by
    have ih := rec__law_chance T w__law_mul F__law_chance m__law_chance k
    have u__law_chance := ih
    refine fn_body (k := 2 + k) rfl F__law_chance sc__law_chance m__law_chance (fun _ _ _ _ _ _ us hl => match us, hl with | [_, _], _ => rfl) (fun cdv A outer s H E g F0 hg hr => ?_)
    · have hK : gc.K = g.K := by rw [hg]
      have nd := sc__law_chance.nd
      have hu4 := hr.units
      have hu5 := hu65 hr
      have hu := hu100 hr
      have hu1 := hu1_ hr
      have u__law_mul := w__law_mul.mono (k := 2 + k) (by omega)
      exact (sds_cons (sd_set (i := 2) nd rfl (by first | exact Or.inl rfl | exact Or.inr rfl) (ed_ix hK (ED.er (ed_ix hK (ED.er (ed_ix hK (ED.er (ed_ix hK (er_name 0 (pv 0)) ed_int)) (ed_ix hK (er_name 1 (pv 1)) ed_int))) (ed_ix hK (er_name 1 (pv 1)) ed_int))) ed_int))
    (sds_cons (sd_for (mask := [3]) hK (passes_of rfl) rfl (el_tup hK (ed_ix hK (er_name 1 (pv 1)) ed_int)) (pg_name (i := 3) nd rfl (by first | exact Or.inl rfl | exact Or.inr rfl)) (sds_one (sd_set (i := 2) nd rfl (by first | exact Or.inl rfl | exact Or.inr rfl) (ed_call u__law_mul hg rfl hr (by rfl) (takes_of rfl rfl rfl rfl) (ea_cons (ed_name 2 (pv 2)) (ea_cons (ed_call u__law_chance hg rfl hr (by rfl) (takes_of rfl rfl rfl rfl) (ea_cons (ed_name 0 (pv 0)) (ea_cons (ed_name 3 (pv 3)) ea_nil))) ea_nil))))))
    (sds_one (sd_ret (ed_name 2 (pv 2))))))
theorem fn__law_chance {gc : Gc} (T : Bl mg) (w__law_mul : Fn P w mg base gc 2 "_law_mul" 2 f__law_mul) {fa__law_chance : Addr} {fd__law_chance : FuncData} (F__law_chance : Fun gc.K "_law_chance" "_law_chance" s__law_chance fa__law_chance fd__law_chance) (m__law_chance : mg "_law_chance" = some (.ref fa__law_chance)) : Fn P w mg base gc 14 "_law_chance" 2 f__law_chance := (rec__law_chance T w__law_mul F__law_chance m__law_chance 12)
abbrev s_divisor : Stmt := top 4
/-- divisor: slots 0 one 1 other -/
noncomputable def c_divisor : Cmd :=
  (cSeq (cPar 0 1 false false (mUn fAbs (mName 0)) (mUn fAbs (mName 1)))
  (cSeq (cWhile [] (fun _ => 4000) (mBool (mOp fNe (mName 1) (mC (.int 0)))) (cPar 0 1 false false (mName 1) (mOp fMod (mName 0) (mName 1))))
  (cRet (mName 0))))
theorem sc_divisor : FnScope ["one", "other"] ["one", "other"] (defScope s_divisor) := ⟨rfl, rfl, rfl, by decide +kernel, rfl, by decide +kernel, by decide +kernel⟩
noncomputable def f_divisor : Fnc := runF 2 c_divisor
theorem fn_divisor {gc : Gc} (T : Bl mg) {fa : Addr} {fd : FuncData} (F : Fun gc.K "divisor" "divisor" s_divisor fa fd) (hm : mg "divisor" = some (.ref fa)) : Fn P w mg base gc 1 "divisor" 2 f_divisor := by
  refine fn_body (k := 0) rfl F sc_divisor hm (fun _ _ _ _ _ _ us hl => match us, hl with | [_, _], _ => rfl) (fun cdv A outer s H E g F0 hg hr => ?_)
  · have hK : gc.K = g.K := by rw [hg]
    have nd := sc_divisor.nd
    have hu4 := hr.units
    have hu5 := hu65 hr
    have hu := hu100 hr
    have hu1 := hu1_ hr
    exact (sds_cons (sd_par (i := 0) (j := 1) (k := false) (k' := false) rfl nd rfl rfl (by decide) rfl rfl (ED.k (ed_abs T (by rfl) (ed_name 0 (pv 0)))) (ED.k (ed_abs T (by rfl) (ed_name 1 (pv 1)))) (by rfl))
    (sds_cons (sd_while (mask := []) (n := fun _ => 4000) (passes_of rfl) (et_cmp (op_neD hu4) (ans_ne hK) (ed_name 1 (pv 1)) ed_int (nomark _)) (sds_one (sd_par (i := 0) (j := 1) (k := false) (k' := false) rfl nd rfl rfl (by decide) rfl rfl (ED.k (ed_name 1 (pv 1))) (ED.k (ed_mod (ed_name 0 (pv 0)) (ed_name 1 (pv 1)))) (by rfl))))
    (sds_one (sd_ret (ed_name 0 (pv 0))))))
abbrev s_part : Stmt := top 5
/-- part: slots 0 above 1 below 2 common -/
noncomputable def c_part : Cmd :=
  (cSeq (cIf (mBool (mOp fLt (mName 1) (mC (.int 0)))) (cPar 0 1 false false (mOp fSub (mC (.int 0)) (mName 0)) (mOp fSub (mC (.int 0)) (mName 1))) cNil)
  (cSeq (cSet 2 (mCall 2 f_divisor (mCons (mName 0) (mCons (mName 1) mNil))))
  (cRet (mTup (mCons (mOp fDiv (mName 0) (mName 2)) (mCons (mOp fDiv (mName 1) (mName 2)) mNil))))))
theorem sc_part : FnScope ["above", "below", "common"] ["above", "below"] (defScope s_part) := ⟨rfl, rfl, rfl, by decide +kernel, rfl, by decide +kernel, by decide +kernel⟩
noncomputable def f_part : Fnc := runF 3 c_part
theorem fn_part {gc : Gc} (T : Bl mg) (w_divisor : Fn P w mg base gc 1 "divisor" 2 f_divisor) {fa : Addr} {fd : FuncData} (F : Fun gc.K "part" "part" s_part fa fd) (hm : mg "part" = some (.ref fa)) : Fn P w mg base gc 2 "part" 2 f_part := by
  refine fn_body (k := 1) rfl F sc_part hm (fun _ _ _ _ _ _ us hl => match us, hl with | [_, _], _ => rfl) (fun cdv A outer s H E g F0 hg hr => ?_)
  · have hK : gc.K = g.K := by rw [hg]
    have nd := sc_part.nd
    have hu4 := hr.units
    have hu5 := hu65 hr
    have hu := hu100 hr
    have hu1 := hu1_ hr
    have u_divisor := w_divisor.mono (k := 1) (by omega)
    exact (sds_cons (sd_if (et_cmp op_lt ans_lt (ed_name 1 (pv 1)) ed_int (nomark _)) (sds_one (sd_par (i := 0) (j := 1) (k := false) (k' := false) rfl nd rfl rfl (by decide) rfl rfl (ED.k (ed_sub ed_int (ed_name 0 (pv 0)))) (ED.k (ed_sub ed_int (ed_name 1 (pv 1)))) (by rfl))) sds_nil)
    (sds_cons (sd_set (i := 2) nd rfl (by first | exact Or.inl rfl | exact Or.inr rfl) (ed_call u_divisor hg rfl hr (by rfl) (takes_of rfl rfl rfl rfl) (ea_cons (ed_name 0 (pv 0)) (ea_cons (ed_name 1 (pv 1)) ea_nil))))
    (sds_one (sd_ret (ed_tup (ea_cons (ed_div (ed_name 0 (pv 0)) (ed_name 2 (pv 2))) (ea_cons (ed_div (ed_name 1 (pv 1)) (ed_name 2 (pv 2))) ea_nil)))))))
abbrev s_plus : Stmt := top 6
/-- plus: slots 0 one 1 other -/
noncomputable def c_plus : Cmd :=
  (cRet (mCall 2 f_part (mCons (mOp fAdd (mOp fMul (mOp fIx (mRead 0) (mC (.int 0))) (mOp fIx (mRead 1) (mC (.int 1)))) (mOp fMul (mOp fIx (mRead 1) (mC (.int 0))) (mOp fIx (mRead 0) (mC (.int 1))))) (mCons (mOp fMul (mOp fIx (mRead 0) (mC (.int 1))) (mOp fIx (mRead 1) (mC (.int 1)))) mNil))))
theorem sc_plus : FnScope ["one", "other"] ["one", "other"] (defScope s_plus) := ⟨rfl, rfl, rfl, by decide +kernel, rfl, by decide +kernel, by decide +kernel⟩
noncomputable def f_plus : Fnc := runF 2 c_plus
theorem fn_plus {gc : Gc} (T : Bl mg) (w_part : Fn P w mg base gc 2 "part" 2 f_part) {fa : Addr} {fd : FuncData} (F : Fun gc.K "plus" "plus" s_plus fa fd) (hm : mg "plus" = some (.ref fa)) : Fn P w mg base gc 3 "plus" 2 f_plus := by
  refine fn_body (k := 2) rfl F sc_plus hm (fun _ _ _ _ _ _ us hl => match us, hl with | [_, _], _ => rfl) (fun cdv A outer s H E g F0 hg hr => ?_)
  · have hK : gc.K = g.K := by rw [hg]
    have nd := sc_plus.nd
    have hu4 := hr.units
    have hu5 := hu65 hr
    have hu := hu100 hr
    have hu1 := hu1_ hr
    have u_part := w_part.mono (k := 2) (by omega)
    exact (sds_one (sd_ret (ed_call u_part hg rfl hr (by rfl) (takes_of rfl rfl rfl rfl) (ea_cons (ed_add hK (ed_mul (ed_ix hK (er_name 0 (pv 0)) ed_int) (ed_ix hK (er_name 1 (pv 1)) ed_int)) (ed_mul (ed_ix hK (er_name 1 (pv 1)) ed_int) (ed_ix hK (er_name 0 (pv 0)) ed_int))) (ea_cons (ed_mul (ed_ix hK (er_name 0 (pv 0)) ed_int) (ed_ix hK (er_name 1 (pv 1)) ed_int)) ea_nil)))))
abbrev s_total : Stmt := top 10
/-- total: slots 0 row 1 found 2 one -/
noncomputable def c_total : Cmd :=
  (cSeq (cSet 1 (mTup (mCons (mC (.int 0)) (mCons (mC (.int 1)) mNil))))
  (cSeq (cFor (.nm 2) [2] (mIt lstOf (mName 0)) (cSet 1 (mCall 2 f_plus (mCons (mName 1) (mCons (mName 2) mNil)))))
  (cRet (mName 1))))
theorem sc_total : FnScope ["row", "found", "one"] ["row"] (defScope s_total) := ⟨rfl, rfl, rfl, by decide +kernel, rfl, by decide +kernel, by decide +kernel⟩
noncomputable def f_total : Fnc := runF 3 c_total
theorem fn_total {gc : Gc} (T : Bl mg) (w_plus : Fn P w mg base gc 3 "plus" 2 f_plus) {fa : Addr} {fd : FuncData} (F : Fun gc.K "total" "total" s_total fa fd) (hm : mg "total" = some (.ref fa)) : Fn P w mg base gc 4 "total" 1 f_total := by
  refine fn_body (k := 3) rfl F sc_total hm (fun _ _ _ _ _ _ us hl => match us, hl with | [_], _ => rfl) (fun cdv A outer s H E g F0 hg hr => ?_)
  · have hK : gc.K = g.K := by rw [hg]
    have nd := sc_total.nd
    have hu4 := hr.units
    have hu5 := hu65 hr
    have hu := hu100 hr
    have hu1 := hu1_ hr
    have u_plus := w_plus.mono (k := 3) (by omega)
    exact (sds_cons (sd_set (i := 1) nd rfl (by first | exact Or.inl rfl | exact Or.inr rfl) (ed_tup (ea_cons ed_int (ea_cons ed_int ea_nil))))
    (sds_cons (sd_for (mask := [2]) hK (passes_of rfl) rfl (el_list (ed_name 0 (pv 0))) (pg_name (i := 2) nd rfl (by first | exact Or.inl rfl | exact Or.inr rfl)) (sds_one (sd_set (i := 1) nd rfl (by first | exact Or.inl rfl | exact Or.inr rfl) (ed_call u_plus hg rfl hr (by rfl) (takes_of rfl rfl rfl rfl) (ea_cons (ed_name 1 (pv 1)) (ea_cons (ed_name 2 (pv 2)) ea_nil))))))
    (sds_one (sd_ret (ed_name 1 (pv 1))))))
abbrev s_times : Stmt := top 7
/-- times: slots 0 one 1 other -/
noncomputable def c_times : Cmd :=
  (cRet (mCall 2 f_part (mCons (mOp fMul (mOp fIx (mRead 0) (mC (.int 0))) (mOp fIx (mRead 1) (mC (.int 0)))) (mCons (mOp fMul (mOp fIx (mRead 0) (mC (.int 1))) (mOp fIx (mRead 1) (mC (.int 1)))) mNil))))
theorem sc_times : FnScope ["one", "other"] ["one", "other"] (defScope s_times) := ⟨rfl, rfl, rfl, by decide +kernel, rfl, by decide +kernel, by decide +kernel⟩
noncomputable def f_times : Fnc := runF 2 c_times
theorem fn_times {gc : Gc} (T : Bl mg) (w_part : Fn P w mg base gc 2 "part" 2 f_part) {fa : Addr} {fd : FuncData} (F : Fun gc.K "times" "times" s_times fa fd) (hm : mg "times" = some (.ref fa)) : Fn P w mg base gc 3 "times" 2 f_times := by
  refine fn_body (k := 2) rfl F sc_times hm (fun _ _ _ _ _ _ us hl => match us, hl with | [_, _], _ => rfl) (fun cdv A outer s H E g F0 hg hr => ?_)
  · have hK : gc.K = g.K := by rw [hg]
    have nd := sc_times.nd
    have hu4 := hr.units
    have hu5 := hu65 hr
    have hu := hu100 hr
    have hu1 := hu1_ hr
    have u_part := w_part.mono (k := 2) (by omega)
    exact (sds_one (sd_ret (ed_call u_part hg rfl hr (by rfl) (takes_of rfl rfl rfl rfl) (ea_cons (ed_mul (ed_ix hK (er_name 0 (pv 0)) ed_int) (ed_ix hK (er_name 1 (pv 1)) ed_int)) (ea_cons (ed_mul (ed_ix hK (er_name 0 (pv 0)) ed_int) (ed_ix hK (er_name 1 (pv 1)) ed_int)) ea_nil)))))
abbrev s_rows_of : Stmt := top 17
/-- rows_of: slots 0 table 1 kinds 2 size 3 weighed 4 parts 5 few 6 one 7 rest -/
noncomputable def c_rows_of (r_rows_of : Fnc) : Cmd :=
  (cSeq (cIf (mBool (mOp fEq (mName 1) (mLst mNil))) (cRet (mIf (mTru (mRead 3)) (mTup (mCons (mUn fInt (mOp fEq (mName 2) (mC (.int 0)))) (mCons (mC (.int 1)) mNil))) (mUn fInt (mOp fEq (mName 2) (mC (.int 0)))))) cNil)
  (cSeq (cOwn 4 (mLst mNil))
  (cSeq (cFor (.nm 5) [5] (mRng2 (mC (.int 1)) (mOp fAdd (mOp fSub (mName 2) (mUn fLen (mRead 1))) (mC (.int 2)))) (cApp 4 (mTup (mCons (mOp fIx (mOp fIx (mRead 0) (mOp fIx (mRead 1) (mC (.int 0)))) (mName 5)) (mCons (mCall 4 r_rows_of (mCons (mName 0) (mCons (mSlL (mRead 1) (mPart (mC (.int 1))) (M.pure none)) (mCons (mOp fSub (mName 2) (mName 5)) (mCons (mName 3) mNil))))) mNil)))))
  (cRet (mIf (mTru (mRead 3)) (mCall 1 f_total (mCons (mLc [6, 7] (.tp [6, 7]) (mIt lstOf (mRead 4)) (M.pure true) (mCall 2 f_times (mCons (mName 6) (mCons (mName 7) mNil)))) mNil)) (mUn fSum (mLc [6, 7] (.tp [6, 7]) (mIt lstOf (mRead 4)) (M.pure true) (mOp fMul (mName 6) (mName 7)))))))))
theorem sc_rows_of : FnScope ["table", "kinds", "size", "weighed", "parts", "few", "one", "rest"] ["table", "kinds", "size", "weighed"] (defScope s_rows_of) := ⟨rfl, rfl, rfl, by decide +kernel, rfl, by decide +kernel, by decide +kernel⟩
noncomputable def g_rows_of : Nat → Fnc
  | 0 => fun _ _ => .bad
  | k + 1 => runF 8 (c_rows_of (g_rows_of k))
noncomputable def f_rows_of : Fnc := g_rows_of 12
theorem rec_rows_of {gc : Gc} (T : Bl mg) (w_total : Fn P w mg base gc 4 "total" 1 f_total) (w_times : Fn P w mg base gc 3 "times" 2 f_times) {fa_rows_of : Addr} {fd_rows_of : FuncData} (F_rows_of : Fun gc.K "rows_of" "rows_of" s_rows_of fa_rows_of fd_rows_of) (m_rows_of : mg "rows_of" = some (.ref fa_rows_of)) : ∀ k : Nat, Fn P w mg base gc (4 + k) "rows_of" 4 (g_rows_of k)
  | 0 => Fn.never (ps := ["table", "kinds", "size", "weighed"]) rfl m_rows_of F_rows_of.kp (F_rows_of.binds (fun _ _ _ _ _ _ us hl => match us, hl with | [_, _, _, _], _ => rfl))
  | k + 1 => by
    have ih := rec_rows_of T w_total w_times F_rows_of m_rows_of k
    have u_rows_of := ih
    refine fn_body (k := 4 + k) rfl F_rows_of sc_rows_of m_rows_of (fun _ _ _ _ _ _ us hl => match us, hl with | [_, _, _, _], _ => rfl) (fun cdv A outer s H E g F0 hg hr => ?_)
    · have hK : gc.K = g.K := by rw [hg]
      have nd := sc_rows_of.nd
      have hu4 := hr.units
      have hu5 := hu65 hr
      have hu := hu100 hr
      have hu1 := hu1_ hr
      have u_total := w_total.mono (k := 4 + k) (by omega)
      have u_times := w_times.mono (k := 4 + k) (by omega)
      exact (sds_cons (sd_if (et_cmp (op_eqD hu4) (ans_eq hK) (ed_name 1 (pv 1)) (EF.ed (ef_lst ea_nil)) (nomark _)) (sds_one (sd_ret (ed_if (et_truth hK (er_name 3 (pv 3))) (ed_tup (ea_cons (ed_int1 T (by rfl) (ed_cmp (op_eqD hu4) (ans_eq hK) (ed_name 2 (pv 2)) ed_int (nomark _))) (ea_cons ed_int ea_nil))) (ed_int1 T (by rfl) (ed_cmp (op_eqD hu4) (ans_eq hK) (ed_name 2 (pv 2)) ed_int (nomark _)))))) sds_nil)
    (sds_cons (sd_own (i := 4) nd rfl (by first | exact Or.inl rfl | exact Or.inr rfl) (ef_lst ea_nil))
    (sds_cons (sd_for (mask := [5]) hK (passes_of rfl) rfl (el_range2 T (by rfl) ed_int (ed_add hK (ed_sub (ed_name 2 (pv 2)) (ed_len hK T (by rfl) (er_name 1 (pv 1)))) ed_int)) (pg_name (i := 5) nd rfl (by first | exact Or.inl rfl | exact Or.inr rfl)) (sds_one (sd_app (i := 4) (pv 4) (ed_tup (ea_cons (ed_ix hK (ED.er (ed_ix hK (er_name 0 (pv 0)) (ed_ix hK (er_name 1 (pv 1)) ed_int))) (ed_name 5 (pv 5))) (ea_cons (ed_call u_rows_of hg rfl hr (by rfl) (takes_of rfl rfl rfl rfl) (ea_cons (ed_name 0 (pv 0)) (ea_cons (EF.ed (ef_slL (er_name 1 (pv 1)) (eo_some ed_int) eo_none)) (ea_cons (ed_sub (ed_name 2 (pv 2)) (ed_name 5 (pv 5))) (ea_cons (ed_name 3 (pv 3)) ea_nil))))) ea_nil))))))
    (sds_one (sd_ret (ed_if (et_truth hK (er_name 3 (pv 3))) (ed_call u_total hg rfl hr (by rfl) (takes_of rfl rfl rfl rfl) (ea_cons (EF.ed (ef_lc (own := [("one", 6), ("rest", 7)]) (tg := (.tp [6, 7])) hK rfl nd (eh_list (er_name 4 (pv 4))) (blkOk_by (own := [("one", 6), ("rest", 7)]) (N := ["table", "kinds", "size", "weighed", "parts", "few", "one", "rest"]) (sc := defScope s_rows_of) (by decide +kernel)) (fun _ _ _ _ _ => (pg_tup (n := 2) rfl (pgs_cons (pg_name (i := 6) nd rfl (by first | exact Or.inl rfl | exact Or.inr rfl)) (pgs_cons (pg_name (i := 7) nd rfl (by first | exact Or.inl rfl | exact Or.inr rfl)) pgs_nil)))) (fun _ _ _ _ _ => tests_nil) (fun _ _ _ _ _ => (ed_call u_times hg rfl hr (by rfl) tk0 (ea_cons (ed_name 6 (pv 6)) (ea_cons (ed_name 7 (pv 7)) ea_nil)))) (by decide))) ea_nil)) (ed_sum rfl T (by rfl) (EF.er (ef_lc (own := [("one", 6), ("rest", 7)]) (tg := (.tp [6, 7])) hK rfl nd (eh_list (er_name 4 (pv 4))) (blkOk_by (own := [("one", 6), ("rest", 7)]) (N := ["table", "kinds", "size", "weighed", "parts", "few", "one", "rest"]) (sc := defScope s_rows_of) (by decide +kernel)) (fun _ _ _ _ _ => (pg_tup (n := 2) rfl (pgs_cons (pg_name (i := 6) nd rfl (by first | exact Or.inl rfl | exact Or.inr rfl)) (pgs_cons (pg_name (i := 7) nd rfl (by first | exact Or.inl rfl | exact Or.inr rfl)) pgs_nil)))) (fun _ _ _ _ _ => tests_nil) (fun _ _ _ _ _ => (ed_mul (ed_name 6 (pv 6)) (ed_name 7 (pv 7)))) (by decide))))))))))
theorem fn_rows_of {gc : Gc} (T : Bl mg) (w_total : Fn P w mg base gc 4 "total" 1 f_total) (w_times : Fn P w mg base gc 3 "times" 2 f_times) {fa_rows_of : Addr} {fd_rows_of : FuncData} (F_rows_of : Fun gc.K "rows_of" "rows_of" s_rows_of fa_rows_of fd_rows_of) (m_rows_of : mg "rows_of" = some (.ref fa_rows_of)) : Fn P w mg base gc 16 "rows_of" 4 f_rows_of := (rec_rows_of T w_total w_times F_rows_of m_rows_of 12)
abbrev s_things : Stmt := top 12
/-- things: slots 0 lot 1 k 2 thing -/
noncomputable def c_things : Cmd :=
  (cRet (mLc2 [1, 2] (.nm 1) (mIt rng1 (mUn fLen (mRead 0))) (M.pure true) [2] (.nm 2) (mIt rng1 (mOp fIx (mRead 0) (mName 1))) (M.pure true) (mName 1)))
theorem sc_things : FnScope ["lot", "k", "thing"] ["lot"] (defScope s_things) := ⟨rfl, rfl, rfl, by decide +kernel, rfl, by decide +kernel, by decide +kernel⟩
noncomputable def f_things : Fnc := runF 3 c_things
theorem fn_things {gc : Gc} (T : Bl mg) {fa : Addr} {fd : FuncData} (F : Fun gc.K "things" "things" s_things fa fd) (hm : mg "things" = some (.ref fa)) : Fn P w mg base gc 1 "things" 1 f_things := by
  refine fn_body (k := 0) rfl F sc_things hm (fun _ _ _ _ _ _ us hl => match us, hl with | [_], _ => rfl) (fun cdv A outer s H E g F0 hg hr => ?_)
  · have hK : gc.K = g.K := by rw [hg]
    have nd := sc_things.nd
    have hu4 := hr.units
    have hu5 := hu65 hr
    have hu := hu100 hr
    have hu1 := hu1_ hr
    exact (sds_one (sd_ret (EF.ed (ef_lc2 (own := [("k", 1), ("thing", 2)]) (tg := (.nm 1)) (vs1 := [2]) (tg1 := (.nm 2)) hK rfl nd (EL.eh (el_range1 T (by rfl) (ed_len hK T (by rfl) (er_name 0 (pv 0))))) (blkOk_by (own := [("k", 1), ("thing", 2)]) (N := ["lot", "k", "thing"]) (sc := defScope s_things) (by decide +kernel)) (by decide) (fun _ _ _ _ _ => (pg_name (i := 1) nd rfl (by first | exact Or.inl rfl | exact Or.inr rfl))) (fun _ _ _ _ _ => tests_nil) (fun _ _ _ _ _ => (el_range1 T (by rfl) (ed_ix hK (er_name 0 (pv 0)) (ed_name 1 (pv 1))))) (fun _ _ _ _ _ => (pg_name (i := 2) nd rfl (by first | exact Or.inl rfl | exact Or.inr rfl))) (fun _ _ _ _ _ => tests_nil) (fun _ _ _ _ _ => (ed_name 1 (pv 1))) (by decide) (by decide)))))
abbrev s_low_table : Stmt := top 16
/-- low_table: slots 0 book 1 size 2 height 3 weighed 4 nought 5 found 6 name 7 turn 8 fresh 9 litters 10 row 11 many 12 told 13 lot 14 chance 15 one -/
noncomputable def c_low_table : Cmd :=
  (cSeq (cSet 4 (mIf (mTru (mRead 3)) (mTup (mCons (mC (.int 0)) (mCons (mC (.int 1)) mNil))) (mC (.int 0))))
  (cSeq (cSet 5 (mLc [6] (.nm 6) (mIt tupOf (mOp fIx (mRead 0) (mC (.int 1)))) (M.pure true) (mOp fRep (mLst (mCons (mName 4) mNil)) (mOp fAdd (mName 1) (mC (.int 1))))))
  (cSeq (cFor (.nm 7) [7, 8, 9, 10, 11, 12] (mIt rng1 (mName 2)) (cSeq (cOwn 8 (mLst mNil))
  (cSeq (cFor (.nm 9) [9, 10, 11, 12] (mIt tupOf (mOp fIx (mRead 0) (mC (.int 2)))) (cSeq (cOwn 10 (mLst (mCons (mName 4) mNil)))
  (cSeq (cFor (.nm 11) [11, 12] (mRng2 (mC (.int 1)) (mOp fAdd (mName 1) (mC (.int 1)))) (cSeq (cFrz 12 (cOwn 12 (mLc [13, 14] (.tp [13, 14]) (mIt tupOf (mName 9)) (M.pure true) (mTup (mCons (mName 14) (mCons (mCall 4 f_rows_of (mCons (mName 5) (mCons (mCall 1 f_things (mCons (mName 13) mNil)) (mCons (mOp fSub (mName 11) (mC (.int 1))) (mCons (mName 3) mNil))))) mNil))))))
  (cIf (mTru (mRead 3)) (cApp 10 (mCall 1 f_total (mCons (mLc [14, 15] (.tp [14, 15]) (mIt lstOf (mRead 12)) (M.pure true) (mCall 2 f_times (mCons (mName 14) (mCons (mName 15) mNil)))) mNil))) (cApp 10 (mUn fSum (mLc [14, 15] (.tp [14, 15]) (mIt lstOf (mRead 12)) (M.pure true) (mName 15)))))))
  (cApp 8 (mName 10)))))
  (cSet 5 (mName 8)))))
  (cRet (mName 5)))))
theorem sc_low_table : FnScope ["book", "size", "height", "weighed", "nought", "found", "name", "turn", "fresh", "litters", "row", "many", "told", "lot", "chance", "one"] ["book", "size", "height", "weighed"] (defScope s_low_table) := ⟨rfl, rfl, rfl, by decide +kernel, rfl, by decide +kernel, by decide +kernel⟩
noncomputable def f_low_table : Fnc := runF 16 c_low_table
theorem fn_low_table {gc : Gc} (T : Bl mg) (w_rows_of : Fn P w mg base gc 16 "rows_of" 4 f_rows_of) (w_things : Fn P w mg base gc 1 "things" 1 f_things) (w_total : Fn P w mg base gc 4 "total" 1 f_total) (w_times : Fn P w mg base gc 3 "times" 2 f_times) {fa : Addr} {fd : FuncData} (F : Fun gc.K "low_table" "low_table" s_low_table fa fd) (hm : mg "low_table" = some (.ref fa)) : Fn P w mg base gc 17 "low_table" 4 f_low_table := by
  refine fn_body (k := 16) rfl F sc_low_table hm (fun _ _ _ _ _ _ us hl => match us, hl with | [_, _, _, _], _ => rfl) (fun cdv A outer s H E g F0 hg hr => ?_)
  · have hK : gc.K = g.K := by rw [hg]
    have nd := sc_low_table.nd
    have hu4 := hr.units
    have hu5 := hu65 hr
    have hu := hu100 hr
    have hu1 := hu1_ hr
    have u_rows_of := w_rows_of.mono (k := 16) (by omega)
    have u_things := w_things.mono (k := 16) (by omega)
    have u_total := w_total.mono (k := 16) (by omega)
    have u_times := w_times.mono (k := 16) (by omega)
    exact (sds_cons (sd_set (i := 4) nd rfl (by first | exact Or.inl rfl | exact Or.inr rfl) (ed_if (et_truth hK (er_name 3 (pv 3))) (ed_tup (ea_cons ed_int (ea_cons ed_int ea_nil))) ed_int))
    (sds_cons (sd_set (i := 5) nd rfl (by first | exact Or.inl rfl | exact Or.inr rfl) (EF.ed (ef_lc (own := [("name", 6)]) (tg := (.nm 6)) hK rfl nd (EL.eh (el_tup hK (ed_ix hK (er_name 0 (pv 0)) ed_int))) (blkOk_by (own := [("name", 6)]) (N := ["book", "size", "height", "weighed", "nought", "found", "name", "turn", "fresh", "litters", "row", "many", "told", "lot", "chance", "one"]) (sc := defScope s_low_table) (by decide +kernel)) (fun _ _ _ _ _ => (pg_name (i := 6) nd rfl (by first | exact Or.inl rfl | exact Or.inr rfl))) (fun _ _ _ _ _ => tests_nil) (fun _ _ _ _ _ => (EF.ed (ef_rep (EF.er (ef_lst (ea_cons (ed_name 4 (pv 4)) ea_nil))) (ed_add hK (ed_name 1 (pv 1)) ed_int)))) (by decide))))
    (sds_cons (sd_for (mask := [7, 8, 9, 10, 11, 12]) hK (passes_of rfl) rfl (el_range1 T (by rfl) (ed_name 2 (pv 2))) (pg_name (i := 7) nd rfl (by first | exact Or.inl rfl | exact Or.inr rfl)) (sds_cons (sd_own (i := 8) nd rfl (by first | exact Or.inl rfl | exact Or.inr rfl) (ef_lst ea_nil))
    (sds_cons (sd_for (mask := [9, 10, 11, 12]) hK (passes_of rfl) rfl (el_tup hK (ed_ix hK (er_name 0 (pv 0)) ed_int)) (pg_name (i := 9) nd rfl (by first | exact Or.inl rfl | exact Or.inr rfl)) (sds_cons (sd_own (i := 10) nd rfl (by first | exact Or.inl rfl | exact Or.inr rfl) (ef_lst (ea_cons (ed_name 4 (pv 4)) ea_nil)))
    (sds_cons (sd_for (mask := [11, 12]) hK (passes_of rfl) rfl (el_range2 T (by rfl) ed_int (ed_add hK (ed_name 1 (pv 1)) ed_int)) (pg_name (i := 11) nd rfl (by first | exact Or.inl rfl | exact Or.inr rfl)) (sds_cons (sd_frz (i := 12) (sd_setLc (i := 12) (own := [("lot", 13), ("chance", 14)]) (tg := (.tp [13, 14])) hK rfl nd rfl rfl (sw_true rfl rfl rfl (by decide +kernel)) (EL.eh (el_tup hK (ed_name 9 (pv 9)))) (blkOk_by (own := [("lot", 13), ("chance", 14)]) (N := ["book", "size", "height", "weighed", "nought", "found", "name", "turn", "fresh", "litters", "row", "many", "told", "lot", "chance", "one"]) (sc := defScope s_low_table) (by decide +kernel)) (fun _ _ _ _ _ => (pg_tup (n := 2) rfl (pgs_cons (pg_name (i := 13) nd rfl (by first | exact Or.inl rfl | exact Or.inr rfl)) (pgs_cons (pg_name (i := 14) nd rfl (by first | exact Or.inl rfl | exact Or.inr rfl)) pgs_nil)))) (fun _ _ _ _ _ => tests_nil) (fun _ _ _ _ _ => (ed_tup (ea_cons (ed_name 14 (pv 14)) (ea_cons (ed_call u_rows_of hg rfl hr (by rfl) tk0 (ea_cons (ed_name 5 (pv 5)) (ea_cons (ed_call u_things hg rfl hr (by rfl) tk0 (ea_cons (ed_name 13 (pv 13)) ea_nil)) (ea_cons (ed_sub (ed_name 11 (pv 11)) ed_int) (ea_cons (ed_name 3 (pv 3)) ea_nil))))) ea_nil)))) (by decide)))
    (sds_one (sd_if (et_truth hK (er_name 3 (pv 3))) (sds_one (sd_app (i := 10) (pv 10) (ed_call u_total hg rfl hr (by rfl) (takes_of rfl rfl rfl rfl) (ea_cons (EF.ed (ef_lc (own := [("chance", 14), ("one", 15)]) (tg := (.tp [14, 15])) hK rfl nd (eh_list (er_name 12 (pv 12))) (blkOk_by (own := [("chance", 14), ("one", 15)]) (N := ["book", "size", "height", "weighed", "nought", "found", "name", "turn", "fresh", "litters", "row", "many", "told", "lot", "chance", "one"]) (sc := defScope s_low_table) (by decide +kernel)) (fun _ _ _ _ _ => (pg_tup (n := 2) rfl (pgs_cons (pg_name (i := 14) nd rfl (by first | exact Or.inl rfl | exact Or.inr rfl)) (pgs_cons (pg_name (i := 15) nd rfl (by first | exact Or.inl rfl | exact Or.inr rfl)) pgs_nil)))) (fun _ _ _ _ _ => tests_nil) (fun _ _ _ _ _ => (ed_call u_times hg rfl hr (by rfl) tk0 (ea_cons (ed_name 14 (pv 14)) (ea_cons (ed_name 15 (pv 15)) ea_nil)))) (by decide))) ea_nil)))) (sds_one (sd_app (i := 10) (pv 10) (ed_sum rfl T (by rfl) (EF.er (ef_lc (own := [("chance", 14), ("one", 15)]) (tg := (.tp [14, 15])) hK rfl nd (eh_list (er_name 12 (pv 12))) (blkOk_by (own := [("chance", 14), ("one", 15)]) (N := ["book", "size", "height", "weighed", "nought", "found", "name", "turn", "fresh", "litters", "row", "many", "told", "lot", "chance", "one"]) (sc := defScope s_low_table) (by decide +kernel)) (fun _ _ _ _ _ => (pg_tup (n := 2) rfl (pgs_cons (pg_name (i := 14) nd rfl (by first | exact Or.inl rfl | exact Or.inr rfl)) (pgs_cons (pg_name (i := 15) nd rfl (by first | exact Or.inl rfl | exact Or.inr rfl)) pgs_nil)))) (fun _ _ _ _ _ => tests_nil) (fun _ _ _ _ _ => (ed_name 15 (pv 15))) (by decide))))))))))
    (sds_one (sd_app (i := 8) (pv 8) (ed_name 10 (pv 10)))))))
    (sds_one (sd_set (i := 5) nd rfl (by first | exact Or.inl rfl | exact Or.inr rfl) (ed_name 8 (pv 8)))))))
    (sds_one (sd_ret (ed_name 5 (pv 5)))))))
abbrev s_check : Stmt := top 15
/-- check: slots 0 size 1 height -/
noncomputable def c_check : Cmd :=
  (cSeq (cIf (M.bind (mBool (mChain fLe fLe (mC (.int 1)) (mName 0) (mC (.int 16)))) fun k => M.pure (!k)) (cRaise .misstep "this may not be done: " (mC (.str "size"))) cNil)
  (cIf (M.bind (mBool (mChain fLe fLe (mC (.int 0)) (mName 1) (mName 0))) fun k => M.pure (!k)) (cRaise .misstep "this may not be done: " (mC (.str "height"))) cNil))
theorem sc_check : FnScope ["size", "height"] ["size", "height"] (defScope s_check) := ⟨rfl, rfl, rfl, by decide +kernel, rfl, by decide +kernel, by decide +kernel⟩
noncomputable def f_check : Fnc := runF 2 c_check
theorem fn_check {gc : Gc} (T : Bl mg) {MC MI Mcc Mcd : Addr} {Mq : Str} (Mx : FPX.MsTxt P gc.K mg "Misstep" "this may not be done: " "word" Mq MC MI Mcc Mcd) (Mg : gc.cls .misstep = MC) {t_MOST_SIZE : Tok} (g_MOST_SIZE : mg "MOST_SIZE" = some (.int 16 t_MOST_SIZE)) {fa : Addr} {fd : FuncData} (F : Fun gc.K "check" "check" s_check fa fd) (hm : mg "check" = some (.ref fa)) : Fn P w mg base gc 2 "check" 2 f_check := by
  refine fn_body (k := 1) rfl F sc_check hm (fun _ _ _ _ _ _ us hl => match us, hl with | [_, _], _ => rfl) (fun cdv A outer s H E g F0 hg hr => ?_)
  · have hK : gc.K = g.K := by rw [hg]
    have nd := sc_check.nd
    have hu4 := hr.units
    have hu5 := hu65 hr
    have hu := hu100 hr
    have hu1 := hu1_ hr
    have Mc : g.cls .misstep = MC := by
      rw [hg]
      exact Mg
    exact (sds_cons (sd_if (et_not (et_chain op_le op_le ans_le ans_le ed_int (ed_name 0 (pv 0)) (ed_glob (by rfl) g_MOST_SIZE (v := .int 16) ⟨_, rfl⟩ (hr := fun _ => .int 16)))) (sds_one (sd_raise .misstep rfl Mx Mc hr (takes_of rfl rfl rfl rfl) ed_str (by rfl))) sds_nil)
    (sds_one (sd_if (et_not (et_chain op_le op_le ans_le ans_le ed_int (ed_name 1 (pv 1)) (ed_name 0 (pv 0)))) (sds_one (sd_raise .misstep rfl Mx Mc hr (takes_of rfl rfl rfl rfl) ed_str (by rfl))) sds_nil)))
abbrev s_ended_low : Stmt := top 26
/-- ended_low: slots 0 book 1 kind 2 size 3 height -/
noncomputable def c_ended_low : Cmd :=
  (cSeq (cDrop (mCall 2 f_check (mCons (mName 2) (mCons (mName 3) mNil))))
  (cRet (mCall 1 f_total (mCons (mOp fIx (mCall 4 f_low_table (mCons (mName 0) (mCons (mName 2) (mCons (mName 3) (mCons (mC (.bl true)) mNil))))) (mName 1)) mNil))))
theorem sc_ended_low : FnScope ["book", "kind", "size", "height"] ["book", "kind", "size", "height"] (defScope s_ended_low) := ⟨rfl, rfl, rfl, by decide +kernel, rfl, by decide +kernel, by decide +kernel⟩
noncomputable def f_ended_low : Fnc := runF 4 c_ended_low
theorem fn_ended_low {gc : Gc} (T : Bl mg) (w_check : Fn P w mg base gc 2 "check" 2 f_check) (w_total : Fn P w mg base gc 4 "total" 1 f_total) (w_low_table : Fn P w mg base gc 17 "low_table" 4 f_low_table) {fa : Addr} {fd : FuncData} (F : Fun gc.K "ended_low" "ended_low" s_ended_low fa fd) (hm : mg "ended_low" = some (.ref fa)) : Fn P w mg base gc 18 "ended_low" 4 f_ended_low := by
  refine fn_body (k := 17) rfl F sc_ended_low hm (fun _ _ _ _ _ _ us hl => match us, hl with | [_, _, _, _], _ => rfl) (fun cdv A outer s H E g F0 hg hr => ?_)
  · have hK : gc.K = g.K := by rw [hg]
    have nd := sc_ended_low.nd
    have hu4 := hr.units
    have hu5 := hu65 hr
    have hu := hu100 hr
    have hu1 := hu1_ hr
    have u_check := w_check.mono (k := 17) (by omega)
    have u_total := w_total.mono (k := 17) (by omega)
    have u_low_table := w_low_table.mono (k := 17) (by omega)
    exact (sds_cons (sd_expr (ed_call u_check hg rfl hr (by rfl) (takes_of rfl rfl rfl rfl) (ea_cons (ed_name 2 (pv 2)) (ea_cons (ed_name 3 (pv 3)) ea_nil))))
    (sds_one (sd_ret (ed_call u_total hg rfl hr (by rfl) (takes_of rfl rfl rfl rfl) (ea_cons (ed_ix hK (ED.er (ed_call u_low_table hg rfl hr (by rfl) (takes_of rfl rfl rfl rfl) (ea_cons (ed_name 0 (pv 0)) (ea_cons (ed_name 2 (pv 2)) (ea_cons (ed_name 3 (pv 3)) (ea_cons ed_bl ea_nil)))))) (ed_name 1 (pv 1))) ea_nil)))))
abbrev s_many_low : Stmt := top 18
/-- many_low: slots 0 book 1 kind 2 size 3 height -/
noncomputable def c_many_low : Cmd :=
  (cSeq (cDrop (mCall 2 f_check (mCons (mName 2) (mCons (mName 3) mNil))))
  (cRet (mOp fIx (mOp fIx (mCall 4 f_low_table (mCons (mName 0) (mCons (mName 2) (mCons (mName 3) (mCons (mC (.bl false)) mNil))))) (mName 1)) (mName 2))))
theorem sc_many_low : FnScope ["book", "kind", "size", "height"] ["book", "kind", "size", "height"] (defScope s_many_low) := ⟨rfl, rfl, rfl, by decide +kernel, rfl, by decide +kernel, by decide +kernel⟩
noncomputable def f_many_low : Fnc := runF 4 c_many_low
theorem fn_many_low {gc : Gc} (T : Bl mg) (w_check : Fn P w mg base gc 2 "check" 2 f_check) (w_low_table : Fn P w mg base gc 17 "low_table" 4 f_low_table) {fa : Addr} {fd : FuncData} (F : Fun gc.K "many_low" "many_low" s_many_low fa fd) (hm : mg "many_low" = some (.ref fa)) : Fn P w mg base gc 18 "many_low" 4 f_many_low := by
  refine fn_body (k := 17) rfl F sc_many_low hm (fun _ _ _ _ _ _ us hl => match us, hl with | [_, _, _, _], _ => rfl) (fun cdv A outer s H E g F0 hg hr => ?_)
  · have hK : gc.K = g.K := by rw [hg]
    have nd := sc_many_low.nd
    have hu4 := hr.units
    have hu5 := hu65 hr
    have hu := hu100 hr
    have hu1 := hu1_ hr
    have u_check := w_check.mono (k := 17) (by omega)
    have u_low_table := w_low_table.mono (k := 17) (by omega)
    exact (sds_cons (sd_expr (ed_call u_check hg rfl hr (by rfl) (takes_of rfl rfl rfl rfl) (ea_cons (ed_name 2 (pv 2)) (ea_cons (ed_name 3 (pv 3)) ea_nil))))
    (sds_one (sd_ret (ed_ix hK (ED.er (ed_ix hK (ED.er (ed_call u_low_table hg rfl hr (by rfl) (takes_of rfl rfl rfl rfl) (ea_cons (ed_name 0 (pv 0)) (ea_cons (ed_name 2 (pv 2)) (ea_cons (ed_name 3 (pv 3)) (ea_cons ed_bl ea_nil)))))) (ed_name 1 (pv 1)))) (ed_name 2 (pv 2))))))
abbrev s_by_height : Stmt := top 20
/-- by_height: slots 0 book 1 kind 2 size 3 told 4 height 5 k -/
noncomputable def c_by_height : Cmd :=
  (cSeq (cDrop (mCall 2 f_check (mCons (mName 2) (mCons (mC (.int 0)) mNil))))
  (cSeq (cSet 3 (mLc [4] (.nm 4) (mIt rng1 (mOp fAdd (mName 2) (mC (.int 1)))) (M.pure true) (mCall 4 f_many_low (mCons (mName 0) (mCons (mName 1) (mCons (mName 2) (mCons (mName 4) mNil)))))))
  (cRet (mLc [5] (.nm 5) (mIt rng1 (mName 2)) (M.pure true) (mOp fSub (mOp fIx (mRead 3) (mOp fAdd (mName 5) (mC (.int 1)))) (mOp fIx (mRead 3) (mName 5)))))))
theorem sc_by_height : FnScope ["book", "kind", "size", "told", "height", "k"] ["book", "kind", "size"] (defScope s_by_height) := ⟨rfl, rfl, rfl, by decide +kernel, rfl, by decide +kernel, by decide +kernel⟩
noncomputable def f_by_height : Fnc := runF 6 c_by_height
theorem fn_by_height {gc : Gc} (T : Bl mg) (w_check : Fn P w mg base gc 2 "check" 2 f_check) (w_many_low : Fn P w mg base gc 18 "many_low" 4 f_many_low) {fa : Addr} {fd : FuncData} (F : Fun gc.K "by_height" "by_height" s_by_height fa fd) (hm : mg "by_height" = some (.ref fa)) : Fn P w mg base gc 19 "by_height" 3 f_by_height := by
  refine fn_body (k := 18) rfl F sc_by_height hm (fun _ _ _ _ _ _ us hl => match us, hl with | [_, _, _], _ => rfl) (fun cdv A outer s H E g F0 hg hr => ?_)
  · have hK : gc.K = g.K := by rw [hg]
    have nd := sc_by_height.nd
    have hu4 := hr.units
    have hu5 := hu65 hr
    have hu := hu100 hr
    have hu1 := hu1_ hr
    have u_check := w_check.mono (k := 18) (by omega)
    have u_many_low := w_many_low.mono (k := 18) (by omega)
    exact (sds_cons (sd_expr (ed_call u_check hg rfl hr (by rfl) (takes_of rfl rfl rfl rfl) (ea_cons (ed_name 2 (pv 2)) (ea_cons ed_int ea_nil))))
    (sds_cons (sd_set (i := 3) nd rfl (by first | exact Or.inl rfl | exact Or.inr rfl) (EF.ed (ef_lc (own := [("height", 4)]) (tg := (.nm 4)) hK rfl nd (EL.eh (el_range1 T (by rfl) (ed_add hK (ed_name 2 (pv 2)) ed_int))) (blkOk_by (own := [("height", 4)]) (N := ["book", "kind", "size", "told", "height", "k"]) (sc := defScope s_by_height) (by decide +kernel)) (fun _ _ _ _ _ => (pg_name (i := 4) nd rfl (by first | exact Or.inl rfl | exact Or.inr rfl))) (fun _ _ _ _ _ => tests_nil) (fun _ _ _ _ _ => (ed_call u_many_low hg rfl hr (by rfl) tk0 (ea_cons (ed_name 0 (pv 0)) (ea_cons (ed_name 1 (pv 1)) (ea_cons (ed_name 2 (pv 2)) (ea_cons (ed_name 4 (pv 4)) ea_nil)))))) (by decide))))
    (sds_one (sd_ret (EF.ed (ef_lc (own := [("k", 5)]) (tg := (.nm 5)) hK rfl nd (EL.eh (el_range1 T (by rfl) (ed_name 2 (pv 2)))) (blkOk_by (own := [("k", 5)]) (N := ["book", "kind", "size", "told", "height", "k"]) (sc := defScope s_by_height) (by decide +kernel)) (fun _ _ _ _ _ => (pg_name (i := 5) nd rfl (by first | exact Or.inl rfl | exact Or.inr rfl))) (fun _ _ _ _ _ => tests_nil) (fun _ _ _ _ _ => (ed_sub (ed_ix hK (er_name 3 (pv 3)) (ed_add hK (ed_name 5 (pv 5)) ed_int)) (ed_ix hK (er_name 3 (pv 3)) (ed_name 5 (pv 5))))) (by decide)))))))
abbrev s_greatest_height : Stmt := top 24
/-- greatest_height: slots 0 book 1 kind 2 size 3 told 4 found 5 k -/
noncomputable def c_greatest_height : Cmd :=
  (cSeq (cSet 3 (mCall 3 f_by_height (mCons (mName 0) (mCons (mName 1) (mCons (mName 2) mNil)))))
  (cSeq (cFrz 4 (cOwn 4 (mLc [5] (.nm 5) (mIt rng1 (mName 2)) (mBool (mOp fGt (mOp fIx (mRead 3) (mName 5)) (mC (.int 0)))) (mOp fAdd (mName 5) (mC (.int 1))))))
  (cRet (mIf (mBool (mOp fNe (mName 4) (mLst mNil))) (mOp fIx (mRead 4) (mUn fNeg (mC (.int 1)))) (mC (.int 0))))))
theorem sc_greatest_height : FnScope ["book", "kind", "size", "told", "found", "k"] ["book", "kind", "size"] (defScope s_greatest_height) := ⟨rfl, rfl, rfl, by decide +kernel, rfl, by decide +kernel, by decide +kernel⟩
noncomputable def f_greatest_height : Fnc := runF 6 c_greatest_height
theorem fn_greatest_height {gc : Gc} (T : Bl mg) (w_by_height : Fn P w mg base gc 19 "by_height" 3 f_by_height) {fa : Addr} {fd : FuncData} (F : Fun gc.K "greatest_height" "greatest_height" s_greatest_height fa fd) (hm : mg "greatest_height" = some (.ref fa)) : Fn P w mg base gc 20 "greatest_height" 3 f_greatest_height := by
  refine fn_body (k := 19) rfl F sc_greatest_height hm (fun _ _ _ _ _ _ us hl => match us, hl with | [_, _, _], _ => rfl) (fun cdv A outer s H E g F0 hg hr => ?_)
  · have hK : gc.K = g.K := by rw [hg]
    have nd := sc_greatest_height.nd
    have hu4 := hr.units
    have hu5 := hu65 hr
    have hu := hu100 hr
    have hu1 := hu1_ hr
    have u_by_height := w_by_height.mono (k := 19) (by omega)
    exact (sds_cons (sd_set (i := 3) nd rfl (by first | exact Or.inl rfl | exact Or.inr rfl) (ed_call u_by_height hg rfl hr (by rfl) (takes_of rfl rfl rfl rfl) (ea_cons (ed_name 0 (pv 0)) (ea_cons (ed_name 1 (pv 1)) (ea_cons (ed_name 2 (pv 2)) ea_nil)))))
    (sds_cons (sd_frz (i := 4) (sd_setLc (i := 4) (own := [("k", 5)]) (tg := (.nm 5)) hK rfl nd rfl rfl (sw_true rfl rfl rfl (by decide +kernel)) (EL.eh (el_range1 T (by rfl) (ed_name 2 (pv 2)))) (blkOk_by (own := [("k", 5)]) (N := ["book", "kind", "size", "told", "found", "k"]) (sc := defScope s_greatest_height) (by decide +kernel)) (fun _ _ _ _ _ => (pg_name (i := 5) nd rfl (by first | exact Or.inl rfl | exact Or.inr rfl))) (fun _ _ _ _ _ => (tests_one (et_cmp op_gt ans_gt (ed_ix hK (er_name 3 (pv 3)) (ed_name 5 (pv 5))) ed_int (nomark _)))) (fun _ _ _ _ _ => (ed_add hK (ed_name 5 (pv 5)) ed_int)) (by decide)))
    (sds_one (sd_ret (ed_if (et_cmp (op_neD hu4) (ans_ne hK) (ed_name 4 (pv 4)) (EF.ed (ef_lst ea_nil)) (nomark _)) (ed_ix hK (er_name 4 (pv 4)) (ed_neg ed_int)) ed_int)))))
abbrev s_least_height : Stmt := top 25
/-- least_height: slots 0 book 1 kind 2 size 3 told 4 found 5 k -/
noncomputable def c_least_height : Cmd :=
  (cSeq (cSet 3 (mCall 3 f_by_height (mCons (mName 0) (mCons (mName 1) (mCons (mName 2) mNil)))))
  (cSeq (cFrz 4 (cOwn 4 (mLc [5] (.nm 5) (mIt rng1 (mName 2)) (mBool (mOp fGt (mOp fIx (mRead 3) (mName 5)) (mC (.int 0)))) (mOp fAdd (mName 5) (mC (.int 1))))))
  (cRet (mIf (mBool (mOp fNe (mName 4) (mLst mNil))) (mOp fIx (mRead 4) (mC (.int 0))) (mC (.int 0))))))
theorem sc_least_height : FnScope ["book", "kind", "size", "told", "found", "k"] ["book", "kind", "size"] (defScope s_least_height) := ⟨rfl, rfl, rfl, by decide +kernel, rfl, by decide +kernel, by decide +kernel⟩
noncomputable def f_least_height : Fnc := runF 6 c_least_height
theorem fn_least_height {gc : Gc} (T : Bl mg) (w_by_height : Fn P w mg base gc 19 "by_height" 3 f_by_height) {fa : Addr} {fd : FuncData} (F : Fun gc.K "least_height" "least_height" s_least_height fa fd) (hm : mg "least_height" = some (.ref fa)) : Fn P w mg base gc 20 "least_height" 3 f_least_height := by
  refine fn_body (k := 19) rfl F sc_least_height hm (fun _ _ _ _ _ _ us hl => match us, hl with | [_, _, _], _ => rfl) (fun cdv A outer s H E g F0 hg hr => ?_)
  · have hK : gc.K = g.K := by rw [hg]
    have nd := sc_least_height.nd
    have hu4 := hr.units
    have hu5 := hu65 hr
    have hu := hu100 hr
    have hu1 := hu1_ hr
    have u_by_height := w_by_height.mono (k := 19) (by omega)
    exact (sds_cons (sd_set (i := 3) nd rfl (by first | exact Or.inl rfl | exact Or.inr rfl) (ed_call u_by_height hg rfl hr (by rfl) (takes_of rfl rfl rfl rfl) (ea_cons (ed_name 0 (pv 0)) (ea_cons (ed_name 1 (pv 1)) (ea_cons (ed_name 2 (pv 2)) ea_nil)))))
    (sds_cons (sd_frz (i := 4) (sd_setLc (i := 4) (own := [("k", 5)]) (tg := (.nm 5)) hK rfl nd rfl rfl (sw_true rfl rfl rfl (by decide +kernel)) (EL.eh (el_range1 T (by rfl) (ed_name 2 (pv 2)))) (blkOk_by (own := [("k", 5)]) (N := ["book", "kind", "size", "told", "found", "k"]) (sc := defScope s_least_height) (by decide +kernel)) (fun _ _ _ _ _ => (pg_name (i := 5) nd rfl (by first | exact Or.inl rfl | exact Or.inr rfl))) (fun _ _ _ _ _ => (tests_one (et_cmp op_gt ans_gt (ed_ix hK (er_name 3 (pv 3)) (ed_name 5 (pv 5))) ed_int (nomark _)))) (fun _ _ _ _ _ => (ed_add hK (ed_name 5 (pv 5)) ed_int)) (by decide)))
    (sds_one (sd_ret (ed_if (et_cmp (op_neD hu4) (ans_ne hK) (ed_name 4 (pv 4)) (EF.ed (ef_lst ea_nil)) (nomark _)) (ed_ix hK (er_name 4 (pv 4)) ed_int) ed_int)))))
abbrev s_chance_low : Stmt := top 19
/-- chance_low: slots 0 book 1 kind 2 size 3 height -/
noncomputable def c_chance_low : Cmd :=
  (cSeq (cDrop (mCall 2 f_check (mCons (mName 2) (mCons (mName 3) mNil))))
  (cRet (mOp fIx (mOp fIx (mCall 4 f_low_table (mCons (mName 0) (mCons (mName 2) (mCons (mName 3) (mCons (mC (.bl true)) mNil))))) (mName 1)) (mName 2))))
theorem sc_chance_low : FnScope ["book", "kind", "size", "height"] ["book", "kind", "size", "height"] (defScope s_chance_low) := ⟨rfl, rfl, rfl, by decide +kernel, rfl, by decide +kernel, by decide +kernel⟩
noncomputable def f_chance_low : Fnc := runF 4 c_chance_low
theorem fn_chance_low {gc : Gc} (T : Bl mg) (w_check : Fn P w mg base gc 2 "check" 2 f_check) (w_low_table : Fn P w mg base gc 17 "low_table" 4 f_low_table) {fa : Addr} {fd : FuncData} (F : Fun gc.K "chance_low" "chance_low" s_chance_low fa fd) (hm : mg "chance_low" = some (.ref fa)) : Fn P w mg base gc 18 "chance_low" 4 f_chance_low := by
  refine fn_body (k := 17) rfl F sc_chance_low hm (fun _ _ _ _ _ _ us hl => match us, hl with | [_, _, _, _], _ => rfl) (fun cdv A outer s H E g F0 hg hr => ?_)
  · have hK : gc.K = g.K := by rw [hg]
    have nd := sc_chance_low.nd
    have hu4 := hr.units
    have hu5 := hu65 hr
    have hu := hu100 hr
    have hu1 := hu1_ hr
    have u_check := w_check.mono (k := 17) (by omega)
    have u_low_table := w_low_table.mono (k := 17) (by omega)
    exact (sds_cons (sd_expr (ed_call u_check hg rfl hr (by rfl) (takes_of rfl rfl rfl rfl) (ea_cons (ed_name 2 (pv 2)) (ea_cons (ed_name 3 (pv 3)) ea_nil))))
    (sds_one (sd_ret (ed_ix hK (ED.er (ed_ix hK (ED.er (ed_call u_low_table hg rfl hr (by rfl) (takes_of rfl rfl rfl rfl) (ea_cons (ed_name 0 (pv 0)) (ea_cons (ed_name 2 (pv 2)) (ea_cons (ed_name 3 (pv 3)) (ea_cons ed_bl ea_nil)))))) (ed_name 1 (pv 1)))) (ed_name 2 (pv 2))))))
abbrev s__law_word : Stmt := top 51
/-- _law_word: slots 0 call 1 book 2 error -/
noncomputable def c__law_word : Cmd :=
  (cTry 2 .misstep (cSeq (cIf (mBool (mOp fEq (mName 0) (mC (.int 0)))) (cDrop (mCall 2 f_check (mCons (mOp fAdd (mC (.int 16)) (mC (.int 1))) (mCons (mC (.int 0)) mNil)))) (cIf (mBool (mOp fEq (mName 0) (mC (.int 1)))) (cDrop (mCall 4 f_many_low (mCons (mName 1) (mCons (mC (.int 0)) (mCons (mC (.int 0)) (mCons (mC (.int 0)) mNil)))))) (cIf (mBool (mOp fEq (mName 0) (mC (.int 2)))) (cDrop (mCall 4 f_chance_low (mCons (mName 1) (mCons (mC (.int 0)) (mCons (mC (.int 2)) (mCons (mC (.int 3)) mNil)))))) (cDrop (mCall 4 f_ended_low (mCons (mName 1) (mCons (mC (.int 0)) (mCons (mC (.int 2)) (mCons (mUn fNeg (mC (.int 1))) mNil)))))))))
  (cRet (mC (.str "")))))
theorem sc__law_word : FnScope ["call", "book", "error"] ["call", "book"] (defScope s__law_word) := ⟨rfl, rfl, rfl, by decide +kernel, rfl, by decide +kernel, by decide +kernel⟩
noncomputable def f__law_word : Fnc := runF 3 c__law_word
theorem fn__law_word {gc : Gc} (T : Bl mg) {MC MI Mcc Mcd : Addr} {Mq : Str} (Mx : FPX.MsTxt P gc.K mg "Misstep" "this may not be done: " "word" Mq MC MI Mcc Mcd) (Mg : gc.cls .misstep = MC) {t_MOST_SIZE : Tok} (g_MOST_SIZE : mg "MOST_SIZE" = some (.int 16 t_MOST_SIZE)) (w_check : Fn P w mg base gc 2 "check" 2 f_check) (w_many_low : Fn P w mg base gc 18 "many_low" 4 f_many_low) (w_chance_low : Fn P w mg base gc 18 "chance_low" 4 f_chance_low) (w_ended_low : Fn P w mg base gc 18 "ended_low" 4 f_ended_low) {fa : Addr} {fd : FuncData} (F : Fun gc.K "_law_word" "_law_word" s__law_word fa fd) (hm : mg "_law_word" = some (.ref fa)) : Fn P w mg base gc 19 "_law_word" 2 f__law_word := by
  refine fn_body (k := 18) rfl F sc__law_word hm (fun _ _ _ _ _ _ us hl => match us, hl with | [_, _], _ => rfl) (fun cdv A outer s H E g F0 hg hr => ?_)
  · have hK : gc.K = g.K := by rw [hg]
    have nd := sc__law_word.nd
    have hu4 := hr.units
    have hu5 := hu65 hr
    have hu := hu100 hr
    have hu1 := hu1_ hr
    have Mc : g.cls .misstep = MC := by
      rw [hg]
      exact Mg
    have u_check := w_check.mono (k := 18) (by omega)
    have u_many_low := w_many_low.mono (k := 18) (by omega)
    have u_chance_low := w_chance_low.mono (k := 18) (by omega)
    have u_ended_low := w_ended_low.mono (k := 18) (by omega)
    exact (sds_one (sd_try (x := "x") (i := 2) .misstep rfl rfl nd rfl rfl Mx Mc (by rfl) (by decide) (takes_of rfl rfl rfl rfl) (fun W pn xe tk hp => (sds_cons (sd_if (et_cmp (op_eqD hu4) (ans_eq hK) (ed_name 0 (pv 0)) ed_int (nomark _)) (sds_one (sd_expr (ed_call u_check hg rfl hr (by rfl) tk (ea_cons (ed_add hK (ed_glob (by rfl) g_MOST_SIZE (v := .int 16) ⟨_, rfl⟩ (hr := fun _ => .int 16)) ed_int) (ea_cons ed_int ea_nil))))) (sds_one (sd_if (et_cmp (op_eqD hu4) (ans_eq hK) (ed_name 0 (pv 0)) ed_int (nomark _)) (sds_one (sd_expr (ed_call u_many_low hg rfl hr (by rfl) tk (ea_cons (ed_name 1 (pv 1)) (ea_cons ed_int (ea_cons ed_int (ea_cons ed_int ea_nil))))))) (sds_one (sd_if (et_cmp (op_eqD hu4) (ans_eq hK) (ed_name 0 (pv 0)) ed_int (nomark _)) (sds_one (sd_expr (ed_call u_chance_low hg rfl hr (by rfl) tk (ea_cons (ed_name 1 (pv 1)) (ea_cons ed_int (ea_cons ed_int (ea_cons ed_int ea_nil))))))) (sds_one (sd_expr (ed_call u_ended_low hg rfl hr (by rfl) tk (ea_cons (ed_name 1 (pv 1)) (ea_cons ed_int (ea_cons ed_int (ea_cons (ed_neg ed_int) ea_nil))))))))))))
    (sds_one (sd_ret ed_str)))) (fun _ _ => pv 2) (by rfl)))
abbrev s_chances_by_height : Stmt := top 21
/-- chances_by_height: slots 0 book 1 kind 2 size 3 told 4 height 5 k -/
noncomputable def c_chances_by_height : Cmd :=
  (cSeq (cDrop (mCall 2 f_check (mCons (mName 2) (mCons (mC (.int 0)) mNil))))
  (cSeq (cSet 3 (mLc [4] (.nm 4) (mIt rng1 (mOp fAdd (mName 2) (mC (.int 1)))) (M.pure true) (mCall 4 f_chance_low (mCons (mName 0) (mCons (mName 1) (mCons (mName 2) (mCons (mName 4) mNil)))))))
  (cRet (mLc [5] (.nm 5) (mIt rng1 (mName 2)) (M.pure true) (mCall 2 f_plus (mCons (mOp fIx (mRead 3) (mOp fAdd (mName 5) (mC (.int 1)))) (mCons (mTup (mCons (mOp fSub (mC (.int 0)) (mOp fIx (mOp fIx (mRead 3) (mName 5)) (mC (.int 0)))) (mCons (mOp fIx (mOp fIx (mRead 3) (mName 5)) (mC (.int 1))) mNil))) mNil)))))))
theorem sc_chances_by_height : FnScope ["book", "kind", "size", "told", "height", "k"] ["book", "kind", "size"] (defScope s_chances_by_height) := ⟨rfl, rfl, rfl, by decide +kernel, rfl, by decide +kernel, by decide +kernel⟩
noncomputable def f_chances_by_height : Fnc := runF 6 c_chances_by_height
theorem fn_chances_by_height {gc : Gc} (T : Bl mg) (w_check : Fn P w mg base gc 2 "check" 2 f_check) (w_chance_low : Fn P w mg base gc 18 "chance_low" 4 f_chance_low) (w_plus : Fn P w mg base gc 3 "plus" 2 f_plus) {fa : Addr} {fd : FuncData} (F : Fun gc.K "chances_by_height" "chances_by_height" s_chances_by_height fa fd) (hm : mg "chances_by_height" = some (.ref fa)) : Fn P w mg base gc 19 "chances_by_height" 3 f_chances_by_height := by
  refine fn_body (k := 18) rfl F sc_chances_by_height hm (fun _ _ _ _ _ _ us hl => match us, hl with | [_, _, _], _ => rfl) (fun cdv A outer s H E g F0 hg hr => ?_)
  · have hK : gc.K = g.K := by rw [hg]
    have nd := sc_chances_by_height.nd
    have hu4 := hr.units
    have hu5 := hu65 hr
    have hu := hu100 hr
    have hu1 := hu1_ hr
    have u_check := w_check.mono (k := 18) (by omega)
    have u_chance_low := w_chance_low.mono (k := 18) (by omega)
    have u_plus := w_plus.mono (k := 18) (by omega)
    exact (sds_cons (sd_expr (ed_call u_check hg rfl hr (by rfl) (takes_of rfl rfl rfl rfl) (ea_cons (ed_name 2 (pv 2)) (ea_cons ed_int ea_nil))))
    (sds_cons (sd_set (i := 3) nd rfl (by first | exact Or.inl rfl | exact Or.inr rfl) (EF.ed (ef_lc (own := [("height", 4)]) (tg := (.nm 4)) hK rfl nd (EL.eh (el_range1 T (by rfl) (ed_add hK (ed_name 2 (pv 2)) ed_int))) (blkOk_by (own := [("height", 4)]) (N := ["book", "kind", "size", "told", "height", "k"]) (sc := defScope s_chances_by_height) (by decide +kernel)) (fun _ _ _ _ _ => (pg_name (i := 4) nd rfl (by first | exact Or.inl rfl | exact Or.inr rfl))) (fun _ _ _ _ _ => tests_nil) (fun _ _ _ _ _ => (ed_call u_chance_low hg rfl hr (by rfl) tk0 (ea_cons (ed_name 0 (pv 0)) (ea_cons (ed_name 1 (pv 1)) (ea_cons (ed_name 2 (pv 2)) (ea_cons (ed_name 4 (pv 4)) ea_nil)))))) (by decide))))
    (sds_one (sd_ret (EF.ed (ef_lc (own := [("k", 5)]) (tg := (.nm 5)) hK rfl nd (EL.eh (el_range1 T (by rfl) (ed_name 2 (pv 2)))) (blkOk_by (own := [("k", 5)]) (N := ["book", "kind", "size", "told", "height", "k"]) (sc := defScope s_chances_by_height) (by decide +kernel)) (fun _ _ _ _ _ => (pg_name (i := 5) nd rfl (by first | exact Or.inl rfl | exact Or.inr rfl))) (fun _ _ _ _ _ => tests_nil) (fun _ _ _ _ _ => (ed_call u_plus hg rfl hr (by rfl) tk0 (ea_cons (ed_ix hK (er_name 3 (pv 3)) (ed_add hK (ed_name 5 (pv 5)) ed_int)) (ea_cons (ed_tup (ea_cons (ed_sub ed_int (ed_ix hK (ED.er (ed_ix hK (er_name 3 (pv 3)) (ed_name 5 (pv 5)))) ed_int)) (ea_cons (ed_ix hK (ED.er (ed_ix hK (er_name 3 (pv 3)) (ed_name 5 (pv 5)))) ed_int) ea_nil))) ea_nil)))) (by decide)))))))
abbrev s_over : Stmt := top 8
/-- over: slots 0 one 1 other -/
noncomputable def c_over : Cmd :=
  (cRet (mCall 2 f_part (mCons (mOp fMul (mOp fIx (mRead 0) (mC (.int 0))) (mOp fIx (mRead 1) (mC (.int 1)))) (mCons (mOp fMul (mOp fIx (mRead 0) (mC (.int 1))) (mOp fIx (mRead 1) (mC (.int 0)))) mNil))))
theorem sc_over : FnScope ["one", "other"] ["one", "other"] (defScope s_over) := ⟨rfl, rfl, rfl, by decide +kernel, rfl, by decide +kernel, by decide +kernel⟩
noncomputable def f_over : Fnc := runF 2 c_over
theorem fn_over {gc : Gc} (T : Bl mg) (w_part : Fn P w mg base gc 2 "part" 2 f_part) {fa : Addr} {fd : FuncData} (F : Fun gc.K "over" "over" s_over fa fd) (hm : mg "over" = some (.ref fa)) : Fn P w mg base gc 3 "over" 2 f_over := by
  refine fn_body (k := 2) rfl F sc_over hm (fun _ _ _ _ _ _ us hl => match us, hl with | [_, _], _ => rfl) (fun cdv A outer s H E g F0 hg hr => ?_)
  · have hK : gc.K = g.K := by rw [hg]
    have nd := sc_over.nd
    have hu4 := hr.units
    have hu5 := hu65 hr
    have hu := hu100 hr
    have hu1 := hu1_ hr
    have u_part := w_part.mono (k := 2) (by omega)
    exact (sds_one (sd_ret (ed_call u_part hg rfl hr (by rfl) (takes_of rfl rfl rfl rfl) (ea_cons (ed_mul (ed_ix hK (er_name 0 (pv 0)) ed_int) (ed_ix hK (er_name 1 (pv 1)) ed_int)) (ea_cons (ed_mul (ed_ix hK (er_name 0 (pv 0)) ed_int) (ed_ix hK (er_name 1 (pv 1)) ed_int)) ea_nil)))))
abbrev s_mean_height : Stmt := top 22
/-- mean_height: slots 0 book 1 kind 2 size 3 told 4 whole 5 k -/
noncomputable def c_mean_height : Cmd :=
  (cSeq (cSet 3 (mCall 3 f_chances_by_height (mCons (mName 0) (mCons (mName 1) (mCons (mName 2) mNil)))))
  (cSeq (cSet 4 (mCall 1 f_total (mCons (mName 3) mNil)))
  (cSeq (cIf (mBool (mOp fEq (mOp fIx (mRead 4) (mC (.int 0))) (mC (.int 0)))) (cRet (mC .non)) cNil)
  (cRet (mCall 2 f_over (mCons (mCall 1 f_total (mCons (mLc [5] (.nm 5) (mIt rng1 (mName 2)) (M.pure true) (mCall 2 f_times (mCons (mTup (mCons (mOp fAdd (mName 5) (mC (.int 1))) (mCons (mC (.int 1)) mNil))) (mCons (mOp fIx (mRead 3) (mName 5)) mNil)))) mNil)) (mCons (mName 4) mNil)))))))
theorem sc_mean_height : FnScope ["book", "kind", "size", "told", "whole", "k"] ["book", "kind", "size"] (defScope s_mean_height) := ⟨rfl, rfl, rfl, by decide +kernel, rfl, by decide +kernel, by decide +kernel⟩
noncomputable def f_mean_height : Fnc := runF 6 c_mean_height
theorem fn_mean_height {gc : Gc} (T : Bl mg) (w_chances_by_height : Fn P w mg base gc 19 "chances_by_height" 3 f_chances_by_height) (w_total : Fn P w mg base gc 4 "total" 1 f_total) (w_over : Fn P w mg base gc 3 "over" 2 f_over) (w_times : Fn P w mg base gc 3 "times" 2 f_times) {fa : Addr} {fd : FuncData} (F : Fun gc.K "mean_height" "mean_height" s_mean_height fa fd) (hm : mg "mean_height" = some (.ref fa)) : Fn P w mg base gc 20 "mean_height" 3 f_mean_height := by
  refine fn_body (k := 19) rfl F sc_mean_height hm (fun _ _ _ _ _ _ us hl => match us, hl with | [_, _, _], _ => rfl) (fun cdv A outer s H E g F0 hg hr => ?_)
  · have hK : gc.K = g.K := by rw [hg]
    have nd := sc_mean_height.nd
    have hu4 := hr.units
    have hu5 := hu65 hr
    have hu := hu100 hr
    have hu1 := hu1_ hr
    have u_chances_by_height := w_chances_by_height.mono (k := 19) (by omega)
    have u_total := w_total.mono (k := 19) (by omega)
    have u_over := w_over.mono (k := 19) (by omega)
    have u_times := w_times.mono (k := 19) (by omega)
    exact (sds_cons (sd_set (i := 3) nd rfl (by first | exact Or.inl rfl | exact Or.inr rfl) (ed_call u_chances_by_height hg rfl hr (by rfl) (takes_of rfl rfl rfl rfl) (ea_cons (ed_name 0 (pv 0)) (ea_cons (ed_name 1 (pv 1)) (ea_cons (ed_name 2 (pv 2)) ea_nil)))))
    (sds_cons (sd_set (i := 4) nd rfl (by first | exact Or.inl rfl | exact Or.inr rfl) (ed_call u_total hg rfl hr (by rfl) (takes_of rfl rfl rfl rfl) (ea_cons (ed_name 3 (pv 3)) ea_nil)))
    (sds_cons (sd_if (et_cmp (op_eqD hu4) (ans_eq hK) (ed_ix hK (er_name 4 (pv 4)) ed_int) ed_int (nomark _)) (sds_one (sd_ret ed_non)) sds_nil)
    (sds_one (sd_ret (ed_call u_over hg rfl hr (by rfl) (takes_of rfl rfl rfl rfl) (ea_cons (ed_call u_total hg rfl hr (by rfl) (takes_of rfl rfl rfl rfl) (ea_cons (EF.ed (ef_lc (own := [("k", 5)]) (tg := (.nm 5)) hK rfl nd (EL.eh (el_range1 T (by rfl) (ed_name 2 (pv 2)))) (blkOk_by (own := [("k", 5)]) (N := ["book", "kind", "size", "told", "whole", "k"]) (sc := defScope s_mean_height) (by decide +kernel)) (fun _ _ _ _ _ => (pg_name (i := 5) nd rfl (by first | exact Or.inl rfl | exact Or.inr rfl))) (fun _ _ _ _ _ => tests_nil) (fun _ _ _ _ _ => (ed_call u_times hg rfl hr (by rfl) tk0 (ea_cons (ed_tup (ea_cons (ed_add hK (ed_name 5 (pv 5)) ed_int) (ea_cons ed_int ea_nil))) (ea_cons (ed_ix hK (er_name 3 (pv 3)) (ed_name 5 (pv 5))) ea_nil)))) (by decide))) ea_nil)) (ea_cons (ed_name 4 (pv 4)) ea_nil))))))))
abbrev s_likely_height : Stmt := top 23
/-- likely_height: slots 0 book 1 kind 2 size 3 told 4 best 5 k -/
noncomputable def c_likely_height : Cmd :=
  (cSeq (cSet 3 (mCall 3 f_chances_by_height (mCons (mName 0) (mCons (mName 1) (mCons (mName 2) mNil)))))
  (cSeq (cIf (mBool (mOp fEq (mOp fIx (mCall 1 f_total (mCons (mName 3) mNil)) (mC (.int 0))) (mC (.int 0)))) (cRet (mC .non)) cNil)
  (cSeq (cSet 4 (mC (.int 0)))
  (cSeq (cFor (.nm 5) [5] (mIt rng1 (mName 2)) (cSet 4 (mIf (mBool (mOp fLt (mOp fMul (mOp fIx (mOp fIx (mRead 3) (mName 4)) (mC (.int 0))) (mOp fIx (mOp fIx (mRead 3) (mName 5)) (mC (.int 1)))) (mOp fMul (mOp fIx (mOp fIx (mRead 3) (mName 5)) (mC (.int 0))) (mOp fIx (mOp fIx (mRead 3) (mName 4)) (mC (.int 1)))))) (mName 5) (mName 4))))
  (cRet (mOp fAdd (mName 4) (mC (.int 1))))))))
theorem sc_likely_height : FnScope ["book", "kind", "size", "told", "best", "k"] ["book", "kind", "size"] (defScope s_likely_height) := ⟨rfl, rfl, rfl, by decide +kernel, rfl, by decide +kernel, by decide +kernel⟩
noncomputable def f_likely_height : Fnc := runF 6 c_likely_height
theorem fn_likely_height {gc : Gc} (T : Bl mg) (w_chances_by_height : Fn P w mg base gc 19 "chances_by_height" 3 f_chances_by_height) (w_total : Fn P w mg base gc 4 "total" 1 f_total) {fa : Addr} {fd : FuncData} (F : Fun gc.K "likely_height" "likely_height" s_likely_height fa fd) (hm : mg "likely_height" = some (.ref fa)) : Fn P w mg base gc 20 "likely_height" 3 f_likely_height := by
  refine fn_body (k := 19) rfl F sc_likely_height hm (fun _ _ _ _ _ _ us hl => match us, hl with | [_, _, _], _ => rfl) (fun cdv A outer s H E g F0 hg hr => ?_)
  · have hK : gc.K = g.K := by rw [hg]
    have nd := sc_likely_height.nd
    have hu4 := hr.units
    have hu5 := hu65 hr
    have hu := hu100 hr
    have hu1 := hu1_ hr
    have u_chances_by_height := w_chances_by_height.mono (k := 19) (by omega)
    have u_total := w_total.mono (k := 19) (by omega)
    exact (sds_cons (sd_set (i := 3) nd rfl (by first | exact Or.inl rfl | exact Or.inr rfl) (ed_call u_chances_by_height hg rfl hr (by rfl) (takes_of rfl rfl rfl rfl) (ea_cons (ed_name 0 (pv 0)) (ea_cons (ed_name 1 (pv 1)) (ea_cons (ed_name 2 (pv 2)) ea_nil)))))
    (sds_cons (sd_if (et_cmp (op_eqD hu4) (ans_eq hK) (ed_ix hK (ED.er (ed_call u_total hg rfl hr (by rfl) (takes_of rfl rfl rfl rfl) (ea_cons (ed_name 3 (pv 3)) ea_nil))) ed_int) ed_int (nomark _)) (sds_one (sd_ret ed_non)) sds_nil)
    (sds_cons (sd_set (i := 4) nd rfl (by first | exact Or.inl rfl | exact Or.inr rfl) ed_int)
    (sds_cons (sd_for (mask := [5]) hK (passes_of rfl) rfl (el_range1 T (by rfl) (ed_name 2 (pv 2))) (pg_name (i := 5) nd rfl (by first | exact Or.inl rfl | exact Or.inr rfl)) (sds_one (sd_set (i := 4) nd rfl (by first | exact Or.inl rfl | exact Or.inr rfl) (ed_if (et_cmp op_lt ans_lt (ed_mul (ed_ix hK (ED.er (ed_ix hK (er_name 3 (pv 3)) (ed_name 4 (pv 4)))) ed_int) (ed_ix hK (ED.er (ed_ix hK (er_name 3 (pv 3)) (ed_name 5 (pv 5)))) ed_int)) (ed_mul (ed_ix hK (ED.er (ed_ix hK (er_name 3 (pv 3)) (ed_name 5 (pv 5)))) ed_int) (ed_ix hK (ED.er (ed_ix hK (er_name 3 (pv 3)) (ed_name 4 (pv 4)))) ed_int)) (nomark _)) (ed_name 5 (pv 5)) (ed_name 4 (pv 4))))))
    (sds_one (sd_ret (ed_add hK (ed_name 4 (pv 4)) ed_int)))))))
abbrev s__law_less : Stmt := top 50
/-- _law_less: slots 0 one 1 other -/
noncomputable def c__law_less : Cmd :=
  (cRet (mOp fLt (mOp fMul (mOp fIx (mRead 0) (mC (.int 0))) (mOp fIx (mRead 1) (mC (.int 1)))) (mOp fMul (mOp fIx (mRead 1) (mC (.int 0))) (mOp fIx (mRead 0) (mC (.int 1))))))
theorem sc__law_less : FnScope ["one", "other"] ["one", "other"] (defScope s__law_less) := ⟨rfl, rfl, rfl, by decide +kernel, rfl, by decide +kernel, by decide +kernel⟩
noncomputable def f__law_less : Fnc := runF 2 c__law_less
theorem fn__law_less {gc : Gc} (T : Bl mg) {fa : Addr} {fd : FuncData} (F : Fun gc.K "_law_less" "_law_less" s__law_less fa fd) (hm : mg "_law_less" = some (.ref fa)) : Fn P w mg base gc 1 "_law_less" 2 f__law_less := by
  refine fn_body (k := 0) rfl F sc__law_less hm (fun _ _ _ _ _ _ us hl => match us, hl with | [_, _], _ => rfl) (fun cdv A outer s H E g F0 hg hr => ?_)
  · have hK : gc.K = g.K := by rw [hg]
    have nd := sc__law_less.nd
    have hu4 := hr.units
    have hu5 := hu65 hr
    have hu := hu100 hr
    have hu1 := hu1_ hr
    exact (sds_one (sd_ret (ed_cmp op_lt ans_lt (ed_mul (ed_ix hK (er_name 0 (pv 0)) ed_int) (ed_ix hK (er_name 1 (pv 1)) ed_int)) (ed_mul (ed_ix hK (er_name 1 (pv 1)) ed_int) (ed_ix hK (er_name 0 (pv 0)) ed_int)) (nomark _))))
abbrev s_power : Stmt := top 9
/-- power: slots 0 one 1 many 2 found 3 turn -/
noncomputable def c_power : Cmd :=
  (cSeq (cSet 2 (mTup (mCons (mC (.int 1)) (mCons (mC (.int 1)) mNil))))
  (cSeq (cFor (.nm 3) [3] (mIt rng1 (mName 1)) (cSet 2 (mCall 2 f_times (mCons (mName 2) (mCons (mName 0) mNil)))))
  (cRet (mName 2))))
theorem sc_power : FnScope ["one", "many", "found", "turn"] ["one", "many"] (defScope s_power) := ⟨rfl, rfl, rfl, by decide +kernel, rfl, by decide +kernel, by decide +kernel⟩
noncomputable def f_power : Fnc := runF 4 c_power
theorem fn_power {gc : Gc} (T : Bl mg) (w_times : Fn P w mg base gc 3 "times" 2 f_times) {fa : Addr} {fd : FuncData} (F : Fun gc.K "power" "power" s_power fa fd) (hm : mg "power" = some (.ref fa)) : Fn P w mg base gc 4 "power" 2 f_power := by
  refine fn_body (k := 3) rfl F sc_power hm (fun _ _ _ _ _ _ us hl => match us, hl with | [_, _], _ => rfl) (fun cdv A outer s H E g F0 hg hr => ?_)
  · have hK : gc.K = g.K := by rw [hg]
    have nd := sc_power.nd
    have hu4 := hr.units
    have hu5 := hu65 hr
    have hu := hu100 hr
    have hu1 := hu1_ hr
    have u_times := w_times.mono (k := 3) (by omega)
    exact (sds_cons (sd_set (i := 2) nd rfl (by first | exact Or.inl rfl | exact Or.inr rfl) (ed_tup (ea_cons ed_int (ea_cons ed_int ea_nil))))
    (sds_cons (sd_for (mask := [3]) hK (passes_of rfl) rfl (el_range1 T (by rfl) (ed_name 1 (pv 1))) (pg_name (i := 3) nd rfl (by first | exact Or.inl rfl | exact Or.inr rfl)) (sds_one (sd_set (i := 2) nd rfl (by first | exact Or.inl rfl | exact Or.inr rfl) (ed_call u_times hg rfl hr (by rfl) (takes_of rfl rfl rfl rfl) (ea_cons (ed_name 2 (pv 2)) (ea_cons (ed_name 0 (pv 0)) ea_nil))))))
    (sds_one (sd_ret (ed_name 2 (pv 2))))))
abbrev s_made : Stmt := top 29
/-- made: slots 0 book 1 row 2 found 3 litters 4 told 5 lot 6 chance 7 k -/
noncomputable def c_made : Cmd :=
  (cSeq (cOwn 2 (mLst mNil))
  (cSeq (cFor (.nm 3) [3, 4, 5, 6, 7] (mIt tupOf (mOp fIx (mRead 0) (mC (.int 2)))) (cSeq (cOwn 4 (mLst mNil))
  (cSeq (cFor (.tp [5, 6]) [5, 6, 7] (mIt tupOf (mName 3)) (cSeq (cFor (.nm 7) [7] (mIt rng1 (mUn fLen (mRead 5))) (cSet 6 (mCall 2 f_times (mCons (mName 6) (mCons (mCall 2 f_power (mCons (mOp fIx (mRead 1) (mName 7)) (mCons (mOp fIx (mRead 5) (mName 7)) mNil))) mNil)))))
  (cApp 4 (mName 6))))
  (cApp 2 (mCall 1 f_total (mCons (mName 4) mNil))))))
  (cRet (mUn fTuple (mRead 2)))))
theorem sc_made : FnScope ["book", "row", "found", "litters", "told", "lot", "chance", "k"] ["book", "row"] (defScope s_made) := ⟨rfl, rfl, rfl, by decide +kernel, rfl, by decide +kernel, by decide +kernel⟩
noncomputable def f_made : Fnc := runF 8 c_made
theorem fn_made {gc : Gc} (T : Bl mg) (w_times : Fn P w mg base gc 3 "times" 2 f_times) (w_power : Fn P w mg base gc 4 "power" 2 f_power) (w_total : Fn P w mg base gc 4 "total" 1 f_total) {fa : Addr} {fd : FuncData} (F : Fun gc.K "made" "made" s_made fa fd) (hm : mg "made" = some (.ref fa)) : Fn P w mg base gc 5 "made" 2 f_made := by
  refine fn_body (k := 4) rfl F sc_made hm (fun _ _ _ _ _ _ us hl => match us, hl with | [_, _], _ => rfl) (fun cdv A outer s H E g F0 hg hr => ?_)
  · have hK : gc.K = g.K := by rw [hg]
    have nd := sc_made.nd
    have hu4 := hr.units
    have hu5 := hu65 hr
    have hu := hu100 hr
    have hu1 := hu1_ hr
    have u_times := w_times.mono (k := 4) (by omega)
    have u_power := w_power.mono (k := 4) (by omega)
    have u_total := w_total.mono (k := 4) (by omega)
    exact (sds_cons (sd_own (i := 2) nd rfl (by first | exact Or.inl rfl | exact Or.inr rfl) (ef_lst ea_nil))
    (sds_cons (sd_for (mask := [3, 4, 5, 6, 7]) hK (passes_of rfl) rfl (el_tup hK (ed_ix hK (er_name 0 (pv 0)) ed_int)) (pg_name (i := 3) nd rfl (by first | exact Or.inl rfl | exact Or.inr rfl)) (sds_cons (sd_own (i := 4) nd rfl (by first | exact Or.inl rfl | exact Or.inr rfl) (ef_lst ea_nil))
    (sds_cons (sd_for (mask := [5, 6, 7]) hK (passes_of rfl) rfl (el_tup hK (ed_name 3 (pv 3))) (pg_tup (n := 2) rfl (pgs_cons (pg_name (i := 5) nd rfl (by first | exact Or.inl rfl | exact Or.inr rfl)) (pgs_cons (pg_name (i := 6) nd rfl (by first | exact Or.inl rfl | exact Or.inr rfl)) pgs_nil))) (sds_cons (sd_for (mask := [7]) hK (passes_of rfl) rfl (el_range1 T (by rfl) (ed_len hK T (by rfl) (er_name 5 (pv 5)))) (pg_name (i := 7) nd rfl (by first | exact Or.inl rfl | exact Or.inr rfl)) (sds_one (sd_set (i := 6) nd rfl (by first | exact Or.inl rfl | exact Or.inr rfl) (ed_call u_times hg rfl hr (by rfl) (takes_of rfl rfl rfl rfl) (ea_cons (ed_name 6 (pv 6)) (ea_cons (ed_call u_power hg rfl hr (by rfl) (takes_of rfl rfl rfl rfl) (ea_cons (ed_ix hK (er_name 1 (pv 1)) (ed_name 7 (pv 7))) (ea_cons (ed_ix hK (er_name 5 (pv 5)) (ed_name 7 (pv 7))) ea_nil))) ea_nil))))))
    (sds_one (sd_app (i := 4) (pv 4) (ed_name 6 (pv 6))))))
    (sds_one (sd_app (i := 2) (pv 2) (ed_call u_total hg rfl hr (by rfl) (takes_of rfl rfl rfl rfl) (ea_cons (ed_name 4 (pv 4)) ea_nil)))))))
    (sds_one (sd_ret (ed_tuple hK T (by rfl) (er_name 2 (pv 2)))))))
abbrev s_start_chance : Stmt := top 30
/-- start_chance: slots 0 book 1 row 2 found 3 k -/
noncomputable def c_start_chance : Cmd :=
  (cSeq (cSet 2 (mTup (mCons (mC (.int 1)) (mCons (mC (.int 1)) mNil))))
  (cSeq (cFor (.nm 3) [3] (mIt rng1 (mUn fLen (mRead 1))) (cSet 2 (mCall 2 f_times (mCons (mName 2) (mCons (mCall 2 f_power (mCons (mOp fIx (mRead 1) (mName 3)) (mCons (mOp fIx (mOp fIx (mRead 0) (mC (.int 3))) (mName 3)) mNil))) mNil)))))
  (cRet (mName 2))))
theorem sc_start_chance : FnScope ["book", "row", "found", "k"] ["book", "row"] (defScope s_start_chance) := ⟨rfl, rfl, rfl, by decide +kernel, rfl, by decide +kernel, by decide +kernel⟩
noncomputable def f_start_chance : Fnc := runF 4 c_start_chance
theorem fn_start_chance {gc : Gc} (T : Bl mg) (w_times : Fn P w mg base gc 3 "times" 2 f_times) (w_power : Fn P w mg base gc 4 "power" 2 f_power) {fa : Addr} {fd : FuncData} (F : Fun gc.K "start_chance" "start_chance" s_start_chance fa fd) (hm : mg "start_chance" = some (.ref fa)) : Fn P w mg base gc 5 "start_chance" 2 f_start_chance := by
  refine fn_body (k := 4) rfl F sc_start_chance hm (fun _ _ _ _ _ _ us hl => match us, hl with | [_, _], _ => rfl) (fun cdv A outer s H E g F0 hg hr => ?_)
  · have hK : gc.K = g.K := by rw [hg]
    have nd := sc_start_chance.nd
    have hu4 := hr.units
    have hu5 := hu65 hr
    have hu := hu100 hr
    have hu1 := hu1_ hr
    have u_times := w_times.mono (k := 4) (by omega)
    have u_power := w_power.mono (k := 4) (by omega)
    exact (sds_cons (sd_set (i := 2) nd rfl (by first | exact Or.inl rfl | exact Or.inr rfl) (ed_tup (ea_cons ed_int (ea_cons ed_int ea_nil))))
    (sds_cons (sd_for (mask := [3]) hK (passes_of rfl) rfl (el_range1 T (by rfl) (ed_len hK T (by rfl) (er_name 1 (pv 1)))) (pg_name (i := 3) nd rfl (by first | exact Or.inl rfl | exact Or.inr rfl)) (sds_one (sd_set (i := 2) nd rfl (by first | exact Or.inl rfl | exact Or.inr rfl) (ed_call u_times hg rfl hr (by rfl) (takes_of rfl rfl rfl rfl) (ea_cons (ed_name 2 (pv 2)) (ea_cons (ed_call u_power hg rfl hr (by rfl) (takes_of rfl rfl rfl rfl) (ea_cons (ed_ix hK (er_name 1 (pv 1)) (ed_name 3 (pv 3))) (ea_cons (ed_ix hK (ED.er (ed_ix hK (er_name 0 (pv 0)) ed_int)) (ed_name 3 (pv 3))) ea_nil))) ea_nil))))))
    (sds_one (sd_ret (ed_name 2 (pv 2))))))
abbrev s_round_chances : Stmt := top 31
/-- round_chances: slots 0 book 1 rounds 2 row 3 found 4 turn -/
noncomputable def c_round_chances : Cmd :=
  (cSeq (cIf (M.bind (mBool (mChain fLe fLe (mC (.int 0)) (mName 1) (mC (.int 12)))) fun k => M.pure (!k)) (cRaise .misstep "this may not be done: " (mC (.str "rounds"))) cNil)
  (cSeq (cPar 2 3 false true (mUn fTuple (mOp fRep (mLst (mCons (mTup (mCons (mC (.int 0)) (mCons (mC (.int 1)) mNil))) mNil)) (mUn fLen (mOp fIx (mRead 0) (mC (.int 1)))))) (mLst mNil))
  (cSeq (cFor (.nm 4) [4] (mIt rng1 (mOp fAdd (mName 1) (mC (.int 1)))) (cSeq (cApp 3 (mCall 2 f_start_chance (mCons (mName 0) (mCons (mName 2) mNil))))
  (cSet 2 (mCall 2 f_made (mCons (mName 0) (mCons (mName 2) mNil))))))
  (cRet (mName 3)))))
theorem sc_round_chances : FnScope ["book", "rounds", "row", "found", "turn"] ["book", "rounds"] (defScope s_round_chances) := ⟨rfl, rfl, rfl, by decide +kernel, rfl, by decide +kernel, by decide +kernel⟩
noncomputable def f_round_chances : Fnc := runF 5 c_round_chances
theorem fn_round_chances {gc : Gc} (T : Bl mg) {MC MI Mcc Mcd : Addr} {Mq : Str} (Mx : FPX.MsTxt P gc.K mg "Misstep" "this may not be done: " "word" Mq MC MI Mcc Mcd) (Mg : gc.cls .misstep = MC) {t_MOST_EXACT : Tok} (g_MOST_EXACT : mg "MOST_EXACT" = some (.int 12 t_MOST_EXACT)) (w_start_chance : Fn P w mg base gc 5 "start_chance" 2 f_start_chance) (w_made : Fn P w mg base gc 5 "made" 2 f_made) {fa : Addr} {fd : FuncData} (F : Fun gc.K "round_chances" "round_chances" s_round_chances fa fd) (hm : mg "round_chances" = some (.ref fa)) : Fn P w mg base gc 6 "round_chances" 2 f_round_chances := by
  refine fn_body (k := 5) rfl F sc_round_chances hm (fun _ _ _ _ _ _ us hl => match us, hl with | [_, _], _ => rfl) (fun cdv A outer s H E g F0 hg hr => ?_)
  · have hK : gc.K = g.K := by rw [hg]
    have nd := sc_round_chances.nd
    have hu4 := hr.units
    have hu5 := hu65 hr
    have hu := hu100 hr
    have hu1 := hu1_ hr
    have Mc : g.cls .misstep = MC := by
      rw [hg]
      exact Mg
    have u_start_chance := w_start_chance.mono (k := 5) (by omega)
    have u_made := w_made.mono (k := 5) (by omega)
    exact (sds_cons (sd_if (et_not (et_chain op_le op_le ans_le ans_le ed_int (ed_name 1 (pv 1)) (ed_glob (by rfl) g_MOST_EXACT (v := .int 12) ⟨_, rfl⟩ (hr := fun _ => .int 12)))) (sds_one (sd_raise .misstep rfl Mx Mc hr (takes_of rfl rfl rfl rfl) ed_str (by rfl))) sds_nil)
    (sds_cons (sd_par (i := 2) (j := 3) (k := false) (k' := true) rfl nd rfl rfl (by decide) rfl rfl (ED.k (ed_tuple hK T (by rfl) (EF.er (ef_rep (EF.er (ef_lst (ea_cons (ed_tup (ea_cons ed_int (ea_cons ed_int ea_nil))) ea_nil))) (ed_len hK T (by rfl) (ED.er (ed_ix hK (er_name 0 (pv 0)) ed_int))))))) (EF.k (ef_lst ea_nil)) (by rfl))
    (sds_cons (sd_for (mask := [4]) hK (passes_of rfl) rfl (el_range1 T (by rfl) (ed_add hK (ed_name 1 (pv 1)) ed_int)) (pg_name (i := 4) nd rfl (by first | exact Or.inl rfl | exact Or.inr rfl)) (sds_cons (sd_app (i := 3) (pv 3) (ed_call u_start_chance hg rfl hr (by rfl) (takes_of rfl rfl rfl rfl) (ea_cons (ed_name 0 (pv 0)) (ea_cons (ed_name 2 (pv 2)) ea_nil))))
    (sds_one (sd_set (i := 2) nd rfl (by first | exact Or.inl rfl | exact Or.inr rfl) (ed_call u_made hg rfl hr (by rfl) (takes_of rfl rfl rfl rfl) (ea_cons (ed_name 0 (pv 0)) (ea_cons (ed_name 2 (pv 2)) ea_nil)))))))
    (sds_one (sd_ret (ed_name 3 (pv 3)))))))
abbrev s_law : Stmt := top 52
/-- law, behind its first row: slots 0 script 1 state 2 turn 3 book 4 table 5 most 6 kind 7 size 8 rows 9 tall 10 tree 11 shares 12 due 13 one 14 height 15 parts 16 k 17 low 18 few 19 whole 20 mean 21 best 22 told 23 weighed 24 lots 25 lot 26 things_v 27 wide 28 alone 29 chance -/
noncomputable def c_law : Cmd :=
  (cSeq (cFor (.nm 2) [2, 3, 4, 5, 6, 7, 8, 9, 11, 12, 15, 17, 19, 20, 21, 22, 23, 24, 26, 27, 28, 29] (mIt rng1 (mC (.int 3))) (cSeq (cSet 3 (mCall 2 f__law_book (mCons (mName 1) (mCons (mC (.int 2)) mNil))))
  (cSeq (cTg (.tp [4, 5]) (mCall 2 f__law_laid (mCons (mName 3) (mCons (mC (.int 4)) mNil))))
  (cSeq (cPar 6 7 false false (mCall 2 f__law_take (mCons (mName 1) (mCons (mUn fLen (mOp fIx (mRead 3) (mC (.int 1)))) mNil))) (mOp fAdd (mC (.int 1)) (mCall 2 f__law_take (mCons (mName 1) (mCons (mName 5) mNil)))))
  (cSeq (cSet 8 (mOp fDix (mRead 4) (mTup (mCons (mName 6) (mCons (mName 7) mNil)))))
  (cSeq (cSet 9 (mLc [10] (.nm 10) (mIt lstOf (mRead 8)) (M.pure true) (mCall 1 f__law_height (mCons (mName 10) mNil))))
  (cSeq (cSet 11 (mLc [10] (.nm 10) (mIt lstOf (mRead 8)) (M.pure true) (mCall 2 f__law_chance (mCons (mName 3) (mCons (mName 10) mNil)))))
  (cSeq (cFrz 12 (cOwn 12 (mLc [14] (.nm 14) (mRng2 (mC (.int 1)) (mOp fAdd (mName 7) (mC (.int 1)))) (M.pure true) (mUn fLen (mLc [13] (.nm 13) (mIt lstOf (mRead 9)) (mBool (mOp fEq (mName 13) (mName 14))) (mC (.int 1)))))))
  (cSeq (cSet 15 (mLc [14] (.nm 14) (mRng2 (mC (.int 1)) (mOp fAdd (mName 7) (mC (.int 1)))) (M.pure true) (mCall 1 f__law_sum (mCons (mLc [16] (.nm 16) (mIt rng1 (mUn fLen (mRead 8))) (mBool (mOp fEq (mOp fIx (mRead 9) (mName 16)) (mName 14))) (mOp fIx (mRead 11) (mName 16))) mNil))))
  (cSeq (cIf (mIf (mBool (mOp fNe (mUn fList (mCall 3 f_by_height (mCons (mName 3) (mCons (mName 6) (mCons (mName 7) mNil))))) (mName 12))) (M.pure true) (mBool (mOp fNe (mUn fList (mCall 3 f_chances_by_height (mCons (mName 3) (mCons (mName 6) (mCons (mName 7) mNil))))) (mName 15)))) (cRet (mC (.bl false))) cNil)
  (cSeq (cFor (.nm 14) [14, 17] (mIt rng1 (mOp fAdd (mName 7) (mC (.int 1)))) (cSeq (cIf (mIf (mBool (mOp fNe (mCall 4 f_many_low (mCons (mName 3) (mCons (mName 6) (mCons (mName 7) (mCons (mName 14) mNil))))) (mUn fSum (mSlL (mRead 12) (M.pure none) (mPart (mName 14)))))) (M.pure true) (mBool (mOp fNe (mCall 4 f_chance_low (mCons (mName 3) (mCons (mName 6) (mCons (mName 7) (mCons (mName 14) mNil))))) (mCall 1 f__law_sum (mCons (mSlL (mRead 15) (M.pure none) (mPart (mName 14))) mNil))))) (cRet (mC (.bl false))) cNil)
  (cSeq (cSet 17 (mLst mNil))
  (cSeq (cFor (.nm 18) [] (mRng2 (mC (.int 1)) (mOp fAdd (mName 7) (mC (.int 1)))) (cSet 17 (mOp fCat (mRead 17) (mLc [10] (.nm 10) (mIt lstOf (mOp fDix (mRead 4) (mTup (mCons (mName 6) (mCons (mName 18) mNil))))) (mBool (mOp fLe (mCall 1 f__law_height (mCons (mName 10) mNil)) (mName 14))) (mCall 2 f__law_chance (mCons (mName 3) (mCons (mName 10) mNil)))))))
  (cIf (mBool (mOp fNe (mCall 4 f_ended_low (mCons (mName 3) (mCons (mName 6) (mCons (mName 7) (mCons (mName 14) mNil))))) (mCall 1 f__law_sum (mCons (mName 17) mNil)))) (cRet (mC (.bl false))) cNil)))))
  (cSeq (cSet 19 (mCall 1 f__law_sum (mCons (mName 15) mNil)))
  (cSeq (cIf (mBool (mOp fEq (mOp fIx (mRead 19) (mC (.int 0))) (mC (.int 0)))) (cIf (mIf (mBool (mOp fNotN (mCall 3 f_mean_height (mCons (mName 3) (mCons (mName 6) (mCons (mName 7) mNil)))) (mC .non))) (M.pure true) (mBool (mOp fNotN (mCall 3 f_likely_height (mCons (mName 3) (mCons (mName 6) (mCons (mName 7) mNil)))) (mC .non)))) (cRet (mC (.bl false))) cNil) (cSeq (cSet 20 (mCall 1 f__law_sum (mCons (mLc [16] (.nm 16) (mIt rng1 (mName 7)) (M.pure true) (mCall 2 f__law_mul (mCons (mTup (mCons (mOp fAdd (mName 16) (mC (.int 1))) (mCons (mC (.int 1)) mNil))) (mCons (mOp fIx (mRead 15) (mName 16)) mNil)))) mNil)))
  (cSeq (cSet 21 (mC (.int 0)))
  (cSeq (cFor (.nm 16) [] (mIt rng1 (mName 7)) (cSet 21 (mIf (mTru (mCall 2 f__law_less (mCons (mOp fIx (mRead 15) (mName 21)) (mCons (mOp fIx (mRead 15) (mName 16)) mNil)))) (mName 16) (mName 21))))
  (cIf (mIf (mBool (mOp fNe (mCall 3 f_mean_height (mCons (mName 3) (mCons (mName 6) (mCons (mName 7) mNil)))) (mCall 2 f__law_fr (mCons (mOp fMul (mOp fIx (mRead 20) (mC (.int 0))) (mOp fIx (mRead 19) (mC (.int 1)))) (mCons (mOp fMul (mOp fIx (mRead 20) (mC (.int 1))) (mOp fIx (mRead 19) (mC (.int 0)))) mNil))))) (M.pure true) (mBool (mOp fNe (mCall 3 f_likely_height (mCons (mName 3) (mCons (mName 6) (mCons (mName 7) mNil)))) (mOp fAdd (mName 21) (mC (.int 1)))))) (cRet (mC (.bl false))) cNil)))))
  (cSeq (cIf (mIf (mBool (mOp fNe (mCall 3 f_greatest_height (mCons (mName 3) (mCons (mName 6) (mCons (mName 7) mNil)))) (mUn fMax (mOp fCat (mLst (mCons (mC (.int 0)) mNil)) (mRead 9))))) (M.pure true) (mBool (mOp fNe (mCall 3 f_least_height (mCons (mName 3) (mCons (mName 6) (mCons (mName 7) mNil)))) (mIf (mBool (mOp fNe (mName 9) (mLst mNil))) (mUn fMin (mRead 9)) (mC (.int 0)))))) (cRet (mC (.bl false))) cNil)
  (cSeq (cSet 14 (mCall 2 f__law_take (mCons (mName 1) (mCons (mOp fAdd (mName 7) (mC (.int 1))) mNil))))
  (cSeq (cPar 22 23 false false (mCall 4 f_low_table (mCons (mName 3) (mCons (mName 7) (mCons (mName 14) (mCons (mC (.bl false)) mNil))))) (mCall 4 f_low_table (mCons (mName 3) (mCons (mName 7) (mCons (mName 14) (mCons (mC (.bl true)) mNil))))))
  (cSeq (cFor (.nm 13) [24] (mIt rng1 (mUn fLen (mOp fIx (mRead 3) (mC (.int 1))))) (cSeq (cSet 24 (mOp fCat (mLst (mCons (mLst mNil) mNil)) (mLc [18] (.nm 18) (mRng2 (mC (.int 1)) (mOp fAdd (mName 7) (mC (.int 1)))) (M.pure true) (mLc [10] (.nm 10) (mIt lstOf (mOp fDix (mRead 4) (mTup (mCons (mName 13) (mCons (mName 18) mNil))))) (mBool (mOp fLe (mCall 1 f__law_height (mCons (mName 10) mNil)) (mName 14))) (mName 10)))))
  (cIf (mIf (mBool (mOp fNe (mUn fList (mOp fIx (mRead 22) (mName 13))) (mLc [25] (.nm 25) (mIt lstOf (mRead 24)) (M.pure true) (mUn fLen (mRead 25))))) (M.pure true) (mBool (mOp fNe (mUn fList (mOp fIx (mRead 23) (mName 13))) (mLc [25] (.nm 25) (mIt lstOf (mRead 24)) (M.pure true) (mCall 1 f__law_sum (mCons (mLc [10] (.nm 10) (mIt lstOf (mRead 25)) (M.pure true) (mCall 2 f__law_chance (mCons (mName 3) (mCons (mName 10) mNil)))) mNil)))))) (cRet (mC (.bl false))) cNil)))
  (cSeq (cSet 26 (mCall 1 f__law_things (mCons (mCall 3 f__law_lot (mCons (mName 1) (mCons (mUn fLen (mOp fIx (mRead 3) (mC (.int 1)))) (mCons (mC (.int 2)) mNil)))) mNil)))
  (cSeq (cSet 27 (mCall 2 f__law_take (mCons (mName 1) (mCons (mOp fAdd (mName 7) (mC (.int 1))) mNil))))
  (cSeq (cIf (mBool (mOp fNe (mCall 4 f_rows_of (mCons (mLc [13] (.nm 13) (mIt rng1 (mUn fLen (mOp fIx (mRead 3) (mC (.int 1))))) (M.pure true) (mOp fCat (mLst (mCons (mC (.int 0)) mNil)) (mLc [18] (.nm 18) (mRng2 (mC (.int 1)) (mOp fAdd (mName 7) (mC (.int 1)))) (M.pure true) (mUn fLen (mOp fDix (mRead 4) (mTup (mCons (mName 13) (mCons (mName 18) mNil)))))))) (mCons (mName 26) (mCons (mName 27) (mCons (mC (.bl false)) mNil))))) (mUn fLen (mCall 3 f__law_rows (mCons (mName 4) (mCons (mName 26) (mCons (mName 27) mNil))))))) (cRet (mC (.bl false))) cNil)
  (cSeq (cSet 28 (mOp fAdd (mSlT (mName 3) (M.pure none) (mPart (mC (.int 3)))) (mTup (mCons (mUn fTuple (mLc [16] (.nm 16) (mIt rng1 (mUn fLen (mOp fIx (mRead 3) (mC (.int 1))))) (M.pure true) (mUn fInt (mOp fEq (mName 16) (mName 6))))) mNil))))
  (cSeq (cIf (mIf (mBool (mOp fNe (mCall 4 f_ended_low (mCons (mName 28) (mCons (mName 6) (mCons (mC (.int 7)) (mCons (mC (.int 2)) mNil))))) (mOp fIx (mCall 2 f_round_chances (mCons (mName 28) (mCons (mC (.int 2)) mNil))) (mC (.int 2))))) (mBool (mOp fLe (mOp fMul (mUn fMax (mLc [25, 29] (.tp [25, 29]) (mIt tupOf (mOp fIx (mOp fIx (mRead 3) (mC (.int 2))) (mName 6))) (M.pure true) (mUn fSum (mRead 25)))) (mC (.int 3))) (mC (.int 6)))) (M.pure false)) (cRet (mC (.bl false))) cNil)
  (cIf (mBool (mOp fNe (mLc [16] (.nm 16) (mIt rng1 (mC (.int 4))) (M.pure true) (mCall 2 f__law_word (mCons (mName 16) (mCons (mName 3) mNil)))) (mLst (mCons (mC (.str "size")) (mCons (mC (.str "size")) (mCons (mC (.str "height")) (mCons (mC (.str "height")) mNil))))))) (cRet (mC (.bl false))) cNil)))))))))))))))))))))))
  (cRet (mC (.bl true))))
theorem sc_law : FnScope ["script", "state", "turn", "book", "table", "most", "kind", "size", "rows", "tall", "tree", "shares", "due", "one", "height", "parts", "k", "low", "few", "whole", "mean", "best", "told", "weighed", "lots", "lot", "things_v", "wide", "alone", "chance"] ["script"] (defScope s_law) := ⟨rfl, rfl, rfl, by decide +kernel, rfl, by decide +kernel, by decide +kernel⟩
theorem ok_law {gc : Gc} (T : Bl mg) (w__law_book : Fn P w mg base gc 4 "_law_book" 2 f__law_book) (w__law_laid : Fn P w mg base gc 14 "_law_laid" 2 f__law_laid) (w__law_take : Fn P w mg base gc 1 "_law_take" 2 f__law_take) (w__law_height : Fn P w mg base gc 13 "_law_height" 1 f__law_height) (w__law_chance : Fn P w mg base gc 14 "_law_chance" 2 f__law_chance) (w__law_sum : Fn P w mg base gc 3 "_law_sum" 1 f__law_sum) (w_by_height : Fn P w mg base gc 19 "by_height" 3 f_by_height) (w_chances_by_height : Fn P w mg base gc 19 "chances_by_height" 3 f_chances_by_height) (w_many_low : Fn P w mg base gc 18 "many_low" 4 f_many_low) (w_chance_low : Fn P w mg base gc 18 "chance_low" 4 f_chance_low) (w_ended_low : Fn P w mg base gc 18 "ended_low" 4 f_ended_low) (w_mean_height : Fn P w mg base gc 20 "mean_height" 3 f_mean_height) (w_likely_height : Fn P w mg base gc 20 "likely_height" 3 f_likely_height) (w__law_mul : Fn P w mg base gc 2 "_law_mul" 2 f__law_mul) (w__law_less : Fn P w mg base gc 1 "_law_less" 2 f__law_less) (w__law_fr : Fn P w mg base gc 1 "_law_fr" 2 f__law_fr) (w_greatest_height : Fn P w mg base gc 20 "greatest_height" 3 f_greatest_height) (w_least_height : Fn P w mg base gc 20 "least_height" 3 f_least_height) (w_low_table : Fn P w mg base gc 17 "low_table" 4 f_low_table) (w__law_things : Fn P w mg base gc 1 "_law_things" 1 f__law_things) (w__law_lot : Fn P w mg base gc 2 "_law_lot" 3 f__law_lot) (w_rows_of : Fn P w mg base gc 16 "rows_of" 4 f_rows_of) (w__law_rows : Fn P w mg base gc 13 "_law_rows" 3 f__law_rows) (w_round_chances : Fn P w mg base gc 6 "round_chances" 2 f_round_chances) (w__law_word : Fn P w mg base gc 19 "_law_word" 2 f__law_word) {fS : Addr} {fdS : FuncData} (FS : Fun gc.K "_law_state" "_law_state" s__law_state fS fdS) (mS : mg "_law_state" = some (.ref fS)) {fa : Addr} {fd : FuncData} (F : Fun gc.K "law" "law" s_law fa fd)
    (hlaw : ∀ ns : List Int, ns.length ≤ 63 → ∃ w', c_law (lawW 28 ⟨0, stCells ns⟩) = .rt (.bl true) w') : FnOk P w gc.K mg base (L2.CX P w) 21 fa fd ["script"] (spLaw gc.K) := by
  have GS : FnOk P w gc.K mg base (L2.CX P w) 1 fS fdS ["script"] (spState gc.K) := ok_state T FS
  have bS : Binds gc.K fdS ["script"] [] := FS.binds (ps := ["script"]) fun _ _ _ _ _ _ us hl => match us, hl with | [_], _ => rfl
  refine F.okX sc_law (fun vs H Q E ⟨_, _, h, _⟩ => by subst h; rfl) (fun cdv A outer s H vs Q E hr h => ?_)
  obtain ⟨a, ns, rfl, hS, hlen, q⟩ := h
  have nd := sc_law.nd
  have hu4 := hr.units
  have hu5 := hu65 hr
  have hu := hu100 hr
  have hu1 := hu1_ hr
  have u__law_book := w__law_book.mono (k := 20) (by decide)
  have u__law_laid := w__law_laid.mono (k := 20) (by decide)
  have u__law_take := w__law_take.mono (k := 20) (by decide)
  have u__law_height := w__law_height.mono (k := 20) (by decide)
  have u__law_chance := w__law_chance.mono (k := 20) (by decide)
  have u__law_sum := w__law_sum.mono (k := 20) (by decide)
  have u_by_height := w_by_height.mono (k := 20) (by decide)
  have u_chances_by_height := w_chances_by_height.mono (k := 20) (by decide)
  have u_many_low := w_many_low.mono (k := 20) (by decide)
  have u_chance_low := w_chance_low.mono (k := 20) (by decide)
  have u_ended_low := w_ended_low.mono (k := 20) (by decide)
  have u_mean_height := w_mean_height.mono (k := 20) (by decide)
  have u_likely_height := w_likely_height.mono (k := 20) (by decide)
  have u__law_mul := w__law_mul.mono (k := 20) (by decide)
  have u__law_less := w__law_less.mono (k := 20) (by decide)
  have u__law_fr := w__law_fr.mono (k := 20) (by decide)
  have u_greatest_height := w_greatest_height.mono (k := 20) (by decide)
  have u_least_height := w_least_height.mono (k := 20) (by decide)
  have u_low_table := w_low_table.mono (k := 20) (by decide)
  have u__law_things := w__law_things.mono (k := 20) (by decide)
  have u__law_lot := w__law_lot.mono (k := 20) (by decide)
  have u_rows_of := w_rows_of.mono (k := 20) (by decide)
  have u__law_rows := w__law_rows.mono (k := 20) (by decide)
  have u_round_chances := w_round_chances.mono (k := 20) (by decide)
  have u__law_word := w__law_word.mono (k := 20) (by decide)
  have hK : gc.K = gc.K := rfl
  have hg : gc = gc := rfl
  refine ⟨_, pss_cons (ps_set (i := 1) nd rfl (by first | exact Or.inl rfl | exact Or.inr rfl) (pe_callS GS (hr.mono (by decide)) (by rfl) mS FS.kp bS (fun σ => passAt (takes_of rfl rfl rfl rfl) σ) (pa_cons (pv 0) pa_nil)))
    (PSs.exi (t := fun i => tS (B.at gc (fun cls d _ H => E cls d H) i) c_law) fun i => ?_), ?_⟩
  rotate_left
  · refine ⟨_, rfl, a, ns, rfl, hS, hlen, fun H' p c sm hp hc ne h1 h2 => ?_⟩
    obtain ⟨w', e⟩ := hlaw ns hlen
    exact tS.law ne h1 h2 e q
  · exact (sds_cons (sd_for (mask := [2, 3, 4, 5, 6, 7, 8, 9, 11, 12, 15, 17, 19, 20, 21, 22, 23, 24, 26, 27, 28, 29]) hK (passes_of rfl) rfl (el_range1 T (by rfl) ed_int) (pg_name (i := 2) nd rfl (by first | exact Or.inl rfl | exact Or.inr rfl)) (sds_cons (sd_set (i := 3) nd rfl (by first | exact Or.inl rfl | exact Or.inr rfl) (ed_call u__law_book hg rfl hr (by rfl) (takes_of rfl rfl rfl rfl) (ea_cons (ed_name 1 (pv 1)) (ea_cons ed_int ea_nil))))
    (sds_cons (sd_tg (tg := (.tp [4, 5])) hK (ed_call u__law_laid hg rfl hr (by rfl) (takes_of rfl rfl rfl rfl) (ea_cons (ed_name 3 (pv 3)) (ea_cons ed_int ea_nil))) (pg_tup (n := 2) rfl (pgs_cons (pg_name (i := 4) nd rfl (by first | exact Or.inl rfl | exact Or.inr rfl)) (pgs_cons (pg_name (i := 5) nd rfl (by first | exact Or.inl rfl | exact Or.inr rfl)) pgs_nil))))
    (sds_cons (sd_parT (i := 6) (j := 7) (k := false) (k' := false) rfl hK (by decide) (pg_name (i := 6) nd rfl (by first | exact Or.inl rfl | exact Or.inr rfl)) (pg_name (i := 7) nd rfl (by first | exact Or.inl rfl | exact Or.inr rfl)) (ED.k (ed_call u__law_take hg rfl hr (by rfl) (takes_of rfl rfl rfl rfl) (ea_cons (ed_name 1 (pv 1)) (ea_cons (ed_len hK T (by rfl) (ED.er (ed_ix hK (er_name 3 (pv 3)) ed_int))) ea_nil)))) (ED.k (ed_add hK ed_int (ed_call u__law_take hg rfl hr (by rfl) (takes_of rfl rfl rfl rfl) (ea_cons (ed_name 1 (pv 1)) (ea_cons (ed_name 5 (pv 5)) ea_nil))))) (by rfl))
    (sds_cons (sd_set (i := 8) nd rfl (by first | exact Or.inl rfl | exact Or.inr rfl) (ed_dix hu1 (er_name 4 (pv 4)) (ed_tup (ea_cons (ed_name 6 (pv 6)) (ea_cons (ed_name 7 (pv 7)) ea_nil)))))
    (sds_cons (sd_set (i := 9) nd rfl (by first | exact Or.inl rfl | exact Or.inr rfl) (EF.ed (ef_lc (own := [("tree", 10)]) (tg := (.nm 10)) hK rfl nd (eh_list (er_name 8 (pv 8))) (blkOk_by (own := [("tree", 10)]) (N := ["script", "state", "turn", "book", "table", "most", "kind", "size", "rows", "tall", "tree", "shares", "due", "one", "height", "parts", "k", "low", "few", "whole", "mean", "best", "told", "weighed", "lots", "lot", "things_v", "wide", "alone", "chance"]) (sc := defScope s_law) (by decide +kernel)) (fun _ _ _ _ _ => (pg_name (i := 10) nd rfl (by first | exact Or.inl rfl | exact Or.inr rfl))) (fun _ _ _ _ _ => tests_nil) (fun _ _ _ _ _ => (ed_call u__law_height hg rfl hr (by rfl) tk0 (ea_cons (ed_name 10 (pv 10)) ea_nil))) (by decide))))
    (sds_cons (sd_set (i := 11) nd rfl (by first | exact Or.inl rfl | exact Or.inr rfl) (EF.ed (ef_lc (own := [("tree", 10)]) (tg := (.nm 10)) hK rfl nd (eh_list (er_name 8 (pv 8))) (blkOk_by (own := [("tree", 10)]) (N := ["script", "state", "turn", "book", "table", "most", "kind", "size", "rows", "tall", "tree", "shares", "due", "one", "height", "parts", "k", "low", "few", "whole", "mean", "best", "told", "weighed", "lots", "lot", "things_v", "wide", "alone", "chance"]) (sc := defScope s_law) (by decide +kernel)) (fun _ _ _ _ _ => (pg_name (i := 10) nd rfl (by first | exact Or.inl rfl | exact Or.inr rfl))) (fun _ _ _ _ _ => tests_nil) (fun _ _ _ _ _ => (ed_call u__law_chance hg rfl hr (by rfl) tk0 (ea_cons (ed_name 3 (pv 3)) (ea_cons (ed_name 10 (pv 10)) ea_nil)))) (by decide))))
    (sds_cons (sd_frz (i := 12) (sd_setLc (i := 12) (own := [("height", 14)]) (tg := (.nm 14)) hK rfl nd rfl rfl (sw_true rfl rfl rfl (by decide +kernel)) (EL.eh (el_range2 T (by rfl) ed_int (ed_add hK (ed_name 7 (pv 7)) ed_int))) (blkOk_by (own := [("height", 14)]) (N := ["script", "state", "turn", "book", "table", "most", "kind", "size", "rows", "tall", "tree", "shares", "due", "one", "height", "parts", "k", "low", "few", "whole", "mean", "best", "told", "weighed", "lots", "lot", "things_v", "wide", "alone", "chance"]) (sc := defScope s_law) (by decide +kernel)) (fun _ _ _ _ _ => (pg_name (i := 14) nd rfl (by first | exact Or.inl rfl | exact Or.inr rfl))) (fun _ _ _ _ _ => tests_nil) (fun _ _ _ _ _ => (ed_len hK T (by rfl) (EF.er (ef_lc (own := [("one", 13)]) (tg := (.nm 13)) hK rfl nd (eh_list (er_name 9 (pv 9))) (blkOk_by (own := [("one", 13)]) (N := ["script", "state", "turn", "book", "table", "most", "kind", "size", "rows", "tall", "tree", "shares", "due", "one", "height", "parts", "k", "low", "few", "whole", "mean", "best", "told", "weighed", "lots", "lot", "things_v", "wide", "alone", "chance"]) (by kernel_rfl)) (fun _ _ _ _ _ => (pg_name (i := 13) nd rfl (by first | exact Or.inl rfl | exact Or.inr rfl))) (fun _ _ _ _ _ => (tests_one (et_cmp (op_eqD hu4) (ans_eq hK) (ed_name 13 (pv 13)) (ed_name 14 (pv 14)) (nomark _)))) (fun _ _ _ _ _ => ed_int) (by decide))))) (by decide)))
    (sds_cons (sd_set (i := 15) nd rfl (by first | exact Or.inl rfl | exact Or.inr rfl) (EF.ed (ef_lc (own := [("height", 14)]) (tg := (.nm 14)) hK rfl nd (EL.eh (el_range2 T (by rfl) ed_int (ed_add hK (ed_name 7 (pv 7)) ed_int))) (blkOk_by (own := [("height", 14)]) (N := ["script", "state", "turn", "book", "table", "most", "kind", "size", "rows", "tall", "tree", "shares", "due", "one", "height", "parts", "k", "low", "few", "whole", "mean", "best", "told", "weighed", "lots", "lot", "things_v", "wide", "alone", "chance"]) (sc := defScope s_law) (by decide +kernel)) (fun _ _ _ _ _ => (pg_name (i := 14) nd rfl (by first | exact Or.inl rfl | exact Or.inr rfl))) (fun _ _ _ _ _ => tests_nil) (fun _ _ _ _ _ => (ed_call u__law_sum hg rfl hr (by rfl) tk0 (ea_cons (EF.ed (ef_lc (own := [("k", 16)]) (tg := (.nm 16)) hK rfl nd (EL.eh (el_range1 T (by rfl) (ed_len hK T (by rfl) (er_name 8 (pv 8))))) (blkOk_by (own := [("k", 16)]) (N := ["script", "state", "turn", "book", "table", "most", "kind", "size", "rows", "tall", "tree", "shares", "due", "one", "height", "parts", "k", "low", "few", "whole", "mean", "best", "told", "weighed", "lots", "lot", "things_v", "wide", "alone", "chance"]) (by kernel_rfl)) (fun _ _ _ _ _ => (pg_name (i := 16) nd rfl (by first | exact Or.inl rfl | exact Or.inr rfl))) (fun _ _ _ _ _ => (tests_one (et_cmp (op_eqD hu4) (ans_eq hK) (ed_ix hK (er_name 9 (pv 9)) (ed_name 16 (pv 16))) (ed_name 14 (pv 14)) (nomark _)))) (fun _ _ _ _ _ => (ed_ix hK (er_name 11 (pv 11)) (ed_name 16 (pv 16)))) (by decide))) ea_nil))) (by decide))))
    (sds_cons (sd_if (EW.et (ew_or (et_cmp (op_neD hu4) (ans_ne hK) (EF.ed (ef_list hK T (by rfl) (ED.er (ed_call u_by_height hg rfl hr (by rfl) (takes_of rfl rfl rfl rfl) (ea_cons (ed_name 3 (pv 3)) (ea_cons (ed_name 6 (pv 6)) (ea_cons (ed_name 7 (pv 7)) ea_nil))))))) (ed_name 12 (pv 12)) (nomark _)) (ew_or1 (et_cmp (op_neD hu4) (ans_ne hK) (EF.ed (ef_list hK T (by rfl) (ED.er (ed_call u_chances_by_height hg rfl hr (by rfl) (takes_of rfl rfl rfl rfl) (ea_cons (ed_name 3 (pv 3)) (ea_cons (ed_name 6 (pv 6)) (ea_cons (ed_name 7 (pv 7)) ea_nil))))))) (ed_name 15 (pv 15)) (nomark _))))) (sds_one (sd_ret ed_bl)) sds_nil)
    (sds_cons (sd_for (mask := [14, 17]) hK (passes_of rfl) rfl (el_range1 T (by rfl) (ed_add hK (ed_name 7 (pv 7)) ed_int)) (pg_name (i := 14) nd rfl (by first | exact Or.inl rfl | exact Or.inr rfl)) (sds_cons (sd_if (EW.et (ew_or (et_cmp (op_neD hu4) (ans_ne hK) (ed_call u_many_low hg rfl hr (by rfl) (takes_of rfl rfl rfl rfl) (ea_cons (ed_name 3 (pv 3)) (ea_cons (ed_name 6 (pv 6)) (ea_cons (ed_name 7 (pv 7)) (ea_cons (ed_name 14 (pv 14)) ea_nil))))) (ed_sum rfl T (by rfl) (EF.er (ef_slL (er_name 12 (pv 12)) eo_none (eo_some (ed_name 14 (pv 14)))))) (nomark _)) (ew_or1 (et_cmp (op_neD hu4) (ans_ne hK) (ed_call u_chance_low hg rfl hr (by rfl) (takes_of rfl rfl rfl rfl) (ea_cons (ed_name 3 (pv 3)) (ea_cons (ed_name 6 (pv 6)) (ea_cons (ed_name 7 (pv 7)) (ea_cons (ed_name 14 (pv 14)) ea_nil))))) (ed_call u__law_sum hg rfl hr (by rfl) (takes_of rfl rfl rfl rfl) (ea_cons (EF.ed (ef_slL (er_name 15 (pv 15)) eo_none (eo_some (ed_name 14 (pv 14))))) ea_nil)) (nomark _))))) (sds_one (sd_ret ed_bl)) sds_nil)
    (sds_cons (sd_set (i := 17) nd rfl (by first | exact Or.inl rfl | exact Or.inr rfl) (EF.ed (ef_lst ea_nil)))
    (sds_cons (sd_for (mask := []) hK (passes_of rfl) rfl (el_range2 T (by rfl) ed_int (ed_add hK (ed_name 7 (pv 7)) ed_int)) (pg_name (i := 18) nd rfl (by first | exact Or.inl rfl | exact Or.inr rfl)) (sds_one (sd_set (i := 17) nd rfl (by first | exact Or.inl rfl | exact Or.inr rfl) (EF.ed (ef_cat (er_name 17 (pv 17)) (EF.er (ef_lc (own := [("tree", 10)]) (tg := (.nm 10)) hK rfl nd (eh_list (ED.er (ed_dix hu1 (er_name 4 (pv 4)) (ed_tup (ea_cons (ed_name 6 (pv 6)) (ea_cons (ed_name 18 (pv 18)) ea_nil)))))) (blkOk_by (own := [("tree", 10)]) (N := ["script", "state", "turn", "book", "table", "most", "kind", "size", "rows", "tall", "tree", "shares", "due", "one", "height", "parts", "k", "low", "few", "whole", "mean", "best", "told", "weighed", "lots", "lot", "things_v", "wide", "alone", "chance"]) (sc := defScope s_law) (by decide +kernel)) (fun _ _ _ _ _ => (pg_name (i := 10) nd rfl (by first | exact Or.inl rfl | exact Or.inr rfl))) (fun _ _ _ _ _ => (tests_one (et_cmp op_le ans_le (ed_call u__law_height hg rfl hr (by rfl) tk0 (ea_cons (ed_name 10 (pv 10)) ea_nil)) (ed_name 14 (pv 14)) (nomark _)))) (fun _ _ _ _ _ => (ed_call u__law_chance hg rfl hr (by rfl) tk0 (ea_cons (ed_name 3 (pv 3)) (ea_cons (ed_name 10 (pv 10)) ea_nil)))) (by decide))))))))
    (sds_one (sd_if (et_cmp (op_neD hu4) (ans_ne hK) (ed_call u_ended_low hg rfl hr (by rfl) (takes_of rfl rfl rfl rfl) (ea_cons (ed_name 3 (pv 3)) (ea_cons (ed_name 6 (pv 6)) (ea_cons (ed_name 7 (pv 7)) (ea_cons (ed_name 14 (pv 14)) ea_nil))))) (ed_call u__law_sum hg rfl hr (by rfl) (takes_of rfl rfl rfl rfl) (ea_cons (ed_name 17 (pv 17)) ea_nil)) (nomark _)) (sds_one (sd_ret ed_bl)) sds_nil))))))
    (sds_cons (sd_set (i := 19) nd rfl (by first | exact Or.inl rfl | exact Or.inr rfl) (ed_call u__law_sum hg rfl hr (by rfl) (takes_of rfl rfl rfl rfl) (ea_cons (ed_name 15 (pv 15)) ea_nil)))
    (sds_cons (sd_if (et_cmp (op_eqD hu4) (ans_eq hK) (ed_ix hK (er_name 19 (pv 19)) ed_int) ed_int (nomark _)) (sds_one (sd_if (EW.et (ew_or (et_cmp op_notN ans_notN (ed_call u_mean_height hg rfl hr (by rfl) (takes_of rfl rfl rfl rfl) (ea_cons (ed_name 3 (pv 3)) (ea_cons (ed_name 6 (pv 6)) (ea_cons (ed_name 7 (pv 7)) ea_nil)))) ed_non (nomark _)) (ew_or1 (et_cmp op_notN ans_notN (ed_call u_likely_height hg rfl hr (by rfl) (takes_of rfl rfl rfl rfl) (ea_cons (ed_name 3 (pv 3)) (ea_cons (ed_name 6 (pv 6)) (ea_cons (ed_name 7 (pv 7)) ea_nil)))) ed_non (nomark _))))) (sds_one (sd_ret ed_bl)) sds_nil)) (sds_cons (sd_set (i := 20) nd rfl (by first | exact Or.inl rfl | exact Or.inr rfl) (ed_call u__law_sum hg rfl hr (by rfl) (takes_of rfl rfl rfl rfl) (ea_cons (EF.ed (ef_lc (own := [("k", 16)]) (tg := (.nm 16)) hK rfl nd (EL.eh (el_range1 T (by rfl) (ed_name 7 (pv 7)))) (blkOk_by (own := [("k", 16)]) (N := ["script", "state", "turn", "book", "table", "most", "kind", "size", "rows", "tall", "tree", "shares", "due", "one", "height", "parts", "k", "low", "few", "whole", "mean", "best", "told", "weighed", "lots", "lot", "things_v", "wide", "alone", "chance"]) (sc := defScope s_law) (by decide +kernel)) (fun _ _ _ _ _ => (pg_name (i := 16) nd rfl (by first | exact Or.inl rfl | exact Or.inr rfl))) (fun _ _ _ _ _ => tests_nil) (fun _ _ _ _ _ => (ed_call u__law_mul hg rfl hr (by rfl) tk0 (ea_cons (ed_tup (ea_cons (ed_add hK (ed_name 16 (pv 16)) ed_int) (ea_cons ed_int ea_nil))) (ea_cons (ed_ix hK (er_name 15 (pv 15)) (ed_name 16 (pv 16))) ea_nil)))) (by decide))) ea_nil)))
    (sds_cons (sd_set (i := 21) nd rfl (by first | exact Or.inl rfl | exact Or.inr rfl) ed_int)
    (sds_cons (sd_for (mask := []) hK (passes_of rfl) rfl (el_range1 T (by rfl) (ed_name 7 (pv 7))) (pg_name (i := 16) nd rfl (by first | exact Or.inl rfl | exact Or.inr rfl)) (sds_one (sd_set (i := 21) nd rfl (by first | exact Or.inl rfl | exact Or.inr rfl) (ed_if (et_truth hK (ED.er (ed_call u__law_less hg rfl hr (by rfl) (takes_of rfl rfl rfl rfl) (ea_cons (ed_ix hK (er_name 15 (pv 15)) (ed_name 21 (pv 21))) (ea_cons (ed_ix hK (er_name 15 (pv 15)) (ed_name 16 (pv 16))) ea_nil))))) (ed_name 16 (pv 16)) (ed_name 21 (pv 21))))))
    (sds_one (sd_if (EW.et (ew_or (et_cmp (op_neD hu4) (ans_ne hK) (ed_call u_mean_height hg rfl hr (by rfl) (takes_of rfl rfl rfl rfl) (ea_cons (ed_name 3 (pv 3)) (ea_cons (ed_name 6 (pv 6)) (ea_cons (ed_name 7 (pv 7)) ea_nil)))) (ed_call u__law_fr hg rfl hr (by rfl) (takes_of rfl rfl rfl rfl) (ea_cons (ed_mul (ed_ix hK (er_name 20 (pv 20)) ed_int) (ed_ix hK (er_name 19 (pv 19)) ed_int)) (ea_cons (ed_mul (ed_ix hK (er_name 20 (pv 20)) ed_int) (ed_ix hK (er_name 19 (pv 19)) ed_int)) ea_nil))) (nomark _)) (ew_or1 (et_cmp (op_neD hu4) (ans_ne hK) (ed_call u_likely_height hg rfl hr (by rfl) (takes_of rfl rfl rfl rfl) (ea_cons (ed_name 3 (pv 3)) (ea_cons (ed_name 6 (pv 6)) (ea_cons (ed_name 7 (pv 7)) ea_nil)))) (ed_add hK (ed_name 21 (pv 21)) ed_int) (nomark _))))) (sds_one (sd_ret ed_bl)) sds_nil))))))
    (sds_cons (sd_if (EW.et (ew_or (et_cmp (op_neD hu4) (ans_ne hK) (ed_call u_greatest_height hg rfl hr (by rfl) (takes_of rfl rfl rfl rfl) (ea_cons (ed_name 3 (pv 3)) (ea_cons (ed_name 6 (pv 6)) (ea_cons (ed_name 7 (pv 7)) ea_nil)))) (ed_max1 rfl T (by rfl) (EF.er (ef_cat (EF.er (ef_lst (ea_cons ed_int ea_nil))) (er_name 9 (pv 9))))) (nomark _)) (ew_or1 (et_cmp (op_neD hu4) (ans_ne hK) (ed_call u_least_height hg rfl hr (by rfl) (takes_of rfl rfl rfl rfl) (ea_cons (ed_name 3 (pv 3)) (ea_cons (ed_name 6 (pv 6)) (ea_cons (ed_name 7 (pv 7)) ea_nil)))) (ed_if (et_cmp (op_neD hu4) (ans_ne hK) (ed_name 9 (pv 9)) (EF.ed (ef_lst ea_nil)) (nomark _)) (ed_min1 rfl T (by rfl) (er_name 9 (pv 9))) ed_int) (nomark _))))) (sds_one (sd_ret ed_bl)) sds_nil)
    (sds_cons (sd_set (i := 14) nd rfl (by first | exact Or.inl rfl | exact Or.inr rfl) (ed_call u__law_take hg rfl hr (by rfl) (takes_of rfl rfl rfl rfl) (ea_cons (ed_name 1 (pv 1)) (ea_cons (ed_add hK (ed_name 7 (pv 7)) ed_int) ea_nil))))
    (sds_cons (sd_par (i := 22) (j := 23) (k := false) (k' := false) rfl nd rfl rfl (by decide) rfl rfl (ED.k (ed_call u_low_table hg rfl hr (by rfl) (takes_of rfl rfl rfl rfl) (ea_cons (ed_name 3 (pv 3)) (ea_cons (ed_name 7 (pv 7)) (ea_cons (ed_name 14 (pv 14)) (ea_cons ed_bl ea_nil)))))) (ED.k (ed_call u_low_table hg rfl hr (by rfl) (takes_of rfl rfl rfl rfl) (ea_cons (ed_name 3 (pv 3)) (ea_cons (ed_name 7 (pv 7)) (ea_cons (ed_name 14 (pv 14)) (ea_cons ed_bl ea_nil)))))) (by rfl))
    (sds_cons (sd_for (mask := [24]) hK (passes_of rfl) rfl (el_range1 T (by rfl) (ed_len hK T (by rfl) (ED.er (ed_ix hK (er_name 3 (pv 3)) ed_int)))) (pg_name (i := 13) nd rfl (by first | exact Or.inl rfl | exact Or.inr rfl)) (sds_cons (sd_set (i := 24) nd rfl (by first | exact Or.inl rfl | exact Or.inr rfl) (EF.ed (ef_cat (EF.er (ef_lst (ea_cons (EF.ed (ef_lst ea_nil)) ea_nil))) (EF.er (ef_lc (own := [("few", 18)]) (tg := (.nm 18)) hK rfl nd (EL.eh (el_range2 T (by rfl) ed_int (ed_add hK (ed_name 7 (pv 7)) ed_int))) (blkOk_by (own := [("few", 18)]) (N := ["script", "state", "turn", "book", "table", "most", "kind", "size", "rows", "tall", "tree", "shares", "due", "one", "height", "parts", "k", "low", "few", "whole", "mean", "best", "told", "weighed", "lots", "lot", "things_v", "wide", "alone", "chance"]) (sc := defScope s_law) (by decide +kernel)) (fun _ _ _ _ _ => (pg_name (i := 18) nd rfl (by first | exact Or.inl rfl | exact Or.inr rfl))) (fun _ _ _ _ _ => tests_nil) (fun _ _ _ _ _ => (EF.ed (ef_lc (own := [("tree", 10)]) (tg := (.nm 10)) hK rfl nd (eh_list (ED.er (ed_dix hu1 (er_name 4 (pv 4)) (ed_tup (ea_cons (ed_name 13 (pv 13)) (ea_cons (ed_name 18 (pv 18)) ea_nil)))))) (blkOk_by (own := [("tree", 10)]) (N := ["script", "state", "turn", "book", "table", "most", "kind", "size", "rows", "tall", "tree", "shares", "due", "one", "height", "parts", "k", "low", "few", "whole", "mean", "best", "told", "weighed", "lots", "lot", "things_v", "wide", "alone", "chance"]) (by kernel_rfl)) (fun _ _ _ _ _ => (pg_name (i := 10) nd rfl (by first | exact Or.inl rfl | exact Or.inr rfl))) (fun _ _ _ _ _ => (tests_one (et_cmp op_le ans_le (ed_call u__law_height hg rfl hr (by rfl) tk0 (ea_cons (ed_name 10 (pv 10)) ea_nil)) (ed_name 14 (pv 14)) (nomark _)))) (fun _ _ _ _ _ => (ed_name 10 (pv 10))) (by decide)))) (by decide))))))
    (sds_one (sd_if (EW.et (ew_or (et_cmp (op_neD hu4) (ans_ne hK) (EF.ed (ef_list hK T (by rfl) (ED.er (ed_ix hK (er_name 22 (pv 22)) (ed_name 13 (pv 13)))))) (EF.ed (ef_lc (own := [("lot", 25)]) (tg := (.nm 25)) hK rfl nd (eh_list (er_name 24 (pv 24))) (blkOk_by (own := [("lot", 25)]) (N := ["script", "state", "turn", "book", "table", "most", "kind", "size", "rows", "tall", "tree", "shares", "due", "one", "height", "parts", "k", "low", "few", "whole", "mean", "best", "told", "weighed", "lots", "lot", "things_v", "wide", "alone", "chance"]) (sc := defScope s_law) (by decide +kernel)) (fun _ _ _ _ _ => (pg_name (i := 25) nd rfl (by first | exact Or.inl rfl | exact Or.inr rfl))) (fun _ _ _ _ _ => tests_nil) (fun _ _ _ _ _ => (ed_len hK T (by rfl) (er_name 25 (pv 25)))) (by decide))) (nomark _)) (ew_or1 (et_cmp (op_neD hu4) (ans_ne hK) (EF.ed (ef_list hK T (by rfl) (ED.er (ed_ix hK (er_name 23 (pv 23)) (ed_name 13 (pv 13)))))) (EF.ed (ef_lc (own := [("lot", 25)]) (tg := (.nm 25)) hK rfl nd (eh_list (er_name 24 (pv 24))) (blkOk_by (own := [("lot", 25)]) (N := ["script", "state", "turn", "book", "table", "most", "kind", "size", "rows", "tall", "tree", "shares", "due", "one", "height", "parts", "k", "low", "few", "whole", "mean", "best", "told", "weighed", "lots", "lot", "things_v", "wide", "alone", "chance"]) (sc := defScope s_law) (by decide +kernel)) (fun _ _ _ _ _ => (pg_name (i := 25) nd rfl (by first | exact Or.inl rfl | exact Or.inr rfl))) (fun _ _ _ _ _ => tests_nil) (fun _ _ _ _ _ => (ed_call u__law_sum hg rfl hr (by rfl) tk0 (ea_cons (EF.ed (ef_lc (own := [("tree", 10)]) (tg := (.nm 10)) hK rfl nd (eh_list (er_name 25 (pv 25))) (blkOk_by (own := [("tree", 10)]) (N := ["script", "state", "turn", "book", "table", "most", "kind", "size", "rows", "tall", "tree", "shares", "due", "one", "height", "parts", "k", "low", "few", "whole", "mean", "best", "told", "weighed", "lots", "lot", "things_v", "wide", "alone", "chance"]) (by kernel_rfl)) (fun _ _ _ _ _ => (pg_name (i := 10) nd rfl (by first | exact Or.inl rfl | exact Or.inr rfl))) (fun _ _ _ _ _ => tests_nil) (fun _ _ _ _ _ => (ed_call u__law_chance hg rfl hr (by rfl) tk0 (ea_cons (ed_name 3 (pv 3)) (ea_cons (ed_name 10 (pv 10)) ea_nil)))) (by decide))) ea_nil))) (by decide))) (nomark _))))) (sds_one (sd_ret ed_bl)) sds_nil))))
    (sds_cons (sd_set (i := 26) nd rfl (by first | exact Or.inl rfl | exact Or.inr rfl) (ed_call u__law_things hg rfl hr (by rfl) (takes_of rfl rfl rfl rfl) (ea_cons (ed_call u__law_lot hg rfl hr (by rfl) (takes_of rfl rfl rfl rfl) (ea_cons (ed_name 1 (pv 1)) (ea_cons (ed_len hK T (by rfl) (ED.er (ed_ix hK (er_name 3 (pv 3)) ed_int))) (ea_cons ed_int ea_nil)))) ea_nil)))
    (sds_cons (sd_set (i := 27) nd rfl (by first | exact Or.inl rfl | exact Or.inr rfl) (ed_call u__law_take hg rfl hr (by rfl) (takes_of rfl rfl rfl rfl) (ea_cons (ed_name 1 (pv 1)) (ea_cons (ed_add hK (ed_name 7 (pv 7)) ed_int) ea_nil))))
    (sds_cons (sd_if (et_cmp (op_neD hu4) (ans_ne hK) (ed_call u_rows_of hg rfl hr (by rfl) (takes_of rfl rfl rfl rfl) (ea_cons (EF.ed (ef_lc (own := [("one", 13)]) (tg := (.nm 13)) hK rfl nd (EL.eh (el_range1 T (by rfl) (ed_len hK T (by rfl) (ED.er (ed_ix hK (er_name 3 (pv 3)) ed_int))))) (blkOk_by (own := [("one", 13)]) (N := ["script", "state", "turn", "book", "table", "most", "kind", "size", "rows", "tall", "tree", "shares", "due", "one", "height", "parts", "k", "low", "few", "whole", "mean", "best", "told", "weighed", "lots", "lot", "things_v", "wide", "alone", "chance"]) (sc := defScope s_law) (by decide +kernel)) (fun _ _ _ _ _ => (pg_name (i := 13) nd rfl (by first | exact Or.inl rfl | exact Or.inr rfl))) (fun _ _ _ _ _ => tests_nil) (fun _ _ _ _ _ => (EF.ed (ef_cat (EF.er (ef_lst (ea_cons ed_int ea_nil))) (EF.er (ef_lc (own := [("few", 18)]) (tg := (.nm 18)) hK rfl nd (EL.eh (el_range2 T (by rfl) ed_int (ed_add hK (ed_name 7 (pv 7)) ed_int))) (blkOk_by (own := [("few", 18)]) (N := ["script", "state", "turn", "book", "table", "most", "kind", "size", "rows", "tall", "tree", "shares", "due", "one", "height", "parts", "k", "low", "few", "whole", "mean", "best", "told", "weighed", "lots", "lot", "things_v", "wide", "alone", "chance"]) (by kernel_rfl)) (fun _ _ _ _ _ => (pg_name (i := 18) nd rfl (by first | exact Or.inl rfl | exact Or.inr rfl))) (fun _ _ _ _ _ => tests_nil) (fun _ _ _ _ _ => (ed_len hK T (by rfl) (ED.er (ed_dix hu1 (er_name 4 (pv 4)) (ed_tup (ea_cons (ed_name 13 (pv 13)) (ea_cons (ed_name 18 (pv 18)) ea_nil))))))) (by decide)))))) (by decide))) (ea_cons (ed_name 26 (pv 26)) (ea_cons (ed_name 27 (pv 27)) (ea_cons ed_bl ea_nil))))) (ed_len hK T (by rfl) (ED.er (ed_call u__law_rows hg rfl hr (by rfl) (takes_of rfl rfl rfl rfl) (ea_cons (ed_name 4 (pv 4)) (ea_cons (ed_name 26 (pv 26)) (ea_cons (ed_name 27 (pv 27)) ea_nil)))))) (nomark _)) (sds_one (sd_ret ed_bl)) sds_nil)
    (sds_cons (sd_set (i := 28) nd rfl (by first | exact Or.inl rfl | exact Or.inr rfl) (ed_add hK (ed_slT hK (ed_name 3 (pv 3)) eo_none (eo_some ed_int)) (ed_tup (ea_cons (ed_tuple hK T (by rfl) (EF.er (ef_lc (own := [("k", 16)]) (tg := (.nm 16)) hK rfl nd (EL.eh (el_range1 T (by rfl) (ed_len hK T (by rfl) (ED.er (ed_ix hK (er_name 3 (pv 3)) ed_int))))) (blkOk_by (own := [("k", 16)]) (N := ["script", "state", "turn", "book", "table", "most", "kind", "size", "rows", "tall", "tree", "shares", "due", "one", "height", "parts", "k", "low", "few", "whole", "mean", "best", "told", "weighed", "lots", "lot", "things_v", "wide", "alone", "chance"]) (sc := defScope s_law) (by decide +kernel)) (fun _ _ _ _ _ => (pg_name (i := 16) nd rfl (by first | exact Or.inl rfl | exact Or.inr rfl))) (fun _ _ _ _ _ => tests_nil) (fun _ _ _ _ _ => (ed_int1 T (by rfl) (ed_cmp (op_eqD hu4) (ans_eq hK) (ed_name 16 (pv 16)) (ed_name 6 (pv 6)) (nomark _)))) (by decide)))) ea_nil))))
    (sds_cons (sd_if (EW.et (ew_and (et_cmp (op_neD hu4) (ans_ne hK) (ed_call u_ended_low hg rfl hr (by rfl) (takes_of rfl rfl rfl rfl) (ea_cons (ed_name 28 (pv 28)) (ea_cons (ed_name 6 (pv 6)) (ea_cons ed_int (ea_cons ed_int ea_nil))))) (ed_ix hK (ED.er (ed_call u_round_chances hg rfl hr (by rfl) (takes_of rfl rfl rfl rfl) (ea_cons (ed_name 28 (pv 28)) (ea_cons ed_int ea_nil)))) ed_int) (nomark _)) (ew_and1 (et_cmp op_le ans_le (ed_mul (ed_max1 rfl T (by rfl) (EF.er (ef_lc (own := [("lot", 25), ("chance", 29)]) (tg := (.tp [25, 29])) hK rfl nd (EL.eh (el_tup hK (ed_ix hK (ED.er (ed_ix hK (er_name 3 (pv 3)) ed_int)) (ed_name 6 (pv 6))))) (blkOk_by (own := [("lot", 25), ("chance", 29)]) (N := ["script", "state", "turn", "book", "table", "most", "kind", "size", "rows", "tall", "tree", "shares", "due", "one", "height", "parts", "k", "low", "few", "whole", "mean", "best", "told", "weighed", "lots", "lot", "things_v", "wide", "alone", "chance"]) (sc := defScope s_law) (by decide +kernel)) (fun _ _ _ _ _ => (pg_tup (n := 2) rfl (pgs_cons (pg_name (i := 25) nd rfl (by first | exact Or.inl rfl | exact Or.inr rfl)) (pgs_cons (pg_name (i := 29) nd rfl (by first | exact Or.inl rfl | exact Or.inr rfl)) pgs_nil)))) (fun _ _ _ _ _ => tests_nil) (fun _ _ _ _ _ => (ed_sum rfl T (by rfl) (er_name 25 (pv 25)))) (by decide)))) ed_int) ed_int (nomark _))))) (sds_one (sd_ret ed_bl)) sds_nil)
    (sds_one (sd_if (et_cmp (op_neD hu4) (ans_ne hK) (EF.ed (ef_lc (own := [("k", 16)]) (tg := (.nm 16)) hK rfl nd (EL.eh (el_range1 T (by rfl) ed_int)) (blkOk_by (own := [("k", 16)]) (N := ["script", "state", "turn", "book", "table", "most", "kind", "size", "rows", "tall", "tree", "shares", "due", "one", "height", "parts", "k", "low", "few", "whole", "mean", "best", "told", "weighed", "lots", "lot", "things_v", "wide", "alone", "chance"]) (sc := defScope s_law) (by decide +kernel)) (fun _ _ _ _ _ => (pg_name (i := 16) nd rfl (by first | exact Or.inl rfl | exact Or.inr rfl))) (fun _ _ _ _ _ => tests_nil) (fun _ _ _ _ _ => (ed_call u__law_word hg rfl hr (by rfl) tk0 (ea_cons (ed_name 16 (pv 16)) (ea_cons (ed_name 3 (pv 3)) ea_nil)))) (by decide))) (EF.ed (ef_lst (ea_cons ed_str (ea_cons ed_str (ea_cons ed_str (ea_cons ed_str ea_nil)))))) (nomark _)) (sds_one (sd_ret ed_bl)) sds_nil))))))))))))))))))))))))
    (sds_one (sd_ret ed_bl)))
end
end Law


set_option Elab.async false
set_option linter.all false
set_option maxRecDepth 100000
set_option maxHeartbeats 4000000
/-! M1: how commands are reckoned; Euclid's way; fractions. -/
namespace Law
open FP
/-! ### Fibonacci's bound -/
def fibp : Nat → Nat × Nat
  | 0 => (0, 1)
  | n + 1 => let p := fibp n; (p.2, p.1 + p.2)
def fib (n : Nat) : Nat := (fibp n).1
theorem fib_add (n : Nat) : fib (n + 2) = fib n + fib (n + 1) := rfl
theorem fib_mono1 (n : Nat) : fib n ≤ fib (n + 1) := by
  match n with
  | 0 => decide
  | n + 1 => rw [fib_add]; omega
theorem fib_sum (m : Nat) : ∀ n : Nat, fib (m + n + 1) = fib (m + 1) * fib (n + 1) + fib m * fib n := by
  have key : ∀ n : Nat, fib (m + n + 1) = fib (m + 1) * fib (n + 1) + fib m * fib n ∧ fib (m + (n + 1) + 1) = fib (m + 1) * fib (n + 1 + 1) + fib m * fib (n + 1) := by
    intro n
    induction n with
    | zero =>
      refine ⟨by simp [show fib 0 = 0 from rfl, show fib 1 = 1 from rfl], ?_⟩
      show fib (m + 2) = fib (m + 1) * fib 2 + fib m * fib 1
      rw [fib_add, show fib 2 = 1 from rfl, show fib 1 = 1 from rfl]; omega
    | succ n ih =>
      obtain ⟨h1, h2⟩ := ih
      refine ⟨h2, ?_⟩
      show fib (m + n + 1 + 2) = fib (m + 1) * fib (n + 1 + 2) + fib m * fib (n + 2)
      rw [fib_add, show m + n + 1 + 1 = m + (n + 1) + 1 by omega, h1, h2, fib_add (n + 1), fib_add n]
      simp only [Nat.mul_add]
      omega
  exact fun n => (key n).1
theorem fib_mul (m n : Nat) : fib (m + 1) * fib (n + 1) ≤ fib (m + n + 1) := by
  rw [fib_sum]; omega
theorem fib_big : ∀ k : Nat, 2 ^ (16 * k) ≤ fib (24 * k + 1)
  | 0 => by decide
  | k + 1 => by
    have h := fib_mul (24 * k) 24
    have h1 := fib_big k
    have h2 : 2 ^ 16 ≤ fib 25 := by decide
    have h3 : 2 ^ (16 * k) * 2 ^ 16 ≤ fib (24 * k + 1) * fib (24 + 1) := Nat.mul_le_mul h1 h2
    rw [show 16 * (k + 1) = 16 * k + 16 by omega, Nat.pow_add]
    exact Nat.le_trans h3 h
theorem fib_le {m n : Nat} (h : m ≤ n) : fib m ≤ fib n := by
  induction h with
  | refl => exact Nat.le_refl _
  | step _ ih => exact Nat.le_trans ih (fib_mono1 _)
/-- what the pair is after the turns -/
def euc : Nat → Nat → Nat → Nat × Nat
  | 0, a, b => (a, b)
  | n + 1, a, b => if b = 0 then (a, b) else euc n b (a % b)
theorem euc_gcd : ∀ n a b : Nat, (euc n a b).2 = 0 → (euc n a b).1 = Nat.gcd a b
  | 0, a, b, h => by
    have h : b = 0 := h
    subst h
    show a = Nat.gcd a 0
    rw [Nat.gcd_zero_right]
  | n + 1, a, b, h => by
    unfold euc at h ⊢
    by_cases e : b = 0
    · rw [if_pos e] at h ⊢; subst e; rw [Nat.gcd_zero_right]
    · rw [if_neg e] at h ⊢
      rw [euc_gcd n _ _ h, Nat.gcd_comm b, ← Nat.gcd_rec, Nat.gcd_comm]
theorem euc_end : ∀ n a b : Nat, b < a → (b < fib (n + 1) ∨ a < fib (n + 2)) → (euc n a b).2 = 0
  | 0, a, b, hl, h => by
    show b = 0
    rcases h with h | h
    · have : fib (0 + 1) = 1 := rfl
      omega
    · have : fib (0 + 2) = 1 := rfl
      omega
  | n + 1, a, b, hl, h => by
    unfold euc
    by_cases e : b = 0
    · rw [if_pos e]; exact e
    · rw [if_neg e]
      have hb : 0 < b := Nat.pos_of_ne_zero e
      have hr := Nat.mod_lt a hb
      refine euc_end n b (a % b) hr ?_
      rcases h with h | h
      · exact .inr h
      · by_cases h2 : b < fib (n + 2)
        · exact .inr h2
        · refine .inl ?_
          have h3 : b + a % b ≤ a := by
            have := Nat.div_add_mod a b
            have h4 : 1 ≤ a / b := (Nat.one_le_div_iff hb).mpr (Nat.le_of_lt hl)
            have h5 : b * 1 ≤ b * (a / b) := Nat.mul_le_mul_left b h4
            omega
          have : fib (n + 1 + 2) = fib (n + 1) + fib (n + 2) := fib_add (n + 1)
          omega
theorem euc_ok {a b : Nat} (hb : b < 2 ^ 2640) : (euc 3999 a b).2 = 0 := by
  show (euc (3998 + 1) a b).2 = 0
  unfold euc
  by_cases e : b = 0
  · rw [if_pos e]; exact e
  · rw [if_neg e]
    refine euc_end 3998 b (a % b) (Nat.mod_lt _ (Nat.pos_of_ne_zero e)) (.inr ?_)
    exact Nat.lt_of_lt_of_le hb (Nat.le_trans (Nat.pow_le_pow_right (by decide) (by decide : 2640 ≤ 16 * 166)) (Nat.le_trans (fib_big 166) (fib_le (by decide))))
theorem euc_is {a b : Nat} (hb : b < 2 ^ 2640) : euc 3999 a b = (Nat.gcd a b, 0) := Prod.ext (euc_gcd _ _ _ (euc_ok hb)) (euc_ok hb)
/-! ### reckoning -/
section
variable {α β : Type}
theorem bind_ap (m : M α) (k : α → M β) (w : FP.W) : M.bind m k w = (m w).bind k := rfl
theorem pure_ap (a : α) (w : FP.W) : M.pure a w = .ok a w := rfl
theorem rb_ok (a : α) (w : FP.W) (k : α → M β) : (R.ok a w).bind k = k a w := rfl
theorem out_ok (a : α) (w : FP.W) (k : α → Cmd) : (R.ok a w).out k = k a w := rfl
theorem ofO_some (a : α) (w : FP.W) : ofO (some a) w = .ok a w := rfl
theorem mC_ap (d : D) (w : FP.W) : mC d w = .ok d w := rfl
end
/-! applied forms: what stands in a loop stays folded -/
section
variable {α β : Type} (w : FP.W)
theorem a_seq (c c' : Cmd) : cSeq c c' w = match c w with | .nx w' => c' w' | o => o := rfl
theorem a_nil : cNil w = .nx w := rfl
theorem a_pass : cPass w = .nx w := rfl
theorem a_brk : cBrk w = .bk w := rfl
theorem a_if (t : M Bool) (c c' : Cmd) : cIf t c c' w = (t w).out (fun k => if k = true then c else c') := rfl
theorem a_ret (m : M D) : cRet m w = (m w).out fun d w => .rt d w := rfl
theorem a_retN : cRetN w = .rt .non w := rfl
theorem a_drop (m : M D) : cDrop m w = (m w).out fun _ w => .nx w := rfl
theorem a_set (i : Nat) (m : M D) : cSet i m w = (m w).out fun d w => if i < w.Γ.length then .nx ⟨w.Γ.set i (.frz d), w.S⟩ else .bad := rfl
theorem a_own (i : Nat) (m : M D) : cOwn i m w = (m w).out fun d w => if i < w.Γ.length then .nx ⟨w.Γ.set i (.own d), w.S⟩ else .bad := rfl
theorem a_frz (i : Nat) (c : Cmd) : cFrz i c w = match c w with | .nx w' => (mName i w').out fun _ w'' => .nx w'' | o => o := rfl
theorem a_tg (tg : Tg) (m : M D) : cTg tg m w = (m w).out fun d w => match asgT tg d w.Γ with | some Γ => .nx ⟨Γ, w.S⟩ | none => .bad := rfl
theorem a_par (i j : Nat) (k k' : Bool) (m m' : M D) : cPar i j k k' m m' w = (m w).out fun d w => (m' w).out fun e w => if i < w.Γ.length ∧ j < w.Γ.length then .nx ⟨(w.Γ.set i (sl k d)).set j (sl k' e), w.S⟩ else .bad := rfl
theorem a_for (tg : Tg) (mask : List Nat) (mi : M (List D)) (c : Cmd) : cFor tg mask mi c w = (mi w).out fun ds => forR tg mask c ds := rfl
theorem a_while (mask : List Nat) (n : FP.W → Nat) (t : M Bool) (c : Cmd) : cWhile mask n t c w = whR mask t c (n w) w := rfl
theorem a_raise (c : EC) (pre : PySem.Str) (z : PySem.Str) (w' : FP.W) (m : M D) (h : m w = .ok (.str z) w') (hz : pre.length + z.length ≤ PySem.sizeLine) : cRaise c pre m w = .exc c z w' := by
  unfold cRaise
  rw [h]
  show (if pre.length + z.length ≤ PySem.sizeLine then Out.exc c z w' else .bad) = _
  rw [if_pos hz]
theorem a_op (f : D → D → Option D) (m k : M D) : mOp f m k w = (m w).bind fun x => k.bind fun y => ofO (f x y) := rfl
theorem a_un (f : D → Option D) (m : M D) : mUn f m w = (m w).bind fun x => ofO (f x) := rfl
theorem a_cons (m : M D) (r : M (List D)) : mCons m r w = (m w).bind fun d => r.bind fun ds => M.pure (d :: ds) := rfl
theorem a_mnil : mNil w = .ok [] w := rfl
theorem a_call (n : Nat) (f : Fnc) (m : M (List D)) : mCall n f m w = (m w).bind fun ds w => if ds.length = n then (match f ds w.S with | .ok d S' => .ok d ⟨w.Γ, S'⟩ | .exc c x S' => .exc c x ⟨w.Γ, S'⟩ | .bad => .bad) else .bad := rfl
theorem a_tup (m : M (List D)) : mTup m w = (m w).bind fun ds => if ds.length ≤ PySem.sizeLine then M.pure (.tup ds) else M.bad := rfl
theorem a_lst (m : M (List D)) : mLst m w = (m w).bind fun ds => if ds.length ≤ PySem.sizeLine then M.pure (.lst ds) else M.bad := rfl
theorem a_bool (m : M D) : mBool m w = (m w).bind fun d => match d with | .bl k => M.pure k | _ => M.bad := rfl
theorem a_tru (m : M D) : mTru m w = (m w).bind fun d => ofO (fTru d) := rfl
theorem a_mif (t : M Bool) (m k : M α) : mIf t m k w = (t w).bind fun c => if c = true then m else k := rfl
theorem a_chain (f f' : D → D → Option D) (ma mc me : M D) : mChain f f' ma mc me w = (ma w).bind fun x => mc.bind fun y => (ofO (f x y)).bind fun z => match z with | .bl true => me.bind fun u => ofO (f' y u) | .bl false => M.pure (.bl false) | _ => M.bad := rfl
theorem a_it (f : D → Option (List D)) (m : M D) : mIt f m w = (m w).bind fun d => ofO (f d) := rfl
theorem a_rng2 (ma mc : M D) : mRng2 ma mc w = (ma w).bind fun x => mc.bind fun y => match x, y with | .int i, .int j => if -(2 ^ 62) ≤ i ∧ i < 2 ^ 62 ∧ -(2 ^ 62) ≤ j ∧ j < 2 ^ 62 then M.pure (rng i (j - i).toNat) else M.bad | _, _ => M.bad := rfl
theorem a_part (m : M D) : mPart m w = (m w).bind fun d => match d with | .int i => M.pure (some i) | _ => M.bad := rfl
theorem a_lc (vs : List Nat) (tg : Tg) (mi : M (List D)) (mt : M Bool) (me : M D) : mLc vs tg mi mt me w = (mi w).bind fun ds w => (lcR vs tg mt me ds [] w).bind fun acc w' => .ok (.lst acc) ⟨restore w.Γ w'.Γ vs, w'.S⟩ := rfl
end
theorem shp_int (i : Int) : shp (.int i) = true := rfl
theorem eqv_int (i j : Int) : PySem.PyData.eqv (.int i) (.int j) = decide (i = j) := by
  rw [PySem.PyData.eqv, Bool.eq_iff_iff]; simp
theorem fEq_int (i j : Int) : fEq (.int i) (.int j) = some (.bl (decide (i = j))) := by
  unfold fEq
  rw [if_pos ⟨shp_int i, shp_int j⟩]
  show some (D.bl (PySem.PyData.eqv (.int i) (.int j))) = _
  rw [eqv_int]
theorem fNe_int (i j : Int) : fNe (.int i) (.int j) = some (.bl (!decide (i = j))) := by
  unfold fNe
  rw [if_pos ⟨shp_int i, shp_int j⟩]
  show some (D.bl (!PySem.PyData.eqv (.int i) (.int j))) = _
  rw [eqv_int]
theorem fMod_nat {a b : Nat} (h : b ≠ 0) : fMod (.int a) (.int b) = some (.int ((a % b : Nat) : Int)) := by
  show (if (b : Int) ≠ 0 then some (D.int ((a : Int).fmod (b : Int))) else none) = _
  rw [if_pos (by omega), Int.fmod_eq_emod_of_nonneg _ (by omega)]; rfl
theorem while_ok (Sx : S) : ∀ (n a b : Nat), (euc n a b).2 = 0 → whR [] (mBool (mOp fNe (mName 1) (mC (.int 0)))) (cPar 0 1 false false (mName 1) (mOp fMod (mName 0) (mName 1))) (n + 1) ⟨[.frz (.int a), .frz (.int b)], Sx⟩ = .nx ⟨[.frz (.int (euc n a b).1), .frz (.int 0)], Sx⟩ := by
  intro n
  induction n with
  | zero =>
    intro a b h
    have h : b = 0 := h
    subst h
    simp [whR, mBool, mOp, bind_ap, mName, rb_ok, mC_ap, fNe_int, ofO_some, R.out, pure_ap, euc]
  | succ n ih =>
    intro a b h
    unfold whR
    by_cases e : b = 0
    · subst e
      simp [mBool, mOp, bind_ap, mName, rb_ok, mC_ap, fNe_int, ofO_some, R.out, pure_ap, euc]
    · have e' : (b : Int) ≠ 0 := by omega
      unfold euc at h ⊢
      rw [if_neg e] at h ⊢
      have := ih b (a % b) h
      simp [mBool, mOp, bind_ap, mName, rb_ok, mC_ap, fNe_int, ofO_some, R.out, pure_ap, e, cPar, fMod_nat e, kill, wipeΓ, sl]
      exact this
theorem fAbs_int (i : Int) : fAbs (.int i) = some (.int (i.natAbs : Int)) := by
  show some (D.int (if i < 0 then -i else i)) = _
  congr 2
  split <;> omega
theorem divisor_ok (a b : Int) (Sx : S) (hb : b.natAbs < 2 ^ 2640) : f_divisor [.int a, .int b] Sx = .ok (.int (Int.gcd a b : Nat)) Sx := by
  have h := while_ok Sx 3999 a.natAbs b.natAbs (euc_ok hb)
  rw [euc_is hb] at h
  unfold f_divisor runF c_divisor
  simp [cSeq, cPar, mUn, bind_ap, mName, rb_ok, fAbs_int, ofO_some, out_ok, sl, cWhile, h, cRet, Int.gcd]
theorem log2_lt {a k : Nat} (h : a < 2 ^ k) (hk : 0 < k) : a.log2 < k := PySem.Flt.log2_lt_of hk h
theorem fDiv_ok {a b : Int} (h : 0 < b) (hb : b.natAbs < 2 ^ 8999) : fDiv (.int a) (.int b) = some (.int (a / b)) := by
  show (if 0 < b ∧ b.natAbs.log2 < 9000 then some (D.int (a / b)) else none) = _
  rw [if_pos ⟨h, Nat.lt_trans (log2_lt hb (by decide)) (by decide)⟩]
theorem fMul_ok {a b : Int} (ha : a.natAbs < 2 ^ 9000) (hb : b.natAbs < 2 ^ 9000) : fMul (.int a) (.int b) = some (.int (a * b)) := by
  show (if a.natAbs.log2 + b.natAbs.log2 < 1000000 then some (D.int (a * b)) else none) = _
  have h1 := log2_lt ha (by decide)
  have h2 := log2_lt hb (by decide)
  rw [if_pos (by omega)]
/-- a fraction's data -/
def fr (q : Rat) : D := .tup [.int q.num, .int (q.den : Int)]
theorem fr_mk (a : Int) (b : Nat) (hb : 0 < b) : D.tup [.int (a / (Int.gcd a b : Nat)), .int ((b : Int) / (Int.gcd a b : Nat))] = fr (mkRat a b) := by
  unfold fr
  rw [Rat.num_mkRat, Rat.den_mkRat, if_neg (by omega), if_neg (by omega)]
  have e : Int.gcd a b = b.gcd a.natAbs := by
    show Nat.gcd a.natAbs (b : Int).natAbs = _
    rw [Int.natAbs_natCast, Nat.gcd_comm]
  rw [e]
  rfl
theorem lt_neg (b : Nat) : fLt (.int (b : Int)) (.int 0) = some (.bl false) := by
  show some (D.bl (decide ((b : Int) < 0))) = _
  rw [decide_eq_false (by omega)]
theorem len2 : ([D.non, D.non] : List D).length ≤ PySem.sizeLine := by decide
theorem part_ok (a : Int) (b : Nat) (Sx : S) (h0 : 0 < b) (hb : b < 2 ^ 2640) : f_part [.int a, .int (b : Int)] Sx = .ok (fr (mkRat a b)) Sx := by
  have hg : 0 < Int.gcd a b := Int.gcd_pos_of_ne_zero_right _ (by omega)
  have hg2 : Int.gcd a b ≤ b := Nat.le_of_dvd h0 (Int.gcd_dvd_natAbs_right a b)
  have hgs : ((Int.gcd a b : Nat) : Int).natAbs < 2 ^ 8999 := by
    rw [Int.natAbs_natCast]
    exact Nat.lt_of_le_of_lt hg2 (Nat.lt_of_lt_of_le hb (Nat.pow_le_pow_right (by decide) (by decide)))
  have d1 : fDiv (.int a) (.int ((Int.gcd a b : Nat) : Int)) = some (.int (a / (Int.gcd a b : Nat))) := fDiv_ok (by omega) hgs
  have d2 : fDiv (.int (b : Int)) (.int ((Int.gcd a b : Nat) : Int)) = some (.int ((b : Int) / (Int.gcd a b : Nat))) := fDiv_ok (by omega) hgs
  have dv := divisor_ok a b Sx (by rw [Int.natAbs_natCast]; exact hb)
  have two : (2 : Nat) ≤ PySem.sizeLine := by decide
  rw [← fr_mk a b h0]
  unfold f_part runF c_part
  simp [cSeq, cIf, mBool, mOp, bind_ap, mName, rb_ok, mC_ap, lt_neg, ofO_some, out_ok, pure_ap, cNil, cSet, mCall, mCons, mNil, dv, cRet, mTup, d1, d2, two]
end Law


set_option Elab.async false
set_option linter.all false
set_option maxRecDepth 100000
set_option maxHeartbeats 4000000
set_option exponentiation.threshold 10000
/-! M2: the operations of fractions. -/
namespace Law
open FP
theorem frloop (Sx : S) (u l : Slot) : ∀ (ds : List D) (a b : Nat) (x : Slot), ∃ y, forR (.nm 4) [4] (cSeq (cIf (mBool (mOp fEq (mName 3) (mC (.int 0)))) cBrk cNil) (cPar 2 3 false false (mName 3) (mOp fMod (mUn fInt (mName 2)) (mName 3)))) ds ⟨[u, l, .frz (.int a), .frz (.int b), x], Sx⟩ =
    .nx ⟨[u, l, .frz (.int ((euc ds.length a b).1 : Nat)), .frz (.int ((euc ds.length a b).2 : Nat)), y], Sx⟩ := by
  intro ds
  induction ds with
  | nil => intro a b x; exact ⟨x, rfl⟩
  | cons d ds ih =>
    intro a b x
    by_cases e : b = 0
    · subst e
      refine ⟨.frz d, ?_⟩
      simp [bind_ap, pure_ap, rb_ok, out_ok, ofO_some, mC_ap, a_seq, a_nil, a_pass, a_brk, a_if, a_ret, a_retN, a_drop, a_set, a_own, a_frz, a_tg, a_par, a_for, a_op, a_un, a_cons, a_mnil, a_call, a_tup, a_lst, a_bool, a_tru, a_mif, a_chain, a_it, a_rng2, a_part, mName, mRead, sl, forR, asgT, fEq_int, euc]
    · obtain ⟨y, hy⟩ := ih b (a % b) .none
      refine ⟨y, ?_⟩
      have e2 : euc (d :: ds).length a b = euc ds.length b (a % b) := by
        show euc (ds.length + 1) a b = _
        rw [euc, if_neg e]
      rw [e2]
      simp [bind_ap, pure_ap, rb_ok, out_ok, ofO_some, mC_ap, a_seq, a_nil, a_pass, a_brk, a_if, a_ret, a_retN, a_drop, a_set, a_own, a_frz, a_tg, a_par, a_for, a_op, a_un, a_cons, a_mnil, a_call, a_tup, a_lst, a_bool, a_tru, a_mif, a_chain, a_it, a_rng2, a_part, mName, mRead, sl, forR, asgT, fEq_int, e, fInt, fMod_nat e, kill, wipeΓ]
      exact hy
theorem euc_ok4 {a b : Nat} (hb : b < 2 ^ 2640) : (euc 4000 a b).2 = 0 := by
  show (euc (3999 + 1) a b).2 = 0
  unfold euc
  by_cases e : b = 0
  · rw [if_pos e]; exact e
  · rw [if_neg e]
    exact euc_ok (Nat.lt_trans (Nat.mod_lt _ (Nat.pos_of_ne_zero e)) hb)
theorem fr_ok (a : Int) (b : Nat) (Sx : S) (h0 : 0 < b) (hb : b < 2 ^ 2640) : f__law_fr [.int a, .int (b : Int)] Sx = .ok (fr (mkRat a b)) Sx := by
  have hg : 0 < Int.gcd a b := Int.gcd_pos_of_ne_zero_right _ (by omega)
  have hg2 : Int.gcd a b ≤ b := Nat.le_of_dvd h0 (Int.gcd_dvd_natAbs_right a b)
  have hgs : ((Int.gcd a b : Nat) : Int).natAbs < 2 ^ 8999 := by
    rw [Int.natAbs_natCast]
    exact Nat.lt_of_le_of_lt hg2 (Nat.lt_of_lt_of_le hb (Nat.pow_le_pow_right (by decide) (by decide)))
  have d1 : fDiv (.int a) (.int ((Int.gcd a b : Nat) : Int)) = some (.int (a / (Int.gcd a b : Nat))) := fDiv_ok (by omega) hgs
  have d2 : fDiv (.int (b : Int)) (.int ((Int.gcd a b : Nat) : Int)) = some (.int ((b : Int) / (Int.gcd a b : Nat))) := fDiv_ok (by omega) hgs
  have two : (2 : Nat) ≤ PySem.sizeLine := by decide
  obtain ⟨y, hy⟩ := frloop Sx (.frz (.int a)) (.frz (.int (b : Int))) (rng 0 4000) a.natAbs b .none
  have ln : (rng 0 4000).length = 4000 := by unfold rng; rw [List.length_map, List.length_range]
  rw [ln, euc_ok4 hb, euc_gcd _ _ _ (euc_ok4 hb)] at hy
  have e1 : ((Nat.gcd a.natAbs b : Nat) : Int) = ((Int.gcd a b : Nat) : Int) := rfl
  rw [e1] at hy
  rw [← fr_mk a b h0]
  unfold f__law_fr runF c__law_fr
  simp [bind_ap, pure_ap, rb_ok, out_ok, ofO_some, mC_ap, a_seq, a_nil, a_pass, a_brk, a_if, a_ret, a_retN, a_drop, a_set, a_own, a_frz, a_tg, a_par, a_for, a_op, a_un, a_cons, a_mnil, a_call, a_tup, a_lst, a_bool, a_tru, a_mif, a_chain, a_it, a_rng2, a_part, mName, mRead, sl, lt_neg, fAbs_int, rng1, hy, d1, d2, two]
/-- small enough -/
structure Sm (q : Rat) : Prop where
  n : q.num.natAbs < 2 ^ 1320
  d : q.den < 2 ^ 1320
theorem Sm.n9 {q : Rat} (h : Sm q) : q.num.natAbs < 2 ^ 9000 := Nat.lt_trans h.n (by decide)
theorem Sm.d9 {q : Rat} (h : Sm q) : ((q.den : Nat) : Int).natAbs < 2 ^ 9000 := by
  rw [Int.natAbs_natCast]
  exact Nat.lt_trans h.d (by decide)
theorem Sm.dd {p q : Rat} (hp : Sm p) (hq : Sm q) : p.den * q.den < 2 ^ 2640 := by
  rw [show 2640 = 1320 + 1320 from rfl, Nat.pow_add]
  exact Nat.mul_lt_mul'' hp.d hq.d
theorem dd0 (p q : Rat) : 0 < p.den * q.den := Nat.mul_pos p.den_pos q.den_pos
theorem fIx_fr0 (q : Rat) : fIx (fr q) (.int 0) = some (.int q.num) := rfl
theorem fIx_fr1 (q : Rat) : fIx (fr q) (.int 1) = some (.int (q.den : Int)) := rfl
theorem fAdd_int (i j : Int) : fAdd (.int i) (.int j) = some (.int (i + j)) := rfl
theorem fSub_int (i j : Int) : fSub (.int i) (.int j) = some (.int (i - j)) := rfl
section
variable {p q : Rat} (Sx : S) (hp : Sm p) (hq : Sm q)
include hp hq
theorem plus_ok : f_plus [fr p, fr q] Sx = .ok (fr (p + q)) Sx := by
  have m1 := fMul_ok hp.n9 hq.d9
  have m2 := fMul_ok hq.n9 hp.d9
  have m3 := fMul_ok hp.d9 hq.d9
  have pk := part_ok (p.num * q.den + q.num * p.den) (p.den * q.den) Sx (dd0 p q) (hp.dd hq)
  rw [← Rat.add_def', Int.natCast_mul] at pk
  unfold f_plus runF c_plus
  simp [bind_ap, pure_ap, rb_ok, out_ok, ofO_some, mC_ap, a_seq, a_nil, a_pass, a_brk, a_if, a_ret, a_retN, a_drop, a_set, a_own, a_frz, a_tg, a_par, a_for, a_op, a_un, a_cons, a_mnil, a_call, a_tup, a_lst, a_bool, a_tru, a_mif, a_chain, a_it, a_rng2, a_part, mName, mRead, sl, fIx_fr0, fIx_fr1, m1, m2, m3, fAdd_int, pk]
theorem times_ok : f_times [fr p, fr q] Sx = .ok (fr (p * q)) Sx := by
  have m1 := fMul_ok hp.n9 hq.n9
  have m3 := fMul_ok hp.d9 hq.d9
  have pk := part_ok (p.num * q.num) (p.den * q.den) Sx (dd0 p q) (hp.dd hq)
  rw [← Rat.mul_def', Int.natCast_mul] at pk
  unfold f_times runF c_times
  simp [bind_ap, pure_ap, rb_ok, out_ok, ofO_some, mC_ap, a_seq, a_nil, a_pass, a_brk, a_if, a_ret, a_retN, a_drop, a_set, a_own, a_frz, a_tg, a_par, a_for, a_op, a_un, a_cons, a_mnil, a_call, a_tup, a_lst, a_bool, a_tru, a_mif, a_chain, a_it, a_rng2, a_part, mName, mRead, sl, fIx_fr0, fIx_fr1, m1, m3, pk]
theorem ladd_ok : f__law_add [fr p, fr q] Sx = .ok (fr (p + q)) Sx := by
  have m1 := fMul_ok hp.n9 hq.d9
  have m2 := fMul_ok hq.n9 hp.d9
  have m3 := fMul_ok hp.d9 hq.d9
  have pk := fr_ok (p.num * q.den + q.num * p.den) (p.den * q.den) Sx (dd0 p q) (hp.dd hq)
  rw [← Rat.add_def', Int.natCast_mul] at pk
  unfold f__law_add runF c__law_add
  simp [bind_ap, pure_ap, rb_ok, out_ok, ofO_some, mC_ap, a_seq, a_nil, a_pass, a_brk, a_if, a_ret, a_retN, a_drop, a_set, a_own, a_frz, a_tg, a_par, a_for, a_op, a_un, a_cons, a_mnil, a_call, a_tup, a_lst, a_bool, a_tru, a_mif, a_chain, a_it, a_rng2, a_part, mName, mRead, sl, fIx_fr0, fIx_fr1, m1, m2, m3, fAdd_int, pk]
theorem lmul_ok : f__law_mul [fr p, fr q] Sx = .ok (fr (p * q)) Sx := by
  have m1 := fMul_ok hp.n9 hq.n9
  have m3 := fMul_ok hp.d9 hq.d9
  have pk := fr_ok (p.num * q.num) (p.den * q.den) Sx (dd0 p q) (hp.dd hq)
  rw [← Rat.mul_def', Int.natCast_mul] at pk
  unfold f__law_mul runF c__law_mul
  simp [bind_ap, pure_ap, rb_ok, out_ok, ofO_some, mC_ap, a_seq, a_nil, a_pass, a_brk, a_if, a_ret, a_retN, a_drop, a_set, a_own, a_frz, a_tg, a_par, a_for, a_op, a_un, a_cons, a_mnil, a_call, a_tup, a_lst, a_bool, a_tru, a_mif, a_chain, a_it, a_rng2, a_part, mName, mRead, sl, fIx_fr0, fIx_fr1, m1, m3, pk]
theorem lless_ok : f__law_less [fr p, fr q] Sx = .ok (.bl (decide (p < q))) Sx := by
  have m1 := fMul_ok hp.n9 hq.d9
  have m2 := fMul_ok hq.n9 hp.d9
  have e : decide (p < q) = decide (p.num * q.den < q.num * p.den) := by rw [Bool.eq_iff_iff]; simp [Rat.lt_iff]
  rw [e]
  unfold f__law_less runF c__law_less
  simp [bind_ap, pure_ap, rb_ok, out_ok, ofO_some, mC_ap, a_seq, a_nil, a_pass, a_brk, a_if, a_ret, a_retN, a_drop, a_set, a_own, a_frz, a_tg, a_par, a_for, a_op, a_un, a_cons, a_mnil, a_call, a_tup, a_lst, a_bool, a_tru, a_mif, a_chain, a_it, a_rng2, a_part, mName, mRead, sl, fIx_fr0, fIx_fr1, m1, m2, fLt]
end
end Law


set_option Elab.async false
set_option linter.all false
set_option maxRecDepth 100000
set_option maxHeartbeats 4000000
set_option exponentiation.threshold 10000
/-! M3: sums and products of fractions. -/
namespace Law
open FP
/-- partial sums, partial products are small -/
def sumOk (a : Rat) : List Rat → Prop
  | [] => True
  | p :: ps => Sm p ∧ Sm (a + p) ∧ sumOk (a + p) ps
def prodOk (a : Rat) : List Rat → Prop
  | [] => True
  | p :: ps => Sm p ∧ Sm (a * p) ∧ prodOk (a * p) ps
def rsum : List Rat → Rat
  | [] => 0
  | p :: ps => p + rsum ps
def rprod : List Rat → Rat
  | [] => 1
  | p :: ps => p * rprod ps
theorem sm0 : Sm 0 := ⟨by decide, by decide⟩
theorem sm1 : Sm 1 := ⟨by decide, by decide⟩
theorem fr0 : fr 0 = .tup [.int 0, .int 1] := rfl
theorem fr1 : fr 1 = .tup [.int 1, .int 1] := rfl
theorem two : (2 : Nat) ≤ PySem.sizeLine := by decide
theorem total_loop (Sx : S) (r : Slot) : ∀ (ps : List Rat) (a : Rat), Sm a → sumOk a ps → forR (.nm 2) [2] (cSet 1 (mCall 2 f_plus (mCons (mName 1) (mCons (mName 2) mNil)))) (ps.map fr) ⟨[r, .frz (fr a), .none], Sx⟩ = .nx ⟨[r, .frz (fr (a + rsum ps)), .none], Sx⟩
  | [], a, _, _ => by simp [forR, rsum, Rat.add_zero]
  | p :: ps, a, ha, ⟨h1, h2, h3⟩ => by
    have ih := total_loop Sx r ps (a + p) h2 h3
    rw [Rat.add_assoc] at ih
    have := plus_ok Sx ha h1
    simp [bind_ap, pure_ap, rb_ok, out_ok, ofO_some, mC_ap, a_seq, a_nil, a_pass, a_brk, a_if, a_ret, a_retN, a_drop, a_set, a_own, a_frz, a_tg, a_par, a_for, a_op, a_un, a_cons, a_mnil, a_call, a_tup, a_lst, a_bool, a_tru, a_mif, a_chain, a_it, a_rng2, a_part, mName, mRead, sl, forR, asgT, this, kill, wipeΓ, rsum]
    exact ih
theorem total_ok (Sx : S) (ps : List Rat) (h : sumOk 0 ps) : f_total [.lst (ps.map fr)] Sx = .ok (fr (rsum ps)) Sx := by
  have := total_loop Sx (.frz (.lst (ps.map fr))) ps 0 sm0 h
  rw [Rat.zero_add, fr0] at this
  unfold f_total runF c_total
  simp [bind_ap, pure_ap, rb_ok, out_ok, ofO_some, mC_ap, a_seq, a_nil, a_pass, a_brk, a_if, a_ret, a_retN, a_drop, a_set, a_own, a_frz, a_tg, a_par, a_for, a_op, a_un, a_cons, a_mnil, a_call, a_tup, a_lst, a_bool, a_tru, a_mif, a_chain, a_it, a_rng2, a_part, mName, mRead, sl, two, lstOf, this]
theorem lsum_loop (Sx : S) (r : Slot) : ∀ (ps : List Rat) (a : Rat), Sm a → sumOk a ps → forR (.nm 2) [2] (cSet 1 (mCall 2 f__law_add (mCons (mName 1) (mCons (mName 2) mNil)))) (ps.map fr) ⟨[r, .frz (fr a), .none], Sx⟩ = .nx ⟨[r, .frz (fr (a + rsum ps)), .none], Sx⟩
  | [], a, _, _ => by simp [forR, rsum, Rat.add_zero]
  | p :: ps, a, ha, ⟨h1, h2, h3⟩ => by
    have ih := lsum_loop Sx r ps (a + p) h2 h3
    rw [Rat.add_assoc] at ih
    have := ladd_ok Sx ha h1
    simp [bind_ap, pure_ap, rb_ok, out_ok, ofO_some, mC_ap, a_seq, a_nil, a_pass, a_brk, a_if, a_ret, a_retN, a_drop, a_set, a_own, a_frz, a_tg, a_par, a_for, a_op, a_un, a_cons, a_mnil, a_call, a_tup, a_lst, a_bool, a_tru, a_mif, a_chain, a_it, a_rng2, a_part, mName, mRead, sl, forR, asgT, this, kill, wipeΓ, rsum]
    exact ih
theorem lsum_ok (Sx : S) (ps : List Rat) (h : sumOk 0 ps) : f__law_sum [.lst (ps.map fr)] Sx = .ok (fr (rsum ps)) Sx := by
  have := lsum_loop Sx (.frz (.lst (ps.map fr))) ps 0 sm0 h
  rw [Rat.zero_add, fr0] at this
  unfold f__law_sum runF c__law_sum
  simp [bind_ap, pure_ap, rb_ok, out_ok, ofO_some, mC_ap, a_seq, a_nil, a_pass, a_brk, a_if, a_ret, a_retN, a_drop, a_set, a_own, a_frz, a_tg, a_par, a_for, a_op, a_un, a_cons, a_mnil, a_call, a_tup, a_lst, a_bool, a_tru, a_mif, a_chain, a_it, a_rng2, a_part, mName, mRead, sl, two, lstOf, this]
theorem product_loop (Sx : S) (r : Slot) : ∀ (ps : List Rat) (a : Rat), Sm a → prodOk a ps → forR (.nm 2) [2] (cSet 1 (mCall 2 f_times (mCons (mName 1) (mCons (mName 2) mNil)))) (ps.map fr) ⟨[r, .frz (fr a), .none], Sx⟩ = .nx ⟨[r, .frz (fr (a * rprod ps)), .none], Sx⟩
  | [], a, _, _ => by simp [forR, rprod, Rat.mul_one]
  | p :: ps, a, ha, ⟨h1, h2, h3⟩ => by
    have ih := product_loop Sx r ps (a * p) h2 h3
    rw [Rat.mul_assoc] at ih
    have := times_ok Sx ha h1
    simp [bind_ap, pure_ap, rb_ok, out_ok, ofO_some, mC_ap, a_seq, a_nil, a_pass, a_brk, a_if, a_ret, a_retN, a_drop, a_set, a_own, a_frz, a_tg, a_par, a_for, a_op, a_un, a_cons, a_mnil, a_call, a_tup, a_lst, a_bool, a_tru, a_mif, a_chain, a_it, a_rng2, a_part, mName, mRead, sl, forR, asgT, this, kill, wipeΓ, rprod]
    exact ih
theorem ltimes_loop (Sx : S) (r : Slot) : ∀ (ps : List Rat) (a : Rat), Sm a → prodOk a ps → forR (.nm 2) [2] (cSet 1 (mCall 2 f__law_mul (mCons (mName 1) (mCons (mName 2) mNil)))) (ps.map fr) ⟨[r, .frz (fr a), .none], Sx⟩ = .nx ⟨[r, .frz (fr (a * rprod ps)), .none], Sx⟩
  | [], a, _, _ => by simp [forR, rprod, Rat.mul_one]
  | p :: ps, a, ha, ⟨h1, h2, h3⟩ => by
    have ih := ltimes_loop Sx r ps (a * p) h2 h3
    rw [Rat.mul_assoc] at ih
    have := lmul_ok Sx ha h1
    simp [bind_ap, pure_ap, rb_ok, out_ok, ofO_some, mC_ap, a_seq, a_nil, a_pass, a_brk, a_if, a_ret, a_retN, a_drop, a_set, a_own, a_frz, a_tg, a_par, a_for, a_op, a_un, a_cons, a_mnil, a_call, a_tup, a_lst, a_bool, a_tru, a_mif, a_chain, a_it, a_rng2, a_part, mName, mRead, sl, forR, asgT, this, kill, wipeΓ, rprod]
    exact ih
/-! power -/
def powOk (a p : Rat) : Nat → Prop
  | 0 => True
  | n + 1 => Sm (a * p) ∧ powOk (a * p) p n
theorem power_loop (Sx : S) (r t : Slot) (p : Rat) (hp : Sm p) (hr : r = .frz (fr p)) : ∀ (ds : List D) (a : Rat), Sm a → powOk a p ds.length → forR (.nm 3) [3] (cSet 2 (mCall 2 f_times (mCons (mName 2) (mCons (mName 0) mNil)))) ds ⟨[r, t, .frz (fr a), .none], Sx⟩ = .nx ⟨[r, t, .frz (fr (a * p ^ ds.length)), .none], Sx⟩
  | [], a, _, _ => by simp [forR, Rat.mul_one, Rat.pow_zero]
  | d :: ds, a, ha, ⟨h1, h2⟩ => by
    have ih := power_loop Sx r t p hp hr ds (a * p) h1 h2
    rw [Rat.mul_assoc, show p * p ^ ds.length = p ^ (d :: ds).length by rw [List.length_cons, Rat.pow_succ, Rat.mul_comm]] at ih
    have := times_ok Sx ha hp
    subst hr
    simp [bind_ap, pure_ap, rb_ok, out_ok, ofO_some, mC_ap, a_seq, a_nil, a_pass, a_brk, a_if, a_ret, a_retN, a_drop, a_set, a_own, a_frz, a_tg, a_par, a_for, a_op, a_un, a_cons, a_mnil, a_call, a_tup, a_lst, a_bool, a_tru, a_mif, a_chain, a_it, a_rng2, a_part, mName, mRead, sl, forR, asgT, this, kill, wipeΓ]
    exact ih
theorem rng_len (lo : Int) (n : Nat) : (rng lo n).length = n := by unfold rng; rw [List.length_map, List.length_range]
theorem rng1_ok {n : Nat} (h : n ≤ 1000) : rng1 (.int (n : Int)) = some (rng 0 n) := by
  unfold rng1
  have e1 : -(2 ^ 62 : Int) ≤ (n : Int) := by omega
  have e2 : (n : Int) < 2 ^ 62 := by omega
  simp only [e1, e2, and_self, if_true, Int.toNat_natCast]
theorem power1 (Sx : S) (p : Rat) (n : Nat) (x : D) (hp : Sm p) (h : powOk 1 p n) : forR (.nm 3) [3] (cSet 2 (mCall 2 f_times (mCons (mName 2) (mCons (mName 0) mNil)))) (rng 0 n) ⟨[.frz (fr p), .frz x, .frz (fr 1), .none], Sx⟩ = .nx ⟨[.frz (fr p), .frz x, .frz (fr (1 * p ^ (rng 0 n).length)), .none], Sx⟩ := by
  exact power_loop Sx (.frz (fr p)) (.frz x) p hp rfl (rng 0 n) 1 sm1 (by rw [rng_len]; exact h)
theorem power2 (Sx : S) (p : Rat) (n : Nat) (x : D) (hp : Sm p) (h : powOk 1 p n) : forR (.nm 3) [3] (cSet 2 (mCall 2 f_times (mCons (mName 2) (mCons (mName 0) mNil)))) (rng 0 n) ⟨[.frz (fr p), .frz x, .frz (.tup [.int 1, .int 1]), .none], Sx⟩ = .nx ⟨[.frz (fr p), .frz x, .frz (fr (p ^ n)), .none], Sx⟩ := by
  have := power1 Sx p n x hp h
  rw [Rat.one_mul, fr1, rng_len] at this
  exact this
theorem power3 (Sx : S) (p : Rat) (n : Nat) (x : D) (hr : rng1 x = some (rng 0 n)) (q : D) (this : forR (.nm 3) [3] (cSet 2 (mCall 2 f_times (mCons (mName 2) (mCons (mName 0) mNil)))) (rng 0 n) ⟨[.frz (fr p), .frz x, .frz (.tup [.int 1, .int 1]), .none], Sx⟩ = .nx ⟨[.frz (fr p), .frz x, .frz q, .none], Sx⟩) : f_power [fr p, x] Sx = .ok q Sx := by
  unfold f_power runF c_power
  simp [bind_ap, pure_ap, rb_ok, out_ok, ofO_some, mC_ap, a_seq, a_nil, a_pass, a_brk, a_if, a_ret, a_retN, a_drop, a_set, a_own, a_frz, a_tg, a_par, a_for, a_op, a_un, a_cons, a_mnil, a_call, a_tup, a_lst, a_bool, a_tru, a_mif, a_chain, a_it, a_rng2, a_part, mName, mRead, sl, two, hr, this]
theorem power_ok (Sx : S) (p : Rat) (n : Nat) (hn : n ≤ 1000) (hp : Sm p) (h : powOk 1 p n) : f_power [fr p, .int (n : Int)] Sx = .ok (fr (p ^ n)) Sx :=
  power3 Sx p n _ (rng1_ok hn) _ (power2 Sx p n _ hp h)
end Law


set_option Elab.async false
set_option linter.all false
set_option maxRecDepth 100000
set_option maxHeartbeats 4000000
set_option exponentiation.threshold 10000
/-! M4: chances: numbers from 0 to 1 whose denominators divide a known number. -/
namespace Law
open FP
structure Pb (M : Nat) (q : Rat) : Prop where
  i : ∃ k : Int, q * (M : Rat) = (k : Rat)
  lo : 0 ≤ q
  hi : q ≤ 1
theorem Pb.den {M : Nat} {q : Rat} (h : Pb M q) (hM : 0 < M) : q.den ≤ M := by
  obtain ⟨k, hk⟩ := h.i
  have hM0 : (M : Rat) ≠ 0 := fun z => by
    have := Rat.natCast_pos.mpr hM
    rw [z] at this; exact Rat.lt_irrefl this
  have e : q = mkRat k M := by
    rw [Rat.mkRat_eq_div, ← hk, Rat.mul_div_cancel hM0]
  rw [e, Rat.den_mkRat, if_neg (by omega)]
  exact Nat.div_le_self _ _
theorem Pb.sm {M : Nat} {q : Rat} (h : Pb M q) (hM : 0 < M) (hb : M < 2 ^ 1320) : Sm q := by
  have hd := h.den hM
  refine ⟨?_, by omega⟩
  have h1 := (Rat.le_iff q 1).mp h.hi
  have h2 := Rat.num_nonneg.mpr h.lo
  rw [Rat.one_num, Rat.one_den] at h1
  have : q.num.natAbs ≤ q.den := by omega
  omega
theorem Pb.mul {M N : Nat} {p q : Rat} (h : Pb M p) (h' : Pb N q) : Pb (M * N) (p * q) := by
  obtain ⟨⟨k, hk⟩, l1, u1⟩ := h
  obtain ⟨⟨j, hj⟩, l2, u2⟩ := h'
  refine ⟨⟨k * j, ?_⟩, Rat.mul_nonneg l1 l2, ?_⟩
  · rw [Rat.intCast_mul, ← hk, ← hj, Rat.natCast_mul]; grind
  · have := Rat.mul_le_mul_of_nonneg_left u2 l1
    rw [Rat.mul_one] at this
    exact Rat.le_trans this u1
theorem Pb.one (M : Nat) : Pb M 1 := ⟨⟨M, by rw [Rat.one_mul]; rfl⟩, by decide, by decide⟩
theorem Pb.zero (M : Nat) : Pb M 0 := ⟨⟨0, by rw [Rat.zero_mul]; rfl⟩, by decide, by decide⟩
theorem Pb.dvd {M N : Nat} {q : Rat} (h : Pb M q) (d : M ∣ N) : Pb N q := by
  obtain ⟨c, rfl⟩ := d
  obtain ⟨⟨k, hk⟩, l1, u1⟩ := h
  refine ⟨⟨k * c, ?_⟩, l1, u1⟩
  rw [Rat.natCast_mul, Rat.intCast_mul, ← hk, Rat.mul_assoc]; rfl
theorem Pb.pow {M : Nat} {q : Rat} (h : Pb M q) : ∀ n : Nat, Pb (M ^ n) (q ^ n)
  | 0 => by rw [Rat.pow_zero]; exact Pb.one _
  | n + 1 => by rw [Rat.pow_succ, Nat.pow_succ]; exact (Pb.pow h n).mul h
theorem Pb.sub {M : Nat} {p q : Rat} (h : Pb M p) (h' : Pb M q) (l : q ≤ p) : Pb M (p - q) := by
  obtain ⟨⟨k, hk⟩, l1, u1⟩ := h
  obtain ⟨⟨j, hj⟩, l2, u2⟩ := h'
  refine ⟨⟨k - j, ?_⟩, by grind, by grind⟩
  rw [Rat.intCast_sub, ← hk, ← hj]; grind
theorem Pb.not {M : Nat} {q : Rat} (h : Pb M q) : Pb M (1 - q) := (Pb.one M).sub h h.hi
/-! sums -/
structure Ig (M : Nat) (c : Nat) (q : Rat) : Prop where
  i : ∃ k : Int, q * (M : Rat) = (k : Rat)
  lo : 0 ≤ q
  hi : q ≤ (c : Rat)
theorem Ig.sm {M c : Nat} {q : Rat} (h : Ig M c q) (hM : 0 < M) (hc : c ≤ 1024) (hb : M < 2 ^ 1310) : Sm q := by
  obtain ⟨k, hk⟩ := h.i
  have hM0 : (M : Rat) ≠ 0 := fun z => by
    have := Rat.natCast_pos.mpr hM
    rw [z] at this; exact Rat.lt_irrefl this
  have e : q = mkRat k M := by
    rw [Rat.mkRat_eq_div, ← hk, Rat.mul_div_cancel hM0]
  have hd : q.den ≤ M := by
    rw [e, Rat.den_mkRat, if_neg (by omega)]
    exact Nat.div_le_self _ _
  have b10 : (2 : Nat) ^ 1320 = 1024 * 2 ^ 1310 := by rw [show 1320 = 10 + 1310 from rfl, Nat.pow_add]
  have h1 := (Rat.le_iff q c).mp h.hi
  have h2 := Rat.num_nonneg.mpr h.lo
  rw [Rat.num_natCast, Rat.den_natCast] at h1
  have h3 : q.num.natAbs ≤ c * q.den := by omega
  have h4 : c * q.den ≤ 1024 * M := Nat.mul_le_mul hc hd
  exact ⟨by omega, by omega⟩
theorem Ig.add {M c : Nat} {p q : Rat} (h : Ig M c p) (h' : Pb M q) : Ig M (c + 1) (p + q) := by
  obtain ⟨⟨k, hk⟩, l1, u1⟩ := h
  obtain ⟨⟨j, hj⟩, l2, u2⟩ := h'
  refine ⟨⟨k + j, ?_⟩, Rat.add_nonneg l1 l2, ?_⟩
  · rw [Rat.intCast_add, ← hk, ← hj]; grind
  · rw [Rat.natCast_add]
    have : ((1 : Nat) : Rat) = 1 := rfl
    grind
theorem sumOk_of {M : Nat} (hM : 0 < M) (hb : M < 2 ^ 1310) : ∀ (ps : List Rat) (c : Nat) (a : Rat), Ig M c a → c + ps.length ≤ 1024 → (∀ p ∈ ps, Pb M p) → sumOk a ps
  | [], _, _, _, _, _ => trivial
  | p :: ps, c, a, h, hl, hp => by
    have h1 := hp p List.mem_cons_self
    have h2 := h.add h1
    rw [List.length_cons] at hl
    exact ⟨h1.sm hM (Nat.lt_trans hb (by decide)), h2.sm hM (by omega) hb, sumOk_of hM hb ps (c + 1) (a + p) h2 (by omega) fun q hq => hp q (List.mem_cons_of_mem _ hq)⟩
theorem Ig.zero (M : Nat) : Ig M 0 0 := ⟨⟨0, by rw [Rat.zero_mul]; rfl⟩, by decide, by decide⟩
theorem sumOk0 {M : Nat} {ps : List Rat} (hM : 0 < M) (hb : M < 2 ^ 1310) (hl : ps.length ≤ 1000) (hp : ∀ p ∈ ps, Pb M p) : sumOk 0 ps := sumOk_of hM hb ps 0 0 (Ig.zero M) (by omega) hp
/-! products: each with its own number -/
def mprod : List Nat → Nat
  | [] => 1
  | m :: ms => m * mprod ms
inductive Pbs : List Nat → List Rat → Prop
  | nil : Pbs [] []
  | cons {m : Nat} {ms : List Nat} {q : Rat} {qs : List Rat} : Pb m q → 0 < m → Pbs ms qs → Pbs (m :: ms) (q :: qs)
theorem mprod_pos : ∀ {ms : List Nat} {qs : List Rat}, Pbs ms qs → 0 < mprod ms
  | _, _, .nil => by decide
  | _, _, .cons _ h r => Nat.mul_pos h (mprod_pos r)
theorem Pbs.prod : ∀ {ms : List Nat} {qs : List Rat}, Pbs ms qs → Pb (mprod ms) (rprod qs)
  | _, _, .nil => Pb.one _
  | _, _, .cons h _ r => h.mul (Pbs.prod r)
theorem prodOk_of : ∀ {ms : List Nat} {qs : List Rat} {M : Nat} {a : Rat}, Pbs ms qs → Pb M a → 0 < M → M * mprod ms < 2 ^ 1320 → prodOk a qs
  | _, _, _, _, .nil, _, _, _ => trivial
  | m :: ms, q :: qs, M, a, .cons h h0 r, ha, hM, hb => by
    have p0 := mprod_pos r
    have e : M * mprod (m :: ms) = M * m * mprod ms := by show M * (m * mprod ms) = _; rw [Nat.mul_assoc]
    rw [e] at hb
    have hMm : 0 < M * m := Nat.mul_pos hM h0
    have b1 : M * m < 2 ^ 1320 := Nat.lt_of_le_of_lt (Nat.le_mul_of_pos_right _ p0) hb
    have b2 : m < 2 ^ 1320 := Nat.lt_of_le_of_lt (Nat.le_mul_of_pos_left _ hM) b1
    exact ⟨h.sm h0 b2, (ha.mul h).sm hMm b1, prodOk_of r (ha.mul h) hMm hb⟩
theorem prodOk1 {ms : List Nat} {qs : List Rat} (h : Pbs ms qs) (hb : mprod ms < 2 ^ 1320) : prodOk 1 qs := prodOk_of h (Pb.one 1) (by decide) (by rw [Nat.one_mul]; exact hb)
theorem powOk_of {N : Nat} {q : Rat} (hq : Pb N q) (hN : 0 < N) : ∀ (n : Nat) {M : Nat} {a : Rat}, Pb M a → 0 < M → M * N ^ n < 2 ^ 1320 → powOk a q n
  | 0, _, _, _, _, _ => trivial
  | n + 1, M, a, ha, hM, hb => by
    have e : M * N ^ (n + 1) = M * N * N ^ n := by rw [Nat.pow_succ, Nat.mul_comm (N ^ n), Nat.mul_assoc]
    rw [e] at hb
    have hMN : 0 < M * N := Nat.mul_pos hM hN
    have b1 : M * N < 2 ^ 1320 := Nat.lt_of_le_of_lt (Nat.le_mul_of_pos_right _ (Nat.pow_pos hN)) hb
    exact ⟨(ha.mul hq).sm hMN b1, powOk_of hq hN n (ha.mul hq) hMN hb⟩
end Law


set_option Elab.async false
set_option linter.all false
set_option maxRecDepth 100000
set_option maxHeartbeats 4000000
set_option exponentiation.threshold 10000
/-! M5: comprehensions, plain and with draws. -/
namespace Law
open FP
theorem restore_eq {Γ Γ' : List Slot} {vs : List Nat} (h : wipeΓ Γ' vs = wipeΓ Γ vs) : restore Γ Γ' vs = Γ := by
  have hl : Γ'.length = Γ.length := by rw [← wipeΓ_length Γ' vs, h, wipeΓ_length]
  have keep : ∀ (Γ : List Slot) (vs : List Nat) (j : Nat), j ∉ vs → (wipeΓ Γ vs)[j]? = Γ[j]? := by
    intro Γ vs j
    induction vs with
    | nil => intro _; rfl
    | cons v vs ih =>
      intro h
      unfold wipeΓ
      rw [List.getElem?_set_ne (fun e => h (by rw [e]; exact List.mem_cons_self)), ih fun z => h (List.mem_cons_of_mem _ z)]
  apply List.ext_getElem?
  intro j
  unfold restore
  rw [List.getElem?_mapIdx]
  by_cases hj : j ∈ vs
  · cases e : Γ'[j]? with
    | none =>
      have := List.getElem?_eq_none_iff.mp e
      rw [List.getElem?_eq_none (by omega)]; rfl
    | some s =>
      have hj2 : j < Γ.length := by rw [← hl]; exact (List.getElem?_eq_some_iff.mp e).1
      show some (if j ∈ vs then Γ.getD j .none else s) = _
      rw [if_pos hj, List.getD_eq_getElem?_getD, List.getElem?_eq_getElem hj2]; rfl
  · rw [← keep Γ vs j hj, ← h, keep Γ' vs j hj]
    cases e : Γ'[j]? with
    | none => rfl
    | some s =>
      show some (if j ∈ vs then Γ.getD j .none else s) = _
      rw [if_neg hj]
/-- one turn that leaves the state as it is -/
def Step (vs : List Nat) (tg : Tg) (mt : M Bool) (me : M D) (Γ : List Slot) (Sx : S) (t : D → Bool) (f : D → D) (d : D) : Prop :=
  ∃ Γd, asgT tg d (wipeΓ Γ vs) = some Γd ∧ wipeΓ Γd vs = wipeΓ Γ vs ∧ mt ⟨Γd, Sx⟩ = .ok (t d) ⟨Γd, Sx⟩ ∧ (t d = true → me ⟨Γd, Sx⟩ = .ok (f d) ⟨Γd, Sx⟩)
theorem lcR_ok {vs : List Nat} {tg : Tg} {mt : M Bool} {me : M D} {Γ : List Slot} {Sx : S} {t : D → Bool} {f : D → D} : ∀ (ds acc : List D) (Γ' : List Slot), (∀ d ∈ ds, Step vs tg mt me Γ Sx t f d) → acc.length + ds.length ≤ PySem.sizeLine → wipeΓ Γ' vs = wipeΓ Γ vs →
    ∃ Γ2, lcR vs tg mt me ds acc ⟨Γ', Sx⟩ = .ok (acc ++ (ds.filter t).map f) ⟨Γ2, Sx⟩ ∧ wipeΓ Γ2 vs = wipeΓ Γ vs
  | [], acc, Γ', _, _, hw => ⟨Γ', by simp [lcR, pure_ap], hw⟩
  | d :: ds, acc, Γ', hs, hl, hw => by
    obtain ⟨Γd, h1, h2, h3, h4⟩ := hs d List.mem_cons_self
    rw [List.length_cons] at hl
    have hr : ∀ e ∈ ds, Step vs tg mt me Γ Sx t f e := fun e he => hs e (List.mem_cons_of_mem _ he)
    have e3 : nox mt ⟨Γd, Sx⟩ = .ok (t d) ⟨Γd, Sx⟩ := by unfold nox; rw [h3]
    unfold lcR
    simp only [hw, h1, e3, rb_ok]
    cases ht : t d with
    | false =>
      obtain ⟨Γ2, g1, g2⟩ := lcR_ok ds acc Γd hr (by omega) h2
      refine ⟨Γ2, ?_, g2⟩
      rw [if_neg (by decide), List.filter_cons_of_neg (by rw [ht]; decide)]
      exact g1
    | true =>
      have e4 : nox me ⟨Γd, Sx⟩ = .ok (f d) ⟨Γd, Sx⟩ := by unfold nox; rw [h4 ht]
      obtain ⟨Γ2, g1, g2⟩ := lcR_ok ds (acc ++ [f d]) Γd hr (by rw [List.length_append, List.length_singleton]; omega) h2
      refine ⟨Γ2, ?_, g2⟩
      rw [if_pos rfl, List.filter_cons_of_pos ht]
      simp only [bind_ap, e4, rb_ok]
      rw [if_pos (by omega), g1, List.map_cons, List.append_assoc]
      rfl
theorem mLc_f {vs : List Nat} {tg : Tg} {mi : M (List D)} {mt : M Bool} {me : M D} {Γ : List Slot} {Sx : S} {ds : List D} (t : D → Bool) (f : D → D) (hi : mi ⟨Γ, Sx⟩ = .ok ds ⟨Γ, Sx⟩) (hl : ds.length ≤ 100000) (hs : ∀ d ∈ ds, Step vs tg mt me Γ Sx t f d) :
    mLc vs tg mi mt me ⟨Γ, Sx⟩ = .ok (.lst ((ds.filter t).map f)) ⟨Γ, Sx⟩ := by
  obtain ⟨Γ2, h1, h2⟩ := lcR_ok ds [] Γ hs (by rw [List.length_nil, PySem.sizeLine_eq]; omega) rfl
  rw [a_lc, hi, rb_ok, h1, rb_ok, restore_eq h2]
  rfl
/-- one turn, no test -/
def StepP (vs : List Nat) (tg : Tg) (me : M D) (Γ : List Slot) (Sx : S) (f : D → D) (d : D) : Prop :=
  ∃ Γd, asgT tg d (wipeΓ Γ vs) = some Γd ∧ wipeΓ Γd vs = wipeΓ Γ vs ∧ me ⟨Γd, Sx⟩ = .ok (f d) ⟨Γd, Sx⟩
theorem mLc_m {vs : List Nat} {tg : Tg} {mi : M (List D)} {me : M D} {Γ : List Slot} {Sx : S} {ds : List D} (f : D → D) (hi : mi ⟨Γ, Sx⟩ = .ok ds ⟨Γ, Sx⟩) (hl : ds.length ≤ 100000) (hs : ∀ d ∈ ds, StepP vs tg me Γ Sx f d) :
    mLc vs tg mi (M.pure true) me ⟨Γ, Sx⟩ = .ok (.lst (ds.map f)) ⟨Γ, Sx⟩ := by
  have := mLc_f (mt := M.pure true) (fun _ => true) f hi hl fun d hd => by
    obtain ⟨Γd, h1, h2, h3⟩ := hs d hd
    exact ⟨Γd, h1, h2, rfl, fun _ => h3⟩
  rw [List.filter_eq_self.mpr (fun _ _ => rfl)] at this
  exact this
/-- with draws: J i S: the state behind i turns -/
theorem lcR_st {vs : List Nat} {tg : Tg} {me : M D} {Γ : List Slot} {P : D → D → Prop} (J : Nat → S → Prop) : ∀ (ds acc : List D) (i : Nat) (Γ' : List Slot) (Sx : S), J i Sx → (∀ (j : Nat) (d : D) (Sy : S), ds[j]? = some d → J (i + j) Sy → ∃ Γd y Sz, asgT tg d (wipeΓ Γ vs) = some Γd ∧ wipeΓ Γd vs = wipeΓ Γ vs ∧ me ⟨Γd, Sy⟩ = .ok y ⟨Γd, Sz⟩ ∧ P d y ∧ J (i + j + 1) Sz) →
    acc.length + ds.length ≤ PySem.sizeLine → wipeΓ Γ' vs = wipeΓ Γ vs → ∃ Γ2 ys Sz, lcR vs tg (M.pure true) me ds acc ⟨Γ', Sx⟩ = .ok (acc ++ ys) ⟨Γ2, Sz⟩ ∧ wipeΓ Γ2 vs = wipeΓ Γ vs ∧ ys.length = ds.length ∧ (∀ (j : Nat) (d y : D), ds[j]? = some d → ys[j]? = some y → P d y) ∧ J (i + ds.length) Sz
  | [], acc, i, Γ', Sx, hJ, _, _, hw => ⟨Γ', [], Sx, by simp [lcR, pure_ap], hw, rfl, fun j d y h => by simp at h, by simpa using hJ⟩
  | d :: ds, acc, i, Γ', Sx, hJ, hs, hl, hw => by
    obtain ⟨Γd, y, Sz, h1, h2, h3, h4, h5⟩ := hs 0 d Sx rfl (by simpa using hJ)
    rw [List.length_cons] at hl
    have e4 : nox me ⟨Γd, Sx⟩ = .ok y ⟨Γd, Sz⟩ := by unfold nox; rw [h3]
    obtain ⟨Γ2, ys, S2, g1, g2, g3, g4, g5⟩ := lcR_st J ds (acc ++ [y]) (i + 1) Γd Sz (by simpa using h5) (fun j e Sy he hj => by
      have := hs (j + 1) e Sy (by simpa using he) (by rw [show i + (j + 1) = i + 1 + j by omega]; exact hj)
      rw [show i + (j + 1) = i + 1 + j by omega] at this
      exact this) (by rw [List.length_append, List.length_singleton]; omega) h2
    refine ⟨Γ2, y :: ys, S2, ?_, g2, by rw [List.length_cons, List.length_cons, g3], fun j e z he hz => ?_, by rw [List.length_cons, show i + (ds.length + 1) = i + 1 + ds.length by omega]; exact g5⟩
    · unfold lcR
      have e3 : nox (M.pure true) ⟨Γd, Sx⟩ = .ok true ⟨Γd, Sx⟩ := rfl
      simp only [hw, h1, e3, rb_ok, if_true, bind_ap, e4]
      rw [if_pos (by omega), g1, List.append_assoc]
      rfl
    · match j with
      | 0 =>
        have he : d = e := Option.some.inj he
        have hz : y = z := Option.some.inj hz
        rw [← he, ← hz]; exact h4
      | j + 1 => exact g4 j e z (by simpa using he) (by simpa using hz)
theorem mLc_st {vs : List Nat} {tg : Tg} {mi : M (List D)} {me : M D} {Γ : List Slot} {Sx Sw : S} {ds : List D} {P : D → D → Prop} (J : Nat → S → Prop) (hi : mi ⟨Γ, Sx⟩ = .ok ds ⟨Γ, Sw⟩) (hl : ds.length ≤ 100000) (hJ : J 0 Sw)
    (hs : ∀ (j : Nat) (d : D) (Sy : S), ds[j]? = some d → J j Sy → ∃ Γd y Sz, asgT tg d (wipeΓ Γ vs) = some Γd ∧ wipeΓ Γd vs = wipeΓ Γ vs ∧ me ⟨Γd, Sy⟩ = .ok y ⟨Γd, Sz⟩ ∧ P d y ∧ J (j + 1) Sz) :
    ∃ ys Sz, mLc vs tg mi (M.pure true) me ⟨Γ, Sx⟩ = .ok (.lst ys) ⟨Γ, Sz⟩ ∧ ys.length = ds.length ∧ (∀ (j : Nat) (d y : D), ds[j]? = some d → ys[j]? = some y → P d y) ∧ J ds.length Sz := by
  obtain ⟨Γ2, ys, Sz, h1, h2, h3, h4, h5⟩ := lcR_st (vs := vs) (tg := tg) (me := me) (Γ := Γ) (P := P) J ds [] 0 Γ Sw hJ (fun j d Sy a b => by
    have := hs j d Sy a (by simpa using b)
    simpa using this) (by rw [List.length_nil, PySem.sizeLine_eq]; omega) rfl
  refine ⟨ys, Sz, ?_, h3, h4, by simpa using h5⟩
  rw [a_lc, hi, rb_ok, h1, rb_ok, restore_eq h2]
  rfl
theorem lcR_turn {vs : List Nat} {tg : Tg} {me : M D} {d y : D} {ds acc : List D} {Γ Γd Γe : List Slot} {Sx Sz : S} (h1 : asgT tg d (wipeΓ Γ vs) = some Γd) (h2 : me ⟨Γd, Sx⟩ = .ok y ⟨Γe, Sz⟩) (al : acc.length < PySem.sizeLine) :
    lcR vs tg (M.pure true) me (d :: ds) acc ⟨Γ, Sx⟩ = lcR vs tg (M.pure true) me ds (acc ++ [y]) ⟨Γe, Sz⟩ := by
  have e3 : nox (M.pure true) ⟨Γd, Sx⟩ = .ok true ⟨Γd, Sx⟩ := rfl
  have e4 : nox me ⟨Γd, Sx⟩ = .ok y ⟨Γe, Sz⟩ := by unfold nox; rw [h2]
  rw [lcR]
  simp only [h1, e3, rb_ok, if_true, bind_ap, e4]
  rw [if_pos al]
theorem lcR_map {ι : Type} {vs : List Nat} {tg : Tg} {me : M D} {Γ : List Slot} {Sx : S} (g h : ι → D) : ∀ (xs : List ι) (acc : List D) (Γ' : List Slot), (∀ x ∈ xs, ∃ Γd, asgT tg (g x) (wipeΓ Γ vs) = some Γd ∧ wipeΓ Γd vs = wipeΓ Γ vs ∧ me ⟨Γd, Sx⟩ = .ok (h x) ⟨Γd, Sx⟩) → acc.length + xs.length ≤ 100000 → wipeΓ Γ' vs = wipeΓ Γ vs →
    ∃ Γ2, lcR vs tg (M.pure true) me (xs.map g) acc ⟨Γ', Sx⟩ = .ok (acc ++ xs.map h) ⟨Γ2, Sx⟩ ∧ wipeΓ Γ2 vs = wipeΓ Γ vs
  | [], acc, Γ', _, _, hw => ⟨Γ', by simp [lcR, pure_ap], hw⟩
  | x :: xs, acc, Γ', hs, hl, hw => by
    obtain ⟨Γd, h1, h2, h3⟩ := hs x List.mem_cons_self
    rw [List.length_cons] at hl
    obtain ⟨Γ2, g1, g2⟩ := lcR_map g h xs (acc ++ [h x]) Γd (fun y hy => hs y (List.mem_cons_of_mem _ hy)) (by rw [List.length_append, List.length_singleton]; omega) h2
    refine ⟨Γ2, ?_, g2⟩
    rw [List.map_cons, lcR_turn (by rw [hw]; exact h1) h3 (by rw [PySem.sizeLine_eq]; omega), g1, List.append_assoc]
    rfl
theorem mLc_map {ι : Type} {vs : List Nat} {tg : Tg} {mi : M (List D)} {me : M D} {Γ : List Slot} {Sx : S} (xs : List ι) (g h : ι → D) (hi : mi ⟨Γ, Sx⟩ = .ok (xs.map g) ⟨Γ, Sx⟩) (hl : xs.length ≤ 100000)
    (hs : ∀ x ∈ xs, ∃ Γd, asgT tg (g x) (wipeΓ Γ vs) = some Γd ∧ wipeΓ Γd vs = wipeΓ Γ vs ∧ me ⟨Γd, Sx⟩ = .ok (h x) ⟨Γd, Sx⟩) : mLc vs tg mi (M.pure true) me ⟨Γ, Sx⟩ = .ok (.lst (xs.map h)) ⟨Γ, Sx⟩ := by
  obtain ⟨Γ2, h1, h2⟩ := lcR_map g h xs [] Γ hs (by simpa using hl) rfl
  rw [a_lc, hi, rb_ok, h1, rb_ok, restore_eq h2]
  rfl
theorem lcR_turnF {vs : List Nat} {tg : Tg} {mt : M Bool} {me : M D} {d : D} {ds acc : List D} {Γ Γd Γe : List Slot} {Sx Sz : S} (h1 : asgT tg d (wipeΓ Γ vs) = some Γd) (h2 : mt ⟨Γd, Sx⟩ = .ok false ⟨Γe, Sz⟩) :
    lcR vs tg mt me (d :: ds) acc ⟨Γ, Sx⟩ = lcR vs tg mt me ds acc ⟨Γe, Sz⟩ := by
  have e3 : nox mt ⟨Γd, Sx⟩ = .ok false ⟨Γe, Sz⟩ := by unfold nox; rw [h2]
  rw [lcR]
  simp only [h1, e3, rb_ok]
  rw [if_neg (by decide)]
theorem lcR_turnT {vs : List Nat} {tg : Tg} {mt : M Bool} {me : M D} {d y : D} {ds acc : List D} {Γ Γd Γe Γf : List Slot} {Sx Sy Sz : S} (h1 : asgT tg d (wipeΓ Γ vs) = some Γd) (h2 : mt ⟨Γd, Sx⟩ = .ok true ⟨Γe, Sy⟩) (h3 : me ⟨Γe, Sy⟩ = .ok y ⟨Γf, Sz⟩) (al : acc.length < PySem.sizeLine) :
    lcR vs tg mt me (d :: ds) acc ⟨Γ, Sx⟩ = lcR vs tg mt me ds (acc ++ [y]) ⟨Γf, Sz⟩ := by
  have e3 : nox mt ⟨Γd, Sx⟩ = .ok true ⟨Γe, Sy⟩ := by unfold nox; rw [h2]
  have e4 : nox me ⟨Γe, Sy⟩ = .ok y ⟨Γf, Sz⟩ := by unfold nox; rw [h3]
  rw [lcR]
  simp only [h1, e3, rb_ok, if_true, bind_ap, e4]
  rw [if_pos al]
theorem lcR_filt {ι : Type} {vs : List Nat} {tg : Tg} {mt : M Bool} {me : M D} {Γ : List Slot} {Sx : S} (g h : ι → D) (t : ι → Bool) : ∀ (xs : List ι) (acc : List D) (Γ' : List Slot), (∀ x ∈ xs, ∃ Γd, asgT tg (g x) (wipeΓ Γ vs) = some Γd ∧ wipeΓ Γd vs = wipeΓ Γ vs ∧ mt ⟨Γd, Sx⟩ = .ok (t x) ⟨Γd, Sx⟩ ∧ me ⟨Γd, Sx⟩ = .ok (h x) ⟨Γd, Sx⟩) → acc.length + xs.length ≤ 100000 → wipeΓ Γ' vs = wipeΓ Γ vs →
    ∃ Γ2, lcR vs tg mt me (xs.map g) acc ⟨Γ', Sx⟩ = .ok (acc ++ (xs.filter t).map h) ⟨Γ2, Sx⟩ ∧ wipeΓ Γ2 vs = wipeΓ Γ vs
  | [], acc, Γ', _, _, hw => ⟨Γ', by simp [lcR, pure_ap], hw⟩
  | x :: xs, acc, Γ', hs, hl, hw => by
    obtain ⟨Γd, h1, h2, h3, h4⟩ := hs x List.mem_cons_self
    rw [List.length_cons] at hl
    cases ht : t x with
    | false =>
      rw [ht] at h3
      obtain ⟨Γ2, g1, g2⟩ := lcR_filt g h t xs acc Γd (fun y hy => hs y (List.mem_cons_of_mem _ hy)) (by omega) h2
      refine ⟨Γ2, ?_, g2⟩
      rw [List.map_cons, lcR_turnF (by rw [hw]; exact h1) h3, g1, List.filter_cons_of_neg (by rw [ht]; decide)]
    | true =>
      rw [ht] at h3
      obtain ⟨Γ2, g1, g2⟩ := lcR_filt g h t xs (acc ++ [h x]) Γd (fun y hy => hs y (List.mem_cons_of_mem _ hy)) (by rw [List.length_append, List.length_singleton]; omega) h2
      refine ⟨Γ2, ?_, g2⟩
      rw [List.map_cons, lcR_turnT (by rw [hw]; exact h1) h3 h4 (by rw [PySem.sizeLine_eq]; omega), g1, List.filter_cons_of_pos ht, List.append_assoc]
      rfl
theorem mLc_filt {ι : Type} {vs : List Nat} {tg : Tg} {mi : M (List D)} {mt : M Bool} {me : M D} {Γ : List Slot} {Sx : S} (xs : List ι) (g h : ι → D) (t : ι → Bool) (hi : mi ⟨Γ, Sx⟩ = .ok (xs.map g) ⟨Γ, Sx⟩) (hl : xs.length ≤ 100000)
    (hs : ∀ x ∈ xs, ∃ Γd, asgT tg (g x) (wipeΓ Γ vs) = some Γd ∧ wipeΓ Γd vs = wipeΓ Γ vs ∧ mt ⟨Γd, Sx⟩ = .ok (t x) ⟨Γd, Sx⟩ ∧ me ⟨Γd, Sx⟩ = .ok (h x) ⟨Γd, Sx⟩) : mLc vs tg mi mt me ⟨Γ, Sx⟩ = .ok (.lst ((xs.filter t).map h)) ⟨Γ, Sx⟩ := by
  obtain ⟨Γ2, h1, h2⟩ := lcR_filt g h t xs [] Γ hs (by simpa using hl) rfl
  rw [a_lc, hi, rb_ok, h1, rb_ok, restore_eq h2]
  rfl
end Law


set_option Elab.async false
set_option linter.all false
set_option maxRecDepth 100000
set_option maxHeartbeats 4000000
set_option exponentiation.threshold 10000
/-! M6: a lot's chance by both roads. -/
namespace Law
open FP
theorem rng_succ (lo : Int) (n : Nat) : rng lo (n + 1) = .int lo :: rng (lo + 1) n := by
  unfold rng
  rw [List.range_succ_eq_map, List.map_cons, List.map_map]
  have e0 : lo + ((0 : Nat) : Int) = lo := by omega
  rw [e0]
  congr 1
  apply List.map_congr_left
  intro k _
  show D.int (lo + ((k + 1 : Nat) : Int)) = _
  congr 1
  omega
theorem rng_zero (lo : Int) : rng lo 0 = [] := rfl
theorem fIx_tup {ds : List D} {k : Nat} {d : D} (h : ds[k]? = some d) : fIx (.tup ds) (.int (k : Int)) = some d := L2.atI_nat h
theorem fIx_lst {ds : List D} {k : Nat} {d : D} (h : ds[k]? = some d) : fIx (.lst ds) (.int (k : Int)) = some d := L2.atI_nat h
theorem fLen_tup (ds : List D) : fLen (.tup ds) = some (.int (ds.length : Int)) := rfl
theorem fLen_lst (ds : List D) : fLen (.lst ds) = some (.int (ds.length : Int)) := rfl
def lotD (lot : List Nat) : D := .tup (lot.map fun (n : Nat) => .int (n : Int))
def lotv : List Rat → List Nat → Rat
  | r :: rs, n :: ns => r ^ n * lotv rs ns
  | _, _ => 1
theorem at_mid {α : Type} (pre : List α) (x : α) (r : List α) : (pre ++ x :: r)[pre.length]? = some x := by
  rw [List.getElem?_append_right (Nat.le_refl _), Nat.sub_self]; rfl
theorem pb_pow1 {R : Nat} {r : Rat} (h : Pb R r) (hR : 0 < R) {n : Nat} (hb : R ^ n < 2 ^ 1320) : powOk 1 r n := powOk_of h hR n (Pb.one 1) (by decide) (by rw [Nat.one_mul]; exact hb)
/-- what one step of a lot asks -/
structure LotOk (R : Nat) (M : Nat) (rs : List Rat) (ns : List Nat) : Prop where
  R0 : 0 < R
  M0 : 0 < M
  len : rs.length = ns.length
  pb : ∀ r ∈ rs, Pb R r
  sz : M * R ^ ns.sum < 2 ^ 1320
  few : ∀ n ∈ ns, n ≤ 1000
theorem LotOk.tail {R M : Nat} {r : Rat} {rs : List Rat} {n : Nat} {ns : List Nat} (h : LotOk R M (r :: rs) (n :: ns)) : LotOk R (M * R ^ n) rs ns :=
  ⟨h.R0, Nat.mul_pos h.M0 (Nat.pow_pos h.R0), by have := h.len; simpa using this, fun r hr => h.pb r (List.mem_cons_of_mem _ hr), by
    have := h.sz
    rw [List.sum_cons, Nat.pow_add, ← Nat.mul_assoc] at this
    exact this, fun n hn => h.few n (List.mem_cons_of_mem _ hn)⟩
theorem LotOk.head {R M : Nat} {r : Rat} {rs : List Rat} {n : Nat} {ns : List Nat} (h : LotOk R M (r :: rs) (n :: ns)) : Pb R r ∧ n ≤ 1000 ∧ R ^ n < 2 ^ 1320 ∧ M * R ^ n < 2 ^ 1320 := by
  have h1 := h.sz
  rw [List.sum_cons, Nat.pow_add, ← Nat.mul_assoc] at h1
  have h2 : M * R ^ n < 2 ^ 1320 := Nat.lt_of_le_of_lt (Nat.le_mul_of_pos_right _ (Nat.pow_pos h.R0)) h1
  exact ⟨h.pb r List.mem_cons_self, h.few n List.mem_cons_self, Nat.lt_of_le_of_lt (Nat.le_mul_of_pos_left _ h.M0) h2, h2⟩
theorem LotOk.r13 {R M : Nat} {r : Rat} {rs : List Rat} {n : Nat} {ns : List Nat} (h : LotOk R M (r :: rs) (n :: ns)) (hR : R < 2 ^ 1320) : Sm r := (h.pb r List.mem_cons_self).sm h.R0 hR
theorem lotv_pb {R : Nat} : ∀ {rs : List Rat} {ns : List Nat}, rs.length = ns.length → (∀ r ∈ rs, Pb R r) → Pb (R ^ ns.sum) (lotv rs ns)
  | [], [], _, _ => Pb.one _
  | r :: rs, n :: ns, hl, hp => by
    rw [List.sum_cons, Nat.pow_add]
    exact ((hp r List.mem_cons_self).pow n).mul (lotv_pb (by simpa using hl) fun q hq => hp q (List.mem_cons_of_mem _ hq))
/-! the program's start_chance -/
noncomputable def stB : Cmd := cSet 2 (mCall 2 f_times (mCons (mName 2) (mCons (mCall 2 f_power (mCons (mOp fIx (mRead 1) (mName 3)) (mCons (mOp fIx (mOp fIx (mRead 0) (mC (.int 3))) (mName 3)) mNil))) mNil)))
theorem start_step (Sx : S) {bk row st x y A A' r p : D} (ds : List D) (i1 : fIx row x = some r) (hb : fIx bk (.int 3) = some st) (i2 : fIx st x = some y) (pw : f_power [r, y] Sx = .ok p Sx) (tm : f_times [A, p] Sx = .ok A' Sx) :
    forR (.nm 3) [3] stB (x :: ds) ⟨[.frz bk, .frz row, .frz A, .none], Sx⟩ = forR (.nm 3) [3] stB ds ⟨[.frz bk, .frz row, .frz A', .none], Sx⟩ := by
  have e : stB ⟨[.frz bk, .frz row, .frz A, .frz x], Sx⟩ = .nx ⟨[.frz bk, .frz row, .frz A', .frz x], Sx⟩ := by
    unfold stB
    simp [bind_ap, pure_ap, rb_ok, out_ok, ofO_some, mC_ap, a_seq, a_nil, a_pass, a_brk, a_if, a_ret, a_retN, a_drop, a_set, a_own, a_frz, a_tg, a_par, a_for, a_op, a_un, a_cons, a_mnil, a_call, a_tup, a_lst, a_bool, a_tru, a_mif, a_chain, a_it, a_rng2, a_part, mName, mRead, sl, i1, hb, i2, pw, tm]
  rw [forR]
  simp [asgT, e, kill, wipeΓ]
theorem start_loop (Sx : S) (bk : D) (row : List Rat) (st : List Nat) (hb : fIx bk (.int 3) = some (lotD st)) (R : Nat) (hR : R < 2 ^ 1320) : ∀ (rs : List Rat) (ns : List Nat) (pre : List Rat) (pn : List Nat) (M : Nat) (a : Rat), row = pre ++ rs → st = pn ++ ns → pre.length = pn.length → LotOk R M rs ns → Pb M a →
    forR (.nm 3) [3] stB (rng (pre.length : Int) rs.length) ⟨[.frz bk, .frz (.tup (row.map fr)), .frz (fr a), .none], Sx⟩ = .nx ⟨[.frz bk, .frz (.tup (row.map fr)), .frz (fr (a * lotv rs ns)), .none], Sx⟩ := by
  intro rs
  induction rs with
  | nil =>
    intro ns pre pn M a _ _ _ h _
    cases ns with
    | nil => rw [List.length_nil, rng_zero, forR, lotv, Rat.mul_one]; intro _ _ _ _ h; cases h
    | cons _ _ => exact nomatch h.len
  | cons r rs ih =>
    intro ns pre pn M a hr hs hl h ha
    cases ns with
    | nil => exact nomatch h.len
    | cons n ns =>
      obtain ⟨h1, h2, h3, h4⟩ := h.head
      have i1 : fIx (.tup (row.map fr)) (.int (pre.length : Int)) = some (fr r) := fIx_tup (by rw [hr, List.getElem?_map, at_mid]; rfl)
      have i2 : fIx (lotD st) (.int (pre.length : Int)) = some (.int (n : Int)) := fIx_tup (by rw [hs, List.getElem?_map, hl, at_mid]; rfl)
      have pw := power_ok Sx r n h2 (h.r13 hR) (pb_pow1 h1 h.R0 h3)
      have b3 : Pb (R ^ n) (r ^ n) := h1.pow n
      have tm := times_ok Sx (ha.sm h.M0 (Nat.lt_of_le_of_lt (Nat.le_mul_of_pos_right _ (Nat.pow_pos h.R0)) h4)) (b3.sm (Nat.pow_pos h.R0) h3)
      have ih := ih ns (pre ++ [r]) (pn ++ [n]) (M * R ^ n) (a * r ^ n) (by rw [hr]; simp) (by rw [hs]; simp) (by simp [hl]) h.tail (ha.mul b3)
      rw [List.length_append, List.length_singleton, Int.natCast_add] at ih
      rw [List.length_cons, rng_succ, start_step Sx _ i1 hb i2 pw tm]
      have e : lotv (r :: rs) (n :: ns) = r ^ n * lotv rs ns := rfl
      rw [e, ← Rat.mul_assoc]
      exact ih
theorem start3 (Sx : S) (bk row x q : D) (ds : List D) (hl : fLen row = some x) (hr : rng1 x = some ds)
    (h : forR (.nm 3) [3] stB ds ⟨[.frz bk, .frz row, .frz (.tup [.int 1, .int 1]), .none], Sx⟩ = .nx ⟨[.frz bk, .frz row, .frz q, .none], Sx⟩) : f_start_chance [bk, row] Sx = .ok q Sx := by
  unfold stB at h
  unfold f_start_chance runF c_start_chance
  simp [bind_ap, pure_ap, rb_ok, out_ok, ofO_some, mC_ap, a_seq, a_nil, a_pass, a_brk, a_if, a_ret, a_retN, a_drop, a_set, a_own, a_frz, a_tg, a_par, a_for, a_op, a_un, a_cons, a_mnil, a_call, a_tup, a_lst, a_bool, a_tru, a_mif, a_chain, a_it, a_rng2, a_part, mName, mRead, sl, two, hl, hr, h]
theorem start_ok (Sx : S) (bk : D) (row : List Rat) (st : List Nat) (hb : fIx bk (.int 3) = some (lotD st)) (R : Nat) (hR : R < 2 ^ 1320) (h : LotOk R 1 row st) (hlen : row.length ≤ 1000) : f_start_chance [bk, .tup (row.map fr)] Sx = .ok (fr (lotv row st)) Sx := by
  have lp := start_loop Sx bk row st hb R hR row st [] [] 1 1 rfl rfl rfl h (Pb.one 1)
  rw [Rat.one_mul, fr1] at lp
  refine start3 Sx bk _ _ _ _ (fLen_tup _) (rng1_ok (by rw [List.length_map]; exact hlen)) ?_
  rw [List.length_map]
  exact lp
/-! the law's -/
theorem rprod_rep (r : Rat) : ∀ n : Nat, rprod (List.replicate n r) = r ^ n
  | 0 => by rw [Rat.pow_zero]; rfl
  | n + 1 => by
    show r * rprod (List.replicate n r) = _
    rw [rprod_rep r n, Rat.pow_succ, Rat.mul_comm]
theorem pbs_rep {R : Nat} {r : Rat} (h : Pb R r) (hR : 0 < R) : ∀ n : Nat, Pbs (List.replicate n R) (List.replicate n r)
  | 0 => .nil
  | n + 1 => .cons h hR (pbs_rep h hR n)
theorem mprod_rep (R : Nat) : ∀ n : Nat, mprod (List.replicate n R) = R ^ n
  | 0 => rfl
  | n + 1 => by show R * mprod (List.replicate n R) = _; rw [mprod_rep R n, Nat.pow_succ, Nat.mul_comm]
theorem fRep_one (d : D) (n : Nat) (h : n ≤ 1000) : fRep (.lst [d]) (.int (n : Int)) = some (.lst (List.replicate n d)) := by
  have e : fRep (.lst [d]) (.int (n : Int)) = (if -(2 ^ 63) ≤ (n : Int) ∧ (n : Int) < 2 ^ 63 ∧ [d].length * (n : Int).toNat ≤ PySem.sizeLine then some (.lst (List.replicate (n : Int).toNat [d]).flatten) else none) := rfl
  have c : -(2 ^ 63) ≤ (n : Int) ∧ (n : Int) < 2 ^ 63 ∧ [d].length * (n : Int).toNat ≤ PySem.sizeLine := by
    refine ⟨by omega, by omega, ?_⟩
    rw [PySem.sizeLine_eq, List.length_singleton, Int.toNat_natCast]
    omega
  have f : ∀ m : Nat, (List.replicate m [d]).flatten = List.replicate m d := by
    intro m
    induction m with
    | zero => rfl
    | succ m ih => rw [List.replicate_succ, List.flatten_cons, ih, List.replicate_succ]; rfl
  rw [e, if_pos c, Int.toNat_natCast, f]
/-- the products of a lot, one by one -/
def lotq (rs : List Rat) (ns : List Nat) : List Rat := (rs.zip ns).map fun x => x.1 ^ x.2
theorem lotq_prod : ∀ (rs : List Rat) (ns : List Nat), rprod (lotq rs ns) = lotv rs ns
  | [], _ => rfl
  | _ :: _, [] => rfl
  | r :: rs, n :: ns => by
    show r ^ n * rprod (lotq rs ns) = r ^ n * lotv rs ns
    rw [lotq_prod rs ns]
theorem lotq_pbs {R : Nat} (hR : 0 < R) : ∀ (rs : List Rat) (ns : List Nat), rs.length = ns.length → (∀ r ∈ rs, Pb R r) → Pbs (ns.map (R ^ ·)) (lotq rs ns)
  | [], [], _, _ => .nil
  | r :: rs, n :: ns, h, hp => .cons ((hp r List.mem_cons_self).pow n) (Nat.pow_pos hR) (lotq_pbs hR rs ns (by simpa using h) fun q hq => hp q (List.mem_cons_of_mem _ hq))
theorem mprod_pows (R : Nat) : ∀ ns : List Nat, mprod (ns.map (R ^ ·)) = R ^ ns.sum
  | [] => rfl
  | n :: ns => by
    show R ^ n * mprod (ns.map (R ^ ·)) = _
    rw [mprod_pows R ns, List.sum_cons, Nat.pow_add]
theorem le_sum : ∀ {l : List Nat} {n : Nat}, n ∈ l → n ≤ l.sum
  | m :: l, n, h => by
    rw [List.sum_cons]
    rcases List.mem_cons.mp h with rfl | h
    · omega
    · have := le_sum h; omega
end Law


set_option Elab.async false
set_option linter.all false
set_option maxRecDepth 100000
set_option maxHeartbeats 4000000
set_option exponentiation.threshold 10000
/-! M7: the next row by both roads. -/
namespace Law
open FP
abbrev Lit : Type := List (List Nat × Rat)
def litD (l : Lit) : D := .tup (l.map fun x => .tup [lotD x.1, fr x.2])
def litv (row : List Rat) (l : Lit) : Rat := rsum (l.map fun x => x.2 * lotv row x.1)
structure LitOk (N many : Nat) (l : Lit) : Prop where
  few : l.length ≤ 5
  each : ∀ x ∈ l, x.1.length = many ∧ x.1.sum ≤ 2 ∧ Pb N x.2
  one : rsum (l.map (·.2)) = 1
structure RowOk (R many : Nat) (row : List Rat) : Prop where
  len : row.length = many
  pb : ∀ r ∈ row, Pb R r
theorem pow_le2 {R s k : Nat} (h : 0 < R) (hs : s ≤ k) : R ^ s ∣ R ^ k := Nat.pow_dvd_pow R hs
theorem term_pb {N R many : Nat} {l : Lit} {row : List Rat} (h : LitOk N many l) (hr : RowOk R many row) (hR : 0 < R) : ∀ x ∈ l, Pb (N * R ^ 2) (x.2 * lotv row x.1) := fun x hx => by
  obtain ⟨h1, h2, h3⟩ := h.each x hx
  exact h3.mul ((lotv_pb (by rw [hr.len, h1]) hr.pb).dvd (pow_le2 hR h2))
theorem rsum_le : ∀ (l : Lit) (f : List Nat → Rat), (∀ x ∈ l, 0 ≤ x.2 ∧ 0 ≤ f x.1 ∧ f x.1 ≤ 1) → 0 ≤ rsum (l.map fun x => x.2 * f x.1) ∧ rsum (l.map fun x => x.2 * f x.1) ≤ rsum (l.map (·.2))
  | [], f, _ => ⟨Rat.le_refl, Rat.le_refl⟩
  | x :: l, f, h => by
    obtain ⟨h1, h2, h3⟩ := h x List.mem_cons_self
    obtain ⟨h4, h5⟩ := rsum_le l f fun y hy => h y (List.mem_cons_of_mem _ hy)
    have h6 := Rat.mul_nonneg h1 h2
    have h7 := Rat.mul_le_mul_of_nonneg_left h3 h1
    rw [Rat.mul_one] at h7
    show 0 ≤ x.2 * f x.1 + rsum (l.map fun x => x.2 * f x.1) ∧ x.2 * f x.1 + rsum (l.map fun x => x.2 * f x.1) ≤ x.2 + rsum (l.map (·.2))
    exact ⟨Rat.add_nonneg h6 h4, by grind⟩
theorem rsum_i {M : Nat} : ∀ {ps : List Rat}, (∀ p ∈ ps, Pb M p) → ∃ k : Int, rsum ps * (M : Rat) = (k : Rat)
  | [], _ => ⟨0, by show (0 : Rat) * _ = _; rw [Rat.zero_mul]; rfl⟩
  | p :: ps, h => by
    obtain ⟨k, hk⟩ := (h p List.mem_cons_self).i
    obtain ⟨j, hj⟩ := rsum_i fun q hq => h q (List.mem_cons_of_mem _ hq)
    refine ⟨k + j, ?_⟩
    show (p + rsum ps) * _ = _
    rw [Rat.intCast_add, ← hk, ← hj]; grind
theorem litv_pb {N R many : Nat} {l : Lit} {row : List Rat} (h : LitOk N many l) (hr : RowOk R many row) (hR : 0 < R) : Pb (N * R ^ 2) (litv row l) := by
  have hb := rsum_le l (lotv row) fun x hx => by
    obtain ⟨h1, h2, h3⟩ := h.each x hx
    have := lotv_pb (R := R) (rs := row) (ns := x.1) (by rw [hr.len, h1]) hr.pb
    exact ⟨h3.lo, this.lo, this.hi⟩
  refine ⟨rsum_i fun p hp => ?_, hb.1, by have := hb.2; rw [h.one] at this; exact this⟩
  obtain ⟨x, hx, rfl⟩ := List.mem_map.mp hp
  exact term_pb h hr hR x hx
/-! the program's made -/
noncomputable def mB3 : Cmd := cSet 6 (mCall 2 f_times (mCons (mName 6) (mCons (mCall 2 f_power (mCons (mOp fIx (mRead 1) (mName 7)) (mCons (mOp fIx (mRead 5) (mName 7)) mNil))) mNil)))
noncomputable def mB2 : Cmd := cSeq (cFor (.nm 7) [7] (mIt rng1 (mUn fLen (mRead 5))) mB3) (cApp 4 (mName 6))
noncomputable def mB1 : Cmd := cSeq (cOwn 4 (mLst mNil)) (cSeq (cFor (.tp [5, 6]) [5, 6, 7] (mIt tupOf (mName 3)) mB2) (cApp 2 (mCall 1 f_total (mCons (mName 4) mNil))))
theorem mB3_step (Sx : S) {row lot x y A A' r p : D} {b f l t : Slot} (ds : List D) (i1 : fIx row x = some r) (i2 : fIx lot x = some y) (pw : f_power [r, y] Sx = .ok p Sx) (tm : f_times [A, p] Sx = .ok A' Sx) :
    forR (.nm 7) [7] mB3 (x :: ds) ⟨[b, .frz row, f, l, t, .frz lot, .frz A, .none], Sx⟩ = forR (.nm 7) [7] mB3 ds ⟨[b, .frz row, f, l, t, .frz lot, .frz A', .none], Sx⟩ := by
  have e : mB3 ⟨[b, .frz row, f, l, t, .frz lot, .frz A, .frz x], Sx⟩ = .nx ⟨[b, .frz row, f, l, t, .frz lot, .frz A', .frz x], Sx⟩ := by
    unfold mB3
    simp [bind_ap, pure_ap, rb_ok, out_ok, ofO_some, mC_ap, a_seq, a_nil, a_pass, a_brk, a_if, a_ret, a_retN, a_drop, a_set, a_own, a_frz, a_tg, a_par, a_for, a_op, a_un, a_cons, a_mnil, a_call, a_tup, a_lst, a_bool, a_tru, a_mif, a_chain, a_it, a_rng2, a_part, mName, mRead, sl, i1, i2, pw, tm]
  rw [forR]
  simp [asgT, e, kill, wipeΓ]
theorem mB3_loop (Sx : S) (row : List Rat) (lot : List Nat) {b f l t : Slot} (R : Nat) (hR : R < 2 ^ 1320) : ∀ (rs : List Rat) (ns : List Nat) (pre : List Rat) (pn : List Nat) (M : Nat) (a : Rat), row = pre ++ rs → lot = pn ++ ns → pre.length = pn.length → LotOk R M rs ns → Pb M a →
    forR (.nm 7) [7] mB3 (rng (pn.length : Int) ns.length) ⟨[b, .frz (.tup (row.map fr)), f, l, t, .frz (lotD lot), .frz (fr a), .none], Sx⟩ = .nx ⟨[b, .frz (.tup (row.map fr)), f, l, t, .frz (lotD lot), .frz (fr (a * lotv rs ns)), .none], Sx⟩ := by
  intro rs
  induction rs with
  | nil =>
    intro ns pre pn M a _ _ _ h _
    cases ns with
    | nil => rw [List.length_nil, rng_zero, forR, lotv, Rat.mul_one]; intro _ _ _ _ h; cases h
    | cons _ _ => exact nomatch h.len
  | cons r rs ih =>
    intro ns pre pn M a hr hs hl h ha
    cases ns with
    | nil => exact nomatch h.len
    | cons n ns =>
      obtain ⟨h1, h2, h3, h4⟩ := h.head
      have i1 : fIx (.tup (row.map fr)) (.int (pn.length : Int)) = some (fr r) := fIx_tup (by rw [hr, List.getElem?_map, ← hl, at_mid]; rfl)
      have i2 : fIx (lotD lot) (.int (pn.length : Int)) = some (.int (n : Int)) := fIx_tup (by rw [hs, List.getElem?_map, at_mid]; rfl)
      have pw := power_ok Sx r n h2 (h.r13 hR) (pb_pow1 h1 h.R0 h3)
      have b3 : Pb (R ^ n) (r ^ n) := h1.pow n
      have tm := times_ok Sx (ha.sm h.M0 (Nat.lt_of_le_of_lt (Nat.le_mul_of_pos_right _ (Nat.pow_pos h.R0)) h4)) (b3.sm (Nat.pow_pos h.R0) h3)
      have ih := ih ns (pre ++ [r]) (pn ++ [n]) (M * R ^ n) (a * r ^ n) (by rw [hr]; simp) (by rw [hs]; simp) (by simp [hl]) h.tail (ha.mul b3)
      rw [List.length_append, List.length_singleton, Int.natCast_add] at ih
      rw [List.length_cons, rng_succ, mB3_step Sx _ i1 i2 pw tm]
      have e : lotv (r :: rs) (n :: ns) = r ^ n * lotv rs ns := rfl
      rw [e, ← Rat.mul_assoc]
      exact ih
theorem mB2_step (Sx : S) {b rw f l : Slot} {lot x A A' : D} {ds ts : List D} (hl : fLen lot = some x) (hr : rng1 x = some ds) (ht : ts.length < PySem.sizeLine)
    (h : forR (.nm 7) [7] mB3 ds ⟨[b, rw, f, l, .own (.lst ts), .frz lot, .frz A, .none], Sx⟩ = .nx ⟨[b, rw, f, l, .own (.lst ts), .frz lot, .frz A', .none], Sx⟩) (rest : List D) :
    forR (.tp [5, 6]) [5, 6, 7] mB2 (.tup [lot, A] :: rest) ⟨[b, rw, f, l, .own (.lst ts), .none, .none, .none], Sx⟩ = forR (.tp [5, 6]) [5, 6, 7] mB2 rest ⟨[b, rw, f, l, .own (.lst (ts ++ [A'])), .none, .none, .none], Sx⟩ := by
  have e : mB2 ⟨[b, rw, f, l, .own (.lst ts), .frz lot, .frz A, .none], Sx⟩ = .nx ⟨[b, rw, f, l, .own (.lst (ts ++ [A'])), .frz lot, .frz A', .none], Sx⟩ := by
    unfold mB2
    simp [bind_ap, pure_ap, rb_ok, out_ok, ofO_some, mC_ap, a_seq, a_nil, a_pass, a_brk, a_if, a_ret, a_retN, a_drop, a_set, a_own, a_frz, a_tg, a_par, a_for, a_op, a_un, a_cons, a_mnil, a_call, a_tup, a_lst, a_bool, a_tru, a_mif, a_chain, a_it, a_rng2, a_part, mName, mRead, sl, hl, hr, h, cApp, ht]
  rw [forR]
  simp [asgT, asgL, e, kill, wipeΓ]
theorem mB2_loop (Sx : S) (row : List Rat) {b f l : Slot} {N R many : Nat} (hR0 : 0 < R) (hN0 : 0 < N) (hb : N * R ^ 2 < 2 ^ 1310) (hR : RowOk R many row) (hm : many ≤ 10) : ∀ (ls : Lit) (ts : List D), (∀ x ∈ ls, x.1.length = many ∧ x.1.sum ≤ 2 ∧ Pb N x.2) → ts.length + ls.length ≤ 1000 →
    forR (.tp [5, 6]) [5, 6, 7] mB2 (ls.map fun x => .tup [lotD x.1, fr x.2]) ⟨[b, .frz (.tup (row.map fr)), f, l, .own (.lst ts), .none, .none, .none], Sx⟩ =
      .nx ⟨[b, .frz (.tup (row.map fr)), f, l, .own (.lst (ts ++ (ls.map fun x => x.2 * lotv row x.1).map fr)), .none, .none, .none], Sx⟩
  | [], ts, _, _ => by rw [List.map_nil, forR, List.map_nil, List.map_nil, List.append_nil]
  | x :: ls, ts, h, hl => by
    obtain ⟨h1, h2, h3⟩ := h x List.mem_cons_self
    rw [List.length_cons] at hl
    have hRb : R < 2 ^ 1320 := Nat.lt_of_le_of_lt (Nat.le_self_pow (by decide : 2 ≠ 0) R) (Nat.lt_of_le_of_lt (Nat.le_mul_of_pos_left _ hN0) (Nat.lt_trans hb (by decide)))
    have hsz : N * R ^ x.1.sum < 2 ^ 1320 := Nat.lt_of_le_of_lt (Nat.mul_le_mul_left N (Nat.pow_le_pow_right hR0 h2)) (Nat.lt_trans hb (by decide))
    have lk : LotOk R N row x.1 := ⟨hR0, hN0, by rw [hR.len, h1], hR.pb, hsz, fun n hn => Nat.le_trans (le_sum hn) (by omega)⟩
    have lp := mB3_loop Sx row x.1 (b := b) (f := f) (l := l) (t := .own (.lst ts)) R hRb row x.1 [] [] N x.2 rfl rfl rfl lk h3
    have e1 : fLen (lotD x.1) = some (.int (x.1.length : Int)) := by
      show some (D.int ((x.1.map fun (n : Nat) => D.int (n : Int)).length : Int)) = _
      rw [List.length_map]
    rw [List.map_cons, mB2_step Sx e1 (rng1_ok (by omega)) (by rw [PySem.sizeLine_eq]; omega) lp, mB2_loop Sx row hR0 hN0 hb hR hm ls _ (fun y hy => h y (List.mem_cons_of_mem _ hy)) (by rw [List.length_append, List.length_singleton]; omega), List.append_assoc]
    rfl
theorem mB1_step (Sx : S) {b rw : Slot} {ds us : List D} {q : D} {vs : List D} (hu : us.length < PySem.sizeLine)
    (h : forR (.tp [5, 6]) [5, 6, 7] mB2 ds ⟨[b, rw, .own (.lst us), .frz (.tup ds), .own (.lst []), .none, .none, .none], Sx⟩ = .nx ⟨[b, rw, .own (.lst us), .frz (.tup ds), .own (.lst vs), .none, .none, .none], Sx⟩) (hq : f_total [.lst vs] Sx = .ok q Sx) (rest : List D) :
    forR (.nm 3) [3, 4, 5, 6, 7] mB1 (.tup ds :: rest) ⟨[b, rw, .own (.lst us), .none, .none, .none, .none, .none], Sx⟩ = forR (.nm 3) [3, 4, 5, 6, 7] mB1 rest ⟨[b, rw, .own (.lst (us ++ [q])), .none, .none, .none, .none, .none], Sx⟩ := by
  have e : mB1 ⟨[b, rw, .own (.lst us), .frz (.tup ds), .none, .none, .none, .none], Sx⟩ = .nx ⟨[b, rw, .own (.lst (us ++ [q])), .frz (.tup ds), .frz (.lst vs), .none, .none, .none], Sx⟩ := by
    unfold mB1
    simp [bind_ap, pure_ap, rb_ok, out_ok, ofO_some, mC_ap, a_seq, a_nil, a_pass, a_brk, a_if, a_ret, a_retN, a_drop, a_set, a_own, a_frz, a_tg, a_par, a_for, a_op, a_un, a_cons, a_mnil, a_call, a_tup, a_lst, a_bool, a_tru, a_mif, a_chain, a_it, a_rng2, a_part, mName, mRead, sl, tupOf, h, cApp, hu, hq]
  rw [forR]
  simp [asgT, e, kill, wipeΓ]
theorem terms_ok {N R many : Nat} {l : Lit} {row : List Rat} (hR0 : 0 < R) (hN0 : 0 < N) (hb : N * R ^ 2 < 2 ^ 1310) (hR : RowOk R many row) (h : LitOk N many l) : sumOk 0 (l.map fun x => x.2 * lotv row x.1) :=
  sumOk0 (M := N * R ^ 2) (Nat.mul_pos hN0 (Nat.pow_pos hR0)) hb (by rw [List.length_map]; have := h.few; omega) fun p hp => by
    obtain ⟨x, hx, rfl⟩ := List.mem_map.mp hp
    exact term_pb h hR hR0 x hx
theorem mB1_loop (Sx : S) (row : List Rat) {b : Slot} {N R many : Nat} (hR0 : 0 < R) (hN0 : 0 < N) (hb : N * R ^ 2 < 2 ^ 1310) (hR : RowOk R many row) (hm : many ≤ 10) : ∀ (lits : List Lit) (us : List D), (∀ l ∈ lits, LitOk N many l) → us.length + lits.length ≤ 1000 →
    forR (.nm 3) [3, 4, 5, 6, 7] mB1 (lits.map litD) ⟨[b, .frz (.tup (row.map fr)), .own (.lst us), .none, .none, .none, .none, .none], Sx⟩ =
      .nx ⟨[b, .frz (.tup (row.map fr)), .own (.lst (us ++ (lits.map (litv row)).map fr)), .none, .none, .none, .none, .none], Sx⟩
  | [], us, _, _ => by rw [List.map_nil, forR, List.map_nil, List.map_nil, List.append_nil]
  | l :: lits, us, h, hl => by
    have h1 := h l List.mem_cons_self
    rw [List.length_cons] at hl
    have lp := mB2_loop Sx row (b := b) (f := .own (.lst us)) (l := .frz (litD l)) hR0 hN0 hb hR hm l [] h1.each (by have := h1.few; simp; omega)
    have tt := total_ok Sx _ (terms_ok hR0 hN0 hb hR h1)
    rw [List.map_cons]
    unfold litD at lp ⊢
    rw [mB1_step Sx (by rw [PySem.sizeLine_eq]; omega) lp (by rw [List.nil_append]; exact tt)]
    have ih := mB1_loop Sx row (b := b) hR0 hN0 hb hR hm lits (us ++ [fr (rsum (l.map fun x => x.2 * lotv row x.1))]) (fun y hy => h y (List.mem_cons_of_mem _ hy)) (by rw [List.length_append, List.length_singleton]; omega)
    unfold litD at ih
    rw [ih, List.append_assoc]
    rfl
theorem made3 (Sx : S) {bk rw : D} {ds us : List D} (hb : fIx bk (.int 2) = some (.tup ds))
    (h : forR (.nm 3) [3, 4, 5, 6, 7] mB1 ds ⟨[.frz bk, .frz rw, .own (.lst []), .none, .none, .none, .none, .none], Sx⟩ = .nx ⟨[.frz bk, .frz rw, .own (.lst us), .none, .none, .none, .none, .none], Sx⟩) : f_made [bk, rw] Sx = .ok (.tup us) Sx := by
  unfold mB1 mB2 mB3 at h
  unfold f_made runF c_made
  simp [bind_ap, pure_ap, rb_ok, out_ok, ofO_some, mC_ap, a_seq, a_nil, a_pass, a_brk, a_if, a_ret, a_retN, a_drop, a_set, a_own, a_frz, a_tg, a_par, a_for, a_op, a_un, a_cons, a_mnil, a_call, a_tup, a_lst, a_bool, a_tru, a_mif, a_chain, a_it, a_rng2, a_part, mName, mRead, sl, hb, tupOf, h, fTuple]
theorem made_ok (Sx : S) (bk : D) (row : List Rat) (lits : List Lit) {N R many : Nat} (hbk : fIx bk (.int 2) = some (.tup (lits.map litD))) (hR0 : 0 < R) (hN0 : 0 < N) (hb : N * R ^ 2 < 2 ^ 1310) (hR : RowOk R many row) (hm : many ≤ 10) (h : ∀ l ∈ lits, LitOk N many l) (hl : lits.length ≤ 100) :
    f_made [bk, .tup (row.map fr)] Sx = .ok (.tup ((lits.map (litv row)).map fr)) Sx := by
  have lp := mB1_loop Sx row (b := .frz bk) hR0 hN0 hb hR hm lits [] h (by simp; omega)
  exact made3 Sx hbk lp
/-! the law's row -/
/-- an item of a litter, told apart -/
def itemV (row : List Rat) : D → D
  | .tup [.tup ns, .tup [.int a, .int b]] => .tup [.tup ns, .tup [.int a, .int b]]
  | d => d
theorem lL_hi {Sx : S} {b r w f t x y : Slot} {ds : List D} : mIt tupOf (mName 7) ⟨[b, r, w, f, t, x, y, .frz (.tup ds)], Sx⟩ = .ok ds ⟨[b, r, w, f, t, x, y, .frz (.tup ds)], Sx⟩ := by
  simp [bind_ap, pure_ap, rb_ok, out_ok, ofO_some, mC_ap, a_seq, a_nil, a_pass, a_brk, a_if, a_ret, a_retN, a_drop, a_set, a_own, a_frz, a_tg, a_par, a_for, a_op, a_un, a_cons, a_mnil, a_call, a_tup, a_lst, a_bool, a_tru, a_mif, a_chain, a_it, a_rng2, a_part, mName, mRead, sl, tupOf]
end Law


set_option Elab.async false
set_option linter.all false
set_option maxRecDepth 100000
set_option maxHeartbeats 4000000
set_option exponentiation.threshold 10000
/-! M8: a book's chances, round by round, by both roads. -/
namespace Law
open FP
structure Book where
  many : Nat
  names : List D
  lits : List Lit
  st : List Nat
def bkD (b : Book) : D := .tup [.str "book", .tup b.names, .tup (b.lits.map litD), lotD b.st]
structure BookOk (N : Nat) (b : Book) : Prop where
  nm : b.names.length = b.many
  m1 : 1 ≤ b.many
  m3 : b.many ≤ 3
  ll : b.lits.length = b.many
  lk : ∀ l ∈ b.lits, LitOk N b.many l
  sl : b.st.length = b.many
  s3 : b.st.sum ≤ 3
  N0 : 0 < N
  N1 : N ≤ 2 ^ 14
def rowAt (b : Book) : Nat → List Rat
  | 0 => List.replicate b.many 0
  | t + 1 => b.lits.map (litv (rowAt b t))
def Rt (N : Nat) : Nat → Nat
  | 0 => 1
  | t + 1 => N * Rt N t ^ 2
theorem Rt_pos {N : Nat} (h : 0 < N) : ∀ t, 0 < Rt N t
  | 0 => Nat.one_pos
  | t + 1 => Nat.mul_pos h (Nat.pow_pos (Rt_pos h t))
theorem Rt_le {N : Nat} (h : N ≤ 2 ^ 14) : ∀ t, Rt N t ≤ 2 ^ (14 * (2 ^ t - 1))
  | 0 => by
    show (1 : Nat) ≤ 2 ^ (14 * (2 ^ 0 - 1))
    decide
  | t + 1 => by
    have ih := Rt_le h t
    have h1 : Rt N t ^ 2 ≤ (2 ^ (14 * (2 ^ t - 1))) ^ 2 := Nat.pow_le_pow_left ih 2
    have h2 : N * Rt N t ^ 2 ≤ 2 ^ 14 * (2 ^ (14 * (2 ^ t - 1))) ^ 2 := Nat.mul_le_mul h h1
    rw [← Nat.pow_mul, ← Nat.pow_add] at h2
    have p := Nat.pow_pos (n := t) (show 0 < 2 by decide)
    have e : 14 + 14 * (2 ^ t - 1) * 2 = 14 * (2 ^ (t + 1) - 1) := by rw [Nat.pow_succ]; omega
    rw [e] at h2
    exact h2
theorem Rt_lt {N t : Nat} (h : N ≤ 2 ^ 14) (ht : t ≤ 4) : Rt N t < 2 ^ 211 := by
  refine Nat.lt_of_le_of_lt (Rt_le h t) (Nat.pow_lt_pow_right (by decide) ?_)
  have : 2 ^ t ≤ 2 ^ 4 := Nat.pow_le_pow_right (by decide) ht
  omega
theorem row_ok {N : Nat} {b : Book} (h : BookOk N b) : ∀ t, RowOk (Rt N t) b.many (rowAt b t)
  | 0 => ⟨by rw [rowAt, List.length_replicate], fun r hr => by rw [List.eq_of_mem_replicate hr]; exact Pb.zero _⟩
  | t + 1 => ⟨by rw [rowAt, List.length_map, h.ll], fun r hr => by
      obtain ⟨l, hl, rfl⟩ := List.mem_map.mp hr
      exact litv_pb (h.lk l hl) (row_ok h t) (Rt_pos h.N0 t)⟩
def ev (b : Book) (t : Nat) : Rat := lotv (rowAt b t) b.st
theorem ev_pb {N : Nat} {b : Book} (h : BookOk N b) (t : Nat) : Pb (Rt N t ^ 3) (ev b t) :=
  (lotv_pb (by rw [(row_ok h t).len, h.sl]) (row_ok h t).pb).dvd (pow_le2 (Rt_pos h.N0 t) h.s3)
def es (b : Book) (t : Nat) : Nat → List Rat
  | 0 => []
  | n + 1 => ev b t :: es b (t + 1) n
theorem bk3 (b : Book) : fIx (bkD b) (.int 3) = some (lotD b.st) := rfl
theorem bk2 (b : Book) : fIx (bkD b) (.int 2) = some (.tup (b.lits.map litD)) := rfl
theorem bk1 (b : Book) : fIx (bkD b) (.int 1) = some (.tup b.names) := rfl
theorem start_lk {N : Nat} {b : Book} (h : BookOk N b) {t : Nat} (ht : t ≤ 4) : LotOk (Rt N t) 1 (rowAt b t) b.st :=
  ⟨Rt_pos h.N0 t, by decide, by rw [(row_ok h t).len, h.sl], (row_ok h t).pb, by
    rw [Nat.one_mul]
    refine Nat.lt_of_le_of_lt (Nat.pow_le_pow_right (Rt_pos h.N0 t) h.s3) ?_
    have : Rt N t ^ 3 < (2 ^ 211) ^ 3 := Nat.pow_lt_pow_left (Rt_lt h.N1 ht) (by decide)
    rw [← Nat.pow_mul] at this
    exact Nat.lt_trans this (Nat.pow_lt_pow_right (by decide) (by decide)), fun n hn => by have := le_sum hn; have := h.s3; omega⟩
theorem step_sz {N : Nat} {b : Book} (h : BookOk N b) {t : Nat} (ht : t ≤ 3) : N * Rt N t ^ 2 < 2 ^ 1310 :=
  Nat.lt_trans (Rt_lt (t := t + 1) h.N1 (by omega)) (Nat.pow_lt_pow_right (by decide) (by decide))
theorem start_at (Sx : S) {N : Nat} {b : Book} (h : BookOk N b) {t : Nat} (ht : t ≤ 4) : f_start_chance [bkD b, .tup ((rowAt b t).map fr)] Sx = .ok (fr (ev b t)) Sx :=
  start_ok Sx _ _ _ (bk3 b) (Rt N t) (Nat.lt_trans (Rt_lt h.N1 ht) (Nat.pow_lt_pow_right (by decide) (by decide))) (start_lk h ht) (by rw [(row_ok h t).len]; have := h.m3; omega)
theorem made_at (Sx : S) {N : Nat} {b : Book} (h : BookOk N b) {t : Nat} (ht : t ≤ 3) : f_made [bkD b, .tup ((rowAt b t).map fr)] Sx = .ok (.tup ((rowAt b (t + 1)).map fr)) Sx :=
  made_ok Sx _ _ _ (bk2 b) (Rt_pos h.N0 t) h.N0 (step_sz h ht) (row_ok h t) (by have := h.m3; omega) h.lk (by rw [h.ll]; have := h.m3; omega)
/-! the program's rounds -/
noncomputable def rB : Cmd := cSeq (cApp 3 (mCall 2 f_start_chance (mCons (mName 0) (mCons (mName 2) mNil)))) (cSet 2 (mCall 2 f_made (mCons (mName 0) (mCons (mName 2) mNil))))
theorem rB_step (Sx : S) {bk row row' v x : D} {rd : Slot} {us : List D} (h1 : f_start_chance [bk, row] Sx = .ok v Sx) (h2 : f_made [bk, row] Sx = .ok row' Sx) (hu : us.length < PySem.sizeLine) (ds : List D) :
    forR (.nm 4) [4] rB (x :: ds) ⟨[.frz bk, rd, .frz row, .own (.lst us), .none], Sx⟩ = forR (.nm 4) [4] rB ds ⟨[.frz bk, rd, .frz row', .own (.lst (us ++ [v])), .none], Sx⟩ := by
  have e : rB ⟨[.frz bk, rd, .frz row, .own (.lst us), .frz x], Sx⟩ = .nx ⟨[.frz bk, rd, .frz row', .own (.lst (us ++ [v])), .frz x], Sx⟩ := by
    unfold rB
    simp [bind_ap, pure_ap, rb_ok, out_ok, ofO_some, mC_ap, a_seq, a_nil, a_pass, a_brk, a_if, a_ret, a_retN, a_drop, a_set, a_own, a_frz, a_tg, a_par, a_for, a_op, a_un, a_cons, a_mnil, a_call, a_tup, a_lst, a_bool, a_tru, a_mif, a_chain, a_it, a_rng2, a_part, mName, mRead, sl, cApp, hu, h1, h2]
  rw [forR]
  simp [asgT, e, kill, wipeΓ]
theorem rB_loop (Sx : S) {N : Nat} {b : Book} (h : BookOk N b) {rd : Slot} : ∀ (ds : List D) (t : Nat) (us : List D), t + ds.length ≤ 4 → us.length + ds.length ≤ 1000 →
    forR (.nm 4) [4] rB ds ⟨[.frz (bkD b), rd, .frz (.tup ((rowAt b t).map fr)), .own (.lst us), .none], Sx⟩ = .nx ⟨[.frz (bkD b), rd, .frz (.tup ((rowAt b (t + ds.length)).map fr)), .own (.lst (us ++ (es b t ds.length).map fr)), .none], Sx⟩
  | [], t, us, _, _ => by rw [forR, List.length_nil, es, List.map_nil, List.append_nil, Nat.add_zero]
  | d :: ds, t, us, ht, hl => by
    rw [List.length_cons] at ht hl
    rw [rB_step Sx (start_at Sx h (by omega)) (made_at Sx h (by omega)) (by rw [PySem.sizeLine_eq]; omega), rB_loop Sx h ds (t + 1) _ (by omega) (by rw [List.length_append, List.length_singleton]; omega), List.append_assoc, List.length_cons, show t + (ds.length + 1) = t + 1 + ds.length by omega]
    rfl
theorem rep_many (d : D) (n : Nat) (h : n ≤ 1000) : fRep (.lst [d]) (.int (n : Int)) = some (.lst (List.replicate n d)) := fRep_one d n h
theorem rounds3 (Sx : S) {bk n x m nn : D} {ds us rs : List D} {y : Slot} (hc : (fLe (.int 0) n) = some (.bl true)) (hc2 : fLe n (.int 12) = some (.bl true)) (h1 : fIx bk (.int 1) = some nn) (h2 : fLen nn = some m) (h3 : fRep (.lst [.tup [.int 0, .int 1]]) m = some (.lst rs))
    (ha : fAdd n (.int 1) = some x) (hr : rng1 x = some ds) (h : forR (.nm 4) [4] rB ds ⟨[.frz bk, .frz n, .frz (.tup rs), .own (.lst []), .none], Sx⟩ = .nx ⟨[.frz bk, .frz n, y, .own (.lst us), .none], Sx⟩) : f_round_chances [bk, n] Sx = .ok (.lst us) Sx := by
  have one : (1 : Nat) ≤ PySem.sizeLine := by decide
  unfold rB at h
  unfold f_round_chances runF c_round_chances
  simp [bind_ap, pure_ap, rb_ok, out_ok, ofO_some, mC_ap, a_seq, a_nil, a_pass, a_brk, a_if, a_ret, a_retN, a_drop, a_set, a_own, a_frz, a_tg, a_par, a_for, a_op, a_un, a_cons, a_mnil, a_call, a_tup, a_lst, a_bool, a_tru, a_mif, a_chain, a_it, a_rng2, a_part, mName, mRead, sl, hc, hc2, h1, h2, h3, ha, hr, h, one, two, fTuple]
theorem fLe_nat {a b : Nat} (h : a ≤ b) : fLe (.int (a : Int)) (.int (b : Int)) = some (.bl true) := by
  show some (D.bl (decide ((a : Int) ≤ (b : Int)))) = _
  rw [decide_eq_true (by omega)]
theorem rounds_ok (Sx : S) {N : Nat} {b : Book} (h : BookOk N b) (n : Nat) (hn : n ≤ 3) : f_round_chances [bkD b, .int (n : Int)] Sx = .ok (.lst ((es b 0 (n + 1)).map fr)) Sx := by
  have lp := rB_loop Sx h (rd := .frz (.int (n : Int))) (rng 0 (n + 1)) 0 [] (by rw [rng_len]; omega) (by rw [rng_len]; simp; omega)
  rw [rng_len, List.nil_append, rowAt, List.map_replicate] at lp
  exact rounds3 Sx (fLe_nat (a := 0) (b := n) (by omega)) (fLe_nat (a := n) (b := 12) (by omega)) (bk1 b) (fLen_tup _) (by rw [h.nm]; exact fRep_one _ _ (by have := h.m3; omega)) (fAdd_int _ _) (rng1_ok (n := n + 1) (by omega)) lp
/-! the law's rounds -/
theorem lB_hi {Sx : S} {bk n row x : D} {f : Slot} {ds : List D} (i2 : fIx bk (.int 2) = some (.tup ds)) : mIt tupOf (mOp fIx (mRead 0) (mC (.int 2))) ⟨[.frz bk, .frz n, .frz row, f, .frz x, .none, .none, .none], Sx⟩ = .ok ds ⟨[.frz bk, .frz n, .frz row, f, .frz x, .none, .none, .none], Sx⟩ := by
  simp [bind_ap, pure_ap, rb_ok, out_ok, ofO_some, mC_ap, a_seq, a_nil, a_pass, a_brk, a_if, a_ret, a_retN, a_drop, a_set, a_own, a_frz, a_tg, a_par, a_for, a_op, a_un, a_cons, a_mnil, a_call, a_tup, a_lst, a_bool, a_tru, a_mif, a_chain, a_it, a_rng2, a_part, mName, mRead, sl, i2, tupOf]
theorem fLt_nat (a b : Nat) : fLt (.int (a : Int)) (.int (b : Int)) = some (.bl (decide (a < b))) := by
  show some (D.bl (decide ((a : Int) < (b : Int)))) = _
  congr 2
  rw [Bool.eq_iff_iff]
  simp
end Law


set_option Elab.async false
set_option linter.all false
set_option maxRecDepth 100000
set_option maxHeartbeats 1000000
set_option exponentiation.threshold 10000
/-! G1: rules of reckoning over slots. -/
namespace Law
open FP PySem
section
variable {α : Type} {Γ Γ' Γ1 Γ2 : List Slot} {Sx Sy Sz S1 S2 : S} {i j v : Nat} {d x z : D}
theorem rng_map (n : Nat) : rng 0 n = (List.range n).map fun (i : Nat) => .int (i : Int) := by
  unfold rng
  apply List.map_congr_left
  intro i _
  show D.int (0 + (i : Int)) = _
  rw [Int.zero_add]
theorem rg_at {m j : Nat} (f : Nat → D) (h : j < m) : fIx (.lst ((List.range m).map f)) (.int (j : Int)) = some (f j) := fIx_lst (by
  rw [List.getElem?_map, List.getElem?_range h]; rfl)
theorem fNe_nat (a b : Nat) : fNe (.int (a : Int)) (.int (b : Int)) = some (.bl (a != b)) := by
  rw [fNe_int]
  congr 2
  rw [Bool.eq_iff_iff]
  simp only [bne_iff_ne, Bool.not_eq_true', decide_eq_false_iff_not]
  omega
theorem range_step (f : Nat → D) (r k : Nat) : (List.range (r + 1)).map (fun j => f (k + j)) = f k :: (List.range r).map fun j => f (k + 1 + j) := by
  rw [List.range_succ_eq_map, List.map_cons, List.map_map, Nat.add_zero]
  congr 1
  apply List.map_congr_left
  intro j _
  show f (k + (j + 1)) = f (k + 1 + j)
  congr 1
  omega
theorem rng1_map {n : Nat} (h : n ≤ 1000) : rng1 (.int (n : Int)) = some ((List.range n).map fun (i : Nat) => .int (i : Int)) := by
  rw [rng1_ok h, rng_map]
theorem cut_last {α : Type} (l : List α) : FP.cut l none (some (-1)) = l.take (l.length - 1) := by
  unfold FP.cut HT.sIx
  simp only [List.drop_zero]
  rw [if_pos (by decide)]
  congr 1
  omega
theorem cut_to {α : Type} (l : List α) (k : Nat) (h : k ≤ l.length) : FP.cut l none (some (k : Int)) = l.take k := by
  unfold FP.cut HT.sIx
  simp only [List.drop_zero]
  rw [if_neg (by omega), Int.toNat_natCast, Nat.sub_zero, Nat.min_eq_left h]
theorem take_range {α : Type} (f : Nat → α) {k n : Nat} (h : k ≤ n) : ((List.range n).map f).take k = (List.range k).map f := by
  rw [← List.map_take, List.take_range, Nat.min_eq_left h]
theorem fAny_map {ι : Type} (l : List ι) (f : ι → Bool) : fAny (.lst (l.map fun i => .bl (f i))) = some (.bl (l.any f)) := by
  have e : (l.map fun i => D.bl (f i)) = (l.map f).map D.bl := by rw [List.map_map]; rfl
  show (bls? (l.map fun i => D.bl (f i))).map (fun ns => D.bl (ns.any id)) = _
  rw [e, bls?_map]
  show some (D.bl ((l.map f).any id)) = _
  rw [List.any_map]
  rfl
theorem sz1 : ("this may not be done: " : PySem.Str).length + ("books" : PySem.Str).length ≤ PySem.sizeLine := by decide +kernel
theorem sz2 : ("this may not be done: " : PySem.Str).length + ("rounds" : PySem.Str).length ≤ PySem.sizeLine := by decide +kernel
theorem sz3 : ("this may not be done: " : PySem.Str).length + ("number" : PySem.Str).length ≤ PySem.sizeLine := by decide +kernel
theorem rs_ap (w : FP.W) (z : PySem.Str) (h : ("this may not be done: " : PySem.Str).length + z.length ≤ PySem.sizeLine) : cRaise .misstep "this may not be done: " (mC (.str z)) w = .exc .misstep z w := a_raise w .misstep _ z w _ rfl h
theorem n_frz (h : Γ[i]? = some (.frz d)) : mName i ⟨Γ, Sx⟩ = .ok d ⟨Γ, Sx⟩ := by
  unfold mName; simp only [h]
theorem r_frz (h : Γ[i]? = some (.frz d)) : mRead i ⟨Γ, Sx⟩ = .ok d ⟨Γ, Sx⟩ := by
  unfold mRead; simp only [h]
theorem r_own (h : Γ[i]? = some (.own d)) : mRead i ⟨Γ, Sx⟩ = .ok d ⟨Γ, Sx⟩ := by
  unfold mRead; simp only [h]
theorem n_own (h : Γ[i]? = some (.own d)) : mName i ⟨Γ, Sx⟩ = .ok d ⟨Γ.set i (.frz d), Sx⟩ := by
  unfold mName; simp only [h]
theorem g_self {s : Slot} (h : i < Γ.length) : (Γ.set i s)[i]? = some s := List.getElem?_set_self h
theorem g_ne {s : Slot} (h : i ≠ j) : (Γ.set i s)[j]? = Γ[j]? := List.getElem?_set_ne h
theorem set_nx {m : M D} (h : m ⟨Γ, Sx⟩ = .ok z ⟨Γ', Sz⟩) (hi : i < Γ'.length) : cSet i m ⟨Γ, Sx⟩ = .nx ⟨Γ'.set i (.frz z), Sz⟩ := by
  rw [a_set, h, out_ok]
  show (if i < Γ'.length then Out.nx ⟨Γ'.set i (.frz z), Sz⟩ else .bad) = _
  rw [if_pos hi]
theorem mLc_v {ι : Type} {mi : M (List D)} {me : M D} (hv : v < Γ.length) (xs : List ι) (g h : ι → D) (hi : mi ⟨Γ, Sx⟩ = .ok (xs.map g) ⟨Γ, Sx⟩) (hl : xs.length ≤ 100000) (hs : ∀ x ∈ xs, me ⟨Γ.set v (.frz (g x)), Sx⟩ = .ok (h x) ⟨Γ.set v (.frz (g x)), Sx⟩) :
    mLc [v] (.nm v) mi (M.pure true) me ⟨Γ, Sx⟩ = .ok (.lst (xs.map h)) ⟨Γ, Sx⟩ :=
  mLc_map xs g h hi hl fun x hx => by
    have e0 : wipeΓ Γ [v] = Γ.set v .none := rfl
    refine ⟨Γ.set v (.frz (g x)), ?_, ?_, hs x hx⟩
    · rw [e0]
      show (if v < (Γ.set v .none).length then some ((Γ.set v .none).set v (.frz (g x))) else none) = _
      rw [if_pos (by rw [List.length_set]; exact hv), List.set_set]
    · show (Γ.set v (.frz (g x))).set v .none = Γ.set v .none
      rw [List.set_set]
theorem mLc_vf {ι : Type} {mi : M (List D)} {mt : M Bool} {me : M D} (hv : v < Γ.length) (xs : List ι) (g h : ι → D) (t : ι → Bool) (hi : mi ⟨Γ, Sx⟩ = .ok (xs.map g) ⟨Γ, Sx⟩) (hl : xs.length ≤ 100000)
    (hs : ∀ x ∈ xs, mt ⟨Γ.set v (.frz (g x)), Sx⟩ = .ok (t x) ⟨Γ.set v (.frz (g x)), Sx⟩ ∧ me ⟨Γ.set v (.frz (g x)), Sx⟩ = .ok (h x) ⟨Γ.set v (.frz (g x)), Sx⟩) :
    mLc [v] (.nm v) mi mt me ⟨Γ, Sx⟩ = .ok (.lst ((xs.filter t).map h)) ⟨Γ, Sx⟩ :=
  mLc_filt xs g h t hi hl fun x hx => by
    have e0 : wipeΓ Γ [v] = Γ.set v .none := rfl
    refine ⟨Γ.set v (.frz (g x)), ?_, ?_, (hs x hx).1, (hs x hx).2⟩
    · rw [e0]
      show (if v < (Γ.set v .none).length then some ((Γ.set v .none).set v (.frz (g x))) else none) = _
      rw [if_pos (by rw [List.length_set]; exact hv), List.set_set]
    · show (Γ.set v (.frz (g x))).set v .none = Γ.set v .none
      rw [List.set_set]
theorem take_e {v : D} {i : Int} (h : f__law_take [.st, .int i] Sx = .ok v Sz) (h1 : Γ[1]? = some (.frz .st)) : mCall 2 f__law_take (mCons (mName 1) (mCons (mC (.int i)) mNil)) ⟨Γ, Sx⟩ = .ok v ⟨Γ, Sz⟩ := by
  simp only [a_call, a_cons, n_frz h1, mC_ap, bind_ap, rb_ok, a_mnil, pure_ap]
  simp only [List.length_cons, List.length_nil, if_true, h]
theorem mLc_vs {mi : M (List D)} {me : M D} {v : Nat} {Sw : S} {ds : List D} {P : D → D → Prop} (J : Nat → S → Prop) (hv : v < Γ.length) (hi : mi ⟨Γ, Sx⟩ = .ok ds ⟨Γ, Sw⟩) (hl : ds.length ≤ 100000) (hJ : J 0 Sw)
    (hs : ∀ (j : Nat) (d : D) (Sy : S), ds[j]? = some d → J j Sy → ∃ y Sz, me ⟨Γ.set v (.frz d), Sy⟩ = .ok y ⟨Γ.set v (.frz d), Sz⟩ ∧ P d y ∧ J (j + 1) Sz) :
    ∃ ys Sz, mLc [v] (.nm v) mi (M.pure true) me ⟨Γ, Sx⟩ = .ok (.lst ys) ⟨Γ, Sz⟩ ∧ ys.length = ds.length ∧ (∀ y ∈ ys, ∃ d, P d y) ∧ J ds.length Sz := by
  obtain ⟨ys, Sz, h1, h2, h3, h4⟩ := mLc_st (vs := [v]) (tg := .nm v) (me := me) (Γ := Γ) (P := P) J hi hl hJ fun j d Sy hj dj => by
    obtain ⟨y, Sz, g1, g2, g3⟩ := hs j d Sy hj dj
    have e0 : wipeΓ Γ [v] = Γ.set v .none := rfl
    refine ⟨Γ.set v (.frz d), y, Sz, ?_, ?_, g1, g2, g3⟩
    · rw [e0]
      show (if v < (Γ.set v .none).length then some ((Γ.set v .none).set v (.frz d)) else none) = _
      rw [if_pos (by rw [List.length_set]; exact hv), List.set_set]
    · show (Γ.set v (.frz d)).set v .none = Γ.set v .none
      rw [List.set_set]
  refine ⟨ys, Sz, h1, h2, fun y hy => ?_, h4⟩
  obtain ⟨j, hj, e⟩ := List.getElem_of_mem hy
  have hj2 : j < ds.length := by omega
  exact ⟨ds[j], h3 j ds[j] y (List.getElem?_eq_getElem hj2) (by rw [List.getElem?_eq_getElem hj, e])⟩
theorem it_l {i : Nat} {ds : List D} (h : Γ[i]? = some (.frz (.lst ds))) : mIt lstOf (mRead i) ⟨Γ, Sx⟩ = .ok ds ⟨Γ, Sx⟩ := by
  simp only [a_it, r_frz h, rb_ok, lstOf, ofO_some]
theorem it_r {i : Nat} {x : D} {ds : List D} (h : Γ[i]? = some (.frz x)) (h1 : rng1 x = some ds) : mIt rng1 (mName i) ⟨Γ, Sx⟩ = .ok ds ⟨Γ, Sx⟩ := by
  simp only [a_it, n_frz h, rb_ok, h1, ofO_some]
theorem it_r1 {i : Nat} {x y : D} {ds : List D} (h : Γ[i]? = some (.frz x)) (ha : fAdd x (.int 1) = some y) (h1 : rng1 y = some ds) : mIt rng1 (mOp fAdd (mName i) (mC (.int 1))) ⟨Γ, Sx⟩ = .ok ds ⟨Γ, Sx⟩ := by
  simp only [a_it, a_op, n_frz h, rb_ok, mC_ap, bind_ap, ha, h1, ofO_some]
theorem fCat_cons (y : D) (zs : List D) (h : zs.length ≤ 1000) : fCat (.lst [y]) (.lst zs) = some (.lst (y :: zs)) := by
  show (if [y].length + zs.length ≤ PySem.sizeLine then some (D.lst ([y] ++ zs)) else none) = _
  rw [if_pos (by rw [PySem.sizeLine_eq, List.length_singleton]; omega)]; rfl
theorem cat_e {a : M D} {i : Nat} {r y : D} {zs : List D} (h10 : Γ[i]? = some (.frz r)) (h1 : fIx r (.int 0) = some y) (h2 : a ⟨Γ, Sx⟩ = .ok (.lst zs) ⟨Γ, Sx⟩) (hz : zs.length ≤ 1000) : mOp fCat (mLst (mCons (mOp fIx (mRead i) (mC (.int 0))) mNil)) a ⟨Γ, Sx⟩ = .ok (.lst (y :: zs)) ⟨Γ, Sx⟩ := by
  have one : (1 : Nat) ≤ PySem.sizeLine := by decide
  simp only [a_op, a_lst, a_cons, r_frz h10, mC_ap, bind_ap, rb_ok, a_mnil, pure_ap, h1, ofO_some, List.length_cons, List.length_nil]
  simp only [Nat.zero_add, one, if_true, pure_ap, rb_ok, h2, bind_ap, fCat_cons y zs hz, ofO_some]
theorem call1 {f : Fnc} {a : M D} {Γ' : List Slot} {x z : D} (ha : a ⟨Γ, Sx⟩ = .ok x ⟨Γ', Sy⟩) (h : f [x] Sy = .ok z Sz) : mCall 1 f (mCons a mNil) ⟨Γ, Sx⟩ = .ok z ⟨Γ', Sz⟩ := by
  simp only [a_call, a_cons, ha, bind_ap, rb_ok, a_mnil, pure_ap, List.length_cons, List.length_nil]
  simp only [Nat.zero_add, if_true, h]
theorem call2 {f : Fnc} {a b : M D} {Γ' Γ2 : List Slot} {x y z : D} {S1 S2 S3 : S} (ha : a ⟨Γ, Sx⟩ = .ok x ⟨Γ', S1⟩) (hb : b ⟨Γ', S1⟩ = .ok y ⟨Γ2, S2⟩) (h : f [x, y] S2 = .ok z S3) : mCall 2 f (mCons a (mCons b mNil)) ⟨Γ, Sx⟩ = .ok z ⟨Γ2, S3⟩ := by
  simp only [a_call, a_cons, ha, hb, bind_ap, rb_ok, a_mnil, pure_ap, List.length_cons, List.length_nil]
  simp only [Nat.zero_add, Nat.reduceAdd, if_true, h]
theorem ix_e {a b : M D} {x y z : D} (ha : a ⟨Γ, Sx⟩ = .ok x ⟨Γ, Sx⟩) (hb : b ⟨Γ, Sx⟩ = .ok y ⟨Γ, Sx⟩) (h : fIx x y = some z) : mOp fIx a b ⟨Γ, Sx⟩ = .ok z ⟨Γ, Sx⟩ := by
  simp only [a_op, ha, hb, rb_ok, bind_ap, h, ofO_some]
theorem one_e : mTup (mCons (mC (.int 1)) (mCons (mC (.int 1)) mNil)) ⟨Γ, Sx⟩ = .ok (.tup [.int 1, .int 1]) ⟨Γ, Sx⟩ := by
  simp [bind_ap, pure_ap, rb_ok, out_ok, ofO_some, mC_ap, a_seq, a_nil, a_pass, a_brk, a_if, a_ret, a_retN, a_drop, a_set, a_own, a_frz, a_tg, a_par, a_for, a_op, a_un, a_cons, a_mnil, a_call, a_tup, a_lst, a_bool, a_tru, a_mif, a_chain, a_it, a_rng2, a_part, mName, mRead, sl, two]
theorem call3 {f : Fnc} {a b c : M D} {Γ1 Γ2 Γ3 : List Slot} {x y u z : D} {S1 S2 S3 S4 : S} (ha : a ⟨Γ, Sx⟩ = .ok x ⟨Γ1, S1⟩) (hb : b ⟨Γ1, S1⟩ = .ok y ⟨Γ2, S2⟩) (hc : c ⟨Γ2, S2⟩ = .ok u ⟨Γ3, S3⟩) (h : f [x, y, u] S3 = .ok z S4) : mCall 3 f (mCons a (mCons b (mCons c mNil))) ⟨Γ, Sx⟩ = .ok z ⟨Γ3, S4⟩ := by
  simp only [a_call, a_cons, ha, hb, hc, bind_ap, rb_ok, a_mnil, pure_ap, List.length_cons, List.length_nil]
  simp only [Nat.zero_add, Nat.reduceAdd, if_true, h]
theorem tg2 {i j : Nat} {a : M D} {x y : D} {Γ' : List Slot} (ha : a ⟨Γ, Sx⟩ = .ok (.tup [x, y]) ⟨Γ', Sz⟩) (hi : i < Γ'.length) (hj : j < Γ'.length) : cTg (.tp [i, j]) a ⟨Γ, Sx⟩ = .nx ⟨(Γ'.set i (.frz x)).set j (.frz y), Sz⟩ := by
  rw [a_tg, ha, out_ok]
  have e : asgT (.tp [i, j]) (.tup [x, y]) Γ' = some ((Γ'.set i (.frz x)).set j (.frz y)) := by
    show (if i < Γ'.length then (if j < (Γ'.set i (.frz x)).length then some ((Γ'.set i (.frz x)).set j (.frz y)) else none) else none) = _
    rw [if_pos hi, if_pos (by rw [List.length_set]; exact hj)]
  simp only [e]
theorem it_of {f : D → Option (List D)} {a : M D} {x : D} {ds : List D} (ha : a ⟨Γ, Sx⟩ = .ok x ⟨Γ1, S1⟩) (h : f x = some ds) : mIt f a ⟨Γ, Sx⟩ = .ok ds ⟨Γ1, S1⟩ := by
  simp only [a_it, ha, rb_ok, h, ofO_some]
theorem op_e {f : D → D → Option D} {a b : M D} {x y z : D} (ha : a ⟨Γ, Sx⟩ = .ok x ⟨Γ1, S1⟩) (hb : b ⟨Γ1, S1⟩ = .ok y ⟨Γ2, S2⟩) (h : f x y = some z) : mOp f a b ⟨Γ, Sx⟩ = .ok z ⟨Γ2, S2⟩ := by
  simp only [a_op, ha, hb, rb_ok, bind_ap, h, ofO_some]
theorem un_e {f : D → Option D} {a : M D} {x z : D} (ha : a ⟨Γ, Sx⟩ = .ok x ⟨Γ1, S1⟩) (h : f x = some z) : mUn f a ⟨Γ, Sx⟩ = .ok z ⟨Γ1, S1⟩ := by
  simp only [a_un, ha, rb_ok, h, ofO_some]
theorem bool_e {a : M D} {k : Bool} (ha : a ⟨Γ, Sx⟩ = .ok (.bl k) ⟨Γ1, S1⟩) : mBool a ⟨Γ, Sx⟩ = .ok k ⟨Γ1, S1⟩ := by
  simp only [a_bool, ha, rb_ok, pure_ap]
theorem tru_e {a : M D} {k : Bool} (ha : a ⟨Γ, Sx⟩ = .ok (.bl k) ⟨Γ1, S1⟩) : mTru a ⟨Γ, Sx⟩ = .ok k ⟨Γ1, S1⟩ := by
  simp only [a_tru, ha, rb_ok, fTru, ofO_some]
theorem mif_f {t : M Bool} {a b : M α} {r : R α} (ht : t ⟨Γ, Sx⟩ = .ok false ⟨Γ1, S1⟩) (h : b ⟨Γ1, S1⟩ = r) : mIf t a b ⟨Γ, Sx⟩ = r := by
  rw [a_mif, ht, rb_ok]; simpa using h
theorem mif_t {t : M Bool} {a b : M α} {r : R α} (ht : t ⟨Γ, Sx⟩ = .ok true ⟨Γ1, S1⟩) (h : a ⟨Γ1, S1⟩ = r) : mIf t a b ⟨Γ, Sx⟩ = r := by
  rw [a_mif, ht, rb_ok]; simpa using h
theorem if_no {t : M Bool} {c : Cmd} (ht : t ⟨Γ, Sx⟩ = .ok false ⟨Γ1, S1⟩) : cIf t c cNil ⟨Γ, Sx⟩ = .nx ⟨Γ1, S1⟩ := by
  rw [a_if, ht, out_ok]; rfl
theorem if_yes {t : M Bool} {c d : Cmd} {o : Out} (ht : t ⟨Γ, Sx⟩ = .ok true ⟨Γ1, S1⟩) (h : c ⟨Γ1, S1⟩ = o) : cIf t c d ⟨Γ, Sx⟩ = o := by
  rw [a_if, ht, out_ok]; simpa using h
theorem seq_e {c d : Cmd} {o : Out} (hc : c ⟨Γ, Sx⟩ = .nx ⟨Γ1, S1⟩) (h : d ⟨Γ1, S1⟩ = o) : cSeq c d ⟨Γ, Sx⟩ = o := by
  rw [a_seq, hc]; exact h
theorem not_e {t : M Bool} {k : Bool} (ht : t ⟨Γ, Sx⟩ = .ok k ⟨Γ1, S1⟩) : (M.bind t fun k => M.pure (!k)) ⟨Γ, Sx⟩ = .ok (!k) ⟨Γ1, S1⟩ := by
  rw [bind_ap, ht, rb_ok]; rfl
theorem tup2_e {a b : M D} {x y : D} {S3 : S} (ha : a ⟨Γ, Sx⟩ = .ok x ⟨Γ1, S1⟩) (hb : b ⟨Γ1, S1⟩ = .ok y ⟨Γ2, S2⟩) : mTup (mCons a (mCons b mNil)) ⟨Γ, Sx⟩ = .ok (.tup [x, y]) ⟨Γ2, S2⟩ := by
  simp only [a_tup, a_cons, ha, hb, bind_ap, rb_ok, a_mnil, pure_ap, List.length_cons, List.length_nil, Nat.zero_add, Nat.reduceAdd, two, if_true]
theorem three : (3 : Nat) ≤ PySem.sizeLine := by decide
theorem tup3_e {a b c : M D} {x y z : D} {Γ3 : List Slot} {S3 : S} (ha : a ⟨Γ, Sx⟩ = .ok x ⟨Γ1, S1⟩) (hb : b ⟨Γ1, S1⟩ = .ok y ⟨Γ2, S2⟩) (hc : c ⟨Γ2, S2⟩ = .ok z ⟨Γ3, S3⟩) : mTup (mCons a (mCons b (mCons c mNil))) ⟨Γ, Sx⟩ = .ok (.tup [x, y, z]) ⟨Γ3, S3⟩ := by
  simp only [a_tup, a_cons, ha, hb, hc, bind_ap, rb_ok, a_mnil, pure_ap, List.length_cons, List.length_nil, Nat.zero_add, Nat.reduceAdd, three, if_true]
theorem slL_to {a b : M D} {ds : List D} {n : Nat} (ha : a ⟨Γ, Sx⟩ = .ok (.lst ds) ⟨Γ1, S1⟩) (hb : b ⟨Γ1, S1⟩ = .ok (.int (n : Int)) ⟨Γ2, S2⟩) (h : n ≤ ds.length) : mSlL a (M.pure none) (mPart b) ⟨Γ, Sx⟩ = .ok (.lst (ds.take n)) ⟨Γ2, S2⟩ := by
  unfold mSlL
  simp only [bind_ap, ha, rb_ok, pure_ap, a_part, hb, cut_to ds n h]
theorem own_nx {i : Nat} {a : M D} {x : D} (ha : a ⟨Γ, Sx⟩ = .ok x ⟨Γ1, S1⟩) (hi : i < Γ1.length) : cOwn i a ⟨Γ, Sx⟩ = .nx ⟨Γ1.set i (.own x), S1⟩ := by
  rw [a_own, ha, out_ok]
  show (if i < Γ1.length then Out.nx ⟨Γ1.set i (.own x), S1⟩ else .bad) = _
  rw [if_pos hi]
theorem frzown {i : Nat} {a : M D} {x : D} (ha : a ⟨Γ, Sx⟩ = .ok x ⟨Γ1, S1⟩) (hi : i < Γ1.length) : cFrz i (cOwn i a) ⟨Γ, Sx⟩ = .nx ⟨Γ1.set i (.frz x), S1⟩ := by
  rw [a_frz, own_nx ha hi]
  show (mName i ⟨Γ1.set i (.own x), S1⟩).out _ = _
  rw [n_own (g_self hi), out_ok, List.set_set]
theorem app_e {i : Nat} {a : M D} {x : D} {ds es : List D} (h0 : Γ[i]? = some (.own (.lst es))) (ha : a ⟨Γ, Sx⟩ = .ok x ⟨Γ1, S1⟩) (h : Γ1[i]? = some (.own (.lst ds))) (hl : ds.length ≤ 1000) : cApp i a ⟨Γ, Sx⟩ = .nx ⟨Γ1.set i (.own (.lst (ds ++ [x]))), S1⟩ := by
  have hl : ds.length < PySem.sizeLine := by rw [PySem.sizeLine_eq]; omega
  unfold cApp
  simp only [h0, ha, out_ok, h, hl, if_true]
theorem for_inv {v : Nat} {mask : List Nat} {c : Cmd} (J : Nat → List Slot → S → Prop) (hJ : ∀ j Γ Sx, J j Γ Sx → v < Γ.length) : ∀ (ds : List D) (i : Nat) (Γ : List Slot) (Sx : S),
    (∀ j d Γ Sx, ds[j]? = some d → J (i + j) Γ Sx → ∃ Γ' Sz, c ⟨Γ.set v (.frz d), Sx⟩ = .nx ⟨Γ', Sz⟩ ∧ J (i + j + 1) (wipeΓ Γ' mask) Sz) → J i Γ Sx → ∃ Γ' Sz, forR (.nm v) mask c ds ⟨Γ, Sx⟩ = .nx ⟨Γ', Sz⟩ ∧ J (i + ds.length) Γ' Sz
  | [], i, Γ, Sx, _, h => ⟨Γ, Sx, rfl, h⟩
  | d :: ds, i, Γ, Sx, hs, h => by
    obtain ⟨Γ', Sz, e1, h1⟩ := hs 0 d Γ Sx rfl h
    obtain ⟨Γ2, S2, e2, h2⟩ := for_inv J hJ ds (i + 1) (wipeΓ Γ' mask) Sz (fun j d Γ Sx hj jj => by
      have := hs (j + 1) d Γ Sx (by simpa using hj) (by rw [show i + (j + 1) = i + 1 + j by omega]; exact jj)
      rw [show i + (j + 1) = i + 1 + j by omega] at this
      exact this) h1
    refine ⟨Γ2, S2, ?_, by rw [List.length_cons, show i + (ds.length + 1) = i + 1 + ds.length by omega]; exact h2⟩
    rw [forR]
    have e0 : asgT (.nm v) d Γ = some (Γ.set v (.frz d)) := by
      show (if v < Γ.length then some (Γ.set v (.frz d)) else none) = _
      rw [if_pos (hJ _ _ _ h)]
    simp only [e0, e1, kill, e2]
theorem cfor_inv {v : Nat} {mask : List Nat} {c : Cmd} {mi : M (List D)} {ds : List D} (J : Nat → List Slot → S → Prop) (hJ : ∀ j Γ Sx, J j Γ Sx → v < Γ.length) (hi : mi ⟨Γ, Sx⟩ = .ok ds ⟨Γ1, S1⟩)
    (hs : ∀ j d Γ Sx, ds[j]? = some d → J j Γ Sx → ∃ Γ' Sz, c ⟨Γ.set v (.frz d), Sx⟩ = .nx ⟨Γ', Sz⟩ ∧ J (j + 1) (wipeΓ Γ' mask) Sz) (h : J 0 Γ1 S1) : ∃ Γ' Sz, cFor (.nm v) mask mi c ⟨Γ, Sx⟩ = .nx ⟨Γ', Sz⟩ ∧ J ds.length Γ' Sz := by
  obtain ⟨Γ', Sz, e, h2⟩ := for_inv J hJ ds 0 Γ1 S1 (fun j d Γ Sx hj jj => by rw [Nat.zero_add] at jj ⊢; exact hs j d Γ Sx hj jj) h
  refine ⟨Γ', Sz, ?_, by rw [Nat.zero_add] at h2; exact h2⟩
  rw [a_for, hi, out_ok, e]
theorem out_exc {α : Type} (c : EC) (x : Str) (w : FP.W) (k : α → Cmd) : (R.exc c x w).out k = .exc c x w := rfl
theorem rb_exc {α β : Type} (c : EC) (x : Str) (w : FP.W) (k : α → M β) : (R.exc c x w).bind k = .exc c x w := rfl
theorem wipe_ne {Γ : List Slot} {i : Nat} : ∀ {vs : List Nat}, i ∉ vs → (wipeΓ Γ vs)[i]? = Γ[i]?
  | [], _ => rfl
  | v :: vs, h => by
    simp only [List.mem_cons, not_or] at h
    show (List.set (wipeΓ Γ vs) v .none)[i]? = _
    rw [g_ne (fun z => h.1 z.symm), wipe_ne h.2]
theorem rg_get {m j : Nat} {f : Nat → D} {d : D} (h : ((List.range m).map f)[j]? = some d) : j < m ∧ d = f j := by
  have hl := (List.getElem?_eq_some_iff.mp h).1
  rw [List.length_map, List.length_range] at hl
  refine ⟨hl, ?_⟩
  rw [List.getElem?_map, List.getElem?_range hl] at h
  exact (Option.some.inj h).symm
theorem call4 {f : Fnc} {a b c d : M D} {Γ1 Γ2 Γ3 Γ4 : List Slot} {x y u t z : D} {S1 S2 S3 S4 S5 : S} (ha : a ⟨Γ, Sx⟩ = .ok x ⟨Γ1, S1⟩) (hb : b ⟨Γ1, S1⟩ = .ok y ⟨Γ2, S2⟩) (hc : c ⟨Γ2, S2⟩ = .ok u ⟨Γ3, S3⟩) (hd : d ⟨Γ3, S3⟩ = .ok t ⟨Γ4, S4⟩) (h : f [x, y, u, t] S4 = .ok z S5) : mCall 4 f (mCons a (mCons b (mCons c (mCons d mNil)))) ⟨Γ, Sx⟩ = .ok z ⟨Γ4, S5⟩ := by
  simp only [a_call, a_cons, ha, hb, hc, hd, bind_ap, rb_ok, a_mnil, pure_ap, List.length_cons, List.length_nil]
  simp only [Nat.zero_add, Nat.reduceAdd, if_true, h]
theorem ret_e {m : M D} {x : D} (h : m ⟨Γ, Sx⟩ = .ok x ⟨Γ1, S1⟩) : cRet m ⟨Γ, Sx⟩ = .rt x ⟨Γ1, S1⟩ := by rw [a_ret, h, out_ok]
theorem drop_e {m : M D} {x : D} (h : m ⟨Γ, Sx⟩ = .ok x ⟨Γ1, S1⟩) : cDrop m ⟨Γ, Sx⟩ = .nx ⟨Γ1, S1⟩ := by rw [a_drop, h, out_ok]
theorem for_e {tg : Tg} {mask : List Nat} {c : Cmd} {mi : M (List D)} {ds : List D} {o : Out} (hi : mi ⟨Γ, Sx⟩ = .ok ds ⟨Γ1, S1⟩) (h : forR tg mask c ds ⟨Γ1, S1⟩ = o) : cFor tg mask mi c ⟨Γ, Sx⟩ = o := by rw [a_for, hi, out_ok, h]
theorem run_rt {n : Nat} {c : Cmd} {ds : List D} (h : c ⟨ds.map .frz ++ List.replicate (n - ds.length) .none, Sx⟩ = .rt z ⟨Γ', Sz⟩) : runF n c ds Sx = .ok z Sz := by
  unfold runF; rw [h]
theorem run_nx {n : Nat} {c : Cmd} {ds : List D} (h : c ⟨ds.map .frz ++ List.replicate (n - ds.length) .none, Sx⟩ = .nx ⟨Γ', Sz⟩) : runF n c ds Sx = .ok .non Sz := by
  unfold runF; rw [h]
theorem run_exc {n : Nat} {c : Cmd} {ds : List D} {e : EC} {y : Str} (h : c ⟨ds.map .frz ++ List.replicate (n - ds.length) .none, Sx⟩ = .exc e y ⟨Γ', Sz⟩) : runF n c ds Sx = .exc e y Sz := by
  unfold runF; rw [h]
theorem seq_rt {c c' : Cmd} {w' : W} (hc : c ⟨Γ, Sx⟩ = .rt z w') : cSeq c c' ⟨Γ, Sx⟩ = .rt z w' := by rw [a_seq, hc]
theorem seq_exc {c c' : Cmd} {w' : W} {e : EC} {y : Str} (hc : c ⟨Γ, Sx⟩ = .exc e y w') : cSeq c c' ⟨Γ, Sx⟩ = .exc e y w' := by rw [a_seq, hc]
theorem mc_e (d : D) : mC d ⟨Γ, Sx⟩ = .ok d ⟨Γ, Sx⟩ := rfl
theorem nil_e : mLst mNil ⟨Γ, Sx⟩ = .ok (.lst []) ⟨Γ, Sx⟩ := rfl
theorem tnil_e : mTup mNil ⟨Γ, Sx⟩ = .ok (.tup []) ⟨Γ, Sx⟩ := rfl
theorem lst1_e {a : M D} (ha : a ⟨Γ, Sx⟩ = .ok x ⟨Γ1, S1⟩) : mLst (mCons a mNil) ⟨Γ, Sx⟩ = .ok (.lst [x]) ⟨Γ1, S1⟩ := by
  have one : (1 : Nat) ≤ PySem.sizeLine := by decide
  simp only [a_lst, a_cons, ha, bind_ap, rb_ok, a_mnil, pure_ap, List.length_cons, List.length_nil, Nat.zero_add, one, if_true]
theorem tup1_e {a : M D} (ha : a ⟨Γ, Sx⟩ = .ok x ⟨Γ1, S1⟩) : mTup (mCons a mNil) ⟨Γ, Sx⟩ = .ok (.tup [x]) ⟨Γ1, S1⟩ := by
  have one : (1 : Nat) ≤ PySem.sizeLine := by decide
  simp only [a_tup, a_cons, ha, bind_ap, rb_ok, a_mnil, pure_ap, List.length_cons, List.length_nil, Nat.zero_add, one, if_true]
/-- a list that is walked over, seen from its data -/
theorem if_no2 {t : M Bool} {c d : Cmd} {o : Out} (ht : t ⟨Γ, Sx⟩ = .ok false ⟨Γ1, S1⟩) (h : d ⟨Γ1, S1⟩ = o) : cIf t c d ⟨Γ, Sx⟩ = o := by
  rw [a_if, ht, out_ok]; simpa using h
theorem fLe_int (a b : Int) : fLe (.int a) (.int b) = some (.bl (decide (a ≤ b))) := rfl
theorem fLt_int (a b : Int) : fLt (.int a) (.int b) = some (.bl (decide (a < b))) := rfl
theorem fGt_int (a b : Int) : fGt (.int a) (.int b) = some (.bl (decide (b < a))) := rfl
theorem fGe_int (a b : Int) : fGe (.int a) (.int b) = some (.bl (decide (b ≤ a))) := rfl
theorem chain_e {f g : D → D → Option D} {a b c : M D} {x y z : D} {k : Bool} (ha : a ⟨Γ, Sx⟩ = .ok x ⟨Γ1, S1⟩) (hb : b ⟨Γ1, S1⟩ = .ok y ⟨Γ2, S2⟩) (h : f x y = some (.bl true)) {Γ3 : List Slot} {S3 : S} (hc : c ⟨Γ2, S2⟩ = .ok z ⟨Γ3, S3⟩) (h2 : g y z = some (.bl k)) : mChain f g a b c ⟨Γ, Sx⟩ = .ok (.bl k) ⟨Γ3, S3⟩ := by
  simp only [a_chain, ha, hb, rb_ok, bind_ap, h, ofO_some, hc, h2]
theorem chain_f {f g : D → D → Option D} {a b c : M D} {x y : D} (ha : a ⟨Γ, Sx⟩ = .ok x ⟨Γ1, S1⟩) (hb : b ⟨Γ1, S1⟩ = .ok y ⟨Γ2, S2⟩) (h : f x y = some (.bl false)) : mChain f g a b c ⟨Γ, Sx⟩ = .ok (.bl false) ⟨Γ2, S2⟩ := by
  simp only [a_chain, ha, hb, rb_ok, bind_ap, h, ofO_some, pure_ap]
/-- range(a, b) -/
theorem rng2_e {a b : M D} {p q : Nat} (ha : a ⟨Γ, Sx⟩ = .ok (.int (p : Int)) ⟨Γ1, S1⟩) (hb : b ⟨Γ1, S1⟩ = .ok (.int (q : Int)) ⟨Γ2, S2⟩) (hp : p ≤ 1000) (hq : q ≤ 1000) : mRng2 a b ⟨Γ, Sx⟩ = .ok ((List.range (q - p)).map fun (i : Nat) => .int ((p + i : Nat) : Int)) ⟨Γ2, S2⟩ := by
  have e : rng (p : Int) ((q : Int) - (p : Int)).toNat = (List.range (q - p)).map fun (i : Nat) => .int ((p + i : Nat) : Int) := by
    unfold rng
    rw [show ((q : Int) - (p : Int)).toNat = q - p by omega]
    apply List.map_congr_left
    intro i _
    rw [Int.natCast_add]
  have hc : -(2 ^ 62) ≤ (p : Int) ∧ (p : Int) < 2 ^ 62 ∧ -(2 ^ 62) ≤ (q : Int) ∧ (q : Int) < 2 ^ 62 := by omega
  rw [a_rng2, ha, rb_ok, bind_ap, hb, rb_ok]
  show (if _ then _ else _ : M (List D)) ⟨Γ2, S2⟩ = _
  rw [if_pos hc, pure_ap, e]
end
structure Bn where
  N : Nat
  b : Book
  ok : BookOk N b
end Law


set_option Elab.async false
set_option linter.all false
set_option maxRecDepth 100000
set_option maxHeartbeats 4000000
set_option exponentiation.threshold 10000
/-! M14: equal data; the words; the draws. -/
namespace Law
open FP PySem
structure Sh (k : Nat) (d : D) : Prop where
  c : d.py.canLay0 = true
  h : d.py.depth ≤ k
theorem Sh.mono {j k : Nat} {d : D} (s : Sh j d) (h : j ≤ k) : Sh k d := ⟨s.c, Nat.le_trans s.h h⟩
theorem sh_int (i : Int) : Sh 0 (.int i) := ⟨rfl, Nat.le_refl _⟩
theorem sh_bl (b : Bool) : Sh 0 (.bl b) := ⟨rfl, Nat.le_refl _⟩
theorem sh_non : Sh 0 .non := ⟨rfl, Nat.le_refl _⟩
theorem sh_all {k : Nat} : ∀ {ds : List D}, (∀ d ∈ ds, Sh k d) → PyData.canLayAll0 (pyL ds) = true ∧ PyData.depthAll (pyL ds) ≤ k
  | [], _ => ⟨rfl, Nat.zero_le _⟩
  | d :: ds, h => by
    obtain ⟨h1, h2⟩ := h d List.mem_cons_self
    obtain ⟨h3, h4⟩ := sh_all fun e he => h e (List.mem_cons_of_mem _ he)
    refine ⟨?_, ?_⟩
    · show (PyData.canLay0 d.py && PyData.canLayAll0 (pyL ds)) = true
      rw [h1, h3]; rfl
    · show max (PyData.depth d.py) (PyData.depthAll (pyL ds)) ≤ k
      omega
theorem sh_tup {k : Nat} {ds : List D} (h : ∀ d ∈ ds, Sh k d) : Sh (k + 1) (.tup ds) := by
  obtain ⟨h1, h2⟩ := sh_all h
  refine ⟨?_, ?_⟩
  · show PyData.canLay0 (.tuple (pyL ds)) = true
    rw [PyData.canLay0]; exact h1
  · show PyData.depth (.tuple (pyL ds)) ≤ k + 1
    rw [PyData.depth]; omega
theorem sh_lst {k : Nat} {ds : List D} (h : ∀ d ∈ ds, Sh k d) : Sh (k + 1) (.lst ds) := by
  obtain ⟨h1, h2⟩ := sh_all h
  refine ⟨?_, ?_⟩
  · show PyData.canLay0 (.list (pyL ds)) = true
    rw [PyData.canLay0]; exact h1
  · show PyData.depth (.list (pyL ds)) ≤ k + 1
    rw [PyData.depth]; omega
theorem sh_shp {k : Nat} {d : D} (h : Sh k d) (hk : k ≤ 64) : shp d = true := by
  show (PyData.canLay0 d.py && decide (d.py.depth ≤ 64)) = true
  rw [h.c, decide_eq_true (Nat.le_trans h.h hk)]; rfl
theorem fEq_self {k : Nat} {d : D} (h : Sh k d) (hk : k ≤ 64) : fEq d d = some (.bl true) := by
  unfold fEq
  rw [if_pos ⟨sh_shp h hk, sh_shp h hk⟩, SeqAt.eqv_refl d.py h.c]
theorem fNe_self {k : Nat} {d : D} (h : Sh k d) (hk : k ≤ 64) : fNe d d = some (.bl false) := by
  unfold fNe
  rw [if_pos ⟨sh_shp h hk, sh_shp h hk⟩, SeqAt.eqv_refl d.py h.c]; rfl
theorem sh_fr (q : Rat) : Sh 1 (fr q) := sh_tup fun d hd => by
  rcases List.mem_cons.mp hd with rfl | hd
  · exact sh_int _
  · rcases List.mem_cons.mp hd with rfl | hd
    · exact sh_int _
    · cases hd
theorem sh_map {ι : Type} {k : Nat} (l : List ι) (f : ι → D) (h : ∀ i ∈ l, Sh k (f i)) : ∀ d ∈ l.map f, Sh k d := fun d hd => by
  obtain ⟨i, hi, rfl⟩ := List.mem_map.mp hd
  exact h i hi
theorem sh_frs {ι : Type} (l : List ι) (f : ι → Rat) : Sh 2 (.lst (l.map fun i => fr (f i))) := sh_lst (sh_map l _ fun i _ => sh_fr _)
theorem sh_lot (l : List Nat) : Sh 1 (lotD l) := sh_tup (sh_map l _ fun i _ => sh_int _)
/-! the draws -/
/-- the drawn numbers behind at most k draws -/
structure Dk (k : Nat) (Sx : S) : Prop where
  ne : Sx.cells ≠ []
  n0 : 0 ≤ Sx.n
  nk : Sx.n ≤ (k : Int)
  nn : ∀ c ∈ Sx.cells, 0 ≤ c
theorem Dk.mono {j k : Nat} {Sx : S} (h : Dk j Sx) (l : j ≤ k) : Dk k Sx := ⟨h.ne, h.n0, by have := h.nk; omega, h.nn⟩
theorem take_ok {k : Nat} {Sx : S} (h : Dk k Sx) (hk : k ≤ 1000000) (b : Nat) (h1 : 1 ≤ b) (hb : b ≤ 1000) : ∃ (v : Nat) (Sz : S), v < b ∧ f__law_take [.st, .int (b : Int)] Sx = .ok (.int (v : Int)) Sz ∧ Dk (k + 1) Sz := by
  by_cases hb2 : (b : Int) < 2
  · refine ⟨0, Sx, by omega, ?_, h.mono (by omega)⟩
    unfold f__law_take fTake
    simp only
    rw [if_pos hb2]; rfl
  · have ok : Sok Sx ∧ (b : Int) < 4611686018427387904 := ⟨⟨h.ne, h.n0, by have := h.nk; omega, h.nn⟩, by omega⟩
    have e : f__law_take [.st, .int (b : Int)] Sx = .ok (.int (tkR Sx b)) (tkS Sx b) := by
      unfold f__law_take fTake
      simp only
      rw [if_neg hb2, if_pos ok]
    have r0 : 0 ≤ tkR Sx b ∧ tkR Sx b < b := by
      unfold tkR
      simp only
      split
      · exact ⟨Int.emod_nonneg _ (by omega), Int.emod_lt_of_pos _ (by omega)⟩
      · exact ⟨Int.emod_nonneg _ (by omega), Int.emod_lt_of_pos _ (by omega)⟩
    refine ⟨(tkR Sx b).toNat, tkS Sx b, by omega, by rw [Int.toNat_of_nonneg r0.1]; exact e, ?_⟩
    unfold tkS
    simp only
    split
    · rename_i hc
      refine ⟨by simpa using h.ne, h.n0, by have := h.nk; show Sx.n ≤ _; omega, fun c hc2 => ?_⟩
      rcases List.mem_or_eq_of_mem_set hc2 with h' | h'
      · exact h.nn c h'
      · rw [h']
        exact Int.ediv_nonneg (by omega) (by omega)
    · exact ⟨h.ne, by have := h.n0; show 0 ≤ Sx.n + 1; omega, by have := h.nk; show Sx.n + 1 ≤ _; omega, h.nn⟩
/-! a lot -/
def lsD (f : Nat → Nat) (m : Nat) : D := .lst ((List.range m).map fun j => .int (f j : Int))
noncomputable def loB : Cmd := cSeq (cSet 5 (mCall 2 f__law_take (mCons (mName 0) (mCons (mName 1) mNil)))) (cSet 3 (mLc [6] (.nm 6) (mIt rng1 (mName 1)) (M.pure true) (mOp fAdd (mOp fIx (mRead 3) (mName 6)) (mUn fInt (mOp fEq (mName 6) (mName 5))))))
theorem loB3 (Sx Sz : S) {st many ms lot x v lot' : D} (h1 : f__law_take [st, many] Sx = .ok v Sz)
    (h2 : mLc [6] (.nm 6) (mIt rng1 (mName 1)) (M.pure true) (mOp fAdd (mOp fIx (mRead 3) (mName 6)) (mUn fInt (mOp fEq (mName 6) (mName 5)))) ⟨[.frz st, .frz many, .frz ms, .frz lot, .frz x, .frz v, .none], Sz⟩ = .ok lot' ⟨[.frz st, .frz many, .frz ms, .frz lot, .frz x, .frz v, .none], Sz⟩) (ds : List D) :
    forR (.nm 4) [4, 5] loB (x :: ds) ⟨[.frz st, .frz many, .frz ms, .frz lot, .none, .none, .none], Sx⟩ = forR (.nm 4) [4, 5] loB ds ⟨[.frz st, .frz many, .frz ms, .frz lot', .none, .none, .none], Sz⟩ := by
  have e : loB ⟨[.frz st, .frz many, .frz ms, .frz lot, .frz x, .none, .none], Sx⟩ = .nx ⟨[.frz st, .frz many, .frz ms, .frz lot', .frz x, .frz v, .none], Sz⟩ := by
    unfold loB
    simp [bind_ap, pure_ap, rb_ok, out_ok, ofO_some, mC_ap, a_seq, a_nil, a_pass, a_brk, a_if, a_ret, a_retN, a_drop, a_set, a_own, a_frz, a_tg, a_par, a_for, a_op, a_un, a_cons, a_mnil, a_call, a_tup, a_lst, a_bool, a_tru, a_mif, a_chain, a_it, a_rng2, a_part, mName, mRead, sl, h1, h2]
  rw [forR]
  simp [asgT, e, kill, wipeΓ]
theorem lo_h (Sx : S) {s0 s2 s3 s4 s5 s6 : Slot} {n : D} {ds : List D} (h : rng1 n = some ds) : mIt rng1 (mName 1) ⟨[s0, .frz n, s2, s3, s4, s5, s6], Sx⟩ = .ok ds ⟨[s0, .frz n, s2, s3, s4, s5, s6], Sx⟩ := by simp [bind_ap, pure_ap, rb_ok, out_ok, ofO_some, mC_ap, a_seq, a_nil, a_pass, a_brk, a_if, a_ret, a_retN, a_drop, a_set, a_own, a_frz, a_tg, a_par, a_for, a_op, a_un, a_cons, a_mnil, a_call, a_tup, a_lst, a_bool, a_tru, a_mif, a_chain, a_it, a_rng2, a_part, mName, mRead, sl, h]
theorem lo_e (Sx : S) {s0 s1 s2 s4 : Slot} {lot v x u z : D} {c : Bool} (h1 : fIx lot x = some u) (h2 : fEq x v = some (.bl c)) (h3 : fAdd u (.int (if c then 1 else 0)) = some z) : mOp fAdd (mOp fIx (mRead 3) (mName 6)) (mUn fInt (mOp fEq (mName 6) (mName 5))) ⟨[s0, s1, s2, .frz lot, s4, .frz v, .frz x], Sx⟩ = .ok z ⟨[s0, s1, s2, .frz lot, s4, .frz v, .frz x], Sx⟩ := by
  have e : fInt (.bl c) = some (.int (if c then 1 else 0)) := rfl
  simp [bind_ap, pure_ap, rb_ok, out_ok, ofO_some, mC_ap, a_seq, a_nil, a_pass, a_brk, a_if, a_ret, a_retN, a_drop, a_set, a_own, a_frz, a_tg, a_par, a_for, a_op, a_un, a_cons, a_mnil, a_call, a_tup, a_lst, a_bool, a_tru, a_mif, a_chain, a_it, a_rng2, a_part, mName, mRead, sl, h1, h2, e, h3]
def inc (f : Nat → Nat) (p : Nat) : Nat → Nat := fun j => f j + (if j = p then 1 else 0)
theorem fEq_nat (a b : Nat) : fEq (.int (a : Int)) (.int (b : Int)) = some (.bl (decide (a = b))) := by
  rw [fEq_int]
  congr 2
  rw [Bool.eq_iff_iff]
  simp only [decide_eq_true_eq]
  omega
theorem loL_ok (Sx : S) (f : Nat → Nat) {m p : Nat} (hm : m ≤ 10) {s0 s2 s4 : Slot} :
    mLc [6] (.nm 6) (mIt rng1 (mName 1)) (M.pure true) (mOp fAdd (mOp fIx (mRead 3) (mName 6)) (mUn fInt (mOp fEq (mName 6) (mName 5)))) ⟨[s0, .frz (.int (m : Int)), s2, .frz (lsD f m), s4, .frz (.int (p : Int)), .none], Sx⟩ = .ok (lsD (inc f p) m) ⟨[s0, .frz (.int (m : Int)), s2, .frz (lsD f m), s4, .frz (.int (p : Int)), .none], Sx⟩ :=
  mLc_map (vs := [6]) (tg := .nm 6) (List.range m) (fun (j : Nat) => .int (j : Int)) (fun j => .int (inc f p j : Int)) (lo_h Sx (rng1_map (by omega))) (by rw [List.length_range]; omega) fun j hj =>
    ⟨[s0, .frz (.int (m : Int)), s2, .frz (lsD f m), s4, .frz (.int (p : Int)), .frz (.int (j : Int))], rfl, rfl, lo_e Sx (rg_at _ (List.mem_range.mp hj)) (fEq_nat j p) (by
      show some (D.int ((f j : Int) + (if (decide (j = p)) = true then 1 else 0))) = some (D.int ((inc f p j : Nat) : Int))
      congr 2
      unfold inc
      by_cases c : j = p
      · rw [if_pos (decide_eq_true c), if_pos c]; omega
      · rw [if_neg (by rw [decide_eq_false c]; decide), if_neg c]; omega)⟩
def tot (f : Nat → Nat) (m : Nat) : Nat := ((List.range m).map f).sum
theorem tot_inc (f : Nat → Nat) (p : Nat) : ∀ m, p < m → tot (inc f p) m = tot f m + 1 := by
  have key : ∀ m, tot (inc f p) m = tot f m + (if p < m then 1 else 0) := by
    intro m
    induction m with
    | zero => rfl
    | succ m ih =>
      unfold tot at ih ⊢
      rw [List.range_succ, List.map_append, List.map_append, List.sum_append, List.sum_append, ih]
      show _ + (inc f p m + 0) = _ + (f m + 0) + _
      unfold inc
      by_cases c : m = p
      · rw [if_pos c, if_neg (by omega), if_pos (by omega)]; omega
      · rw [if_neg c]
        by_cases c2 : p < m
        · rw [if_pos c2, if_pos (by omega)]; omega
        · have c3 : ¬ p < m + 1 := by omega
          rw [if_neg c2, if_neg c3]
          simp
  intro m hp
  rw [key m, if_pos hp]
theorem lo_loop {m : Nat} (h1 : 1 ≤ m) (hm : m ≤ 10) {ms : D} : ∀ (ds : List D) (k : Nat) (Sx : S) (f : Nat → Nat), Dk k Sx → k + ds.length ≤ 1000000 →
    ∃ (g : Nat → Nat) (Sz : S), forR (.nm 4) [4, 5] loB ds ⟨[.frz .st, .frz (.int (m : Int)), .frz ms, .frz (lsD f m), .none, .none, .none], Sx⟩ = .nx ⟨[.frz .st, .frz (.int (m : Int)), .frz ms, .frz (lsD g m), .none, .none, .none], Sz⟩ ∧ tot g m = tot f m + ds.length ∧ Dk (k + ds.length) Sz
  | [], k, Sx, f, h, _ => ⟨f, Sx, rfl, rfl, h⟩
  | d :: ds, k, Sx, f, h, hk => by
    rw [List.length_cons] at hk
    obtain ⟨p, S1, hp, e1, h2⟩ := take_ok h (by omega) m h1 (by omega)
    obtain ⟨g, S2, e2, t2, h3⟩ := lo_loop h1 hm (ms := ms) ds (k + 1) S1 (inc f p) h2 (by omega)
    refine ⟨g, S2, ?_, ?_, ?_⟩
    · rw [loB3 Sx S1 e1 (loL_ok S1 f hm), e2]
    · rw [t2, tot_inc f p m hp, List.length_cons]; omega
    · rw [List.length_cons, show k + (ds.length + 1) = k + 1 + ds.length by omega]; exact h3
theorem lot3 (Sx Sy Sz : S) {st many ms l0 m1 v : D} {ds us : List D} (h0 : fRep (.lst [.int 0]) many = some l0) (h1 : fAdd ms (.int 1) = some m1) (h2 : f__law_take [st, m1] Sx = .ok v Sy) (h3 : rng1 v = some ds) (h4 : forR (.nm 4) [4, 5] loB ds ⟨[.frz st, .frz many, .frz ms, .frz l0, .none, .none, .none], Sy⟩ = .nx ⟨[.frz st, .frz many, .frz ms, .frz (.lst us), .none, .none, .none], Sz⟩) : f__law_lot [st, many, ms] Sx = .ok (.tup us) Sz := by
  have one : (1 : Nat) ≤ PySem.sizeLine := by decide
  unfold loB at h4
  unfold f__law_lot runF c__law_lot
  simp [bind_ap, pure_ap, rb_ok, out_ok, ofO_some, mC_ap, a_seq, a_nil, a_pass, a_brk, a_if, a_ret, a_retN, a_drop, a_set, a_own, a_frz, a_tg, a_par, a_for, a_op, a_un, a_cons, a_mnil, a_call, a_tup, a_lst, a_bool, a_tru, a_mif, a_chain, a_it, a_rng2, a_part, mName, mRead, sl, h0, h1, h2, h3, h4, one, fTuple]
theorem lot_ok {k m ms : Nat} {Sx : S} (h : Dk k Sx) (hk : k ≤ 900000) (h1 : 1 ≤ m) (hm : m ≤ 10) (hs : ms ≤ 10) : ∃ (l : List Nat) (Sz : S), f__law_lot [.st, .int (m : Int), .int (ms : Int)] Sx = .ok (lotD l) Sz ∧ l.length = m ∧ l.sum ≤ ms ∧ Dk (k + 20) Sz := by
  obtain ⟨v, S1, hv, e1, h2⟩ := take_ok h (by omega) (ms + 1) (by omega) (by omega)
  obtain ⟨g, S2, e2, t2, h3⟩ := lo_loop h1 hm (ms := .int (ms : Int)) (rng 0 v) (k + 1) S1 (fun _ => 0) h2 (by rw [rng_len]; omega)
  rw [rng_len] at t2 h3
  have z : lsD (fun _ => 0) m = .lst (List.replicate m (.int 0)) := by
    unfold lsD
    congr 1
    apply List.ext_getElem?
    intro j
    rw [List.getElem?_map, List.getElem?_replicate]
    by_cases hj : j < m
    · rw [List.getElem?_range hj, if_pos hj]; rfl
    · rw [List.getElem?_eq_none (by rw [List.length_range]; omega), if_neg hj]; rfl
  rw [z] at e2
  have t0 : tot (fun _ => 0) m = 0 := by
    unfold tot
    have : ∀ l : List Nat, (l.map fun _ => 0).sum = 0 := by
      intro l
      induction l with
      | nil => rfl
      | cons a l ih => rw [List.map_cons, List.sum_cons, ih]
    exact this _
  have e4 := lot3 Sx S1 S2 (fRep_one (.int 0) m (by omega)) (fAdd_int (ms : Int) 1) e1 (rng1_ok (by omega)) e2
  refine ⟨(List.range m).map g, S2, ?_, by rw [List.length_map, List.length_range], ?_, h3.mono (by omega)⟩
  · rw [e4]
    unfold lotD
    rw [List.map_map]
    rfl
  · show tot g m ≤ ms
    rw [t2, t0]; omega
end Law


set_option Elab.async false
set_option linter.all false
set_option maxRecDepth 100000
set_option maxHeartbeats 4000000
set_option exponentiation.threshold 10000
/-! M15: litters, books. -/
namespace Law
open FP PySem
/-! ordered -/
theorem perm_map_inv {α β : Type} {f : α → β} {a b : List β} (h : a.Perm b) : ∀ zs : List α, a = zs.map f → ∃ zs', b = zs'.map f ∧ zs.Perm zs' := by
  induction h with
  | nil => intro zs e; exact ⟨[], rfl, by rw [List.map_eq_nil_iff.mp e.symm]⟩
  | cons x _ ih =>
    intro zs e
    cases zs with
    | nil => cases e
    | cons z zs =>
      injection e with e1 e2
      obtain ⟨zs', h1, h2⟩ := ih zs e2
      exact ⟨z :: zs', by rw [List.map_cons, ← h1, e1], h2.cons z⟩
  | swap x y l =>
    intro zs e
    match zs, e with
    | z :: u :: zs, e =>
      injection e with e1 e2
      injection e2 with e2 e3
      exact ⟨u :: z :: zs, by rw [List.map_cons, List.map_cons, ← e1, ← e2, ← e3], List.Perm.swap u z zs⟩
  | trans _ _ ih1 ih2 =>
    intro zs e
    obtain ⟨z1, h1, h2⟩ := ih1 zs e
    obtain ⟨z2, h3, h4⟩ := ih2 z1 h1
    exact ⟨z2, h3, h2.trans h4⟩
theorem rsum_perm {a b : List Rat} (h : a.Perm b) : rsum a = rsum b := by
  induction h with
  | nil => rfl
  | cons x _ ih => show x + _ = x + _; rw [ih]
  | swap x y l => show y + (x + _) = x + (y + _); grind
  | trans _ _ ih1 ih2 => rw [ih1, ih2]
abbrev Zw : Type := List Nat × Nat
def toK (z : Zw) : FPS.K2 := (z.1.map fun (n : Nat) => (n : Int), (z.2 : Int))
theorem dk2_toK (z : Zw) : dk2 (toK z) = .tup [lotD z.1, .int (z.2 : Int)] := by
  show D.tup [.tup ((z.1.map fun (n : Nat) => (n : Int)).map D.int), .int (z.2 : Int)] = _
  rw [List.map_map]
  rfl
noncomputable def orE : M D := mTup (mCons (mName 4) (mCons (mCall 2 f__law_fr (mCons (mName 5) (mCons (mUn fSum (mRead 1)) mNil))) mNil))
section
variable (Sx : S) {s0 s1 s2 s3 s4 s5 : Slot}
theorem or_h {a l : D} {ds : List D} (h1 : fLen a = some l) (h2 : rng1 l = some ds) : mIt rng1 (mUn fLen (mRead 0)) ⟨[.frz a, s1, s2, s3, s4, s5], Sx⟩ = .ok ds ⟨[.frz a, s1, s2, s3, s4, s5], Sx⟩ := by simp [bind_ap, pure_ap, rb_ok, out_ok, ofO_some, mC_ap, a_seq, a_nil, a_pass, a_brk, a_if, a_ret, a_retN, a_drop, a_set, a_own, a_frz, a_tg, a_par, a_for, a_op, a_un, a_cons, a_mnil, a_call, a_tup, a_lst, a_bool, a_tru, a_mif, a_chain, a_it, a_rng2, a_part, mName, mRead, sl, h1, h2]
theorem or_e {a c x u v : D} (h1 : fIx a x = some u) (h2 : fIx c x = some v) : mTup (mCons (mOp fIx (mRead 0) (mName 3)) (mCons (mOp fIx (mRead 1) (mName 3)) mNil)) ⟨[.frz a, .frz c, s2, .frz x, s4, s5], Sx⟩ = .ok (.tup [u, v]) ⟨[.frz a, .frz c, s2, .frz x, s4, s5], Sx⟩ := by simp [bind_ap, pure_ap, rb_ok, out_ok, ofO_some, mC_ap, a_seq, a_nil, a_pass, a_brk, a_if, a_ret, a_retN, a_drop, a_set, a_own, a_frz, a_tg, a_par, a_for, a_op, a_un, a_cons, a_mnil, a_call, a_tup, a_lst, a_bool, a_tru, a_mif, a_chain, a_it, a_rng2, a_part, mName, mRead, sl, h1, h2, two]
theorem or_h2 {ds : List D} : mIt lstOf (mRead 2) ⟨[s0, s1, .frz (.lst ds), s3, s4, s5], Sx⟩ = .ok ds ⟨[s0, s1, .frz (.lst ds), s3, s4, s5], Sx⟩ := by simp [bind_ap, pure_ap, rb_ok, out_ok, ofO_some, mC_ap, a_seq, a_nil, a_pass, a_brk, a_if, a_ret, a_retN, a_drop, a_set, a_own, a_frz, a_tg, a_par, a_for, a_op, a_un, a_cons, a_mnil, a_call, a_tup, a_lst, a_bool, a_tru, a_mif, a_chain, a_it, a_rng2, a_part, mName, mRead, sl, lstOf]
theorem or_e2 {c x y t z : D} (h1 : fSum c = some t) (h2 : f__law_fr [y, t] Sx = .ok z Sx) : orE ⟨[s0, .frz c, s2, s3, .frz x, .frz y], Sx⟩ = .ok (.tup [x, z]) ⟨[s0, .frz c, s2, s3, .frz x, .frz y], Sx⟩ := by
  unfold orE
  simp [bind_ap, pure_ap, rb_ok, out_ok, ofO_some, mC_ap, a_seq, a_nil, a_pass, a_brk, a_if, a_ret, a_retN, a_drop, a_set, a_own, a_frz, a_tg, a_par, a_for, a_op, a_un, a_cons, a_mnil, a_call, a_tup, a_lst, a_bool, a_tru, a_mif, a_chain, a_it, a_rng2, a_part, mName, mRead, sl, h1, h2, two]
end
theorem ordered3 (Sx : S) {a c p q : D} {us : List D} (h1 : mLc [3] (.nm 3) (mIt rng1 (mUn fLen (mRead 0))) (M.pure true) (mTup (mCons (mOp fIx (mRead 0) (mName 3)) (mCons (mOp fIx (mRead 1) (mName 3)) mNil))) ⟨[.frz a, .frz c, .none, .none, .none, .none], Sx⟩ = .ok p ⟨[.frz a, .frz c, .none, .none, .none, .none], Sx⟩) (h2 : fSort2 p = some q)
    (h3 : mLc [4, 5] (.tp [4, 5]) (mIt lstOf (mRead 2)) (M.pure true) orE ⟨[.frz a, .frz c, .frz q, .none, .none, .none], Sx⟩ = .ok (.lst us) ⟨[.frz a, .frz c, .frz q, .none, .none, .none], Sx⟩) : f__law_ordered [a, c] Sx = .ok (.tup us) Sx := by
  unfold orE at h3
  unfold f__law_ordered runF c__law_ordered
  simp [bind_ap, pure_ap, rb_ok, out_ok, ofO_some, mC_ap, a_seq, a_nil, a_pass, a_brk, a_if, a_ret, a_retN, a_drop, a_set, a_own, a_frz, a_tg, a_par, a_for, a_op, a_un, a_cons, a_mnil, a_call, a_tup, a_lst, a_bool, a_tru, a_mif, a_chain, a_it, a_rng2, a_part, mName, mRead, sl, h1, h2, h3, fTuple]
theorem fSum_nat (ws : List Nat) : fSum (.lst (ws.map fun (w : Nat) => .int (w : Int))) = some (.int ((ws.sum : Nat) : Int)) := by
  have e : (ws.map fun (w : Nat) => D.int (w : Int)) = (ws.map fun (w : Nat) => (w : Int)).map D.int := by rw [List.map_map]; rfl
  show (ints? (ws.map fun (w : Nat) => D.int (w : Int))).map (fun ns => D.int ns.sum) = _
  rw [e, ints?_map]
  show some (D.int (ws.map fun (w : Nat) => (w : Int)).sum) = _
  congr 2
  induction ws with
  | nil => rfl
  | cons w ws ih => rw [List.map_cons, List.sum_cons, List.sum_cons, ih (by rw [List.map_map]; rfl)]; omega
theorem rsum_frac (c : Nat) (hc : 0 < c) : ∀ ws : List Nat, rsum (ws.map fun (w : Nat) => mkRat (w : Int) c) = mkRat (ws.sum : Nat) c
  | [] => by show (0 : Rat) = _; rw [List.sum_nil]; exact (Rat.zero_mkRat c).symm
  | w :: ws => by
    show mkRat (w : Int) c + rsum (ws.map fun (w : Nat) => mkRat (w : Int) c) = _
    rw [rsum_frac c hc ws, List.sum_cons, Rat.mkRat_add_mkRat _ _ (by omega) (by omega)]
    rw [Rat.mkRat_eq_iff (Nat.mul_ne_zero (by omega) (by omega)) (by omega)]
    push_cast
    grind
theorem pb_frac {w c : Nat} (hc : 0 < c) (h : w ≤ c) : Pb c (mkRat (w : Int) c) := by
  have hc0 : (c : Rat) ≠ 0 := fun z => by
    have := Rat.natCast_pos.mpr hc
    rw [z] at this; exact Rat.lt_irrefl this
  have e : mkRat (w : Int) c = (w : Int) / (c : Rat) := Rat.mkRat_eq_div _ _
  refine ⟨⟨w, ?_⟩, ?_, ?_⟩
  · rw [e, Rat.div_mul_cancel hc0]
  · rw [← Rat.divInt_ofNat]; exact Rat.divInt_nonneg (by omega) (by omega)
  · have h1 : (w : Rat) ≤ (c : Rat) := Rat.natCast_le_natCast.mpr h
    rw [e]
    have hp := Rat.natCast_pos.mpr hc
    refine Rat.le_of_mul_le_mul_right (c := (c : Rat)) ?_ hp
    rw [Rat.div_mul_cancel hc0, Rat.one_mul]
    exact h1
theorem ordered_ok (Sx : S) (zs : List Zw) (hz : zs ≠ []) (hl : zs.length ≤ 5) (hw : ∀ z ∈ zs, 1 ≤ z.2 ∧ z.2 ≤ 5) : ∃ (l : Lit) (c : Nat), f__law_ordered [.lst (zs.map fun z => lotD z.1), .lst (zs.map fun z => .int (z.2 : Int))] Sx = .ok (litD l) Sx ∧ 1 ≤ c ∧ c ≤ 25 ∧ l.length ≤ 5 ∧ (∀ x ∈ l, (∃ z ∈ zs, x.1 = z.1) ∧ Pb c x.2) ∧ rsum (l.map (·.2)) = 1 := by
  have hp := (FPS.srt_perm (zs.map toK)).symm
  obtain ⟨ys, e1, e2⟩ := perm_map_inv hp zs rfl
  generalize hc : (zs.map (·.2)).sum = c
  have c1 : 1 ≤ c := by
    cases zs with
    | nil => exact absurd rfl hz
    | cons z zs => rw [← hc, List.map_cons, List.sum_cons]; have := (hw z List.mem_cons_self).1; omega
  have csum : ∀ (us : List Zw), (∀ z ∈ us, 1 ≤ z.2 ∧ z.2 ≤ 5) → (us.map (·.2)).sum ≤ 5 * us.length := by
    intro us
    induction us with
    | nil => intro _; exact Nat.le_refl _
    | cons u us ih =>
      intro h
      have := (h u List.mem_cons_self).2
      have := ih fun z hz => h z (List.mem_cons_of_mem _ hz)
      rw [List.map_cons, List.sum_cons, List.length_cons]; omega
  have c2 : c ≤ 25 := by have := csum zs hw; omega
  have yw : ∀ y ∈ ys, y ∈ zs := fun y hy => e2.mem_iff.mpr hy
  have wle : ∀ y ∈ zs, y.2 ≤ c := fun y hy => by rw [← hc]; exact le_sum (List.mem_map.mpr ⟨y, hy, rfl⟩)
  refine ⟨ys.map fun y => (y.1, mkRat (y.2 : Int) c), c, ?_, c1, c2, by rw [List.length_map, ← e2.length_eq]; omega, fun x hx => ?_, ?_⟩
  · have hl1 : fLen (.lst (zs.map fun z => lotD z.1)) = some (.int (zs.length : Int)) := by rw [fLen_lst, List.length_map]
    have q1 : mLc [3] (.nm 3) (mIt rng1 (mUn fLen (mRead 0))) (M.pure true) (mTup (mCons (mOp fIx (mRead 0) (mName 3)) (mCons (mOp fIx (mRead 1) (mName 3)) mNil))) ⟨[.frz (.lst (zs.map fun z => lotD z.1)), .frz (.lst (zs.map fun z => .int (z.2 : Int))), .none, .none, .none, .none], Sx⟩ = .ok (.lst ((zs.map toK).map dk2)) ⟨[.frz (.lst (zs.map fun z => lotD z.1)), .frz (.lst (zs.map fun z => .int (z.2 : Int))), .none, .none, .none, .none], Sx⟩ := by
      have key := mLc_map (vs := [3]) (tg := .nm 3) (Sx := Sx) (me := mTup (mCons (mOp fIx (mRead 0) (mName 3)) (mCons (mOp fIx (mRead 1) (mName 3)) mNil))) (List.range zs.length) (fun (i : Nat) => .int (i : Int)) (fun i => dk2 (toK (zs.getD i ([], 0)))) (or_h Sx (s1 := .frz (.lst (zs.map fun z => .int (z.2 : Int)))) (s2 := .none) (s3 := .none) (s4 := .none) (s5 := .none) hl1 (rng1_map (by omega))) (by rw [List.length_range]; omega) fun i hi => by
        have hi := List.mem_range.mp hi
        have g : zs.getD i ([], 0) = zs[i] := by rw [List.getD_eq_getElem?_getD, List.getElem?_eq_getElem hi]; rfl
        refine ⟨[.frz (.lst (zs.map fun z => lotD z.1)), .frz (.lst (zs.map fun z => .int (z.2 : Int))), .none, .frz (.int (i : Int)), .none, .none], rfl, rfl, ?_⟩
        rw [g, dk2_toK]
        exact or_e Sx (fIx_lst (by rw [List.getElem?_map, List.getElem?_eq_getElem hi]; rfl)) (fIx_lst (by rw [List.getElem?_map, List.getElem?_eq_getElem hi]; rfl))
      have hlist : (List.range zs.length).map (fun i => dk2 (toK (zs.getD i ([], 0)))) = (zs.map toK).map dk2 := by
       apply List.ext_getElem?
       intro i
       rw [List.getElem?_map, List.getElem?_map, List.getElem?_map]
       by_cases hi : i < zs.length
       · rw [List.getElem?_range hi, List.getElem?_eq_getElem hi]
         show some (dk2 (toK (zs.getD i ([], 0)))) = some (dk2 (toK zs[i]))
         rw [List.getD_eq_getElem?_getD, List.getElem?_eq_getElem hi]; rfl
       · rw [List.getElem?_eq_none (by rw [List.length_range]; omega), List.getElem?_eq_none (by omega)]; rfl
      rw [key, hlist]
    have q2 : fSort2 (.lst ((zs.map toK).map dk2)) = some (.lst (ys.map fun y => .tup [lotD y.1, .int (y.2 : Int)])) := by
      show (pairs2? ((zs.map toK).map dk2)).map (fun ps => D.lst ((FPS.srt ps).map dk2)) = _
      have hy : (ys.map toK).map dk2 = ys.map fun y => .tup [lotD y.1, .int (y.2 : Int)] := by
        rw [List.map_map]
        exact List.map_congr_left fun y _ => dk2_toK y
      rw [pairs2?_map, Option.map_some, e1, hy]
    have fs : fSum (.lst (zs.map fun z => .int (z.2 : Int))) = some (.int (c : Int)) := by
      have := fSum_nat (zs.map (·.2))
      rw [List.map_map, hc] at this
      exact this
    have q3 := mLc_map (vs := [4, 5]) (tg := .tp [4, 5]) (me := orE) (Sx := Sx) ys (fun y => .tup [lotD y.1, .int (y.2 : Int)]) (fun y => .tup [lotD y.1, fr (mkRat (y.2 : Int) c)]) (or_h2 Sx (s0 := .frz (.lst (zs.map fun z => lotD z.1))) (s1 := .frz (.lst (zs.map fun z => .int (z.2 : Int)))) (s3 := .none) (s4 := .none) (s5 := .none)) (by rw [← e2.length_eq]; omega) fun y hy =>
      ⟨[.frz (.lst (zs.map fun z => lotD z.1)), .frz (.lst (zs.map fun z => .int (z.2 : Int))), .frz (.lst (ys.map fun y => .tup [lotD y.1, .int (y.2 : Int)])), .none, .frz (lotD y.1), .frz (.int (y.2 : Int))], rfl, rfl, or_e2 Sx fs (fr_ok _ c Sx (by omega) (Nat.lt_of_le_of_lt c2 (by decide)))⟩
    rw [ordered3 Sx q1 q2 q3]
    unfold litD
    rw [List.map_map]
    rfl
  · obtain ⟨y, hy, rfl⟩ := List.mem_map.mp hx
    exact ⟨⟨y, yw y hy, rfl⟩, pb_frac (by omega) (wle y (yw y hy))⟩
  · rw [List.map_map]
    show rsum (ys.map fun y => mkRat (y.2 : Int) c) = 1
    have e3 : (ys.map fun y => mkRat (y.2 : Int) c) = (ys.map (·.2)).map fun (w : Nat) => mkRat (w : Int) c := by rw [List.map_map]; rfl
    have e4 : (ys.map (·.2)).sum = c := by rw [← hc]; exact ((e2.map (·.2)).sum_nat).symm
    rw [e3, rsum_frac c (by omega), e4]
    rw [Rat.mkRat_eq_div, ]
    exact Rat.mul_inv_cancel _ (fun z => by
      have := Rat.natCast_pos.mpr (show 0 < c by omega)
      have z : (c : Rat) = 0 := z
      rw [z] at this; exact Rat.lt_irrefl this)
end Law


set_option Elab.async false
set_option linter.all false
set_option maxRecDepth 100000
set_option maxHeartbeats 4000000
set_option exponentiation.threshold 10000
/-! M16: litters and books are drawn well. -/
namespace Law
open FP PySem
noncomputable def liB : Cmd := cSeq (cSet 5 (mCall 3 f__law_lot (mCons (mName 0) (mCons (mName 1) (mCons (mName 2) mNil))))) (cSet 3 (mIf (mBool (mOp fIn (mName 5) (mRead 3))) (mName 3) (mOp fCat (mRead 3) (mLst (mCons (mName 5) mNil)))))
theorem liB3 (Sx Sz : S) {st mn ms ls lot x z : D} {c : Bool} (h1 : f__law_lot [st, mn, ms] Sx = .ok lot Sz) (h2 : fIn lot ls = some (.bl c)) (h3 : c = true → z = ls) (h4 : c = false → fCat ls (.lst [lot]) = some z) (ds : List D) :
    forR (.nm 4) [4, 5] liB (x :: ds) ⟨[.frz st, .frz mn, .frz ms, .frz ls, .none, .none, .none], Sx⟩ = forR (.nm 4) [4, 5] liB ds ⟨[.frz st, .frz mn, .frz ms, .frz z, .none, .none, .none], Sz⟩ := by
  have one : (1 : Nat) ≤ PySem.sizeLine := by decide
  have e : liB ⟨[.frz st, .frz mn, .frz ms, .frz ls, .frz x, .none, .none], Sx⟩ = .nx ⟨[.frz st, .frz mn, .frz ms, .frz z, .frz x, .frz lot, .none], Sz⟩ := by
    unfold liB
    cases c with
    | true => rw [h3 rfl]; simp [bind_ap, pure_ap, rb_ok, out_ok, ofO_some, mC_ap, a_seq, a_nil, a_pass, a_brk, a_if, a_ret, a_retN, a_drop, a_set, a_own, a_frz, a_tg, a_par, a_for, a_op, a_un, a_cons, a_mnil, a_call, a_tup, a_lst, a_bool, a_tru, a_mif, a_chain, a_it, a_rng2, a_part, mName, mRead, sl, h1, h2]
    | false => simp [bind_ap, pure_ap, rb_ok, out_ok, ofO_some, mC_ap, a_seq, a_nil, a_pass, a_brk, a_if, a_ret, a_retN, a_drop, a_set, a_own, a_frz, a_tg, a_par, a_for, a_op, a_un, a_cons, a_mnil, a_call, a_tup, a_lst, a_bool, a_tru, a_mif, a_chain, a_it, a_rng2, a_part, mName, mRead, sl, h1, h2, h4 rfl, one]
  rw [forR]
  simp [asgT, e, kill, wipeΓ]
def LLok (m : Nat) (ls : List (List Nat)) : Prop := ∀ l ∈ ls, l.length = m ∧ l.sum ≤ 2
def lsL (ls : List (List Nat)) : D := .lst (ls.map lotD)
theorem fIn_lot (l : List Nat) (ls : List (List Nat)) : ∃ c, fIn (lotD l) (lsL ls) = some (.bl c) ∧ (ls = [] → c = false) := by
  refine ⟨(pyL (ls.map lotD)).any fun z => PyData.eqv z (lotD l).py, ?_, fun h => by rw [h]; rfl⟩
  show (if shp (lotD l) = true ∧ shp (.lst (ls.map lotD)) = true then some (D.bl ((pyL (ls.map lotD)).any fun z => PyData.eqv z (lotD l).py)) else none) = _
  rw [if_pos ⟨sh_shp (sh_lot l) (by decide), sh_shp (sh_lst (sh_map ls lotD fun i _ => sh_lot i)) (by decide)⟩]
theorem fNotIn_lot (l : List Nat) (ls : List (List Nat)) : ∃ c, fNotIn (lotD l) (lsL ls) = some (.bl c) := by
  refine ⟨!(pyL (ls.map lotD)).any fun z => PyData.eqv z (lotD l).py, ?_⟩
  show (if shp (lotD l) = true ∧ shp (.lst (ls.map lotD)) = true then some (D.bl (!(pyL (ls.map lotD)).any fun z => PyData.eqv z (lotD l).py)) else none) = _
  rw [if_pos ⟨sh_shp (sh_lot l) (by decide), sh_shp (sh_lst (sh_map ls lotD fun i _ => sh_lot i)) (by decide)⟩]
theorem fCat_lot (ls : List (List Nat)) (l : List Nat) (h : ls.length ≤ 100) : fCat (lsL ls) (.lst [lotD l]) = some (lsL (ls ++ [l])) := by
  show (if (ls.map lotD).length + 1 ≤ PySem.sizeLine then some (D.lst (ls.map lotD ++ [lotD l])) else none) = _
  rw [if_pos (by rw [PySem.sizeLine_eq, List.length_map]; omega)]
  unfold lsL
  rw [List.map_append]
  rfl
theorem li_loop {m : Nat} (h1 : 1 ≤ m) (hm : m ≤ 10) : ∀ (ds : List D) (k : Nat) (Sx : S) (ls : List (List Nat)), Dk k Sx → k + 20 * ds.length ≤ 900000 → ls.length + ds.length ≤ 50 → LLok m ls →
    ∃ (us : List (List Nat)) (Sz : S), forR (.nm 4) [4, 5] liB ds ⟨[.frz .st, .frz (.int (m : Int)), .frz (.int 2), .frz (lsL ls), .none, .none, .none], Sx⟩ = .nx ⟨[.frz .st, .frz (.int (m : Int)), .frz (.int 2), .frz (lsL us), .none, .none, .none], Sz⟩ ∧
      LLok m us ∧ us.length ≤ ls.length + ds.length ∧ (ls ≠ [] ∨ ds ≠ [] → us ≠ []) ∧ Dk (k + 20 * ds.length) Sz
  | [], k, Sx, ls, h, _, _, ok => ⟨ls, Sx, rfl, ok, Nat.le_refl _, fun z => by rcases z with z | z; exact z; exact absurd rfl z, h⟩
  | d :: ds, k, Sx, ls, h, hk, hl, ok => by
    rw [List.length_cons] at hk hl
    obtain ⟨l, S1, e1, l1, l2, h2⟩ := lot_ok h (by omega) h1 hm (ms := 2) (by decide)
    have e1 : f__law_lot [.st, .int (m : Int), .int 2] Sx = .ok (lotD l) S1 := e1
    obtain ⟨c, e2, c2⟩ := fIn_lot l ls
    have nx : ∃ vs : List (List Nat), (c = true → lsL vs = lsL ls) ∧ (c = false → fCat (lsL ls) (.lst [lotD l]) = some (lsL vs)) ∧ LLok m vs ∧ vs.length ≤ ls.length + 1 ∧ vs ≠ [] := by
      cases c with
      | true => exact ⟨ls, fun _ => rfl, fun z => (by cases z), ok, Nat.le_succ _, fun z => by have := c2 z; cases this⟩
      | false => exact ⟨ls ++ [l], fun z => (by cases z), fun _ => fCat_lot ls l (by omega), fun x hx => by
          rcases List.mem_append.mp hx with hx | hx
          · exact ok x hx
          · rw [List.mem_singleton.mp hx]; exact ⟨l1, l2⟩, by rw [List.length_append, List.length_singleton]; omega, by simp⟩
    obtain ⟨vs, v1, v2, v3, v4, v5⟩ := nx
    obtain ⟨us, S2, e3, u1, u2, u3, h3⟩ := li_loop h1 hm ds (k + 20) S1 vs h2 (by omega) (by omega) v3
    refine ⟨us, S2, ?_, u1, by rw [List.length_cons]; omega, fun _ => u3 (.inl v5), ?_⟩
    · rw [liB3 Sx S1 e1 e2 v1 v2, e3]
    · rw [List.length_cons, show k + 20 * (ds.length + 1) = k + 20 + 20 * ds.length by omega]; exact h3
noncomputable def liC : Cmd := cIf (mIf (mBool (mOp fGt (mCall 2 f__law_take (mCons (mName 0) (mCons (mC (.int 3)) mNil))) (mC (.int 0)))) (mBool (mOp fNotIn (mOp fRepT (mTup (mCons (mC (.int 0)) mNil)) (mName 1)) (mRead 3))) (M.pure false)) (cSet 3 (mOp fCat (mRead 3) (mLst (mCons (mOp fRepT (mTup (mCons (mC (.int 0)) mNil)) (mName 1)) mNil)))) cNil
theorem liC3 (Sx Sz : S) {st mn ms ls v zl z : D} {c e : Bool} (h1 : f__law_take [st, .int 3] Sx = .ok v Sz) (h2 : fGt v (.int 0) = some (.bl c)) (h3 : fRepT (.tup [.int 0]) mn = some zl) (h4 : fNotIn zl ls = some (.bl e)) (h5 : (c && e) = false → z = ls) (h6 : (c && e) = true → fCat ls (.lst [zl]) = some z) :
    liC ⟨[.frz st, .frz mn, .frz ms, .frz ls, .none, .none, .none], Sx⟩ = .nx ⟨[.frz st, .frz mn, .frz ms, .frz z, .none, .none, .none], Sz⟩ := by
  have one : (1 : Nat) ≤ PySem.sizeLine := by decide
  unfold liC
  cases c with
  | false => rw [h5 rfl]; simp [bind_ap, pure_ap, rb_ok, out_ok, ofO_some, mC_ap, a_seq, a_nil, a_pass, a_brk, a_if, a_ret, a_retN, a_drop, a_set, a_own, a_frz, a_tg, a_par, a_for, a_op, a_un, a_cons, a_mnil, a_call, a_tup, a_lst, a_bool, a_tru, a_mif, a_chain, a_it, a_rng2, a_part, mName, mRead, sl, h1, h2]
  | true =>
    cases e with
    | false => rw [h5 rfl]; simp [bind_ap, pure_ap, rb_ok, out_ok, ofO_some, mC_ap, a_seq, a_nil, a_pass, a_brk, a_if, a_ret, a_retN, a_drop, a_set, a_own, a_frz, a_tg, a_par, a_for, a_op, a_un, a_cons, a_mnil, a_call, a_tup, a_lst, a_bool, a_tru, a_mif, a_chain, a_it, a_rng2, a_part, mName, mRead, sl, h1, h2, h3, h4, one]
    | true => simp [bind_ap, pure_ap, rb_ok, out_ok, ofO_some, mC_ap, a_seq, a_nil, a_pass, a_brk, a_if, a_ret, a_retN, a_drop, a_set, a_own, a_frz, a_tg, a_par, a_for, a_op, a_un, a_cons, a_mnil, a_call, a_tup, a_lst, a_bool, a_tru, a_mif, a_chain, a_it, a_rng2, a_part, mName, mRead, sl, h1, h2, h3, h4, h6 rfl, one]
theorem fRepT_zero (m : Nat) (h1 : 1 ≤ m) (hm : m ≤ 10) : fRepT (.tup [.int 0]) (.int (m : Int)) = some (lotD (List.replicate m 0)) := by
  have e : fRepT (.tup [.int 0]) (.int (m : Int)) = (if ([D.int 0] : List D) ≠ [] ∧ 1 ≤ (m : Int) ∧ (m : Int) ≤ 1000 ∧ ([D.int 0] : List D).length ≤ 1000 then some (.tup (List.replicate (m : Int).toNat [D.int 0]).flatten) else none) := rfl
  rw [e, if_pos ⟨by simp, by omega, by omega, by simp⟩, Int.toNat_natCast]
  have f : ∀ k : Nat, (List.replicate k [D.int 0]).flatten = List.replicate k (D.int 0) := by
    intro k
    induction k with
    | zero => rfl
    | succ k ih => rw [List.replicate_succ, List.flatten_cons, ih, List.replicate_succ]; rfl
  rw [f]
  unfold lotD
  rw [List.map_replicate]
  rfl
noncomputable def liE : M D := mOp fAdd (mC (.int 1)) (mCall 2 f__law_take (mCons (mName 0) (mCons (mC (.int 5)) mNil)))
theorem liE3 (Sx Sz : S) {Γ : List Slot} {v z : D} (h1 : f__law_take [.st, .int 5] Sx = .ok v Sz) (h2 : fAdd (.int 1) v = some z) : liE ⟨.frz .st :: Γ, Sx⟩ = .ok z ⟨.frz .st :: Γ, Sz⟩ := by
  unfold liE
  simp [bind_ap, pure_ap, rb_ok, out_ok, ofO_some, mC_ap, a_seq, a_nil, a_pass, a_brk, a_if, a_ret, a_retN, a_drop, a_set, a_own, a_frz, a_tg, a_par, a_for, a_op, a_un, a_cons, a_mnil, a_call, a_tup, a_lst, a_bool, a_tru, a_mif, a_chain, a_it, a_rng2, a_part, mName, mRead, sl, h1, h2]
theorem li_h3 (Sx : S) {s0 s1 s2 s4 s5 s6 : Slot} {ds : List D} : mIt lstOf (mRead 3) ⟨[s0, s1, s2, .frz (.lst ds), s4, s5, s6], Sx⟩ = .ok ds ⟨[s0, s1, s2, .frz (.lst ds), s4, s5, s6], Sx⟩ := by simp [bind_ap, pure_ap, rb_ok, out_ok, ofO_some, mC_ap, a_seq, a_nil, a_pass, a_brk, a_if, a_ret, a_retN, a_drop, a_set, a_own, a_frz, a_tg, a_par, a_for, a_op, a_un, a_cons, a_mnil, a_call, a_tup, a_lst, a_bool, a_tru, a_mif, a_chain, a_it, a_rng2, a_part, mName, mRead, sl, lstOf]
theorem litters3 (Sx S1 S2 S3 S4 S5 : S) {mn ms v v1 us vs q ws : D} {ds : List D} (h1 : f__law_take [.st, .int 4] Sx = .ok v S1) (h2 : fAdd (.int 1) v = some v1) (h3 : rng1 v1 = some ds)
    (h4 : forR (.nm 4) [4, 5] liB ds ⟨[.frz .st, .frz mn, .frz ms, .frz (.lst []), .none, .none, .none], S1⟩ = .nx ⟨[.frz .st, .frz mn, .frz ms, .frz us, .none, .none, .none], S2⟩) (h5 : liC ⟨[.frz .st, .frz mn, .frz ms, .frz us, .none, .none, .none], S2⟩ = .nx ⟨[.frz .st, .frz mn, .frz ms, .frz vs, .none, .none, .none], S3⟩)
    (h6 : mLc [5] (.nm 5) (mIt lstOf (mRead 3)) (M.pure true) liE ⟨[.frz .st, .frz mn, .frz ms, .frz vs, .none, .none, .none], S3⟩ = .ok ws ⟨[.frz .st, .frz mn, .frz ms, .frz vs, .none, .none, .none], S4⟩) (h7 : f__law_ordered [vs, ws] S4 = .ok q S5) : f__law_litters [.st, mn, ms] Sx = .ok q S5 := by
  have e : c__law_litters = cSeq (cSet 3 (mLst mNil)) (cSeq (cFor (.nm 4) [4, 5] (mIt rng1 (mOp fAdd (mC (.int 1)) (mCall 2 f__law_take (mCons (mName 0) (mCons (mC (.int 4)) mNil))))) liB)
    (cSeq liC (cSeq (cFrz 6 (cOwn 6 (mLc [5] (.nm 5) (mIt lstOf (mRead 3)) (M.pure true) liE))) (cRet (mCall 2 f__law_ordered (mCons (mName 3) (mCons (mName 6) mNil))))))) := rfl
  unfold f__law_litters runF
  rw [e]
  simp [bind_ap, pure_ap, rb_ok, out_ok, ofO_some, mC_ap, a_seq, a_nil, a_pass, a_brk, a_if, a_ret, a_retN, a_drop, a_set, a_own, a_frz, a_tg, a_par, a_for, a_op, a_un, a_cons, a_mnil, a_call, a_tup, a_lst, a_bool, a_tru, a_mif, a_chain, a_it, a_rng2, a_part, mName, mRead, sl, h1, h2, h3, h4, h5, h6, h7]
theorem nats_of {P : Nat → Prop} : ∀ (ys : List D), (∀ y ∈ ys, ∃ w : Nat, P w ∧ y = .int (w : Int)) → ∃ ws : List Nat, ys = ws.map (fun (w : Nat) => .int (w : Int)) ∧ ∀ w ∈ ws, P w
  | [], _ => ⟨[], rfl, fun _ h => by cases h⟩
  | y :: ys, h => by
    obtain ⟨w, hw, e⟩ := h y List.mem_cons_self
    obtain ⟨ws, e2, h2⟩ := nats_of ys fun z hz => h z (List.mem_cons_of_mem _ hz)
    refine ⟨w :: ws, by rw [List.map_cons, ← e2, e], fun v hv => ?_⟩
    rcases List.mem_cons.mp hv with rfl | hv
    · exact hw
    · exact h2 v hv
theorem litters_ok {k m : Nat} {Sx : S} (h : Dk k Sx) (hk : k ≤ 800000) (h1 : 1 ≤ m) (hm : m ≤ 10) : ∃ (l : Lit) (c : Nat) (Sz : S), f__law_litters [.st, .int (m : Int), .int 2] Sx = .ok (litD l) Sz ∧ 1 ≤ c ∧ c ≤ 25 ∧ (∀ N, c ∣ N → LitOk N m l) ∧ Dk (k + 200) Sz := by
  obtain ⟨v, S1, hv, e1, d1⟩ := take_ok h (by omega) 4 (by decide) (by decide)
  obtain ⟨us, S2, e2, u1, u2, u3, d2⟩ := li_loop h1 hm (rng 0 (1 + v)) (k + 1) S1 [] d1 (by rw [rng_len]; omega) (by rw [rng_len]; simp; omega) (fun _ hx => by cases hx)
  rw [rng_len] at u2 d2
  rw [List.length_nil] at u2
  have un : us ≠ [] := u3 (.inr (by rw [show 1 + v = v + 1 by omega, rng_succ]; simp))
  obtain ⟨v3, S3, hv3, e3, d3⟩ := take_ok d2 (by omega) 3 (by decide) (by decide)
  obtain ⟨c4, e4⟩ := fNotIn_lot (List.replicate m 0) us
  have nx : ∃ vs : List (List Nat), ((decide (0 < v3) && c4) = false → lsL vs = lsL us) ∧ ((decide (0 < v3) && c4) = true → fCat (lsL us) (.lst [lotD (List.replicate m 0)]) = some (lsL vs)) ∧ LLok m vs ∧ vs.length ≤ 5 ∧ vs ≠ [] := by
    cases decide (0 < v3) && c4 with
    | false => exact ⟨us, fun _ => rfl, fun z => (by cases z), u1, by omega, un⟩
    | true => exact ⟨us ++ [List.replicate m 0], fun z => (by cases z), fun _ => fCat_lot us _ (by omega), fun x hx => by
        rcases List.mem_append.mp hx with hx | hx
        · exact u1 x hx
        · rw [List.mem_singleton.mp hx]
          refine ⟨List.length_replicate, ?_⟩
          rw [List.sum_replicate_nat]; omega, by rw [List.length_append, List.length_singleton]; omega, by simp⟩
  obtain ⟨vs, n1, n2, n3, n4, n5⟩ := nx
  have gt : fGt (.int (v3 : Int)) (.int 0) = some (.bl (decide (0 < v3))) := by
    show some (D.bl (decide ((0 : Int) < (v3 : Int)))) = _
    congr 2
    rw [Bool.eq_iff_iff]
    simp only [decide_eq_true_eq]
    omega
  have e5 := liC3 S2 S3 (ms := .int 2) e3 gt (fRepT_zero m h1 hm) e4 n1 n2
  obtain ⟨ys, S4, e6, y1, y2, d4⟩ := mLc_st (vs := [5]) (tg := .nm 5) (me := liE) (Γ := [.frz .st, .frz (.int (m : Int)), .frz (.int 2), .frz (lsL vs), .none, .none, .none]) (Sx := S3) (Sw := S3) (ds := vs.map lotD) (P := fun _ y => ∃ w : Nat, (1 ≤ w ∧ w ≤ 5) ∧ y = .int (w : Int)) (fun i => Dk (k + 1 + 20 * (1 + v) + 1 + i)) (li_h3 S3) (by rw [List.length_map]; omega) d3 fun j d Sy hj dj => by
    have jl := (List.getElem?_eq_some_iff.mp hj).1
    rw [List.length_map] at jl
    obtain ⟨w, Sz, hw, e7, d7⟩ := take_ok dj (by omega) 5 (by decide) (by decide)
    exact ⟨[.frz .st, .frz (.int (m : Int)), .frz (.int 2), .frz (lsL vs), .none, .frz d, .none], .int ((w + 1 : Nat) : Int), Sz, rfl, rfl, liE3 Sy Sz e7 (by show some (D.int (1 + (w : Int))) = _; congr 2; omega), ⟨w + 1, ⟨by omega, by omega⟩, rfl⟩, d7⟩
  rw [List.length_map] at y1 d4
  obtain ⟨ws, w1, w2⟩ := nats_of (P := fun w => 1 ≤ w ∧ w ≤ 5) ys fun y hy => by
    obtain ⟨j, hj, e⟩ := List.getElem_of_mem hy
    have hj2 : j < (vs.map lotD).length := by rw [List.length_map, ← y1]; exact hj
    exact y2 j (vs.map lotD)[j] y (List.getElem?_eq_getElem hj2) (by rw [List.getElem?_eq_getElem hj, e])
  have wl : ws.length = vs.length := by rw [← y1, w1, List.length_map]
  have zl : (vs.zip ws).map (fun z => lotD z.1) = vs.map lotD := by
    have := List.map_fst_zip (l₁ := vs) (l₂ := ws) (by omega)
    rw [← this, List.map_map, this]; rfl
  have zw : (vs.zip ws).map (fun z => D.int (z.2 : Int)) = ys := by
    have := List.map_snd_zip (l₁ := vs) (l₂ := ws) (by omega)
    rw [w1, ← this, List.map_map, this]; rfl
  have znl : (vs.zip ws).length = vs.length := by rw [List.length_zip]; omega
  obtain ⟨l, c, e8, c1, c2, c3, c5, c6⟩ := ordered_ok S4 (vs.zip ws) (fun z => n5 (List.eq_nil_of_length_eq_zero (by rw [← znl, z]; rfl))) (by rw [znl]; exact n4) fun z hz => w2 z.2 (List.of_mem_zip hz).2
  rw [zl, zw] at e8
  refine ⟨l, c, S4, litters3 Sx S1 S2 S3 S4 S4 e1 (fAdd_int 1 (v : Int)) (by have := rng1_ok (n := 1 + v) (by omega); rw [Int.natCast_add] at this; exact this) e2 e5 e6 e8, c1, c2, fun N hN => ⟨c3, fun x hx => ?_, c6⟩, d4.mono (by omega)⟩
  obtain ⟨⟨z, hz, e⟩, p⟩ := c5 x hx
  obtain ⟨g1, g2⟩ := n3 z.1 (List.of_mem_zip hz).1
  exact ⟨by rw [e]; exact g1, by rw [e]; exact g2, p.dvd hN⟩
end Law


set_option Elab.async false
set_option linter.all false
set_option maxRecDepth 100000
set_option maxHeartbeats 4000000
set_option exponentiation.threshold 10000
/-! M17: a book is drawn well; the words. -/
namespace Law
open FP PySem
noncomputable def boE : M D := mCall 3 f__law_litters (mCons (mName 0) (mCons (mName 2) (mCons (mName 1) mNil)))
theorem boE3 (Sx Sz : S) {ms mn z : D} {s3 s4 s5 : Slot} (h : f__law_litters [.st, mn, ms] Sx = .ok z Sz) : boE ⟨[.frz .st, .frz ms, .frz mn, s3, s4, s5], Sx⟩ = .ok z ⟨[.frz .st, .frz ms, .frz mn, s3, s4, s5], Sz⟩ := by
  unfold boE
  simp [bind_ap, pure_ap, rb_ok, out_ok, ofO_some, mC_ap, a_seq, a_nil, a_pass, a_brk, a_if, a_ret, a_retN, a_drop, a_set, a_own, a_frz, a_tg, a_par, a_for, a_op, a_un, a_cons, a_mnil, a_call, a_tup, a_lst, a_bool, a_tru, a_mif, a_chain, a_it, a_rng2, a_part, mName, mRead, sl, h]
theorem bo_h (Sx : S) {s0 s1 s3 s4 s5 : Slot} {n : D} {ds : List D} (h : rng1 n = some ds) : mIt rng1 (mName 2) ⟨[s0, s1, .frz n, s3, s4, s5], Sx⟩ = .ok ds ⟨[s0, s1, .frz n, s3, s4, s5], Sx⟩ := by simp [bind_ap, pure_ap, rb_ok, out_ok, ofO_some, mC_ap, a_seq, a_nil, a_pass, a_brk, a_if, a_ret, a_retN, a_drop, a_set, a_own, a_frz, a_tg, a_par, a_for, a_op, a_un, a_cons, a_mnil, a_call, a_tup, a_lst, a_bool, a_tru, a_mif, a_chain, a_it, a_rng2, a_part, mName, mRead, sl, h]
theorem book3 (Sx S1 S2 S3 : S) {ms v mn st : D} {ns ls : List D} {i : Int} (h1 : f__law_take [.st, .int 3] Sx = .ok v S1) (h2 : fAdd (.int 1) v = some mn) (hi : mn = .int i)
    (h3 : mLc [4] (.nm 4) (mIt rng1 (mName 2)) (M.pure true) boE ⟨[.frz .st, .frz ms, .frz mn, .none, .none, .none], S1⟩ = .ok (.lst ls) ⟨[.frz .st, .frz ms, .frz mn, .none, .none, .none], S2⟩) (h4 : f__law_lot [.st, mn, .int 3] S2 = .ok st S3) (h5 : FP.cut [D.str "a", D.str "b", D.str "c"] none (some i) = ns) :
    f__law_book [.st, ms] Sx = .ok (.tup [.str "book", .tup ns, .tup ls, st]) S3 := by
  have three : (3 : Nat) ≤ PySem.sizeLine := by decide
  have four : (4 : Nat) ≤ PySem.sizeLine := by decide
  have e : c__law_book = cSeq (cSet 2 (mOp fAdd (mC (.int 1)) (mCall 2 f__law_take (mCons (mName 0) (mCons (mC (.int 3)) mNil))))) (cSeq (cSet 3 (mUn fTuple (mLc [4] (.nm 4) (mIt rng1 (mName 2)) (M.pure true) boE)))
    (cSeq (cSet 5 (mCall 3 f__law_lot (mCons (mName 0) (mCons (mName 2) (mCons (mC (.int 3)) mNil)))))
    (cRet (mTup (mCons (mC (.str "book")) (mCons (mSlT (mTup (mCons (mC (.str "a")) (mCons (mC (.str "b")) (mCons (mC (.str "c")) mNil)))) (M.pure none) (mPart (mName 2))) (mCons (mName 3) (mCons (mName 5) mNil)))))))) := rfl
  subst hi
  unfold f__law_book runF
  rw [e]
  simp [bind_ap, pure_ap, rb_ok, out_ok, ofO_some, mC_ap, a_seq, a_nil, a_pass, a_brk, a_if, a_ret, a_retN, a_drop, a_set, a_own, a_frz, a_tg, a_par, a_for, a_op, a_un, a_cons, a_mnil, a_call, a_tup, a_lst, a_bool, a_tru, a_mif, a_chain, a_it, a_rng2, a_part, mName, mRead, sl, h1, h2, h3, fTuple, h4, mSlT, three, four, h5]
theorem pairs_of {P : Lit → Nat → Prop} : ∀ (ys : List D), (∀ y ∈ ys, ∃ (l : Lit) (c : Nat), P l c ∧ y = litD l) → ∃ zs : List (Lit × Nat), ys = zs.map (fun z => litD z.1) ∧ ∀ z ∈ zs, P z.1 z.2
  | [], _ => ⟨[], rfl, fun _ h => by cases h⟩
  | y :: ys, h => by
    obtain ⟨l, c, hw, e⟩ := h y List.mem_cons_self
    obtain ⟨ws, e2, h2⟩ := pairs_of ys fun z hz => h z (List.mem_cons_of_mem _ hz)
    refine ⟨(l, c) :: ws, by rw [List.map_cons, ← e2, e], fun v hv => ?_⟩
    rcases List.mem_cons.mp hv with rfl | hv
    · exact hw
    · exact h2 v hv
theorem mem_mprod : ∀ {ms : List Nat} {m : Nat}, m ∈ ms → m ∣ mprod ms
  | n :: ms, m, h => by
    rcases List.mem_cons.mp h with rfl | h
    · exact Nat.dvd_mul_right _ _
    · exact Nat.dvd_trans (mem_mprod h) (Nat.dvd_mul_left _ _)
theorem mprod_pos' : ∀ {ms : List Nat}, (∀ m ∈ ms, 1 ≤ m) → 0 < mprod ms
  | [], _ => Nat.one_pos
  | m :: ms, h => Nat.mul_pos (h m List.mem_cons_self) (mprod_pos' fun k hk => h k (List.mem_cons_of_mem _ hk))
theorem mprod_le' {B : Nat} : ∀ {ms : List Nat}, (∀ m ∈ ms, m ≤ B) → mprod ms ≤ B ^ ms.length
  | [], _ => Nat.le_refl _
  | m :: ms, h => by
    show m * mprod ms ≤ B ^ (ms.length + 1)
    rw [Nat.pow_succ, Nat.mul_comm]
    exact Nat.mul_le_mul (mprod_le' fun k hk => h k (List.mem_cons_of_mem _ hk)) (h m List.mem_cons_self)
theorem book_ok {k : Nat} {Sx : S} (h : Dk k Sx) (hk : k ≤ 700000) : ∃ (x : Bn) (Sz : S), f__law_book [.st, .int 2] Sx = .ok (bkD x.b) Sz ∧ Dk (k + 1000) Sz := by
  obtain ⟨v, S1, hv, e1, d1⟩ := take_ok h (by omega) 3 (by decide) (by decide)
  have e2 : fAdd (.int 1) (.int (v : Int)) = some (.int ((1 + v : Nat) : Int)) := by show some (D.int (1 + (v : Int))) = _; rw [Int.natCast_add]; rfl
  generalize hm : 1 + v = m at e2
  have hr := rng1_map (n := m) (by omega)
  obtain ⟨ys, S2, e3, y1, y2, d2⟩ := mLc_st (vs := [4]) (tg := .nm 4) (me := boE) (Γ := [.frz .st, .frz (.int 2), .frz (.int (m : Int)), .none, .none, .none]) (Sx := S1) (Sw := S1) (ds := (List.range m).map fun (i : Nat) => .int (i : Int)) (P := fun _ y => ∃ (l : Lit) (c : Nat), (1 ≤ c ∧ c ≤ 25 ∧ ∀ N, c ∣ N → LitOk N m l) ∧ y = litD l) (fun i => Dk (k + 1 + 200 * i) ) (bo_h S1 hr) (by rw [List.length_map, List.length_range]; omega) (by simpa using d1) fun j d Sy hj dj => by
    have jl := (List.getElem?_eq_some_iff.mp hj).1
    rw [List.length_map, List.length_range] at jl
    obtain ⟨l, c, Sz, e4, c1, c2, c3, d4⟩ := litters_ok dj (by omega) (m := m) (by omega) (by omega)
    exact ⟨[.frz .st, .frz (.int 2), .frz (.int (m : Int)), .none, .frz d, .none], litD l, Sz, rfl, rfl, boE3 Sy Sz e4, ⟨l, c, ⟨c1, c2, c3⟩, rfl⟩, d4.mono (by omega)⟩
  rw [List.length_map, List.length_range] at y1 d2
  obtain ⟨zs, z1, z2⟩ := pairs_of (P := fun l c => 1 ≤ c ∧ c ≤ 25 ∧ ∀ N, c ∣ N → LitOk N m l) ys fun y hy => by
    obtain ⟨j, hj, e⟩ := List.getElem_of_mem hy
    have hj2 : j < ((List.range m).map fun (i : Nat) => D.int (i : Int)).length := by rw [List.length_map, List.length_range, ← y1]; exact hj
    exact y2 j _ y (List.getElem?_eq_getElem hj2) (by rw [List.getElem?_eq_getElem hj, e])
  have zl : zs.length = m := by rw [← y1, z1, List.length_map]
  obtain ⟨st, S3, e5, s1, s2, d3⟩ := lot_ok d2 (by omega) (m := m) (by omega) (by omega) (ms := 3) (by decide)
  have e5 : f__law_lot [.st, .int (m : Int), .int 3] S2 = .ok (lotD st) S3 := e5
  have nl : (([D.str "a", D.str "b", D.str "c"] : List D).take m).length = m := by rw [List.length_take]; simp; omega
  refine ⟨⟨mprod (zs.map (·.2)), ⟨m, ([D.str "a", D.str "b", D.str "c"] : List D).take m, zs.map (·.1), st⟩, ⟨nl, by show 1 ≤ m; omega, by show m ≤ 3; omega, by show (zs.map (·.1)).length = m; rw [List.length_map, zl], fun l hl => ?_, s1, s2, mprod_pos' fun c hc => ?_, ?_⟩⟩, S3, ?_, d3.mono (by omega)⟩
  · obtain ⟨z, hz, rfl⟩ := List.mem_map.mp hl
    exact (z2 z hz).2.2 _ (mem_mprod (List.mem_map.mpr ⟨z, hz, rfl⟩))
  · obtain ⟨z, hz, rfl⟩ := List.mem_map.mp hc
    exact (z2 z hz).1
  · have := mprod_le' (B := 25) (ms := zs.map (·.2)) fun c hc => by
      obtain ⟨z, hz, rfl⟩ := List.mem_map.mp hc
      exact (z2 z hz).2.1
    rw [List.length_map, zl] at this
    exact Nat.le_trans this (Nat.le_trans (Nat.pow_le_pow_right (by decide) (show m ≤ 3 by omega)) (by decide))
  · have := book3 Sx S1 S2 S3 (ms := .int 2) e1 e2 rfl e3 e5 (cut_to _ m (by simp; omega))
    rw [this]
    have hz : ys = (zs.map (·.1)).map litD := by rw [z1, List.map_map]; rfl
    show RF.ok (D.tup [D.str "book", D.tup (([D.str "a", D.str "b", D.str "c"] : List D).take m), D.tup ys, lotD st]) S3 = RF.ok (D.tup [D.str "book", D.tup (([D.str "a", D.str "b", D.str "c"] : List D).take m), D.tup ((zs.map (·.1)).map litD), lotD st]) S3
    rw [← hz]
end Law


set_option Elab.async false
set_option linter.all false
set_option maxRecDepth 100000
set_option maxHeartbeats 1000000
set_option exponentiation.threshold 10000
/-! T1: trees laid by sizes; sums over them. -/
namespace Law
inductive Tr where
  | mk (k j : Nat) (c : List Tr)
/-! sums, products over a semiring -/
section
variable {R : Type} [Lean.Grind.CommSemiring R]
def sR : List R → R
  | [] => 0
  | x :: xs => x + sR xs
def pR : List R → R
  | [] => 1
  | x :: xs => x * pR xs
theorem sR_append (a b : List R) : sR (a ++ b) = sR a + sR b := by
  induction a with
  | nil => show sR b = 0 + sR b; grind
  | cons x a ih => show x + sR (a ++ b) = (x + sR a) + sR b; rw [ih]; grind
theorem sR_flat {ι : Type} (f : ι → List R) (l : List ι) : sR (l.flatMap f) = sR (l.map fun i => sR (f i)) := by
  induction l with
  | nil => rfl
  | cons i l ih => rw [List.flatMap_cons, sR_append, ih]; rfl
theorem sR_mul {ι : Type} (a : R) (f : ι → R) (l : List ι) : sR (l.map fun i => a * f i) = a * sR (l.map f) := by
  induction l with
  | nil => show (0 : R) = a * 0; grind
  | cons i l ih => show a * f i + sR (l.map fun i => a * f i) = a * (f i + sR (l.map f)); rw [ih]; grind
theorem sR_mulr {ι : Type} (a : R) (f : ι → R) (l : List ι) : sR (l.map fun i => f i * a) = sR (l.map f) * a := by
  induction l with
  | nil => show (0 : R) = 0 * a; grind
  | cons i l ih => show f i * a + sR (l.map fun i => f i * a) = (f i + sR (l.map f)) * a; rw [ih]; grind
theorem sR_add {ι : Type} (f g : ι → R) (l : List ι) : sR (l.map fun i => f i + g i) = sR (l.map f) + sR (l.map g) := by
  induction l with
  | nil => show (0 : R) = 0 + 0; grind
  | cons i l ih => show f i + g i + sR (l.map fun i => f i + g i) = (f i + sR (l.map f)) + (g i + sR (l.map g)); rw [ih]; grind
theorem sR_congr {ι : Type} {f g : ι → R} {l : List ι} (h : ∀ i ∈ l, f i = g i) : sR (l.map f) = sR (l.map g) := by rw [List.map_congr_left h]
theorem sR_zero {ι : Type} {f : ι → R} {l : List ι} (h : ∀ i ∈ l, f i = 0) : sR (l.map f) = 0 := by
  induction l with
  | nil => rfl
  | cons i l ih =>
    show f i + sR (l.map f) = 0
    rw [ih fun j hj => h j (List.mem_cons_of_mem _ hj), h i List.mem_cons_self]; grind
theorem sR_filter {ι : Type} (f : ι → R) (p : ι → Bool) (l : List ι) : sR ((l.filter p).map f) = sR (l.map fun i => if p i = true then f i else 0) := by
  induction l with
  | nil => rfl
  | cons i l ih =>
    rw [List.filter_cons]
    show _ = (if p i = true then f i else 0) + sR (l.map fun i => if p i = true then f i else 0)
    rw [← ih]
    by_cases h : p i = true
    · rw [if_pos h, if_pos h]; rfl
    · rw [if_neg h, if_neg h]; grind
/-- rows of trees of kinds, a size in all -/
def rowsT (tb : Nat → Nat → List Tr) : List Nat → Nat → List (List Tr)
  | [], s => if s = 0 then [[]] else []
  | k :: ks, s => (List.range (s - ks.length)).flatMap fun f => (tb k (f + 1)).flatMap fun t => (rowsT tb ks (s - (f + 1))).map (t :: ·)
def Rn (W : Nat → Nat → R) : List Nat → Nat → R
  | [], s => if s = 0 then 1 else 0
  | k :: ks, s => sR ((List.range (s - ks.length)).map fun f => W k (f + 1) * Rn W ks (s - (f + 1)))
theorem rows_sum (w : Tr → R) (tb : Nat → Nat → List Tr) : ∀ (ks : List Nat) (s : Nat), sR ((rowsT tb ks s).map fun r => pR (r.map w)) = Rn (fun k s => sR ((tb k s).map w)) ks s
  | [], s => by
    unfold rowsT Rn
    by_cases h : s = 0
    · rw [if_pos h, if_pos h]; show (1 : R) + 0 = 1; grind
    · rw [if_neg h, if_neg h]; rfl
  | k :: ks, s => by
    unfold rowsT Rn
    rw [List.map_flatMap, sR_flat]
    refine sR_congr fun f _ => ?_
    rw [List.map_flatMap, sR_flat, ← rows_sum w tb ks, ← sR_mulr]
    refine sR_congr fun t _ => ?_
    rw [List.map_map, ← sR_mul]
    rfl
theorem Rn_congr {W W' : Nat → Nat → R} : ∀ (ks : List Nat) (s : Nat), (∀ k ∈ ks, ∀ f, 1 ≤ f → f ≤ s → W k f = W' k f) → Rn W ks s = Rn W' ks s
  | [], s, _ => rfl
  | k :: ks, s, h => by
    unfold Rn
    refine sR_congr fun f hf => ?_
    have hf := List.mem_range.mp hf
    rw [h k List.mem_cons_self (f + 1) (by omega) (by omega), Rn_congr ks (s - (f + 1)) fun k' hk f' h1 h2 => h k' (List.mem_cons_of_mem _ hk) f' h1 (by omega)]
end
theorem rowsT_congr {tb tb' : Nat → Nat → List Tr} : ∀ (ks : List Nat) (s : Nat), (∀ k ∈ ks, ∀ f, 1 ≤ f → f ≤ s → tb k f = tb' k f) → rowsT tb ks s = rowsT tb' ks s
  | [], s, _ => rfl
  | k :: ks, s, h => by
    unfold rowsT
    have key : ∀ (g g' : Nat → List (List Tr)) (l : List Nat), (∀ i ∈ l, g i = g' i) → l.flatMap g = l.flatMap g' := by
      intro g g' l hl
      induction l with
      | nil => rfl
      | cons i l ih => rw [List.flatMap_cons, List.flatMap_cons, hl i List.mem_cons_self, ih fun j hj => hl j (List.mem_cons_of_mem _ hj)]
    refine key _ _ _ fun f hf => ?_
    have hf := List.mem_range.mp hf
    rw [h k List.mem_cons_self (f + 1) (by omega) (by omega), rowsT_congr ks (s - (f + 1)) fun k' hk f' h1 h2 => h k' (List.mem_cons_of_mem _ hk) f' h1 (by omega)]
/-! the kinds of a lot's things -/
def thingsL (lot : List Nat) : List Nat := (List.range lot.length).flatMap fun k => List.replicate (lot.getD k 0) k
theorem thingsL_mem {lot : List Nat} {k : Nat} (h : k ∈ thingsL lot) : k < lot.length := by
  obtain ⟨j, hj, h⟩ := List.mem_flatMap.mp h
  rw [List.eq_of_mem_replicate h]
  exact List.mem_range.mp hj
theorem thingsL_len (lot : List Nat) : (thingsL lot).length = lot.sum := by
  unfold thingsL
  rw [List.length_flatMap]
  congr 1
  apply List.ext_getElem?
  intro j
  rw [List.getElem?_map]
  by_cases hj : j < lot.length
  · rw [List.getElem?_range hj, List.getElem?_eq_getElem hj]
    show some (List.replicate (lot.getD j 0) j).length = _
    rw [List.length_replicate, List.getD_eq_getElem?_getD, List.getElem?_eq_getElem hj]; rfl
  · rw [List.getElem?_eq_none (by rw [List.length_range]; omega), List.getElem?_eq_none (by omega)]; rfl
/-! the trees of a book, by kind and size -/
def litsOf (b : Book) (k : Nat) : Lit := b.lits.getD k []
def newT (b : Book) (tb : Nat → Nat → List Tr) (k n : Nat) : List Tr := (List.range (litsOf b k).length).flatMap fun j => (rowsT tb (thingsL ((litsOf b k).getD j ([], 0)).1) n).map (.mk k j)
def tab (b : Book) : Nat → Nat → Nat → List Tr
  | 0 => fun _ _ => []
  | n + 1 => fun k s => if s = n + 1 then newT b (tab b n) k n else tab b n k s
theorem tab_lt (b : Book) {n k s : Nat} (h : s ≤ n) : tab b (n + 1) k s = tab b n k s := by
  show (if s = n + 1 then _ else _) = _
  rw [if_neg (by omega)]
theorem tab_le (b : Book) {m n k s : Nat} (hs : s ≤ m) (h : m ≤ n) : tab b n k s = tab b m k s := by
  induction h with
  | refl => rfl
  | @step n h ih => rw [tab_lt b (Nat.le_trans hs h), ih]
theorem tab_new (b : Book) {n k s : Nat} (h1 : 1 ≤ s) (h : s ≤ n) : tab b n k s = newT b (tab b n) k (s - 1) := by
  rw [tab_le b (Nat.le_refl s) h]
  obtain ⟨m, rfl⟩ : ∃ m, s = m + 1 := ⟨s - 1, by omega⟩
  show (if m + 1 = m + 1 then newT b (tab b m) k m else _) = _
  rw [if_pos rfl]
  unfold newT
  rw [Nat.add_sub_cancel]
  have key : ∀ (g g' : Nat → List Tr) (l : List Nat), (∀ i ∈ l, g i = g' i) → l.flatMap g = l.flatMap g' := by
    intro g g' l hl
    induction l with
    | nil => rfl
    | cons i l ih => rw [List.flatMap_cons, List.flatMap_cons, hl i List.mem_cons_self, ih fun j hj => hl j (List.mem_cons_of_mem _ hj)]
  refine key _ _ _ fun j _ => ?_
  rw [rowsT_congr _ m fun k' _ f h1 h2 => (tab_le b h2 (by omega : m ≤ n)).symm]
/-! heights, chances -/
mutual
def hT : Tr → Nat
  | .mk _ _ c => 1 + hTs c
def hTs : List Tr → Nat
  | [] => 0
  | t :: r => max (hT t) (hTs r)
end
theorem hTs_le {c : List Tr} {h : Nat} : hTs c ≤ h ↔ ∀ t ∈ c, hT t ≤ h := by
  induction c with
  | nil => exact ⟨fun _ _ z => by simp at z, fun _ => Nat.zero_le _⟩
  | cons t r ih =>
    show max (hT t) (hTs r) ≤ h ↔ _
    rw [Nat.max_le, ih, List.forall_mem_cons]
def chOf (b : Book) (k j : Nat) : Rat := ((litsOf b k).getD j ([], 0)).2
mutual
def chT (b : Book) : Tr → Rat
  | .mk k j c => chOf b k j * chTs b c
def chTs (b : Book) : List Tr → Rat
  | [] => 1
  | t :: r => chT b t * chTs b r
end
theorem chTs_eq (b : Book) : ∀ c : List Tr, chTs b c = pR (c.map (chT b))
  | [] => rfl
  | t :: r => by show chT b t * chTs b r = _; rw [chTs_eq b r]; rfl
section
variable {R : Type} [Lean.Grind.CommSemiring R]
/-- w, nought for those higher than h -/
def wH (w : Tr → R) (h : Nat) (t : Tr) : R := if hT t ≤ h then w t else 0
/-- how many trees, with what worth, by sizes and heights -/
def LT (b : Book) (c : Nat → Nat → R) : Nat → Nat → Nat → R
  | 0 => fun _ _ => 0
  | h + 1 => fun k s => if s = 0 then 0 else sR ((List.range (litsOf b k).length).map fun j => c k j * Rn (LT b c h) (thingsL ((litsOf b k).getD j ([], 0)).1) (s - 1))
theorem pR_wH (w : Tr → R) (h : Nat) : ∀ r : List Tr, pR (r.map (wH w h)) = if hTs r ≤ h then pR (r.map w) else 0
  | [] => by rw [if_pos (show hTs [] ≤ h from Nat.zero_le _)]; rfl
  | t :: r => by
    show wH w h t * pR (r.map (wH w h)) = if max (hT t) (hTs r) ≤ h then w t * pR (r.map w) else 0
    rw [pR_wH w h r]
    unfold wH
    by_cases h1 : hT t ≤ h
    · by_cases h2 : hTs r ≤ h
      · rw [if_pos h1, if_pos h2, if_pos (Nat.max_le.mpr ⟨h1, h2⟩)]
      · rw [if_pos h1, if_neg h2, if_neg (fun z => h2 (Nat.max_le.mp z).2)]; grind
    · rw [if_neg h1, if_neg (fun z => h1 (Nat.max_le.mp z).1)]; grind
theorem LT_ok (b : Book) (c : Nat → Nat → R) (w : Tr → R) (hw : ∀ k j r, w (.mk k j r) = c k j * pR (r.map w)) : ∀ (h n k s : Nat), s ≤ n → LT b c h k s = sR ((tab b n k s).map (wH w h))
  | 0, n, k, s, _ => by
    show (0 : R) = _
    rw [sR_zero]
    intro t _
    unfold wH
    cases t
    rw [if_neg]
    unfold hT; omega
  | h + 1, n, k, s, hs => by
    by_cases h0 : s = 0
    · subst h0
      have : ∀ n, tab b n k 0 = [] := by
        intro n
        induction n with
        | zero => rfl
        | succ n ih => rw [tab_lt b (Nat.zero_le _), ih]
      rw [this]; rfl
    show (if s = 0 then 0 else _) = _
    rw [if_neg h0, tab_new b (by omega) hs]
    unfold newT
    rw [List.map_flatMap, sR_flat]
    refine sR_congr fun j _ => ?_
    rw [List.map_map]
    have e : ∀ r : List Tr, (wH w (h + 1) ∘ Tr.mk k j) r = c k j * pR (r.map (wH w h)) := by
      intro r
      show wH w (h + 1) (.mk k j r) = _
      rw [pR_wH]
      unfold wH
      rw [hw]
      by_cases z : hTs r ≤ h
      · rw [if_pos (by unfold hT; omega), if_pos z]
      · rw [if_neg (by unfold hT; omega), if_neg z]; grind
    rw [List.map_congr_left fun r _ => e r, sR_mul, rows_sum]
    congr 1
    exact Rn_congr _ _ fun k' _ f h1 h2 => LT_ok b c w hw h n k' f (by omega)
end
end Law


set_option Elab.async false
set_option linter.all false
set_option maxRecDepth 100000
set_option maxHeartbeats 1000000
set_option exponentiation.threshold 10000
/-! G2: two clauses, pairs as targets, dicts. -/
namespace Law
open FP PySem
section
variable {ι κ : Type} {Γ : List Slot} {Sx : S}
theorem lcRR_map {vs vs1 : List Nat} {tg tg1 : Tg} {mi1 : M (List D)} {me : M D} (hv : ∀ i ∈ vs1, i ∈ vs) (g : ι → D) (ys : ι → List κ) (g1 h : ι → κ → D) : ∀ (xs : List ι) (acc : List D) (Γ' : List Slot),
    (∀ x ∈ xs, ∃ Γd, asgT tg (g x) (wipeΓ Γ vs) = some Γd ∧ wipeΓ Γd vs = wipeΓ Γ vs ∧ mi1 ⟨Γd, Sx⟩ = .ok ((ys x).map (g1 x)) ⟨Γd, Sx⟩ ∧ (ys x).length ≤ 1000 ∧
      ∀ y ∈ ys x, ∃ Γe, asgT tg1 (g1 x y) (wipeΓ Γd vs1) = some Γe ∧ wipeΓ Γe vs1 = wipeΓ Γd vs1 ∧ me ⟨Γe, Sx⟩ = .ok (h x y) ⟨Γe, Sx⟩) → acc.length + 1000 * xs.length ≤ 100000 → wipeΓ Γ' vs = wipeΓ Γ vs →
    ∃ Γ2, lcRR vs tg (M.pure true) mi1 vs1 tg1 (M.pure true) me (xs.map g) acc ⟨Γ', Sx⟩ = .ok (acc ++ xs.flatMap fun x => (ys x).map (h x)) ⟨Γ2, Sx⟩ ∧ wipeΓ Γ2 vs = wipeΓ Γ vs
  | [], acc, Γ', _, _, hw => ⟨Γ', by simp [lcRR, pure_ap], hw⟩
  | x :: xs, acc, Γ', hs, hl, hw => by
    obtain ⟨Γd, h1, h2, h3, h4, h5⟩ := hs x List.mem_cons_self
    rw [List.length_cons] at hl
    obtain ⟨Γe, e1, e2⟩ := lcR_map (Γ := Γd) (g1 x) (h x) (ys x) acc Γd h5 (by omega) rfl
    have e3 : wipeΓ Γe vs = wipeΓ Γ vs := by
      rw [← h2]
      apply List.ext_getElem?
      intro j
      have ln : Γe.length = Γd.length := by rw [← wipeΓ_length Γe vs1, e2, wipeΓ_length]
      have keep : ∀ (Γ : List Slot) (vs : List Nat) (j : Nat), j ∉ vs → (wipeΓ Γ vs)[j]? = Γ[j]? := by
        intro Γ vs j
        induction vs with
        | nil => intro _; rfl
        | cons v vs ih =>
          intro h
          unfold wipeΓ
          rw [List.getElem?_set_ne (fun e => h (by rw [e]; exact List.mem_cons_self)), ih fun z => h (List.mem_cons_of_mem _ z)]
      have gone : ∀ (Γ : List Slot) (vs : List Nat) (j : Nat), j ∈ vs → (wipeΓ Γ vs)[j]? = if j < Γ.length then some .none else none := by
        intro Γ vs j
        induction vs with
        | nil => intro h; cases h
        | cons v vs ih =>
          intro h
          unfold wipeΓ
          by_cases e : v = j
          · subst e
            by_cases hl : v < Γ.length
            · rw [if_pos hl, List.getElem?_set_self (by rw [wipeΓ_length]; exact hl)]
            · rw [if_neg hl, List.getElem?_eq_none (by rw [List.length_set, wipeΓ_length]; omega)]
          · rw [List.getElem?_set_ne e]
            rcases List.mem_cons.mp h with z | z
            · exact absurd z.symm e
            · exact ih z
      by_cases hj : j ∈ vs
      · rw [gone _ _ _ hj, gone _ _ _ hj, ln]
      · have hj1 : j ∉ vs1 := fun z => hj (hv j z)
        rw [keep _ _ _ hj, keep _ _ _ hj, ← keep Γe vs1 j hj1, e2, keep _ _ _ hj1]
    obtain ⟨Γ2, g1', g2⟩ := lcRR_map hv g ys g1 h xs (acc ++ (ys x).map (h x)) Γe (fun y hy => hs y (List.mem_cons_of_mem _ hy)) (by rw [List.length_append, List.length_map]; omega) e3
    refine ⟨Γ2, ?_, g2⟩
    have n3 : nox mi1 ⟨Γd, Sx⟩ = .ok ((ys x).map (g1 x)) ⟨Γd, Sx⟩ := by unfold nox; rw [h3]
    have n0 : nox (M.pure true) ⟨Γd, Sx⟩ = .ok true ⟨Γd, Sx⟩ := rfl
    have h1' : asgT tg (g x) (wipeΓ Γ' vs) = some Γd := by rw [hw]; exact h1
    rw [List.map_cons, lcRR]
    simp only [h1', n0, rb_ok, if_true, bind_ap, n3, e1]
    rw [g1', List.flatMap_cons, List.append_assoc]
theorem mLc2_map {vs vs1 : List Nat} {tg tg1 : Tg} {mi mi1 : M (List D)} {me : M D} (hv : ∀ i ∈ vs1, i ∈ vs) (xs : List ι) (g : ι → D) (ys : ι → List κ) (g1 h : ι → κ → D) (hi : mi ⟨Γ, Sx⟩ = .ok (xs.map g) ⟨Γ, Sx⟩) (hl : xs.length ≤ 100)
    (hs : ∀ x ∈ xs, ∃ Γd, asgT tg (g x) (wipeΓ Γ vs) = some Γd ∧ wipeΓ Γd vs = wipeΓ Γ vs ∧ mi1 ⟨Γd, Sx⟩ = .ok ((ys x).map (g1 x)) ⟨Γd, Sx⟩ ∧ (ys x).length ≤ 1000 ∧
      ∀ y ∈ ys x, ∃ Γe, asgT tg1 (g1 x y) (wipeΓ Γd vs1) = some Γe ∧ wipeΓ Γe vs1 = wipeΓ Γd vs1 ∧ me ⟨Γe, Sx⟩ = .ok (h x y) ⟨Γe, Sx⟩) :
    mLc2 vs tg mi (M.pure true) vs1 tg1 mi1 (M.pure true) me ⟨Γ, Sx⟩ = .ok (.lst (xs.flatMap fun x => (ys x).map (h x))) ⟨Γ, Sx⟩ := by
  obtain ⟨Γ2, h1, h2⟩ := lcRR_map hv g ys g1 h xs [] Γ hs (by simp; omega) rfl
  show (mi ⟨Γ, Sx⟩).bind _ = _
  rw [hi, rb_ok, h1, rb_ok, restore_eq h2]
  rfl
/-- a pair as the target -/
theorem mLc_p {i j : Nat} {mi : M (List D)} {me : M D} (xs : List ι) (g1 g2 h : ι → D) (hij : i ≠ j) (hil : i < Γ.length) (hjl : j < Γ.length) (hi : mi ⟨Γ, Sx⟩ = .ok (xs.map fun x => .tup [g1 x, g2 x]) ⟨Γ, Sx⟩) (hl : xs.length ≤ 100000)
    (hs : ∀ x ∈ xs, me ⟨(Γ.set i (.frz (g1 x))).set j (.frz (g2 x)), Sx⟩ = .ok (h x) ⟨(Γ.set i (.frz (g1 x))).set j (.frz (g2 x)), Sx⟩) : mLc [i, j] (.tp [i, j]) mi (M.pure true) me ⟨Γ, Sx⟩ = .ok (.lst (xs.map h)) ⟨Γ, Sx⟩ := by
  refine mLc_map (vs := [i, j]) (tg := .tp [i, j]) xs (fun x => .tup [g1 x, g2 x]) h hi hl fun x hx => ⟨(Γ.set i (.frz (g1 x))).set j (.frz (g2 x)), ?_, ?_, hs x hx⟩
  · have e0 : wipeΓ Γ [i, j] = (Γ.set j .none).set i .none := rfl
    rw [e0]
    show (if i < ((Γ.set j .none).set i .none).length then (if j < (((Γ.set j .none).set i .none).set i (.frz (g1 x))).length then some ((((Γ.set j .none).set i .none).set i (.frz (g1 x))).set j (.frz (g2 x))) else none) else none) = _
    rw [if_pos (by simp; omega), if_pos (by simp; omega), List.set_set, List.set_comm _ _ hij.symm, List.set_set]
  · show (((Γ.set i (.frz (g1 x))).set j (.frz (g2 x))).set j .none).set i .none = (Γ.set j .none).set i .none
    rw [List.set_set, List.set_comm _ _ hij, List.set_set, List.set_comm _ _ hij.symm]
end
/-! dicts -/
theorem valD_put {κ : Type} [DecidableEq κ] (kvs : List (κ × D)) (k j : κ) (v : D) : valD (putD kvs k v) j = if j = k then some v else valD kvs j := by
  unfold valD putD
  by_cases h : (kvs.any fun kv => decide (kv.1 = k)) = true
  · rw [if_pos h]
    induction kvs with
    | nil => simp at h
    | cons p kvs ih =>
      rw [List.map_cons]
      by_cases hp : p.1 = k
      · rw [if_pos hp]
        by_cases hj : j = k
        · rw [if_pos hj, List.find?_cons_of_pos (by simp [hp, hj])]; rfl
        · have hn : ¬ p.1 = j := fun z => hj (z.symm.trans hp)
          rw [if_neg hj, List.find?_cons_of_neg (by simpa using hn), List.find?_cons_of_neg (by simpa using hn)]
          by_cases h2 : (kvs.any fun kv => decide (kv.1 = k)) = true
          · rw [ih h2, if_neg hj]
          · have e : kvs.map (fun kv => if kv.1 = k then (kv.1, v) else kv) = kvs := by
              rw [List.map_congr_left (g := id) fun q hq => ?_, List.map_id]
              rw [if_neg]; rfl
              intro z
              exact h2 (List.any_eq_true.mpr ⟨q, hq, decide_eq_true z⟩)
            rw [e]
      · rw [if_neg hp]
        have h2 : (kvs.any fun kv => decide (kv.1 = k)) = true := by
          rw [List.any_cons, decide_eq_false hp, Bool.false_or] at h; exact h
        by_cases hq : p.1 = j
        · have hj : ¬ j = k := fun z => hp (hq.trans z)
          rw [if_neg hj, List.find?_cons_of_pos (by simp [hq]), List.find?_cons_of_pos (by simp [hq])]
        · rw [List.find?_cons_of_neg (by simpa using hq), List.find?_cons_of_neg (by simpa using hq)]
          exact ih h2
  · rw [if_neg h]
    have hn : ∀ q ∈ kvs, ¬ q.1 = k := fun q hq z => h (List.any_eq_true.mpr ⟨q, hq, decide_eq_true z⟩)
    rw [List.find?_append]
    by_cases hj : j = k
    · subst hj
      rw [if_pos rfl, List.find?_eq_none.mpr fun q hq => by simpa using hn q hq]
      simp
    · rw [if_neg hj]
      have : List.find? (fun kv : κ × D => decide (kv.1 = j)) [(k, v)] = none := by
        simp [Ne.symm hj]
      rw [this, Option.or_none]
end Law


set_option Elab.async false
set_option linter.all false
set_option maxRecDepth 100000
set_option maxHeartbeats 1000000
set_option exponentiation.threshold 10000
/-! T2: the trees as data; what the program and the law lay. -/
namespace Law
open FP PySem
mutual
def trD : Tr → D
  | .mk k j c => .tup [.int (k : Int), .int (j : Int), .tup (trDs c)]
def trDs : List Tr → List D
  | [] => []
  | t :: r => trD t :: trDs r
end
theorem trDs_eq : ∀ c : List Tr, trDs c = c.map trD
  | [] => rfl
  | t :: r => by show trD t :: trDs r = _; rw [trDs_eq r]; rfl
def intsD (l : List Nat) : D := .lst (l.map fun (k : Nat) => .int (k : Int))
def rowsD (l : List (List Tr)) : D := .lst (l.map fun r => .tup (r.map trD))
def treesD (l : List Tr) : D := .lst (l.map trD)
/-! lengths -/
def Lf (f : Nat) : Nat := if f = 1 then 5 else if f = 2 then 25 else if f = 3 then 125 else 1250
theorem Rn_mono {W W' : Nat → Nat → Nat} : ∀ (ks : List Nat) (s : Nat), (∀ k ∈ ks, ∀ f, 1 ≤ f → f ≤ s → W k f ≤ W' k f) → Rn W ks s ≤ Rn W' ks s
  | [], s, _ => Nat.le_refl _
  | k :: ks, s, h => by
    unfold Rn
    have key : ∀ (g g' : Nat → Nat) (l : List Nat), (∀ i ∈ l, g i ≤ g' i) → sR (l.map g) ≤ sR (l.map g') := by
      intro g g' l hl
      induction l with
      | nil => exact Nat.le_refl _
      | cons i l ih => exact Nat.add_le_add (hl i List.mem_cons_self) (ih fun j hj => hl j (List.mem_cons_of_mem _ hj))
    refine key _ _ _ fun f hf => ?_
    have hf := List.mem_range.mp hf
    exact Nat.mul_le_mul (h k List.mem_cons_self (f + 1) (by omega) (by omega)) (Rn_mono ks _ fun k' hk f' h1 h2 => h k' (List.mem_cons_of_mem _ hk) f' h1 (by omega))
theorem Rn_kinds (L : Nat → Nat) : ∀ (ks : List Nat) (s : Nat), Rn (fun _ f => L f) ks s = Rn (fun _ f => L f) (List.replicate ks.length 0) s
  | [], s => rfl
  | k :: ks, s => by
    rw [List.length_cons, List.replicate_succ]
    unfold Rn
    rw [List.length_replicate]
    exact sR_congr fun f _ => by rw [Rn_kinds L ks]
theorem sR_ones {ι : Type} (l : List ι) : sR (l.map fun _ => 1) = l.length := by
  induction l with
  | nil => rfl
  | cons i l ih => show 1 + sR (l.map fun _ => 1) = _; rw [ih, List.length_cons]; omega
theorem pR_ones {R : Type} [Lean.Grind.CommSemiring R] {ι : Type} (l : List ι) : pR (l.map fun _ => (1 : R)) = 1 := by
  induction l with
  | nil => rfl
  | cons i l ih => show (1 : R) * pR (l.map fun _ => 1) = 1; rw [ih]; grind
theorem rows_len (tb : Nat → Nat → List Tr) (ks : List Nat) (s : Nat) : (rowsT tb ks s).length = Rn (fun k f => (tb k f).length) ks s := by
  have h := rows_sum (R := Nat) (fun _ => 1) tb ks s
  rw [← sR_ones, ← show (fun k f => sR ((tb k f).map fun _ => 1)) = (fun k f => (tb k f).length) from by funext k f; exact sR_ones _, ← h]
  refine sR_congr fun r _ => ?_
  rw [pR_ones]
theorem Rn_small : ∀ m, m < 3 → ∀ s, s < 5 → Rn (fun _ f => Lf f) (List.replicate m 0) s ≤ 50000 := by decide
theorem Rn_next : ∀ m, m < 3 → ∀ s, s < 4 → 5 * Rn (fun _ f => Lf f) (List.replicate m 0) s ≤ Lf (s + 1) := by decide
def TbLe (tb : Nat → Nat → List Tr) (n : Nat) : Prop := ∀ k f, 1 ≤ f → f ≤ n → (tb k f).length ≤ Lf f
theorem rows_le {tb : Nat → Nat → List Tr} {n : Nat} (h : TbLe tb n) {ks : List Nat} {s : Nat} (hk : ks.length ≤ 2) (hs : s ≤ n) (hn : n ≤ 4) : (rowsT tb ks s).length ≤ 50000 := by
  rw [rows_len]
  refine Nat.le_trans (Rn_mono (W' := fun _ f => Lf f) ks s fun k _ f h1 h2 => h k f h1 (by omega)) ?_
  rw [Rn_kinds]
  exact Rn_small _ (by omega) s (by omega)
theorem rows_le2 {tb : Nat → Nat → List Tr} {n : Nat} (h : TbLe tb n) {ks : List Nat} (hk : ks.length ≤ 2) (hn : n ≤ 3) : 5 * (rowsT tb ks n).length ≤ Lf (n + 1) := by
  rw [rows_len]
  refine Nat.le_trans (Nat.mul_le_mul_left 5 (Rn_mono (W' := fun _ f => Lf f) ks n fun k _ f h1 h2 => h k f h1 (by omega))) ?_
  rw [Rn_kinds]
  exact Rn_next _ (by omega) n (by omega)
theorem flat_len {ι κ : Type} (f : ι → List κ) (B : Nat) : ∀ l : List ι, (∀ i ∈ l, (f i).length ≤ B) → (l.flatMap f).length ≤ B * l.length
  | [], _ => Nat.zero_le _
  | i :: l, h => by
    rw [List.flatMap_cons, List.length_append, List.length_cons, Nat.mul_succ]
    have := flat_len f B l fun j hj => h j (List.mem_cons_of_mem _ hj)
    have := h i List.mem_cons_self
    omega
section
variable {N : Nat} {b : Book}
theorem litsOf_ok (h : BookOk N b) {k : Nat} (hk : k < b.many) : litsOf b k ∈ b.lits := by
  unfold litsOf
  rw [List.getD_eq_getElem?_getD, List.getElem?_eq_getElem (by rw [h.ll]; exact hk)]
  exact List.getElem_mem _
theorem litsOf_ok' (h : BookOk N b) (k : Nat) : LitOk N b.many (litsOf b k) ∨ litsOf b k = [] := by
  by_cases hk : k < b.many
  · exact .inl (h.lk _ (litsOf_ok h hk))
  · unfold litsOf
    rw [List.getD_eq_getElem?_getD, List.getElem?_eq_none (by rw [h.ll]; omega)]
    exact .inr rfl
theorem lits_len (h : BookOk N b) (k : Nat) : (litsOf b k).length ≤ 5 := by
  rcases litsOf_ok' h k with q | q
  · exact q.few
  · rw [q]; exact Nat.zero_le _
theorem lot_le (h : BookOk N b) (k j : Nat) : (thingsL ((litsOf b k).getD j ([], 0)).1).length ≤ 2 := by
  rw [thingsL_len]
  by_cases hj : j < (litsOf b k).length
  · rcases litsOf_ok' h k with q | q
    · have e : (litsOf b k).getD j ([], 0) = (litsOf b k)[j] := by rw [List.getD_eq_getElem?_getD, List.getElem?_eq_getElem hj]; rfl
      rw [e]
      exact (q.each _ (List.getElem_mem hj)).2.1
    · rw [q] at hj; cases hj
  · have e : (litsOf b k).getD j ([], 0) = ([], 0) := by rw [List.getD_eq_getElem?_getD, List.getElem?_eq_none (by omega)]; rfl
    rw [e]
    exact Nat.zero_le _
theorem tab_tb (h : BookOk N b) : ∀ n, n ≤ 4 → TbLe (tab b n) n
  | 0, _ => fun k f h1 h2 => by omega
  | n + 1, hn => fun k f h1 h2 => by
    have ih := tab_tb h n (by omega)
    by_cases e : f = n + 1
    · subst e
      show (if n + 1 = n + 1 then newT b (tab b n) k n else _).length ≤ _
      rw [if_pos rfl]
      unfold newT
      have key : ∀ j ∈ List.range (litsOf b k).length, ((rowsT (tab b n) (thingsL ((litsOf b k).getD j ([], 0)).1) n).map (Tr.mk k j)).length ≤ Lf (n + 1) / 5 := fun j _ => by
        rw [List.length_map]
        have := rows_le2 ih (lot_le h k j) (by omega : n ≤ 3)
        omega
      have := flat_len _ _ _ key
      rw [List.length_range] at this
      have l5 := lits_len h k
      have : Lf (n + 1) / 5 * (litsOf b k).length ≤ Lf (n + 1) / 5 * 5 := Nat.mul_le_mul_left _ l5
      have := Nat.div_mul_le_self (Lf (n + 1)) 5
      omega
    · rw [tab_lt b (by omega)]
      exact ih k f h1 (by omega)
end
/-! things -/
theorem rep_map (n : Nat) (d : D) : ((List.range n).map fun _ => d) = List.replicate n d := by
  rw [List.eq_replicate_iff]
  exact ⟨by rw [List.length_map, List.length_range], fun x hx => by obtain ⟨_, _, rfl⟩ := List.mem_map.mp hx; rfl⟩
theorem lotD_at {l : List Nat} {k : Nat} (h : k < l.length) : fIx (lotD l) (.int (k : Int)) = some (.int (l.getD k 0 : Nat)) := fIx_tup (by
  rw [List.getElem?_map, List.getElem?_eq_getElem h, List.getD_eq_getElem?_getD, List.getElem?_eq_getElem h]; rfl)
theorem lotD_len (l : List Nat) : fLen (lotD l) = some (.int (l.length : Nat)) := by
  show some (D.int ((l.map fun (n : Nat) => D.int (n : Int)).length : Nat)) = _
  rw [List.length_map]
theorem thingsL_map (l : List Nat) : ((thingsL l).map fun (k : Nat) => D.int (k : Int)) = (List.range l.length).flatMap fun k => List.replicate (l.getD k 0) (.int (k : Int)) := by
  unfold thingsL
  rw [List.map_flatMap]
  congr 1
  funext k
  rw [List.map_replicate]
theorem getD_le {l : List Nat} {k : Nat} (h : k < l.length) : l.getD k 0 ≤ l.sum := by
  rw [List.getD_eq_getElem?_getD, List.getElem?_eq_getElem h]
  exact le_sum (List.getElem_mem h)
theorem things_ok (Sx : S) (l : List Nat) (hl : l.length ≤ 10) (hs : l.sum ≤ 10) : f_things [lotD l] Sx = .ok (intsD (thingsL l)) Sx := by
  unfold f_things intsD
  rw [thingsL_map]
  have := mLc2_map (Γ := [.frz (lotD l), .none, .none]) (Sx := Sx) (vs := [1, 2]) (vs1 := [2]) (tg := .nm 1) (tg1 := .nm 2) (mi1 := mIt rng1 (mOp fIx (mRead 0) (mName 1))) (me := mName 1) (by decide) (List.range l.length) (fun (k : Nat) => .int (k : Int)) (fun k => List.range (l.getD k 0)) (fun _ (j : Nat) => .int (j : Int)) (fun k _ => .int (k : Int))
    (it_of (un_e (r_frz (i := 0) rfl) (lotD_len l)) (rng1_map (by omega))) (by rw [List.length_range]; omega) fun k hk => by
      have hk := List.mem_range.mp hk
      have := getD_le hk
      exact ⟨[.frz (lotD l), .frz (.int (k : Int)), .none], rfl, rfl, it_of (ix_e (r_frz (i := 0) rfl) (n_frz (i := 1) rfl) (lotD_at hk)) (rng1_map (by omega)), by rw [List.length_range]; omega, fun j _ => ⟨[.frz (lotD l), .frz (.int (k : Int)), .frz (.int (j : Int))], rfl, rfl, n_frz (i := 1) rfl⟩⟩
  rw [show (fun k => (List.range (l.getD k 0)).map fun (_ : Nat) => D.int (k : Int)) = fun k => List.replicate (l.getD k 0) (.int (k : Int)) from by funext k; exact rep_map _ _] at this
  exact run_rt (ret_e this)
theorem fCat_ok {xs ys : List D} (h : xs.length + ys.length ≤ 1000000) : fCat (.lst xs) (.lst ys) = some (.lst (xs ++ ys)) := by
  show (if xs.length + ys.length ≤ PySem.sizeLine then some (D.lst (xs ++ ys)) else none) = _
  rw [if_pos (by rw [PySem.sizeLine_eq]; omega)]
theorem flat_take (l : List Nat) (j : Nat) : ((List.range (j + 1)).flatMap fun k => List.replicate (l.getD k 0) (D.int (k : Int))) = ((List.range j).flatMap fun k => List.replicate (l.getD k 0) (D.int (k : Int))) ++ List.replicate (l.getD j 0) (D.int (j : Int)) := by
  rw [List.range_succ, List.flatMap_append, List.flatMap_cons, List.flatMap_nil, List.append_nil]
theorem lthings_ok (Sx : S) (l : List Nat) (hl : l.length ≤ 10) (hs : l.sum ≤ 10) : f__law_things [lotD l] Sx = .ok (intsD (thingsL l)) Sx := by
  unfold f__law_things intsD
  rw [thingsL_map]
  obtain ⟨Γ', Sz, e, rfl, rfl⟩ := cfor_inv (v := 2) (mask := [2]) (c := cSet 1 (mOp fCat (mRead 1) (mOp fRep (mLst (mCons (mName 2) mNil)) (mOp fIx (mRead 0) (mName 2))))) (Γ := [.frz (lotD l), .frz (.lst []), .none])
    (fun j Γ S' => Γ = [.frz (lotD l), .frz (.lst ((List.range j).flatMap fun k => List.replicate (l.getD k 0) (D.int (k : Int)))), .none] ∧ S' = Sx) (fun j Γ Sx h => by rw [h.1]; simp)
    (it_of (Γ := [.frz (lotD l), .frz (.lst []), .none]) (Sx := Sx) (un_e (r_frz (i := 0) rfl) (lotD_len l)) (rng1_map (by omega))) (fun j d Γ Sy hj ⟨h1, h2⟩ => by
      obtain ⟨jm, rfl⟩ := rg_get hj
      subst h1 h2
      have g := getD_le jm
      have fl := flat_len (fun k => List.replicate (l.getD k 0) (D.int (k : Int))) 10 (List.range j) fun k hk => by
        have := List.mem_range.mp hk
        have := getD_le (l := l) (k := k) (by omega)
        rw [List.length_replicate]; omega
      rw [List.length_range] at fl
      refine ⟨_, Sy, set_nx (op_e (r_frz (i := 1) rfl) (op_e (lst1_e (n_frz (i := 2) rfl)) (ix_e (r_frz (i := 0) rfl) (n_frz (i := 2) rfl) (lotD_at jm)) (fRep_one _ _ (by omega))) (fCat_ok (by rw [List.length_replicate]; omega))) (by simp), ?_, rfl⟩
      rw [flat_take]; rfl) ⟨rfl, rfl⟩
  rw [List.length_map, List.length_range] at e
  exact run_rt (seq_e (set_nx nil_e (by simp)) (seq_e e (ret_e (n_frz (i := 1) rfl))))
end Law


set_option Elab.async false
set_option linter.all false
set_option maxRecDepth 100000
set_option maxHeartbeats 1000000
set_option exponentiation.threshold 10000
/-! T3: rows of trees by the law's own hand. -/
namespace Law
open FP PySem
theorem cut_one {α : Type} (l : List α) : FP.cut l (some 1) none = l.drop 1 := by
  unfold FP.cut HT.sIx
  cases l with
  | nil => rfl
  | cons x l =>
    simp only [List.length_cons]
    rw [if_neg (by decide), show (1 : Int).toNat = 1 from rfl, Nat.min_eq_left (by omega)]
    simp
theorem eqv_nil (x : D) (xs : List D) : PySem.PyData.eqv (D.lst (x :: xs)).py (D.lst []).py = false := by
  show PySem.PyData.eqv (.list (pyL (x :: xs))) (.list (pyL [])) = false
  simp [PySem.PyData.eqv, pyL, PySem.PyData.eqvAll]
theorem sh_nil : Sh 1 (.lst []) := sh_lst fun d h => by cases h
theorem fEq_cons {k : Nat} {x : D} {xs : List D} (h : Sh k (.lst (x :: xs))) (hk : k ≤ 64) : fEq (.lst (x :: xs)) (.lst []) = some (.bl false) := by
  unfold fEq
  rw [if_pos ⟨sh_shp h hk, sh_shp sh_nil (by decide)⟩, eqv_nil]
theorem fNe_cons {k : Nat} {x : D} {xs : List D} (h : Sh k (.lst (x :: xs))) (hk : k ≤ 64) : fNe (.lst (x :: xs)) (.lst []) = some (.bl true) := by
  unfold fNe
  rw [if_pos ⟨sh_shp h hk, sh_shp sh_nil (by decide)⟩, eqv_nil]; rfl
theorem sh_ints (l : List Nat) : Sh 1 (intsD l) := sh_lst (sh_map l _ fun k _ => sh_int _)
theorem map_get {α : Type} {l : List α} {g : α → D} {j : Nat} {d : D} (h : (l.map g)[j]? = some d) : ∃ t, l[j]? = some t ∧ d = g t := by
  rw [List.getElem?_map] at h
  cases e : l[j]? with
  | none => rw [e] at h; cases h
  | some t => rw [e] at h; exact ⟨t, rfl, (Option.some.inj h).symm⟩
theorem take_next {α : Type} {l : List α} {j : Nat} {t : α} (h : l[j]? = some t) : l.take (j + 1) = l.take j ++ [t] := by
  rw [List.take_add_one, h]; rfl
theorem flat_pre {α β : Type} (F : α → List β) (l : List α) (j : Nat) : ((l.take j).flatMap F).length ≤ (l.flatMap F).length := by
  have h := List.take_append_drop j l
  conv => rhs; rw [← h]
  rw [List.flatMap_append, List.length_append]; omega
theorem flat_pre2 {β : Type} (F : Nat → List β) {j q : Nat} (h : j ≤ q) : ((List.range j).flatMap F).length ≤ ((List.range q).flatMap F).length := by
  have := flat_pre F (List.range q) j
  rwa [List.take_range, Nat.min_eq_left h] at this
theorem rowsT_len (tb : Nat → Nat → List Tr) : ∀ (ks : List Nat) (s : Nat) (r : List Tr), r ∈ rowsT tb ks s → r.length = ks.length
  | [], s, r, h => by
    unfold rowsT at h
    split at h
    · rw [List.mem_singleton.mp h]; rfl
    · cases h
  | k :: ks, s, r, h => by
    unfold rowsT at h
    obtain ⟨f, _, h⟩ := List.mem_flatMap.mp h
    obtain ⟨t, _, h⟩ := List.mem_flatMap.mp h
    obtain ⟨q, hq, rfl⟩ := List.mem_map.mp h
    rw [List.length_cons, List.length_cons, rowsT_len tb ks _ q hq]
/-- what a table holds -/
def TabOk (dks : List (List L2.Key × D)) (tb : Nat → Nat → List Tr) (many n : Nat) : Prop := ∀ k f, k < many → 1 ≤ f → f ≤ n → valD dks [.inl (k : Int), .inl (f : Int)] = some (treesD (tb k f))
theorem tab_at {dks : List (List L2.Key × D)} {tb : Nat → Nat → List Tr} {many n k f : Nat} (h : TabOk dks tb many n) (hk : k < many) (h1 : 1 ≤ f) (h2 : f ≤ n) : fDix (.dT dks) (.tup [.int (k : Int), .int (f : Int)]) = some (treesD (tb k f)) := by
  have e : atD (.dT dks) (.tup [.int (k : Int), .int (f : Int)]) = some (valD dks [.inl (k : Int), .inl (f : Int)]) := rfl
  unfold fDix
  rw [e, h k f hk h1 h2]
def rowD (r : List Tr) : D := .tup (r.map trD)
def rwB2 : Cmd := cSet 3 (mOp fCat (mRead 3) (mLc [7] (.nm 7) (mIt lstOf (mRead 5)) (M.pure true) (mOp fAdd (mTup (mCons (mName 6) mNil)) (mName 7))))
theorem rw2_ok (Sx : S) {a b c e : Slot} {acc : List (List Tr)} {rest : List (List Tr)} {t : Tr} (hr : ∀ r ∈ rest, r.length ≤ 10) (h1 : acc.length + rest.length ≤ 60000) :
    rwB2 ⟨[a, b, c, .frz (rowsD acc), e, .frz (rowsD rest), .frz (trD t), .none], Sx⟩ = .nx ⟨[a, b, c, .frz (rowsD (acc ++ rest.map (t :: ·))), e, .frz (rowsD rest), .frz (trD t), .none], Sx⟩ := by
  unfold rwB2
  refine set_nx (z := rowsD (acc ++ rest.map (t :: ·))) (Γ' := [a, b, c, .frz (rowsD acc), e, .frz (rowsD rest), .frz (trD t), .none]) (op_e (r_frz (i := 3) rfl) (mLc_v (v := 7) (by simp) rest rowD (fun r => rowD (t :: r)) (it_l (i := 5) rfl) (by omega) fun r hr' => ?_) ?_) (by simp)
  · refine op_e (tup1_e (n_frz (i := 6) rfl)) (n_frz (i := 7) rfl) ?_
    show (if [trD t].length + (r.map trD).length ≤ PySem.sizeLine then some (D.tup ([trD t] ++ r.map trD)) else none) = _
    rw [if_pos (by rw [PySem.sizeLine_eq, List.length_map, List.length_singleton]; have := hr r hr'; omega)]
    rfl
  · unfold rowsD
    rw [fCat_ok (by rw [List.length_map, List.length_map]; omega), List.map_append, List.map_map]
    rfl
noncomputable def rwB (f : Fnc) : Cmd := (cSeq (cSet 5 (mCall 3 f (mCons (mName 0) (mCons (mSlL (mRead 1) (mPart (mC (.int 1))) (M.pure none)) (mCons (mOp fSub (mName 2) (mName 4)) mNil)))))
  (cFor (.nm 6) [6] (mIt lstOf (mOp fDix (mRead 0) (mTup (mCons (mOp fIx (mRead 1) (mC (.int 0))) (mCons (mName 4) mNil))))) rwB2))
theorem c__law_rows_eq (f : Fnc) : c__law_rows f = cSeq (cIf (mBool (mOp fEq (mName 1) (mLst mNil))) (cRet (mIf (mBool (mOp fEq (mName 2) (mC (.int 0)))) (mLst (mCons (mTup mNil) mNil)) (mLst mNil))) cNil)
  (cSeq (cSet 3 (mLst mNil)) (cSeq (cFor (.nm 4) [4, 5, 6] (mRng2 (mC (.int 1)) (mOp fAdd (mOp fSub (mName 2) (mUn fLen (mRead 1))) (mC (.int 2)))) (rwB f)) (cRet (mName 3)))) := rfl
theorem slice1 {Γ : List Slot} {Sx : S} {i : Nat} {ds : List D} (h : Γ[i]? = some (.frz (.lst ds))) : mSlL (mRead i) (mPart (mC (.int 1))) (M.pure none) ⟨Γ, Sx⟩ = .ok (.lst (ds.drop 1)) ⟨Γ, Sx⟩ := by
  unfold mSlL
  simp only [bind_ap, r_frz h, rb_ok, pure_ap, a_part, mC_ap, cut_one]
theorem tup2e {Γ : List Slot} {Sx : S} {a b : M D} {x y : D} (ha : a ⟨Γ, Sx⟩ = .ok x ⟨Γ, Sx⟩) (hb : b ⟨Γ, Sx⟩ = .ok y ⟨Γ, Sx⟩) : mTup (mCons a (mCons b mNil)) ⟨Γ, Sx⟩ = .ok (.tup [x, y]) ⟨Γ, Sx⟩ := tup2_e (S3 := Sx) ha hb
theorem lrows_ok {dks : List (List L2.Key × D)} {tb : Nat → Nat → List Tr} {many n : Nat} (T : TabOk dks tb many n) (hL : TbLe tb n) (hn : n ≤ 4) : ∀ (m : Nat) (ks : List Nat) (s : Nat) (Sx : S), ks.length < m → ks.length ≤ 2 → s ≤ n → (∀ k ∈ ks, k < many) →
    g__law_rows m [.dT dks, intsD ks, .int (s : Int)] Sx = .ok (rowsD (rowsT tb ks s)) Sx
  | 0, ks, s, Sx, h, _, _, _ => by omega
  | m + 1, [], s, Sx, _, _, hs, _ => by
    show runF 8 (c__law_rows (g__law_rows m)) _ _ = _
    rw [c__law_rows_eq]
    have v : mIf (mBool (mOp fEq (mName 2) (mC (.int 0)))) (mLst (mCons (mTup mNil) mNil)) (mLst mNil) ⟨[.frz (.dT dks), .frz (intsD []), .frz (.int (s : Int)), .none, .none, .none, .none, .none], Sx⟩ = .ok (rowsD (rowsT tb [] s)) ⟨[.frz (.dT dks), .frz (intsD []), .frz (.int (s : Int)), .none, .none, .none, .none, .none], Sx⟩ := by
      unfold rowsT
      have e := fEq_nat s 0
      by_cases h0 : s = 0
      · rw [decide_eq_true h0] at e
        rw [if_pos h0]
        exact mif_t (bool_e (op_e (n_frz (i := 2) rfl) (mC_ap _ _) e)) (lst1_e tnil_e)
      · rw [decide_eq_false h0] at e
        rw [if_neg h0]
        exact mif_f (bool_e (op_e (n_frz (i := 2) rfl) (mC_ap _ _) e)) nil_e
    exact run_rt (seq_rt (if_yes (bool_e (op_e (n_frz (i := 1) rfl) nil_e (fEq_self sh_nil (by decide)))) (ret_e v)))
  | m + 1, k :: ks, s, Sx, h, h2, hs, hm => by
    rw [List.length_cons] at h h2
    show runF 8 (c__law_rows (g__law_rows m)) _ _ = _
    rw [c__law_rows_eq]
    have hk := hm k List.mem_cons_self
    have total := rows_le hL (ks := k :: ks) (s := s) (by rw [List.length_cons]; omega) hs hn
    have ihr : ∀ f, f < s - ks.length → ∀ Sx, g__law_rows m [.dT dks, intsD ks, .int ((s - (f + 1) : Nat) : Int)] Sx = .ok (rowsD (rowsT tb ks (s - (f + 1)))) Sx := fun f hf Sx => lrows_ok T hL hn m ks (s - (f + 1)) Sx (by omega) (by omega) (by omega) fun k' hk' => hm k' (List.mem_cons_of_mem _ hk')
    have q1 : fSub (.int (s : Int)) (.int (((k :: ks).map fun (k : Nat) => D.int (k : Int)).length : Nat)) = some (.int ((s : Int) - ((ks.length + 1 : Nat) : Int))) := by rw [List.length_map, List.length_cons]; rfl
    have q2 : fAdd (.int ((s : Int) - ((ks.length + 1 : Nat) : Int))) (.int 2) = some (.int ((s + 1 - ks.length : Nat) : Int)) := by
      show some (D.int _) = _
      congr 2
      omega
    unfold rowsT at total
    obtain ⟨Γ', Sz, e, rfl, rfl⟩ := cfor_inv (v := 4) (mask := [4, 5, 6]) (c := rwB (g__law_rows m)) (Γ := [.frz (.dT dks), .frz (intsD (k :: ks)), .frz (.int (s : Int)), .frz (rowsD []), .none, .none, .none, .none])
      (fun j Γ S' => Γ = [.frz (.dT dks), .frz (intsD (k :: ks)), .frz (.int (s : Int)), .frz (rowsD ((List.range j).flatMap fun f => (tb k (f + 1)).flatMap fun t => (rowsT tb ks (s - (f + 1))).map (t :: ·))), .none, .none, .none, .none] ∧ S' = Sx) (fun j Γ Sx h => by rw [h.1]; simp)
      (rng2_e (p := 1) (q := s + 1 - ks.length) (Sx := Sx) (mC_ap _ _) (op_e (op_e (n_frz (i := 2) rfl) (un_e (r_frz (i := 1) rfl) (fLen_lst _)) q1) (mC_ap _ _) q2) (by decide) (by omega)) (fun j d Γ Sy hj ⟨h1, hS⟩ => by
        obtain ⟨jm, rfl⟩ := rg_get hj
        subst h1 hS
        have jm : j < s - ks.length := by omega
        have sb : fSub (.int (s : Int)) (.int ((1 + j : Nat) : Int)) = some (.int ((s - (j + 1) : Nat) : Int)) := by
          show some (D.int _) = _
          congr 2
          omega
        have cl := call3 (Sx := Sy) (n_frz (Γ := [.frz (.dT dks), .frz (intsD (k :: ks)), .frz (.int (s : Int)), .frz (rowsD ((List.range j).flatMap fun f => (tb k (f + 1)).flatMap fun t => (rowsT tb ks (s - (f + 1))).map (t :: ·))), .frz (.int ((1 + j : Nat) : Int)), .none, .none, .none]) (i := 0) rfl) (slice1 (i := 1) rfl) (op_e (n_frz (i := 2) rfl) (n_frz (i := 4) rfl) sb) (ihr j jm Sy)
        have ix : fIx (intsD (k :: ks)) (.int 0) = some (.int (k : Int)) := fIx_lst (k := 0) rfl
        have tt := tab_at T hk (f := 1 + j) (by omega) (by omega)
        generalize hacc : ((List.range j).flatMap fun f => (tb k (f + 1)).flatMap fun t => (rowsT tb ks (s - (f + 1))).map (t :: ·)) = acc at cl ⊢
        generalize hrest : rowsT tb ks (s - (j + 1)) = rest at cl ⊢
        have nx : ((List.range (j + 1)).flatMap fun f => (tb k (f + 1)).flatMap fun t => (rowsT tb ks (s - (f + 1))).map (t :: ·)) = acc ++ (tb k (j + 1)).flatMap fun t => rest.map (t :: ·) := by
          rw [List.range_succ, List.flatMap_append, List.flatMap_cons, List.flatMap_nil, List.append_nil, hacc, hrest]
        have bd := flat_pre2 (fun f => (tb k (f + 1)).flatMap fun t => (rowsT tb ks (s - (f + 1))).map (t :: ·)) (show j + 1 ≤ s - ks.length by omega)
        rw [nx, List.length_append] at bd
        have hrl : ∀ r ∈ rest, r.length ≤ 10 := fun r hr => by rw [← hrest] at hr; rw [rowsT_len tb ks _ r hr]; omega
        rw [show 1 + j = j + 1 by omega] at tt cl ⊢
        obtain ⟨Γ2, S2, e2, rfl, rfl⟩ := cfor_inv (ds := (tb k (j + 1)).map trD) (v := 6) (mask := [6]) (c := rwB2) (Γ := [.frz (.dT dks), .frz (intsD (k :: ks)), .frz (.int (s : Int)), .frz (rowsD acc), .frz (.int ((j + 1 : Nat) : Int)), .frz (rowsD rest), .none, .none])
          (fun i Γ S' => Γ = [.frz (.dT dks), .frz (intsD (k :: ks)), .frz (.int (s : Int)), .frz (rowsD (acc ++ ((tb k (j + 1)).take i).flatMap fun t => rest.map (t :: ·))), .frz (.int ((j + 1 : Nat) : Int)), .frz (rowsD rest), .none, .none] ∧ S' = Sy) (fun j Γ Sx h => by rw [h.1]; simp)
          (it_of (f := lstOf) (Sx := Sy) (op_e (r_frz (i := 0) rfl) (tup2e (ix_e (r_frz (i := 1) rfl) (mC_ap _ _) ix) (n_frz (i := 4) rfl)) tt) rfl) (fun i d Γ Sw hi ⟨g1, gS⟩ => by
            obtain ⟨t, ht, rfl⟩ := map_get hi
            subst g1 gS
            have b2 := flat_pre (fun t => rest.map (t :: ·)) (tb k (j + 1)) (i + 1)
            have tn := take_next ht
            rw [tn, List.flatMap_append, List.length_append, List.flatMap_cons, List.flatMap_nil, List.append_nil, List.length_map] at b2
            refine ⟨_, Sw, rw2_ok Sw hrl (by rw [List.length_append]; omega), ?_, rfl⟩
            rw [tn, List.flatMap_append, List.flatMap_cons, List.flatMap_nil, List.append_nil, List.append_assoc]
            rfl) ⟨by simp, rfl⟩
        rw [List.length_map, List.take_length] at e2
        refine ⟨_, S2, seq_e (set_nx cl (by simp)) e2, ?_, rfl⟩
        rw [nx]
        rfl) ⟨rfl, rfl⟩
    rw [List.length_map, List.length_range, show s + 1 - ks.length - 1 = s - ks.length by omega] at e
    have f0 : fEq (intsD (k :: ks)) (.lst []) = some (.bl false) := fEq_cons (sh_ints (k :: ks)) (by decide)
    exact run_rt (seq_e (if_no (bool_e (op_e (n_frz (i := 1) rfl) nil_e f0))) (seq_e (set_nx nil_e (by simp)) (seq_e e (ret_e (n_frz (i := 3) rfl)))))
end Law


set_option Elab.async false
set_option linter.all false
set_option maxRecDepth 100000
set_option maxHeartbeats 1000000
set_option exponentiation.threshold 10000
/-! T4: all trees laid. -/
namespace Law
open FP PySem
/-- a loop that may return on the way -/
theorem for_inv2 {v : Nat} {mask : List Nat} {c : Cmd} (J : Nat → List Slot → S → Prop) (P : D → FP.W → Prop) (hJ : ∀ j Γ Sx, J j Γ Sx → v < Γ.length) : ∀ (ds : List D) (i : Nat) (Γ : List Slot) (Sx : S),
    (∀ j d Γ Sx, ds[j]? = some d → J (i + j) Γ Sx → (∃ Γ' Sz, c ⟨Γ.set v (.frz d), Sx⟩ = .nx ⟨Γ', Sz⟩ ∧ J (i + j + 1) (wipeΓ Γ' mask) Sz) ∨ ∃ x w, c ⟨Γ.set v (.frz d), Sx⟩ = .rt x w ∧ P x w) → J i Γ Sx →
    (∃ Γ' Sz, forR (.nm v) mask c ds ⟨Γ, Sx⟩ = .nx ⟨Γ', Sz⟩ ∧ J (i + ds.length) Γ' Sz) ∨ ∃ x w, forR (.nm v) mask c ds ⟨Γ, Sx⟩ = .rt x w ∧ P x w
  | [], i, Γ, Sx, _, h => .inl ⟨Γ, Sx, rfl, h⟩
  | d :: ds, i, Γ, Sx, hs, h => by
    have e0 : asgT (.nm v) d Γ = some (Γ.set v (.frz d)) := by
      show (if v < Γ.length then some (Γ.set v (.frz d)) else none) = _
      rw [if_pos (hJ _ _ _ h)]
    rcases hs 0 d Γ Sx rfl h with ⟨Γ', Sz, e1, h1⟩ | ⟨x, w, e1, p⟩
    · rcases for_inv2 J P hJ ds (i + 1) (wipeΓ Γ' mask) Sz (fun j d Γ Sx hj jj => by
        have := hs (j + 1) d Γ Sx (by simpa using hj) (by rw [show i + (j + 1) = i + 1 + j by omega]; exact jj)
        rw [show i + (j + 1) = i + 1 + j by omega] at this
        exact this) h1 with ⟨Γ2, S2, e2, h2⟩ | ⟨x, w, e2, p⟩
      · refine .inl ⟨Γ2, S2, ?_, by rw [List.length_cons, show i + (ds.length + 1) = i + 1 + ds.length by omega]; exact h2⟩
        rw [forR]
        simp only [e0, e1, kill, e2]
      · refine .inr ⟨x, w, ?_, p⟩
        rw [forR]
        simp only [e0, e1, kill, e2]
    · refine .inr ⟨x, w, ?_, p⟩
      rw [forR]
      simp only [e0, e1]
theorem cfor_inv2 {v : Nat} {mask : List Nat} {c : Cmd} {mi : M (List D)} {ds : List D} {Γ Γ1 : List Slot} {Sx S1 : S} (J : Nat → List Slot → S → Prop) (P : D → FP.W → Prop) (hJ : ∀ j Γ Sx, J j Γ Sx → v < Γ.length) (hi : mi ⟨Γ, Sx⟩ = .ok ds ⟨Γ1, S1⟩)
    (hs : ∀ j d Γ Sx, ds[j]? = some d → J j Γ Sx → (∃ Γ' Sz, c ⟨Γ.set v (.frz d), Sx⟩ = .nx ⟨Γ', Sz⟩ ∧ J (j + 1) (wipeΓ Γ' mask) Sz) ∨ ∃ x w, c ⟨Γ.set v (.frz d), Sx⟩ = .rt x w ∧ P x w) (h : J 0 Γ1 S1) :
    (∃ Γ' Sz, cFor (.nm v) mask mi c ⟨Γ, Sx⟩ = .nx ⟨Γ', Sz⟩ ∧ J ds.length Γ' Sz) ∨ ∃ x w, cFor (.nm v) mask mi c ⟨Γ, Sx⟩ = .rt x w ∧ P x w := by
  rcases for_inv2 J P hJ ds 0 Γ1 S1 (fun j d Γ Sx hj jj => by rw [Nat.zero_add] at jj ⊢; exact hs j d Γ Sx hj jj) h with ⟨Γ', Sz, e, h2⟩ | ⟨x, w, e, p⟩
  · refine .inl ⟨Γ', Sz, ?_, by rw [Nat.zero_add] at h2; exact h2⟩
    rw [a_for, hi, out_ok, e]
  · refine .inr ⟨x, w, ?_, p⟩
    rw [a_for, hi, out_ok, e]
theorem ix0 (x : D) (ds : List D) : fIx (.tup (x :: ds)) (.int 0) = some x := fIx_tup (k := 0) rfl
theorem ix1 (x y : D) (ds : List D) : fIx (.tup (x :: y :: ds)) (.int 1) = some y := fIx_tup (k := 1) rfl
theorem ix2 (x y z : D) (ds : List D) : fIx (.tup (x :: y :: z :: ds)) (.int 2) = some z := fIx_tup (k := 2) rfl
/-- a call with a dict lent first -/
theorem callL3 {Γ : List Slot} {Sx : S} {i : Nat} {f : Fnc} {a b : M D} {d x y z : D} (h0 : Γ[i]? = some (.own d)) (hd : isDict d = true) (ha : a ⟨Γ, Sx⟩ = .ok x ⟨Γ, Sx⟩) (hb : b ⟨Γ, Sx⟩ = .ok y ⟨Γ, Sx⟩) (h : f [d, x, y] Sx = .ok z Sx) (hz : noD z = true) : mCallL 3 i f (lLent i (lCons a (lCons b lNil))) ⟨Γ, Sx⟩ = .ok z ⟨Γ, Sx⟩ := by
  have e : lLent i (lCons a (lCons b lNil)) ⟨Γ, Sx⟩ = .ok [none, some x, some y] ⟨Γ, Sx⟩ := by
    unfold lLent
    simp only [h0]
    unfold lCons lNil
    simp only [bind_ap, ha, hb, rb_ok, pure_ap]
  unfold mCallL
  simp only [bind_ap, e, rb_ok, h0]
  rw [if_pos ⟨rfl, hd⟩]
  have e2 : ([none, some x, some y] : List (Option D)).map (fun o => o.getD d) = [d, x, y] := rfl
  rw [e2, h]
  simp only [hz, if_true]
mutual
theorem noD_tr : ∀ t : Tr, noD (trD t) = true
  | .mk k j c => by
    show (noD (.int (k : Int)) && (noD (.int (j : Int)) && (noD (.tup (trDs c)) && true))) = true
    have : noD (.tup (trDs c)) = true := noDs_tr c
    rw [this]; rfl
theorem noDs_tr : ∀ c : List Tr, noDs (trDs c) = true
  | [] => rfl
  | t :: r => by
    show (noD (trD t) && noDs (trDs r)) = true
    rw [noD_tr t, noDs_tr r]; rfl
end
theorem noDs_map {ι : Type} (g : ι → D) (h : ∀ i, noD (g i) = true) : ∀ l : List ι, noDs (l.map g) = true
  | [] => rfl
  | i :: l => by
    show (noD (g i) && noDs (l.map g)) = true
    rw [h i, noDs_map g h l]; rfl
theorem noD_rows (l : List (List Tr)) : noD (rowsD l) = true := noDs_map rowD (fun r => by
  show noDs (r.map trD) = true
  exact noDs_map trD noD_tr r) l
section
variable {N : Nat} {b : Book}
theorem lit_at (h : BookOk N b) {k : Nat} (hk : k < b.many) : fIx (.tup (b.lits.map litD)) (.int (k : Int)) = some (litD (litsOf b k)) := fIx_tup (by
  rw [List.getElem?_map]
  unfold litsOf
  rw [List.getD_eq_getElem?_getD, List.getElem?_eq_getElem (by rw [h.ll]; exact hk)]; rfl)
theorem row_at {l : Lit} {j : Nat} (hj : j < l.length) : fIx (litD l) (.int (j : Int)) = some (.tup [lotD (l.getD j ([], 0)).1, fr (l.getD j ([], 0)).2]) := fIx_tup (by
  rw [List.getElem?_map, List.getD_eq_getElem?_getD, List.getElem?_eq_getElem hj]; rfl)
theorem lit_len (l : Lit) : fLen (litD l) = some (.int (l.length : Nat)) := by
  show some (D.int ((l.map _).length : Nat)) = _
  rw [List.length_map]
theorem names_len (h : BookOk N b) : fLen (.tup b.names) = some (.int (b.many : Nat)) := by
  rw [fLen_tup, h.nm]
theorem lot_ok' (h : BookOk N b) {k j : Nat} (hk : k < b.many) (hj : j < (litsOf b k).length) : ((litsOf b k).getD j ([], 0)).1.length = b.many ∧ ((litsOf b k).getD j ([], 0)).1.sum ≤ 2 ∧ Pb N ((litsOf b k).getD j ([], 0)).2 := by
  have q := h.lk _ (litsOf_ok h hk)
  have e : (litsOf b k).getD j ([], 0) = (litsOf b k)[j] := by rw [List.getD_eq_getElem?_getD, List.getElem?_eq_getElem hj]; rfl
  rw [e]
  exact q.each _ (List.getElem_mem hj)
noncomputable def laC : Cmd := cSet 5 (mOp fCat (mRead 5) (mLc [7] (.nm 7) (mIt lstOf (mCallL 3 2 f__law_rows (lLent 2 (lCons (mCall 1 f__law_things (mCons (mOp fIx (mOp fIx (mOp fIx (mOp fIx (mRead 0) (mC (.int 2))) (mName 4)) (mName 6)) (mC (.int 0))) mNil)) (lCons (mOp fSub (mName 3) (mC (.int 1))) lNil))))) (M.pure true) (mTup (mCons (mName 4) (mCons (mName 6) (mCons (mName 7) mNil))))))
theorem laC_ok (h : BookOk N b) {dks : List (List L2.Key × D)} {n k j : Nat} {s1 : Slot} {acc : List Tr} {Sx : S} (T : TabOk dks (tab b n) b.many n) (hn : n ≤ 3) (hk : k < b.many) (hj : j < (litsOf b k).length) (hl : acc.length ≤ 60000) :
    laC ⟨[.frz (bkD b), s1, .own (.dT dks), .frz (.int ((n + 1 : Nat) : Int)), .frz (.int (k : Int)), .frz (treesD acc), .frz (.int (j : Int)), .none], Sx⟩ =
      .nx ⟨[.frz (bkD b), s1, .own (.dT dks), .frz (.int ((n + 1 : Nat) : Int)), .frz (.int (k : Int)), .frz (treesD (acc ++ (rowsT (tab b n) (thingsL ((litsOf b k).getD j ([], 0)).1) n).map (.mk k j))), .frz (.int (j : Int)), .none], Sx⟩ := by
  obtain ⟨q1, q2, _⟩ := lot_ok' h hk hj
  have m3 := h.m3
  have tb := tab_tb h n (by omega)
  have rl := rows_le tb (ks := thingsL ((litsOf b k).getD j ([], 0)).1) (s := n) (lot_le h k j) (Nat.le_refl _) (by omega)
  have lr : f__law_rows [.dT dks, intsD (thingsL ((litsOf b k).getD j ([], 0)).1), .int (n : Int)] Sx = .ok (rowsD (rowsT (tab b n) (thingsL ((litsOf b k).getD j ([], 0)).1) n)) Sx :=
    lrows_ok T tb (by omega) 12 _ n Sx (by have := lot_le h k j; omega) (lot_le h k j) (Nat.le_refl _) fun k' hk' => by have := thingsL_mem hk'; omega
  have sb : fSub (.int ((n + 1 : Nat) : Int)) (.int 1) = some (.int (n : Int)) := by
    show some (D.int _) = _
    congr 2
    omega
  unfold laC
  refine set_nx (i := 5) (z := treesD (acc ++ (rowsT (tab b n) (thingsL ((litsOf b k).getD j ([], 0)).1) n).map (.mk k j))) (Γ' := [.frz (bkD b), s1, .own (.dT dks), .frz (.int ((n + 1 : Nat) : Int)), .frz (.int (k : Int)), .frz (treesD acc), .frz (.int (j : Int)), .none]) (op_e (r_frz (i := 5) rfl)
    (mLc_v (v := 7) (by simp) (rowsT (tab b n) (thingsL ((litsOf b k).getD j ([], 0)).1) n) rowD (fun r => trD (.mk k j r)) (it_of (f := lstOf) (callL3 (i := 2) rfl rfl (call1 (ix_e (ix_e (ix_e (ix_e (r_frz (i := 0) rfl) (mC_ap _ _) (bk2 b)) (n_frz (i := 4) rfl) (lit_at h hk)) (n_frz (i := 6) rfl) (row_at hj)) (mC_ap _ _) (ix0 _ _)) (lthings_ok Sx _ (by omega) (by omega))) (op_e (n_frz (i := 3) rfl) (mC_ap _ _) sb) lr (noD_rows _)) rfl) (by omega) fun r _ => ?_) ?_) (by simp)
  · have e : trD (.mk k j r) = .tup [.int (k : Int), .int (j : Int), rowD r] := by
      show D.tup [.int (k : Int), .int (j : Int), .tup (trDs r)] = _
      rw [trDs_eq]; rfl
    rw [e]
    exact tup3_e (S3 := Sx) (n_frz (i := 4) rfl) (n_frz (i := 6) rfl) (n_frz (i := 7) rfl)
  · unfold treesD
    rw [show (rowsT (tab b n) (thingsL ((litsOf b k).getD j ([], 0)).1) n).map (fun r => trD (.mk k j r)) = ((rowsT (tab b n) (thingsL ((litsOf b k).getD j ([], 0)).1) n).map (.mk k j)).map trD by rw [List.map_map]; rfl, fCat_ok (by rw [List.length_map, List.length_map, List.length_map]; omega), ← List.map_append]
noncomputable def laB : Cmd := (cSeq (cSet 5 (mLst mNil))
  (cSeq (cFor (.nm 6) [6] (mIt rng1 (mUn fLen (mOp fIx (mOp fIx (mRead 0) (mC (.int 2))) (mName 4)))) laC)
  (cDput 2 (mTup (mCons (mName 4) (mCons (mName 3) mNil))) (mName 5))))
noncomputable def laS : M Bool := mBool (mOp fGt (mUn fSum (mLc [4] (.nm 4) (mIt rng1 (mUn fLen (mOp fIx (mRead 0) (mC (.int 1))))) (M.pure true) (mUn fLen (mOp fDix (mRead 2) (mTup (mCons (mName 4) (mCons (mName 3) mNil))))))) (mC (.int 120)))
noncomputable def laA : Cmd := (cSeq (cFor (.nm 4) [5, 6] (mIt rng1 (mUn fLen (mOp fIx (mRead 0) (mC (.int 1))))) laB)
  (cIf laS (cRet (mTup (mCons (mName 2) (mCons (mName 3) mNil)))) cNil))
theorem c__law_laid_eq : c__law_laid = (cSeq (cOwn 2 (M.pure (.dT [])))
  (cSeq (cFor (.nm 3) [3, 5, 6] (mRng2 (mC (.int 1)) (mOp fAdd (mName 1) (mC (.int 1)))) laA) (cRet (mTup (mCons (mName 2) (mCons (mName 1) mNil)))))) := rfl
theorem dput_e {Γ Γ1 : List Slot} {Sx S1 : S} {i : Nat} {mk me : M D} {kvs : List (List L2.Key × D)} {ks : List D} {key : List L2.Key} {d : D} (h : me ⟨Γ, Sx⟩ = .ok d ⟨Γ1, S1⟩) (h1 : Γ1[i]? = some (.own (.dT kvs))) (hk : mk ⟨Γ1, S1⟩ = .ok (.tup ks) ⟨Γ1, S1⟩) (e : keyT ks = some key) (hl : kvs.length ≤ 1000) : cDput i mk me ⟨Γ, Sx⟩ = .nx ⟨Γ1.set i (.own (.dT (putD kvs key d))), S1⟩ := by
  have hl2 : kvs.length < PySem.sizeLine := by rw [PySem.sizeLine_eq]; omega
  unfold cDput
  rw [h, out_ok]
  simp only [h1, hk, out_ok]
  unfold dputW
  simp only [h1, e, hl2, if_true]
theorem tab_put {dks : List (List L2.Key × D)} {k f k' f' : Nat} {v : D} : valD (putD dks [.inl (k : Int), .inl (f : Int)] v) [.inl (k' : Int), .inl (f' : Int)] = if k' = k ∧ f' = f then some v else valD dks [.inl (k' : Int), .inl (f' : Int)] := by
  rw [valD_put]
  by_cases h : k' = k ∧ f' = f
  · obtain ⟨rfl, rfl⟩ := h
    rw [if_pos rfl, if_pos ⟨rfl, rfl⟩]
  · rw [if_neg h, if_neg]
    intro z
    injection z with z1 z2
    injection z2 with z2 _
    injection z1 with z1
    injection z2 with z2
    exact h ⟨by omega, by omega⟩
/-- the tables of all kinds up to k have size n + 1, too -/
structure Tb2 (b : Book) (dks : List (List L2.Key × D)) (n k : Nat) : Prop where
  old : TabOk dks (tab b 4) b.many n
  new : ∀ k', k' < k → valD dks [.inl (k' : Int), .inl ((n + 1 : Nat) : Int)] = some (treesD (tab b 4 k' (n + 1)))
  len : dks.length ≤ 10 * n + k
theorem laB_ok (h : BookOk N b) {dks : List (List L2.Key × D)} {n k : Nat} {s1 : Slot} {Sx : S} (T : Tb2 b dks n k) (hn : n ≤ 3) (hk : k < b.many) :
    ∃ dks' s5, laB ⟨[.frz (bkD b), s1, .own (.dT dks), .frz (.int ((n + 1 : Nat) : Int)), .frz (.int (k : Int)), .none, .none, .none], Sx⟩ = .nx ⟨[.frz (bkD b), s1, .own (.dT dks'), .frz (.int ((n + 1 : Nat) : Int)), .frz (.int (k : Int)), s5, .none, .none], Sx⟩ ∧ Tb2 b dks' n (k + 1) := by
  have m3 := h.m3
  have T' : TabOk dks (tab b n) b.many n := fun k f h1 h2 h3 => by rw [T.old k f h1 h2 h3, tab_le b h3 (by omega : n ≤ 4)]
  have tl := tab_tb h (n + 1) (by omega) k (n + 1) (by omega) (Nat.le_refl _)
  have te : tab b (n + 1) k (n + 1) = newT b (tab b n) k n := by
    show (if n + 1 = n + 1 then _ else _) = _
    rw [if_pos rfl]
  rw [te] at tl
  have tl2 : Lf (n + 1) ≤ 1250 := by unfold Lf; split <;> (try omega); split <;> (try omega); split <;> omega
  obtain ⟨Γ', Sz, e, rfl, rfl⟩ := cfor_inv (v := 6) (mask := [6]) (c := laC) (Γ := [.frz (bkD b), s1, .own (.dT dks), .frz (.int ((n + 1 : Nat) : Int)), .frz (.int (k : Int)), .frz (treesD []), .none, .none])
    (fun j Γ S' => Γ = [.frz (bkD b), s1, .own (.dT dks), .frz (.int ((n + 1 : Nat) : Int)), .frz (.int (k : Int)), .frz (treesD ((List.range j).flatMap fun j => (rowsT (tab b n) (thingsL ((litsOf b k).getD j ([], 0)).1) n).map (.mk k j))), .none, .none] ∧ S' = Sx) (fun j Γ Sx h => by rw [h.1]; simp)
    (it_of (Sx := Sx) (un_e (ix_e (ix_e (r_frz (i := 0) rfl) (mC_ap _ _) (bk2 b)) (n_frz (i := 4) rfl) (lit_at h hk)) (lit_len _)) (rng1_map (by have := lits_len h k; omega))) (fun j d Γ Sy hj ⟨h1, hS⟩ => by
      obtain ⟨jm, rfl⟩ := rg_get hj
      subst h1 hS
      have bd := flat_pre2 (fun j => (rowsT (tab b n) (thingsL ((litsOf b k).getD j ([], 0)).1) n).map (Tr.mk k j)) (show j ≤ (litsOf b k).length by omega)
      unfold newT at tl
      refine ⟨_, Sy, laC_ok h T' hn hk jm (by omega), ?_, rfl⟩
      rw [List.range_succ, List.flatMap_append, List.flatMap_cons, List.flatMap_nil, List.append_nil]
      rfl) ⟨rfl, rfl⟩
  rw [List.length_map, List.length_range] at e
  have e5 : treesD ((List.range (litsOf b k).length).flatMap fun j => (rowsT (tab b n) (thingsL ((litsOf b k).getD j ([], 0)).1) n).map (.mk k j)) = treesD (tab b 4 k (n + 1)) := by
    rw [tab_le b (Nat.le_refl (n + 1)) (by omega : n + 1 ≤ 4), te]; rfl
  rw [e5] at e
  have pl := putD_len dks [.inl (k : Int), .inl ((n + 1 : Nat) : Int)] (treesD (tab b 4 k (n + 1)))
  have tl := T.len
  refine ⟨putD dks [.inl (k : Int), .inl ((n + 1 : Nat) : Int)] (treesD (tab b 4 k (n + 1))), _, seq_e (set_nx nil_e (by simp)) (seq_e e (dput_e (n_frz (i := 5) rfl) rfl (tup2e (n_frz (i := 4) rfl) (n_frz (i := 3) rfl)) rfl (by omega))), fun k' f h1 h2 h3 => ?_, fun k' hk' => ?_, by omega⟩
  · rw [tab_put, if_neg (by omega)]
    exact T.old k' f h1 h2 h3
  · rw [tab_put]
    by_cases c : k' = k
    · subst c
      rw [if_pos ⟨rfl, rfl⟩]
    · rw [if_neg (fun z => c z.1)]
      exact T.new k' (by omega)
theorem laS_ok (h : BookOk N b) {dks : List (List L2.Key × D)} {n : Nat} {s1 s4 s5 s6 : Slot} {Sx : S} (T : Tb2 b dks n b.many) : ∃ c, laS ⟨[.frz (bkD b), s1, .own (.dT dks), .frz (.int ((n + 1 : Nat) : Int)), s4, s5, s6, .none], Sx⟩ = .ok c ⟨[.frz (bkD b), s1, .own (.dT dks), .frz (.int ((n + 1 : Nat) : Int)), s4, s5, s6, .none], Sx⟩ := by
  have m3 := h.m3
  have s : fSum (.lst ((List.range b.many).map fun k => .int ((tab b 4 k (n + 1)).length : Int))) = some (.int (((List.range b.many).map fun k => ((tab b 4 k (n + 1)).length : Int)).sum)) := by
    have := ints?_map ((List.range b.many).map fun k => ((tab b 4 k (n + 1)).length : Int))
    rw [List.map_map] at this
    show (ints? _).map _ = _
    rw [show ((List.range b.many).map fun k => D.int ((tab b 4 k (n + 1)).length : Int)) = (List.range b.many).map (D.int ∘ fun k => ((tab b 4 k (n + 1)).length : Int)) from rfl, this]
    rfl
  refine ⟨_, bool_e (op_e (un_e (mLc_v (v := 4) (by simp) (List.range b.many) (fun (k : Nat) => .int (k : Int)) (fun k => .int ((tab b 4 k (n + 1)).length : Int)) (it_of (un_e (ix_e (r_frz (i := 0) rfl) (mC_ap _ _) (bk1 b)) (names_len h)) (rng1_map (by omega))) (by rw [List.length_range]; omega) fun k hk => ?_) s) (mC_ap _ _) (fGt_int _ _))⟩
  have hk := List.mem_range.mp hk
  have dx : fDix (.dT dks) (.tup [.int (k : Int), .int ((n + 1 : Nat) : Int)]) = some (treesD (tab b 4 k (n + 1))) := by
    have e : atD (.dT dks) (.tup [.int (k : Int), .int ((n + 1 : Nat) : Int)]) = some (valD dks [.inl (k : Int), .inl ((n + 1 : Nat) : Int)]) := rfl
    unfold fDix
    rw [e, T.new k hk]
  refine un_e (op_e (r_own (i := 2) rfl) (tup2e (n_frz (i := 4) rfl) (n_frz (i := 3) rfl)) dx) ?_
  show some (D.int (((tab b 4 k (n + 1)).map trD).length : Nat)) = _
  rw [List.length_map]
theorem laid_ok (h : BookOk N b) (Sx : S) : ∃ (m : Nat) (dks : List (List L2.Key × D)), 1 ≤ m ∧ m ≤ 4 ∧ f__law_laid [bkD b, .int 4] Sx = .ok (.tup [.dT dks, .int (m : Int)]) Sx ∧ TabOk dks (tab b 4) b.many m := by
  have m3 := h.m3
  have q2 : fAdd (.int 4) (.int 1) = some (.int ((5 : Nat) : Int)) := rfl
  have lp := cfor_inv2 (v := 3) (mask := [3, 5, 6]) (c := laA) (mi := mRng2 (mC (.int 1)) (mOp fAdd (mName 1) (mC (.int 1)))) (Γ := [.frz (bkD b), .frz (.int 4), .own (.dT []), .none, .none, .none, .none, .none]) (Sx := Sx)
    (fun n Γ S' => ∃ dks s4, Γ = [.frz (bkD b), .frz (.int 4), .own (.dT dks), .none, s4, .none, .none, .none] ∧ S' = Sx ∧ TabOk dks (tab b 4) b.many n ∧ dks.length ≤ 10 * n)
    (fun x w => ∃ (m : Nat) (dks : List (List L2.Key × D)), 1 ≤ m ∧ m ≤ 4 ∧ x = .tup [.dT dks, .int (m : Int)] ∧ TabOk dks (tab b 4) b.many m ∧ w.S = Sx) (fun j Γ Sx h => by obtain ⟨_, _, rfl, _⟩ := h; simp)
    (rng2_e (p := 1) (q := 5) (Sx := Sx) (mC_ap _ _) (op_e (n_frz (i := 1) rfl) (mC_ap _ _) q2) (by decide) (by decide)) (fun n d Γ Sy hn hJ => by
      obtain ⟨hn, rfl⟩ := rg_get hn
      obtain ⟨dks, s4, rfl, rfl, T, tl⟩ := hJ
      obtain ⟨Γ2, S2, e2, dks2, s42, rfl, rfl, T2⟩ := cfor_inv (v := 4) (mask := [5, 6]) (c := laB) (Γ := [.frz (bkD b), .frz (.int 4), .own (.dT dks), .frz (.int ((1 + n : Nat) : Int)), s4, .none, .none, .none])
        (fun k Γ S' => ∃ dks s4, Γ = [.frz (bkD b), .frz (.int 4), .own (.dT dks), .frz (.int ((1 + n : Nat) : Int)), s4, .none, .none, .none] ∧ S' = Sy ∧ Tb2 b dks n k) (fun j Γ Sx h => by obtain ⟨_, _, rfl, _⟩ := h; simp)
        (it_of (Sx := Sy) (un_e (ix_e (r_frz (i := 0) rfl) (mC_ap _ _) (bk1 b)) (names_len h)) (rng1_map (by omega))) (fun k d Γ Sw hk hJ => by
          obtain ⟨hkm, rfl⟩ := rg_get hk
          obtain ⟨dks, s4, rfl, rfl, T⟩ := hJ
          obtain ⟨dks', s5, e3, T3⟩ := laB_ok h (s1 := .frz (.int 4)) (Sx := Sw) T (by omega) hkm
          rw [show n + 1 = 1 + n by omega] at e3
          exact ⟨_, Sw, e3, dks', _, rfl, rfl, T3⟩) ⟨dks, s4, rfl, rfl, T, fun _ z => by omega, by omega⟩
      rw [List.length_map, List.length_range] at T2
      obtain ⟨c, ec⟩ := laS_ok h (s1 := .frz (.int 4)) (s4 := s42) (s5 := .none) (s6 := .none) (Sx := S2) T2
      rw [show n + 1 = 1 + n by omega] at ec
      have T3 : TabOk dks2 (tab b 4) b.many (n + 1) := fun k f h1 h2 h3 => by
        by_cases e : f = n + 1
        · subst e; exact T2.new k h1
        · exact T2.old k f h1 h2 (by omega)
      cases c with
      | true => exact .inr ⟨_, _, seq_e e2 (if_yes ec (ret_e (tup2_e (S3 := S2) (n_own (i := 2) rfl) (n_frz (i := 3) rfl)))), 1 + n, dks2, by omega, by omega, rfl, by rw [show 1 + n = n + 1 by omega]; exact T3, rfl⟩
      | false => exact .inl ⟨_, S2, seq_e e2 (if_no ec), dks2, s42, rfl, rfl, T3, by have := T2.len; omega⟩) ⟨[], .none, rfl, rfl, fun _ _ _ _ _ => by omega, Nat.le_refl _⟩
  have e0 : cOwn 2 (M.pure (.dT [])) ⟨[.frz (bkD b), .frz (.int 4), .none, .none, .none, .none, .none, .none], Sx⟩ = .nx ⟨[.frz (bkD b), .frz (.int 4), .own (.dT []), .none, .none, .none, .none, .none], Sx⟩ := rfl
  rcases lp with ⟨Γ2, S2, e2, dks, s4, rfl, rfl, T, _⟩ | ⟨x, w, e2, m, dks, m1, m4, rfl, T, hw⟩
  · refine ⟨4, dks, by decide, by decide, ?_, T⟩
    unfold f__law_laid
    rw [c__law_laid_eq]
    exact run_rt (seq_e e0 (seq_e e2 (ret_e (tup2_e (S3 := S2) (n_own (i := 2) rfl) (n_frz (i := 1) rfl)))))
  · refine ⟨m, dks, m1, m4, ?_, T⟩
    unfold f__law_laid
    rw [c__law_laid_eq]
    obtain ⟨wg, ws⟩ := w
    obtain rfl : ws = Sx := hw
    exact run_rt (seq_e e0 (seq_rt e2))
end
end Law


set_option Elab.async false
set_option linter.all false
set_option maxRecDepth 100000
set_option maxHeartbeats 1000000
set_option exponentiation.threshold 10000
/-! T5: heights and chances of trees by the law's own hand. -/
namespace Law
open FP PySem
theorem rowsT_mem {tb : Nat → Nat → List Tr} : ∀ {ks : List Nat} {s : Nat} {r : List Tr}, r ∈ rowsT tb ks s → ∀ t ∈ r, ∃ k ∈ ks, ∃ f, 1 ≤ f ∧ f ≤ s ∧ t ∈ tb k f
  | [], s, r, h, t, ht => by
    unfold rowsT at h
    split at h
    · rw [List.mem_singleton.mp h] at ht; cases ht
    · cases h
  | k :: ks, s, r, h, t, ht => by
    unfold rowsT at h
    obtain ⟨f, hf, h⟩ := List.mem_flatMap.mp h
    obtain ⟨u, hu, h⟩ := List.mem_flatMap.mp h
    obtain ⟨q, hq, rfl⟩ := List.mem_map.mp h
    have hf := List.mem_range.mp hf
    rcases List.mem_cons.mp ht with rfl | ht
    · exact ⟨k, List.mem_cons_self, f + 1, by omega, by omega, hu⟩
    · obtain ⟨k', hk', f', h1, h2, h3⟩ := rowsT_mem hq t ht
      exact ⟨k', List.mem_cons_of_mem _ hk', f', h1, by omega, h3⟩
def okT (b : Book) : Nat → Tr → Prop
  | 0, _ => False
  | d + 1, .mk k j c => k < b.many ∧ j < (litsOf b k).length ∧ c.length ≤ 2 ∧ ∀ t ∈ c, okT b d t
theorem okT_mono {b : Book} : ∀ {d : Nat} {t : Tr}, okT b d t → okT b (d + 1) t
  | d + 1, .mk k j c, ⟨h1, h2, h3, h4⟩ => ⟨h1, h2, h3, fun t ht => okT_mono (h4 t ht)⟩
theorem okT_le {b : Book} {d e : Nat} {t : Tr} (h : okT b d t) (l : d ≤ e) : okT b e t := by
  induction l with
  | refl => exact h
  | step _ ih => exact okT_mono ih
section
variable {N : Nat} {b : Book}
theorem tab_ok (h : BookOk N b) : ∀ (s n k : Nat) (t : Tr), k < b.many → 1 ≤ s → s ≤ n → t ∈ tab b n k s → okT b s t := by
  intro s
  induction s using Nat.strongRecOn with
  | _ s ih =>
    intro n k t hk h1 hs ht
    rw [tab_new b h1 hs] at ht
    unfold newT at ht
    obtain ⟨j, hj, ht⟩ := List.mem_flatMap.mp ht
    obtain ⟨r, hr, rfl⟩ := List.mem_map.mp ht
    have hj := List.mem_range.mp hj
    obtain ⟨m, rfl⟩ : ∃ m, s = m + 1 := ⟨s - 1, by omega⟩
    refine ⟨hk, hj, by rw [rowsT_len _ _ _ r hr]; exact lot_le h k j, fun t ht => ?_⟩
    obtain ⟨k', hk', f, f1, f2, ht⟩ := rowsT_mem hr t ht
    have kl := thingsL_mem hk'
    rw [(lot_ok' h hk hj).1] at kl
    exact okT_le (ih f (by omega) n k' t kl f1 (by omega) ht) (by omega)
theorem hT_le : ∀ {d : Nat} {t : Tr}, okT b d t → hT t ≤ d
  | d + 1, .mk k j c, ⟨_, _, _, h⟩ => by
    have : hTs c ≤ d := hTs_le.mpr fun t ht => hT_le (h t ht)
    unfold hT
    omega
theorem maxL_hT : ∀ (c : List Tr) (n : Nat), maxL (n : Int) (c.map fun t => (hT t : Int)) = ((max n (hTs c) : Nat) : Int)
  | [], n => by show (n : Int) = ((max n 0 : Nat) : Int); rw [Nat.max_eq_left (Nat.zero_le n)]
  | t :: c, n => by
    show maxL (if (n : Int) < (hT t : Int) then (hT t : Int) else (n : Int)) (c.map fun t => (hT t : Int)) = ((max n (max (hT t) (hTs c)) : Nat) : Int)
    have e : (if (n : Int) < (hT t : Int) then (hT t : Int) else (n : Int)) = ((max n (hT t) : Nat) : Int) := by
      split <;> omega
    rw [e, maxL_hT c, Nat.max_assoc]
theorem fMax_hT (c : List Tr) : fMax (.lst (.int 0 :: c.map fun t => .int (hT t : Int))) = some (.int (hTs c : Int)) := by
  have := ints?_map (0 :: c.map fun t => (hT t : Int))
  rw [List.map_cons, List.map_map] at this
  show (ints? _).bind maxI = _
  rw [show (D.int 0 :: c.map fun t => D.int (hT t : Int)) = D.int 0 :: c.map (D.int ∘ fun t => (hT t : Int)) from rfl, this]
  show some (D.int (maxL 0 _)) = _
  have := maxL_hT c 0
  rw [show ((0 : Nat) : Int) = 0 from rfl] at this
  rw [this, Nat.max_eq_right (Nat.zero_le _)]
theorem tr_ix0 (k j : Nat) (c : List Tr) : fIx (trD (.mk k j c)) (.int 0) = some (.int (k : Int)) := ix0 _ _
theorem tr_ix1 (k j : Nat) (c : List Tr) : fIx (trD (.mk k j c)) (.int 1) = some (.int (j : Int)) := ix1 _ _ _
theorem tr_ix2 (k j : Nat) (c : List Tr) : fIx (trD (.mk k j c)) (.int 2) = some (.tup (c.map trD)) := by
  rw [← trDs_eq]; exact ix2 _ _ _ _
theorem lheight_ok' : ∀ (m : Nat) (t : Tr) (Sx : S), okT b m t → g__law_height m [trD t] Sx = .ok (.int (hT t : Int)) Sx
  | m + 1, .mk k j c, Sx, ⟨_, _, h3, h⟩ => by
    show runF 2 (c__law_height (g__law_height m)) _ _ = _
    unfold c__law_height
    have ad : fAdd (.int 1) (.int (hTs c : Int)) = some (.int ((hT (.mk k j c) : Nat) : Int)) := by
      show some (D.int (1 + (hTs c : Int))) = some (D.int ((1 + hTs c : Nat) : Int))
      rw [Int.natCast_add]; rfl
    exact run_rt (ret_e (op_e (mC_ap _ _) (un_e (op_e (lst1_e (mC_ap _ _)) (mLc_v (Γ := [.frz (trD (.mk k j c)), .none]) (v := 1) (by simp) c trD (fun t => .int (hT t : Int)) (it_of (f := tupOf) (ix_e (r_frz (i := 0) rfl) (mC_ap _ _) (tr_ix2 k j c)) rfl) (by omega) fun t ht => call1 (n_frz (i := 1) rfl) (lheight_ok' m t Sx (h t ht))) (fCat_cons _ _ (by rw [List.length_map]; omega))) (fMax_hT c)) ad))
theorem okT_12 {d : Nat} {t : Tr} (h : okT b d t) (hd : d ≤ 12) : okT b 12 t := okT_le h hd
theorem lheight_ok {d : Nat} {t : Tr} (h : okT b d t) (hd : d ≤ 12) (Sx : S) : f__law_height [trD t] Sx = .ok (.int (hT t : Int)) Sx := lheight_ok' 12 t Sx (okT_12 h hd)
/-! chances -/
theorem ch_pb (h : BookOk N b) : ∀ {d : Nat} {t : Tr}, okT b d t → Pb (N ^ (2 ^ d - 1)) (chT b t)
  | d + 1, .mk k j c, ⟨h1, h2, h3, h4⟩ => by
    have p0 := (lot_ok' h h1 h2).2.2
    have key : ∀ c : List Tr, (∀ t ∈ c, okT b d t) → Pb (N ^ ((2 ^ d - 1) * c.length)) (chTs b c) := by
      intro c
      induction c with
      | nil => intro _; exact Pb.one _
      | cons t r ih =>
        intro hc
        have := (ch_pb h (hc t List.mem_cons_self)).mul (ih fun u hu => hc u (List.mem_cons_of_mem _ hu))
        rw [← Nat.pow_add] at this
        rw [List.length_cons, Nat.mul_succ, Nat.add_comm]
        exact this
    have := p0.mul (key c h4)
    refine this.dvd ?_
    rw [show N * N ^ ((2 ^ d - 1) * c.length) = N ^ (1 + (2 ^ d - 1) * c.length) by rw [Nat.pow_add, Nat.pow_one]]
    refine Nat.pow_dvd_pow N ?_
    have p := Nat.pow_pos (n := d) (show 0 < 2 by decide)
    have : (2 ^ d - 1) * c.length ≤ (2 ^ d - 1) * 2 := Nat.mul_le_mul_left _ h3
    rw [Nat.pow_succ]
    omega
theorem N_lt (h : BookOk N b) {e : Nat} (he : e ≤ 90) : N ^ e < 2 ^ 1310 := by
  have h1 : N ^ e ≤ (2 ^ 14) ^ e := Nat.pow_le_pow_left h.N1 e
  rw [← Nat.pow_mul] at h1
  exact Nat.lt_of_le_of_lt h1 (Nat.pow_lt_pow_right (by decide) (by omega))
theorem ch_sm (h : BookOk N b) {d : Nat} {t : Tr} (ht : okT b d t) (hd : d ≤ 6) : Sm (chT b t) :=
  (ch_pb h ht).sm (Nat.pow_pos h.N0) (Nat.lt_trans (N_lt h (by have : 2 ^ d ≤ 2 ^ 6 := Nat.pow_le_pow_right (by decide) hd; omega)) (Nat.pow_lt_pow_right (by decide) (by decide)))
noncomputable def lcB (f : Fnc) : Cmd := cSet 2 (mCall 2 f__law_mul (mCons (mName 2) (mCons (mCall 2 f (mCons (mName 0) (mCons (mName 3) mNil))) mNil)))
theorem lc_loop {f : Fnc} {bk t0 : D} (Sx : S) : ∀ (c : List Tr) (a : Rat), (∀ t ∈ c, f [bk, trD t] Sx = .ok (fr (chT b t)) Sx) → Sm a → prodOk a (c.map (chT b)) →
    forR (.nm 3) [3] (lcB f) (c.map trD) ⟨[.frz bk, .frz t0, .frz (fr a), .none], Sx⟩ = .nx ⟨[.frz bk, .frz t0, .frz (fr (a * chTs b c)), .none], Sx⟩
  | [], a, _, _, _ => by
    show Out.nx _ = _
    rw [show chTs b [] = 1 from rfl, Rat.mul_one]
  | t :: c, a, h, ha, ⟨h1, h2, h3⟩ => by
    have e : lcB f ⟨[.frz bk, .frz t0, .frz (fr a), .frz (trD t)], Sx⟩ = .nx ⟨[.frz bk, .frz t0, .frz (fr (a * chT b t)), .frz (trD t)], Sx⟩ :=
      set_nx (call2 (n_frz (i := 2) rfl) (call2 (n_frz (i := 0) rfl) (n_frz (i := 3) rfl) (h t List.mem_cons_self)) (lmul_ok Sx ha h1)) (by simp)
    rw [List.map_cons, forR]
    have e0 : asgT (.nm 3) (trD t) [.frz bk, .frz t0, .frz (fr a), .none] = some [.frz bk, .frz t0, .frz (fr a), .frz (trD t)] := rfl
    simp only [e0, e]
    have := lc_loop (t0 := t0) Sx c (a * chT b t) (fun u hu => h u (List.mem_cons_of_mem _ hu)) h2 h3
    show forR (.nm 3) [3] (lcB f) (c.map trD) ⟨[.frz bk, .frz t0, .frz (fr (a * chT b t)), .none], Sx⟩ = _
    rw [this, show chTs b (t :: c) = chT b t * chTs b c from rfl, Rat.mul_assoc]
theorem lchance_ok' (h : BookOk N b) : ∀ (m : Nat) (t : Tr) (Sx : S) (d : Nat), okT b d t → d ≤ m → d ≤ 5 → g__law_chance m [bkD b, trD t] Sx = .ok (fr (chT b t)) Sx
  | 0, t, Sx, d, ht, hm, _ => by
    obtain rfl : d = 0 := by omega
    exact ht.elim
  | m + 1, .mk k j c, Sx, d + 1, ⟨h1, h2, h3, h4⟩, hm, hd => by
    show runF 4 (c__law_chance (g__law_chance m)) _ _ = _
    have p0 := (lot_ok' h h1 h2).2.2
    have hN : N < 2 ^ 1320 := Nat.lt_of_le_of_lt h.N1 (Nat.pow_lt_pow_right (by decide) (by decide))
    have pbs : ∀ c : List Tr, (∀ t ∈ c, okT b d t) → Pbs (c.map fun _ => N ^ (2 ^ d - 1)) (c.map (chT b)) ∧ mprod (c.map fun _ => N ^ (2 ^ d - 1)) = N ^ ((2 ^ d - 1) * c.length) := by
      intro c
      induction c with
      | nil => intro _; exact ⟨.nil, rfl⟩
      | cons t r ih =>
        intro hc
        obtain ⟨i1, i2⟩ := ih fun u hu => hc u (List.mem_cons_of_mem _ hu)
        refine ⟨.cons (ch_pb h (hc t List.mem_cons_self)) (Nat.pow_pos h.N0) i1, ?_⟩
        show N ^ (2 ^ d - 1) * mprod _ = _
        rw [i2, ← Nat.pow_add, List.length_cons, Nat.mul_succ, Nat.add_comm]
    obtain ⟨q1, q2⟩ := pbs c h4
    have pk : prodOk (chOf b k j) (c.map (chT b)) := prodOk_of q1 p0 h.N0 (by
      rw [q2, show N * N ^ ((2 ^ d - 1) * c.length) = N ^ (1 + (2 ^ d - 1) * c.length) by rw [Nat.pow_add, Nat.pow_one]]
      refine Nat.lt_trans (N_lt h (e := 1 + (2 ^ d - 1) * c.length) ?_) (Nat.pow_lt_pow_right (by decide) (by decide))
      have : 2 ^ d ≤ 2 ^ 4 := Nat.pow_le_pow_right (by decide) (by omega)
      have : (2 ^ d - 1) * c.length ≤ 15 * 2 := Nat.mul_le_mul (by omega) h3
      omega)
    have lp := lc_loop (b := b) (f := g__law_chance m) (bk := bkD b) (t0 := trD (.mk k j c)) Sx c (chOf b k j) (fun t ht => lchance_ok' h m t Sx d (h4 t ht) (by omega) (by omega)) (p0.sm h.N0 hN) pk
    unfold c__law_chance
    exact run_rt (seq_e (set_nx (ix_e (ix_e (ix_e (ix_e (r_frz (i := 0) rfl) (mC_ap _ _) (bk2 b)) (ix_e (r_frz (i := 1) rfl) (mC_ap _ _) (tr_ix0 k j c)) (lit_at h h1)) (ix_e (r_frz (i := 1) rfl) (mC_ap _ _) (tr_ix1 k j c)) (row_at h2)) (mC_ap _ _) (ix1 _ _ _)) (by simp))
      (seq_e (for_e (it_of (f := tupOf) (ix_e (r_frz (i := 1) rfl) (mC_ap _ _) (tr_ix2 k j c)) rfl) lp) (ret_e (n_frz (i := 2) rfl))))
theorem lchance_ok (h : BookOk N b) {d : Nat} {t : Tr} (ht : okT b d t) (hd : d ≤ 5) (Sx : S) : f__law_chance [bkD b, trD t] Sx = .ok (fr (chT b t)) Sx := lchance_ok' h 12 t Sx d ht (by omega) hd
end
end Law


set_option Elab.async false
set_option linter.all false
set_option maxRecDepth 100000
set_option maxHeartbeats 1000000
set_option exponentiation.threshold 10000
/-! T6: tables by sizes and heights: the loops, in both modes. -/
namespace Law
open FP PySem
def tD (V : Nat → Nat → D) (many size : Nat) : D := .lst ((List.range many).map fun k => .lst ((List.range (size + 1)).map fun s => V k s))
theorem tD_at (V : Nat → Nat → D) {many size k : Nat} (hk : k < many) : fIx (tD V many size) (.int (k : Int)) = some (.lst ((List.range (size + 1)).map fun s => V k s)) := rg_at _ hk
theorem tD_at2 (V : Nat → Nat → D) {size s k : Nat} (hs : s ≤ size) : fIx (.lst ((List.range (size + 1)).map fun s => V k s)) (.int (s : Int)) = some (V k s) := rg_at _ (by omega)
def d0 (w : Bool) : D := if w = true then .tup [.int 0, .int 1] else .int 0
structure Mode (b : Book) (w : Bool) (size H : Nat) (V : Nat → Nat → Nat → D) (rv : Nat → Nat → List Nat → D) : Prop where
  z : ∀ k s, V 0 k s = d0 w
  z0 : ∀ h k, V h k 0 = d0 w
  rows : ∀ h k x s Sx, h < H → k < b.many → x ∈ litsOf b k → s < size → f_rows_of [tD (V h) b.many size, intsD (thingsL x.1), .int (s : Int), .bl w] Sx = .ok (rv h s x.1) Sx
  finT : w = true → ∀ h k s Sx, h < H → k < b.many → s < size → ∃ tm : List Nat × Rat → D, (∀ x ∈ litsOf b k, f_times [fr x.2, rv h s x.1] Sx = .ok (tm x) Sx) ∧ f_total [.lst ((litsOf b k).map tm)] Sx = .ok (V (h + 1) k (s + 1)) Sx
  finF : w = false → ∀ h k s, h < H → k < b.many → s < size → fSum (.lst ((litsOf b k).map fun x => rv h s x.1)) = some (V (h + 1) k (s + 1))
noncomputable def loS : Cmd := (cSeq (cFrz 12 (cOwn 12 (mLc [13, 14] (.tp [13, 14]) (mIt tupOf (mName 9)) (M.pure true) (mTup (mCons (mName 14) (mCons (mCall 4 f_rows_of (mCons (mName 5) (mCons (mCall 1 f_things (mCons (mName 13) mNil)) (mCons (mOp fSub (mName 11) (mC (.int 1))) (mCons (mName 3) mNil))))) mNil))))))
  (cIf (mTru (mRead 3)) (cApp 10 (mCall 1 f_total (mCons (mLc [14, 15] (.tp [14, 15]) (mIt lstOf (mRead 12)) (M.pure true) (mCall 2 f_times (mCons (mName 14) (mCons (mName 15) mNil)))) mNil))) (cApp 10 (mUn fSum (mLc [14, 15] (.tp [14, 15]) (mIt lstOf (mRead 12)) (M.pure true) (mName 15))))))
noncomputable def loK : Cmd := (cSeq (cOwn 10 (mLst (mCons (mName 4) mNil)))
  (cSeq (cFor (.nm 11) [11, 12] (mRng2 (mC (.int 1)) (mOp fAdd (mName 1) (mC (.int 1)))) loS) (cApp 8 (mName 10))))
noncomputable def loH : Cmd := (cSeq (cOwn 8 (mLst mNil))
  (cSeq (cFor (.nm 9) [9, 10, 11, 12] (mIt tupOf (mOp fIx (mRead 0) (mC (.int 2)))) loK) (cSet 5 (mName 8))))
theorem c_low_table_eq : c_low_table = (cSeq (cSet 4 (mIf (mTru (mRead 3)) (mTup (mCons (mC (.int 0)) (mCons (mC (.int 1)) mNil))) (mC (.int 0))))
  (cSeq (cSet 5 (mLc [6] (.nm 6) (mIt tupOf (mOp fIx (mRead 0) (mC (.int 1)))) (M.pure true) (mOp fRep (mLst (mCons (mName 4) mNil)) (mOp fAdd (mName 1) (mC (.int 1))))))
  (cSeq (cFor (.nm 7) [7, 8, 9, 10, 11, 12] (mIt rng1 (mName 2)) loH) (cRet (mName 5))))) := rfl
section
variable {N : Nat} {b : Book} {w : Bool} {size H : Nat} {V : Nat → Nat → Nat → D} {rv : Nat → Nat → List Nat → D}
theorem loS_ok (h : BookOk N b) (md : Mode b w size H V rv) {hh k s : Nat} (h1 : hh < H) (hk : k < b.many) (hs : s < size) (hz : size ≤ 100) {s0 s1 s2 s4 s6 s7 s8 : Slot} {Sx : S} :
    ∃ s12, loS ⟨[s0, s1, s2, .frz (.bl w), s4, .frz (tD (V hh) b.many size), s6, s7, s8, .frz (litD (litsOf b k)), .own (.lst ((List.range (s + 1)).map (V (hh + 1) k))), .frz (.int ((1 + s : Nat) : Int)), .none, .none, .none, .none], Sx⟩ =
      .nx ⟨[s0, s1, s2, .frz (.bl w), s4, .frz (tD (V hh) b.many size), s6, s7, s8, .frz (litD (litsOf b k)), .own (.lst ((List.range (s + 1 + 1)).map (V (hh + 1) k))), .frz (.int ((1 + s : Nat) : Int)), s12, .none, .none, .none], Sx⟩ := by
  have m3 := h.m3
  have l5 := lits_len h k
  have sb : fSub (.int ((1 + s : Nat) : Int)) (.int 1) = some (.int (s : Int)) := by
    show some (D.int _) = _
    congr 2
    omega
  have q := h.lk _ (litsOf_ok h hk)
  have c1 := frzown (i := 12) (Γ := [s0, s1, s2, .frz (.bl w), s4, .frz (tD (V hh) b.many size), s6, s7, s8, .frz (litD (litsOf b k)), .own (.lst ((List.range (s + 1)).map (V (hh + 1) k))), .frz (.int ((1 + s : Nat) : Int)), .none, .none, .none, .none]) (Sx := Sx)
    (mLc_p (i := 13) (j := 14) (me := mTup (mCons (mName 14) (mCons (mCall 4 f_rows_of (mCons (mName 5) (mCons (mCall 1 f_things (mCons (mName 13) mNil)) (mCons (mOp fSub (mName 11) (mC (.int 1))) (mCons (mName 3) mNil))))) mNil))) (litsOf b k) (fun x => lotD x.1) (fun x => fr x.2) (fun x => .tup [fr x.2, rv hh s x.1]) (by decide) (by simp) (by simp) (it_of (f := tupOf) (n_frz (i := 9) rfl) rfl) (by omega) fun x hx => by
      have qx := q.each x hx
      exact tup2e (n_frz (i := 14) rfl) (call4 (n_frz (i := 5) rfl) (call1 (n_frz (i := 13) rfl) (things_ok Sx x.1 (by omega) (by omega))) (op_e (n_frz (i := 11) rfl) (mC_ap _ _) sb) (n_frz (i := 3) rfl) (md.rows hh k x s Sx h1 hk hx hs))) (by simp)
  have nx : ((List.range (s + 1)).map (V (hh + 1) k)) ++ [V (hh + 1) k (s + 1)] = (List.range (s + 1 + 1)).map (V (hh + 1) k) := by
    rw [List.range_succ (n := s + 1), List.map_append]; rfl
  have ll : ((List.range (s + 1)).map (V (hh + 1) k)).length ≤ 1000 := by rw [List.length_map, List.length_range]; omega
  cases hw : w with
  | true =>
    subst hw
    obtain ⟨tm, t1, t2⟩ := md.finT rfl hh k s Sx h1 hk hs
    refine ⟨.frz (.lst ((litsOf b k).map fun x => .tup [fr x.2, rv hh s x.1])), seq_e c1 (if_yes (tru_e (r_frz (i := 3) rfl)) ?_)⟩
    have := app_e (i := 10) (Γ := [s0, s1, s2, .frz (.bl true), s4, .frz (tD (V hh) b.many size), s6, s7, s8, .frz (litD (litsOf b k)), .own (.lst ((List.range (s + 1)).map (V (hh + 1) k))), .frz (.int ((1 + s : Nat) : Int)), .frz (.lst ((litsOf b k).map fun x => .tup [fr x.2, rv hh s x.1])), .none, .none, .none]) (Sx := Sx) rfl
      (call1 (mLc_p (i := 14) (j := 15) (me := mCall 2 f_times (mCons (mName 14) (mCons (mName 15) mNil))) (litsOf b k) (fun x => fr x.2) (fun x => rv hh s x.1) tm (by decide) (by simp) (by simp) (it_of (f := lstOf) (r_frz (i := 12) rfl) rfl) (by omega) fun x hx => call2 (n_frz (i := 14) rfl) (n_frz (i := 15) rfl) (t1 x hx)) t2) rfl ll
    rw [nx] at this
    exact this
  | false =>
    subst hw
    have t2 := md.finF rfl hh k s h1 hk hs
    refine ⟨.frz (.lst ((litsOf b k).map fun x => .tup [fr x.2, rv hh s x.1])), seq_e c1 ?_⟩
    rw [a_if, tru_e (r_frz (i := 3) rfl), out_ok, if_neg (by decide)]
    have := app_e (i := 10) (Γ := [s0, s1, s2, .frz (.bl false), s4, .frz (tD (V hh) b.many size), s6, s7, s8, .frz (litD (litsOf b k)), .own (.lst ((List.range (s + 1)).map (V (hh + 1) k))), .frz (.int ((1 + s : Nat) : Int)), .frz (.lst ((litsOf b k).map fun x => .tup [fr x.2, rv hh s x.1])), .none, .none, .none]) (Sx := Sx) rfl
      (un_e (mLc_p (i := 14) (j := 15) (me := mName 15) (litsOf b k) (fun x => fr x.2) (fun x => rv hh s x.1) (fun x => rv hh s x.1) (by decide) (by simp) (by simp) (it_of (f := lstOf) (r_frz (i := 12) rfl) rfl) (by omega) fun x hx => n_frz (i := 15) rfl) t2) rfl ll
    rw [nx] at this
    exact this
theorem loK_ok (h : BookOk N b) (md : Mode b w size H V rv) {hh k : Nat} (h1 : hh < H) (hk : k < b.many) (hz : size ≤ 100) {s0 s2 s6 s7 : Slot} {us : List D} (hu : us.length ≤ 100) {Sx : S} :
    ∃ s10 s12, loK ⟨[s0, .frz (.int (size : Int)), s2, .frz (.bl w), .frz (d0 w), .frz (tD (V hh) b.many size), s6, s7, .own (.lst us), .frz (litD (litsOf b k)), .none, .none, .none, .none, .none, .none], Sx⟩ =
      .nx ⟨[s0, .frz (.int (size : Int)), s2, .frz (.bl w), .frz (d0 w), .frz (tD (V hh) b.many size), s6, s7, .own (.lst (us ++ [.lst ((List.range (size + 1)).map (V (hh + 1) k))])), .frz (litD (litsOf b k)), s10, .none, s12, .none, .none, .none], Sx⟩ := by
  have ad : fAdd (.int (size : Int)) (.int 1) = some (.int ((size + 1 : Nat) : Int)) := fAdd_int _ _
  obtain ⟨Γ', Sz, e, rfl, rfl⟩ := cfor_inv (v := 11) (mask := [11, 12]) (c := loS) (Γ := [s0, .frz (.int (size : Int)), s2, .frz (.bl w), .frz (d0 w), .frz (tD (V hh) b.many size), s6, s7, .own (.lst us), .frz (litD (litsOf b k)), .own (.lst [d0 w]), .none, .none, .none, .none, .none])
    (fun i Γ S' => Γ = [s0, .frz (.int (size : Int)), s2, .frz (.bl w), .frz (d0 w), .frz (tD (V hh) b.many size), s6, s7, .own (.lst us), .frz (litD (litsOf b k)), .own (.lst ((List.range (i + 1)).map (V (hh + 1) k))), .none, .none, .none, .none, .none] ∧ S' = Sx) (fun j Γ Sx h => by rw [h.1]; simp)
    (rng2_e (p := 1) (q := size + 1) (Sx := Sx) (mC_ap _ _) (op_e (n_frz (i := 1) rfl) (mC_ap _ _) ad) (by decide) (by omega)) (fun i d Γ Sy hi ⟨g1, gS⟩ => by
      obtain ⟨im, rfl⟩ := rg_get hi
      subst g1 gS
      obtain ⟨s12, e⟩ := loS_ok h md h1 hk (s := i) (by omega) hz (s0 := s0) (s1 := .frz (.int (size : Int))) (s2 := s2) (s4 := .frz (d0 w)) (s6 := s6) (s7 := s7) (s8 := .own (.lst us)) (Sx := Sy)
      exact ⟨_, Sy, e, rfl, rfl⟩) ⟨by rw [show (List.range (0 + 1)).map (V (hh + 1) k) = [V (hh + 1) k 0] from rfl, md.z0], rfl⟩
  rw [List.length_map, List.length_range, show size + 1 - 1 = size by omega] at e
  refine ⟨.frz (.lst ((List.range (size + 1)).map (V (hh + 1) k))), .none, seq_e (own_nx (lst1_e (n_frz (i := 4) rfl)) (by simp)) (seq_e e ?_)⟩
  exact app_e (i := 8) rfl (n_own (i := 10) rfl) rfl (by omega)
theorem loH_ok (h : BookOk N b) (md : Mode b w size H V rv) {hh : Nat} (h1 : hh < H) (hz : size ≤ 100) {s2 s7 : Slot} {Sx : S} :
    ∃ s8 s10 s12, loH ⟨[.frz (bkD b), .frz (.int (size : Int)), s2, .frz (.bl w), .frz (d0 w), .frz (tD (V hh) b.many size), .none, s7, .none, .none, .none, .none, .none, .none, .none, .none], Sx⟩ =
      .nx ⟨[.frz (bkD b), .frz (.int (size : Int)), s2, .frz (.bl w), .frz (d0 w), .frz (tD (V (hh + 1)) b.many size), .none, s7, s8, .none, s10, .none, s12, .none, .none, .none], Sx⟩ := by
  have m3 := h.m3
  have lt : b.lits.map litD = (List.range b.many).map fun k => litD (litsOf b k) := by
    apply List.ext_getElem?
    intro j
    rw [List.getElem?_map, List.getElem?_map]
    by_cases hj : j < b.many
    · rw [List.getElem?_range hj, List.getElem?_eq_getElem (by rw [h.ll]; exact hj)]
      unfold litsOf
      show some _ = some (litD (b.lits.getD j []))
      rw [List.getD_eq_getElem?_getD, List.getElem?_eq_getElem (by rw [h.ll]; exact hj)]; rfl
    · rw [List.getElem?_eq_none (by rw [h.ll]; omega), List.getElem?_eq_none (by rw [List.length_range]; omega)]; rfl
  have hi := it_of (f := tupOf) (ds := (List.range b.many).map fun k => litD (litsOf b k)) (ix_e (Γ := [.frz (bkD b), .frz (.int (size : Int)), s2, .frz (.bl w), .frz (d0 w), .frz (tD (V hh) b.many size), .none, s7, .own (.lst []), .none, .none, .none, .none, .none, .none, .none]) (Sx := Sx) (r_frz (i := 0) rfl) (mC_ap _ _) (bk2 b)) (by rw [lt]; rfl)
  obtain ⟨Γ', Sz, e, rfl, rfl⟩ := cfor_inv (v := 9) (mask := [9, 10, 11, 12]) (c := loK)
    (fun k Γ S' => Γ = [.frz (bkD b), .frz (.int (size : Int)), s2, .frz (.bl w), .frz (d0 w), .frz (tD (V hh) b.many size), .none, s7, .own (.lst ((List.range k).map fun k => .lst ((List.range (size + 1)).map (V (hh + 1) k)))), .none, .none, .none, .none, .none, .none, .none] ∧ S' = Sx) (fun j Γ Sx h => by rw [h.1]; simp)
    hi (fun k d Γ Sy hk ⟨g1, gS⟩ => by
      obtain ⟨km, rfl⟩ := rg_get hk
      subst g1 gS
      obtain ⟨s10, s12, e⟩ := loK_ok h md h1 km hz (s0 := .frz (bkD b)) (s2 := s2) (s6 := .none) (s7 := s7) (us := (List.range k).map fun k => .lst ((List.range (size + 1)).map (V (hh + 1) k))) (by rw [List.length_map, List.length_range]; omega) (Sx := Sy)
      refine ⟨_, Sy, e, ?_, rfl⟩
      rw [List.range_succ (n := k), List.map_append]; rfl) ⟨rfl, rfl⟩
  rw [List.length_map, List.length_range] at e
  exact ⟨.frz (.lst ((List.range b.many).map fun k => .lst ((List.range (size + 1)).map (V (hh + 1) k)))), .none, .none, seq_e (own_nx nil_e (by simp)) (seq_e e (set_nx (n_own (i := 8) rfl) (by simp)))⟩
theorem low_ok (h : BookOk N b) (md : Mode b w size H V rv) (hz : size ≤ 100) (hH : H ≤ 100) (Sx : S) : f_low_table [bkD b, .int (size : Int), .int (H : Int), .bl w] Sx = .ok (tD (V H) b.many size) Sx := by
  have m3 := h.m3
  have ad : fAdd (.int (size : Int)) (.int 1) = some (.int ((size + 1 : Nat) : Int)) := fAdd_int _ _
  have c4 : cSet 4 (mIf (mTru (mRead 3)) (mTup (mCons (mC (.int 0)) (mCons (mC (.int 1)) mNil))) (mC (.int 0))) ⟨[.frz (bkD b), .frz (.int (size : Int)), .frz (.int (H : Int)), .frz (.bl w), .none, .none, .none, .none, .none, .none, .none, .none, .none, .none, .none, .none], Sx⟩ = .nx ⟨[.frz (bkD b), .frz (.int (size : Int)), .frz (.int (H : Int)), .frz (.bl w), .frz (d0 w), .none, .none, .none, .none, .none, .none, .none, .none, .none, .none, .none], Sx⟩ := by
    cases w with
    | true => exact set_nx (mif_t (tru_e (r_frz (i := 3) rfl)) (tup2e (mC_ap _ _) (mC_ap _ _))) (by simp)
    | false => exact set_nx (mif_f (tru_e (r_frz (i := 3) rfl)) (mC_ap _ _)) (by simp)
  have nm : b.names.map (fun _ => D.lst (List.replicate (size + 1) (d0 w))) = (List.range b.many).map fun k => .lst ((List.range (size + 1)).map fun s => V 0 k s) := by
    have e : ∀ k, (List.range (size + 1)).map (fun s => V 0 k s) = List.replicate (size + 1) (d0 w) := fun k => by
      rw [List.map_congr_left (g := fun _ => d0 w) fun s _ => md.z k s]
      exact rep_map _ _
    rw [List.map_congr_left (l := List.range b.many) (g := fun _ => D.lst (List.replicate (size + 1) (d0 w))) fun k _ => by rw [e k], rep_map]
    rw [List.eq_replicate_iff]
    exact ⟨by rw [List.length_map, h.nm], fun x hx => by obtain ⟨_, _, rfl⟩ := List.mem_map.mp hx; rfl⟩
  have c5 := set_nx (i := 5) (mLc_v (Γ := [.frz (bkD b), .frz (.int (size : Int)), .frz (.int (H : Int)), .frz (.bl w), .frz (d0 w), .none, .none, .none, .none, .none, .none, .none, .none, .none, .none, .none]) (Sx := Sx) (v := 6) (mi := mIt tupOf (mOp fIx (mRead 0) (mC (.int 1)))) (me := mOp fRep (mLst (mCons (mName 4) mNil)) (mOp fAdd (mName 1) (mC (.int 1)))) (by simp) b.names id (fun _ => .lst (List.replicate (size + 1) (d0 w)))
    (it_of (f := tupOf) (ix_e (r_frz (i := 0) rfl) (mC_ap _ _) (bk1 b)) (by rw [List.map_id]; rfl)) (by rw [h.nm]; omega) fun x _ => op_e (lst1_e (n_frz (i := 4) rfl)) (op_e (n_frz (i := 1) rfl) (mC_ap _ _) ad) (fRep_one _ _ (by omega))) (by simp)
  rw [nm] at c5
  obtain ⟨Γ', Sz, e, rfl, rfl⟩ := cfor_inv (v := 7) (mask := [7, 8, 9, 10, 11, 12]) (c := loH) (mi := mIt rng1 (mName 2)) (Γ := [.frz (bkD b), .frz (.int (size : Int)), .frz (.int (H : Int)), .frz (.bl w), .frz (d0 w), .frz (tD (V 0) b.many size), .none, .none, .none, .none, .none, .none, .none, .none, .none, .none])
    (fun hh Γ S' => Γ = [.frz (bkD b), .frz (.int (size : Int)), .frz (.int (H : Int)), .frz (.bl w), .frz (d0 w), .frz (tD (V hh) b.many size), .none, .none, .none, .none, .none, .none, .none, .none, .none, .none] ∧ S' = Sx) (fun j Γ Sx h => by rw [h.1]; simp)
    (it_of (Sx := Sx) (n_frz (i := 2) rfl) (rng1_map (by omega))) (fun hh d Γ Sy hj ⟨g1, gS⟩ => by
      obtain ⟨hm, rfl⟩ := rg_get hj
      subst g1 gS
      obtain ⟨s8, s10, s12, e⟩ := loH_ok h md hm hz (s2 := .frz (.int (H : Int))) (s7 := .frz (.int (hh : Int))) (Sx := Sy)
      exact ⟨_, Sy, e, rfl, rfl⟩) ⟨rfl, rfl⟩
  rw [List.length_map, List.length_range] at e
  unfold f_low_table
  rw [c_low_table_eq]
  exact run_rt (seq_e c4 (seq_e c5 (seq_e e (ret_e (n_frz (i := 5) rfl)))))
end
end Law


set_option Elab.async false
set_option linter.all false
set_option maxRecDepth 100000
set_option maxHeartbeats 1000000
set_option exponentiation.threshold 10000
/-! T7: rows of numbers, of chances. -/
namespace Law
open FP PySem
/-! sizes -/
theorem Ig.sm2 {M c : Nat} {q : Rat} (h : Ig M c q) (hM : 0 < M) (hc : 1 ≤ c) (hb : M * c < 2 ^ 1320) : Sm q := by
  obtain ⟨k, hk⟩ := h.i
  have hM0 : (M : Rat) ≠ 0 := fun z => by
    have := Rat.natCast_pos.mpr hM
    rw [z] at this; exact Rat.lt_irrefl this
  have e : q = mkRat k M := by
    rw [Rat.mkRat_eq_div, ← hk, Rat.mul_div_cancel hM0]
  have hd : q.den ≤ M := by
    rw [e, Rat.den_mkRat, if_neg (by omega)]
    exact Nat.div_le_self _ _
  have h1 := (Rat.le_iff q c).mp h.hi
  have h2 := Rat.num_nonneg.mpr h.lo
  rw [Rat.num_natCast, Rat.den_natCast] at h1
  have h3 : q.num.natAbs ≤ c * q.den := by omega
  have h4 : c * q.den ≤ c * M := Nat.mul_le_mul_left c hd
  have h5 : c * M = M * c := Nat.mul_comm _ _
  have h6 : M ≤ M * c := Nat.le_mul_of_pos_right M hc
  exact ⟨by omega, by omega⟩
theorem Ig.addc {M c d : Nat} {p q : Rat} (h : Ig M c p) (h' : Ig M d q) : Ig M (c + d) (p + q) := by
  obtain ⟨⟨k, hk⟩, l1, u1⟩ := h
  obtain ⟨⟨j, hj⟩, l2, u2⟩ := h'
  refine ⟨⟨k + j, ?_⟩, Rat.add_nonneg l1 l2, ?_⟩
  · rw [Rat.intCast_add, ← hk, ← hj]; grind
  · rw [Rat.natCast_add]; grind
theorem Ig.mulc {M c M' d : Nat} {p q : Rat} (h : Ig M c p) (h' : Ig M' d q) : Ig (M * M') (c * d) (p * q) := by
  obtain ⟨⟨k, hk⟩, l1, u1⟩ := h
  obtain ⟨⟨j, hj⟩, l2, u2⟩ := h'
  refine ⟨⟨k * j, ?_⟩, Rat.mul_nonneg l1 l2, ?_⟩
  · rw [Rat.intCast_mul, ← hk, ← hj, Rat.natCast_mul]; grind
  · rw [Rat.natCast_mul]
    exact Rat.le_trans (Rat.mul_le_mul_of_nonneg_left u2 l1) (Rat.mul_le_mul_of_nonneg_right u1 (Rat.le_trans l2 u2))
theorem Ig.lec {M c d : Nat} {q : Rat} (h : Ig M c q) (l : c ≤ d) : Ig M d q := ⟨h.i, h.lo, Rat.le_trans h.hi (Rat.natCast_le_natCast.mpr l)⟩
theorem Pb.ig {M : Nat} {q : Rat} (h : Pb M q) : Ig M 1 q := ⟨h.i, h.lo, h.hi⟩
theorem Ig.zeroc (M c : Nat) : Ig M c 0 := ⟨⟨0, by rw [Rat.zero_mul]; rfl⟩, by decide, Rat.natCast_nonneg⟩
theorem Ig.onec (M : Nat) : Ig M 1 1 := (Pb.one M).ig
theorem ig_sum {M c : Nat} : ∀ {ps : List Rat}, (∀ p ∈ ps, Ig M c p) → Ig M (c * ps.length) (rsum ps)
  | [], _ => Ig.zeroc M _
  | p :: ps, h => by
    rw [List.length_cons, Nat.mul_succ, Nat.add_comm]
    exact (h p List.mem_cons_self).addc (ig_sum fun q hq => h q (List.mem_cons_of_mem _ hq))
theorem sumOk_ig {M c : Nat} (hM : 0 < M) (hc : 1 ≤ c) : ∀ (ps : List Rat) (a : Rat) (n : Nat), Ig M (c * n) a → (∀ p ∈ ps, Ig M c p) → M * (c * (n + ps.length)) < 2 ^ 1320 → sumOk a ps
  | [], _, _, _, _, _ => trivial
  | p :: ps, a, n, ha, h, hb => by
    rw [List.length_cons] at hb
    have h1 := h p List.mem_cons_self
    have h2 : Ig M (c * (n + 1)) (a + p) := by
      have := ha.addc h1
      rw [← Nat.mul_succ] at this
      exact this
    have l1 : M * c ≤ M * (c * (n + (ps.length + 1))) := Nat.mul_le_mul_left M (Nat.le_mul_of_pos_right c (by omega))
    have l2 : M * (c * (n + 1)) ≤ M * (c * (n + (ps.length + 1))) := Nat.mul_le_mul_left M (Nat.mul_le_mul_left c (by omega))
    have p2 : 1 ≤ c * (n + 1) := Nat.mul_pos hc (by omega)
    exact ⟨h1.sm2 hM hc (by omega), h2.sm2 hM p2 (by omega), sumOk_ig hM hc ps (a + p) (n + 1) h2 (fun q hq => h q (List.mem_cons_of_mem _ hq)) (by rw [show n + 1 + ps.length = n + (ps.length + 1) by omega]; exact hb)⟩
theorem sumOk_ig0 {M c : Nat} (hM : 0 < M) (hc : 1 ≤ c) {ps : List Rat} (h : ∀ p ∈ ps, Ig M c p) (hb : M * (c * ps.length) < 2 ^ 1320) : sumOk 0 ps := sumOk_ig hM hc ps 0 0 (Ig.zeroc M _) h (by rw [Nat.zero_add]; exact hb)
theorem rsum_sR : ∀ l : List Rat, rsum l = sR l
  | [] => rfl
  | x :: l => by show x + rsum l = x + sR l; rw [rsum_sR l]
theorem getD_map {α β : Type} (F : α → β) (d : α) (l : List α) : (List.range l.length).map (fun j => F (l.getD j d)) = l.map F := by
  apply List.ext_getElem?
  intro j
  rw [List.getElem?_map, List.getElem?_map]
  by_cases hj : j < l.length
  · rw [List.getElem?_range hj, List.getElem?_eq_getElem hj]
    show some (F (l.getD j d)) = _
    rw [List.getD_eq_getElem?_getD, List.getElem?_eq_getElem hj]; rfl
  · rw [List.getElem?_eq_none (by rw [List.length_range]; omega), List.getElem?_eq_none (by omega)]; rfl
theorem NB {N : Nat} {b : Book} (h : BookOk N b) {e c : Nat} (he : e ≤ 40) (hc : c ≤ 2 ^ 700) : N ^ e * c < 2 ^ 1320 := by
  have h1 : N ^ e ≤ (2 ^ 14) ^ e := Nat.pow_le_pow_left h.N1 e
  rw [← Nat.pow_mul] at h1
  have h2 : (2 : Nat) ^ (14 * e) ≤ 2 ^ 560 := Nat.pow_le_pow_right (by decide) (by omega)
  have h3 : N ^ e * c ≤ 2 ^ 560 * 2 ^ 700 := Nat.mul_le_mul (Nat.le_trans h1 h2) hc
  rw [← Nat.pow_add] at h3
  exact Nat.lt_of_le_of_lt h3 (Nat.pow_lt_pow_right (by decide) (by decide))
/-! the loop of rows_of -/
noncomputable def roB (r : Fnc) : Cmd := cApp 4 (mTup (mCons (mOp fIx (mOp fIx (mRead 0) (mOp fIx (mRead 1) (mC (.int 0)))) (mName 5)) (mCons (mCall 4 r (mCons (mName 0) (mCons (mSlL (mRead 1) (mPart (mC (.int 1))) (M.pure none)) (mCons (mOp fSub (mName 2) (mName 5)) (mCons (mName 3) mNil))))) mNil)))
noncomputable def roE : M D := mIf (mTru (mRead 3)) (mCall 1 f_total (mCons (mLc [6, 7] (.tp [6, 7]) (mIt lstOf (mRead 4)) (M.pure true) (mCall 2 f_times (mCons (mName 6) (mCons (mName 7) mNil)))) mNil)) (mUn fSum (mLc [6, 7] (.tp [6, 7]) (mIt lstOf (mRead 4)) (M.pure true) (mOp fMul (mName 6) (mName 7))))
noncomputable def ro0 : M D := mIf (mTru (mRead 3)) (mTup (mCons (mUn fInt (mOp fEq (mName 2) (mC (.int 0)))) (mCons (mC (.int 1)) mNil))) (mUn fInt (mOp fEq (mName 2) (mC (.int 0))))
theorem c_rows_of_eq (r : Fnc) : c_rows_of r = (cSeq (cIf (mBool (mOp fEq (mName 1) (mLst mNil))) (cRet ro0) cNil)
  (cSeq (cOwn 4 (mLst mNil)) (cSeq (cFor (.nm 5) [5] (mRng2 (mC (.int 1)) (mOp fAdd (mOp fSub (mName 2) (mUn fLen (mRead 1))) (mC (.int 2)))) (roB r)) (cRet roE)))) := rfl
theorem ro_loop {r : Fnc} {td : D} {w : Bool} {k : Nat} {ks : List Nat} {s : Nat} {wv rv : Nat → D} {row : D} {Sx : S} (hks : ks.length ≤ 10) (hs : s ≤ 100) (hr : fIx td (.int (k : Int)) = some row) (hw : ∀ f, 1 ≤ f → f ≤ s → fIx row (.int (f : Int)) = some (wv f))
    (hrec : ∀ f, 1 ≤ f → f ≤ s - ks.length → r [td, intsD ks, .int ((s - f : Nat) : Int), .bl w] Sx = .ok (rv f) Sx) :
    cFor (.nm 5) [5] (mRng2 (mC (.int 1)) (mOp fAdd (mOp fSub (mName 2) (mUn fLen (mRead 1))) (mC (.int 2)))) (roB r) ⟨[.frz td, .frz (intsD (k :: ks)), .frz (.int (s : Int)), .frz (.bl w), .own (.lst []), .none, .none, .none], Sx⟩ =
      .nx ⟨[.frz td, .frz (intsD (k :: ks)), .frz (.int (s : Int)), .frz (.bl w), .own (.lst ((List.range (s - ks.length)).map fun f => .tup [wv (f + 1), rv (f + 1)])), .none, .none, .none], Sx⟩ := by
  have q1 : fSub (.int (s : Int)) (.int (((k :: ks).map fun (k : Nat) => D.int (k : Int)).length : Nat)) = some (.int ((s : Int) - ((ks.length + 1 : Nat) : Int))) := by rw [List.length_map, List.length_cons]; rfl
  by_cases hbig : ks.length ≤ s + 1
  · have q2 : fAdd (.int ((s : Int) - ((ks.length + 1 : Nat) : Int))) (.int 2) = some (.int ((s + 1 - ks.length : Nat) : Int)) := by
      show some (D.int _) = _
      congr 2
      omega
    obtain ⟨Γ', Sz, e, rfl, rfl⟩ := cfor_inv (v := 5) (mask := [5]) (c := roB r) (Γ := [.frz td, .frz (intsD (k :: ks)), .frz (.int (s : Int)), .frz (.bl w), .own (.lst []), .none, .none, .none])
      (fun j Γ S' => Γ = [.frz td, .frz (intsD (k :: ks)), .frz (.int (s : Int)), .frz (.bl w), .own (.lst ((List.range j).map fun f => .tup [wv (f + 1), rv (f + 1)])), .none, .none, .none] ∧ S' = Sx) (fun j Γ Sx h => by rw [h.1]; simp)
      (rng2_e (p := 1) (q := s + 1 - ks.length) (Sx := Sx) (mC_ap _ _) (op_e (op_e (n_frz (i := 2) rfl) (un_e (r_frz (i := 1) rfl) (fLen_lst _)) q1) (mC_ap _ _) q2) (by decide) (by omega)) (fun j d Γ Sy hj ⟨h1, hS⟩ => by
        obtain ⟨jm, rfl⟩ := rg_get hj
        subst h1 hS
        have sb : fSub (.int (s : Int)) (.int ((1 + j : Nat) : Int)) = some (.int ((s - (1 + j) : Nat) : Int)) := by
          show some (D.int _) = _
          congr 2
          omega
        have ix : fIx (intsD (k :: ks)) (.int 0) = some (.int (k : Int)) := fIx_lst (k := 0) rfl
        refine ⟨_, Sy, app_e (i := 4) rfl (tup2e (ix_e (ix_e (r_frz (i := 0) rfl) (ix_e (r_frz (i := 1) rfl) (mC_ap _ _) ix) hr) (n_frz (i := 5) rfl) (hw (1 + j) (by omega) (by omega))) (call4 (n_frz (i := 0) rfl) (slice1 (i := 1) rfl) (op_e (n_frz (i := 2) rfl) (n_frz (i := 5) rfl) sb) (n_frz (i := 3) rfl) (hrec (1 + j) (by omega) (by omega)))) rfl (by rw [List.length_map, List.length_range]; omega), ?_, rfl⟩
        rw [List.range_succ, List.map_append, show 1 + j = j + 1 by omega]; rfl) ⟨rfl, rfl⟩
    rw [List.length_map, List.length_range, show s + 1 - ks.length - 1 = s - ks.length by omega] at e
    exact e
  · have q2 : fAdd (.int ((s : Int) - ((ks.length + 1 : Nat) : Int))) (.int 2) = some (.int ((s : Int) - ((ks.length + 1 : Nat) : Int) + 2)) := rfl
    have hi : mRng2 (mC (.int 1)) (mOp fAdd (mOp fSub (mName 2) (mUn fLen (mRead 1))) (mC (.int 2))) ⟨[.frz td, .frz (intsD (k :: ks)), .frz (.int (s : Int)), .frz (.bl w), .own (.lst []), .none, .none, .none], Sx⟩ = .ok [] ⟨[.frz td, .frz (intsD (k :: ks)), .frz (.int (s : Int)), .frz (.bl w), .own (.lst []), .none, .none, .none], Sx⟩ := by
      rw [a_rng2, mC_ap, rb_ok, bind_ap, op_e (op_e (n_frz (i := 2) rfl) (un_e (r_frz (i := 1) rfl) (fLen_lst _)) q1) (mC_ap _ _) q2, rb_ok]
      show (if _ then _ else _ : M (List D)) _ = _
      rw [if_pos (by omega), pure_ap, show ((s : Int) - ((ks.length + 1 : Nat) : Int) + 2 - 1).toNat = 0 by omega]
      rfl
    rw [show s - ks.length = 0 by omega]
    exact for_e hi rfl
/-! numbers -/
theorem sumN {ι : Type} (g : ι → Nat) (l : List ι) : fSum (.lst (l.map fun f => .int (g f : Int))) = some (.int ((sR (l.map g) : Nat) : Int)) := by
  have e := ints?_map (l.map fun f => (g f : Int))
  rw [List.map_map] at e
  show (ints? _).map _ = _
  rw [show (l.map fun f => D.int (g f : Int)) = l.map (D.int ∘ fun f => (g f : Int)) from rfl, e]
  show some (D.int _) = _
  congr 2
  clear e
  induction l with
  | nil => rfl
  | cons i l ih =>
    rw [List.map_cons, List.sum_cons, ih]
    show _ = ((g i + sR (l.map g) : Nat) : Int)
    rw [Int.natCast_add]
theorem fMul_nat {a b : Nat} (ha : a < 2 ^ 30) (hb : b < 2 ^ 30) : fMul (.int (a : Int)) (.int (b : Int)) = some (.int ((a * b : Nat) : Int)) := by
  rw [fMul_ok (by rw [Int.natAbs_natCast]; exact Nat.lt_trans ha (Nat.pow_lt_pow_right (by decide) (by decide))) (by rw [Int.natAbs_natCast]; exact Nat.lt_trans hb (Nat.pow_lt_pow_right (by decide) (by decide))), Int.natCast_mul]
/-- a table of numbers -/
def TbN (td : D) (W : Nat → Nat → Nat) (many S : Nat) : Prop := ∀ k, k < many → ∃ row, fIx td (.int (k : Int)) = some row ∧ ∀ f, 1 ≤ f → f ≤ S → fIx row (.int (f : Int)) = some (.int (W k f : Int))
theorem fInt_dec (c : Prop) [Decidable c] : fInt (.bl (decide c)) = some (.int (((if c then 1 else 0 : Nat) : Nat) : Int)) := by
  by_cases h : c
  · rw [decide_eq_true h, if_pos h]; rfl
  · rw [decide_eq_false h, if_neg h]; rfl
theorem rowsN_ok {td : D} {W : Nat → Nat → Nat} {many n : Nat} (T : TbN td W many n) (hW : ∀ k f, k < many → 1 ≤ f → f ≤ n → W k f ≤ Lf f) (hn : n ≤ 4) : ∀ (m : Nat) (ks : List Nat) (s : Nat) (Sx : S), ks.length < m → ks.length ≤ 2 → s ≤ n → (∀ k ∈ ks, k < many) →
    g_rows_of m [td, intsD ks, .int (s : Int), .bl false] Sx = .ok (.int (Rn W ks s : Nat)) Sx
  | 0, ks, s, Sx, h, _, _, _ => by omega
  | m + 1, [], s, Sx, _, _, hs, _ => by
    show runF 8 (c_rows_of (g_rows_of m)) _ _ = _
    rw [c_rows_of_eq]
    have v : ro0 ⟨[.frz td, .frz (intsD []), .frz (.int (s : Int)), .frz (.bl false), .none, .none, .none, .none], Sx⟩ = .ok (.int (Rn W [] s : Nat)) ⟨[.frz td, .frz (intsD []), .frz (.int (s : Int)), .frz (.bl false), .none, .none, .none, .none], Sx⟩ :=
      mif_f (tru_e (r_frz (i := 3) rfl)) (un_e (op_e (n_frz (i := 2) rfl) (mC_ap _ _) (fEq_nat s 0)) (fInt_dec _))
    exact run_rt (seq_rt (if_yes (bool_e (op_e (n_frz (i := 1) rfl) nil_e (fEq_self sh_nil (by decide)))) (ret_e v)))
  | m + 1, k :: ks, s, Sx, h, h2, hs, hm => by
    rw [List.length_cons] at h h2
    show runF 8 (c_rows_of (g_rows_of m)) _ _ = _
    rw [c_rows_of_eq]
    have hk := hm k List.mem_cons_self
    obtain ⟨row, r1, r2⟩ := T k hk
    have lp := ro_loop (r := g_rows_of m) (w := false) (td := td) (k := k) (ks := ks) (s := s) (wv := fun f => .int (W k f : Int)) (rv := fun f => .int (Rn W ks (s - f) : Nat)) (row := row) (Sx := Sx) (by omega) (by omega) r1 (fun f h1 h2 => r2 f h1 (by omega)) fun f h1 h2 => rowsN_ok T hW hn m ks (s - f) Sx (by omega) (by omega) (by omega) fun k' hk' => hm k' (List.mem_cons_of_mem _ hk')
    have f0 : fEq (intsD (k :: ks)) (.lst []) = some (.bl false) := fEq_cons (sh_ints (k :: ks)) (by decide)
    have lf : ∀ f, Lf f ≤ 1250 := fun f => by unfold Lf; split <;> (try omega); split <;> (try omega); split <;> omega
    have v : roE ⟨[.frz td, .frz (intsD (k :: ks)), .frz (.int (s : Int)), .frz (.bl false), .own (.lst ((List.range (s - ks.length)).map fun f => .tup [.int (W k (f + 1) : Int), .int (Rn W ks (s - (f + 1)) : Nat)])), .none, .none, .none], Sx⟩ = .ok (.int (Rn W (k :: ks) s : Nat)) ⟨[.frz td, .frz (intsD (k :: ks)), .frz (.int (s : Int)), .frz (.bl false), .own (.lst ((List.range (s - ks.length)).map fun f => .tup [.int (W k (f + 1) : Int), .int (Rn W ks (s - (f + 1)) : Nat)])), .none, .none, .none], Sx⟩ := by
      refine mif_f (tru_e (r_frz (i := 3) rfl)) (un_e (mLc_p (i := 6) (j := 7) (List.range (s - ks.length)) (fun f => .int (W k (f + 1) : Int)) (fun f => .int (Rn W ks (s - (f + 1)) : Nat)) (fun f => .int ((W k (f + 1) * Rn W ks (s - (f + 1)) : Nat) : Int)) (by decide) (by simp) (by simp) (it_of (f := lstOf) (r_own (i := 4) rfl) rfl) (by rw [List.length_range]; omega) fun f hf => ?_) (sumN _ _))
      have hf := List.mem_range.mp hf
      have b1 := hW k (f + 1) hk (by omega) (by omega)
      have b2 := lf (f + 1)
      have b3 : Rn W ks (s - (f + 1)) ≤ 50000 := by
        refine Nat.le_trans (Rn_mono (W' := fun _ f => Lf f) ks _ fun k' hk' f' h1 h2 => hW k' f' (hm k' (List.mem_cons_of_mem _ hk')) h1 (by omega)) ?_
        rw [Rn_kinds]
        exact Rn_small _ (by omega) _ (by omega)
      exact op_e (n_frz (i := 6) rfl) (n_frz (i := 7) rfl) (fMul_nat (by omega) (by omega))
    exact run_rt (seq_e (if_no (bool_e (op_e (n_frz (i := 1) rfl) nil_e f0))) (seq_e (own_nx nil_e (by simp)) (seq_e lp (ret_e v))))
/-! chances -/
def TbQ (td : D) (W : Nat → Nat → Rat) (many S : Nat) : Prop := ∀ k, k < many → ∃ row, fIx td (.int (k : Int)) = some row ∧ ∀ f, 1 ≤ f → f ≤ S → fIx row (.int (f : Int)) = some (fr (W k f))
section
variable {N : Nat} {b : Book} {W : Nat → Nat → Rat} {n B : Nat}
theorem Rn_ig (hB : 1 ≤ B) (hn : n ≤ 7) {many : Nat} (hW : ∀ k f, k < many → 1 ≤ f → f ≤ n → Ig (N ^ f) B (W k f)) : ∀ (ks : List Nat) (s : Nat), s ≤ n → (∀ k ∈ ks, k < many) → Ig (N ^ s) ((8 * B) ^ ks.length) (Rn W ks s)
  | [], s, hs, _ => by
    unfold Rn
    split
    · exact Ig.onec _
    · exact Ig.zeroc _ _
  | k :: ks, s, hs, hk => by
    unfold Rn
    rw [← rsum_sR]
    have key : ∀ p ∈ (List.range (s - ks.length)).map (fun f => W k (f + 1) * Rn W ks (s - (f + 1))), Ig (N ^ s) (B * (8 * B) ^ ks.length) p := fun p hp => by
      obtain ⟨f, hf, rfl⟩ := List.mem_map.mp hp
      have hf := List.mem_range.mp hf
      have := (hW k (f + 1) (hk k List.mem_cons_self) (by omega) (by omega)).mulc (Rn_ig hB hn hW ks (s - (f + 1)) (by omega) fun k' hk' => hk k' (List.mem_cons_of_mem _ hk'))
      rw [← Nat.pow_add, show f + 1 + (s - (f + 1)) = s by omega] at this
      exact this
    refine (ig_sum key).lec ?_
    rw [List.length_map, List.length_range, List.length_cons, Nat.pow_succ]
    have : B * (8 * B) ^ ks.length * (s - ks.length) ≤ B * (8 * B) ^ ks.length * 8 := Nat.mul_le_mul_left _ (by omega)
    refine Nat.le_trans this (Nat.le_of_eq ?_)
    rw [Nat.mul_comm B, Nat.mul_assoc, Nat.mul_comm B 8]
theorem rowsQ_ok (h : BookOk N b) {td : D} {many : Nat} (T : TbQ td W many n) (hB : 1 ≤ B) (hB2 : B ≤ 2 ^ 200) (hn : n ≤ 7) (hW : ∀ k f, k < many → 1 ≤ f → f ≤ n → Ig (N ^ f) B (W k f)) : ∀ (m : Nat) (ks : List Nat) (s : Nat) (Sx : S), ks.length < m → ks.length ≤ 2 → s ≤ n → (∀ k ∈ ks, k < many) →
    g_rows_of m [td, intsD ks, .int (s : Int), .bl true] Sx = .ok (fr (Rn W ks s)) Sx
  | 0, ks, s, Sx, h, _, _, _ => by omega
  | m + 1, [], s, Sx, _, _, hs, _ => by
    show runF 8 (c_rows_of (g_rows_of m)) _ _ = _
    rw [c_rows_of_eq]
    have e : fr (Rn W [] s) = .tup [.int (((if s = 0 then 1 else 0 : Nat) : Nat) : Int), .int 1] := by
      unfold Rn
      by_cases h0 : s = 0
      · rw [if_pos h0, if_pos h0]; rfl
      · rw [if_neg h0, if_neg h0]; rfl
    have v : ro0 ⟨[.frz td, .frz (intsD []), .frz (.int (s : Int)), .frz (.bl true), .none, .none, .none, .none], Sx⟩ = .ok (fr (Rn W [] s)) ⟨[.frz td, .frz (intsD []), .frz (.int (s : Int)), .frz (.bl true), .none, .none, .none, .none], Sx⟩ := by
      rw [e]
      exact mif_t (tru_e (r_frz (i := 3) rfl)) (tup2e (un_e (op_e (n_frz (i := 2) rfl) (mC_ap _ _) (fEq_nat s 0)) (fInt_dec _)) (mC_ap _ _))
    exact run_rt (seq_rt (if_yes (bool_e (op_e (n_frz (i := 1) rfl) nil_e (fEq_self sh_nil (by decide)))) (ret_e v)))
  | m + 1, k :: ks, s, Sx, h1, h2, hs, hm => by
    rw [List.length_cons] at h1 h2
    show runF 8 (c_rows_of (g_rows_of m)) _ _ = _
    rw [c_rows_of_eq]
    have hk := hm k List.mem_cons_self
    have hm' : ∀ k' ∈ ks, k' < many := fun k' hk' => hm k' (List.mem_cons_of_mem _ hk')
    obtain ⟨row, r1, r2⟩ := T k hk
    have lp := ro_loop (r := g_rows_of m) (w := true) (td := td) (k := k) (ks := ks) (s := s) (wv := fun f => fr (W k f)) (rv := fun f => fr (Rn W ks (s - f))) (row := row) (Sx := Sx) (by omega) (by omega) r1 (fun f h1 h2 => r2 f h1 (by omega)) fun f g1 g2 => rowsQ_ok h T hB hB2 hn hW m ks (s - f) Sx (by omega) (by omega) (by omega) hm'
    have f0 : fEq (intsD (k :: ks)) (.lst []) = some (.bl false) := fEq_cons (sh_ints (k :: ks)) (by decide)
    have p8 : (8 * B) ^ ks.length ≤ 2 ^ 203 := by
      have : (8 * B) ^ ks.length ≤ (8 * B) ^ 1 := Nat.pow_le_pow_right (by omega) (by omega)
      rw [Nat.pow_one] at this
      have e : (2 : Nat) ^ 203 = 8 * 2 ^ 200 := by rw [show 203 = 3 + 200 from rfl, Nat.pow_add]
      omega
    have p81 : 1 ≤ (8 * B) ^ ks.length := Nat.pow_pos (by omega)
    have key : ∀ p ∈ (List.range (s - ks.length)).map (fun f => W k (f + 1) * Rn W ks (s - (f + 1))), Ig (N ^ s) (B * (8 * B) ^ ks.length) p := fun p hp => by
      obtain ⟨f, hf, rfl⟩ := List.mem_map.mp hp
      have hf := List.mem_range.mp hf
      have := (hW k (f + 1) hk (by omega) (by omega)).mulc (Rn_ig hB hn hW ks (s - (f + 1)) (by omega) hm')
      rw [← Nat.pow_add, show f + 1 + (s - (f + 1)) = s by omega] at this
      exact this
    have big : B * (8 * B) ^ ks.length ≤ 2 ^ 403 := by
      have := Nat.mul_le_mul hB2 p8
      rw [← Nat.pow_add] at this
      exact this
    have tot := total_ok Sx _ (sumOk_ig0 (Nat.pow_pos h.N0) (Nat.mul_pos hB p81) key (by
      rw [List.length_map, List.length_range]
      refine NB h (by omega) ?_
      have : B * (8 * B) ^ ks.length * (s - ks.length) ≤ 2 ^ 403 * 2 ^ 3 := Nat.mul_le_mul big (by omega)
      rw [← Nat.pow_add] at this
      exact Nat.le_trans this (Nat.pow_le_pow_right (by decide) (by decide))))
    rw [rsum_sR, List.map_map] at tot
    have v : roE ⟨[.frz td, .frz (intsD (k :: ks)), .frz (.int (s : Int)), .frz (.bl true), .own (.lst ((List.range (s - ks.length)).map fun f => .tup [fr (W k (f + 1)), fr (Rn W ks (s - (f + 1)))])), .none, .none, .none], Sx⟩ = .ok (fr (Rn W (k :: ks) s)) ⟨[.frz td, .frz (intsD (k :: ks)), .frz (.int (s : Int)), .frz (.bl true), .own (.lst ((List.range (s - ks.length)).map fun f => .tup [fr (W k (f + 1)), fr (Rn W ks (s - (f + 1)))])), .none, .none, .none], Sx⟩ := by
      refine mif_t (tru_e (r_frz (i := 3) rfl)) (call1 (mLc_p (i := 6) (j := 7) (List.range (s - ks.length)) (fun f => fr (W k (f + 1))) (fun f => fr (Rn W ks (s - (f + 1)))) (fun f => fr (W k (f + 1) * Rn W ks (s - (f + 1)))) (by decide) (by simp) (by simp) (it_of (f := lstOf) (r_own (i := 4) rfl) rfl) (by rw [List.length_range]; omega) fun f hf => ?_) tot)
      have hf := List.mem_range.mp hf
      have b1 := (hW k (f + 1) hk (by omega) (by omega)).sm2 (Nat.pow_pos h.N0) hB (NB h (by omega) (Nat.le_trans hB2 (Nat.pow_le_pow_right (by decide) (by decide))))
      have b2 := (Rn_ig hB hn hW ks (s - (f + 1)) (by omega) hm').sm2 (Nat.pow_pos h.N0) p81 (NB h (by omega) (Nat.le_trans p8 (Nat.pow_le_pow_right (by decide) (by decide))))
      exact call2 (n_frz (i := 6) rfl) (n_frz (i := 7) rfl) (times_ok Sx b1 b2)
    exact run_rt (seq_e (if_no (bool_e (op_e (n_frz (i := 1) rfl) nil_e f0))) (seq_e (own_nx nil_e (by simp)) (seq_e lp (ret_e v))))
end
end Law


set_option Elab.async false
set_option linter.all false
set_option maxRecDepth 100000
set_option maxHeartbeats 1000000
set_option exponentiation.threshold 10000
/-! T8: the tables. -/
namespace Law
open FP PySem
def cN (b : Book) (h k s : Nat) : Nat := LT b (fun _ _ => (1 : Nat)) h k s
def cQ (b : Book) (h k s : Nat) : Rat := LT b (chOf b) h k s
def Bb : Nat → Nat
  | 0 => 1
  | h + 1 => 5 * (8 * Bb h) ^ 2
theorem Bb_pos : ∀ h, 1 ≤ Bb h
  | 0 => Nat.le_refl _
  | h + 1 => Nat.mul_pos (by decide) (Nat.pow_pos (Nat.mul_pos (by decide) (Bb_pos h)))
theorem Bb_le : ∀ h, h < 5 → Bb h ≤ 2 ^ 200 := by decide +kernel
theorem lits_sR {R : Type} [Lean.Grind.CommSemiring R] (b : Book) (k : Nat) (F : List Nat × Rat → R) : sR ((List.range (litsOf b k).length).map fun j => F ((litsOf b k).getD j ([], 0))) = sR ((litsOf b k).map F) := by
  rw [getD_map F ([], 0) (litsOf b k)]
theorem cN_succ (b : Book) (h k s : Nat) : cN b (h + 1) k (s + 1) = sR ((litsOf b k).map fun x => Rn (cN b h) (thingsL x.1) s) := by
  unfold cN
  show (if s + 1 = 0 then 0 else sR _) = _
  rw [if_neg (by omega), ← lits_sR b k fun x => Rn (LT b (fun _ _ => (1 : Nat)) h) (thingsL x.1) s]
  exact sR_congr fun j _ => Nat.one_mul _
theorem cQ_succ (b : Book) (h k s : Nat) : cQ b (h + 1) k (s + 1) = sR ((litsOf b k).map fun x => x.2 * Rn (cQ b h) (thingsL x.1) s) := by
  unfold cQ
  show (if s + 1 = 0 then 0 else sR _) = _
  rw [if_neg (by omega), ← lits_sR b k fun x => x.2 * Rn (LT b (chOf b) h) (thingsL x.1) s]
  rfl
theorem cN_zero (b : Book) (h k : Nat) : cN b h k 0 = 0 := by
  cases h <;> rfl
theorem cQ_zero (b : Book) (h k : Nat) : cQ b h k 0 = 0 := by
  cases h <;> rfl
section
variable {N : Nat} {b : Book}
theorem cN_eq {h k s : Nat} (hs : s ≤ 4) : cN b h k s = ((tab b 4 k s).filter fun t => decide (hT t ≤ h)).length := by
  unfold cN
  rw [LT_ok b (fun _ _ => (1 : Nat)) (fun _ => 1) (fun _ _ r => by rw [pR_ones]; rfl) h 4 k s hs, ← sR_ones, sR_filter]
  refine sR_congr fun t _ => ?_
  unfold wH
  by_cases c : hT t ≤ h
  · rw [if_pos c, if_pos (decide_eq_true c)]
  · rw [if_neg c, if_neg (by rw [decide_eq_false c]; decide)]
theorem cQ_eq {h k s : Nat} (hs : s ≤ 4) : cQ b h k s = sR (((tab b 4 k s).filter fun t => decide (hT t ≤ h)).map (chT b)) := by
  unfold cQ
  rw [LT_ok b (chOf b) (chT b) (fun k j r => by show chOf b k j * chTs b r = _; rw [chTs_eq]) h 4 k s hs, sR_filter]
  refine sR_congr fun t _ => ?_
  unfold wH
  by_cases c : hT t ≤ h
  · rw [if_pos c, if_pos (decide_eq_true c)]
  · rw [if_neg c, if_neg (by rw [decide_eq_false c]; decide)]
theorem cN_le (h : BookOk N b) {hh k f : Nat} (h1 : 1 ≤ f) (hf : f ≤ 4) : cN b hh k f ≤ Lf f := by
  rw [cN_eq hf]
  exact Nat.le_trans (List.length_filter_le _ _) (tab_tb h 4 (Nat.le_refl _) k f h1 hf)
theorem cQ_ig (h : BookOk N b) : ∀ (hh k s : Nat), k < b.many → s ≤ 7 → Ig (N ^ s) (Bb hh) (cQ b hh k s)
  | 0, k, s, _, _ => Ig.zeroc _ _
  | hh + 1, k, 0, _, _ => by rw [cQ_zero]; exact Ig.zeroc _ _
  | hh + 1, k, s + 1, hk, hs => by
    rw [cQ_succ, ← rsum_sR]
    have q := h.lk _ (litsOf_ok h hk)
    have key : ∀ p ∈ (litsOf b k).map (fun x => x.2 * Rn (cQ b hh) (thingsL x.1) s), Ig (N ^ (s + 1)) ((8 * Bb hh) ^ 2) p := fun p hp => by
      obtain ⟨x, hx, rfl⟩ := List.mem_map.mp hp
      obtain ⟨q1, q2, q3⟩ := q.each x hx
      have := q3.ig.mulc (Rn_ig (W := cQ b hh) (B := Bb hh) (n := 7) (many := b.many) (Bb_pos hh) (Nat.le_refl _) (fun k f hk h1 h2 => cQ_ig h hh k f hk h2) (thingsL x.1) s (by omega) fun k' hk' => by have := thingsL_mem hk'; omega)
      rw [show N * N ^ s = N ^ (s + 1) by rw [Nat.pow_succ, Nat.mul_comm], Nat.one_mul] at this
      refine this.lec (Nat.pow_le_pow_right ?_ (by rw [thingsL_len]; exact q2))
      exact Nat.mul_pos (by decide) (Bb_pos hh)
    refine (ig_sum key).lec ?_
    rw [List.length_map]
    show _ ≤ 5 * (8 * Bb hh) ^ 2
    rw [Nat.mul_comm 5]
    exact Nat.mul_le_mul_left _ (lits_len h k)
theorem modeN (h : BookOk N b) {size H : Nat} (hz : size ≤ 4) : Mode b false size H (fun hh k s => .int (cN b hh k s : Int)) (fun hh s lot => .int (Rn (cN b hh) (thingsL lot) s : Nat)) where
  z := fun k s => rfl
  z0 := fun hh k => by show D.int (cN b hh k 0 : Int) = _; rw [cN_zero]; rfl
  rows := fun hh k x s Sx h1 hk hx hs => by
    have q := (h.lk _ (litsOf_ok h hk)).each x hx
    exact rowsN_ok (W := cN b hh) (many := b.many) (n := size) (fun k hk => ⟨_, tD_at _ hk, fun f _ f2 => tD_at2 (fun k s => .int (cN b hh k s : Int)) f2⟩) (fun k f _ f1 f2 => cN_le h f1 (by omega)) hz 12 (thingsL x.1) s Sx (by rw [thingsL_len]; omega) (by rw [thingsL_len]; omega) (by omega) fun k' hk' => by have := thingsL_mem hk'; omega
  finT := fun z => by cases z
  finF := fun _ hh k s h1 hk hs => by
    show fSum _ = some (D.int (cN b (hh + 1) k (s + 1) : Int))
    rw [sumN, cN_succ]
theorem N1' (h : BookOk N b) : N < 2 ^ 1320 := Nat.lt_of_le_of_lt h.N1 (Nat.pow_lt_pow_right (by decide) (by decide))
theorem modeQ (h : BookOk N b) {size H : Nat} (hz : size ≤ 7) (hH : H ≤ 4) : Mode b true size H (fun hh k s => fr (cQ b hh k s)) (fun hh s lot => fr (Rn (cQ b hh) (thingsL lot) s)) where
  z := fun k s => rfl
  z0 := fun hh k => by show fr (cQ b hh k 0) = _; rw [cQ_zero]; rfl
  rows := fun hh k x s Sx h1 hk hx hs => by
    have q := (h.lk _ (litsOf_ok h hk)).each x hx
    exact rowsQ_ok h (W := cQ b hh) (B := Bb hh) (many := b.many) (n := size) (fun k hk => ⟨_, tD_at _ hk, fun f _ f2 => tD_at2 (fun k s => fr (cQ b hh k s)) f2⟩) (Bb_pos hh) (Bb_le hh (by omega)) hz (fun k f hk _ f2 => cQ_ig h hh k f hk (by omega)) 12 (thingsL x.1) s Sx (by rw [thingsL_len]; omega) (by rw [thingsL_len]; omega) (by omega) fun k' hk' => by have := thingsL_mem hk'; omega
  finF := fun z => by cases z
  finT := fun _ hh k s Sx h1 hk hs => by
    have q := h.lk _ (litsOf_ok h hk)
    have bl := Bb_le hh (by omega)
    have p8 : (8 * Bb hh) ^ 2 ≤ 2 ^ 406 := by
      have e : (2 : Nat) ^ 203 = 8 * 2 ^ 200 := by rw [show 203 = 3 + 200 from rfl, Nat.pow_add]
      have := Nat.pow_le_pow_left (show 8 * Bb hh ≤ 2 ^ 203 by omega) 2
      rw [← Nat.pow_mul] at this
      exact this
    have p1 : 1 ≤ 8 * Bb hh := Nat.mul_pos (by decide) (Bb_pos hh)
    have rg : ∀ x ∈ litsOf b k, Ig (N ^ s) ((8 * Bb hh) ^ 2) (Rn (cQ b hh) (thingsL x.1) s) := fun x hx => by
      obtain ⟨q1, q2, q3⟩ := q.each x hx
      exact (Rn_ig (W := cQ b hh) (B := Bb hh) (n := 7) (many := b.many) (Bb_pos hh) (Nat.le_refl _) (fun k f hk h1 h2 => cQ_ig h hh k f hk h2) (thingsL x.1) s (by omega) fun k' hk' => by have := thingsL_mem hk'; omega).lec (Nat.pow_le_pow_right p1 (by rw [thingsL_len]; exact q2))
    have tg : ∀ x ∈ litsOf b k, Ig (N ^ (s + 1)) ((8 * Bb hh) ^ 2) (x.2 * Rn (cQ b hh) (thingsL x.1) s) := fun x hx => by
      have := (q.each x hx).2.2.ig.mulc (rg x hx)
      rw [show N * N ^ s = N ^ (s + 1) by rw [Nat.pow_succ, Nat.mul_comm], Nat.one_mul] at this
      exact this
    refine ⟨fun x => fr (x.2 * Rn (cQ b hh) (thingsL x.1) s), fun x hx => ?_, ?_⟩
    · exact times_ok Sx ((q.each x hx).2.2.sm h.N0 (N1' h)) ((rg x hx).sm2 (Nat.pow_pos h.N0) (Nat.pow_pos p1) (NB h (by omega) (Nat.le_trans p8 (Nat.pow_le_pow_right (by decide) (by decide)))))
    · have tot := total_ok Sx ((litsOf b k).map fun x => x.2 * Rn (cQ b hh) (thingsL x.1) s) (sumOk_ig0 (M := N ^ (s + 1)) (c := (8 * Bb hh) ^ 2) (Nat.pow_pos h.N0) (Nat.pow_pos p1) (fun p hp => by obtain ⟨x, hx, rfl⟩ := List.mem_map.mp hp; exact tg x hx) (by
        rw [List.length_map]
        refine NB h (by omega) ?_
        have := Nat.mul_le_mul p8 (show (litsOf b k).length ≤ 2 ^ 3 by have := lits_len h k; omega)
        rw [← Nat.pow_add] at this
        exact Nat.le_trans this (Nat.pow_le_pow_right (by decide) (by decide))))
      rw [List.map_map, rsum_sR, ← cQ_succ] at tot
      exact tot
theorem lowN (h : BookOk N b) {size H : Nat} (hz : size ≤ 4) (hH : H ≤ 100) (Sx : S) : f_low_table [bkD b, .int (size : Int), .int (H : Int), .bl false] Sx = .ok (tD (fun k s => .int (cN b H k s : Int)) b.many size) Sx := low_ok h (modeN h hz) (by omega) hH Sx
theorem lowQ (h : BookOk N b) {size H : Nat} (hz : size ≤ 7) (hH : H ≤ 4) (Sx : S) : f_low_table [bkD b, .int (size : Int), .int (H : Int), .bl true] Sx = .ok (tD (fun k s => fr (cQ b H k s)) b.many size) Sx := low_ok h (modeQ h hz hH) (by omega) (by omega) Sx
/-! the program's functions -/
theorem check_ok {size ht : Nat} (h1 : 1 ≤ size) (h2 : size ≤ 16) (h3 : ht ≤ size) (Sx : S) : f_check [.int (size : Int), .int (ht : Int)] Sx = .ok .non Sx := by
  unfold f_check c_check
  exact run_nx (seq_e (if_no (not_e (k := true) (bool_e (chain_e (mC_ap _ _) (n_frz (i := 0) rfl) (fLe_nat (a := 1) h1) (mC_ap _ _) (fLe_nat (b := 16) h2))))) (if_no (not_e (k := true) (bool_e (chain_e (mC_ap _ _) (n_frz (i := 1) rfl) (fLe_nat (a := 0) (Nat.zero_le _)) (n_frz (i := 0) rfl) (fLe_nat h3))))))
theorem many_low_ok (h : BookOk N b) {k size ht : Nat} (hk : k < b.many) (h1 : 1 ≤ size) (hz : size ≤ 4) (hh : ht ≤ size) (Sx : S) : f_many_low [bkD b, .int (k : Int), .int (size : Int), .int (ht : Int)] Sx = .ok (.int (cN b ht k size : Int)) Sx := by
  unfold f_many_low c_many_low
  exact run_rt (seq_e (drop_e (call2 (n_frz (i := 2) rfl) (n_frz (i := 3) rfl) (check_ok h1 (by omega) hh Sx))) (ret_e (ix_e (ix_e (call4 (n_frz (i := 0) rfl) (n_frz (i := 2) rfl) (n_frz (i := 3) rfl) (mC_ap _ _) (lowN h hz (by omega) Sx)) (n_frz (i := 1) rfl) (tD_at _ hk)) (n_frz (i := 2) rfl) (tD_at2 (fun k s => .int (cN b ht k s : Int)) (Nat.le_refl _)))))
theorem chance_low_ok (h : BookOk N b) {k size ht : Nat} (hk : k < b.many) (h1 : 1 ≤ size) (hz : size ≤ 4) (hh : ht ≤ size) (Sx : S) : f_chance_low [bkD b, .int (k : Int), .int (size : Int), .int (ht : Int)] Sx = .ok (fr (cQ b ht k size)) Sx := by
  unfold f_chance_low c_chance_low
  exact run_rt (seq_e (drop_e (call2 (n_frz (i := 2) rfl) (n_frz (i := 3) rfl) (check_ok h1 (by omega) hh Sx))) (ret_e (ix_e (ix_e (call4 (n_frz (i := 0) rfl) (n_frz (i := 2) rfl) (n_frz (i := 3) rfl) (mC_ap _ _) (lowQ h (by omega) (by omega) Sx)) (n_frz (i := 1) rfl) (tD_at _ hk)) (n_frz (i := 2) rfl) (tD_at2 (fun k s => fr (cQ b ht k s)) (Nat.le_refl _)))))
theorem Ig.dvdc {M M' c : Nat} {q : Rat} (h : Ig M c q) (d : M ∣ M') : Ig M' c q := by
  obtain ⟨e, rfl⟩ := d
  obtain ⟨⟨k, hk⟩, l1, u1⟩ := h
  refine ⟨⟨k * e, ?_⟩, l1, u1⟩
  rw [Rat.natCast_mul, Rat.intCast_mul, ← hk, Rat.mul_assoc]; rfl
theorem ended_low_ok (h : BookOk N b) {k size ht : Nat} (hk : k < b.many) (h1 : 1 ≤ size) (hz : size ≤ 7) (hh : ht ≤ size) (h4 : ht ≤ 4) (Sx : S) : f_ended_low [bkD b, .int (k : Int), .int (size : Int), .int (ht : Int)] Sx = .ok (fr (rsum ((List.range (size + 1)).map fun s => cQ b ht k s))) Sx := by
  have tot := total_ok Sx ((List.range (size + 1)).map fun s => cQ b ht k s) (sumOk_ig0 (M := N ^ 7) (c := Bb ht) (Nat.pow_pos h.N0) (Bb_pos ht) (fun p hp => by
    obtain ⟨s, hs, rfl⟩ := List.mem_map.mp hp
    have hs := List.mem_range.mp hs
    exact (cQ_ig h ht k s hk (by omega)).dvdc (Nat.pow_dvd_pow N (by omega))) (by
      rw [List.length_map, List.length_range]
      refine NB h (by decide) ?_
      have := Nat.mul_le_mul (Bb_le ht (by omega)) (show size + 1 ≤ 2 ^ 3 by omega)
      rw [← Nat.pow_add] at this
      exact Nat.le_trans this (Nat.pow_le_pow_right (by decide) (by decide))))
  rw [List.map_map] at tot
  unfold f_ended_low c_ended_low
  exact run_rt (seq_e (drop_e (call2 (n_frz (i := 2) rfl) (n_frz (i := 3) rfl) (check_ok h1 (by omega) hh Sx))) (ret_e (call1 (ix_e (call4 (n_frz (i := 0) rfl) (n_frz (i := 2) rfl) (n_frz (i := 3) rfl) (mC_ap _ _) (lowQ h hz h4 Sx)) (n_frz (i := 1) rfl) (tD_at _ hk)) tot)))
end
end Law


set_option Elab.async false
set_option linter.all false
set_option maxRecDepth 100000
set_option maxHeartbeats 1000000
set_option exponentiation.threshold 10000
/-! T9: by heights. -/
namespace Law
open FP PySem
def ofH (b : Book) (k s h : Nat) : List Tr := (tab b 4 k s).filter fun t => decide (hT t = h)
def NH (b : Book) (k s h : Nat) : Nat := (ofH b k s h).length
def QH (b : Book) (k s h : Nat) : Rat := sR ((ofH b k s h).map (chT b))
theorem sR_split {R : Type} [Lean.Grind.CommSemiring R] (w : Tr → R) (h : Nat) : ∀ l : List Tr, sR ((l.filter fun t => decide (hT t ≤ h + 1)).map w) = sR ((l.filter fun t => decide (hT t ≤ h)).map w) + sR ((l.filter fun t => decide (hT t = h + 1)).map w)
  | [] => by show (0 : R) = 0 + 0; grind
  | t :: l => by
    have ih := sR_split w h l
    rw [List.filter_cons, List.filter_cons, List.filter_cons]
    by_cases c1 : hT t ≤ h
    · rw [if_pos (decide_eq_true (by omega)), if_pos (decide_eq_true c1), if_neg (by simp; omega)]
      show w t + sR _ = (w t + sR _) + _
      rw [ih]; grind
    · by_cases c2 : hT t = h + 1
      · rw [if_pos (decide_eq_true (by omega)), if_neg (by simp; omega), if_pos (decide_eq_true c2)]
        show w t + sR _ = sR _ + (w t + sR _)
        rw [ih]; grind
      · rw [if_neg (by simp; omega), if_neg (by simp; omega), if_neg (by simp; omega)]
        exact ih
section
variable {N : Nat} {b : Book} {k s : Nat}
theorem N_step (hs : s ≤ 4) (h : Nat) : cN b (h + 1) k s = cN b h k s + NH b k s (h + 1) := by
  have := sR_split (R := Nat) (fun _ => 1) h (tab b 4 k s)
  rw [sR_ones, sR_ones, sR_ones] at this
  rw [cN_eq hs, cN_eq hs]
  exact this
theorem Q_step (hs : s ≤ 4) (h : Nat) : cQ b (h + 1) k s = cQ b h k s + QH b k s (h + 1) := by
  rw [cQ_eq hs, cQ_eq hs]
  exact sR_split (chT b) h (tab b 4 k s)
theorem N_sum (hs : s ≤ 4) : ∀ h : Nat, sR ((List.range h).map fun i => NH b k s (i + 1)) = cN b h k s
  | 0 => rfl
  | h + 1 => by
    rw [List.range_succ, List.map_append, sR_append, N_sum hs h, N_step hs]
    rfl
theorem Q_sum (hs : s ≤ 4) : ∀ h : Nat, rsum ((List.range h).map fun i => QH b k s (i + 1)) = cQ b h k s
  | 0 => rfl
  | h + 1 => by
    rw [List.range_succ, List.map_append, rsum_sR, sR_append, ← rsum_sR, Q_sum hs h, Q_step hs]
    show _ + (_ + 0) = _
    rw [Rat.add_zero]
theorem ofH_ok (h : BookOk N b) (hk : k < b.many) (h1 : 1 ≤ s) (hs : s ≤ 4) {hh : Nat} {t : Tr} (ht : t ∈ ofH b k s hh) : okT b 4 t :=
  okT_le (tab_ok h s 4 k t hk h1 hs (List.mem_filter.mp ht).1) hs
theorem QH_ig (h : BookOk N b) (hk : k < b.many) (h1 : 1 ≤ s) (hs : s ≤ 4) (hh : Nat) : Ig (N ^ 15) 1250 (QH b k s hh) := by
  unfold QH
  rw [← rsum_sR]
  refine (ig_sum (M := N ^ 15) (c := 1) fun p hp => ?_).lec ?_
  · obtain ⟨t, ht, rfl⟩ := List.mem_map.mp hp
    exact (ch_pb h (ofH_ok h hk h1 hs ht)).ig
  · rw [List.length_map, Nat.one_mul]
    refine Nat.le_trans (List.length_filter_le _ _) (Nat.le_trans (tab_tb h 4 (Nat.le_refl _) k s h1 hs) ?_)
    unfold Lf; split <;> (try omega); split <;> (try omega); split <;> omega
theorem QH_sm (h : BookOk N b) (hk : k < b.many) (h1 : 1 ≤ s) (hs : s ≤ 4) (hh : Nat) : Sm (QH b k s hh) := (QH_ig h hk h1 hs hh).sm2 (Nat.pow_pos h.N0) (by decide) (NB h (by decide) (Nat.le_trans (show 1250 ≤ 2 ^ 11 by decide) (Nat.pow_le_pow_right (by decide) (by decide))))
theorem cQ_sm (h : BookOk N b) (hk : k < b.many) (hs : s ≤ 7) {hh : Nat} (hh4 : hh ≤ 4) : Sm (cQ b hh k s) := (cQ_ig h hh k s hk hs).sm2 (Nat.pow_pos h.N0) (Bb_pos hh) (NB h (by omega) (Nat.le_trans (Bb_le hh (by omega)) (Nat.pow_le_pow_right (by decide) (by decide))))
theorem by_height_ok (h : BookOk N b) (hk : k < b.many) (h1 : 1 ≤ s) (hs : s ≤ 4) (Sx : S) : f_by_height [bkD b, .int (k : Int), .int (s : Int)] Sx = .ok (.lst ((List.range s).map fun i => .int (NH b k s (i + 1) : Int))) Sx := by
  have ad : fAdd (.int (s : Int)) (.int 1) = some (.int ((s + 1 : Nat) : Int)) := fAdd_int _ _
  unfold f_by_height c_by_height
  refine run_rt (seq_e (drop_e (call2 (n_frz (i := 2) rfl) (mC_ap _ _) (check_ok (ht := 0) h1 (by omega) (Nat.zero_le _) Sx))) (seq_e (set_nx (mLc_v (v := 4) (by simp) (List.range (s + 1)) (fun (i : Nat) => .int (i : Int)) (fun i => .int (cN b i k s : Int)) (it_of (op_e (n_frz (i := 2) rfl) (mC_ap _ _) ad) (rng1_map (by omega))) (by rw [List.length_range]; omega) fun i hi => ?_) (by simp))
    (ret_e (mLc_v (v := 5) (by simp) (List.range s) (fun (i : Nat) => .int (i : Int)) (fun i => .int (NH b k s (i + 1) : Int)) (it_of (n_frz (i := 2) rfl) (rng1_map (by omega))) (by rw [List.length_range]; omega) fun i hi => ?_))))
  · have hi := List.mem_range.mp hi
    exact call4 (n_frz (i := 0) rfl) (n_frz (i := 1) rfl) (n_frz (i := 2) rfl) (n_frz (i := 4) rfl) (many_low_ok h hk h1 hs (by omega) Sx)
  · have hi := List.mem_range.mp hi
    have sb : fSub (.int (cN b (i + 1) k s : Int)) (.int (cN b i k s : Int)) = some (.int (NH b k s (i + 1) : Int)) := by
      show some (D.int _) = _
      congr 2
      rw [N_step hs]
      omega
    exact op_e (ix_e (r_frz (i := 3) rfl) (op_e (n_frz (i := 5) rfl) (mC_ap _ _) (fAdd_int _ _)) (rg_at (j := i + 1) _ (by omega))) (ix_e (r_frz (i := 3) rfl) (n_frz (i := 5) rfl) (rg_at (j := i) _ (by omega))) sb
theorem neg_fr (q : Rat) : D.tup [.int (0 - q.num), .int (q.den : Int)] = fr (-q) := by
  unfold fr
  rw [Rat.neg_num, Rat.neg_den, Int.zero_sub]
theorem Sm.neg {q : Rat} (h : Sm q) : Sm (-q) := ⟨by rw [Rat.neg_num, Int.natAbs_neg]; exact h.n, by rw [Rat.neg_den]; exact h.d⟩
theorem chances_by_height_ok (h : BookOk N b) (hk : k < b.many) (h1 : 1 ≤ s) (hs : s ≤ 4) (Sx : S) : f_chances_by_height [bkD b, .int (k : Int), .int (s : Int)] Sx = .ok (.lst ((List.range s).map fun i => fr (QH b k s (i + 1)))) Sx := by
  have ad : fAdd (.int (s : Int)) (.int 1) = some (.int ((s + 1 : Nat) : Int)) := fAdd_int _ _
  unfold f_chances_by_height c_chances_by_height
  refine run_rt (seq_e (drop_e (call2 (n_frz (i := 2) rfl) (mC_ap _ _) (check_ok (ht := 0) h1 (by omega) (Nat.zero_le _) Sx))) (seq_e (set_nx (mLc_v (v := 4) (by simp) (List.range (s + 1)) (fun (i : Nat) => .int (i : Int)) (fun i => fr (cQ b i k s)) (it_of (op_e (n_frz (i := 2) rfl) (mC_ap _ _) ad) (rng1_map (by omega))) (by rw [List.length_range]; omega) fun i hi => ?_) (by simp))
    (ret_e (mLc_v (v := 5) (by simp) (List.range s) (fun (i : Nat) => .int (i : Int)) (fun i => fr (QH b k s (i + 1))) (it_of (n_frz (i := 2) rfl) (rng1_map (by omega))) (by rw [List.length_range]; omega) fun i hi => ?_))))
  · have hi := List.mem_range.mp hi
    exact call4 (n_frz (i := 0) rfl) (n_frz (i := 1) rfl) (n_frz (i := 2) rfl) (n_frz (i := 4) rfl) (chance_low_ok h hk h1 hs (by omega) Sx)
  · have hi := List.mem_range.mp hi
    have pl := plus_ok Sx (cQ_sm h hk (s := s) (by omega) (hh := i + 1) (by omega)) (cQ_sm h hk (s := s) (by omega) (hh := i) (by omega)).neg
    rw [show cQ b (i + 1) k s + -cQ b i k s = QH b k s (i + 1) by rw [Q_step hs]; grind, ← neg_fr] at pl
    have e0 : fIx (fr (cQ b i k s)) (.int 0) = some (.int (cQ b i k s).num) := rfl
    have e1 : fIx (fr (cQ b i k s)) (.int 1) = some (.int ((cQ b i k s).den : Int)) := rfl
    have r0 := rg_at (m := s + 1) (fun i => fr (cQ b i k s)) (j := i) (by omega)
    exact call2 (ix_e (r_frz (i := 3) rfl) (op_e (n_frz (i := 5) rfl) (mC_ap _ _) (fAdd_int _ _)) (rg_at (j := i + 1) _ (by omega))) (tup2e (op_e (mC_ap _ _) (ix_e (ix_e (r_frz (i := 3) rfl) (n_frz (i := 5) rfl) r0) (mC_ap _ _) e0) (fSub_int _ _)) (ix_e (ix_e (r_frz (i := 3) rfl) (n_frz (i := 5) rfl) r0) (mC_ap _ _) e1)) pl
/-! the mean -/
def wQ (b : Book) (k s : Nat) : Rat := rsum ((List.range s).map fun i => QH b k s (i + 1))
def mQ (b : Book) (k s : Nat) : Rat := rsum ((List.range s).map fun i => ((i + 1 : Nat) : Rat) * QH b k s (i + 1))
def ovQ (p q : Rat) : Rat := mkRat (p.num * (q.den : Int)) (p.den * q.num.toNat)
theorem B1250 (h : BookOk N b) {c : Nat} (hc : c ≤ 2 ^ 30) : N ^ 15 * c < 2 ^ 1320 := NB h (by decide) (Nat.le_trans hc (Nat.pow_le_pow_right (by decide) (by decide)))
theorem wQ_ok (h : BookOk N b) (hk : k < b.many) (h1 : 1 ≤ s) (hs : s ≤ 4) : sumOk 0 ((List.range s).map fun i => QH b k s (i + 1)) ∧ Ig (N ^ 15) (1250 * 4) (wQ b k s) := by
  have key : ∀ p ∈ (List.range s).map (fun i => QH b k s (i + 1)), Ig (N ^ 15) 1250 p := fun p hp => by
    obtain ⟨i, _, rfl⟩ := List.mem_map.mp hp
    exact QH_ig h hk h1 hs _
  refine ⟨sumOk_ig0 (Nat.pow_pos h.N0) (by decide) key (B1250 h (by rw [List.length_map, List.length_range]; omega)), (ig_sum key).lec ?_⟩
  rw [List.length_map, List.length_range]
  exact Nat.mul_le_mul_left _ hs
theorem nat_ig (M n : Nat) : Ig M n (n : Rat) := ⟨⟨(n * M : Nat), by rw [← Rat.natCast_mul]; rfl⟩, Rat.natCast_nonneg, Rat.le_refl⟩
theorem mterm_ig (h : BookOk N b) (hk : k < b.many) (h1 : 1 ≤ s) (hs : s ≤ 4) {i : Nat} (hi : i < s) : Ig (N ^ 15) (4 * 1250) (((i + 1 : Nat) : Rat) * QH b k s (i + 1)) := by
  have := (nat_ig 1 (i + 1)).mulc (QH_ig h hk h1 hs (i + 1))
  rw [Nat.one_mul] at this
  exact this.lec (Nat.mul_le_mul_right _ (by omega))
theorem mQ_ok (h : BookOk N b) (hk : k < b.many) (h1 : 1 ≤ s) (hs : s ≤ 4) : sumOk 0 ((List.range s).map fun i => ((i + 1 : Nat) : Rat) * QH b k s (i + 1)) ∧ Ig (N ^ 15) (4 * 1250 * 4) (mQ b k s) := by
  have key : ∀ p ∈ (List.range s).map (fun i => ((i + 1 : Nat) : Rat) * QH b k s (i + 1)), Ig (N ^ 15) (4 * 1250) p := fun p hp => by
    obtain ⟨i, hi, rfl⟩ := List.mem_map.mp hp
    exact mterm_ig h hk h1 hs (List.mem_range.mp hi)
  refine ⟨sumOk_ig0 (Nat.pow_pos h.N0) (by decide) key (B1250 h (by rw [List.length_map, List.length_range]; omega)), (ig_sum key).lec ?_⟩
  rw [List.length_map, List.length_range]
  exact Nat.mul_le_mul_left _ hs
theorem nat_sm {n : Nat} (h : n < 2 ^ 1320) : Sm (n : Rat) := ⟨by rw [Rat.num_natCast]; exact h, by rw [Rat.den_natCast]; decide⟩
theorem fr_nat (n : Nat) : fr (n : Rat) = .tup [.int (n : Int), .int 1] := by
  unfold fr
  rw [Rat.num_natCast, Rat.den_natCast]; rfl
theorem mul_sm {p q : Rat} (hp : Sm p) (hq : Sm q) : fMul (.int p.num) (.int (q.den : Int)) = some (.int (p.num * (q.den : Int))) := fMul_ok hp.n9 hq.d9
theorem num_nat {q : Rat} (h : 0 ≤ q) : q.num = (q.num.toNat : Int) := (Int.toNat_of_nonneg (Rat.num_nonneg.mpr h)).symm
theorem over_ok {p q : Rat} (hp : Sm p) (hq : Sm q) (h0 : 0 ≤ q) (hz : q.num ≠ 0) (Sx : S) : f_over [fr p, fr q] Sx = .ok (fr (ovQ p q)) Sx := by
  have e1 : fMul (.int (p.den : Int)) (.int q.num) = some (.int ((p.den * q.num.toNat : Nat) : Int)) := by
    rw [fMul_ok hp.d9 hq.n9, Int.natCast_mul, ← num_nat h0]
  have dd := hp.d
  have nn := hq.n
  have pos : 0 < p.den * q.num.toNat := Nat.mul_pos p.den_pos (by have := Rat.num_nonneg.mpr h0; omega)
  have lt : p.den * q.num.toNat < 2 ^ 2640 := by
    have := Nat.mul_lt_mul'' hp.d (show q.num.toNat < 2 ^ 1320 by have := Rat.num_nonneg.mpr h0; omega)
    rwa [← Nat.pow_add] at this
  unfold f_over c_over
  exact run_rt (ret_e (call2 (op_e (ix_e (r_frz (i := 0) rfl) (mC_ap _ _) (fIx_fr0 p)) (ix_e (r_frz (i := 1) rfl) (mC_ap _ _) (fIx_fr1 q)) (mul_sm hp hq)) (op_e (ix_e (r_frz (i := 0) rfl) (mC_ap _ _) (fIx_fr1 p)) (ix_e (r_frz (i := 1) rfl) (mC_ap _ _) (fIx_fr0 q)) e1) (part_ok _ _ Sx pos lt)))
theorem mean_height_none (h : BookOk N b) (hk : k < b.many) (h1 : 1 ≤ s) (hs : s ≤ 4) (hz : (wQ b k s).num = 0) (Sx : S) : f_mean_height [bkD b, .int (k : Int), .int (s : Int)] Sx = .ok .non Sx := by
  have tot := total_ok Sx _ (wQ_ok h hk h1 hs).1
  rw [List.map_map] at tot
  have e := fEq_int (wQ b k s).num 0
  rw [decide_eq_true hz] at e
  unfold f_mean_height c_mean_height
  exact run_rt (seq_e (set_nx (call3 (n_frz (i := 0) rfl) (n_frz (i := 1) rfl) (n_frz (i := 2) rfl) (chances_by_height_ok h hk h1 hs Sx)) (by simp)) (seq_e (set_nx (call1 (n_frz (i := 3) rfl) tot) (by simp)) (seq_rt (if_yes (bool_e (op_e (ix_e (r_frz (i := 4) rfl) (mC_ap _ _) (fIx_fr0 _)) (mC_ap _ _) e)) (ret_e (mC_ap _ _))))))
theorem mean_height_ok (h : BookOk N b) (hk : k < b.many) (h1 : 1 ≤ s) (hs : s ≤ 4) (hz : (wQ b k s).num ≠ 0) (Sx : S) : f_mean_height [bkD b, .int (k : Int), .int (s : Int)] Sx = .ok (fr (ovQ (mQ b k s) (wQ b k s))) Sx := by
  have tot := total_ok Sx _ (wQ_ok h hk h1 hs).1
  rw [List.map_map] at tot
  have tm := total_ok Sx _ (mQ_ok h hk h1 hs).1
  rw [List.map_map] at tm
  have e := fEq_int (wQ b k s).num 0
  rw [decide_eq_false hz] at e
  have ws := (wQ_ok h hk h1 hs).2.sm2 (Nat.pow_pos h.N0) (by decide) (B1250 h (by decide))
  have ms := (mQ_ok h hk h1 hs).2.sm2 (Nat.pow_pos h.N0) (by decide) (B1250 h (by decide))
  unfold f_mean_height c_mean_height
  refine run_rt (seq_e (set_nx (call3 (n_frz (i := 0) rfl) (n_frz (i := 1) rfl) (n_frz (i := 2) rfl) (chances_by_height_ok h hk h1 hs Sx)) (by simp)) (seq_e (set_nx (call1 (n_frz (i := 3) rfl) tot) (by simp)) (seq_e (if_no (bool_e (op_e (ix_e (r_frz (i := 4) rfl) (mC_ap _ _) (fIx_fr0 _)) (mC_ap _ _) e)))
    (ret_e (call2 (call1 (mLc_v (v := 5) (by simp) (List.range s) (fun (i : Nat) => .int (i : Int)) _ (it_of (n_frz (i := 2) rfl) (rng1_map (by omega))) (by rw [List.length_range]; omega) fun i hi => ?_) tm) (n_frz (i := 4) rfl) (over_ok ms ws (wQ_ok h hk h1 hs).2.lo hz Sx))))))
  have hi := List.mem_range.mp hi
  have tp := times_ok Sx (nat_sm (n := i + 1) (Nat.lt_of_lt_of_le (show i + 1 < 2 ^ 3 by omega) (Nat.pow_le_pow_right (by decide) (by decide)))) (QH_sm h hk h1 hs (i + 1))
  rw [fr_nat] at tp
  exact call2 (tup2e (op_e (n_frz (i := 5) rfl) (mC_ap _ _) (fAdd_int _ _)) (mC_ap _ _)) (ix_e (r_frz (i := 3) rfl) (n_frz (i := 5) rfl) (rg_at (j := i) _ hi)) tp
/-! the likeliest -/
def bestL (q : Nat → Rat) : Nat → Nat
  | 0 => 0
  | n + 1 => if q (bestL q n) < q n then n else bestL q n
theorem bestL_lt (q : Nat → Rat) : ∀ n, bestL q n < max n 1
  | 0 => Nat.one_pos
  | n + 1 => by
    have := bestL_lt q n
    show (if q (bestL q n) < q n then n else bestL q n) < _
    split <;> omega
theorem lt_frac {p q : Rat} (hp : Sm p) (hq : Sm q) : ∃ x y, fMul (.int p.num) (.int (q.den : Int)) = some x ∧ fMul (.int q.num) (.int (p.den : Int)) = some y ∧ fLt x y = some (.bl (decide (p < q))) := by
  refine ⟨_, _, mul_sm hp hq, mul_sm hq hp, ?_⟩
  rw [fLt_int]
  congr 2
  rw [Bool.eq_iff_iff, decide_eq_true_iff, decide_eq_true_iff, Rat.lt_iff]
noncomputable def lkB : Cmd := cSet 4 (mIf (mBool (mOp fLt (mOp fMul (mOp fIx (mOp fIx (mRead 3) (mName 4)) (mC (.int 0))) (mOp fIx (mOp fIx (mRead 3) (mName 5)) (mC (.int 1)))) (mOp fMul (mOp fIx (mOp fIx (mRead 3) (mName 5)) (mC (.int 0))) (mOp fIx (mOp fIx (mRead 3) (mName 4)) (mC (.int 1)))))) (mName 5) (mName 4))
theorem likely_none (h : BookOk N b) (hk : k < b.many) (h1 : 1 ≤ s) (hs : s ≤ 4) (hz : (wQ b k s).num = 0) (Sx : S) : f_likely_height [bkD b, .int (k : Int), .int (s : Int)] Sx = .ok .non Sx := by
  have tot := total_ok Sx _ (wQ_ok h hk h1 hs).1
  rw [List.map_map] at tot
  have e := fEq_int (wQ b k s).num 0
  rw [decide_eq_true hz] at e
  unfold f_likely_height c_likely_height
  exact run_rt (seq_e (set_nx (call3 (n_frz (i := 0) rfl) (n_frz (i := 1) rfl) (n_frz (i := 2) rfl) (chances_by_height_ok h hk h1 hs Sx)) (by simp)) (seq_rt (if_yes (bool_e (op_e (ix_e (call1 (n_frz (i := 3) rfl) tot) (mC_ap _ _) (fIx_fr0 _)) (mC_ap _ _) e)) (ret_e (mC_ap _ _)))))
theorem likely_ok (h : BookOk N b) (hk : k < b.many) (h1 : 1 ≤ s) (hs : s ≤ 4) (hz : (wQ b k s).num ≠ 0) (Sx : S) : f_likely_height [bkD b, .int (k : Int), .int (s : Int)] Sx = .ok (.int ((bestL (fun i => QH b k s (i + 1)) s + 1 : Nat) : Int)) Sx := by
  have tot := total_ok Sx _ (wQ_ok h hk h1 hs).1
  rw [List.map_map] at tot
  have e := fEq_int (wQ b k s).num 0
  rw [decide_eq_false hz] at e
  have ad : fAdd (.int (bestL (fun i => QH b k s (i + 1)) s : Int)) (.int 1) = some (.int ((bestL (fun i => QH b k s (i + 1)) s + 1 : Nat) : Int)) := fAdd_int _ _
  obtain ⟨Γ', Sz, lp, rfl, rfl⟩ := cfor_inv (v := 5) (mask := [5]) (c := lkB) (mi := mIt rng1 (mName 2)) (Γ := [.frz (bkD b), .frz (.int (k : Int)), .frz (.int (s : Int)), .frz (.lst ((List.range s).map fun i => fr (QH b k s (i + 1)))), .frz (.int 0), .none])
    (fun j Γ S' => Γ = [.frz (bkD b), .frz (.int (k : Int)), .frz (.int (s : Int)), .frz (.lst ((List.range s).map fun i => fr (QH b k s (i + 1)))), .frz (.int (bestL (fun i => QH b k s (i + 1)) j : Int)), .none] ∧ S' = Sx) (fun j Γ Sx h => by rw [h.1]; simp)
    (it_of (Sx := Sx) (n_frz (i := 2) rfl) (rng1_map (by omega))) (fun j d Γ Sy hj ⟨g1, gS⟩ => by
      obtain ⟨jm, rfl⟩ := rg_get hj
      subst g1 gS
      have bl := bestL_lt (fun i => QH b k s (i + 1)) j
      obtain ⟨x, y, m1, m2, m3⟩ := lt_frac (QH_sm h hk h1 hs (bestL (fun i => QH b k s (i + 1)) j + 1)) (QH_sm h hk h1 hs (j + 1))
      have r1 := rg_at (fun i => fr (QH b k s (i + 1))) (m := s) (j := bestL (fun i => QH b k s (i + 1)) j) (by omega)
      have r2 := rg_at (fun i => fr (QH b k s (i + 1))) (m := s) (j := j) jm
      have t : mBool (mOp fLt (mOp fMul (mOp fIx (mOp fIx (mRead 3) (mName 4)) (mC (.int 0))) (mOp fIx (mOp fIx (mRead 3) (mName 5)) (mC (.int 1)))) (mOp fMul (mOp fIx (mOp fIx (mRead 3) (mName 5)) (mC (.int 0))) (mOp fIx (mOp fIx (mRead 3) (mName 4)) (mC (.int 1))))) ⟨[.frz (bkD b), .frz (.int (k : Int)), .frz (.int (s : Int)), .frz (.lst ((List.range s).map fun i => fr (QH b k s (i + 1)))), .frz (.int (bestL (fun i => QH b k s (i + 1)) j : Int)), .frz (.int (j : Int))], Sy⟩ = .ok _ ⟨_, Sy⟩ :=
        bool_e (op_e (op_e (ix_e (ix_e (r_frz (i := 3) rfl) (n_frz (i := 4) rfl) r1) (mC_ap _ _) (fIx_fr0 _)) (ix_e (ix_e (r_frz (i := 3) rfl) (n_frz (i := 5) rfl) r2) (mC_ap _ _) (fIx_fr1 _)) m1) (op_e (ix_e (ix_e (r_frz (i := 3) rfl) (n_frz (i := 5) rfl) r2) (mC_ap _ _) (fIx_fr0 _)) (ix_e (ix_e (r_frz (i := 3) rfl) (n_frz (i := 4) rfl) r1) (mC_ap _ _) (fIx_fr1 _)) m2) m3)
      by_cases c : QH b k s (bestL (fun i => QH b k s (i + 1)) j + 1) < QH b k s (j + 1)
      · rw [decide_eq_true c] at t
        refine ⟨_, Sy, set_nx (i := 4) (mif_t t (n_frz (i := 5) rfl)) (by simp), ?_, rfl⟩
        show _ = [_, _, _, _, FP.Slot.frz (.int ((if QH b k s (bestL (fun i => QH b k s (i + 1)) j + 1) < QH b k s (j + 1) then j else bestL (fun i => QH b k s (i + 1)) j : Nat) : Int)), _]
        rw [if_pos c]; rfl
      · rw [decide_eq_false c] at t
        refine ⟨_, Sy, set_nx (i := 4) (mif_f t (n_frz (i := 4) rfl)) (by simp), ?_, rfl⟩
        show _ = [_, _, _, _, FP.Slot.frz (.int ((if QH b k s (bestL (fun i => QH b k s (i + 1)) j + 1) < QH b k s (j + 1) then j else bestL (fun i => QH b k s (i + 1)) j : Nat) : Int)), _]
        rw [if_neg c]; rfl) ⟨rfl, rfl⟩
  rw [List.length_map, List.length_range] at lp
  unfold f_likely_height c_likely_height
  exact run_rt (seq_e (set_nx (call3 (n_frz (i := 0) rfl) (n_frz (i := 1) rfl) (n_frz (i := 2) rfl) (chances_by_height_ok h hk h1 hs Sz)) (by simp)) (seq_e (if_no (bool_e (op_e (ix_e (call1 (n_frz (i := 3) rfl) tot) (mC_ap _ _) (fIx_fr0 _)) (mC_ap _ _) e))) (seq_e (set_nx (mC_ap _ _) (by simp)) (seq_e lp (ret_e (op_e (n_frz (i := 4) rfl) (mC_ap _ _) ad))))))
end
end Law


set_option Elab.async false
set_option linter.all false
set_option maxRecDepth 100000
set_option maxHeartbeats 1000000
set_option exponentiation.threshold 10000
/-! T10: greatest and least heights; a line of one thing; the words. -/
namespace Law
open FP PySem
theorem filt_last (p : Nat → Bool) {m n : Nat} (hp : p m = true) (hm : m < n) (h : ∀ j, m < j → j < n → p j = false) : (List.range n).filter p = (List.range m).filter p ++ [m] := by
  induction n with
  | zero => omega
  | succ n ih =>
    rw [List.range_succ, List.filter_append]
    by_cases e : m = n
    · subst e
      rw [List.filter_cons_of_pos hp]; rfl
    · rw [ih (by omega) fun j h1 h2 => h j h1 (by omega), List.filter_cons_of_neg (by rw [h n (by omega) (by omega)]; decide)]
      exact List.append_nil _
theorem filt_first (p : Nat → Bool) {m : Nat} (hp : p m = true) (h : ∀ j, j < m → p j = false) : ∀ n, m < n → ∃ r, (List.range n).filter p = m :: r := by
  intro n
  induction n with
  | zero => intro z; omega
  | succ n ih =>
    intro hn
    rw [List.range_succ, List.filter_append]
    by_cases e : m = n
    · subst e
      have : (List.range m).filter p = [] := by
        rw [List.filter_eq_nil_iff]
        intro j hj
        rw [h j (List.mem_range.mp hj)]; decide
      rw [this, List.filter_cons_of_pos hp]
      exact ⟨_, rfl⟩
    · obtain ⟨r, e2⟩ := ih (by omega)
      rw [e2]
      exact ⟨_, rfl⟩
theorem fIx_last (ds : List D) (d : D) : fIx (.lst (ds ++ [d])) (.int (-1)) = some d := by
  have e : fIx (.lst (ds ++ [d])) (.int (-1)) = L2.atI (ds ++ [d]) (-1) := rfl
  rw [e]
  unfold L2.atI L2.ixN
  have z1 : (if (0:Int) ≤ -1 then (if (-1:Int) < ((ds ++ [d]).length : Int) then some (-1:Int).toNat else none) else if -((ds ++ [d]).length : Int) ≤ -1 then some ((-1:Int) + ((ds ++ [d]).length : Int)).toNat else none) = some ds.length := by
    rw [List.length_append, List.length_singleton, if_neg (by decide), if_pos (by omega)]
    congr 1
    omega
  rw [z1]
  simp
theorem hTs_max : ∀ {l : List Tr}, l ≠ [] → ∃ t ∈ l, hT t = hTs l
  | [], h => absurd rfl h
  | [t], _ => ⟨t, List.mem_cons_self, by show hT t = max (hT t) 0; omega⟩
  | t :: u :: r, _ => by
    obtain ⟨x, hx, e⟩ := hTs_max (l := u :: r) (by simp)
    by_cases c : hTs (u :: r) ≤ hT t
    · exact ⟨t, List.mem_cons_self, by show hT t = max (hT t) (hTs (u :: r)); omega⟩
    · exact ⟨x, List.mem_cons_of_mem _ hx, by show hT x = max (hT t) (hTs (u :: r)); omega⟩
section
variable {N : Nat} {b : Book} {k s : Nat}
theorem NH_pos {h : Nat} : 0 < NH b k s h ↔ ∃ t ∈ tab b 4 k s, hT t = h := by
  unfold NH ofH
  rw [List.length_pos_iff_exists_mem]
  constructor
  · rintro ⟨t, ht⟩
    obtain ⟨h1, h2⟩ := List.mem_filter.mp ht
    exact ⟨t, h1, of_decide_eq_true h2⟩
  · rintro ⟨t, h1, h2⟩
    exact ⟨t, List.mem_filter.mpr ⟨h1, decide_eq_true h2⟩⟩
def hFl (b : Book) (k s : Nat) : List Nat := (List.range s).filter fun i => decide (0 < NH b k s (i + 1))
theorem hFl_nil (h : tab b 4 k s = []) : hFl b k s = [] := by
  unfold hFl
  rw [List.filter_eq_nil_iff]
  intro i _ z
  obtain ⟨t, ht, _⟩ := NH_pos.mp (of_decide_eq_true z)
  rw [h] at ht; cases ht
theorem hT_pos : ∀ t : Tr, 1 ≤ hT t
  | .mk _ _ c => by unfold hT; omega
theorem hFl_last (h : BookOk N b) (hk : k < b.many) (h1 : 1 ≤ s) (hs : s ≤ 4) (hn : tab b 4 k s ≠ []) : ∃ r m, hFl b k s = r ++ [m] ∧ m + 1 = hTs (tab b 4 k s) := by
  obtain ⟨t, ht, e⟩ := hTs_max hn
  have t1 := hT_pos t
  have t2 := hT_le (tab_ok h s 4 k t hk h1 hs ht)
  refine ⟨_, hTs (tab b 4 k s) - 1, filt_last _ (m := hTs (tab b 4 k s) - 1) ?_ (by omega) fun j j1 j2 => ?_, by omega⟩
  · exact decide_eq_true (NH_pos.mpr ⟨t, ht, by omega⟩)
  · rw [decide_eq_false_iff_not]
    intro z
    obtain ⟨u, hu, e2⟩ := NH_pos.mp z
    have := hTs_le.mp (Nat.le_refl (hTs (tab b 4 k s))) u hu
    omega
theorem hFl_first (h : BookOk N b) (hk : k < b.many) (h1 : 1 ≤ s) (hs : s ≤ 4) {x : Nat} (hx : ∃ t ∈ tab b 4 k s, hT t = x) (hle : ∀ t ∈ tab b 4 k s, x ≤ hT t) : ∃ r m, hFl b k s = m :: r ∧ m + 1 = x := by
  obtain ⟨t, ht, e⟩ := hx
  have t1 := hT_pos t
  have t2 := hT_le (tab_ok h s 4 k t hk h1 hs ht)
  obtain ⟨r, e2⟩ := filt_first (fun i => decide (0 < NH b k s (i + 1))) (m := x - 1) (decide_eq_true (NH_pos.mpr ⟨t, ht, by omega⟩)) (fun j hj => by
    rw [decide_eq_false_iff_not]
    intro z
    obtain ⟨u, hu, e2⟩ := NH_pos.mp z
    have := hle u hu
    omega) s (by omega)
  exact ⟨r, x - 1, e2, by omega⟩
theorem found_e {Γ : List Slot} {Sx : S} (hs : s ≤ 4) (hl : Γ.length = 6) (h2 : Γ[2]? = some (.frz (.int (s : Int)))) (h3 : Γ[3]? = some (.frz (.lst ((List.range s).map fun i => .int (NH b k s (i + 1) : Int))))) :
    mLc [5] (.nm 5) (mIt rng1 (mName 2)) (mBool (mOp fGt (mOp fIx (mRead 3) (mName 5)) (mC (.int 0)))) (mOp fAdd (mName 5) (mC (.int 1))) ⟨Γ, Sx⟩ = .ok (.lst ((hFl b k s).map fun i => .int ((i + 1 : Nat) : Int))) ⟨Γ, Sx⟩ := by
  refine mLc_vf (v := 5) (by omega) (List.range s) (fun (i : Nat) => .int (i : Int)) (fun i => .int ((i + 1 : Nat) : Int)) (fun i => decide (0 < NH b k s (i + 1))) (it_of (n_frz h2) (rng1_map (by omega))) (by rw [List.length_range]; omega) fun i hi => ?_
  have hi := List.mem_range.mp hi
  have g5 : (Γ.set 5 (.frz (.int (i : Int))))[5]? = some (.frz (.int (i : Int))) := g_self (by omega)
  have gt : fGt (.int (NH b k s (i + 1) : Int)) (.int 0) = some (.bl (decide (0 < NH b k s (i + 1)))) := by
    rw [fGt_int]
    congr 2
    rw [Bool.eq_iff_iff, decide_eq_true_iff, decide_eq_true_iff]
    omega
  exact ⟨bool_e (op_e (ix_e (r_frz (i := 3) (by rw [g_ne (by decide)]; exact h3)) (n_frz g5) (rg_at (j := i) _ hi)) (mC_ap _ _) gt), op_e (n_frz g5) (mC_ap _ _) (fAdd_int _ _)⟩
theorem sh_fl (l : List Nat) : Sh 1 (.lst (l.map fun i => .int ((i + 1 : Nat) : Int))) := sh_lst (sh_map l _ fun i _ => sh_int _)
theorem great_ok (h : BookOk N b) (hk : k < b.many) (h1 : 1 ≤ s) (hs : s ≤ 4) (Sx : S) : f_greatest_height [bkD b, .int (k : Int), .int (s : Int)] Sx = .ok (.int (hTs (tab b 4 k s) : Int)) Sx := by
  have bh := by_height_ok h hk h1 hs Sx
  unfold f_greatest_height c_greatest_height
  refine run_rt (Γ' := [.frz (bkD b), .frz (.int (k : Int)), .frz (.int (s : Int)), .frz (.lst ((List.range s).map fun i => .int (NH b k s (i + 1) : Int))), .frz (.lst ((hFl b k s).map fun i => .int ((i + 1 : Nat) : Int))), .none]) (seq_e (set_nx (call3 (n_frz (i := 0) rfl) (n_frz (i := 1) rfl) (n_frz (i := 2) rfl) bh) (by simp)) (seq_e (frzown (found_e hs rfl rfl rfl) (by simp)) (ret_e ?_)))
  by_cases hn : tab b 4 k s = []
  · have e := hFl_nil hn
    rw [e, hn]
    exact mif_f (bool_e (op_e (n_frz (i := 4) rfl) nil_e (fNe_self sh_nil (by decide)))) (mC_ap _ _)
  · obtain ⟨r, m, e, em⟩ := hFl_last h hk h1 hs hn
    have ne : fNe (.lst ((hFl b k s).map fun i => .int ((i + 1 : Nat) : Int))) (.lst []) = some (.bl true) := by
      have sh := sh_fl (hFl b k s)
      cases hf : hFl b k s with
      | nil => rw [hf] at e; simp at e
      | cons i l => rw [hf] at sh; exact fNe_cons sh (by decide)
    have ix : fIx (.lst ((hFl b k s).map fun i => .int ((i + 1 : Nat) : Int))) (.int (-1)) = some (.int (hTs (tab b 4 k s) : Int)) := by
      rw [e, List.map_append, ← em]
      exact fIx_last _ _
    exact mif_t (bool_e (op_e (n_frz (i := 4) rfl) nil_e ne)) (ix_e (r_frz (i := 4) rfl) (un_e (mC_ap _ _) rfl) ix)
theorem least_none (h : BookOk N b) (hk : k < b.many) (h1 : 1 ≤ s) (hs : s ≤ 4) (hn : tab b 4 k s = []) (Sx : S) : f_least_height [bkD b, .int (k : Int), .int (s : Int)] Sx = .ok (.int 0) Sx := by
  have bh := by_height_ok h hk h1 hs Sx
  unfold f_least_height c_least_height
  refine run_rt (Γ' := [.frz (bkD b), .frz (.int (k : Int)), .frz (.int (s : Int)), .frz (.lst ((List.range s).map fun i => .int (NH b k s (i + 1) : Int))), .frz (.lst ((hFl b k s).map fun i => .int ((i + 1 : Nat) : Int))), .none]) (seq_e (set_nx (call3 (n_frz (i := 0) rfl) (n_frz (i := 1) rfl) (n_frz (i := 2) rfl) bh) (by simp)) (seq_e (frzown (found_e hs rfl rfl rfl) (by simp)) (ret_e ?_)))
  rw [hFl_nil hn]
  exact mif_f (bool_e (op_e (n_frz (i := 4) rfl) nil_e (fNe_self sh_nil (by decide)))) (mC_ap _ _)
theorem least_ok (h : BookOk N b) (hk : k < b.many) (h1 : 1 ≤ s) (hs : s ≤ 4) {x : Nat} (hx : ∃ t ∈ tab b 4 k s, hT t = x) (hle : ∀ t ∈ tab b 4 k s, x ≤ hT t) (Sx : S) : f_least_height [bkD b, .int (k : Int), .int (s : Int)] Sx = .ok (.int (x : Int)) Sx := by
  have bh := by_height_ok h hk h1 hs Sx
  obtain ⟨r, m, e, em⟩ := hFl_first h hk h1 hs hx hle
  unfold f_least_height c_least_height
  refine run_rt (Γ' := [.frz (bkD b), .frz (.int (k : Int)), .frz (.int (s : Int)), .frz (.lst ((List.range s).map fun i => .int (NH b k s (i + 1) : Int))), .frz (.lst ((hFl b k s).map fun i => .int ((i + 1 : Nat) : Int))), .none]) (seq_e (set_nx (call3 (n_frz (i := 0) rfl) (n_frz (i := 1) rfl) (n_frz (i := 2) rfl) bh) (by simp)) (seq_e (frzown (found_e hs rfl rfl rfl) (by simp)) (ret_e ?_)))
  have sh := sh_fl (hFl b k s)
  rw [e] at sh ⊢
  have ix : fIx (.lst ((m :: r).map fun i => .int ((i + 1 : Nat) : Int))) (.int 0) = some (.int (x : Int)) := by
    rw [← em]
    exact fIx_lst (k := 0) rfl
  exact mif_t (bool_e (op_e (n_frz (i := 4) rfl) nil_e (fNe_cons sh (by decide)))) (ix_e (r_frz (i := 4) rfl) (mC_ap _ _) ix)
end
end Law


set_option Elab.async false
set_option linter.all false
set_option maxRecDepth 100000
set_option maxHeartbeats 1000000
set_option exponentiation.threshold 10000
/-! T11: a line of one thing, of two rounds; the words. -/
namespace Law
open FP PySem
section
variable {R : Type} [Lean.Grind.CommSemiring R]
theorem pR_append (a c : List R) : pR (a ++ c) = pR a * pR c := by
  induction a with
  | nil => show pR c = 1 * pR c; grind
  | cons x a ih => show x * pR (a ++ c) = x * pR a * pR c; rw [ih]; grind
theorem pR_flat {ι : Type} (f : ι → List R) (l : List ι) : pR (l.flatMap f) = pR (l.map fun i => pR (f i)) := by
  induction l with
  | nil => rfl
  | cons i l ih => rw [List.flatMap_cons, pR_append, ih]; rfl
theorem sR_swap {ι κ : Type} (f : ι → κ → R) (l : List ι) (m : List κ) : sR (l.map fun i => sR (m.map fun j => f i j)) = sR (m.map fun j => sR (l.map fun i => f i j)) := by
  induction l with
  | nil => exact (sR_zero fun _ _ => rfl).symm
  | cons i l ih =>
    show sR (m.map fun j => f i j) + sR (l.map fun i => sR (m.map fun j => f i j)) = sR (m.map fun j => f i j + sR (l.map fun i => f i j))
    rw [ih, sR_add]
theorem sR_one {n m : Nat} (x : R) (h : m < n) : sR ((List.range n).map fun s => if s = m then x else 0) = x := by
  induction n with
  | zero => omega
  | succ n ih =>
    rw [List.range_succ, List.map_append, sR_append]
    by_cases e : m = n
    · subst e
      rw [sR_zero (l := List.range m) (f := fun s => if s = m then x else 0) fun i hi => if_neg (by have := List.mem_range.mp hi; omega)]
      show 0 + ((if m = m then x else 0) + 0) = x
      rw [if_pos rfl]; grind
    · rw [ih (by omega)]
      show x + ((if n = m then x else 0) + 0) = x
      rw [if_neg (fun z => e z.symm)]; grind
theorem Rn_one (r : Nat → R) : ∀ (ks : List Nat) (s : Nat), Rn (fun k f => if f = 1 then r k else 0) ks s = if s = ks.length then pR (ks.map r) else 0
  | [], s => rfl
  | k :: ks, s => by
    unfold Rn
    rw [List.length_cons]
    by_cases c : s ≤ ks.length
    · rw [show s - ks.length = 0 by omega, if_neg (by omega)]; rfl
    · obtain ⟨m, hm⟩ : ∃ m, s - ks.length = m + 1 := ⟨s - ks.length - 1, by omega⟩
      rw [hm, List.range_succ_eq_map, List.map_cons, List.map_map]
      show (if 0 + 1 = 1 then r k else 0) * Rn (fun k f => if f = 1 then r k else 0) ks (s - (0 + 1)) + sR ((List.range m).map fun f => (if f + 1 + 1 = 1 then r k else 0) * Rn (fun k f => if f = 1 then r k else 0) ks (s - (f + 1 + 1))) = _
      rw [sR_zero (l := List.range m) (f := fun f => (if f + 1 + 1 = 1 then r k else 0) * Rn (fun k f => if f = 1 then r k else 0) ks (s - (f + 1 + 1))) fun i _ => by rw [if_neg (by omega)]; grind, if_pos rfl, Rn_one r ks]
      by_cases e : s = ks.length + 1
      · rw [if_pos e, if_pos (by omega)]
        show _ = r k * pR (ks.map r)
        grind
      · rw [if_neg e, if_neg (by omega)]; grind
end
theorem pR_rep (x : Rat) : ∀ n, pR (List.replicate n x) = x ^ n
  | 0 => by rw [Rat.pow_zero]; rfl
  | n + 1 => by
    rw [List.replicate_succ, Rat.pow_succ, ← pR_rep x n]
    show x * pR (List.replicate n x) = _
    rw [Rat.mul_comm]
theorem lotv_pR : ∀ (rs : List Rat) (ns : List Nat), rs.length = ns.length → lotv rs ns = pR ((List.range ns.length).map fun i => rs.getD i 0 ^ ns.getD i 0)
  | [], [], _ => rfl
  | r :: rs, n :: ns, h => by
    rw [List.length_cons, List.range_succ_eq_map, List.map_cons, List.map_map]
    show r ^ n * lotv rs ns = r ^ n * pR ((List.range ns.length).map fun i => rs.getD i 0 ^ ns.getD i 0)
    rw [lotv_pR rs ns (by simpa using h)]
theorem lotv_things {rs : List Rat} {lot : List Nat} (h : rs.length = lot.length) : lotv rs lot = pR ((thingsL lot).map fun k => rs.getD k 0) := by
  rw [lotv_pR rs lot h]
  unfold thingsL
  rw [List.map_flatMap, pR_flat]
  congr 1
  apply List.map_congr_left
  intro i _
  rw [List.map_replicate, pR_rep]
def unitL (m k : Nat) : List Nat := (List.range m).map fun i => if i = k then 1 else 0
theorem pR_unit (x : Nat → Rat) {m k : Nat} (h : k < m) : pR ((List.range m).map fun i => x i ^ (if i = k then 1 else 0)) = x k := by
  have no : ∀ n, n ≤ k → pR ((List.range n).map fun i => x i ^ (if i = k then 1 else 0)) = 1 := by
    intro n hn
    rw [List.map_congr_left (g := fun _ => 1) fun i hi => ?_, pR_ones]
    have := List.mem_range.mp hi
    rw [if_neg (by omega), Rat.pow_zero]
  have go : ∀ n, k < n → pR ((List.range n).map fun i => x i ^ (if i = k then 1 else 0)) = x k := by
    intro n
    induction n with
    | zero => omega
    | succ n ih =>
      intro hn
      rw [List.range_succ, List.map_append, pR_append]
      show pR ((List.range n).map fun i => x i ^ (if i = k then 1 else 0)) * (x n ^ (if n = k then 1 else 0) * 1) = _
      by_cases e : n = k
      · subst e
        rw [no n (Nat.le_refl _), if_pos rfl, Rat.pow_succ, Rat.pow_zero]; grind
      · rw [ih (by omega), if_neg e, Rat.pow_zero]; grind
  exact go m h
theorem lotv_unit {rs : List Rat} {k : Nat} (h : k < rs.length) : lotv rs (unitL rs.length k) = rs.getD k 0 := by
  have hl : (unitL rs.length k).length = rs.length := by unfold unitL; rw [List.length_map, List.length_range]
  rw [lotv_pR rs _ hl.symm, hl, ← pR_unit (fun i => rs.getD i 0) h]
  congr 1
  apply List.map_congr_left
  intro i hi
  have hi := List.mem_range.mp hi
  show rs.getD i 0 ^ (unitL rs.length k).getD i 0 = _
  unfold unitL
  rw [List.getD_eq_getElem?_getD (l := List.map _ _), List.getElem?_map, List.getElem?_range hi]
  rfl
theorem unit_sum {m k : Nat} : (unitL m k).sum ≤ 1 := by
  unfold unitL
  have no : ∀ n, n ≤ k → ((List.range n).map fun i => if i = k then 1 else 0).sum = 0 := by
    intro n hn
    induction n with
    | zero => rfl
    | succ n ih => rw [List.range_succ, List.map_append, List.sum_append, ih (by omega)]; simp; omega
  induction m with
  | zero => exact Nat.zero_le _
  | succ n ih =>
    rw [List.range_succ, List.map_append, List.sum_append]
    show _ + ((if n = k then 1 else 0) + 0) ≤ 1
    by_cases e : n = k
    · subst e; rw [no n (Nat.le_refl _), if_pos rfl]; decide
    · rw [if_neg e]; omega
section
variable {N : Nat} {b : Book}
theorem rowAt_len (h : BookOk N b) : ∀ t, (rowAt b t).length = b.many
  | 0 => List.length_replicate
  | t + 1 => by show (b.lits.map (litv (rowAt b t))).length = _; rw [List.length_map, h.ll]
theorem rowAt_at (h : BookOk N b) {k : Nat} (hk : k < b.many) (t : Nat) : (rowAt b (t + 1)).getD k 0 = litv (rowAt b t) (litsOf b k) := by
  show (b.lits.map (litv (rowAt b t))).getD k 0 = _
  unfold litsOf
  rw [List.getD_eq_getElem?_getD, List.getElem?_map, List.getD_eq_getElem?_getD, List.getElem?_eq_getElem (by rw [h.ll]; exact hk)]
  rfl
theorem lit_things (h : BookOk N b) {k : Nat} (hk : k < b.many) (t : Nat) : litv (rowAt b t) (litsOf b k) = sR ((litsOf b k).map fun x => x.2 * pR ((thingsL x.1).map fun k => (rowAt b t).getD k 0)) := by
  unfold litv
  rw [rsum_sR]
  congr 1
  apply List.map_congr_left
  intro x hx
  have hl := ((h.lk _ (litsOf_ok h hk)).each x hx).1
  rw [lotv_things (by rw [rowAt_len h, hl])]
theorem cQ0 (k s : Nat) : cQ b 0 k s = 0 := rfl
theorem cQ1 (h : BookOk N b) {k : Nat} (hk : k < b.many) (s : Nat) : cQ b 1 k s = if s = 1 then (rowAt b 1).getD k 0 else 0 := by
  cases s with
  | zero => rw [if_neg (by decide)]; exact cQ_zero b 1 k
  | succ s =>
    have e0 : ∀ ks s, Rn (cQ b 0) ks s = if s = ks.length then pR (ks.map fun k => (rowAt b 0).getD k 0) else 0 := by
      intro ks s
      rw [← Rn_one]
      have : (rowAt b 0) = List.replicate b.many 0 := rfl
      have z : ∀ k, (rowAt b 0).getD k 0 = 0 := by
        intro k
        rw [this, List.getD_eq_getElem?_getD, List.getElem?_replicate]
        split <;> rfl
      have ee : cQ b 0 = fun k f => if f = 1 then (rowAt b 0).getD k 0 else 0 := by
        funext k f
        rw [z]
        show (0 : Rat) = _
        split <;> rfl
      rw [ee]
    rw [cQ_succ]
    rw [rowAt_at h hk, lit_things h hk]
    by_cases c : s = 0
    · subst c
      rw [if_pos rfl]
      refine sR_congr fun x _ => ?_
      congr 1
      cases ht : thingsL x.1 with
      | nil => rfl
      | cons i l =>
        have : Rn (cQ b 0) (i :: l) 0 = 0 := by rw [e0, if_neg (by rw [List.length_cons]; omega)]
        rw [this]
        show (0 : Rat) = (rowAt b 0).getD i 0 * _
        have : (rowAt b 0).getD i 0 = 0 := by
          show (List.replicate b.many (0 : Rat)).getD i 0 = 0
          rw [List.getD_eq_getElem?_getD, List.getElem?_replicate]
          split <;> rfl
        rw [this, Rat.zero_mul]
    · rw [if_neg (by omega)]
      refine sR_zero fun x _ => ?_
      have : Rn (cQ b 0) (thingsL x.1) s = 0 := by
        rw [e0]
        split
        · rename_i e
          cases ht : thingsL x.1 with
          | nil => rw [ht] at e; exact absurd e c
          | cons i l =>
            show (rowAt b 0).getD i 0 * _ = 0
            have : (rowAt b 0).getD i 0 = 0 := by
              show (List.replicate b.many (0 : Rat)).getD i 0 = 0
              rw [List.getD_eq_getElem?_getD, List.getElem?_replicate]
              split <;> rfl
            rw [this, Rat.zero_mul]
        · rfl
      rw [this, Rat.mul_zero]
theorem alone_eq (h : BookOk N b) {k : Nat} (hk : k < b.many) : rsum ((List.range (7 + 1)).map fun s => cQ b 2 k s) = (rowAt b 2).getD k 0 := by
  rw [rsum_sR, List.range_succ_eq_map, List.map_cons, List.map_map]
  show cQ b 2 k 0 + sR ((List.range 7).map fun s => cQ b 2 k (s + 1)) = _
  rw [cQ_zero, Rat.zero_add, rowAt_at h hk, lit_things h hk]
  have e : ∀ s, cQ b 2 k (s + 1) = sR ((litsOf b k).map fun x => x.2 * if s = (thingsL x.1).length then pR ((thingsL x.1).map fun k => (rowAt b 1).getD k 0) else 0) := by
    intro s
    rw [cQ_succ]
    congr 1
    apply List.map_congr_left
    intro x hx
    have hl := ((h.lk _ (litsOf_ok h hk)).each x hx).1
    rw [← Rn_one]
    congr 1
    exact Rn_congr _ _ fun j hj f _ _ => cQ1 h (by have := thingsL_mem hj; omega) f
  rw [sR_congr fun s _ => e s, sR_swap]
  refine sR_congr fun x hx => ?_
  obtain ⟨h1, h2, _⟩ := (h.lk _ (litsOf_ok h hk)).each x hx
  rw [sR_mul, sR_one _ (by rw [thingsL_len]; omega)]
theorem alone_ev (h : BookOk N b) {k : Nat} (hk : k < b.many) (hs : b.st = unitL b.many k) : rsum ((List.range (7 + 1)).map fun s => cQ b 2 k s) = ev b 2 := by
  rw [alone_eq h hk]
  unfold ev
  rw [hs, ← rowAt_len h 2, lotv_unit (by rw [rowAt_len h]; exact hk)]
end
/-! the words -/
theorem wsz : ("this may not be done: " : PySem.Str).length + ("size" : PySem.Str).length ≤ PySem.sizeLine := by decide +kernel
theorem wht : ("this may not be done: " : PySem.Str).length + ("height" : PySem.Str).length ≤ PySem.sizeLine := by decide +kernel
theorem check_size (Sx : S) {a h : D} (h1 : fLe (.int 1) a = some (.bl true)) (h2 : fLe a (.int 16) = some (.bl false)) : f_check [a, h] Sx = .exc .misstep "size" Sx := by
  unfold f_check runF c_check
  simp [bind_ap, pure_ap, rb_ok, out_ok, ofO_some, mC_ap, a_seq, a_nil, a_pass, a_brk, a_if, a_ret, a_retN, a_drop, a_set, a_own, a_frz, a_tg, a_par, a_for, a_op, a_un, a_cons, a_mnil, a_call, a_tup, a_lst, a_bool, a_tru, a_mif, a_chain, a_it, a_rng2, a_part, mName, mRead, sl, out_exc, rb_exc, h1, h2, rs_ap _ _ wsz]
theorem check_size0 (Sx : S) {a h : D} (h1 : fLe (.int 1) a = some (.bl false)) : f_check [a, h] Sx = .exc .misstep "size" Sx := by
  unfold f_check runF c_check
  simp [bind_ap, pure_ap, rb_ok, out_ok, ofO_some, mC_ap, a_seq, a_nil, a_pass, a_brk, a_if, a_ret, a_retN, a_drop, a_set, a_own, a_frz, a_tg, a_par, a_for, a_op, a_un, a_cons, a_mnil, a_call, a_tup, a_lst, a_bool, a_tru, a_mif, a_chain, a_it, a_rng2, a_part, mName, mRead, sl, out_exc, rb_exc, h1, rs_ap _ _ wsz]
theorem check_ht (Sx : S) {a h : D} (h1 : fLe (.int 1) a = some (.bl true)) (h2 : fLe a (.int 16) = some (.bl true)) (h3 : fLe (.int 0) h = some (.bl true)) (h4 : fLe h a = some (.bl false)) : f_check [a, h] Sx = .exc .misstep "height" Sx := by
  unfold f_check runF c_check
  simp [bind_ap, pure_ap, rb_ok, out_ok, ofO_some, mC_ap, a_seq, a_nil, a_pass, a_brk, a_if, a_ret, a_retN, a_drop, a_set, a_own, a_frz, a_tg, a_par, a_for, a_op, a_un, a_cons, a_mnil, a_call, a_tup, a_lst, a_bool, a_tru, a_mif, a_chain, a_it, a_rng2, a_part, mName, mRead, sl, out_exc, rb_exc, h1, h2, h3, h4, rs_ap _ _ wht]
theorem check_ht0 (Sx : S) {a h : D} (h1 : fLe (.int 1) a = some (.bl true)) (h2 : fLe a (.int 16) = some (.bl true)) (h3 : fLe (.int 0) h = some (.bl false)) : f_check [a, h] Sx = .exc .misstep "height" Sx := by
  unfold f_check runF c_check
  simp [bind_ap, pure_ap, rb_ok, out_ok, ofO_some, mC_ap, a_seq, a_nil, a_pass, a_brk, a_if, a_ret, a_retN, a_drop, a_set, a_own, a_frz, a_tg, a_par, a_for, a_op, a_un, a_cons, a_mnil, a_call, a_tup, a_lst, a_bool, a_tru, a_mif, a_chain, a_it, a_rng2, a_part, mName, mRead, sl, out_exc, rb_exc, h1, h2, h3, rs_ap _ _ wht]
theorem word0 (Sx : S) (b : D) : f__law_word [.int 0, b] Sx = .ok (.str "size") Sx := by
  have r := check_size Sx (a := .int 17) (h := .int 0) rfl rfl
  unfold f__law_word runF c__law_word
  simp [bind_ap, pure_ap, rb_ok, out_ok, ofO_some, mC_ap, a_seq, a_nil, a_pass, a_brk, a_if, a_ret, a_retN, a_drop, a_set, a_own, a_frz, a_tg, a_par, a_for, a_op, a_un, a_cons, a_mnil, a_call, a_tup, a_lst, a_bool, a_tru, a_mif, a_chain, a_it, a_rng2, a_part, mName, mRead, sl, out_exc, rb_exc, cTry, fEq_int, fAdd_int, r]
theorem word1 (Sx : S) (b : D) : f__law_word [.int 1, b] Sx = .ok (.str "size") Sx := by
  have h := check_size0 Sx (a := .int 0) (h := .int 0) rfl
  have r : f_many_low [b, .int 0, .int 0, .int 0] Sx = .exc .misstep "size" Sx := by
    unfold f_many_low runF c_many_low
    simp [bind_ap, pure_ap, rb_ok, out_ok, ofO_some, mC_ap, a_seq, a_nil, a_pass, a_brk, a_if, a_ret, a_retN, a_drop, a_set, a_own, a_frz, a_tg, a_par, a_for, a_op, a_un, a_cons, a_mnil, a_call, a_tup, a_lst, a_bool, a_tru, a_mif, a_chain, a_it, a_rng2, a_part, mName, mRead, sl, out_exc, rb_exc, h]
  unfold f__law_word runF c__law_word
  simp [bind_ap, pure_ap, rb_ok, out_ok, ofO_some, mC_ap, a_seq, a_nil, a_pass, a_brk, a_if, a_ret, a_retN, a_drop, a_set, a_own, a_frz, a_tg, a_par, a_for, a_op, a_un, a_cons, a_mnil, a_call, a_tup, a_lst, a_bool, a_tru, a_mif, a_chain, a_it, a_rng2, a_part, mName, mRead, sl, out_exc, rb_exc, cTry, fEq_int, r]
theorem word2 (Sx : S) (b : D) : f__law_word [.int 2, b] Sx = .ok (.str "height") Sx := by
  have h := check_ht Sx (a := .int 2) (h := .int 3) rfl rfl rfl rfl
  have r : f_chance_low [b, .int 0, .int 2, .int 3] Sx = .exc .misstep "height" Sx := by
    unfold f_chance_low runF c_chance_low
    simp [bind_ap, pure_ap, rb_ok, out_ok, ofO_some, mC_ap, a_seq, a_nil, a_pass, a_brk, a_if, a_ret, a_retN, a_drop, a_set, a_own, a_frz, a_tg, a_par, a_for, a_op, a_un, a_cons, a_mnil, a_call, a_tup, a_lst, a_bool, a_tru, a_mif, a_chain, a_it, a_rng2, a_part, mName, mRead, sl, out_exc, rb_exc, h]
  unfold f__law_word runF c__law_word
  simp [bind_ap, pure_ap, rb_ok, out_ok, ofO_some, mC_ap, a_seq, a_nil, a_pass, a_brk, a_if, a_ret, a_retN, a_drop, a_set, a_own, a_frz, a_tg, a_par, a_for, a_op, a_un, a_cons, a_mnil, a_call, a_tup, a_lst, a_bool, a_tru, a_mif, a_chain, a_it, a_rng2, a_part, mName, mRead, sl, out_exc, rb_exc, cTry, fEq_int, r]
theorem word3 (Sx : S) (b : D) : f__law_word [.int 3, b] Sx = .ok (.str "height") Sx := by
  have h := check_ht0 Sx (a := .int 2) (h := .int (-1)) rfl rfl rfl
  have r : f_ended_low [b, .int 0, .int 2, .int (-1)] Sx = .exc .misstep "height" Sx := by
    unfold f_ended_low runF c_ended_low
    simp [bind_ap, pure_ap, rb_ok, out_ok, ofO_some, mC_ap, a_seq, a_nil, a_pass, a_brk, a_if, a_ret, a_retN, a_drop, a_set, a_own, a_frz, a_tg, a_par, a_for, a_op, a_un, a_cons, a_mnil, a_call, a_tup, a_lst, a_bool, a_tru, a_mif, a_chain, a_it, a_rng2, a_part, mName, mRead, sl, out_exc, rb_exc, h]
  unfold f__law_word runF c__law_word
  simp [bind_ap, pure_ap, rb_ok, out_ok, ofO_some, mC_ap, a_seq, a_nil, a_pass, a_brk, a_if, a_ret, a_retN, a_drop, a_set, a_own, a_frz, a_tg, a_par, a_for, a_op, a_un, a_cons, a_mnil, a_call, a_tup, a_lst, a_bool, a_tru, a_mif, a_chain, a_it, a_rng2, a_part, mName, mRead, sl, out_exc, rb_exc, cTry, fEq_int, fNeg, r]
end Law


set_option Elab.async false
set_option linter.all false
set_option maxRecDepth 100000
set_option maxHeartbeats 4000000
set_option exponentiation.threshold 10000
/-! T12: law's loop body, piece by piece. -/
namespace Law
open FP PySem
noncomputable def lw0 : Cmd :=
  (cSet 3 (mCall 2 f__law_book (mCons (mName 1) (mCons (mC (.int 2)) mNil))))
noncomputable def lw1 : Cmd :=
  (cTg (.tp [4, 5]) (mCall 2 f__law_laid (mCons (mName 3) (mCons (mC (.int 4)) mNil))))
noncomputable def lw2 : Cmd :=
  (cPar 6 7 false false (mCall 2 f__law_take (mCons (mName 1) (mCons (mUn fLen (mOp fIx (mRead 3) (mC (.int 1)))) mNil))) (mOp fAdd (mC (.int 1)) (mCall 2 f__law_take (mCons (mName 1) (mCons (mName 5) mNil)))))
noncomputable def lw3 : Cmd :=
  (cSet 8 (mOp fDix (mRead 4) (mTup (mCons (mName 6) (mCons (mName 7) mNil)))))
noncomputable def lw4 : Cmd :=
  (cSet 9 (mLc [10] (.nm 10) (mIt lstOf (mRead 8)) (M.pure true) (mCall 1 f__law_height (mCons (mName 10) mNil))))
noncomputable def lw5 : Cmd :=
  (cSet 11 (mLc [10] (.nm 10) (mIt lstOf (mRead 8)) (M.pure true) (mCall 2 f__law_chance (mCons (mName 3) (mCons (mName 10) mNil)))))
noncomputable def lw6 : Cmd :=
  (cFrz 12 (cOwn 12 (mLc [14] (.nm 14) (mRng2 (mC (.int 1)) (mOp fAdd (mName 7) (mC (.int 1)))) (M.pure true) (mUn fLen (mLc [13] (.nm 13) (mIt lstOf (mRead 9)) (mBool (mOp fEq (mName 13) (mName 14))) (mC (.int 1)))))))
noncomputable def lw7 : Cmd :=
  (cSet 15 (mLc [14] (.nm 14) (mRng2 (mC (.int 1)) (mOp fAdd (mName 7) (mC (.int 1)))) (M.pure true) (mCall 1 f__law_sum (mCons (mLc [16] (.nm 16) (mIt rng1 (mUn fLen (mRead 8))) (mBool (mOp fEq (mOp fIx (mRead 9) (mName 16)) (mName 14))) (mOp fIx (mRead 11) (mName 16))) mNil))))
noncomputable def lw8 : Cmd :=
  (cIf (mIf (mBool (mOp fNe (mUn fList (mCall 3 f_by_height (mCons (mName 3) (mCons (mName 6) (mCons (mName 7) mNil))))) (mName 12))) (M.pure true) (mBool (mOp fNe (mUn fList (mCall 3 f_chances_by_height (mCons (mName 3) (mCons (mName 6) (mCons (mName 7) mNil))))) (mName 15)))) (cRet (mC (.bl false))) cNil)
noncomputable def lw9 : Cmd :=
  (cFor (.nm 14) [14, 17] (mIt rng1 (mOp fAdd (mName 7) (mC (.int 1)))) (cSeq (cIf (mIf (mBool (mOp fNe (mCall 4 f_many_low (mCons (mName 3) (mCons (mName 6) (mCons (mName 7) (mCons (mName 14) mNil))))) (mUn fSum (mSlL (mRead 12) (M.pure none) (mPart (mName 14)))))) (M.pure true) (mBool (mOp fNe (mCall 4 f_chance_low (mCons (mName 3) (mCons (mName 6) (mCons (mName 7) (mCons (mName 14) mNil))))) (mCall 1 f__law_sum (mCons (mSlL (mRead 15) (M.pure none) (mPart (mName 14))) mNil))))) (cRet (mC (.bl false))) cNil)
  (cSeq (cSet 17 (mLst mNil))
  (cSeq (cFor (.nm 18) [] (mRng2 (mC (.int 1)) (mOp fAdd (mName 7) (mC (.int 1)))) (cSet 17 (mOp fCat (mRead 17) (mLc [10] (.nm 10) (mIt lstOf (mOp fDix (mRead 4) (mTup (mCons (mName 6) (mCons (mName 18) mNil))))) (mBool (mOp fLe (mCall 1 f__law_height (mCons (mName 10) mNil)) (mName 14))) (mCall 2 f__law_chance (mCons (mName 3) (mCons (mName 10) mNil)))))))
  (cIf (mBool (mOp fNe (mCall 4 f_ended_low (mCons (mName 3) (mCons (mName 6) (mCons (mName 7) (mCons (mName 14) mNil))))) (mCall 1 f__law_sum (mCons (mName 17) mNil)))) (cRet (mC (.bl false))) cNil)))))
noncomputable def lw10 : Cmd :=
  (cSet 19 (mCall 1 f__law_sum (mCons (mName 15) mNil)))
noncomputable def lw11 : Cmd :=
  (cIf (mBool (mOp fEq (mOp fIx (mRead 19) (mC (.int 0))) (mC (.int 0)))) (cIf (mIf (mBool (mOp fNotN (mCall 3 f_mean_height (mCons (mName 3) (mCons (mName 6) (mCons (mName 7) mNil)))) (mC .non))) (M.pure true) (mBool (mOp fNotN (mCall 3 f_likely_height (mCons (mName 3) (mCons (mName 6) (mCons (mName 7) mNil)))) (mC .non)))) (cRet (mC (.bl false))) cNil) (cSeq (cSet 20 (mCall 1 f__law_sum (mCons (mLc [16] (.nm 16) (mIt rng1 (mName 7)) (M.pure true) (mCall 2 f__law_mul (mCons (mTup (mCons (mOp fAdd (mName 16) (mC (.int 1))) (mCons (mC (.int 1)) mNil))) (mCons (mOp fIx (mRead 15) (mName 16)) mNil)))) mNil)))
  (cSeq (cSet 21 (mC (.int 0)))
  (cSeq (cFor (.nm 16) [] (mIt rng1 (mName 7)) (cSet 21 (mIf (mTru (mCall 2 f__law_less (mCons (mOp fIx (mRead 15) (mName 21)) (mCons (mOp fIx (mRead 15) (mName 16)) mNil)))) (mName 16) (mName 21))))
  (cIf (mIf (mBool (mOp fNe (mCall 3 f_mean_height (mCons (mName 3) (mCons (mName 6) (mCons (mName 7) mNil)))) (mCall 2 f__law_fr (mCons (mOp fMul (mOp fIx (mRead 20) (mC (.int 0))) (mOp fIx (mRead 19) (mC (.int 1)))) (mCons (mOp fMul (mOp fIx (mRead 20) (mC (.int 1))) (mOp fIx (mRead 19) (mC (.int 0)))) mNil))))) (M.pure true) (mBool (mOp fNe (mCall 3 f_likely_height (mCons (mName 3) (mCons (mName 6) (mCons (mName 7) mNil)))) (mOp fAdd (mName 21) (mC (.int 1)))))) (cRet (mC (.bl false))) cNil)))))
noncomputable def lw12 : Cmd :=
  (cIf (mIf (mBool (mOp fNe (mCall 3 f_greatest_height (mCons (mName 3) (mCons (mName 6) (mCons (mName 7) mNil)))) (mUn fMax (mOp fCat (mLst (mCons (mC (.int 0)) mNil)) (mRead 9))))) (M.pure true) (mBool (mOp fNe (mCall 3 f_least_height (mCons (mName 3) (mCons (mName 6) (mCons (mName 7) mNil)))) (mIf (mBool (mOp fNe (mName 9) (mLst mNil))) (mUn fMin (mRead 9)) (mC (.int 0)))))) (cRet (mC (.bl false))) cNil)
noncomputable def lw13 : Cmd :=
  (cSet 14 (mCall 2 f__law_take (mCons (mName 1) (mCons (mOp fAdd (mName 7) (mC (.int 1))) mNil))))
noncomputable def lw14 : Cmd :=
  (cPar 22 23 false false (mCall 4 f_low_table (mCons (mName 3) (mCons (mName 7) (mCons (mName 14) (mCons (mC (.bl false)) mNil))))) (mCall 4 f_low_table (mCons (mName 3) (mCons (mName 7) (mCons (mName 14) (mCons (mC (.bl true)) mNil))))))
noncomputable def lw15 : Cmd :=
  (cFor (.nm 13) [24] (mIt rng1 (mUn fLen (mOp fIx (mRead 3) (mC (.int 1))))) (cSeq (cSet 24 (mOp fCat (mLst (mCons (mLst mNil) mNil)) (mLc [18] (.nm 18) (mRng2 (mC (.int 1)) (mOp fAdd (mName 7) (mC (.int 1)))) (M.pure true) (mLc [10] (.nm 10) (mIt lstOf (mOp fDix (mRead 4) (mTup (mCons (mName 13) (mCons (mName 18) mNil))))) (mBool (mOp fLe (mCall 1 f__law_height (mCons (mName 10) mNil)) (mName 14))) (mName 10)))))
  (cIf (mIf (mBool (mOp fNe (mUn fList (mOp fIx (mRead 22) (mName 13))) (mLc [25] (.nm 25) (mIt lstOf (mRead 24)) (M.pure true) (mUn fLen (mRead 25))))) (M.pure true) (mBool (mOp fNe (mUn fList (mOp fIx (mRead 23) (mName 13))) (mLc [25] (.nm 25) (mIt lstOf (mRead 24)) (M.pure true) (mCall 1 f__law_sum (mCons (mLc [10] (.nm 10) (mIt lstOf (mRead 25)) (M.pure true) (mCall 2 f__law_chance (mCons (mName 3) (mCons (mName 10) mNil)))) mNil)))))) (cRet (mC (.bl false))) cNil)))
noncomputable def lw16 : Cmd :=
  (cSet 26 (mCall 1 f__law_things (mCons (mCall 3 f__law_lot (mCons (mName 1) (mCons (mUn fLen (mOp fIx (mRead 3) (mC (.int 1)))) (mCons (mC (.int 2)) mNil)))) mNil)))
noncomputable def lw17 : Cmd :=
  (cSet 27 (mCall 2 f__law_take (mCons (mName 1) (mCons (mOp fAdd (mName 7) (mC (.int 1))) mNil))))
noncomputable def lw18 : Cmd :=
  (cIf (mBool (mOp fNe (mCall 4 f_rows_of (mCons (mLc [13] (.nm 13) (mIt rng1 (mUn fLen (mOp fIx (mRead 3) (mC (.int 1))))) (M.pure true) (mOp fCat (mLst (mCons (mC (.int 0)) mNil)) (mLc [18] (.nm 18) (mRng2 (mC (.int 1)) (mOp fAdd (mName 7) (mC (.int 1)))) (M.pure true) (mUn fLen (mOp fDix (mRead 4) (mTup (mCons (mName 13) (mCons (mName 18) mNil)))))))) (mCons (mName 26) (mCons (mName 27) (mCons (mC (.bl false)) mNil))))) (mUn fLen (mCall 3 f__law_rows (mCons (mName 4) (mCons (mName 26) (mCons (mName 27) mNil))))))) (cRet (mC (.bl false))) cNil)
noncomputable def lw19 : Cmd :=
  (cSet 28 (mOp fAdd (mSlT (mName 3) (M.pure none) (mPart (mC (.int 3)))) (mTup (mCons (mUn fTuple (mLc [16] (.nm 16) (mIt rng1 (mUn fLen (mOp fIx (mRead 3) (mC (.int 1))))) (M.pure true) (mUn fInt (mOp fEq (mName 16) (mName 6))))) mNil))))
noncomputable def lw20 : Cmd :=
  (cIf (mIf (mBool (mOp fNe (mCall 4 f_ended_low (mCons (mName 28) (mCons (mName 6) (mCons (mC (.int 7)) (mCons (mC (.int 2)) mNil))))) (mOp fIx (mCall 2 f_round_chances (mCons (mName 28) (mCons (mC (.int 2)) mNil))) (mC (.int 2))))) (mBool (mOp fLe (mOp fMul (mUn fMax (mLc [25, 29] (.tp [25, 29]) (mIt tupOf (mOp fIx (mOp fIx (mRead 3) (mC (.int 2))) (mName 6))) (M.pure true) (mUn fSum (mRead 25)))) (mC (.int 3))) (mC (.int 6)))) (M.pure false)) (cRet (mC (.bl false))) cNil)
noncomputable def lw21 : Cmd :=
  (cIf (mBool (mOp fNe (mLc [16] (.nm 16) (mIt rng1 (mC (.int 4))) (M.pure true) (mCall 2 f__law_word (mCons (mName 16) (mCons (mName 3) mNil)))) (mLst (mCons (mC (.str "size")) (mCons (mC (.str "size")) (mCons (mC (.str "height")) (mCons (mC (.str "height")) mNil))))))) (cRet (mC (.bl false))) cNil)
noncomputable def lwB : Cmd := (cSeq lw0 (cSeq lw1 (cSeq lw2 (cSeq lw3 (cSeq lw4 (cSeq lw5 (cSeq lw6 (cSeq lw7 (cSeq lw8 (cSeq lw9 (cSeq lw10 (cSeq lw11 (cSeq lw12 (cSeq lw13 (cSeq lw14 (cSeq lw15 (cSeq lw16 (cSeq lw17 (cSeq lw18 (cSeq lw19 (cSeq lw20 lw21)))))))))))))))))))))
theorem c_law_eq : c_law = cSeq (cFor (.nm 2) [2, 3, 4, 5, 6, 7, 8, 9, 11, 12, 15, 17, 19, 20, 21, 22, 23, 24, 26, 27, 28, 29] (mIt rng1 (mC (.int 3))) lwB) (cRet (mC (.bl true))) := rfl
end Law


set_option Elab.async false
set_option linter.all false
set_option maxRecDepth 100000
set_option maxHeartbeats 1000000
set_option exponentiation.threshold 10000
/-! T13: law's turn: the table, the trees, the shares. -/
namespace Law
open FP PySem
structure Ct (N : Nat) (b : Book) (m k s : Nat) (dks : List (List L2.Key × D)) : Prop where
  ok : BookOk N b
  kk : k < b.many
  s1 : 1 ≤ s
  sm : s ≤ m
  m4 : m ≤ 4
  T : TabOk dks (tab b 4) b.many m
structure Bs (b : Book) (m k s : Nat) (dks : List (List L2.Key × D)) (Γ : List Slot) : Prop where
  len : Γ.length = 30
  h1 : Γ[1]? = some (.frz .st)
  h3 : Γ[3]? = some (.frz (bkD b))
  h4 : Γ[4]? = some (.frz (.dT dks))
  h5 : Γ[5]? = some (.frz (.int (m : Int)))
  h6 : Γ[6]? = some (.frz (.int (k : Int)))
  h7 : Γ[7]? = some (.frz (.int (s : Int)))
def dueL (b : Book) (k s : Nat) : D := .lst ((List.range s).map fun i => .int (NH b k s (i + 1) : Int))
def partL (b : Book) (k s : Nat) : D := .lst ((List.range s).map fun i => fr (QH b k s (i + 1)))
def tallL (l : List Tr) : D := .lst (l.map fun t => .int (hT t : Int))
def shareL (b : Book) (l : List Tr) : D := .lst (l.map fun t => fr (chT b t))
section
variable {Γ Γ1 Γ2 : List Slot} {Sx Sy Sz S1 S2 : S} {N : Nat} {b : Book} {m k s : Nat} {dks : List (List L2.Key × D)} {i : Nat} {x y z : D}
theorem Bs.set (B : Bs b m k s dks Γ) {i : Nat} {sl : Slot} (h : i ≠ 1 ∧ i ≠ 3 ∧ i ≠ 4 ∧ i ≠ 5 ∧ i ≠ 6 ∧ i ≠ 7) : Bs b m k s dks (Γ.set i sl) :=
  ⟨by rw [List.length_set]; exact B.len, by rw [g_ne h.1]; exact B.h1, by rw [g_ne h.2.1]; exact B.h3, by rw [g_ne h.2.2.1]; exact B.h4, by rw [g_ne h.2.2.2.1]; exact B.h5, by rw [g_ne h.2.2.2.2.1]; exact B.h6, by rw [g_ne h.2.2.2.2.2]; exact B.h7⟩
theorem par_e {i j : Nat} {a c : M D} (ha : a ⟨Γ, Sx⟩ = .ok x ⟨Γ1, S1⟩) (hb : c ⟨Γ1, S1⟩ = .ok y ⟨Γ2, S2⟩) (hi : i < Γ2.length) (hj : j < Γ2.length) : cPar i j false false a c ⟨Γ, Sx⟩ = .nx ⟨(Γ2.set i (.frz x)).set j (.frz y), S2⟩ := by
  rw [a_par, ha, out_ok, hb, out_ok]
  show (if i < Γ2.length ∧ j < Γ2.length then _ else _) = _
  rw [if_pos ⟨hi, hj⟩]; rfl
theorem ne_no {a c : M D} {n : Nat} (ha : a ⟨Γ, Sx⟩ = .ok x ⟨Γ1, S1⟩) (hb : c ⟨Γ1, S1⟩ = .ok x ⟨Γ2, S2⟩) (hx : Sh n x) (hn : n ≤ 64 := by decide) : mBool (mOp fNe a c) ⟨Γ, Sx⟩ = .ok false ⟨Γ2, S2⟩ := bool_e (op_e ha hb (fNe_self hx hn))
theorem rng1_big {n : Nat} (h : n ≤ 100000) : rng1 (.int (n : Int)) = some ((List.range n).map fun (i : Nat) => .int (i : Int)) := by
  rw [← rng_map]
  unfold rng1
  have e1 : -(2 ^ 62 : Int) ≤ (n : Int) := by omega
  have e2 : (n : Int) < 2 ^ 62 := by omega
  simp only [e1, e2, and_self, if_true, Int.toNat_natCast]
theorem it_1s {v : Nat} (h : Γ[v]? = some (.frz (.int (s : Int)))) (hs : s ≤ 10) : mRng2 (mC (.int 1)) (mOp fAdd (mName v) (mC (.int 1))) ⟨Γ, Sx⟩ = .ok ((List.range s).map fun (i : Nat) => .int ((i + 1 : Nat) : Int)) ⟨Γ, Sx⟩ := by
  have e := rng2_e (Γ := Γ) (Sx := Sx) (a := mC (.int 1)) (b := mOp fAdd (mName v) (mC (.int 1))) (p := 1) (q := s + 1) (mC_ap _ _) (op_e (n_frz h) (mC_ap _ _) (fAdd_int _ _)) (by decide) (by omega)
  have q : (List.range (s + 1 - 1)).map (fun (i : Nat) => D.int ((1 + i : Nat) : Int)) = (List.range s).map fun (i : Nat) => .int ((i + 1 : Nat) : Int) := by
    rw [Nat.add_sub_cancel]
    apply List.map_congr_left
    intro i _
    rw [Nat.add_comm]
  rw [q] at e
  exact e
theorem it_s1 {v : Nat} (h : Γ[v]? = some (.frz (.int (s : Int)))) (hs : s ≤ 10) : mIt rng1 (mOp fAdd (mName v) (mC (.int 1))) ⟨Γ, Sx⟩ = .ok ((List.range (s + 1)).map fun (i : Nat) => .int (i : Int)) ⟨Γ, Sx⟩ := it_of (op_e (n_frz h) (mC_ap _ _) (fAdd_int _ _)) (rng1_map (n := s + 1) (by omega))
theorem bk_names : fIx (bkD b) (.int 1) = some (.tup b.names) := fIx_tup (k := 1) rfl
theorem bk_lits : fIx (bkD b) (.int 2) = some (.tup (b.lits.map litD)) := fIx_tup (k := 2) rfl
theorem many_e (h : BookOk N b) (h3 : Γ[3]? = some (.frz (bkD b))) : mUn fLen (mOp fIx (mRead 3) (mC (.int 1))) ⟨Γ, Sx⟩ = .ok (.int (b.many : Int)) ⟨Γ, Sx⟩ := un_e (ix_e (r_frz h3) (mC_ap _ _) bk_names) (names_len h)
theorem Lf_le : ∀ f, Lf f ≤ 1250 := by
  intro f
  unfold Lf
  split
  · decide
  · split
    · decide
    · split <;> decide
theorem tab_small (h : BookOk N b) {k f : Nat} (h1 : 1 ≤ f) (hf : f ≤ 4) : (tab b 4 k f).length ≤ 1250 := Nat.le_trans (tab_tb h 4 (by decide) k f h1 hf) (Lf_le f)
theorem idx_filter {α β : Type} (l : List α) (d : α) (p : α → Bool) (f : α → β) : ((List.range l.length).filter fun i => p (l.getD i d)).map (fun i => f (l.getD i d)) = (l.filter p).map f := by
  have e := getD_map (fun x => x) d l
  rw [List.map_id'] at e
  have e2 : l.filter p = ((List.range l.length).filter fun i => p (l.getD i d)).map fun j => l.getD j d := by
    have q := congrArg (List.filter p) e.symm
    rw [List.filter_map] at q
    exact q
  rw [e2, List.map_map]
  rfl
theorem p0 {v : D} (hl : Γ.length = 30) (h : f__law_book [.st, .int 2] Sx = .ok v Sz) (h1 : Γ[1]? = some (.frz .st)) : lw0 ⟨Γ, Sx⟩ = .nx ⟨Γ.set 3 (.frz v), Sz⟩ := by
  unfold lw0
  exact set_nx (call2 (n_frz h1) (mC_ap _ _) h) (by omega)
theorem p1 (hl : Γ.length = 30) (h3 : Γ[3]? = some (.frz (bkD b))) (h : f__law_laid [bkD b, .int 4] Sx = .ok (.tup [x, y]) Sx) : lw1 ⟨Γ, Sx⟩ = .nx ⟨(Γ.set 4 (.frz x)).set 5 (.frz y), Sx⟩ := by
  unfold lw1
  exact tg2 (call2 (n_frz h3) (mC_ap _ _) h) (by omega) (by omega)
theorem p2 {d : Nat} (ok : BookOk N b) (h : Dk d Sx) (hd : d ≤ 800000) (hl : Γ.length = 30) (h1 : Γ[1]? = some (.frz .st)) (h3 : Γ[3]? = some (.frz (bkD b))) (h5 : Γ[5]? = some (.frz (.int (m : Int)))) (m1 : 1 ≤ m) (m4 : m ≤ 4) :
    ∃ (k s : Nat) (Sz : S), lw2 ⟨Γ, Sx⟩ = .nx ⟨(Γ.set 6 (.frz (.int (k : Int)))).set 7 (.frz (.int (s : Int))), Sz⟩ ∧ k < b.many ∧ 1 ≤ s ∧ s ≤ m ∧ Dk (d + 2) Sz := by
  obtain ⟨k, S1, hk, e1, d1⟩ := take_ok h (by omega) b.many ok.m1 (by have := ok.m3; omega)
  obtain ⟨v, S2, hv, e2, d2⟩ := take_ok d1 (by omega) m m1 (by omega)
  have ad : fAdd (.int 1) (.int (v : Int)) = some (.int ((1 + v : Nat) : Int)) := by show some (D.int (1 + (v : Int))) = _; rw [Int.natCast_add]; rfl
  refine ⟨k, 1 + v, S2, ?_, hk, by omega, by omega, d2⟩
  unfold lw2
  exact par_e (call2 (n_frz h1) (many_e ok h3) e1) (op_e (mC_ap _ _) (call2 (n_frz h1) (n_frz h5) e2) ad) (by omega) (by omega)
theorem p3 (C : Ct N b m k s dks) (B : Bs b m k s dks Γ) : lw3 ⟨Γ, Sx⟩ = .nx ⟨Γ.set 8 (.frz (treesD (tab b 4 k s))), Sx⟩ := by
  unfold lw3
  exact set_nx (op_e (r_frz B.h4) (tup2e (n_frz B.h6) (n_frz B.h7)) (tab_at C.T C.kk C.s1 C.sm)) (by have := B.len; omega)
theorem ok_tab (C : Ct N b m k s dks) {f : Nat} (h1 : 1 ≤ f) (hf : f ≤ s) {t : Tr} (ht : t ∈ tab b 4 k f) : okT b 4 t := okT_le (tab_ok C.ok f 4 k t C.kk h1 (by have := C.sm; have := C.m4; omega) ht) (by have := C.sm; have := C.m4; omega)
theorem p4 (C : Ct N b m k s dks) (B : Bs b m k s dks Γ) (h8 : Γ[8]? = some (.frz (treesD (tab b 4 k s)))) : lw4 ⟨Γ, Sx⟩ = .nx ⟨Γ.set 9 (.frz (tallL (tab b 4 k s))), Sx⟩ := by
  have hl := B.len
  have hs : s ≤ 4 := Nat.le_trans C.sm C.m4
  unfold lw4
  exact set_nx (mLc_v (v := 10) (by omega) (tab b 4 k s) trD (fun t => .int (hT t : Int)) (it_l h8) (by have := tab_small C.ok (k := k) C.s1 hs; omega) fun t ht => call1 (n_frz (g_self (by omega))) (lheight_ok (ok_tab C C.s1 (Nat.le_refl _) ht) (by decide) Sx)) (by omega)
theorem p5 (C : Ct N b m k s dks) (B : Bs b m k s dks Γ) (h8 : Γ[8]? = some (.frz (treesD (tab b 4 k s)))) : lw5 ⟨Γ, Sx⟩ = .nx ⟨Γ.set 11 (.frz (shareL b (tab b 4 k s))), Sx⟩ := by
  have hl := B.len
  have hs : s ≤ 4 := Nat.le_trans C.sm C.m4
  unfold lw5
  exact set_nx (mLc_v (v := 10) (by omega) (tab b 4 k s) trD (fun t => fr (chT b t)) (it_l h8) (by have := tab_small C.ok (k := k) C.s1 hs; omega) fun t ht => call2 (n_frz (B.set (i := 10) (by decide)).h3) (n_frz (g_self (by omega))) (lchance_ok C.ok (ok_tab C C.s1 (Nat.le_refl _) ht) (by decide) Sx)) (by omega)
theorem p6 (C : Ct N b m k s dks) (B : Bs b m k s dks Γ) (h9 : Γ[9]? = some (.frz (tallL (tab b 4 k s)))) : lw6 ⟨Γ, Sx⟩ = .nx ⟨Γ.set 12 (.frz (dueL b k s)), Sx⟩ := by
  have hl := B.len
  have hs : s ≤ 4 := Nat.le_trans C.sm C.m4
  unfold lw6
  refine frzown (mLc_v (v := 14) (by omega) (List.range s) (fun (i : Nat) => .int ((i + 1 : Nat) : Int)) (fun i => .int (NH b k s (i + 1) : Int)) (it_1s B.h7 (by omega)) (by rw [List.length_range]; omega) fun i hi => ?_) (by omega)
  have lc := mLc_vf (Γ := Γ.set 14 (.frz (.int ((i + 1 : Nat) : Int)))) (Sx := Sx) (v := 13) (mt := mBool (mOp fEq (mName 13) (mName 14))) (me := mC (.int 1)) (by rw [List.length_set]; omega) (tab b 4 k s) (fun t => .int (hT t : Int)) (fun _ => .int 1) (fun t => decide (hT t = i + 1)) (it_l (i := 9) (by rw [g_ne (by decide)]; exact h9)) (by have := tab_small C.ok (k := k) C.s1 hs; omega) fun t ht =>
    ⟨bool_e (op_e (n_frz (g_self (by rw [List.length_set]; omega))) (n_frz (i := 14) (by rw [g_ne (by decide)]; exact g_self (by omega))) (fEq_nat _ _)), mC_ap _ _⟩
  refine un_e lc ?_
  rw [fLen_lst, List.length_map]
  rfl
theorem ofH_sum (C : Ct N b m k s dks) (hh : Nat) : sumOk 0 ((ofH b k s hh).map (chT b)) := by
  have hs : s ≤ 4 := Nat.le_trans C.sm C.m4
  refine sumOk_ig0 (M := N ^ 15) (c := 1) (Nat.pow_pos C.ok.N0) (Nat.le_refl _) (fun p hp => ?_) ?_
  · obtain ⟨t, ht, rfl⟩ := List.mem_map.mp hp
    exact (ch_pb C.ok (ofH_ok C.ok C.kk C.s1 hs ht)).ig
  · rw [List.length_map, Nat.one_mul]
    refine B1250 C.ok ?_
    have := List.length_filter_le (fun t => decide (hT t = hh)) (tab b 4 k s)
    have := tab_small C.ok (k := k) C.s1 hs
    show (ofH b k s hh).length ≤ _
    unfold ofH
    omega
theorem p7 (C : Ct N b m k s dks) (B : Bs b m k s dks Γ) (h8 : Γ[8]? = some (.frz (treesD (tab b 4 k s)))) (h9 : Γ[9]? = some (.frz (tallL (tab b 4 k s)))) (h11 : Γ[11]? = some (.frz (shareL b (tab b 4 k s)))) : lw7 ⟨Γ, Sx⟩ = .nx ⟨Γ.set 15 (.frz (partL b k s)), Sx⟩ := by
  have hl := B.len
  have hs : s ≤ 4 := Nat.le_trans C.sm C.m4
  have hn := tab_small C.ok (k := k) C.s1 hs
  unfold lw7
  refine set_nx (mLc_v (v := 14) (by omega) (List.range s) (fun (i : Nat) => .int ((i + 1 : Nat) : Int)) (fun i => fr (QH b k s (i + 1))) (it_1s B.h7 (by omega)) (by rw [List.length_range]; omega) fun i hi => ?_) (by omega)
  have sm := lsum_ok Sx _ (ofH_sum C (i + 1))
  rw [rsum_sR] at sm
  have sm : f__law_sum [.lst (((ofH b k s (i + 1)).map (chT b)).map fr)] Sx = .ok (fr (QH b k s (i + 1))) Sx := sm
  have hi2 : mIt rng1 (mUn fLen (mRead 8)) ⟨Γ.set 14 (.frz (.int ((i + 1 : Nat) : Int))), Sx⟩ = .ok ((List.range (tab b 4 k s).length).map fun (j : Nat) => .int (j : Int)) ⟨Γ.set 14 (.frz (.int ((i + 1 : Nat) : Int))), Sx⟩ :=
    it_of (un_e (r_frz (i := 8) (by rw [g_ne (by decide)]; exact h8)) (by show some (D.int (((tab b 4 k s).map trD).length : Int)) = _; rw [List.length_map])) (rng1_big (by omega))
  have lc := mLc_vf (Γ := Γ.set 14 (.frz (.int ((i + 1 : Nat) : Int)))) (Sx := Sx) (v := 16) (mt := mBool (mOp fEq (mOp fIx (mRead 9) (mName 16)) (mName 14))) (me := mOp fIx (mRead 11) (mName 16)) (by rw [List.length_set]; omega) (List.range (tab b 4 k s).length) (fun (j : Nat) => .int (j : Int)) (fun j => fr (chT b ((tab b 4 k s).getD j (.mk 0 0 [])))) (fun j => decide (hT ((tab b 4 k s).getD j (.mk 0 0 [])) = i + 1)) hi2 (by rw [List.length_range]; omega) fun j hj => by
    have hj := List.mem_range.mp hj
    have g16 : ((Γ.set 14 (.frz (.int ((i + 1 : Nat) : Int)))).set 16 (.frz (.int (j : Int))))[16]? = some (.frz (.int (j : Int))) := g_self (by rw [List.length_set]; omega)
    have gd : (tab b 4 k s)[j]? = some ((tab b 4 k s).getD j (.mk 0 0 [])) := by rw [List.getD_eq_getElem?_getD, List.getElem?_eq_getElem hj]; rfl
    have i9 : fIx (tallL (tab b 4 k s)) (.int (j : Int)) = some (.int (hT ((tab b 4 k s).getD j (.mk 0 0 [])) : Int)) := fIx_lst (by rw [List.getElem?_map, gd]; rfl)
    have i11 : fIx (shareL b (tab b 4 k s)) (.int (j : Int)) = some (fr (chT b ((tab b 4 k s).getD j (.mk 0 0 [])))) := fIx_lst (by rw [List.getElem?_map, gd]; rfl)
    exact ⟨bool_e (op_e (ix_e (r_frz (i := 9) (by rw [g_ne (by decide), g_ne (by decide)]; exact h9)) (n_frz g16) i9) (n_frz (i := 14) (by rw [g_ne (by decide)]; exact g_self (by omega))) (fEq_nat _ _)), ix_e (r_frz (i := 11) (by rw [g_ne (by decide), g_ne (by decide)]; exact h11)) (n_frz g16) i11⟩
  rw [idx_filter (tab b 4 k s) (.mk 0 0 []) (fun t => decide (hT t = i + 1)) (fun t => fr (chT b t))] at lc
  refine call1 lc ?_
  rw [List.map_map] at sm
  exact sm
theorem sh_due : Sh 1 (dueL b k s) := sh_lst (sh_map _ _ fun _ _ => sh_int _)
theorem p8 (C : Ct N b m k s dks) (B : Bs b m k s dks Γ) (h12 : Γ[12]? = some (.frz (dueL b k s))) (h15 : Γ[15]? = some (.frz (partL b k s))) : lw8 ⟨Γ, Sx⟩ = .nx ⟨Γ, Sx⟩ := by
  have hs : s ≤ 4 := Nat.le_trans C.sm C.m4
  unfold lw8
  exact if_no (mif_f (ne_no (un_e (call3 (n_frz B.h3) (n_frz B.h6) (n_frz B.h7) (by_height_ok C.ok C.kk C.s1 hs Sx)) rfl) (n_frz h12) sh_due) (ne_no (un_e (call3 (n_frz B.h3) (n_frz B.h6) (n_frz B.h7) (chances_by_height_ok C.ok C.kk C.s1 hs Sx)) rfl) (n_frz h15) (sh_frs _ _)))
end
end Law


set_option Elab.async false
set_option linter.all false
set_option maxRecDepth 100000
set_option maxHeartbeats 1000000
set_option exponentiation.threshold 10000
/-! T14: law's turn: low heights, the mean, the likeliest. -/
namespace Law
open FP PySem
structure Bt (b : Book) (m k s : Nat) (dks : List (List L2.Key × D)) (Γ : List Slot) : Prop where
  B : Bs b m k s dks Γ
  h9 : Γ[9]? = some (.frz (tallL (tab b 4 k s)))
  h12 : Γ[12]? = some (.frz (dueL b k s))
  h15 : Γ[15]? = some (.frz (partL b k s))
def fewL (b : Book) (k j i : Nat) : List Rat := (List.range i).flatMap fun f => ((tab b 4 k (f + 1)).filter fun t => decide (hT t ≤ j)).map (chT b)
theorem fewL_succ (b : Book) (k j i : Nat) : fewL b k j (i + 1) = fewL b k j i ++ ((tab b 4 k (i + 1)).filter fun t => decide (hT t ≤ j)).map (chT b) := by
  unfold fewL
  rw [List.range_succ, List.flatMap_append]
  simp
theorem fewL_sum (b : Book) (k j s : Nat) (hs : s ≤ 4) : rsum (fewL b k j s) = rsum ((List.range (s + 1)).map fun i => cQ b j k i) := by
  rw [rsum_sR, rsum_sR, List.range_succ_eq_map, List.map_cons, List.map_map]
  show sR (fewL b k j s) = cQ b j k 0 + sR ((List.range s).map fun i => cQ b j k (i + 1))
  rw [cQ_zero, Rat.zero_add]
  unfold fewL
  rw [sR_flat]
  refine sR_congr fun i hi => ?_
  have hi := List.mem_range.mp hi
  rw [cQ_eq (by omega)]
section
variable {Γ Γ1 Γ2 : List Slot} {Sx Sy Sz S1 S2 : S} {N : Nat} {b : Book} {m k s : Nat} {dks : List (List L2.Key × D)} {i : Nat} {x y z : D}
theorem Bt.set (B : Bt b m k s dks Γ) {i : Nat} {sl : Slot} (h : i ≠ 1 ∧ i ≠ 3 ∧ i ≠ 4 ∧ i ≠ 5 ∧ i ≠ 6 ∧ i ≠ 7) (g : i ≠ 9 ∧ i ≠ 12 ∧ i ≠ 15) : Bt b m k s dks (Γ.set i sl) :=
  ⟨B.B.set h, by rw [g_ne g.1]; exact B.h9, by rw [g_ne g.2.1]; exact B.h12, by rw [g_ne g.2.2]; exact B.h15⟩
theorem fLe_n (a c : Nat) : fLe (.int (a : Int)) (.int (c : Int)) = some (.bl (decide (a ≤ c))) := by
  rw [fLe_int]
  congr 2
  rw [Bool.eq_iff_iff, decide_eq_true_iff, decide_eq_true_iff]
  omega
theorem fewL_ok (C : Ct N b m k s dks) (j : Nat) : sumOk 0 (fewL b k j s) ∧ (fewL b k j s).length ≤ 5000 := by
  have hs : s ≤ 4 := Nat.le_trans C.sm C.m4
  have hl : (fewL b k j s).length ≤ 5000 := by
    have : (fewL b k j s).length ≤ 1250 * (List.range s).length := flat_len _ 1250 _ fun f hf => by
      have hf := List.mem_range.mp hf
      rw [List.length_map]
      exact Nat.le_trans (List.length_filter_le _ _) (tab_small C.ok (k := k) (by omega) (by omega))
    rw [List.length_range] at this
    omega
  refine ⟨sumOk_ig0 (M := N ^ 15) (c := 1) (Nat.pow_pos C.ok.N0) (Nat.le_refl _) (fun p hp => ?_) ?_, hl⟩
  · unfold fewL at hp
    obtain ⟨f, hf, hp⟩ := List.mem_flatMap.mp hp
    obtain ⟨t, ht, rfl⟩ := List.mem_map.mp hp
    have hf := List.mem_range.mp hf
    exact (ch_pb C.ok (ok_tab C (f := f + 1) (by omega) (by omega) (List.mem_filter.mp ht).1)).ig
  · rw [Nat.one_mul]
    exact B1250 C.ok (by omega)
theorem q9 (C : Ct N b m k s dks) (B : Bt b m k s dks Γ) {j : Nat} (hj : j ≤ s) (h14 : Γ[14]? = some (.frz (.int (j : Int)))) :
    ∃ Γ', cFor (.nm 18) [] (mRng2 (mC (.int 1)) (mOp fAdd (mName 7) (mC (.int 1)))) (cSet 17 (mOp fCat (mRead 17) (mLc [10] (.nm 10) (mIt lstOf (mOp fDix (mRead 4) (mTup (mCons (mName 6) (mCons (mName 18) mNil))))) (mBool (mOp fLe (mCall 1 f__law_height (mCons (mName 10) mNil)) (mName 14))) (mCall 2 f__law_chance (mCons (mName 3) (mCons (mName 10) mNil)))))) ⟨Γ.set 17 (.frz (.lst [])), Sx⟩ = .nx ⟨Γ', Sx⟩ ∧
      Bt b m k s dks Γ' ∧ Γ'[14]? = some (.frz (.int (j : Int))) ∧ Γ'[17]? = some (.frz (.lst ((fewL b k j s).map fr))) := by
  have hs : s ≤ 4 := Nat.le_trans C.sm C.m4
  have hl := B.B.len
  obtain ⟨Γ', Sz, e, h1, h2, h3, rfl⟩ := cfor_inv (v := 18) (mask := []) (c := cSet 17 (mOp fCat (mRead 17) (mLc [10] (.nm 10) (mIt lstOf (mOp fDix (mRead 4) (mTup (mCons (mName 6) (mCons (mName 18) mNil))))) (mBool (mOp fLe (mCall 1 f__law_height (mCons (mName 10) mNil)) (mName 14))) (mCall 2 f__law_chance (mCons (mName 3) (mCons (mName 10) mNil)))))) (Γ := Γ.set 17 (.frz (.lst [])))
    (fun i Γ S' => Bt b m k s dks Γ ∧ Γ[14]? = some (.frz (.int (j : Int))) ∧ Γ[17]? = some (.frz (.lst ((fewL b k j i).map fr))) ∧ S' = Sx) (fun i Γ Sy h => by have := h.1.B.len; omega)
    (it_1s (Sx := Sx) (B.set (i := 17) (sl := .frz (.lst [])) (by decide) (by decide)).B.h7 (by omega)) (fun i d Γ Sy hi ⟨g1, g2, g3, gS⟩ => by
      obtain ⟨im, rfl⟩ := rg_get hi
      subst gS
      have hl := g1.B.len
      have B2 := g1.set (i := 18) (sl := .frz (.int ((i + 1 : Nat) : Int))) (by decide) (by decide)
      have fd := tab_at C.T C.kk (f := i + 1) (by omega) (by have := C.sm; omega)
      have it : mIt lstOf (mOp fDix (mRead 4) (mTup (mCons (mName 6) (mCons (mName 18) mNil)))) ⟨Γ.set 18 (.frz (.int ((i + 1 : Nat) : Int))), Sy⟩ = .ok ((tab b 4 k (i + 1)).map trD) ⟨Γ.set 18 (.frz (.int ((i + 1 : Nat) : Int))), Sy⟩ :=
        it_of (f := lstOf) (op_e (r_frz B2.B.h4) (tup2e (n_frz B2.B.h6) (n_frz (g_self (by omega)))) fd) rfl
      have lc := mLc_vf (v := 10) (mt := mBool (mOp fLe (mCall 1 f__law_height (mCons (mName 10) mNil)) (mName 14))) (me := mCall 2 f__law_chance (mCons (mName 3) (mCons (mName 10) mNil))) (by rw [List.length_set]; omega) (tab b 4 k (i + 1)) trD (fun t => fr (chT b t)) (fun t => decide (hT t ≤ j)) it (by have := tab_small C.ok (k := k) (f := i + 1) (by omega) (by omega); omega) fun t ht => by
        have ot := ok_tab C (f := i + 1) (by omega) (by omega) ht
        have B3 := B2.set (i := 10) (sl := .frz (trD t)) (by decide) (by decide)
        exact ⟨bool_e (op_e (call1 (n_frz (g_self (by rw [List.length_set]; omega))) (lheight_ok ot (by decide) Sy)) (n_frz (i := 14) (by rw [g_ne (by decide), g_ne (by decide)]; exact g2)) (fLe_n _ _)), call2 (n_frz B3.B.h3) (n_frz (g_self (by rw [List.length_set]; omega))) (lchance_ok C.ok ot (by decide) Sy)⟩
      have lens : ((fewL b k j i).map fr).length + (((tab b 4 k (i + 1)).filter fun t => decide (hT t ≤ j)).map fun t => fr (chT b t)).length ≤ 1000000 := by
        have h1 : (fewL b k j i).length ≤ 1250 * (List.range i).length := flat_len _ 1250 _ fun f hf => by
          have hf := List.mem_range.mp hf
          rw [List.length_map]
          exact Nat.le_trans (List.length_filter_le _ _) (tab_small C.ok (k := k) (by omega) (by omega))
        have h2 := List.length_filter_le (fun t => decide (hT t ≤ j)) (tab b 4 k (i + 1))
        have h3 := tab_small C.ok (k := k) (f := i + 1) (by omega) (by omega)
        rw [List.length_range] at h1
        rw [List.length_map, List.length_map]
        omega
      refine ⟨_, Sy, set_nx (op_e (r_frz (i := 17) (by rw [g_ne (by decide)]; exact g3)) lc (fCat_ok lens)) (by rw [List.length_set]; omega), ?_, ?_, ?_, rfl⟩
      · exact B2.set (by decide) (by decide)
      · show ((Γ.set 18 _).set 17 _)[14]? = _
        rw [g_ne (by decide), g_ne (by decide)]; exact g2
      · show ((Γ.set 18 _).set 17 _)[17]? = _
        rw [g_self (by rw [List.length_set]; omega), fewL_succ, List.map_append, List.map_map]; rfl) ⟨B.set (by decide) (by decide), by rw [g_ne (by decide)]; exact h14, by rw [g_self (by omega)]; rfl, rfl⟩
  rw [List.length_map, List.length_range] at h3
  exact ⟨Γ', e, h1, h2, h3⟩
theorem p9 (C : Ct N b m k s dks) (B : Bt b m k s dks Γ) : ∃ Γ', lw9 ⟨Γ, Sx⟩ = .nx ⟨Γ', Sx⟩ ∧ Bt b m k s dks Γ' := by
  have hs : s ≤ 4 := Nat.le_trans C.sm C.m4
  have hl := B.B.len
  unfold lw9
  obtain ⟨Γ', Sz, e, h1, rfl⟩ := cfor_inv (v := 14) (mask := [14, 17]) (c := (cSeq (cIf (mIf (mBool (mOp fNe (mCall 4 f_many_low (mCons (mName 3) (mCons (mName 6) (mCons (mName 7) (mCons (mName 14) mNil))))) (mUn fSum (mSlL (mRead 12) (M.pure none) (mPart (mName 14)))))) (M.pure true) (mBool (mOp fNe (mCall 4 f_chance_low (mCons (mName 3) (mCons (mName 6) (mCons (mName 7) (mCons (mName 14) mNil))))) (mCall 1 f__law_sum (mCons (mSlL (mRead 15) (M.pure none) (mPart (mName 14))) mNil))))) (cRet (mC (.bl false))) cNil)
  (cSeq (cSet 17 (mLst mNil))
  (cSeq (cFor (.nm 18) [] (mRng2 (mC (.int 1)) (mOp fAdd (mName 7) (mC (.int 1)))) (cSet 17 (mOp fCat (mRead 17) (mLc [10] (.nm 10) (mIt lstOf (mOp fDix (mRead 4) (mTup (mCons (mName 6) (mCons (mName 18) mNil))))) (mBool (mOp fLe (mCall 1 f__law_height (mCons (mName 10) mNil)) (mName 14))) (mCall 2 f__law_chance (mCons (mName 3) (mCons (mName 10) mNil)))))))
  (cIf (mBool (mOp fNe (mCall 4 f_ended_low (mCons (mName 3) (mCons (mName 6) (mCons (mName 7) (mCons (mName 14) mNil))))) (mCall 1 f__law_sum (mCons (mName 17) mNil)))) (cRet (mC (.bl false))) cNil))))) (Γ := Γ) (fun i Γ S' => Bt b m k s dks Γ ∧ S' = Sx) (fun i Γ Sy h => by have := h.1.B.len; omega)
    (it_s1 (Sx := Sx) B.B.h7 (by omega)) (fun j d Γ Sy hj ⟨g1, gS⟩ => by
      obtain ⟨jm, rfl⟩ := rg_get hj
      subst gS
      have hl := g1.B.len
      have g14 : (Γ.set 14 (.frz (.int (j : Int))))[14]? = some (.frz (.int (j : Int))) := g_self (by omega)
      have B2 := g1.set (i := 14) (sl := .frz (.int (j : Int))) (by decide) (by decide)
      generalize Γ.set 14 (.frz (.int (j : Int))) = Γ2 at g14 B2
      have hl := B2.B.len
      have s1 := sumN (fun i => NH b k s (i + 1)) (List.range j)
      rw [N_sum hs j] at s1
      have sl1 := slL_to (Sx := Sy) (ds := (List.range s).map fun i => .int (NH b k s (i + 1) : Int)) (n := j) (r_frz (i := 12) B2.h12) (n_frz g14) (by rw [List.length_map, List.length_range]; omega)
      rw [take_range _ (by omega)] at sl1
      have sl2 := slL_to (Sx := Sy) (ds := (List.range s).map fun i => fr (QH b k s (i + 1))) (n := j) (r_frz (i := 15) B2.h15) (n_frz g14) (by rw [List.length_map, List.length_range]; omega)
      rw [take_range _ (by omega)] at sl2
      have so : sumOk 0 ((List.range j).map fun i => QH b k s (i + 1)) := sumOk_ig0 (M := N ^ 15) (c := 1250) (Nat.pow_pos C.ok.N0) (by decide) (fun p hp => by
        obtain ⟨i, _, rfl⟩ := List.mem_map.mp hp
        exact QH_ig C.ok C.kk C.s1 hs _) (B1250 C.ok (by rw [List.length_map, List.length_range]; omega))
      have s2 := lsum_ok Sy _ so
      rw [Q_sum hs j, List.map_map] at s2
      obtain ⟨Γ3, f1, B3, f14, f17⟩ := q9 (Sx := Sy) C B2 (by omega) g14
      have s3 := lsum_ok Sy _ (fewL_ok C j).1
      rw [fewL_sum b k j s hs] at s3
      refine ⟨Γ3, Sy, seq_e (if_no (mif_f (ne_no (call4 (n_frz B2.B.h3) (n_frz B2.B.h6) (n_frz B2.B.h7) (n_frz g14) (many_low_ok C.ok C.kk C.s1 hs (by omega) Sy)) (un_e sl1 s1) (sh_int _)) (ne_no (call4 (n_frz B2.B.h3) (n_frz B2.B.h6) (n_frz B2.B.h7) (n_frz g14) (chance_low_ok C.ok C.kk C.s1 hs (by omega) Sy)) (call1 sl2 s2) (sh_fr _))))
        (seq_e (set_nx nil_e (by omega)) (seq_e f1 (if_no (ne_no (call4 (n_frz B3.B.h3) (n_frz B3.B.h6) (n_frz B3.B.h7) (n_frz f14) (ended_low_ok C.ok C.kk C.s1 (by omega) (by omega) (by omega) Sy)) (call1 (n_frz f17) s3) (sh_fr _))))), ?_, rfl⟩
      show Bt b m k s dks ((Γ3.set 17 .none).set 14 .none)
      exact (B3.set (by decide) (by decide)).set (by decide) (by decide)) ⟨B, rfl⟩
  exact ⟨Γ', e, h1⟩
theorem p10 (C : Ct N b m k s dks) (B : Bt b m k s dks Γ) : lw10 ⟨Γ, Sx⟩ = .nx ⟨Γ.set 19 (.frz (fr (wQ b k s))), Sx⟩ := by
  have hs : s ≤ 4 := Nat.le_trans C.sm C.m4
  have hl := B.B.len
  have s2 := lsum_ok Sx _ (wQ_ok C.ok C.kk C.s1 hs).1
  rw [List.map_map] at s2
  unfold lw10
  exact set_nx (call1 (n_frz B.h15) s2) (by omega)
theorem mul_dn {p q : Rat} (hp : Sm p) (hq : Sm q) (h0 : 0 ≤ q) : fMul (.int (p.den : Int)) (.int q.num) = some (.int ((p.den * q.num.toNat : Nat) : Int)) := by
  rw [fMul_ok hp.d9 hq.n9, Int.natCast_mul, ← num_nat h0]
theorem fNotN_non : fNotN .non .non = some (.bl false) := rfl
theorem p11 (C : Ct N b m k s dks) (B : Bt b m k s dks Γ) (h19 : Γ[19]? = some (.frz (fr (wQ b k s)))) : ∃ Γ', lw11 ⟨Γ, Sx⟩ = .nx ⟨Γ', Sx⟩ ∧ Bt b m k s dks Γ' := by
  have hs : s ≤ 4 := Nat.le_trans C.sm C.m4
  have hl := B.B.len
  have e := fEq_int (wQ b k s).num 0
  unfold lw11
  by_cases hz : (wQ b k s).num = 0
  · rw [decide_eq_true hz] at e
    refine ⟨Γ, if_yes (bool_e (op_e (ix_e (r_frz h19) (mC_ap _ _) (fIx_fr0 _)) (mC_ap _ _) e)) (if_no (mif_f (bool_e (op_e (call3 (n_frz B.B.h3) (n_frz B.B.h6) (n_frz B.B.h7) (mean_height_none C.ok C.kk C.s1 hs hz Sx)) (mC_ap _ _) fNotN_non)) (bool_e (op_e (call3 (n_frz B.B.h3) (n_frz B.B.h6) (n_frz B.B.h7) (likely_none C.ok C.kk C.s1 hs hz Sx)) (mC_ap _ _) fNotN_non)))), B⟩
  · rw [decide_eq_false hz] at e
    have qs : ∀ i, Sm (QH b k s i) := fun i => QH_sm C.ok C.kk C.s1 hs i
    have lc := mLc_v (Γ := Γ) (Sx := Sx) (v := 16) (me := mCall 2 f__law_mul (mCons (mTup (mCons (mOp fAdd (mName 16) (mC (.int 1))) (mCons (mC (.int 1)) mNil))) (mCons (mOp fIx (mRead 15) (mName 16)) mNil))) (by omega) (List.range s) (fun (i : Nat) => .int (i : Int)) (fun i => fr (((i + 1 : Nat) : Rat) * QH b k s (i + 1))) (it_of (n_frz B.B.h7) (rng1_map (by omega))) (by rw [List.length_range]; omega) fun i hi => by
      have hi := List.mem_range.mp hi
      have g16 : (Γ.set 16 (.frz (.int (i : Int))))[16]? = some (.frz (.int (i : Int))) := g_self (by omega)
      have r2 := rg_at (fun i => fr (QH b k s (i + 1))) (m := s) (j := i) hi
      have ad : fAdd (.int (i : Int)) (.int 1) = some (.int ((i + 1 : Nat) : Int)) := fAdd_int _ _
      have lm := lmul_ok Sx (p := ((i + 1 : Nat) : Rat)) (q := QH b k s (i + 1)) (nat_sm (Nat.lt_of_lt_of_le (show i + 1 < 2 ^ 10 by omega) (Nat.pow_le_pow_right (by decide) (by decide)))) (qs _)
      have t2 := tup2e (Γ := Γ.set 16 (.frz (.int (i : Int)))) (Sx := Sx) (op_e (n_frz g16) (mC_ap (.int 1) _) ad) (mC_ap (.int 1) _)
      rw [← fr_nat] at t2
      exact call2 t2 (ix_e (r_frz (i := 15) (by rw [g_ne (by decide)]; exact B.h15)) (n_frz g16) r2) lm
    have mq := mQ_ok C.ok C.kk C.s1 hs
    have s2 := lsum_ok Sx _ mq.1
    rw [List.map_map] at s2
    have c20 : cSet 20 (mCall 1 f__law_sum (mCons (mLc [16] (.nm 16) (mIt rng1 (mName 7)) (M.pure true) (mCall 2 f__law_mul (mCons (mTup (mCons (mOp fAdd (mName 16) (mC (.int 1))) (mCons (mC (.int 1)) mNil))) (mCons (mOp fIx (mRead 15) (mName 16)) mNil)))) mNil)) ⟨Γ, Sx⟩ = .nx ⟨Γ.set 20 (.frz (fr (mQ b k s))), Sx⟩ := set_nx (call1 lc s2) (by omega)
    have B2 := B.set (i := 20) (sl := .frz (fr (mQ b k s))) (by decide) (by decide)
    have g20 : (Γ.set 20 (.frz (fr (mQ b k s))))[20]? = some (.frz (fr (mQ b k s))) := g_self (by omega)
    have g19 : (Γ.set 20 (.frz (fr (mQ b k s))))[19]? = some (.frz (fr (wQ b k s))) := by rw [g_ne (by decide)]; exact h19
    generalize Γ.set 20 (.frz (fr (mQ b k s))) = Γ2 at c20 B2 g20 g19
    have hl2 := B2.B.len
    obtain ⟨Γ3, Sz, lp, B3, k19, k20, k21, rfl⟩ := cfor_inv (v := 16) (mask := []) (c := cSet 21 (mIf (mTru (mCall 2 f__law_less (mCons (mOp fIx (mRead 15) (mName 21)) (mCons (mOp fIx (mRead 15) (mName 16)) mNil)))) (mName 16) (mName 21))) (mi := mIt rng1 (mName 7)) (Γ := Γ2.set 21 (.frz (.int ((0 : Nat) : Int))))
      (fun j Γ S' => Bt b m k s dks Γ ∧ Γ[19]? = some (.frz (fr (wQ b k s))) ∧ Γ[20]? = some (.frz (fr (mQ b k s))) ∧ Γ[21]? = some (.frz (.int (bestL (fun i => QH b k s (i + 1)) j : Int))) ∧ S' = Sx) (fun j Γ Sx h => by have := h.1.B.len; omega)
      (it_of (Sx := Sx) (n_frz (i := 7) (B2.set (i := 21) (sl := .frz (.int ((0 : Nat) : Int))) (by decide) (by decide)).B.h7) (rng1_map (by omega))) (fun j d Γ Sy hj ⟨g1, g19, g20, g21, gS⟩ => by
        obtain ⟨jm, rfl⟩ := rg_get hj
        subst gS
        have hl := g1.B.len
        have bl := bestL_lt (fun i => QH b k s (i + 1)) j
        have B4 := g1.set (i := 16) (sl := .frz (.int (j : Int))) (by decide) (by decide)
        have g16 : (Γ.set 16 (.frz (.int (j : Int))))[16]? = some (.frz (.int (j : Int))) := g_self (by omega)
        have g21 : (Γ.set 16 (.frz (.int (j : Int))))[21]? = some (.frz (.int (bestL (fun i => QH b k s (i + 1)) j : Int))) := by rw [g_ne (by decide)]; exact g21
        have g19 : (Γ.set 16 (.frz (.int (j : Int))))[19]? = some (.frz (fr (wQ b k s))) := by rw [g_ne (by decide)]; exact g19
        have g20 : (Γ.set 16 (.frz (.int (j : Int))))[20]? = some (.frz (fr (mQ b k s))) := by rw [g_ne (by decide)]; exact g20
        generalize Γ.set 16 (.frz (.int (j : Int))) = Γ5 at B4 g16 g21 g19 g20
        have hl5 := B4.B.len
        have r1 := rg_at (fun i => fr (QH b k s (i + 1))) (m := s) (j := bestL (fun i => QH b k s (i + 1)) j) (by omega)
        have r2 := rg_at (fun i => fr (QH b k s (i + 1))) (m := s) (j := j) jm
        have t : mTru (mCall 2 f__law_less (mCons (mOp fIx (mRead 15) (mName 21)) (mCons (mOp fIx (mRead 15) (mName 16)) mNil))) ⟨Γ5, Sy⟩ = .ok (decide (QH b k s (bestL (fun i => QH b k s (i + 1)) j + 1) < QH b k s (j + 1))) ⟨Γ5, Sy⟩ :=
          tru_e (call2 (ix_e (r_frz B4.h15) (n_frz g21) r1) (ix_e (r_frz B4.h15) (n_frz g16) r2) (lless_ok Sy (qs _) (qs _)))
        have fin : ∀ v : Nat, v = bestL (fun i => QH b k s (i + 1)) (j + 1) → Bt b m k s dks (Γ5.set 21 (.frz (.int (v : Int)))) ∧ (Γ5.set 21 (.frz (.int (v : Int))))[19]? = some (.frz (fr (wQ b k s))) ∧ (Γ5.set 21 (.frz (.int (v : Int))))[20]? = some (.frz (fr (mQ b k s))) ∧ (Γ5.set 21 (.frz (.int (v : Int))))[21]? = some (.frz (.int (bestL (fun i => QH b k s (i + 1)) (j + 1) : Int))) ∧ Sy = Sy := fun v hv =>
          ⟨B4.set (by decide) (by decide), by rw [g_ne (by decide)]; exact g19, by rw [g_ne (by decide)]; exact g20, by rw [g_self (by omega), hv], rfl⟩
        by_cases c : QH b k s (bestL (fun i => QH b k s (i + 1)) j + 1) < QH b k s (j + 1)
        · rw [decide_eq_true c] at t
          exact ⟨_, Sy, set_nx (i := 21) (mif_t t (n_frz g16)) (by omega), fin _ (by show j = if _ then _ else _; rw [if_pos c])⟩
        · rw [decide_eq_false c] at t
          exact ⟨_, Sy, set_nx (i := 21) (mif_f t (n_frz g21)) (by omega), fin _ (by show bestL (fun i => QH b k s (i + 1)) j = if _ then _ else _; rw [if_neg c])⟩) ⟨B2.set (by decide) (by decide), by rw [g_ne (by decide)]; exact g19, by rw [g_ne (by decide)]; exact g20, g_self (by omega), rfl⟩
    rw [List.length_map, List.length_range] at k21
    have wi := (wQ_ok C.ok C.kk C.s1 hs).2
    have w0 : 0 ≤ wQ b k s := wi.lo
    have ws : Sm (wQ b k s) := wi.sm2 (Nat.pow_pos C.ok.N0) (by decide) (B1250 C.ok (by decide))
    have ms : Sm (mQ b k s) := mq.2.sm2 (Nat.pow_pos C.ok.N0) (by decide) (B1250 C.ok (by decide))
    have pos : 0 < (mQ b k s).den * (wQ b k s).num.toNat := Nat.mul_pos (mQ b k s).den_pos (by have := Rat.num_nonneg.mpr w0; omega)
    have lt : (mQ b k s).den * (wQ b k s).num.toNat < 2 ^ 2640 := by
      have n0 := ws.n
      have := Nat.mul_lt_mul'' ms.d (show (wQ b k s).num.toNat < 2 ^ 1320 by have := Rat.num_nonneg.mpr w0; omega)
      rwa [← Nat.pow_add] at this
    have fo := fr_ok ((mQ b k s).num * ((wQ b k s).den : Int)) _ Sz pos lt
    have ad : fAdd (.int (bestL (fun i => QH b k s (i + 1)) s : Int)) (.int 1) = some (.int ((bestL (fun i => QH b k s (i + 1)) s + 1 : Nat) : Int)) := fAdd_int _ _
    refine ⟨Γ3, if_no2 (bool_e (op_e (ix_e (r_frz h19) (mC_ap _ _) (fIx_fr0 _)) (mC_ap _ _) e)) (seq_e c20 (seq_e (set_nx (mC_ap _ _) (by omega)) (seq_e lp (if_no (mif_f (ne_no (call3 (n_frz B3.B.h3) (n_frz B3.B.h6) (n_frz B3.B.h7) (mean_height_ok C.ok C.kk C.s1 hs hz Sz)) (call2 (op_e (ix_e (r_frz k20) (mC_ap _ _) (fIx_fr0 _)) (ix_e (r_frz k19) (mC_ap _ _) (fIx_fr1 _)) (mul_sm ms ws)) (op_e (ix_e (r_frz k20) (mC_ap _ _) (fIx_fr1 _)) (ix_e (r_frz k19) (mC_ap _ _) (fIx_fr0 _)) (mul_dn ms ws w0)) fo) (sh_fr _)) (ne_no (call3 (n_frz B3.B.h3) (n_frz B3.B.h6) (n_frz B3.B.h7) (likely_ok C.ok C.kk C.s1 hs hz Sz)) (op_e (n_frz k21) (mC_ap _ _) ad) (sh_int _))))))), B3⟩
end
end Law


set_option Elab.async false
set_option linter.all false
set_option maxRecDepth 100000
set_option maxHeartbeats 1000000
set_option exponentiation.threshold 10000
/-! T15: law's turn: the tables, the rows, the one thing, the words. -/
namespace Law
open FP PySem
section
variable {Γ Γ1 Γ2 : List Slot} {Sx Sy Sz S1 S2 : S} {N : Nat} {b : Book} {m k s : Nat} {dks : List (List L2.Key × D)} {i : Nat} {x y z : D}
theorem p12 (C : Ct N b m k s dks) (B : Bt b m k s dks Γ) : lw12 ⟨Γ, Sx⟩ = .nx ⟨Γ, Sx⟩ := by
  have hs : s ≤ 4 := Nat.le_trans C.sm C.m4
  have hl := B.B.len
  have ln : ((tab b 4 k s).map fun t => D.int (hT t : Int)).length ≤ 1000000 - 1 := by
    rw [List.length_map]
    have := tab_small C.ok (k := k) C.s1 hs
    omega
  have ct : mUn fMax (mOp fCat (mLst (mCons (mC (.int 0)) mNil)) (mRead 9)) ⟨Γ, Sx⟩ = .ok (.int (hTs (tab b 4 k s) : Int)) ⟨Γ, Sx⟩ :=
    un_e (op_e (lst1_e (mC_ap (.int 0) _)) (r_frz B.h9) (fCat_ok (xs := [.int 0]) (by rw [List.length_singleton]; omega))) (fMax_hT _)
  have sh9 : Sh 1 (tallL (tab b 4 k s)) := sh_lst (sh_map _ _ fun _ _ => sh_int _)
  unfold lw12
  refine if_no (mif_f (ne_no (call3 (n_frz B.B.h3) (n_frz B.B.h6) (n_frz B.B.h7) (great_ok C.ok C.kk C.s1 hs Sx)) ct (sh_int _)) ?_)
  cases ht : tab b 4 k s with
  | nil =>
    have h9 := B.h9
    rw [ht] at h9
    exact ne_no (call3 (n_frz B.B.h3) (n_frz B.B.h6) (n_frz B.B.h7) (least_none C.ok C.kk C.s1 hs ht Sx)) (mif_f (bool_e (op_e (n_frz h9) nil_e (fNe_self sh_nil (by decide)))) (mC_ap _ _)) (sh_int _)
  | cons t r =>
    have h9 := B.h9
    rw [ht] at h9 sh9
    obtain ⟨m1, m2⟩ := minL_ok (r.map fun t => (hT t : Int)) (hT t : Int)
    have mm : (hT t : Int) :: r.map (fun t => (hT t : Int)) = (t :: r).map fun t => (hT t : Int) := rfl
    rw [mm] at m1 m2
    obtain ⟨u, hu, eu⟩ := List.mem_map.mp m1
    have fm : fMin (tallL (t :: r)) = some (.int (hT u : Int)) := by
      have e := ints?_map ((t :: r).map fun t => (hT t : Int))
      rw [List.map_map] at e
      show (ints? ((t :: r).map fun t => D.int (hT t : Int))).bind minI = _
      rw [show ((t :: r).map fun t => D.int (hT t : Int)) = (t :: r).map (D.int ∘ fun t => (hT t : Int)) from rfl, e, eu]
      rfl
    have le := least_ok C.ok C.kk C.s1 hs (x := hT u) ⟨u, by rw [ht]; exact hu, rfl⟩ (fun v hv => by
      rw [ht] at hv
      have := m2 (hT v : Int) (List.mem_map.mpr ⟨v, hv, rfl⟩)
      omega) Sx
    exact ne_no (call3 (n_frz B.B.h3) (n_frz B.B.h6) (n_frz B.B.h7) le) (mif_t (bool_e (op_e (n_frz h9) nil_e (fNe_cons sh9 (by decide)))) (un_e (r_frz h9) fm)) (sh_int _)
theorem p13 {d : Nat} (C : Ct N b m k s dks) (B : Bs b m k s dks Γ) (h : Dk d Sx) (hd : d ≤ 800000) : ∃ (v : Nat) (Sz : S), lw13 ⟨Γ, Sx⟩ = .nx ⟨Γ.set 14 (.frz (.int (v : Int))), Sz⟩ ∧ v ≤ s ∧ Dk (d + 1) Sz := by
  have hs : s ≤ 4 := Nat.le_trans C.sm C.m4
  have hl := B.len
  obtain ⟨v, S1, hv, e1, d1⟩ := take_ok h (by omega) (s + 1) (by omega) (by omega)
  refine ⟨v, S1, ?_, by omega, d1⟩
  unfold lw13
  exact set_nx (call2 (n_frz B.h1) (op_e (n_frz B.h7) (mC_ap _ _) (fAdd_int _ _)) e1) (by omega)
theorem p14 (C : Ct N b m k s dks) (B : Bs b m k s dks Γ) {j : Nat} (hj : j ≤ s) (h14 : Γ[14]? = some (.frz (.int (j : Int)))) : lw14 ⟨Γ, Sx⟩ = .nx ⟨(Γ.set 22 (.frz (tD (fun k s => .int (cN b j k s : Int)) b.many s))).set 23 (.frz (tD (fun k s => fr (cQ b j k s)) b.many s)), Sx⟩ := by
  have hs : s ≤ 4 := Nat.le_trans C.sm C.m4
  have hl := B.len
  unfold lw14
  exact par_e (call4 (n_frz B.h3) (n_frz B.h7) (n_frz h14) (mC_ap _ _) (lowN C.ok hs (by omega) Sx)) (call4 (n_frz B.h3) (n_frz B.h7) (n_frz h14) (mC_ap _ _) (lowQ C.ok (by omega) (by omega) Sx)) (by omega) (by omega)
/-- the trees of kind q, size i, not higher than j -/
def LL (b : Book) (j q i : Nat) : List Tr := (tab b 4 q i).filter fun t => decide (hT t ≤ j)
theorem LL0 (b : Book) (j q : Nat) : LL b j q 0 = [] := by
  have : tab b 4 q 0 = [] := rfl
  unfold LL
  rw [this]; rfl
theorem lots_range (b : Book) (j q s : Nat) : D.lst [] :: (List.range s).map (fun i => treesD (LL b j q (i + 1))) = (List.range (s + 1)).map fun i => treesD (LL b j q i) := by
  rw [List.range_succ_eq_map, List.map_cons, List.map_map, LL0]
  rfl
theorem tab_okq (h : BookOk N b) {q f : Nat} (hq : q < b.many) (hf : f ≤ 4) {t : Tr} (ht : t ∈ tab b 4 q f) : okT b 4 t := by
  cases f with
  | zero => cases ht
  | succ f => exact okT_le (tab_ok h (f + 1) 4 q t hq (by omega) hf ht) hf
theorem LL_small (h : BookOk N b) {j q f : Nat} (hf : f ≤ 4) : (LL b j q f).length ≤ 1250 := by
  cases f with
  | zero => rw [LL0]; exact Nat.zero_le _
  | succ f => exact Nat.le_trans (List.length_filter_le _ _) (tab_small h (by omega) hf)
theorem LL_sum (h : BookOk N b) {j q f : Nat} (hq : q < b.many) (hf : f ≤ 4) (Sx : S) : f__law_sum [.lst ((LL b j q f).map fun t => fr (chT b t))] Sx = .ok (fr (cQ b j q f)) Sx := by
  have so : sumOk 0 ((LL b j q f).map (chT b)) := by
    refine sumOk_ig0 (M := N ^ 15) (c := 1) (Nat.pow_pos h.N0) (Nat.le_refl _) (fun p hp => ?_) ?_
    · obtain ⟨t, ht, rfl⟩ := List.mem_map.mp hp
      exact (ch_pb h (tab_okq h hq hf (List.mem_filter.mp ht).1)).ig
    · rw [List.length_map, Nat.one_mul]
      have := LL_small h (j := j) (q := q) hf
      exact B1250 h (by omega)
  have sm := lsum_ok Sx _ so
  rw [rsum_sR, List.map_map] at sm
  rw [cQ_eq hf]
  exact sm
structure Bu (b : Book) (m k s : Nat) (dks : List (List L2.Key × D)) (j : Nat) (Γ : List Slot) : Prop where
  B : Bs b m k s dks Γ
  h14 : Γ[14]? = some (.frz (.int (j : Int)))
  h22 : Γ[22]? = some (.frz (tD (fun k s => .int (cN b j k s : Int)) b.many s))
  h23 : Γ[23]? = some (.frz (tD (fun k s => fr (cQ b j k s)) b.many s))
theorem Bu.set {j : Nat} (B : Bu b m k s dks j Γ) {i : Nat} {sl : Slot} (h : i ≠ 1 ∧ i ≠ 3 ∧ i ≠ 4 ∧ i ≠ 5 ∧ i ≠ 6 ∧ i ≠ 7) (g : i ≠ 14 ∧ i ≠ 22 ∧ i ≠ 23) : Bu b m k s dks j (Γ.set i sl) :=
  ⟨B.B.set h, by rw [g_ne g.1]; exact B.h14, by rw [g_ne g.2.1]; exact B.h22, by rw [g_ne g.2.2]; exact B.h23⟩
theorem q15 (C : Ct N b m k s dks) {j q : Nat} (B : Bu b m k s dks j Γ) (hq : q < b.many) (h13 : Γ[13]? = some (.frz (.int (q : Int)))) :
    mOp fCat (mLst (mCons (mLst mNil) mNil)) (mLc [18] (.nm 18) (mRng2 (mC (.int 1)) (mOp fAdd (mName 7) (mC (.int 1)))) (M.pure true) (mLc [10] (.nm 10) (mIt lstOf (mOp fDix (mRead 4) (mTup (mCons (mName 13) (mCons (mName 18) mNil))))) (mBool (mOp fLe (mCall 1 f__law_height (mCons (mName 10) mNil)) (mName 14))) (mName 10))) ⟨Γ, Sx⟩ = .ok (.lst ((List.range (s + 1)).map fun i => treesD (LL b j q i))) ⟨Γ, Sx⟩ := by
  have hs : s ≤ 4 := Nat.le_trans C.sm C.m4
  have hl := B.B.len
  have lc := mLc_v (Γ := Γ) (Sx := Sx) (v := 18) (me := mLc [10] (.nm 10) (mIt lstOf (mOp fDix (mRead 4) (mTup (mCons (mName 13) (mCons (mName 18) mNil))))) (mBool (mOp fLe (mCall 1 f__law_height (mCons (mName 10) mNil)) (mName 14))) (mName 10)) (by omega) (List.range s) (fun (i : Nat) => .int ((i + 1 : Nat) : Int)) (fun i => treesD (LL b j q (i + 1))) (it_1s B.B.h7 (by omega)) (by rw [List.length_range]; omega) fun i hi => by
    have hi := List.mem_range.mp hi
    have B2 := B.set (i := 18) (sl := .frz (.int ((i + 1 : Nat) : Int))) (by decide) (by decide)
    have fd := tab_at C.T hq (f := i + 1) (by omega) (by have := C.sm; omega)
    have it : mIt lstOf (mOp fDix (mRead 4) (mTup (mCons (mName 13) (mCons (mName 18) mNil)))) ⟨Γ.set 18 (.frz (.int ((i + 1 : Nat) : Int))), Sx⟩ = .ok ((tab b 4 q (i + 1)).map trD) ⟨Γ.set 18 (.frz (.int ((i + 1 : Nat) : Int))), Sx⟩ :=
      it_of (f := lstOf) (op_e (r_frz B2.B.h4) (tup2e (n_frz (i := 13) (by rw [g_ne (by decide)]; exact h13)) (n_frz (g_self (by omega)))) fd) rfl
    exact mLc_vf (v := 10) (mt := mBool (mOp fLe (mCall 1 f__law_height (mCons (mName 10) mNil)) (mName 14))) (me := mName 10) (by rw [List.length_set]; omega) (tab b 4 q (i + 1)) trD trD (fun t => decide (hT t ≤ j)) it (by have := tab_small C.ok (k := q) (f := i + 1) (by omega) (by omega); omega) fun t ht => by
      have ot := tab_okq C.ok (f := i + 1) hq (by omega) ht
      have B3 := B2.set (i := 10) (sl := .frz (trD t)) (by decide) (by decide)
      exact ⟨bool_e (op_e (call1 (n_frz (g_self (by rw [List.length_set]; omega))) (lheight_ok ot (by decide) Sx)) (n_frz B3.h14) (fLe_n _ _)), n_frz (g_self (by rw [List.length_set]; omega))⟩
  rw [← lots_range]
  exact op_e (lst1_e nil_e) lc (fCat_cons _ _ (by rw [List.length_map, List.length_range]; omega))
theorem p15 (C : Ct N b m k s dks) {j : Nat} (B : Bu b m k s dks j Γ) : ∃ Γ', lw15 ⟨Γ, Sx⟩ = .nx ⟨Γ', Sx⟩ ∧ Bs b m k s dks Γ' := by
  have hs : s ≤ 4 := Nat.le_trans C.sm C.m4
  have hl := B.B.len
  have m3 := C.ok.m3
  unfold lw15
  obtain ⟨Γ', Sz, e, h1, rfl⟩ := cfor_inv (v := 13) (mask := [24]) (c := (cSeq (cSet 24 (mOp fCat (mLst (mCons (mLst mNil) mNil)) (mLc [18] (.nm 18) (mRng2 (mC (.int 1)) (mOp fAdd (mName 7) (mC (.int 1)))) (M.pure true) (mLc [10] (.nm 10) (mIt lstOf (mOp fDix (mRead 4) (mTup (mCons (mName 13) (mCons (mName 18) mNil))))) (mBool (mOp fLe (mCall 1 f__law_height (mCons (mName 10) mNil)) (mName 14))) (mName 10)))))
  (cIf (mIf (mBool (mOp fNe (mUn fList (mOp fIx (mRead 22) (mName 13))) (mLc [25] (.nm 25) (mIt lstOf (mRead 24)) (M.pure true) (mUn fLen (mRead 25))))) (M.pure true) (mBool (mOp fNe (mUn fList (mOp fIx (mRead 23) (mName 13))) (mLc [25] (.nm 25) (mIt lstOf (mRead 24)) (M.pure true) (mCall 1 f__law_sum (mCons (mLc [10] (.nm 10) (mIt lstOf (mRead 25)) (M.pure true) (mCall 2 f__law_chance (mCons (mName 3) (mCons (mName 10) mNil)))) mNil)))))) (cRet (mC (.bl false))) cNil))) (Γ := Γ) (fun i Γ S' => Bu b m k s dks j Γ ∧ S' = Sx) (fun i Γ Sy h => by have := h.1.B.len; omega)
    (it_of (many_e (Sx := Sx) C.ok B.B.h3) (rng1_map (n := b.many) (by omega))) (fun q d Γ Sy hq ⟨g1, gS⟩ => by
      obtain ⟨qm, rfl⟩ := rg_get hq
      subst gS
      have hl := g1.B.len
      have g13 : (Γ.set 13 (.frz (.int (q : Int))))[13]? = some (.frz (.int (q : Int))) := g_self (by omega)
      have B2 := g1.set (i := 13) (sl := .frz (.int (q : Int))) (by decide) (by decide)
      generalize Γ.set 13 (.frz (.int (q : Int))) = Γ2 at g13 B2
      have hl := B2.B.len
      have c24 := set_nx (i := 24) (q15 (Sx := Sy) C B2 qm g13) (by omega)
      have B3 := B2.set (i := 24) (sl := .frz (.lst ((List.range (s + 1)).map fun i => treesD (LL b j q i)))) (by decide) (by decide)
      have k24 : (Γ2.set 24 (.frz (.lst ((List.range (s + 1)).map fun i => treesD (LL b j q i)))))[24]? = some (.frz (.lst ((List.range (s + 1)).map fun i => treesD (LL b j q i)))) := g_self (by omega)
      have k13 : (Γ2.set 24 (.frz (.lst ((List.range (s + 1)).map fun i => treesD (LL b j q i)))))[13]? = some (.frz (.int (q : Int))) := by rw [g_ne (by decide)]; exact g13
      generalize Γ2.set 24 (.frz (.lst ((List.range (s + 1)).map fun i => treesD (LL b j q i)))) = Γ3 at c24 B3 k24 k13
      have hl := B3.B.len
      have l1 := mLc_v (Γ := Γ3) (Sx := Sy) (v := 25) (me := mUn fLen (mRead 25)) (by omega) (List.range (s + 1)) (fun i => treesD (LL b j q i)) (fun i => .int (cN b j q i : Int)) (it_l k24) (by rw [List.length_range]; omega) fun i hi => by
        have hi := List.mem_range.mp hi
        refine un_e (r_frz (g_self (by omega))) ?_
        rw [cN_eq (by omega)]
        show some (D.int (((LL b j q i).map trD).length : Int)) = _
        rw [List.length_map]; rfl
      have l2 := mLc_v (Γ := Γ3) (Sx := Sy) (v := 25) (me := mCall 1 f__law_sum (mCons (mLc [10] (.nm 10) (mIt lstOf (mRead 25)) (M.pure true) (mCall 2 f__law_chance (mCons (mName 3) (mCons (mName 10) mNil)))) mNil)) (by omega) (List.range (s + 1)) (fun i => treesD (LL b j q i)) (fun i => fr (cQ b j q i)) (it_l k24) (by rw [List.length_range]; omega) fun i hi => by
        have hi := List.mem_range.mp hi
        have B4 := B3.set (i := 25) (sl := .frz (treesD (LL b j q i))) (by decide) (by decide)
        refine call1 (mLc_v (v := 10) (by rw [List.length_set]; omega) (LL b j q i) trD (fun t => fr (chT b t)) (it_l (i := 25) (g_self (by omega))) (by have := LL_small C.ok (j := j) (q := q) (f := i) (by omega); omega) fun t ht => ?_) (LL_sum C.ok qm (by omega) Sy)
        exact call2 (n_frz (B4.set (i := 10) (by decide) (by decide)).B.h3) (n_frz (g_self (by rw [List.length_set]; omega))) (lchance_ok C.ok (tab_okq C.ok (f := i) qm (by omega) (List.mem_filter.mp ht).1) (by decide) Sy)
      refine ⟨Γ3, Sy, seq_e c24 (if_no (mif_f (ne_no (un_e (ix_e (r_frz B3.h22) (n_frz k13) (tD_at _ qm)) rfl) l1 (sh_lst (sh_map _ _ fun _ _ => sh_int _))) (ne_no (un_e (ix_e (r_frz B3.h23) (n_frz k13) (tD_at _ qm)) rfl) l2 (sh_frs _ _)))), ?_, rfl⟩
      show Bu b m k s dks j (Γ3.set 24 .none)
      exact B3.set (by decide) (by decide)) ⟨B, rfl⟩
  exact ⟨Γ', e, h1.B⟩
theorem p16 {d : Nat} (C : Ct N b m k s dks) (B : Bs b m k s dks Γ) (h : Dk d Sx) (hd : d ≤ 800000) : ∃ (l : List Nat) (Sz : S), lw16 ⟨Γ, Sx⟩ = .nx ⟨Γ.set 26 (.frz (intsD (thingsL l))), Sz⟩ ∧ l.length = b.many ∧ l.sum ≤ 2 ∧ Dk (d + 20) Sz := by
  have hl := B.len
  have m3 := C.ok.m3
  obtain ⟨l, Sz, e, l1, l2, d1⟩ := lot_ok h (by omega) C.ok.m1 (by omega) (ms := 2) (by decide)
  refine ⟨l, Sz, ?_, l1, l2, d1⟩
  unfold lw16
  exact set_nx (call1 (call3 (n_frz B.h1) (many_e C.ok B.h3) (mC_ap _ _) e) (lthings_ok Sz l (by omega) (by omega))) (by omega)
theorem p17 {d : Nat} (C : Ct N b m k s dks) (B : Bs b m k s dks Γ) (h : Dk d Sx) (hd : d ≤ 800000) : ∃ (v : Nat) (Sz : S), lw17 ⟨Γ, Sx⟩ = .nx ⟨Γ.set 27 (.frz (.int (v : Int))), Sz⟩ ∧ v ≤ s ∧ Dk (d + 1) Sz := by
  have hs : s ≤ 4 := Nat.le_trans C.sm C.m4
  have hl := B.len
  obtain ⟨v, S1, hv, e1, d1⟩ := take_ok h (by omega) (s + 1) (by omega) (by omega)
  refine ⟨v, S1, ?_, by omega, d1⟩
  unfold lw17
  exact set_nx (call2 (n_frz B.h1) (op_e (n_frz B.h7) (mC_ap _ _) (fAdd_int _ _)) e1) (by omega)
def lenD (b : Book) (s : Nat) : D := .lst ((List.range b.many).map fun q => .lst ((List.range (s + 1)).map fun i => .int ((tab b 4 q i).length : Int)))
theorem q18 (C : Ct N b m k s dks) (B : Bs b m k s dks Γ) : mLc [13] (.nm 13) (mIt rng1 (mUn fLen (mOp fIx (mRead 3) (mC (.int 1))))) (M.pure true) (mOp fCat (mLst (mCons (mC (.int 0)) mNil)) (mLc [18] (.nm 18) (mRng2 (mC (.int 1)) (mOp fAdd (mName 7) (mC (.int 1)))) (M.pure true) (mUn fLen (mOp fDix (mRead 4) (mTup (mCons (mName 13) (mCons (mName 18) mNil))))))) ⟨Γ, Sx⟩ = .ok (lenD b s) ⟨Γ, Sx⟩ := by
  have hs : s ≤ 4 := Nat.le_trans C.sm C.m4
  have hl := B.len
  have m3 := C.ok.m3
  refine mLc_v (v := 13) (by omega) (List.range b.many) (fun (q : Nat) => .int (q : Int)) (fun q => .lst ((List.range (s + 1)).map fun i => .int ((tab b 4 q i).length : Int))) (it_of (many_e (Sx := Sx) C.ok B.h3) (rng1_map (n := b.many) (by omega))) (by rw [List.length_range]; omega) fun q hq => ?_
  have hq := List.mem_range.mp hq
  have B2 := B.set (i := 13) (sl := .frz (.int (q : Int))) (by decide)
  have lc := mLc_v (Γ := Γ.set 13 (.frz (.int (q : Int)))) (Sx := Sx) (v := 18) (me := mUn fLen (mOp fDix (mRead 4) (mTup (mCons (mName 13) (mCons (mName 18) mNil))))) (by rw [List.length_set]; omega) (List.range s) (fun (i : Nat) => .int ((i + 1 : Nat) : Int)) (fun i => .int ((tab b 4 q (i + 1)).length : Int)) (it_1s B2.h7 (by omega)) (by rw [List.length_range]; omega) fun i hi => by
    have hi := List.mem_range.mp hi
    have B3 := B2.set (i := 18) (sl := .frz (.int ((i + 1 : Nat) : Int))) (by decide)
    have fd := tab_at C.T hq (f := i + 1) (by omega) (by have := C.sm; omega)
    refine un_e (op_e (r_frz B3.h4) (tup2e (n_frz (i := 13) (by rw [g_ne (by decide)]; exact g_self (by omega))) (n_frz (g_self (by rw [List.length_set]; omega)))) fd) ?_
    show some (D.int (((tab b 4 q (i + 1)).map trD).length : Int)) = _
    rw [List.length_map]
  have r : (List.range (s + 1)).map (fun i => D.int ((tab b 4 q i).length : Int)) = D.int 0 :: (List.range s).map fun i => D.int ((tab b 4 q (i + 1)).length : Int) := by
    rw [List.range_succ_eq_map, List.map_cons, List.map_map]; rfl
  rw [r]
  exact op_e (lst1_e (mC_ap (.int 0) _)) lc (fCat_cons _ _ (by rw [List.length_map, List.length_range]; omega))
theorem p18 (C : Ct N b m k s dks) (B : Bs b m k s dks Γ) {l : List Nat} {v : Nat} (l1 : l.length = b.many) (l2 : l.sum ≤ 2) (hv : v ≤ s) (h26 : Γ[26]? = some (.frz (intsD (thingsL l)))) (h27 : Γ[27]? = some (.frz (.int (v : Int)))) : lw18 ⟨Γ, Sx⟩ = .nx ⟨Γ, Sx⟩ := by
  have hs : s ≤ 4 := Nat.le_trans C.sm C.m4
  have hl := B.len
  have tk : ∀ q ∈ thingsL l, q < b.many := fun q hq => by have := thingsL_mem hq; omega
  have tn : TbN (lenD b s) (fun q i => (tab b 4 q i).length) b.many s := fun q hq => ⟨_, rg_at _ hq, fun f _ f2 => rg_at _ (by omega)⟩
  have e1 : f_rows_of [lenD b s, intsD (thingsL l), .int (v : Int), .bl false] Sx = .ok (.int (Rn (fun q i => (tab b 4 q i).length) (thingsL l) v : Nat)) Sx :=
    rowsN_ok tn (fun q f _ f1 f2 => tab_tb C.ok 4 (by decide) q f f1 (by omega)) hs 12 (thingsL l) v Sx (by rw [thingsL_len]; omega) (by rw [thingsL_len]; omega) hv tk
  have e2 : f__law_rows [.dT dks, intsD (thingsL l), .int (v : Int)] Sx = .ok (rowsD (rowsT (tab b 4) (thingsL l) v)) Sx :=
    lrows_ok C.T (fun q f f1 f2 => tab_tb C.ok 4 (by decide) q f f1 (Nat.le_trans f2 C.m4)) C.m4 12 (thingsL l) v Sx (by rw [thingsL_len]; omega) (by rw [thingsL_len]; omega) (Nat.le_trans hv C.sm) tk
  have ln : fLen (rowsD (rowsT (tab b 4) (thingsL l) v)) = some (.int (Rn (fun q i => (tab b 4 q i).length) (thingsL l) v : Nat)) := by
    rw [← rows_len]
    show some (D.int (((rowsT (tab b 4) (thingsL l) v).map fun r => D.tup (r.map trD)).length : Int)) = _
    rw [List.length_map]
  unfold lw18
  exact if_no (ne_no (call4 (q18 C B) (n_frz h26) (n_frz h27) (mC_ap _ _) e1) (un_e (call3 (n_frz B.h4) (n_frz h26) (n_frz h27) e2) ln) (sh_int _))
def alone (b : Book) (k : Nat) : Book := { b with st := unitL b.many k }
theorem alone_ok (h : BookOk N b) (k : Nat) : BookOk N (alone b k) :=
  ⟨h.nm, h.m1, h.m3, h.ll, h.lk, by show (unitL b.many k).length = b.many; unfold unitL; rw [List.length_map, List.length_range], by show (unitL b.many k).sum ≤ 3; have := unit_sum (m := b.many) (k := k); omega, h.N0, h.N1⟩
theorem slT_to {a c : M D} {ds : List D} {n : Nat} (ha : a ⟨Γ, Sx⟩ = .ok (.tup ds) ⟨Γ1, S1⟩) (hb : c ⟨Γ1, S1⟩ = .ok (.int (n : Int)) ⟨Γ2, S2⟩) (h : n ≤ ds.length) : mSlT a (M.pure none) (mPart c) ⟨Γ, Sx⟩ = .ok (.tup (ds.take n)) ⟨Γ2, S2⟩ := by
  unfold mSlT
  simp only [bind_ap, ha, rb_ok, pure_ap, a_part, hb, cut_to ds n h]
theorem p19 (C : Ct N b m k s dks) (B : Bs b m k s dks Γ) : lw19 ⟨Γ, Sx⟩ = .nx ⟨Γ.set 28 (.frz (bkD (alone b k))), Sx⟩ := by
  have hl := B.len
  have m3 := C.ok.m3
  have lc := mLc_v (Γ := Γ) (Sx := Sx) (v := 16) (me := mUn fInt (mOp fEq (mName 16) (mName 6))) (by omega) (List.range b.many) (fun (i : Nat) => .int (i : Int)) (fun i => .int ((if i = k then 1 else 0 : Nat) : Int)) (it_of (many_e (Sx := Sx) C.ok B.h3) (rng1_map (n := b.many) (by omega))) (by rw [List.length_range]; omega) fun i hi =>
    un_e (op_e (n_frz (g_self (by omega))) (n_frz (B.set (i := 16) (by decide)).h6) (fEq_nat _ _)) (fInt_dec _)
  have tu : fTuple (.lst ((List.range b.many).map fun i => .int ((if i = k then 1 else 0 : Nat) : Int))) = some (lotD (unitL b.many k)) := by
    show some (D.tup _) = some (D.tup _)
    unfold unitL
    rw [List.map_map]; rfl
  have sz : (3 : Nat) + 1 ≤ PySem.sizeLine := by decide
  have ad : fAdd (.tup [.str "book", .tup b.names, .tup (b.lits.map litD)]) (.tup [lotD (unitL b.many k)]) = some (bkD (alone b k)) := by
    show (if 3 + 1 ≤ PySem.sizeLine then some (D.tup ([.str "book", .tup b.names, .tup (b.lits.map litD)] ++ [lotD (unitL b.many k)])) else none) = _
    rw [if_pos sz]; rfl
  have sl : mSlT (mName 3) (M.pure none) (mPart (mC (.int 3))) ⟨Γ, Sx⟩ = .ok (.tup [.str "book", .tup b.names, .tup (b.lits.map litD)]) ⟨Γ, Sx⟩ := slT_to (n := 3) (n_frz B.h3) (mC_ap _ _) (by simp)
  unfold lw19
  exact set_nx (op_e sl (tup1_e (un_e lc tu)) ad) (by omega)
theorem p20 (C : Ct N b m k s dks) (B : Bs b m k s dks Γ) (h28 : Γ[28]? = some (.frz (bkD (alone b k)))) : lw20 ⟨Γ, Sx⟩ = .nx ⟨Γ, Sx⟩ := by
  have ao := alone_ok C.ok k
  have el := ended_low_ok ao (k := k) (size := 7) (ht := 2) C.kk (by decide) (by decide) (by decide) (by decide) Sx
  rw [alone_ev ao C.kk rfl] at el
  have ro := rounds_ok Sx ao 2 (by decide)
  have ix : fIx (.lst ((es (alone b k) 0 (2 + 1)).map fr)) (.int 2) = some (fr (ev (alone b k) 2)) := fIx_lst (k := 2) rfl
  unfold lw20
  exact if_no (mif_f (ne_no (call4 (n_frz h28) (n_frz B.h6) (mC_ap _ _) (mC_ap _ _) el) (ix_e (call2 (n_frz h28) (mC_ap _ _) ro) (mC_ap _ _) ix) (sh_fr _)) rfl)
noncomputable def words : List D := [.str "size", .str "size", .str "height", .str "height"]
theorem sh_words : Sh 1 (.lst words) := sh_lst fun d hd => by
  unfold words at hd
  simp only [List.mem_cons, List.not_mem_nil, or_false] at hd
  rcases hd with rfl | rfl | rfl | rfl <;> exact ⟨by decide +kernel, by decide +kernel⟩
theorem fourS : (4 : Nat) ≤ PySem.sizeLine := by decide
theorem p21 (B : Bs b m k s dks Γ) : lw21 ⟨Γ, Sx⟩ = .nx ⟨Γ, Sx⟩ := by
  have hl := B.len
  have hi : mIt rng1 (mC (.int 4)) ⟨Γ, Sx⟩ = .ok ((List.range 4).map fun (i : Nat) => .int (i : Int)) ⟨Γ, Sx⟩ := it_of (mC_ap _ _) (rng1_map (n := 4) (by decide))
  have lc := mLc_v (v := 16) (me := mCall 2 f__law_word (mCons (mName 16) (mCons (mName 3) mNil))) (by omega) (List.range 4) (fun (i : Nat) => .int (i : Int)) (fun i => words.getD i .non) hi (by decide) fun i hi => by
    have hi := List.mem_range.mp hi
    refine call2 (n_frz (g_self (by omega))) (n_frz (B.set (i := 16) (by decide)).h3) ?_
    have : i = 0 ∨ i = 1 ∨ i = 2 ∨ i = 3 := by omega
    rcases this with rfl | rfl | rfl | rfl
    · exact word0 Sx _
    · exact word1 Sx _
    · exact word2 Sx _
    · exact word3 Sx _
  have ws : mLst (mCons (mC (.str "size")) (mCons (mC (.str "size")) (mCons (mC (.str "height")) (mCons (mC (.str "height")) mNil)))) ⟨Γ, Sx⟩ = .ok (.lst words) ⟨Γ, Sx⟩ := by
    simp [bind_ap, pure_ap, rb_ok, out_ok, ofO_some, mC_ap, a_seq, a_nil, a_pass, a_brk, a_if, a_ret, a_retN, a_drop, a_set, a_own, a_frz, a_tg, a_par, a_for, a_op, a_un, a_cons, a_mnil, a_call, a_tup, a_lst, a_bool, a_tru, a_mif, a_chain, a_it, a_rng2, a_part, mName, mRead, sl, fourS, words]
  unfold lw21
  exact if_no (ne_no lc ws sh_words)
end
end Law


set_option Elab.async false
set_option linter.all false
set_option maxRecDepth 100000
set_option maxHeartbeats 1000000
set_option exponentiation.threshold 10000
/-! T16: law's turn, whole; law. -/
namespace Law
open FP PySem
section
variable {Γ : List Slot} {Sx Sy Sz : S}
theorem turn_ok {d : Nat} (hl : Γ.length = 30) (h1 : Γ[1]? = some (.frz .st)) (h : Dk d Sx) (hd : d ≤ 500000) : ∃ (Γ' : List Slot) (Sz : S), lwB ⟨Γ, Sx⟩ = .nx ⟨Γ', Sz⟩ ∧ Γ'.length = 30 ∧ Γ'[1]? = some (.frz .st) ∧ Dk (d + 10000) Sz := by
  obtain ⟨⟨N, b, ok⟩, S1, e0, d1⟩ := book_ok h (by omega)
  have e0 : f__law_book [.st, .int 2] Sx = .ok (bkD b) S1 := e0
  have c0 := p0 hl e0 h1
  generalize hΓ1 : Γ.set 3 (.frz (bkD b)) = Γ1 at c0
  have l1 : Γ1.length = 30 := by rw [← hΓ1, List.length_set]; exact hl
  have a1 : Γ1[1]? = some (.frz .st) := by rw [← hΓ1, g_ne (by decide)]; exact h1
  have a3 : Γ1[3]? = some (.frz (bkD b)) := by rw [← hΓ1]; exact g_self (by omega)
  clear hΓ1
  obtain ⟨m, dks, m1, m4, e1, T⟩ := laid_ok ok S1
  have c1 := p1 l1 a3 e1
  generalize hΓ2 : (Γ1.set 4 (.frz (.dT dks))).set 5 (.frz (.int (m : Int))) = Γ2 at c1
  have l2 : Γ2.length = 30 := by rw [← hΓ2, List.length_set, List.length_set]; exact l1
  have b1 : Γ2[1]? = some (.frz .st) := by rw [← hΓ2, g_ne (by decide), g_ne (by decide)]; exact a1
  have b3 : Γ2[3]? = some (.frz (bkD b)) := by rw [← hΓ2, g_ne (by decide), g_ne (by decide)]; exact a3
  have b4 : Γ2[4]? = some (.frz (.dT dks)) := by rw [← hΓ2, g_ne (by decide)]; exact g_self (by omega)
  have b5 : Γ2[5]? = some (.frz (.int (m : Int))) := by rw [← hΓ2]; exact g_self (by rw [List.length_set]; omega)
  clear hΓ2 a1 a3
  obtain ⟨k, s, S2, c2, kk, s1, sm, d2⟩ := p2 ok d1 (by omega) l2 b1 b3 b5 m1 m4
  have C : Ct N b m k s dks := ⟨ok, kk, s1, sm, m4, T⟩
  generalize hΓ3 : (Γ2.set 6 (.frz (.int (k : Int)))).set 7 (.frz (.int (s : Int))) = Γ3 at c2
  have B3 : Bs b m k s dks Γ3 := by
    rw [← hΓ3]
    exact ⟨by rw [List.length_set, List.length_set]; exact l2, by rw [g_ne (by decide), g_ne (by decide)]; exact b1, by rw [g_ne (by decide), g_ne (by decide)]; exact b3, by rw [g_ne (by decide), g_ne (by decide)]; exact b4, by rw [g_ne (by decide), g_ne (by decide)]; exact b5, by rw [g_ne (by decide)]; exact g_self (by omega), g_self (by rw [List.length_set]; omega)⟩
  clear hΓ3 b1 b3 b4 b5
  have c3 := p3 (Sx := S2) C B3
  have B4 : Bs b m k s dks (Γ3.set 8 (.frz (treesD (tab b 4 k s)))) := B3.set (by decide)
  have f8 : (Γ3.set 8 (.frz (treesD (tab b 4 k s))))[8]? = some (.frz (treesD (tab b 4 k s))) := g_self (by have := B3.len; omega)
  generalize Γ3.set 8 (.frz (treesD (tab b 4 k s))) = Γ4 at c3 B4 f8
  have c4 := p4 (Sx := S2) C B4 f8
  have B5 : Bs b m k s dks (Γ4.set 9 (.frz (tallL (tab b 4 k s)))) := B4.set (by decide)
  have g8 : (Γ4.set 9 (.frz (tallL (tab b 4 k s))))[8]? = some (.frz (treesD (tab b 4 k s))) := by rw [g_ne (by decide)]; exact f8
  have g9 : (Γ4.set 9 (.frz (tallL (tab b 4 k s))))[9]? = some (.frz (tallL (tab b 4 k s))) := g_self (by have := B4.len; omega)
  generalize Γ4.set 9 (.frz (tallL (tab b 4 k s))) = Γ5 at c4 B5 g8 g9
  have c5 := p5 (Sx := S2) C B5 g8
  have B6 : Bs b m k s dks (Γ5.set 11 (.frz (shareL b (tab b 4 k s)))) := B5.set (by decide)
  have i8 : (Γ5.set 11 (.frz (shareL b (tab b 4 k s))))[8]? = some (.frz (treesD (tab b 4 k s))) := by rw [g_ne (by decide)]; exact g8
  have i9 : (Γ5.set 11 (.frz (shareL b (tab b 4 k s))))[9]? = some (.frz (tallL (tab b 4 k s))) := by rw [g_ne (by decide)]; exact g9
  have i11 : (Γ5.set 11 (.frz (shareL b (tab b 4 k s))))[11]? = some (.frz (shareL b (tab b 4 k s))) := g_self (by have := B5.len; omega)
  generalize Γ5.set 11 (.frz (shareL b (tab b 4 k s))) = Γ6 at c5 B6 i8 i9 i11
  have c6 := p6 (Sx := S2) C B6 i9
  have B7 : Bs b m k s dks (Γ6.set 12 (.frz (dueL b k s))) := B6.set (by decide)
  have j8 : (Γ6.set 12 (.frz (dueL b k s)))[8]? = some (.frz (treesD (tab b 4 k s))) := by rw [g_ne (by decide)]; exact i8
  have j9 : (Γ6.set 12 (.frz (dueL b k s)))[9]? = some (.frz (tallL (tab b 4 k s))) := by rw [g_ne (by decide)]; exact i9
  have j11 : (Γ6.set 12 (.frz (dueL b k s)))[11]? = some (.frz (shareL b (tab b 4 k s))) := by rw [g_ne (by decide)]; exact i11
  have j12 : (Γ6.set 12 (.frz (dueL b k s)))[12]? = some (.frz (dueL b k s)) := g_self (by have := B6.len; omega)
  generalize Γ6.set 12 (.frz (dueL b k s)) = Γ7 at c6 B7 j8 j9 j11 j12
  have c7 := p7 (Sx := S2) C B7 j8 j9 j11
  have B8 : Bt b m k s dks (Γ7.set 15 (.frz (partL b k s))) := ⟨B7.set (by decide), by rw [g_ne (by decide)]; exact j9, by rw [g_ne (by decide)]; exact j12, g_self (by have := B7.len; omega)⟩
  generalize Γ7.set 15 (.frz (partL b k s)) = Γ8 at c7 B8
  have c8 := p8 (Sx := S2) C B8.B B8.h12 B8.h15
  obtain ⟨Γ9, c9, B9⟩ := p9 (Sx := S2) C B8
  have c10 := p10 (Sx := S2) C B9
  have B10 : Bt b m k s dks (Γ9.set 19 (.frz (fr (wQ b k s)))) := B9.set (by decide) (by decide)
  have k19 : (Γ9.set 19 (.frz (fr (wQ b k s))))[19]? = some (.frz (fr (wQ b k s))) := g_self (by have := B9.B.len; omega)
  generalize Γ9.set 19 (.frz (fr (wQ b k s))) = Γ10 at c10 B10 k19
  obtain ⟨Γ11, c11, B11⟩ := p11 (Sx := S2) C B10 k19
  have c12 := p12 (Sx := S2) C B11
  obtain ⟨j, S3, c13, hj, d3⟩ := p13 C B11.B d2 (by omega)
  have B13 : Bs b m k s dks (Γ11.set 14 (.frz (.int (j : Int)))) := B11.B.set (by decide)
  have k14 : (Γ11.set 14 (.frz (.int (j : Int))))[14]? = some (.frz (.int (j : Int))) := g_self (by have := B11.B.len; omega)
  generalize Γ11.set 14 (.frz (.int (j : Int))) = Γ13 at c13 B13 k14
  have c14 := p14 (Sx := S3) C B13 hj k14
  have B14 : Bu b m k s dks j ((Γ13.set 22 (.frz (tD (fun k s => .int (cN b j k s : Int)) b.many s))).set 23 (.frz (tD (fun k s => fr (cQ b j k s)) b.many s))) :=
    ⟨(B13.set (by decide)).set (by decide), by rw [g_ne (by decide), g_ne (by decide)]; exact k14, by rw [g_ne (by decide)]; exact g_self (by have := B13.len; omega), g_self (by rw [List.length_set]; have := B13.len; omega)⟩
  generalize (Γ13.set 22 (.frz (tD (fun k s => .int (cN b j k s : Int)) b.many s))).set 23 (.frz (tD (fun k s => fr (cQ b j k s)) b.many s)) = Γ14 at c14 B14
  obtain ⟨Γ15, c15, B15⟩ := p15 (Sx := S3) C B14
  obtain ⟨l, S4, c16, q1, q2, d4⟩ := p16 C B15 d3 (by omega)
  have B16 : Bs b m k s dks (Γ15.set 26 (.frz (intsD (thingsL l)))) := B15.set (by decide)
  have k26 : (Γ15.set 26 (.frz (intsD (thingsL l))))[26]? = some (.frz (intsD (thingsL l))) := g_self (by have := B15.len; omega)
  generalize Γ15.set 26 (.frz (intsD (thingsL l))) = Γ16 at c16 B16 k26
  obtain ⟨v, S5, c17, hv, d5⟩ := p17 C B16 d4 (by omega)
  have B17 : Bs b m k s dks (Γ16.set 27 (.frz (.int (v : Int)))) := B16.set (by decide)
  have m26 : (Γ16.set 27 (.frz (.int (v : Int))))[26]? = some (.frz (intsD (thingsL l))) := by rw [g_ne (by decide)]; exact k26
  have m27 : (Γ16.set 27 (.frz (.int (v : Int))))[27]? = some (.frz (.int (v : Int))) := g_self (by have := B16.len; omega)
  generalize Γ16.set 27 (.frz (.int (v : Int))) = Γ17 at c17 B17 m26 m27
  have c18 := p18 (Sx := S5) C B17 q1 q2 hv m26 m27
  have c19 := p19 (Sx := S5) C B17
  have B19 : Bs b m k s dks (Γ17.set 28 (.frz (bkD (alone b k)))) := B17.set (by decide)
  have m28 : (Γ17.set 28 (.frz (bkD (alone b k))))[28]? = some (.frz (bkD (alone b k))) := g_self (by have := B17.len; omega)
  generalize Γ17.set 28 (.frz (bkD (alone b k))) = Γ19 at c19 B19 m28
  have c20 := p20 (Sx := S5) C B19 m28
  have c21 := p21 (Sx := S5) B19
  refine ⟨Γ19, S5, ?_, B19.len, B19.h1, d5.mono (by omega)⟩
  unfold lwB
  exact seq_e c0 (seq_e c1 (seq_e c2 (seq_e c3 (seq_e c4 (seq_e c5 (seq_e c6 (seq_e c7 (seq_e c8 (seq_e c9 (seq_e c10 (seq_e c11 (seq_e c12 (seq_e c13 (seq_e c14 (seq_e c15 (seq_e c16 (seq_e c17 (seq_e c18 (seq_e c19 (seq_e c20 c21))))))))))))))))))))
end
theorem st_dk {ns : List Int} : Dk 0 ⟨0, stCells ns⟩ := by
  refine ⟨?_, Int.le_refl _, Int.le_refl _, fun c hc => ?_⟩
  · unfold stCells
    split
    · simp
    · rename_i h
      show ns.map absI ≠ []
      simpa using h
  · unfold stCells at hc
    split at hc
    · rw [List.mem_singleton.mp hc]; exact Int.le_refl _
    · obtain ⟨z, _, rfl⟩ := List.mem_map.mp hc
      unfold absI
      split <;> omega
theorem law_true : ∀ ns : List Int, ns.length ≤ 63 → ∃ w', c_law (lawW 28 ⟨0, stCells ns⟩) = .rt (.bl true) w' := by
  intro ns _
  obtain ⟨Γ', Sz, e, hl, h1, d⟩ := cfor_inv (v := 2) (mask := [2, 3, 4, 5, 6, 7, 8, 9, 11, 12, 15, 17, 19, 20, 21, 22, 23, 24, 26, 27, 28, 29]) (mi := mIt rng1 (mC (.int 3))) (c := lwB) (ds := (List.range 3).map fun (i : Nat) => .int (i : Int)) (Γ := .none :: .frz .st :: List.replicate 28 .none) (Γ1 := .none :: .frz .st :: List.replicate 28 .none) (Sx := ⟨0, stCells ns⟩) (S1 := ⟨0, stCells ns⟩)
    (fun j Γ Sx => Γ.length = 30 ∧ Γ[1]? = some (.frz .st) ∧ (j ≤ 3 → Dk (10000 * j) Sx)) (fun j Γ Sx h => by have := h.1; omega) (it_of (mC_ap _ _) (rng1_map (n := 3) (by decide))) (fun j d Γ Sx hj ⟨l, h1, dk⟩ => by
      obtain ⟨jm, rfl⟩ := rg_get hj
      clear hj
      have hj := jm
      obtain ⟨Γ', Sz, e, l', h1', d'⟩ := turn_ok (Γ := Γ.set 2 (.frz (.int (j : Int)))) (by rw [List.length_set]; exact l) (by rw [g_ne (by decide)]; exact h1) (dk (by omega)) (by omega)
      exact ⟨Γ', Sz, e, by rw [wipeΓ_length]; exact l', by rw [wipe_ne (by decide)]; exact h1', fun _ => d'.mono (by omega)⟩) ⟨rfl, rfl, fun _ => st_dk⟩
  refine ⟨⟨Γ', Sz⟩, ?_⟩
  rw [c_law_eq]
  refine seq_e e ?_
  rw [a_ret, mC_ap, out_ok]
end Law


set_option Elab.async false
set_option linter.all false
set_option maxRecDepth 100000
set_option maxHeartbeats 4000000
namespace Law
open PySem PySem.Spec PyProof.Rows L2 FP
def p_M : Nat → Pos := fun n => [⟨6, 17, 6, 21⟩, ⟨6, 23, 6, 27⟩, ⟨7, 8, 7, 13⟩, ⟨7, 8, 7, 15⟩, ⟨7, 8, 7, 24⟩, ⟨7, 25, 7, 49⟩, ⟨7, 52, 7, 56⟩, ⟨7, 25, 7, 56⟩, ⟨7, 8, 7, 57⟩, ⟨7, 8, 7, 57⟩, ⟨8, 8, 8, 12⟩, ⟨8, 8, 8, 17⟩, ⟨8, 20, 8, 24⟩, ⟨8, 8, 8, 24⟩].getD n ⟨0, 0, 0, 0⟩
theorem all_mk {w : World} {K : PySem.W.Frag} {h : Heap} {mg : Str → Option Value} {fa : Addr} (X : K.In h) (G : h.Ns mainGlobals mg) (hfa : mg "law" = some (.ref fa))
    {MC MI Mcc Mcd MN : Addr} {Mnm Mq1 : Str} {Mbs Mbm : List Value} {Msn : List Str} {Msub : List Value} {Mab : Bool} {Mcol : Option Bool} {Mdd : Option Addr} {M0 M1 M2 M3 M5 : Option Value} {Moc Mdoc Mpm Mct Mcl Mccl : Value} {Mod Man Mcld Mcdd : Option Addr} {Msl Mcsl Mccs : Array (Option Value)} {Mvs : Array Value} {Mfile : Str} {Mtf : Tok}
    {t_MOST_SIZE : Tok}
    {t_MOST_EXACT : Tok}
    {a__law_state : Addr} {od__law_state an__law_state : Option Addr} {sl__law_state : Array (Option Value)} {oc__law_state kV__law_state dc__law_state pm__law_state cd__law_state ct__law_state : Value}
    {a__law_take : Addr} {od__law_take an__law_take : Option Addr} {sl__law_take : Array (Option Value)} {oc__law_take kV__law_take dc__law_take pm__law_take cd__law_take ct__law_take : Value}
    {a__law_lot : Addr} {od__law_lot an__law_lot : Option Addr} {sl__law_lot : Array (Option Value)} {oc__law_lot kV__law_lot dc__law_lot pm__law_lot cd__law_lot ct__law_lot : Value}
    {a__law_fr : Addr} {od__law_fr an__law_fr : Option Addr} {sl__law_fr : Array (Option Value)} {oc__law_fr kV__law_fr dc__law_fr pm__law_fr cd__law_fr ct__law_fr : Value}
    {a__law_ordered : Addr} {od__law_ordered an__law_ordered : Option Addr} {sl__law_ordered : Array (Option Value)} {oc__law_ordered kV__law_ordered dc__law_ordered pm__law_ordered cd__law_ordered ct__law_ordered : Value}
    {a__law_litters : Addr} {od__law_litters an__law_litters : Option Addr} {sl__law_litters : Array (Option Value)} {oc__law_litters kV__law_litters dc__law_litters pm__law_litters cd__law_litters ct__law_litters : Value}
    {a__law_book : Addr} {od__law_book an__law_book : Option Addr} {sl__law_book : Array (Option Value)} {oc__law_book kV__law_book dc__law_book pm__law_book cd__law_book ct__law_book : Value}
    {a__law_rows : Addr} {od__law_rows an__law_rows : Option Addr} {sl__law_rows : Array (Option Value)} {oc__law_rows kV__law_rows dc__law_rows pm__law_rows cd__law_rows ct__law_rows : Value}
    {a__law_things : Addr} {od__law_things an__law_things : Option Addr} {sl__law_things : Array (Option Value)} {oc__law_things kV__law_things dc__law_things pm__law_things cd__law_things ct__law_things : Value}
    {a__law_laid : Addr} {od__law_laid an__law_laid : Option Addr} {sl__law_laid : Array (Option Value)} {oc__law_laid kV__law_laid dc__law_laid pm__law_laid cd__law_laid ct__law_laid : Value}
    {a__law_add : Addr} {od__law_add an__law_add : Option Addr} {sl__law_add : Array (Option Value)} {oc__law_add kV__law_add dc__law_add pm__law_add cd__law_add ct__law_add : Value}
    {a__law_sum : Addr} {od__law_sum an__law_sum : Option Addr} {sl__law_sum : Array (Option Value)} {oc__law_sum kV__law_sum dc__law_sum pm__law_sum cd__law_sum ct__law_sum : Value}
    {a__law_height : Addr} {od__law_height an__law_height : Option Addr} {sl__law_height : Array (Option Value)} {oc__law_height kV__law_height dc__law_height pm__law_height cd__law_height ct__law_height : Value}
    {a__law_mul : Addr} {od__law_mul an__law_mul : Option Addr} {sl__law_mul : Array (Option Value)} {oc__law_mul kV__law_mul dc__law_mul pm__law_mul cd__law_mul ct__law_mul : Value}
    {a__law_chance : Addr} {od__law_chance an__law_chance : Option Addr} {sl__law_chance : Array (Option Value)} {oc__law_chance kV__law_chance dc__law_chance pm__law_chance cd__law_chance ct__law_chance : Value}
    {a_divisor : Addr} {od_divisor an_divisor : Option Addr} {sl_divisor : Array (Option Value)} {oc_divisor kV_divisor dc_divisor pm_divisor cd_divisor ct_divisor : Value}
    {a_part : Addr} {od_part an_part : Option Addr} {sl_part : Array (Option Value)} {oc_part kV_part dc_part pm_part cd_part ct_part : Value}
    {a_plus : Addr} {od_plus an_plus : Option Addr} {sl_plus : Array (Option Value)} {oc_plus kV_plus dc_plus pm_plus cd_plus ct_plus : Value}
    {a_total : Addr} {od_total an_total : Option Addr} {sl_total : Array (Option Value)} {oc_total kV_total dc_total pm_total cd_total ct_total : Value}
    {a_times : Addr} {od_times an_times : Option Addr} {sl_times : Array (Option Value)} {oc_times kV_times dc_times pm_times cd_times ct_times : Value}
    {a_rows_of : Addr} {od_rows_of an_rows_of : Option Addr} {sl_rows_of : Array (Option Value)} {oc_rows_of kV_rows_of dc_rows_of pm_rows_of cd_rows_of ct_rows_of : Value}
    {a_things : Addr} {od_things an_things : Option Addr} {sl_things : Array (Option Value)} {oc_things kV_things dc_things pm_things cd_things ct_things : Value}
    {a_low_table : Addr} {od_low_table an_low_table : Option Addr} {sl_low_table : Array (Option Value)} {oc_low_table kV_low_table dc_low_table pm_low_table cd_low_table ct_low_table : Value}
    {a_check : Addr} {od_check an_check : Option Addr} {sl_check : Array (Option Value)} {oc_check kV_check dc_check pm_check cd_check ct_check : Value}
    {a_ended_low : Addr} {od_ended_low an_ended_low : Option Addr} {sl_ended_low : Array (Option Value)} {oc_ended_low kV_ended_low dc_ended_low pm_ended_low cd_ended_low ct_ended_low : Value}
    {a_many_low : Addr} {od_many_low an_many_low : Option Addr} {sl_many_low : Array (Option Value)} {oc_many_low kV_many_low dc_many_low pm_many_low cd_many_low ct_many_low : Value}
    {a_by_height : Addr} {od_by_height an_by_height : Option Addr} {sl_by_height : Array (Option Value)} {oc_by_height kV_by_height dc_by_height pm_by_height cd_by_height ct_by_height : Value}
    {a_greatest_height : Addr} {od_greatest_height an_greatest_height : Option Addr} {sl_greatest_height : Array (Option Value)} {oc_greatest_height kV_greatest_height dc_greatest_height pm_greatest_height cd_greatest_height ct_greatest_height : Value}
    {a_least_height : Addr} {od_least_height an_least_height : Option Addr} {sl_least_height : Array (Option Value)} {oc_least_height kV_least_height dc_least_height pm_least_height cd_least_height ct_least_height : Value}
    {a_chance_low : Addr} {od_chance_low an_chance_low : Option Addr} {sl_chance_low : Array (Option Value)} {oc_chance_low kV_chance_low dc_chance_low pm_chance_low cd_chance_low ct_chance_low : Value}
    {a__law_word : Addr} {od__law_word an__law_word : Option Addr} {sl__law_word : Array (Option Value)} {oc__law_word kV__law_word dc__law_word pm__law_word cd__law_word ct__law_word : Value}
    {a_chances_by_height : Addr} {od_chances_by_height an_chances_by_height : Option Addr} {sl_chances_by_height : Array (Option Value)} {oc_chances_by_height kV_chances_by_height dc_chances_by_height pm_chances_by_height cd_chances_by_height ct_chances_by_height : Value}
    {a_over : Addr} {od_over an_over : Option Addr} {sl_over : Array (Option Value)} {oc_over kV_over dc_over pm_over cd_over ct_over : Value}
    {a_mean_height : Addr} {od_mean_height an_mean_height : Option Addr} {sl_mean_height : Array (Option Value)} {oc_mean_height kV_mean_height dc_mean_height pm_mean_height cd_mean_height ct_mean_height : Value}
    {a_likely_height : Addr} {od_likely_height an_likely_height : Option Addr} {sl_likely_height : Array (Option Value)} {oc_likely_height kV_likely_height dc_likely_height pm_likely_height cd_likely_height ct_likely_height : Value}
    {a__law_less : Addr} {od__law_less an__law_less : Option Addr} {sl__law_less : Array (Option Value)} {oc__law_less kV__law_less dc__law_less pm__law_less cd__law_less ct__law_less : Value}
    {a_power : Addr} {od_power an_power : Option Addr} {sl_power : Array (Option Value)} {oc_power kV_power dc_power pm_power cd_power ct_power : Value}
    {a_made : Addr} {od_made an_made : Option Addr} {sl_made : Array (Option Value)} {oc_made kV_made dc_made pm_made cd_made ct_made : Value}
    {a_start_chance : Addr} {od_start_chance an_start_chance : Option Addr} {sl_start_chance : Array (Option Value)} {oc_start_chance kV_start_chance dc_start_chance pm_start_chance cd_start_chance ct_start_chance : Value}
    {a_round_chances : Addr} {od_round_chances an_round_chances : Option Addr} {sl_round_chances : Array (Option Value)} {oc_round_chances kV_round_chances dc_round_chances pm_round_chances cd_round_chances ct_round_chances : Value}
    {a_law : Addr} {od_law an_law : Option Addr} {sl_law : Array (Option Value)} {oc_law kV_law dc_law pm_law cd_law ct_law : Value}
    (Ma : PySem.W.nsIn K mainGlobals "Misstep" = some (some (.ref MC)))
    (MxL : K.lookup MC = some (excClassObj Mnm Mq1 MC MN Mbs Mbm true Msn Msub Mab Mcol Mdd M0 M1 M2 M3 M5 "ValueError.__new__"))
    (Mbmr : PySem.HandSPX.refsVE Mbm = true)
    (Msa : PySem.W.findIn K (.ref MC) "__setattr__" = some (some (.builtin "object.__setattr__")))
    (Mga : PySem.W.findIn K (.ref MC) "__getattribute__" = some (some (.builtin "BaseException.__getattribute__")))
    (Mgg : PySem.W.findIn K (.ref MC) "__getattr__" = some none)
    (Mnb : PySem.W.findIn K (.ref MC) "word" = some none)
    (Mi : PySem.W.findIn K (.ref MC) "__init__" = some (some (.ref MI)))
    (Mt : PySem.W.typeIn K (.ref MI) = some (.type "function"))
    (Ml : K.lookup MI = some ⟨Moc, Mod, .func (PySem.W.ksFn "__init__" "Misstep.__init__" (FPX.iA "word" p_M) (FPX.iB "this may not be done: " "word" p_M) (FPX.iS "word") .none .none Mdoc Mpm Man (.ref Mcd) Mct Mcc), Msl⟩)
    (McI : PySem.W.codeIn K (.ref Mcd) "Misstep.__init__" = true)
    (Mce : K.lookup Mcc = some ⟨Mcl, Mcld, .cell (some (.ref MC)), Mcsl⟩)
    (Mco : K.lookup Mcd = some ⟨Mccl, Mcdd, .fields Mvs, Mccs⟩)
    (Mcv : Mvs[2]? = some (.str Mfile Mtf))
    (Mcf : ((PySem.Challenge.rw_linesdown_k36_whole_sizes_and_heights.prog.main.file : Str) == Mfile) = true)
    (MkC : PySem.W.keepIn K (.ref MC) = true)
    (MeC : PySem.W.subIn K (.ref MC) (.type "BaseException") = some true)
    (MtC : PySem.W.typeIn K (.ref MC) = some (.type "type"))
    (MhC : PySem.W.hasDictIn K MC = true)
    (MiC : PySem.W.isClsIn K MC = true)
    (MsC : PySem.W.subIn K (.ref MC) (.ref MC) = some true)
    (Msf : PySem.W.mroIn K MC (.ref MC) = some true)
    (Mup : PySem.W.ks_superIn K MC MC "__init__" = some (some (.builtin "ValueError.__init__")))
    (MiV : PySem.W.subIn K (.ref MC) (.type "ValueError") = some true)
    (z_super : PySem.W.nsIn K mainGlobals "super" = some none)
    (stt : PySem.W.nsIn K PySem.cStatics "thirdparty.any" = some none)
    (z_len : PySem.W.nsIn K mainGlobals "len" = some none)
    (z_range : PySem.W.nsIn K mainGlobals "range" = some none)
    (z_tuple : PySem.W.nsIn K mainGlobals "tuple" = some none)
    (z_list : PySem.W.nsIn K mainGlobals "list" = some none)
    (z_sum : PySem.W.nsIn K mainGlobals "sum" = some none)
    (z_abs : PySem.W.nsIn K mainGlobals "abs" = some none)
    (z_int : PySem.W.nsIn K mainGlobals "int" = some none)
    (z_min : PySem.W.nsIn K mainGlobals "min" = some none)
    (z_max : PySem.W.nsIn K mainGlobals "max" = some none)
    (z_any : PySem.W.nsIn K mainGlobals "any" = some none)
    (z_all : PySem.W.nsIn K mainGlobals "all" = some none)
    (z_sorted : PySem.W.nsIn K mainGlobals "sorted" = some none)
    (z_set : PySem.W.nsIn K mainGlobals "set" = some none)
    (z_dict : PySem.W.nsIn K mainGlobals "dict" = some none)
    (z_isinstance : PySem.W.nsIn K mainGlobals "isinstance" = some none)
    (z_str : PySem.W.nsIn K mainGlobals "str" = some none)
    (n_MOST_SIZE : PySem.W.nsIn K mainGlobals "MOST_SIZE" = some (some (.int 16 t_MOST_SIZE)))
    (n_MOST_EXACT : PySem.W.nsIn K mainGlobals "MOST_EXACT" = some (some (.int 12 t_MOST_EXACT)))
    (n__law_state : PySem.W.nsIn K mainGlobals "_law_state" = some (some (.ref a__law_state)))
    (l__law_state : K.lookup a__law_state = some ⟨oc__law_state, od__law_state, .func (PySem.W.fnOf "_law_state" "_law_state" (defArgs s__law_state) (defBody s__law_state) (defScope s__law_state) .none kV__law_state dc__law_state pm__law_state an__law_state cd__law_state ct__law_state), sl__law_state⟩)
    (q__law_state : PySem.W.codeIn K cd__law_state "_law_state" = true)
    (k__law_state : PySem.W.keepIn K (.ref a__law_state) = true)
    (n__law_take : PySem.W.nsIn K mainGlobals "_law_take" = some (some (.ref a__law_take)))
    (l__law_take : K.lookup a__law_take = some ⟨oc__law_take, od__law_take, .func (PySem.W.fnOf "_law_take" "_law_take" (defArgs s__law_take) (defBody s__law_take) (defScope s__law_take) .none kV__law_take dc__law_take pm__law_take an__law_take cd__law_take ct__law_take), sl__law_take⟩)
    (q__law_take : PySem.W.codeIn K cd__law_take "_law_take" = true)
    (k__law_take : PySem.W.keepIn K (.ref a__law_take) = true)
    (n__law_lot : PySem.W.nsIn K mainGlobals "_law_lot" = some (some (.ref a__law_lot)))
    (l__law_lot : K.lookup a__law_lot = some ⟨oc__law_lot, od__law_lot, .func (PySem.W.fnOf "_law_lot" "_law_lot" (defArgs s__law_lot) (defBody s__law_lot) (defScope s__law_lot) .none kV__law_lot dc__law_lot pm__law_lot an__law_lot cd__law_lot ct__law_lot), sl__law_lot⟩)
    (q__law_lot : PySem.W.codeIn K cd__law_lot "_law_lot" = true)
    (k__law_lot : PySem.W.keepIn K (.ref a__law_lot) = true)
    (n__law_fr : PySem.W.nsIn K mainGlobals "_law_fr" = some (some (.ref a__law_fr)))
    (l__law_fr : K.lookup a__law_fr = some ⟨oc__law_fr, od__law_fr, .func (PySem.W.fnOf "_law_fr" "_law_fr" (defArgs s__law_fr) (defBody s__law_fr) (defScope s__law_fr) .none kV__law_fr dc__law_fr pm__law_fr an__law_fr cd__law_fr ct__law_fr), sl__law_fr⟩)
    (q__law_fr : PySem.W.codeIn K cd__law_fr "_law_fr" = true)
    (k__law_fr : PySem.W.keepIn K (.ref a__law_fr) = true)
    (n__law_ordered : PySem.W.nsIn K mainGlobals "_law_ordered" = some (some (.ref a__law_ordered)))
    (l__law_ordered : K.lookup a__law_ordered = some ⟨oc__law_ordered, od__law_ordered, .func (PySem.W.fnOf "_law_ordered" "_law_ordered" (defArgs s__law_ordered) (defBody s__law_ordered) (defScope s__law_ordered) .none kV__law_ordered dc__law_ordered pm__law_ordered an__law_ordered cd__law_ordered ct__law_ordered), sl__law_ordered⟩)
    (q__law_ordered : PySem.W.codeIn K cd__law_ordered "_law_ordered" = true)
    (k__law_ordered : PySem.W.keepIn K (.ref a__law_ordered) = true)
    (n__law_litters : PySem.W.nsIn K mainGlobals "_law_litters" = some (some (.ref a__law_litters)))
    (l__law_litters : K.lookup a__law_litters = some ⟨oc__law_litters, od__law_litters, .func (PySem.W.fnOf "_law_litters" "_law_litters" (defArgs s__law_litters) (defBody s__law_litters) (defScope s__law_litters) .none kV__law_litters dc__law_litters pm__law_litters an__law_litters cd__law_litters ct__law_litters), sl__law_litters⟩)
    (q__law_litters : PySem.W.codeIn K cd__law_litters "_law_litters" = true)
    (k__law_litters : PySem.W.keepIn K (.ref a__law_litters) = true)
    (n__law_book : PySem.W.nsIn K mainGlobals "_law_book" = some (some (.ref a__law_book)))
    (l__law_book : K.lookup a__law_book = some ⟨oc__law_book, od__law_book, .func (PySem.W.fnOf "_law_book" "_law_book" (defArgs s__law_book) (defBody s__law_book) (defScope s__law_book) .none kV__law_book dc__law_book pm__law_book an__law_book cd__law_book ct__law_book), sl__law_book⟩)
    (q__law_book : PySem.W.codeIn K cd__law_book "_law_book" = true)
    (k__law_book : PySem.W.keepIn K (.ref a__law_book) = true)
    (n__law_rows : PySem.W.nsIn K mainGlobals "_law_rows" = some (some (.ref a__law_rows)))
    (l__law_rows : K.lookup a__law_rows = some ⟨oc__law_rows, od__law_rows, .func (PySem.W.fnOf "_law_rows" "_law_rows" (defArgs s__law_rows) (defBody s__law_rows) (defScope s__law_rows) .none kV__law_rows dc__law_rows pm__law_rows an__law_rows cd__law_rows ct__law_rows), sl__law_rows⟩)
    (q__law_rows : PySem.W.codeIn K cd__law_rows "_law_rows" = true)
    (k__law_rows : PySem.W.keepIn K (.ref a__law_rows) = true)
    (n__law_things : PySem.W.nsIn K mainGlobals "_law_things" = some (some (.ref a__law_things)))
    (l__law_things : K.lookup a__law_things = some ⟨oc__law_things, od__law_things, .func (PySem.W.fnOf "_law_things" "_law_things" (defArgs s__law_things) (defBody s__law_things) (defScope s__law_things) .none kV__law_things dc__law_things pm__law_things an__law_things cd__law_things ct__law_things), sl__law_things⟩)
    (q__law_things : PySem.W.codeIn K cd__law_things "_law_things" = true)
    (k__law_things : PySem.W.keepIn K (.ref a__law_things) = true)
    (n__law_laid : PySem.W.nsIn K mainGlobals "_law_laid" = some (some (.ref a__law_laid)))
    (l__law_laid : K.lookup a__law_laid = some ⟨oc__law_laid, od__law_laid, .func (PySem.W.fnOf "_law_laid" "_law_laid" (defArgs s__law_laid) (defBody s__law_laid) (defScope s__law_laid) .none kV__law_laid dc__law_laid pm__law_laid an__law_laid cd__law_laid ct__law_laid), sl__law_laid⟩)
    (q__law_laid : PySem.W.codeIn K cd__law_laid "_law_laid" = true)
    (k__law_laid : PySem.W.keepIn K (.ref a__law_laid) = true)
    (n__law_add : PySem.W.nsIn K mainGlobals "_law_add" = some (some (.ref a__law_add)))
    (l__law_add : K.lookup a__law_add = some ⟨oc__law_add, od__law_add, .func (PySem.W.fnOf "_law_add" "_law_add" (defArgs s__law_add) (defBody s__law_add) (defScope s__law_add) .none kV__law_add dc__law_add pm__law_add an__law_add cd__law_add ct__law_add), sl__law_add⟩)
    (q__law_add : PySem.W.codeIn K cd__law_add "_law_add" = true)
    (k__law_add : PySem.W.keepIn K (.ref a__law_add) = true)
    (n__law_sum : PySem.W.nsIn K mainGlobals "_law_sum" = some (some (.ref a__law_sum)))
    (l__law_sum : K.lookup a__law_sum = some ⟨oc__law_sum, od__law_sum, .func (PySem.W.fnOf "_law_sum" "_law_sum" (defArgs s__law_sum) (defBody s__law_sum) (defScope s__law_sum) .none kV__law_sum dc__law_sum pm__law_sum an__law_sum cd__law_sum ct__law_sum), sl__law_sum⟩)
    (q__law_sum : PySem.W.codeIn K cd__law_sum "_law_sum" = true)
    (k__law_sum : PySem.W.keepIn K (.ref a__law_sum) = true)
    (n__law_height : PySem.W.nsIn K mainGlobals "_law_height" = some (some (.ref a__law_height)))
    (l__law_height : K.lookup a__law_height = some ⟨oc__law_height, od__law_height, .func (PySem.W.fnOf "_law_height" "_law_height" (defArgs s__law_height) (defBody s__law_height) (defScope s__law_height) .none kV__law_height dc__law_height pm__law_height an__law_height cd__law_height ct__law_height), sl__law_height⟩)
    (q__law_height : PySem.W.codeIn K cd__law_height "_law_height" = true)
    (k__law_height : PySem.W.keepIn K (.ref a__law_height) = true)
    (n__law_mul : PySem.W.nsIn K mainGlobals "_law_mul" = some (some (.ref a__law_mul)))
    (l__law_mul : K.lookup a__law_mul = some ⟨oc__law_mul, od__law_mul, .func (PySem.W.fnOf "_law_mul" "_law_mul" (defArgs s__law_mul) (defBody s__law_mul) (defScope s__law_mul) .none kV__law_mul dc__law_mul pm__law_mul an__law_mul cd__law_mul ct__law_mul), sl__law_mul⟩)
    (q__law_mul : PySem.W.codeIn K cd__law_mul "_law_mul" = true)
    (k__law_mul : PySem.W.keepIn K (.ref a__law_mul) = true)
    (n__law_chance : PySem.W.nsIn K mainGlobals "_law_chance" = some (some (.ref a__law_chance)))
    (l__law_chance : K.lookup a__law_chance = some ⟨oc__law_chance, od__law_chance, .func (PySem.W.fnOf "_law_chance" "_law_chance" (defArgs s__law_chance) (defBody s__law_chance) (defScope s__law_chance) .none kV__law_chance dc__law_chance pm__law_chance an__law_chance cd__law_chance ct__law_chance), sl__law_chance⟩)
    (q__law_chance : PySem.W.codeIn K cd__law_chance "_law_chance" = true)
    (k__law_chance : PySem.W.keepIn K (.ref a__law_chance) = true)
    (n_divisor : PySem.W.nsIn K mainGlobals "divisor" = some (some (.ref a_divisor)))
    (l_divisor : K.lookup a_divisor = some ⟨oc_divisor, od_divisor, .func (PySem.W.fnOf "divisor" "divisor" (defArgs s_divisor) (defBody s_divisor) (defScope s_divisor) .none kV_divisor dc_divisor pm_divisor an_divisor cd_divisor ct_divisor), sl_divisor⟩)
    (q_divisor : PySem.W.codeIn K cd_divisor "divisor" = true)
    (k_divisor : PySem.W.keepIn K (.ref a_divisor) = true)
    (n_part : PySem.W.nsIn K mainGlobals "part" = some (some (.ref a_part)))
    (l_part : K.lookup a_part = some ⟨oc_part, od_part, .func (PySem.W.fnOf "part" "part" (defArgs s_part) (defBody s_part) (defScope s_part) .none kV_part dc_part pm_part an_part cd_part ct_part), sl_part⟩)
    (q_part : PySem.W.codeIn K cd_part "part" = true)
    (k_part : PySem.W.keepIn K (.ref a_part) = true)
    (n_plus : PySem.W.nsIn K mainGlobals "plus" = some (some (.ref a_plus)))
    (l_plus : K.lookup a_plus = some ⟨oc_plus, od_plus, .func (PySem.W.fnOf "plus" "plus" (defArgs s_plus) (defBody s_plus) (defScope s_plus) .none kV_plus dc_plus pm_plus an_plus cd_plus ct_plus), sl_plus⟩)
    (q_plus : PySem.W.codeIn K cd_plus "plus" = true)
    (k_plus : PySem.W.keepIn K (.ref a_plus) = true)
    (n_total : PySem.W.nsIn K mainGlobals "total" = some (some (.ref a_total)))
    (l_total : K.lookup a_total = some ⟨oc_total, od_total, .func (PySem.W.fnOf "total" "total" (defArgs s_total) (defBody s_total) (defScope s_total) .none kV_total dc_total pm_total an_total cd_total ct_total), sl_total⟩)
    (q_total : PySem.W.codeIn K cd_total "total" = true)
    (k_total : PySem.W.keepIn K (.ref a_total) = true)
    (n_times : PySem.W.nsIn K mainGlobals "times" = some (some (.ref a_times)))
    (l_times : K.lookup a_times = some ⟨oc_times, od_times, .func (PySem.W.fnOf "times" "times" (defArgs s_times) (defBody s_times) (defScope s_times) .none kV_times dc_times pm_times an_times cd_times ct_times), sl_times⟩)
    (q_times : PySem.W.codeIn K cd_times "times" = true)
    (k_times : PySem.W.keepIn K (.ref a_times) = true)
    (n_rows_of : PySem.W.nsIn K mainGlobals "rows_of" = some (some (.ref a_rows_of)))
    (l_rows_of : K.lookup a_rows_of = some ⟨oc_rows_of, od_rows_of, .func (PySem.W.fnOf "rows_of" "rows_of" (defArgs s_rows_of) (defBody s_rows_of) (defScope s_rows_of) .none kV_rows_of dc_rows_of pm_rows_of an_rows_of cd_rows_of ct_rows_of), sl_rows_of⟩)
    (q_rows_of : PySem.W.codeIn K cd_rows_of "rows_of" = true)
    (k_rows_of : PySem.W.keepIn K (.ref a_rows_of) = true)
    (n_things : PySem.W.nsIn K mainGlobals "things" = some (some (.ref a_things)))
    (l_things : K.lookup a_things = some ⟨oc_things, od_things, .func (PySem.W.fnOf "things" "things" (defArgs s_things) (defBody s_things) (defScope s_things) .none kV_things dc_things pm_things an_things cd_things ct_things), sl_things⟩)
    (q_things : PySem.W.codeIn K cd_things "things" = true)
    (k_things : PySem.W.keepIn K (.ref a_things) = true)
    (n_low_table : PySem.W.nsIn K mainGlobals "low_table" = some (some (.ref a_low_table)))
    (l_low_table : K.lookup a_low_table = some ⟨oc_low_table, od_low_table, .func (PySem.W.fnOf "low_table" "low_table" (defArgs s_low_table) (defBody s_low_table) (defScope s_low_table) .none kV_low_table dc_low_table pm_low_table an_low_table cd_low_table ct_low_table), sl_low_table⟩)
    (q_low_table : PySem.W.codeIn K cd_low_table "low_table" = true)
    (k_low_table : PySem.W.keepIn K (.ref a_low_table) = true)
    (n_check : PySem.W.nsIn K mainGlobals "check" = some (some (.ref a_check)))
    (l_check : K.lookup a_check = some ⟨oc_check, od_check, .func (PySem.W.fnOf "check" "check" (defArgs s_check) (defBody s_check) (defScope s_check) .none kV_check dc_check pm_check an_check cd_check ct_check), sl_check⟩)
    (q_check : PySem.W.codeIn K cd_check "check" = true)
    (k_check : PySem.W.keepIn K (.ref a_check) = true)
    (n_ended_low : PySem.W.nsIn K mainGlobals "ended_low" = some (some (.ref a_ended_low)))
    (l_ended_low : K.lookup a_ended_low = some ⟨oc_ended_low, od_ended_low, .func (PySem.W.fnOf "ended_low" "ended_low" (defArgs s_ended_low) (defBody s_ended_low) (defScope s_ended_low) .none kV_ended_low dc_ended_low pm_ended_low an_ended_low cd_ended_low ct_ended_low), sl_ended_low⟩)
    (q_ended_low : PySem.W.codeIn K cd_ended_low "ended_low" = true)
    (k_ended_low : PySem.W.keepIn K (.ref a_ended_low) = true)
    (n_many_low : PySem.W.nsIn K mainGlobals "many_low" = some (some (.ref a_many_low)))
    (l_many_low : K.lookup a_many_low = some ⟨oc_many_low, od_many_low, .func (PySem.W.fnOf "many_low" "many_low" (defArgs s_many_low) (defBody s_many_low) (defScope s_many_low) .none kV_many_low dc_many_low pm_many_low an_many_low cd_many_low ct_many_low), sl_many_low⟩)
    (q_many_low : PySem.W.codeIn K cd_many_low "many_low" = true)
    (k_many_low : PySem.W.keepIn K (.ref a_many_low) = true)
    (n_by_height : PySem.W.nsIn K mainGlobals "by_height" = some (some (.ref a_by_height)))
    (l_by_height : K.lookup a_by_height = some ⟨oc_by_height, od_by_height, .func (PySem.W.fnOf "by_height" "by_height" (defArgs s_by_height) (defBody s_by_height) (defScope s_by_height) .none kV_by_height dc_by_height pm_by_height an_by_height cd_by_height ct_by_height), sl_by_height⟩)
    (q_by_height : PySem.W.codeIn K cd_by_height "by_height" = true)
    (k_by_height : PySem.W.keepIn K (.ref a_by_height) = true)
    (n_greatest_height : PySem.W.nsIn K mainGlobals "greatest_height" = some (some (.ref a_greatest_height)))
    (l_greatest_height : K.lookup a_greatest_height = some ⟨oc_greatest_height, od_greatest_height, .func (PySem.W.fnOf "greatest_height" "greatest_height" (defArgs s_greatest_height) (defBody s_greatest_height) (defScope s_greatest_height) .none kV_greatest_height dc_greatest_height pm_greatest_height an_greatest_height cd_greatest_height ct_greatest_height), sl_greatest_height⟩)
    (q_greatest_height : PySem.W.codeIn K cd_greatest_height "greatest_height" = true)
    (k_greatest_height : PySem.W.keepIn K (.ref a_greatest_height) = true)
    (n_least_height : PySem.W.nsIn K mainGlobals "least_height" = some (some (.ref a_least_height)))
    (l_least_height : K.lookup a_least_height = some ⟨oc_least_height, od_least_height, .func (PySem.W.fnOf "least_height" "least_height" (defArgs s_least_height) (defBody s_least_height) (defScope s_least_height) .none kV_least_height dc_least_height pm_least_height an_least_height cd_least_height ct_least_height), sl_least_height⟩)
    (q_least_height : PySem.W.codeIn K cd_least_height "least_height" = true)
    (k_least_height : PySem.W.keepIn K (.ref a_least_height) = true)
    (n_chance_low : PySem.W.nsIn K mainGlobals "chance_low" = some (some (.ref a_chance_low)))
    (l_chance_low : K.lookup a_chance_low = some ⟨oc_chance_low, od_chance_low, .func (PySem.W.fnOf "chance_low" "chance_low" (defArgs s_chance_low) (defBody s_chance_low) (defScope s_chance_low) .none kV_chance_low dc_chance_low pm_chance_low an_chance_low cd_chance_low ct_chance_low), sl_chance_low⟩)
    (q_chance_low : PySem.W.codeIn K cd_chance_low "chance_low" = true)
    (k_chance_low : PySem.W.keepIn K (.ref a_chance_low) = true)
    (n__law_word : PySem.W.nsIn K mainGlobals "_law_word" = some (some (.ref a__law_word)))
    (l__law_word : K.lookup a__law_word = some ⟨oc__law_word, od__law_word, .func (PySem.W.fnOf "_law_word" "_law_word" (defArgs s__law_word) (defBody s__law_word) (defScope s__law_word) .none kV__law_word dc__law_word pm__law_word an__law_word cd__law_word ct__law_word), sl__law_word⟩)
    (q__law_word : PySem.W.codeIn K cd__law_word "_law_word" = true)
    (k__law_word : PySem.W.keepIn K (.ref a__law_word) = true)
    (n_chances_by_height : PySem.W.nsIn K mainGlobals "chances_by_height" = some (some (.ref a_chances_by_height)))
    (l_chances_by_height : K.lookup a_chances_by_height = some ⟨oc_chances_by_height, od_chances_by_height, .func (PySem.W.fnOf "chances_by_height" "chances_by_height" (defArgs s_chances_by_height) (defBody s_chances_by_height) (defScope s_chances_by_height) .none kV_chances_by_height dc_chances_by_height pm_chances_by_height an_chances_by_height cd_chances_by_height ct_chances_by_height), sl_chances_by_height⟩)
    (q_chances_by_height : PySem.W.codeIn K cd_chances_by_height "chances_by_height" = true)
    (k_chances_by_height : PySem.W.keepIn K (.ref a_chances_by_height) = true)
    (n_over : PySem.W.nsIn K mainGlobals "over" = some (some (.ref a_over)))
    (l_over : K.lookup a_over = some ⟨oc_over, od_over, .func (PySem.W.fnOf "over" "over" (defArgs s_over) (defBody s_over) (defScope s_over) .none kV_over dc_over pm_over an_over cd_over ct_over), sl_over⟩)
    (q_over : PySem.W.codeIn K cd_over "over" = true)
    (k_over : PySem.W.keepIn K (.ref a_over) = true)
    (n_mean_height : PySem.W.nsIn K mainGlobals "mean_height" = some (some (.ref a_mean_height)))
    (l_mean_height : K.lookup a_mean_height = some ⟨oc_mean_height, od_mean_height, .func (PySem.W.fnOf "mean_height" "mean_height" (defArgs s_mean_height) (defBody s_mean_height) (defScope s_mean_height) .none kV_mean_height dc_mean_height pm_mean_height an_mean_height cd_mean_height ct_mean_height), sl_mean_height⟩)
    (q_mean_height : PySem.W.codeIn K cd_mean_height "mean_height" = true)
    (k_mean_height : PySem.W.keepIn K (.ref a_mean_height) = true)
    (n_likely_height : PySem.W.nsIn K mainGlobals "likely_height" = some (some (.ref a_likely_height)))
    (l_likely_height : K.lookup a_likely_height = some ⟨oc_likely_height, od_likely_height, .func (PySem.W.fnOf "likely_height" "likely_height" (defArgs s_likely_height) (defBody s_likely_height) (defScope s_likely_height) .none kV_likely_height dc_likely_height pm_likely_height an_likely_height cd_likely_height ct_likely_height), sl_likely_height⟩)
    (q_likely_height : PySem.W.codeIn K cd_likely_height "likely_height" = true)
    (k_likely_height : PySem.W.keepIn K (.ref a_likely_height) = true)
    (n__law_less : PySem.W.nsIn K mainGlobals "_law_less" = some (some (.ref a__law_less)))
    (l__law_less : K.lookup a__law_less = some ⟨oc__law_less, od__law_less, .func (PySem.W.fnOf "_law_less" "_law_less" (defArgs s__law_less) (defBody s__law_less) (defScope s__law_less) .none kV__law_less dc__law_less pm__law_less an__law_less cd__law_less ct__law_less), sl__law_less⟩)
    (q__law_less : PySem.W.codeIn K cd__law_less "_law_less" = true)
    (k__law_less : PySem.W.keepIn K (.ref a__law_less) = true)
    (n_power : PySem.W.nsIn K mainGlobals "power" = some (some (.ref a_power)))
    (l_power : K.lookup a_power = some ⟨oc_power, od_power, .func (PySem.W.fnOf "power" "power" (defArgs s_power) (defBody s_power) (defScope s_power) .none kV_power dc_power pm_power an_power cd_power ct_power), sl_power⟩)
    (q_power : PySem.W.codeIn K cd_power "power" = true)
    (k_power : PySem.W.keepIn K (.ref a_power) = true)
    (n_made : PySem.W.nsIn K mainGlobals "made" = some (some (.ref a_made)))
    (l_made : K.lookup a_made = some ⟨oc_made, od_made, .func (PySem.W.fnOf "made" "made" (defArgs s_made) (defBody s_made) (defScope s_made) .none kV_made dc_made pm_made an_made cd_made ct_made), sl_made⟩)
    (q_made : PySem.W.codeIn K cd_made "made" = true)
    (k_made : PySem.W.keepIn K (.ref a_made) = true)
    (n_start_chance : PySem.W.nsIn K mainGlobals "start_chance" = some (some (.ref a_start_chance)))
    (l_start_chance : K.lookup a_start_chance = some ⟨oc_start_chance, od_start_chance, .func (PySem.W.fnOf "start_chance" "start_chance" (defArgs s_start_chance) (defBody s_start_chance) (defScope s_start_chance) .none kV_start_chance dc_start_chance pm_start_chance an_start_chance cd_start_chance ct_start_chance), sl_start_chance⟩)
    (q_start_chance : PySem.W.codeIn K cd_start_chance "start_chance" = true)
    (k_start_chance : PySem.W.keepIn K (.ref a_start_chance) = true)
    (n_round_chances : PySem.W.nsIn K mainGlobals "round_chances" = some (some (.ref a_round_chances)))
    (l_round_chances : K.lookup a_round_chances = some ⟨oc_round_chances, od_round_chances, .func (PySem.W.fnOf "round_chances" "round_chances" (defArgs s_round_chances) (defBody s_round_chances) (defScope s_round_chances) .none kV_round_chances dc_round_chances pm_round_chances an_round_chances cd_round_chances ct_round_chances), sl_round_chances⟩)
    (q_round_chances : PySem.W.codeIn K cd_round_chances "round_chances" = true)
    (k_round_chances : PySem.W.keepIn K (.ref a_round_chances) = true)
    (n_law : PySem.W.nsIn K mainGlobals "law" = some (some (.ref a_law)))
    (l_law : K.lookup a_law = some ⟨oc_law, od_law, .func (PySem.W.fnOf "law" "law" (defArgs s_law) (defBody s_law) (defScope s_law) .none kV_law dc_law pm_law an_law cd_law ct_law), sl_law⟩)
    (q_law : PySem.W.codeIn K cd_law "law" = true)
    (k_law : PySem.W.keepIn K (.ref a_law) = true)
    (hlaw : ∀ ns : List Int, ns.length ≤ 63 → ∃ w', c_law (lawW 28 ⟨0, stCells ns⟩) = .rt (.bl true) w') :
    ∃ fd : FuncData, (∀ (s : Shared) (v : Value), BindsTo s fd ⟨[v], []⟩ [("script", v)]) ∧ ∀ base : Heap, K.In base → base.Ns mainGlobals mg → FnOk PySem.Challenge.rw_linesdown_k36_whole_sizes_and_heights.prog w K mg base (L2.CX PySem.Challenge.rw_linesdown_k36_whole_sizes_and_heights.prog w) 21 fa fd ["script"] (spLaw K) := by
  have e := hfa.symm.trans (PySem.W.mg_of X G n_law)
  cases e
  have Mx : FPX.MsTxt PySem.Challenge.rw_linesdown_k36_whole_sizes_and_heights.prog K mg "Misstep" "this may not be done: " "word" "Misstep.__init__" MC MI Mcc Mcd :=
    { gC := PySem.W.mg_of X G Ma, cls := ⟨_, _, _, _, _, _, _, _, _, _, _, _, _, _, _, MxL, Mbmr⟩, sa := Msa, ga := Mga, gg := Mgg, noN := Mnb, iC := Mi, tC := Mt, kC := MkC, exC := MeC, tyC := MtC, hdC := MhC, te := exm_self MeC MiC MtC MsC,
      fn := ⟨_, _, _, _, _, _, _, p_M, Ml, McI, ⟨_, fun _ => rfl⟩⟩, cell := ⟨_, _, _, Mce⟩, code := ⟨_, _, _, _, _, _, Mco, Mcv, Mcf⟩, top := by rfl, gs := PySem.W.mg_none_of X G z_super, self := Msf, up := Mup, isV := MiV, st := stt }
  have T : Bl mg := ⟨PySem.W.mg_none_of X G z_len, PySem.W.mg_none_of X G z_range, PySem.W.mg_none_of X G z_tuple, PySem.W.mg_none_of X G z_list, PySem.W.mg_none_of X G z_sum, PySem.W.mg_none_of X G z_abs, PySem.W.mg_none_of X G z_int, PySem.W.mg_none_of X G z_min, PySem.W.mg_none_of X G z_max, PySem.W.mg_none_of X G z_any, PySem.W.mg_none_of X G z_all, PySem.W.mg_none_of X G z_sorted, PySem.W.mg_none_of X G z_set, PySem.W.mg_none_of X G z_dict, PySem.W.mg_none_of X G z_isinstance, PySem.W.mg_none_of X G z_str⟩
  have F__law_state := fun_mk (st := s__law_state) l__law_state q__law_state k__law_state
  have F__law_take := fun_mk (st := s__law_take) l__law_take q__law_take k__law_take
  have F__law_lot := fun_mk (st := s__law_lot) l__law_lot q__law_lot k__law_lot
  have F__law_fr := fun_mk (st := s__law_fr) l__law_fr q__law_fr k__law_fr
  have F__law_ordered := fun_mk (st := s__law_ordered) l__law_ordered q__law_ordered k__law_ordered
  have F__law_litters := fun_mk (st := s__law_litters) l__law_litters q__law_litters k__law_litters
  have F__law_book := fun_mk (st := s__law_book) l__law_book q__law_book k__law_book
  have F__law_rows := fun_mk (st := s__law_rows) l__law_rows q__law_rows k__law_rows
  have F__law_things := fun_mk (st := s__law_things) l__law_things q__law_things k__law_things
  have F__law_laid := fun_mk (st := s__law_laid) l__law_laid q__law_laid k__law_laid
  have F__law_add := fun_mk (st := s__law_add) l__law_add q__law_add k__law_add
  have F__law_sum := fun_mk (st := s__law_sum) l__law_sum q__law_sum k__law_sum
  have F__law_height := fun_mk (st := s__law_height) l__law_height q__law_height k__law_height
  have F__law_mul := fun_mk (st := s__law_mul) l__law_mul q__law_mul k__law_mul
  have F__law_chance := fun_mk (st := s__law_chance) l__law_chance q__law_chance k__law_chance
  have F_divisor := fun_mk (st := s_divisor) l_divisor q_divisor k_divisor
  have F_part := fun_mk (st := s_part) l_part q_part k_part
  have F_plus := fun_mk (st := s_plus) l_plus q_plus k_plus
  have F_total := fun_mk (st := s_total) l_total q_total k_total
  have F_times := fun_mk (st := s_times) l_times q_times k_times
  have F_rows_of := fun_mk (st := s_rows_of) l_rows_of q_rows_of k_rows_of
  have F_things := fun_mk (st := s_things) l_things q_things k_things
  have F_low_table := fun_mk (st := s_low_table) l_low_table q_low_table k_low_table
  have F_check := fun_mk (st := s_check) l_check q_check k_check
  have F_ended_low := fun_mk (st := s_ended_low) l_ended_low q_ended_low k_ended_low
  have F_many_low := fun_mk (st := s_many_low) l_many_low q_many_low k_many_low
  have F_by_height := fun_mk (st := s_by_height) l_by_height q_by_height k_by_height
  have F_greatest_height := fun_mk (st := s_greatest_height) l_greatest_height q_greatest_height k_greatest_height
  have F_least_height := fun_mk (st := s_least_height) l_least_height q_least_height k_least_height
  have F_chance_low := fun_mk (st := s_chance_low) l_chance_low q_chance_low k_chance_low
  have F__law_word := fun_mk (st := s__law_word) l__law_word q__law_word k__law_word
  have F_chances_by_height := fun_mk (st := s_chances_by_height) l_chances_by_height q_chances_by_height k_chances_by_height
  have F_over := fun_mk (st := s_over) l_over q_over k_over
  have F_mean_height := fun_mk (st := s_mean_height) l_mean_height q_mean_height k_mean_height
  have F_likely_height := fun_mk (st := s_likely_height) l_likely_height q_likely_height k_likely_height
  have F__law_less := fun_mk (st := s__law_less) l__law_less q__law_less k__law_less
  have F_power := fun_mk (st := s_power) l_power q_power k_power
  have F_made := fun_mk (st := s_made) l_made q_made k_made
  have F_start_chance := fun_mk (st := s_start_chance) l_start_chance q_start_chance k_start_chance
  have F_round_chances := fun_mk (st := s_round_chances) l_round_chances q_round_chances k_round_chances
  have F_law := fun_mk (st := s_law) l_law q_law k_law
  have g_MOST_SIZE := PySem.W.mg_of X G n_MOST_SIZE
  have g_MOST_EXACT := PySem.W.mg_of X G n_MOST_EXACT
  have Mg : (⟨K, fun _ => MC⟩ : Gc).cls .misstep = MC := rfl
  refine ⟨PySem.W.fnOf "law" "law" (defArgs s_law) (defBody s_law) (defScope s_law) .none kV_law dc_law pm_law an_law cd_law ct_law, fun s v => .of_eq rfl, fun base _ _ => ?_⟩
  have w__law_take : Fn PySem.Challenge.rw_linesdown_k36_whole_sizes_and_heights.prog w mg base ⟨K, fun _ => MC⟩ 1 "_law_take" 2 f__law_take := fn_take T rfl F__law_take (PySem.W.mg_of X G n__law_take)
  have w__law_lot : Fn PySem.Challenge.rw_linesdown_k36_whole_sizes_and_heights.prog w mg base ⟨K, fun _ => MC⟩ 2 "_law_lot" 3 f__law_lot := fn__law_lot T w__law_take F__law_lot (PySem.W.mg_of X G n__law_lot)
  have w__law_fr : Fn PySem.Challenge.rw_linesdown_k36_whole_sizes_and_heights.prog w mg base ⟨K, fun _ => MC⟩ 1 "_law_fr" 2 f__law_fr := fn__law_fr T F__law_fr (PySem.W.mg_of X G n__law_fr)
  have w__law_ordered : Fn PySem.Challenge.rw_linesdown_k36_whole_sizes_and_heights.prog w mg base ⟨K, fun _ => MC⟩ 2 "_law_ordered" 2 f__law_ordered := fn__law_ordered T w__law_fr F__law_ordered (PySem.W.mg_of X G n__law_ordered)
  have w__law_litters : Fn PySem.Challenge.rw_linesdown_k36_whole_sizes_and_heights.prog w mg base ⟨K, fun _ => MC⟩ 3 "_law_litters" 3 f__law_litters := fn__law_litters T w__law_take w__law_lot w__law_ordered F__law_litters (PySem.W.mg_of X G n__law_litters)
  have w__law_book : Fn PySem.Challenge.rw_linesdown_k36_whole_sizes_and_heights.prog w mg base ⟨K, fun _ => MC⟩ 4 "_law_book" 2 f__law_book := fn__law_book T w__law_take w__law_litters w__law_lot F__law_book (PySem.W.mg_of X G n__law_book)
  have w__law_rows : Fn PySem.Challenge.rw_linesdown_k36_whole_sizes_and_heights.prog w mg base ⟨K, fun _ => MC⟩ 13 "_law_rows" 3 f__law_rows := fn__law_rows T F__law_rows (PySem.W.mg_of X G n__law_rows)
  have w__law_things : Fn PySem.Challenge.rw_linesdown_k36_whole_sizes_and_heights.prog w mg base ⟨K, fun _ => MC⟩ 1 "_law_things" 1 f__law_things := fn__law_things T F__law_things (PySem.W.mg_of X G n__law_things)
  have w__law_laid : Fn PySem.Challenge.rw_linesdown_k36_whole_sizes_and_heights.prog w mg base ⟨K, fun _ => MC⟩ 14 "_law_laid" 2 f__law_laid := fn__law_laid T w__law_rows w__law_things F__law_laid (PySem.W.mg_of X G n__law_laid)
  have w__law_add : Fn PySem.Challenge.rw_linesdown_k36_whole_sizes_and_heights.prog w mg base ⟨K, fun _ => MC⟩ 2 "_law_add" 2 f__law_add := fn__law_add T w__law_fr F__law_add (PySem.W.mg_of X G n__law_add)
  have w__law_sum : Fn PySem.Challenge.rw_linesdown_k36_whole_sizes_and_heights.prog w mg base ⟨K, fun _ => MC⟩ 3 "_law_sum" 1 f__law_sum := fn__law_sum T w__law_add F__law_sum (PySem.W.mg_of X G n__law_sum)
  have w__law_height : Fn PySem.Challenge.rw_linesdown_k36_whole_sizes_and_heights.prog w mg base ⟨K, fun _ => MC⟩ 13 "_law_height" 1 f__law_height := fn__law_height T F__law_height (PySem.W.mg_of X G n__law_height)
  have w__law_mul : Fn PySem.Challenge.rw_linesdown_k36_whole_sizes_and_heights.prog w mg base ⟨K, fun _ => MC⟩ 2 "_law_mul" 2 f__law_mul := fn__law_mul T w__law_fr F__law_mul (PySem.W.mg_of X G n__law_mul)
  have w__law_chance : Fn PySem.Challenge.rw_linesdown_k36_whole_sizes_and_heights.prog w mg base ⟨K, fun _ => MC⟩ 14 "_law_chance" 2 f__law_chance := fn__law_chance T w__law_mul F__law_chance (PySem.W.mg_of X G n__law_chance)
  have w_divisor : Fn PySem.Challenge.rw_linesdown_k36_whole_sizes_and_heights.prog w mg base ⟨K, fun _ => MC⟩ 1 "divisor" 2 f_divisor := fn_divisor T F_divisor (PySem.W.mg_of X G n_divisor)
  have w_part : Fn PySem.Challenge.rw_linesdown_k36_whole_sizes_and_heights.prog w mg base ⟨K, fun _ => MC⟩ 2 "part" 2 f_part := fn_part T w_divisor F_part (PySem.W.mg_of X G n_part)
  have w_plus : Fn PySem.Challenge.rw_linesdown_k36_whole_sizes_and_heights.prog w mg base ⟨K, fun _ => MC⟩ 3 "plus" 2 f_plus := fn_plus T w_part F_plus (PySem.W.mg_of X G n_plus)
  have w_total : Fn PySem.Challenge.rw_linesdown_k36_whole_sizes_and_heights.prog w mg base ⟨K, fun _ => MC⟩ 4 "total" 1 f_total := fn_total T w_plus F_total (PySem.W.mg_of X G n_total)
  have w_times : Fn PySem.Challenge.rw_linesdown_k36_whole_sizes_and_heights.prog w mg base ⟨K, fun _ => MC⟩ 3 "times" 2 f_times := fn_times T w_part F_times (PySem.W.mg_of X G n_times)
  have w_rows_of : Fn PySem.Challenge.rw_linesdown_k36_whole_sizes_and_heights.prog w mg base ⟨K, fun _ => MC⟩ 16 "rows_of" 4 f_rows_of := fn_rows_of T w_total w_times F_rows_of (PySem.W.mg_of X G n_rows_of)
  have w_things : Fn PySem.Challenge.rw_linesdown_k36_whole_sizes_and_heights.prog w mg base ⟨K, fun _ => MC⟩ 1 "things" 1 f_things := fn_things T F_things (PySem.W.mg_of X G n_things)
  have w_low_table : Fn PySem.Challenge.rw_linesdown_k36_whole_sizes_and_heights.prog w mg base ⟨K, fun _ => MC⟩ 17 "low_table" 4 f_low_table := fn_low_table T w_rows_of w_things w_total w_times F_low_table (PySem.W.mg_of X G n_low_table)
  have w_check : Fn PySem.Challenge.rw_linesdown_k36_whole_sizes_and_heights.prog w mg base ⟨K, fun _ => MC⟩ 2 "check" 2 f_check := fn_check T Mx Mg g_MOST_SIZE F_check (PySem.W.mg_of X G n_check)
  have w_ended_low : Fn PySem.Challenge.rw_linesdown_k36_whole_sizes_and_heights.prog w mg base ⟨K, fun _ => MC⟩ 18 "ended_low" 4 f_ended_low := fn_ended_low T w_check w_total w_low_table F_ended_low (PySem.W.mg_of X G n_ended_low)
  have w_many_low : Fn PySem.Challenge.rw_linesdown_k36_whole_sizes_and_heights.prog w mg base ⟨K, fun _ => MC⟩ 18 "many_low" 4 f_many_low := fn_many_low T w_check w_low_table F_many_low (PySem.W.mg_of X G n_many_low)
  have w_by_height : Fn PySem.Challenge.rw_linesdown_k36_whole_sizes_and_heights.prog w mg base ⟨K, fun _ => MC⟩ 19 "by_height" 3 f_by_height := fn_by_height T w_check w_many_low F_by_height (PySem.W.mg_of X G n_by_height)
  have w_greatest_height : Fn PySem.Challenge.rw_linesdown_k36_whole_sizes_and_heights.prog w mg base ⟨K, fun _ => MC⟩ 20 "greatest_height" 3 f_greatest_height := fn_greatest_height T w_by_height F_greatest_height (PySem.W.mg_of X G n_greatest_height)
  have w_least_height : Fn PySem.Challenge.rw_linesdown_k36_whole_sizes_and_heights.prog w mg base ⟨K, fun _ => MC⟩ 20 "least_height" 3 f_least_height := fn_least_height T w_by_height F_least_height (PySem.W.mg_of X G n_least_height)
  have w_chance_low : Fn PySem.Challenge.rw_linesdown_k36_whole_sizes_and_heights.prog w mg base ⟨K, fun _ => MC⟩ 18 "chance_low" 4 f_chance_low := fn_chance_low T w_check w_low_table F_chance_low (PySem.W.mg_of X G n_chance_low)
  have w__law_word : Fn PySem.Challenge.rw_linesdown_k36_whole_sizes_and_heights.prog w mg base ⟨K, fun _ => MC⟩ 19 "_law_word" 2 f__law_word := fn__law_word T Mx Mg g_MOST_SIZE w_check w_many_low w_chance_low w_ended_low F__law_word (PySem.W.mg_of X G n__law_word)
  have w_chances_by_height : Fn PySem.Challenge.rw_linesdown_k36_whole_sizes_and_heights.prog w mg base ⟨K, fun _ => MC⟩ 19 "chances_by_height" 3 f_chances_by_height := fn_chances_by_height T w_check w_chance_low w_plus F_chances_by_height (PySem.W.mg_of X G n_chances_by_height)
  have w_over : Fn PySem.Challenge.rw_linesdown_k36_whole_sizes_and_heights.prog w mg base ⟨K, fun _ => MC⟩ 3 "over" 2 f_over := fn_over T w_part F_over (PySem.W.mg_of X G n_over)
  have w_mean_height : Fn PySem.Challenge.rw_linesdown_k36_whole_sizes_and_heights.prog w mg base ⟨K, fun _ => MC⟩ 20 "mean_height" 3 f_mean_height := fn_mean_height T w_chances_by_height w_total w_over w_times F_mean_height (PySem.W.mg_of X G n_mean_height)
  have w_likely_height : Fn PySem.Challenge.rw_linesdown_k36_whole_sizes_and_heights.prog w mg base ⟨K, fun _ => MC⟩ 20 "likely_height" 3 f_likely_height := fn_likely_height T w_chances_by_height w_total F_likely_height (PySem.W.mg_of X G n_likely_height)
  have w__law_less : Fn PySem.Challenge.rw_linesdown_k36_whole_sizes_and_heights.prog w mg base ⟨K, fun _ => MC⟩ 1 "_law_less" 2 f__law_less := fn__law_less T F__law_less (PySem.W.mg_of X G n__law_less)
  have w_power : Fn PySem.Challenge.rw_linesdown_k36_whole_sizes_and_heights.prog w mg base ⟨K, fun _ => MC⟩ 4 "power" 2 f_power := fn_power T w_times F_power (PySem.W.mg_of X G n_power)
  have w_made : Fn PySem.Challenge.rw_linesdown_k36_whole_sizes_and_heights.prog w mg base ⟨K, fun _ => MC⟩ 5 "made" 2 f_made := fn_made T w_times w_power w_total F_made (PySem.W.mg_of X G n_made)
  have w_start_chance : Fn PySem.Challenge.rw_linesdown_k36_whole_sizes_and_heights.prog w mg base ⟨K, fun _ => MC⟩ 5 "start_chance" 2 f_start_chance := fn_start_chance T w_times w_power F_start_chance (PySem.W.mg_of X G n_start_chance)
  have w_round_chances : Fn PySem.Challenge.rw_linesdown_k36_whole_sizes_and_heights.prog w mg base ⟨K, fun _ => MC⟩ 6 "round_chances" 2 f_round_chances := fn_round_chances T Mx Mg g_MOST_EXACT w_start_chance w_made F_round_chances (PySem.W.mg_of X G n_round_chances)
  exact ok_law (gc := ⟨K, fun _ => MC⟩) T w__law_book w__law_laid w__law_take w__law_height w__law_chance w__law_sum w_by_height w_chances_by_height w_many_low w_chance_low w_ended_low w_mean_height w_likely_height w__law_mul w__law_less w__law_fr w_greatest_height w_least_height w_low_table w__law_things w__law_lot w_rows_of w__law_rows w_round_chances w__law_word F__law_state (PySem.W.mg_of X G n__law_state) F_law hlaw
theorem walk {q : Program} {loose : List Str} {XP : (Str → Option Value) → Heap → Prop} {YP : World → Heap → Prop} {d : DefRec} {K : Params → PySem.W.Frag} (hdf : d.params.defaults = [])
    (hY : ∀ (w : World) (h : Heap), YP w h → (K w.params).In h)
    (F : ∀ (w : World) (mg : Str → Option Value) (fa : Addr) (h : Heap), (K w.params).In h → h.Ns mainGlobals mg → mg d.name = some (.ref fa) →
      ∃ fd : FuncData, (∀ (s : Shared) (u : Value), BindsTo s fd ⟨[u], []⟩ [("script", u)]) ∧ ∀ base : Heap, (K w.params).In base → base.Ns mainGlobals mg → FnOk PySem.Challenge.rw_linesdown_k36_whole_sizes_and_heights.prog w (K w.params) mg base (L2.CX PySem.Challenge.rw_linesdown_k36_whole_sizes_and_heights.prog w) 21 fa fd ["script"] (spLaw (K w.params))) :
    PySem.W.WalkO q loose XP YP PySem.Challenge.rw_linesdown_k36_whole_sizes_and_heights.row.toRowW d [] (fun f vs => PySem.call f vs) :=
  L2.walk_of (l := PySem.Challenge.rw_linesdown_k36_whole_sizes_and_heights) (n := 63) (k := 21) (x := "script") (CX := fun w => L2.CX PySem.Challenge.rw_linesdown_k36_whole_sizes_and_heights.prog w) (sp := fun w => spLaw (K w.params)) rfl (by decide) hdf ⟨rfl, by decide, by decide⟩ hY F (fun _ _ a ns hl _ hS => ⟨a, ns, rfl, hS, hl, fun _ => rfl⟩) fun _ _ _ _ _ ⟨_, _, _, _, _, _, _, _, _, _, _, _, z⟩ => z
end Law


set_option Elab.async false
set_option linter.all false
set_option maxRecDepth 100000
set_option maxHeartbeats 4000000
open PySem PySem.W PyProof.Rows
set_option maxRecDepth 100000 in
set_option maxHeartbeats 0 in
theorem PySem.Challenge.cw_linesdown_k36_whole_sizes_and_heights_holds : PySem.Challenge.rw_linesdown_k36_whole_sizes_and_heights.Holds := by
  w_on; o_law; k_head; (case hw => w_witness2)
  k_fill
  refine Law.walk rfl (fun w h Y => PySem.W.kIn_of Y) ?F
  case F =>
    intro w mg fa h KX G hmg
    refine' Law.all_mk KX G hmg ?Ma ?MxL ?Mbmr ?Msa ?Mga ?Mgg ?Mnb ?Mi ?Mt ?Ml ?McI ?Mce ?Mco ?Mcv ?Mcf ?MkC ?MeC ?MtC ?MhC ?MiC ?MsC ?Msf ?Mup ?MiV ?z_super ?stt ?z_len ?z_range ?z_tuple ?z_list ?z_sum ?z_abs ?z_int ?z_min ?z_max ?z_any ?z_all ?z_sorted ?z_set ?z_dict ?z_isinstance ?z_str ?n_MOST_SIZE ?n_MOST_EXACT ?n__law_state ?l__law_state ?q__law_state ?k__law_state ?n__law_take ?l__law_take ?q__law_take ?k__law_take ?n__law_lot ?l__law_lot ?q__law_lot ?k__law_lot ?n__law_fr ?l__law_fr ?q__law_fr ?k__law_fr ?n__law_ordered ?l__law_ordered ?q__law_ordered ?k__law_ordered ?n__law_litters ?l__law_litters ?q__law_litters ?k__law_litters ?n__law_book ?l__law_book ?q__law_book ?k__law_book ?n__law_rows ?l__law_rows ?q__law_rows ?k__law_rows ?n__law_things ?l__law_things ?q__law_things ?k__law_things ?n__law_laid ?l__law_laid ?q__law_laid ?k__law_laid ?n__law_add ?l__law_add ?q__law_add ?k__law_add ?n__law_sum ?l__law_sum ?q__law_sum ?k__law_sum ?n__law_height ?l__law_height ?q__law_height ?k__law_height ?n__law_mul ?l__law_mul ?q__law_mul ?k__law_mul ?n__law_chance ?l__law_chance ?q__law_chance ?k__law_chance ?n_divisor ?l_divisor ?q_divisor ?k_divisor ?n_part ?l_part ?q_part ?k_part ?n_plus ?l_plus ?q_plus ?k_plus ?n_total ?l_total ?q_total ?k_total ?n_times ?l_times ?q_times ?k_times ?n_rows_of ?l_rows_of ?q_rows_of ?k_rows_of ?n_things ?l_things ?q_things ?k_things ?n_low_table ?l_low_table ?q_low_table ?k_low_table ?n_check ?l_check ?q_check ?k_check ?n_ended_low ?l_ended_low ?q_ended_low ?k_ended_low ?n_many_low ?l_many_low ?q_many_low ?k_many_low ?n_by_height ?l_by_height ?q_by_height ?k_by_height ?n_greatest_height ?l_greatest_height ?q_greatest_height ?k_greatest_height ?n_least_height ?l_least_height ?q_least_height ?k_least_height ?n_chance_low ?l_chance_low ?q_chance_low ?k_chance_low ?n__law_word ?l__law_word ?q__law_word ?k__law_word ?n_chances_by_height ?l_chances_by_height ?q_chances_by_height ?k_chances_by_height ?n_over ?l_over ?q_over ?k_over ?n_mean_height ?l_mean_height ?q_mean_height ?k_mean_height ?n_likely_height ?l_likely_height ?q_likely_height ?k_likely_height ?n__law_less ?l__law_less ?q__law_less ?k__law_less ?n_power ?l_power ?q_power ?k_power ?n_made ?l_made ?q_made ?k_made ?n_start_chance ?l_start_chance ?q_start_chance ?k_start_chance ?n_round_chances ?l_round_chances ?q_round_chances ?k_round_chances ?n_law ?l_law ?q_law ?k_law Law.law_true
    (case Ma => k_is)
    (case MxL => k_is)
    (case Mbmr => rfl)
    (case Msa => k_is)
    (case Mga => k_is)
    (case Mgg => k_is)
    (case Mnb => k_is)
    (case Mi => k_is)
    (case Mt => k_is)
    (case Ml => k_is)
    (case McI => k_is)
    (case Mce => k_is)
    (case Mco => k_is)
    (case Mcv => rfl)
    (case Mcf => first | rfl | decide +kernel)
    (case MkC => k_is)
    (case MeC => k_is)
    (case MtC => k_is)
    (case MhC => k_is)
    (case MiC => k_is)
    (case MsC => first | rfl | k_is)
    (case Msf => k_is)
    (case Mup => kernel_rfl)
    (case MiV => k_is)
    (case z_super => k_is)
    (case stt => k_is)
    (case z_len => k_is)
    (case z_range => k_is)
    (case z_tuple => k_is)
    (case z_list => k_is)
    (case z_sum => k_is)
    (case z_abs => k_is)
    (case z_int => k_is)
    (case z_min => k_is)
    (case z_max => k_is)
    (case z_any => k_is)
    (case z_all => k_is)
    (case z_sorted => k_is)
    (case z_set => k_is)
    (case z_dict => k_is)
    (case z_isinstance => k_is)
    (case z_str => k_is)
    (case n_MOST_SIZE => k_is)
    (case n_MOST_EXACT => k_is)
    (case n__law_state => k_is)
    (case l__law_state => k_is)
    (case q__law_state => k_is)
    (case k__law_state => k_is)
    (case n__law_take => k_is)
    (case l__law_take => k_is)
    (case q__law_take => k_is)
    (case k__law_take => k_is)
    (case n__law_lot => k_is)
    (case l__law_lot => k_is)
    (case q__law_lot => k_is)
    (case k__law_lot => k_is)
    (case n__law_fr => k_is)
    (case l__law_fr => k_is)
    (case q__law_fr => k_is)
    (case k__law_fr => k_is)
    (case n__law_ordered => k_is)
    (case l__law_ordered => k_is)
    (case q__law_ordered => k_is)
    (case k__law_ordered => k_is)
    (case n__law_litters => k_is)
    (case l__law_litters => k_is)
    (case q__law_litters => k_is)
    (case k__law_litters => k_is)
    (case n__law_book => k_is)
    (case l__law_book => k_is)
    (case q__law_book => k_is)
    (case k__law_book => k_is)
    (case n__law_rows => k_is)
    (case l__law_rows => k_is)
    (case q__law_rows => k_is)
    (case k__law_rows => k_is)
    (case n__law_things => k_is)
    (case l__law_things => k_is)
    (case q__law_things => k_is)
    (case k__law_things => k_is)
    (case n__law_laid => k_is)
    (case l__law_laid => k_is)
    (case q__law_laid => k_is)
    (case k__law_laid => k_is)
    (case n__law_add => k_is)
    (case l__law_add => k_is)
    (case q__law_add => k_is)
    (case k__law_add => k_is)
    (case n__law_sum => k_is)
    (case l__law_sum => k_is)
    (case q__law_sum => k_is)
    (case k__law_sum => k_is)
    (case n__law_height => k_is)
    (case l__law_height => k_is)
    (case q__law_height => k_is)
    (case k__law_height => k_is)
    (case n__law_mul => k_is)
    (case l__law_mul => k_is)
    (case q__law_mul => k_is)
    (case k__law_mul => k_is)
    (case n__law_chance => k_is)
    (case l__law_chance => k_is)
    (case q__law_chance => k_is)
    (case k__law_chance => k_is)
    (case n_divisor => k_is)
    (case l_divisor => k_is)
    (case q_divisor => k_is)
    (case k_divisor => k_is)
    (case n_part => k_is)
    (case l_part => k_is)
    (case q_part => k_is)
    (case k_part => k_is)
    (case n_plus => k_is)
    (case l_plus => k_is)
    (case q_plus => k_is)
    (case k_plus => k_is)
    (case n_total => k_is)
    (case l_total => k_is)
    (case q_total => k_is)
    (case k_total => k_is)
    (case n_times => k_is)
    (case l_times => k_is)
    (case q_times => k_is)
    (case k_times => k_is)
    (case n_rows_of => k_is)
    (case l_rows_of => k_is)
    (case q_rows_of => k_is)
    (case k_rows_of => k_is)
    (case n_things => k_is)
    (case l_things => k_is)
    (case q_things => k_is)
    (case k_things => k_is)
    (case n_low_table => k_is)
    (case l_low_table => k_is)
    (case q_low_table => k_is)
    (case k_low_table => k_is)
    (case n_check => k_is)
    (case l_check => k_is)
    (case q_check => k_is)
    (case k_check => k_is)
    (case n_ended_low => k_is)
    (case l_ended_low => k_is)
    (case q_ended_low => k_is)
    (case k_ended_low => k_is)
    (case n_many_low => k_is)
    (case l_many_low => k_is)
    (case q_many_low => k_is)
    (case k_many_low => k_is)
    (case n_by_height => k_is)
    (case l_by_height => k_is)
    (case q_by_height => k_is)
    (case k_by_height => k_is)
    (case n_greatest_height => k_is)
    (case l_greatest_height => k_is)
    (case q_greatest_height => k_is)
    (case k_greatest_height => k_is)
    (case n_least_height => k_is)
    (case l_least_height => k_is)
    (case q_least_height => k_is)
    (case k_least_height => k_is)
    (case n_chance_low => k_is)
    (case l_chance_low => k_is)
    (case q_chance_low => k_is)
    (case k_chance_low => k_is)
    (case n__law_word => k_is)
    (case l__law_word => k_is)
    (case q__law_word => k_is)
    (case k__law_word => k_is)
    (case n_chances_by_height => k_is)
    (case l_chances_by_height => k_is)
    (case q_chances_by_height => k_is)
    (case k_chances_by_height => k_is)
    (case n_over => k_is)
    (case l_over => k_is)
    (case q_over => k_is)
    (case k_over => k_is)
    (case n_mean_height => k_is)
    (case l_mean_height => k_is)
    (case q_mean_height => k_is)
    (case k_mean_height => k_is)
    (case n_likely_height => k_is)
    (case l_likely_height => k_is)
    (case q_likely_height => k_is)
    (case k_likely_height => k_is)
    (case n__law_less => k_is)
    (case l__law_less => k_is)
    (case q__law_less => k_is)
    (case k__law_less => k_is)
    (case n_power => k_is)
    (case l_power => k_is)
    (case q_power => k_is)
    (case k_power => k_is)
    (case n_made => k_is)
    (case l_made => k_is)
    (case q_made => k_is)
    (case k_made => k_is)
    (case n_start_chance => k_is)
    (case l_start_chance => k_is)
    (case q_start_chance => k_is)
    (case k_start_chance => k_is)
    (case n_round_chances => k_is)
    (case l_round_chances => k_is)
    (case q_round_chances => k_is)
    (case k_round_chances => k_is)
    (case n_law => k_is)
    (case l_law => k_is)
    (case q_law => k_is)
    (case k_law => k_is)

