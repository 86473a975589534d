import PyProof.Rows.All
import HandS.ForMost
import HandS.WordsExc
import HandS.Defaults
import HandS.Flow
import HandS.Deep
import HandS.TupAny
import HandS.Wide
import HandS.Sort
import HandS.IsInst
import HandS.Zip
import KE.GoesEnum
import HandS.Rev
import HandS.More
import HandS.Style
import HandS.Replace
import KE.IntTextLaws
import HandS.Head0
import HandS.Head1
import HandS.Head2
import HandS.HeadEnd
import HandS.HeadHook1
import HandS.HeadHook2
import HandS.Conv
import HandS.NoneIn
import Wide.All
import OpenK.AllK
import Wide.FinOn
import HandS.Codes
import PySem.Challenge.RW_watchrules_k43_who_undoes
set_option Elab.async false
set_option linter.all false
set_option autoImplicit false
set_option maxRecDepth 100000
set_option maxHeartbeats 4000000
/-! Values as trees, mutable lists by ownership. -/
namespace Wr
open PySem PySem.Spec PyProof.Rows L2

inductive D where
  | non | bl (b : Bool) | int (i : Int) | str (x : Str) | ty (n : String)
  | tup (xs : List D) | lst (xs : List D)

abbrev Frag := PySem.W.Frag
/-- a list that nobody here writes -/
def SqF (K : Frag) (H : Hp) (O : Addr → Prop) (a : Addr) (vs : List V) : Prop :=
  (H a = some (.lst vs) ∧ ¬ O a) ∨ (∃ o, H a = some (.frz o (.lst vs))) ∨
    ∃ (o : Obj) (its : Array Value) (n : Nat), K.lookup a = some o ∧ o.cls = .type "list" ∧ o.dict = none ∧ o.data = .seq its n ∧ its.size ≤ sizeLine ∧ Vals vs its.toList
theorem SqF.sq {K : Frag} {H : Hp} {O : Addr → Prop} {a : Addr} {vs : List V} (h : SqF K H O a vs) : SqL K H a vs := by
  rcases h with ⟨h, _⟩ | h | h
  · exact .inl (.inl h)
  · exact .inl (.inr h)
  · exact .inr h
abbrev Disj (F G : List Addr) : Prop := ∀ a ∈ F, a ∉ G
mutual
inductive Rep (K : Frag) (H : Hp) (O : Addr → Prop) : Nat → V → D → List Addr → Prop
  | non {k} : Rep K H O k .non .non []
  | bl {k b} : Rep K H O k (.bl b) (.bl b) []
  | int {k i} : Rep K H O k (.int i) (.int i) []
  | str {k x} : Rep K H O k (.str x) (.str x) []
  | ty {k n} : Rep K H O k (.ty n) (.ty n) []
  | tup {k a vs ds F} : SqT K H a vs → Reps K H O k vs ds F → Rep K H O k (.ref a) (.tup ds) F
  | frz {a vs ds} : SqF K H O a vs → Reps K H O 0 vs ds [] → Rep K H O 0 (.ref a) (.lst ds) []
  | own {k a vs ds F} : H a = some (.lst vs) → O a → a ∉ F → Reps K H O k vs ds F → Rep K H O (k + 1) (.ref a) (.lst ds) (a :: F)
inductive Reps (K : Frag) (H : Hp) (O : Addr → Prop) : Nat → List V → List D → List Addr → Prop
  | nil {k} : Reps K H O k [] [] []
  | cons {k v d F vs ds G} : Rep K H O k v d F → Reps K H O k vs ds G → Disj F G → Reps K H O k (v :: vs) (d :: ds) (F ++ G)
end
section
variable {K : Frag} {H H' : Hp} {O O' : Addr → Prop}
/-- what mutable objects are -/
def MutH : HO → Prop
  | .lst _ => True
  | .dK _ => True
  | .dT _ => True
  | .ins _ _ _ => True
  | _ => False
def Mt (H : Hp) (O : Addr → Prop) (U : List Addr) : Prop := ∀ a ∈ U, O a ∧ ∃ o, H a = some o ∧ MutH o
theorem Mt.app {U W : List Addr} (a : Mt H O U) (b : Mt H O W) : Mt H O (U ++ W) := fun x h => (List.mem_append.mp h).elim (a x) (b x)
theorem Mt.nil : Mt H O [] := fun _ h => nomatch h
theorem Rep.mt {k v d F} (r : Rep K H O k v d F) : Mt H O F :=
  Rep.rec (motive_1 := fun k v d F _ => Mt H O F) (motive_2 := fun k vs ds F _ => Mt H O F)
    .nil .nil .nil .nil .nil (fun _ _ h => h) (fun _ _ _ => .nil)
    (fun e o _ _ h a ha => (List.mem_cons.mp ha).elim (fun z => by subst z; exact ⟨o, _, e, trivial⟩) (h a)) .nil (fun _ _ _ h1 h2 => h1.app h2) r
theorem Reps.mt {k vs ds F} (r : Reps K H O k vs ds F) : Mt H O F :=
  Reps.rec (motive_1 := fun k v d F _ => Mt H O F) (motive_2 := fun k vs ds F _ => Mt H O F)
    .nil .nil .nil .nil .nil (fun _ _ h => h) (fun _ _ _ => .nil)
    (fun e o _ _ h a ha => (List.mem_cons.mp ha).elim (fun z => by subst z; exact ⟨o, _, e, trivial⟩) (h a)) .nil (fun _ _ _ h1 h2 => h1.app h2) r
theorem Rep.zero' {k v d F} (r : Rep K H O k v d F) : k = 0 → F = [] :=
  Rep.rec (motive_1 := fun k v d F _ => k = 0 → F = []) (motive_2 := fun k vs ds F _ => k = 0 → F = [])
    (fun _ => rfl) (fun _ => rfl) (fun _ => rfl) (fun _ => rfl) (fun _ => rfl) (fun _ _ h => h) (fun _ _ _ _ => rfl)
    (fun _ _ _ _ _ e => nomatch e) (fun _ => rfl) (fun _ _ _ h1 h2 e => by rw [h1 e, h2 e]; rfl) r
theorem Rep.zero {v d F} (r : Rep K H O 0 v d F) : F = [] := r.zero' rfl
theorem Reps.zero' {k vs ds F} (r : Reps K H O k vs ds F) : k = 0 → F = [] :=
  Reps.rec (motive_1 := fun k v d F _ => k = 0 → F = []) (motive_2 := fun k vs ds F _ => k = 0 → F = [])
    (fun _ => rfl) (fun _ => rfl) (fun _ => rfl) (fun _ => rfl) (fun _ => rfl) (fun _ _ h => h) (fun _ _ _ _ => rfl)
    (fun _ _ _ _ _ e => nomatch e) (fun _ => rfl) (fun _ _ _ h1 h2 e => by rw [h1 e, h2 e]; rfl) r
theorem Reps.zero {vs ds F} (r : Reps K H O 0 vs ds F) : F = [] := r.zero' rfl

/-- what a value leans on: it stays when the others' objects U change -/
structure Kp (K : Frag) (H H' : Hp) (O O' : Addr → Prop) (U : List Addr) : Prop where
  same : ∀ a o, H a = some o → a ∉ U → H' a = some o
  own : ∀ a, (∃ o, H a = some o) → O' a → O a
  keep : ∀ a, O a → a ∉ U → O' a
  mu : Mt H O U
theorem Kp.notU {U : List Addr} (e : Kp K H H' O O' U) {a : Addr} {o : HO} (h : H a = some o) (n : ¬ MutH o) : a ∉ U := fun z => by
  obtain ⟨_, xs, q, m⟩ := e.mu a z
  rw [h] at q; cases q; exact n m
theorem Kp.tup {U : List Addr} (e : Kp K H H' O O' U) {a : Addr} {vs : List V} (h : SqT K H a vs) : SqT K H' a vs := by
  rcases h with (h | ⟨o, h⟩) | h
  · exact .inl (.inl (e.same _ _ h (e.notU h fun z => z)))
  · exact .inl (.inr ⟨o, e.same _ _ h (e.notU h fun z => z)⟩)
  · exact .inr h
theorem Kp.frz {U : List Addr} (e : Kp K H H' O O' U) {a : Addr} {vs : List V} (h : SqF K H O a vs) : SqF K H' O' a vs := by
  rcases h with ⟨h, n⟩ | ⟨o, h⟩ | h
  · exact .inl ⟨e.same _ _ h fun z => n (e.mu a z).1, fun z => n (e.own a ⟨_, h⟩ z)⟩
  · exact .inr (.inl ⟨o, e.same _ _ h (e.notU h fun z => z)⟩)
  · exact .inr (.inr h)
theorem Disj.left {F G W : List Addr} (h : Disj (F ++ G) W) : Disj F W := fun a ha => h a (List.mem_append_left _ ha)
theorem Disj.right {F G W : List Addr} (h : Disj (F ++ G) W) : Disj G W := fun a ha => h a (List.mem_append_right _ ha)
theorem Rep.stay {k v d F U} (r : Rep K H O k v d F) (e : Kp K H H' O O' U) : Disj F U → Rep K H' O' k v d F :=
  Rep.rec (motive_1 := fun k v d F _ => Disj F U → Rep K H' O' k v d F) (motive_2 := fun k vs ds F _ => Disj F U → Reps K H' O' k vs ds F)
    (fun _ => .non) (fun _ => .bl) (fun _ => .int) (fun _ => .str) (fun _ => .ty) (fun h _ ih n => .tup (e.tup h) (ih n)) (fun h _ ih n => .frz (e.frz h) (ih n))
    (fun h o n _ ih q => .own (e.same _ _ h (q _ List.mem_cons_self)) (e.keep _ o (q _ List.mem_cons_self)) n (ih fun a ha => q a (List.mem_cons_of_mem _ ha)))
    (fun _ => .nil) (fun _ _ dj h1 h2 n => .cons (h1 n.left) (h2 n.right) dj) r
theorem Reps.stay {k vs ds F U} (r : Reps K H O k vs ds F) (e : Kp K H H' O O' U) : Disj F U → Reps K H' O' k vs ds F :=
  Reps.rec (motive_1 := fun k v d F _ => Disj F U → Rep K H' O' k v d F) (motive_2 := fun k vs ds F _ => Disj F U → Reps K H' O' k vs ds F)
    (fun _ => .non) (fun _ => .bl) (fun _ => .int) (fun _ => .str) (fun _ => .ty) (fun h _ ih n => .tup (e.tup h) (ih n)) (fun h _ ih n => .frz (e.frz h) (ih n))
    (fun h o n _ ih q => .own (e.same _ _ h (q _ List.mem_cons_self)) (e.keep _ o (q _ List.mem_cons_self)) n (ih fun a ha => q a (List.mem_cons_of_mem _ ha)))
    (fun _ => .nil) (fun _ _ dj h1 h2 n => .cons (h1 n.left) (h2 n.right) dj) r
theorem Kp.of_same (s : Same H H') : Kp K H H' O O [] := ⟨fun a o h _ => s a o h, fun _ _ h => h, fun _ h _ => h, .nil⟩
theorem Rep.same {k v d F} (r : Rep K H O k v d F) (s : Same H H') : Rep K H' O k v d F := r.stay (Kp.of_same s) fun _ _ z => nomatch z
theorem Reps.same {k vs ds F} (r : Reps K H O k vs ds F) (s : Same H H') : Reps K H' O k vs ds F := r.stay (Kp.of_same s) fun _ _ z => nomatch z
/-- frozen: nobody writes it any more -/
theorem Rep.freeze {k v d F} (r : Rep K H O k v d F) : (∀ a, (∃ o, H a = some o) → O' a → O a) → (∀ a ∈ F, ¬ O' a) → Rep K H O' 0 v d [] := fun hO =>
  Rep.rec (motive_1 := fun k v d F _ => (∀ a ∈ F, ¬ O' a) → Rep K H O' 0 v d []) (motive_2 := fun k vs ds F _ => (∀ a ∈ F, ¬ O' a) → Reps K H O' 0 vs ds [])
    (fun _ => .non) (fun _ => .bl) (fun _ => .int) (fun _ => .str) (fun _ => .ty) (fun h _ ih n => .tup h (ih n))
    (fun h _ ih n => .frz (by
      rcases h with ⟨h, q⟩ | h | h
      · exact .inl ⟨h, fun z => q (hO _ ⟨_, h⟩ z)⟩
      · exact .inr (.inl h)
      · exact .inr (.inr h)) (ih n))
    (fun h o n _ ih q => .frz (.inl ⟨h, q _ List.mem_cons_self⟩) (ih fun a ha => q a (List.mem_cons_of_mem _ ha)))
    (fun _ => .nil) (fun _ _ dj h1 h2 n => .cons (F := []) (G := []) (h1 fun a ha => n a (List.mem_append_left _ ha)) (h2 fun a ha => n a (List.mem_append_right _ ha)) fun _ z => nomatch z) r
theorem Reps.freeze {k vs ds F} (r : Reps K H O k vs ds F) : (∀ a, (∃ o, H a = some o) → O' a → O a) → (∀ a ∈ F, ¬ O' a) → Reps K H O' 0 vs ds [] := fun hO =>
  Reps.rec (motive_1 := fun k v d F _ => (∀ a ∈ F, ¬ O' a) → Rep K H O' 0 v d []) (motive_2 := fun k vs ds F _ => (∀ a ∈ F, ¬ O' a) → Reps K H O' 0 vs ds [])
    (fun _ => .non) (fun _ => .bl) (fun _ => .int) (fun _ => .str) (fun _ => .ty) (fun h _ ih n => .tup h (ih n))
    (fun h _ ih n => .frz (by
      rcases h with ⟨h, q⟩ | h | h
      · exact .inl ⟨h, fun z => q (hO _ ⟨_, h⟩ z)⟩
      · exact .inr (.inl h)
      · exact .inr (.inr h)) (ih n))
    (fun h o n _ ih q => .frz (.inl ⟨h, q _ List.mem_cons_self⟩) (ih fun a ha => q a (List.mem_cons_of_mem _ ha)))
    (fun _ => .nil) (fun _ _ dj h1 h2 n => .cons (F := []) (G := []) (h1 fun a ha => n a (List.mem_append_left _ ha)) (h2 fun a ha => n a (List.mem_append_right _ ha)) fun _ z => nomatch z) r
theorem Reps.length {k vs ds F} (r : Reps K H O k vs ds F) : vs.length = ds.length :=
  Reps.rec (motive_1 := fun _ _ _ _ _ => True) (motive_2 := fun k vs ds F _ => vs.length = ds.length)
    trivial trivial trivial trivial trivial (fun _ _ _ => trivial) (fun _ _ _ => trivial) (fun _ _ _ _ _ => trivial) rfl (fun _ _ _ _ h => by rw [List.length_cons, List.length_cons, h]) r
end

/-! ### slots -/
abbrev Env := List (Option (Nat × D))
inductive Sl (K : Frag) (H : Hp) (O : Addr → Prop) : L2.St → Env → List Addr → Prop
  | nil : Sl K H O [] [] []
  | skip {x σ e U} : Sl K H O σ e U → Sl K H O (x :: σ) (none :: e) U
  | keep {v σ k d e F U} : Rep K H O k v d F → Sl K H O σ e U → Disj F U → Sl K H O (some v :: σ) (some (k, d) :: e) (F ++ U)
section
variable {K : Frag} {H H' : Hp} {O O' : Addr → Prop} {σ : L2.St} {e : Env} {U : List Addr}
theorem Sl.mt (s : Sl K H O σ e U) : Mt H O U := by
  induction s with
  | nil => exact .nil
  | skip _ ih => exact ih
  | keep r _ _ ih => exact r.mt.app ih
theorem Sl.length (s : Sl K H O σ e U) : σ.length = e.length := by
  induction s with
  | nil => rfl
  | skip _ ih => simp [ih]
  | keep r _ _ ih => simp [ih]
theorem Sl.same (s : Sl K H O σ e U) (q : Same H H') : Sl K H' O σ e U := by
  induction s with
  | nil => exact .nil
  | skip _ ih => exact .skip ih
  | keep r _ dj ih => exact .keep (r.same q) ih dj
theorem Sl.stay {W : List Addr} (s : Sl K H O σ e U) (q : Kp K H H' O O' W) (n : Disj U W) : Sl K H' O' σ e U := by
  induction s with
  | nil => exact .nil
  | skip _ ih => exact .skip (ih n)
  | keep r _ dj ih => exact .keep (r.stay q n.left) (ih n.right) dj
/-- slot i -/
theorem Sl.get (s : Sl K H O σ e U) : ∀ {i : Nat} {k : Nat} {d : D}, e[i]? = some (some (k, d)) → ∃ v F, σ[i]? = some (some v) ∧ Rep K H O k v d F ∧ (∀ a ∈ F, a ∈ U) := by
  induction s with
  | nil => intro i k d h; simp at h
  | skip _ ih =>
    intro i k d h
    cases i with
    | zero => simp at h
    | succ i => obtain ⟨v, F, a, b, c⟩ := ih (i := i) (by simpa using h); exact ⟨v, F, by simpa using a, b, c⟩
  | @keep v σ k' d' e F U r _ dj ih =>
    intro i k d h
    cases i with
    | zero =>
      simp at h
      obtain ⟨rfl, rfl⟩ := h
      exact ⟨v, F, rfl, r, fun a ha => List.mem_append_left _ ha⟩
    | succ i => obtain ⟨v, G, a, b, c⟩ := ih (i := i) (by simpa using h); exact ⟨v, G, by simpa using a, b, fun a ha => List.mem_append_right _ (c a ha)⟩
end
end Wr

/-! Expressions that change nothing: their value as a function of the slots. -/
namespace Wr
open PySem PySem.Spec PyProof.Rows L2

abbrev Od (H : Hp) (O : Addr → Prop) : Prop := ∀ a, O a → ∃ o, H a = some o ∧ MutH o
theorem Od.same {H H' : Hp} {O : Addr → Prop} (d : Od H O) (s : Same H H') : Od H' O := fun a h => let ⟨o, e, m⟩ := d a h; ⟨o, s a o e, m⟩
def isScal : D → Bool
  | .tup _ => false
  | .lst _ => false
  | _ => true
theorem Rep.scal {K : Frag} {H : Hp} {O : Addr → Prop} {k v d F} (r : Rep K H O k v d F) (h : isScal d = true) : Rep K H O 0 v d [] := by
  cases r with
  | non => exact .non
  | bl => exact .bl
  | int => exact .int
  | str => exact .str
  | ty => exact .ty
  | tup => cases h
  | frz => cases h
  | own => cases h
theorem Rep.scalO {K : Frag} {H H' : Hp} {O O' : Addr → Prop} {k k' v d F} (r : Rep K H O k v d F) (h : isScal d = true) : Rep K H' O' k' v d [] := by
  cases r with
  | non => exact .non
  | bl => exact .bl
  | int => exact .int
  | str => exact .str
  | ty => exact .ty
  | tup => cases h
  | frz => cases h
  | own => cases h
abbrev O0 : Addr → Prop := fun _ => False
theorem Rep.o0 {K : Frag} {H : Hp} {O : Addr → Prop} {k v d F} (r : Rep K H O k v d F) : Rep K H O0 0 v d [] := r.freeze (fun _ _ z => z.elim) fun _ _ z => z
theorem Reps.o0 {K : Frag} {H : Hp} {O : Addr → Prop} {k v d F} (r : Reps K H O k v d F) : Reps K H O0 0 v d [] := r.freeze (fun _ _ z => z.elim) fun _ _ z => z
theorem od0 {H : Hp} : Od H O0 := fun _ z => z.elim
/-- a value that is read, with its kind; where it may be kept -/
abbrev XM := Env → Option (Nat × D)
def keepK (x : Nat × D) : Option D := if x.1 = 0 ∨ isScal x.2 = true then some x.2 else none
abbrev PM := Env → Option D
def rdX (K : Frag) (m : XM) : TE := fun σ H Q => ∃ O env U k d, Sl K H O σ env U ∧ Od H O ∧ m env = some (k, d) ∧ ∀ v H' F, Same H H' → Rep K H' O k v d F → Q v H'
structure GX (X : Cx) (e : Expr) (m : XM) : Prop where
  pe : PE X e (rdX X.K m)
def rdP (K : Frag) (m : PM) : TE := fun σ H Q => ∃ O env U d, Sl K H O σ env U ∧ Od H O ∧ m env = some d ∧ ∀ v H', Same H H' → Rep K H' O 0 v d [] → Q v H'
structure GP (X : Cx) (e : Expr) (m : PM) : Prop where
  pe : PE X e (rdP X.K m)
theorem _root_.L2.PE.weaken {X : Cx} {e : Expr} {t t' : TE} (h : PE X e t) (q : ∀ σ H Q, t' σ H Q → t σ H Q) : PE X e t' := ⟨fun pins s σ H Q I hq => h.run pins s σ H Q I (q σ H Q hq)⟩
theorem _root_.L2.PT.weaken {X : Cx} {e : Expr} {t t' : TT} (h : PT X e t) (q : ∀ σ H Q, t' σ H Q → t σ H Q) : PT X e t' := ⟨fun pins s σ H Q I hq => h.run pins s σ H Q I (q σ H Q hq)⟩
theorem _root_.L2.PA.weaken {X : Cx} {e : List Expr} {t t' : TA} (h : PA X e t) (q : ∀ σ H Q, t' σ H Q → t σ H Q) : PA X e t' := ⟨fun pos pins s σ H Q I hq => h.run pos pins s σ H Q I (q σ H Q hq)⟩

section
variable {X : Cx}
def vX (i : Nat) : XM := fun e => (e[i]?).bind id
theorem gx_var (i : Nat) {x : Str} {pos : Pos} (hN : X.N[i]? = some x := by rfl) (hv : Vis X.env.scope x := by first | exact Or.inl rfl | exact Or.inr (Or.inl rfl) | exact Or.inr (Or.inr rfl)) (hd : (x == ("__debug__" : Str)) = false := by decide)
    (hcd : (x == ("__classdict__" : Str)) = false := by decide) : GX X (.Name x pos) (vX i) := by
  refine ⟨(pe_var hN hv hd hcd).weaken fun σ H Q h => ?_⟩
  obtain ⟨O, env, U, k, d, s, od, e, q⟩ := h
  have h1 : env[i]? = some (some (k, d)) := by
    unfold vX at e
    cases h : env[i]? with
    | none => rw [h] at e; cases e
    | some y => rw [h] at e; exact congrArg some e
  obtain ⟨v, F, e1, r, _⟩ := s.get h1
  exact ⟨v, e1, q v H F (Same.refl H) r⟩
def toX (m : PM) : XM := fun e => (m e).map fun d => (0, d)
def ofX (m : XM) : PM := fun e => (m e).bind keepK
theorem GP.x {e : Expr} {m : PM} (h : GP X e m) : GX X e (toX m) := ⟨h.pe.weaken fun σ H Q hq => by
  obtain ⟨O, env, U, k, d, s, od, e, q⟩ := hq
  obtain ⟨d', e1, e2⟩ := Option.map_eq_some_iff.mp e
  cases e2
  exact ⟨O, env, U, _, s, od, e1, fun v H' s' r => q v H' [] s' r⟩⟩
theorem GX.p {e : Expr} {m : XM} (h : GX X e m) : GP X e (ofX m) := ⟨h.pe.weaken fun σ H Q hq => by
  obtain ⟨O, env, U, d, s, od, e, q⟩ := hq
  obtain ⟨⟨k, d'⟩, e1, e2⟩ := Option.bind_eq_some_iff.mp e
  unfold keepK at e2
  split at e2
  · rename_i hk
    cases e2
    refine ⟨O, env, U, k, d', s, od, e1, fun v H' F s' r => q v H' s' ?_⟩
    rcases hk with hk | hk
    · have hk : k = 0 := hk
      subst hk
      have := r.zero; subst this; exact r
    · exact r.scal hk
  · cases e2⟩
def cP (d : D) : PM := fun _ => some d
theorem gp_int {i j pos} : GP X (.Constant (.int i) j pos) (cP (.int i)) := ⟨pe_int.weaken fun σ H Q ⟨O, env, U, d, s, od, e, q⟩ => by cases e; exact q _ H (Same.refl H) .int⟩
theorem gp_bl {b j pos} : GP X (.Constant (.bool b) j pos) (cP (.bl b)) := ⟨pe_bl.weaken fun σ H Q ⟨O, env, U, d, s, od, e, q⟩ => by cases e; exact q _ H (Same.refl H) .bl⟩
theorem gp_non {j pos} : GP X (.Constant .none j pos) (cP .non) := ⟨pe_non.weaken fun σ H Q ⟨O, env, U, d, s, od, e, q⟩ => by cases e; exact q _ H (Same.refl H) .non⟩
theorem gp_str {x j pos} : GP X (.Constant (.str x) j pos) (cP (.str x)) := ⟨pe_str.weaken fun σ H Q ⟨O, env, U, d, s, od, e, q⟩ => by cases e; exact q _ H (Same.refl H) .str⟩
/-- a constant of the module -/
theorem gp_glob {x : Str} {u : Value} {v : V} {d : D} {pos : Pos} (hg : Gl X x) (hm : X.mg x = some u) (r : RelV v u) (rd : ∀ H O, Rep X.K H O 0 v d []) (hd : (x == ("__debug__" : Str)) = false := by decide) : GP X (.Name x pos) (cP d) :=
  ⟨(pe_glob hg hm r hd).weaken fun σ H Q ⟨O, env, U, d, s, od, e, q⟩ => by cases e; exact q _ H (Same.refl H) (rd H O)⟩
theorem gp_globI {x : Str} {i : Int} {pos : Pos} (hg : Gl X x) (hm : ∃ t, X.mg x = some (.int i t)) (hd : (x == ("__debug__" : Str)) = false := by decide) : GP X (.Name x pos) (cP (.int i)) :=
  let ⟨t, h⟩ := hm; gp_glob (v := .int i) hg h ⟨t, rfl⟩ (fun _ _ => .int) hd

/-! ### operators on values -/
def OpS (K : Frag) (r : R2) (f : D → D → Option D) : Prop := ∀ (H : Hp) (O : Addr → Prop) (x y : V) (dx dy d : D) (Q : VK), Od H O → Rep K H O 0 x dx [] → Rep K H O 0 y dy [] → f dx dy = some d →
  (∀ v H', Same H H' → Rep K H' O 0 v d [] → Q v H') → r x y H Q
theorem OpR.or {f : Value → Value → Sem Value} {r r' : R2} (h : OpR X f r) (h' : OpR X f r') : OpR X f (fun x y H Q => r x y H Q ∨ r' x y H Q) := fun pins s σ H x y v u Q I rx ry hq =>
  hq.elim (h pins s σ H x y v u Q I rx ry) (h' pins s σ H x y v u Q I rx ry)
/-- an operation together with what it does to trees -/
structure OpG (X : Cx) (f : Value → Value → Sem Value) (g : D → D → Option D) : Prop where
  ex : ∃ r, OpR X f r ∧ OpS X.K r g
theorem OpG.or {f : Value → Value → Sem Value} {g g' : D → D → Option D} (h : OpG X f g) (h' : OpG X f g') : OpG X f (fun x y => match g x y with | some d => some d | none => g' x y) := by
  obtain ⟨r, a, b⟩ := h.ex
  obtain ⟨r', a', b'⟩ := h'.ex
  refine ⟨_, OpR.or a a', fun H O x y dx dy d Q od rx ry e q => ?_⟩
  cases e1 : g dx dy with
  | some d1 => simp only [e1] at e; cases e; exact .inl (b H O x y dx dy _ Q od rx ry e1 q)
  | none => simp only [e1] at e; exact .inr (b' H O x y dx dy _ Q od rx ry e q)
theorem OpG.imp {f : Value → Value → Sem Value} {g g' : D → D → Option D} (h : OpG X f g) (q : ∀ x y d, g' x y = some d → g x y = some d) : OpG X f g' := by
  obtain ⟨r, a, b⟩ := h.ex
  exact ⟨r, a, fun H O x y dx dy d Q od rx ry e q' => b H O x y dx dy d Q od rx ry (q _ _ _ e) q'⟩
def bP (f : D → D → Option D) (ma mb : PM) : PM := fun e => (ma e).bind fun x => (mb e).bind fun y => f x y
theorem rd_bin {K : Frag} {r : R2} {f : D → D → Option D} {ma mb : PM} (hs : OpS K r f) (σ : L2.St) (H : Hp) (Q : VK) (h : rdP K (bP f ma mb) σ H Q) : tOp r (rdP K ma) (rdP K mb) σ H Q := by
  obtain ⟨O, env, U, d, s, od, e, q⟩ := h
  unfold bP at e
  cases ea : ma env with
  | none => rw [ea] at e; cases e
  | some x =>
    cases eb : mb env with
    | none => rw [ea] at e; simp [eb] at e
    | some y =>
      rw [ea] at e; simp only [Option.bind_some, eb] at e
      refine ⟨O, env, U, x, s, od, ea, fun v H1 s1 r1 => ⟨O, env, U, y, s.same s1, od.same s1, eb, fun u H2 s2 r2 => ?_⟩⟩
      exact hs H2 O v u x y d Q ((od.same s1).same s2) (r1.same s2) r2 e fun v' H' s3 r3 => q v' H' ((s1.trans s2).trans s3) r3
/-- the result is no list, no tuple -/
def ScR (f : D → D → Option D) : Prop := ∀ x y d, f x y = some d → isScal d = true
def bX (f : D → D → Option D) (ma mb : XM) : PM := fun e => (ma e).bind fun x => (mb e).bind fun y => f x.2 y.2
theorem rd_binX {K : Frag} {r : R2} {f : D → D → Option D} {ma mb : XM} (hs : OpS K r f) (hf : ScR f) (σ : L2.St) (H : Hp) (Q : VK) (h : rdP K (bX f ma mb) σ H Q) : tOp r (rdX K ma) (rdX K mb) σ H Q := by
  obtain ⟨O, env, U, d, s, od, e, q⟩ := h
  unfold bX at e
  obtain ⟨⟨k, x⟩, ea, e⟩ := Option.bind_eq_some_iff.mp e
  obtain ⟨⟨j, y⟩, eb, e⟩ := Option.bind_eq_some_iff.mp e
  refine ⟨O, env, U, k, x, s, od, ea, fun v H1 F s1 r1 => ⟨O, env, U, j, y, s.same s1, od.same s1, eb, fun u H2 G s2 r2 => ?_⟩⟩
  exact hs H2 O0 v u x y d Q od0 (r1.same s2).o0 r2.o0 e fun v' H' s3 r3 => q v' H' ((s1.trans s2).trans s3) (r3.scalO (hf _ _ _ e))
theorem gp_binX {op : Operator} {f : D → D → Option D} {a b : Expr} {ma mb : XM} {pos : Pos} (ho : OpG X (binaryOp op) f) (hf : ScR f) (ha : GX X a ma) (hb : GX X b mb) : GP X (.BinOp a op b pos) (bX f ma mb) := by
  obtain ⟨r, h1, h2⟩ := ho.ex
  exact ⟨(pe_op h1 ha.pe hb.pe).weaken fun σ H Q h => rd_binX h2 hf σ H Q h⟩
theorem gp_bin {op : Operator} {f : D → D → Option D} {a b : Expr} {ma mb : PM} {pos : Pos} (ho : OpG X (binaryOp op) f) (ha : GP X a ma) (hb : GP X b mb) : GP X (.BinOp a op b pos) (bP f ma mb) := by
  obtain ⟨r, h1, h2⟩ := ho.ex
  exact ⟨(pe_op h1 ha.pe hb.pe).weaken fun σ H Q h => rd_bin h2 σ H Q h⟩
theorem gp_cmp {op : CmpOp} {f : D → D → Option D} {a b : Expr} {ma mb : XM} {pos : Pos} (ho : OpG X (compareOp op) f) (hf : ScR f) (ha : GX X a ma) (hb : GX X b mb) (hm : behindInMarks op b = false) : GP X (.Compare a [op] [b] pos) (bX f ma mb) := by
  obtain ⟨r, h1, h2⟩ := ho.ex
  exact ⟨(pe_cmpR h1 ha.pe hb.pe hm).weaken fun σ H Q h => rd_binX h2 hf σ H Q h⟩

/-! ### tests -/
abbrev TM := Env → Option Bool
def rdT (K : Frag) (m : TM) : TT := fun σ H Q => ∃ O env U b, Sl K H O σ env U ∧ Od H O ∧ m env = some b ∧ ∀ H', Same H H' → Q b H'
structure GT (X : Cx) (e : Expr) (m : TM) : Prop where
  pt : PT X e (rdT X.K m)
def asB : D → Option Bool
  | .bl b => some b
  | _ => none
def bT (m : PM) : TM := fun e => (m e).bind asB
theorem asB_some {d : D} {b : Bool} (h : asB d = some b) : d = .bl b := by
  cases d <;> simp [asB] at h; subst h; rfl
theorem rd_test {K : Frag} {m : PM} (σ : L2.St) (H : Hp) (Q : Bool → Hp → Prop) (h : rdT K (bT m) σ H Q) : rdP K m σ H fun x H' => ∃ k, x = .bl k ∧ Q k H' := by
  obtain ⟨O, env, U, b, s, od, e, q⟩ := h
  unfold bT at e
  cases em : m env with
  | none => rw [em] at e; cases e
  | some d =>
    rw [em] at e
    have := asB_some e; subst this
    refine ⟨O, env, U, _, s, od, em, fun v H' s' r => ?_⟩
    cases r with
    | bl => exact ⟨b, rfl, q H' s'⟩
theorem gt_cmp {op : CmpOp} {f : D → D → Option D} {a b : Expr} {ma mb : XM} {pos : Pos} (ho : OpG X (compareOp op) f) (hf : ScR f) (ha : GX X a ma) (hb : GX X b mb) (hm : behindInMarks op b = false) : GT X (.Compare a [op] [b] pos) (bT (bX f ma mb)) := by
  obtain ⟨r, h1, h2⟩ := ho.ex
  refine ⟨(pt_cmpR h1 ha.pe hb.pe hm).weaken fun σ H Q h => ?_⟩
  exact rd_binX h2 hf σ H _ (rd_test σ H Q h)
/-- an expression whose value is True or False -/
theorem gt_val {e : Expr} {m : PM} (h : GP X e m) (he : ∀ whole, isTrue e X.env whole = (do let v ← whole; standAt e.pos; holding [v] (truthy v)) := by intro _; rfl) : GT X e (bT m) :=
  ⟨(pt_val h.pe he).weaken fun σ H Q h => rd_test σ H Q h⟩
/-- truth -/
def truD : D → Option Bool
  | .non => some false
  | .bl b => some b
  | .int i => some (i != 0)
  | .str y => if y.length ≤ sizeLine then some ((y.length : Int) != 0) else none
  | .tup xs => some (!xs.isEmpty)
  | .lst xs => some (!xs.isEmpty)
  | .ty _ => none
theorem Reps.isEmpty {K : Frag} {H : Hp} {O : Addr → Prop} {k vs ds F} (r : Reps K H O k vs ds F) : vs.isEmpty = ds.isEmpty := by cases r <;> rfl
theorem truD_ok {K : Frag} {H : Hp} {O : Addr → Prop} {k v d F b} (r : Rep K H O k v d F) (h : truD d = some b) : TruV K v H b := by
  cases r with
  | non => cases h; rfl
  | bl => cases h; rfl
  | int => cases h; rfl
  | @str _ y =>
    have h' : (if y.length ≤ sizeLine then some ((y.length : Int) != 0) else none) = some b := h
    by_cases hz : y.length ≤ sizeLine
    · rw [if_pos hz] at h'; cases h'; exact ⟨hz, rfl⟩
    · rw [if_neg hz] at h'; cases h'
  | ty => cases h
  | tup hs hr => cases h; exact .inr (.inl ⟨_, hs, by rw [hr.isEmpty]⟩)
  | frz hs hr => cases h; exact .inl ⟨_, hs.sq, by rw [hr.isEmpty]⟩
  | own hs _ _ hr => cases h; exact .inl ⟨_, .inl (.inl hs), by rw [hr.isEmpty]⟩
def tT (m : XM) : TM := fun e => (m e).bind fun x => truD x.2
theorem gt_truth {e : Expr} {m : XM} (h : GX X e m) (he : ∀ whole, isTrue e X.env whole = (do let v ← whole; standAt e.pos; holding [v] (truthy v)) := by intro _; rfl) : GT X e (tT m) := by
  refine ⟨(pt_truth h.pe he).weaken fun σ H Q h => ?_⟩
  obtain ⟨O, env, U, b, s, od, e, q⟩ := h
  unfold tT at e
  obtain ⟨⟨k, d⟩, em, e⟩ := Option.bind_eq_some_iff.mp e
  exact ⟨O, env, U, k, d, s, od, em, fun v H' F s' r => ⟨b, truD_ok r e, q H' s'⟩⟩
def notT (m : TM) : TM := fun e => (m e).map (!·)
theorem gt_not {a : Expr} {m : TM} {pos : Pos} (h : GT X a m) : GT X (.UnaryOp .Not a pos) (notT m) := by
  refine ⟨(pt_not h.pt).weaken fun σ H Q h => ?_⟩
  obtain ⟨O, env, U, b, s, od, e, q⟩ := h
  unfold notT at e
  cases em : m env with
  | none => rw [em] at e; cases e
  | some c => rw [em] at e; cases e; exact ⟨O, env, U, c, s, od, em, fun H' s' => q H' s'⟩
def andT (m n : TM) : TM := fun e => (m e).bind fun b => if b = true then n e else some false
def orT (m n : TM) : TM := fun e => (m e).bind fun b => if b = true then some true else n e
structure GW (X : Cx) (e : Expr) (m : TM) : Prop where
  pw : PW X e (rdT X.K m)
theorem _root_.L2.PW.weaken {e : Expr} {t t' : TT} (h : PW X e t) (q : ∀ σ H Q, t' σ H Q → t σ H Q) : PW X e t' := ⟨fun wh pins s σ H Q I hq => h.run wh pins s σ H Q I (q σ H Q hq)⟩
theorem GW.gt {e : Expr} {m : TM} (h : GW X e m) : GT X e m := ⟨h.pw.pt⟩
theorem gw_and1 {a : Expr} {m : TM} {pos : Pos} (h : GT X a m) : GW X (.BoolOp .And [a] pos) m := ⟨pw_and1 h.pt⟩
theorem gw_or1 {a : Expr} {m : TM} {pos : Pos} (h : GT X a m) : GW X (.BoolOp .Or [a] pos) m := ⟨pw_or1 h.pt⟩
theorem rd_and {K : Frag} {m n : TM} (σ : L2.St) (H : Hp) (Q : Bool → Hp → Prop) (h : rdT K (andT m n) σ H Q) : tAnd (rdT K m) (rdT K n) σ H Q := by
  obtain ⟨O, env, U, b, s, od, e, q⟩ := h
  unfold andT at e
  cases em : m env with
  | none => rw [em] at e; cases e
  | some c =>
    rw [em] at e
    refine ⟨O, env, U, c, s, od, em, fun H1 s1 => ?_⟩
    cases c with
    | true => exact iteT ⟨O, env, U, b, s.same s1, od.same s1, e, fun H' s' => q H' (s1.trans s')⟩
    | false => cases e; exact iteF (q H1 s1)
theorem rd_or {K : Frag} {m n : TM} (σ : L2.St) (H : Hp) (Q : Bool → Hp → Prop) (h : rdT K (orT m n) σ H Q) : tOr (rdT K m) (rdT K n) σ H Q := by
  obtain ⟨O, env, U, b, s, od, e, q⟩ := h
  unfold orT at e
  cases em : m env with
  | none => rw [em] at e; cases e
  | some c =>
    rw [em] at e
    refine ⟨O, env, U, c, s, od, em, fun H1 s1 => ?_⟩
    cases c with
    | false => exact iteF ⟨O, env, U, b, s.same s1, od.same s1, e, fun H' s' => q H' (s1.trans s')⟩
    | true => cases e; exact iteT (q H1 s1)
theorem gw_and {a b : Expr} {rest : List Expr} {m n : TM} {pos : Pos} (h : GT X a m) (g : GW X (.BoolOp .And (b :: rest) pos) n) : GW X (.BoolOp .And (a :: b :: rest) pos) (andT m n) :=
  ⟨(pw_and h.pt g.pw).weaken fun σ H Q h => rd_and σ H Q h⟩
theorem gw_or {a b : Expr} {rest : List Expr} {m n : TM} {pos : Pos} (h : GT X a m) (g : GW X (.BoolOp .Or (b :: rest) pos) n) : GW X (.BoolOp .Or (a :: b :: rest) pos) (orT m n) :=
  ⟨(pw_or h.pt g.pw).weaken fun σ H Q h => rd_or σ H Q h⟩
/-- as values: all but the last are True or False -/
def andP (m n : PM) : PM := fun e => (m e).bind fun x => (asB x).bind fun b => if b = true then n e else some (.bl false)
def orP (m n : PM) : PM := fun e => (m e).bind fun x => (asB x).bind fun b => if b = true then some (.bl true) else n e
def notP (m : PM) : PM := fun e => (m e).bind fun x => (asB x).map fun b => .bl (!b)
theorem gp_one {op} {a : Expr} {m : PM} {pos : Pos} (h : GP X a m) : GP X (.BoolOp op [a] pos) m := ⟨pe_one h.pe⟩
theorem gp_and {a b : Expr} {rest : List Expr} {m n : PM} {pos : Pos} (h : GP X a m) (g : GP X (.BoolOp .And (b :: rest) pos) n) : GP X (.BoolOp .And (a :: b :: rest) pos) (andP m n) := by
  refine ⟨(pe_and h.pe g.pe).weaken fun σ H Q h => ?_⟩
  obtain ⟨O, env, U, d, s, od, e, q⟩ := h
  unfold andP at e
  cases em : m env with
  | none => rw [em] at e; cases e
  | some x =>
    rw [em] at e
    simp only [Option.bind_some] at e
    cases eb : asB x with
    | none => rw [eb] at e; cases e
    | some c =>
      rw [eb] at e
      have := asB_some eb; subst this
      refine ⟨O, env, U, _, s, od, em, fun v H1 s1 r1 => ?_⟩
      cases r1
      refine ⟨c, rfl, ?_⟩
      cases c with
      | true => exact iteT ⟨O, env, U, d, s.same s1, od.same s1, e, fun v H' s' => q v H' (s1.trans s')⟩
      | false => cases e; exact iteF (q _ H1 s1 .bl)
theorem gp_or {a b : Expr} {rest : List Expr} {m n : PM} {pos : Pos} (h : GP X a m) (g : GP X (.BoolOp .Or (b :: rest) pos) n) : GP X (.BoolOp .Or (a :: b :: rest) pos) (orP m n) := by
  refine ⟨(pe_or h.pe g.pe).weaken fun σ H Q h => ?_⟩
  obtain ⟨O, env, U, d, s, od, e, q⟩ := h
  unfold orP at e
  cases em : m env with
  | none => rw [em] at e; cases e
  | some x =>
    rw [em] at e
    simp only [Option.bind_some] at e
    cases eb : asB x with
    | none => rw [eb] at e; cases e
    | some c =>
      rw [eb] at e
      have := asB_some eb; subst this
      refine ⟨O, env, U, _, s, od, em, fun v H1 s1 r1 => ?_⟩
      cases r1
      refine ⟨c, rfl, ?_⟩
      cases c with
      | false => exact iteF ⟨O, env, U, d, s.same s1, od.same s1, e, fun v H' s' => q v H' (s1.trans s')⟩
      | true => cases e; exact iteT (q _ H1 s1 .bl)
theorem gp_not {a : Expr} {m : PM} {pos : Pos} (h : GP X a m) : GP X (.UnaryOp .Not a pos) (notP m) := by
  refine ⟨(pe_not h.pe).weaken fun σ H Q h => ?_⟩
  obtain ⟨O, env, U, d, s, od, e, q⟩ := h
  unfold notP at e
  cases em : m env with
  | none => rw [em] at e; cases e
  | some x =>
    rw [em] at e
    simp only [Option.bind_some] at e
    cases eb : asB x with
    | none => rw [eb] at e; cases e
    | some c =>
      rw [eb] at e
      have := asB_some eb; subst this
      cases e
      refine ⟨O, env, U, _, s, od, em, fun v H1 s1 r1 => ?_⟩
      cases r1
      exact ⟨c, rfl, q _ H1 s1 .bl⟩
def ifP (c : TM) (m n : PM) : PM := fun e => (c e).bind fun b => if b = true then m e else n e
theorem gp_if {c a b : Expr} {mc : TM} {m n : PM} {pos : Pos} (hc : GT X c mc) (ha : GP X a m) (hb : GP X b n) : GP X (.IfExp c a b pos) (ifP mc m n) := by
  refine ⟨(pe_ifExp hc.pt ha.pe hb.pe).weaken fun σ H Q h => ?_⟩
  obtain ⟨O, env, U, d, s, od, e, q⟩ := h
  unfold ifP at e
  cases em : mc env with
  | none => rw [em] at e; cases e
  | some c =>
    rw [em] at e
    refine ⟨O, env, U, c, s, od, em, fun H1 s1 => ?_⟩
    cases c with
    | true => exact iteT ⟨O, env, U, d, s.same s1, od.same s1, e, fun v H' s' => q v H' (s1.trans s')⟩
    | false => exact iteF ⟨O, env, U, d, s.same s1, od.same s1, e, fun v H' s' => q v H' (s1.trans s')⟩
/-- a < b < c -/
def chP (f g : D → D → Option D) (ma mb mc : XM) : PM := fun e => (ma e).bind fun x => (mb e).bind fun y => (f x.2 y.2).bind fun z => (asB z).bind fun k => if k = true then (mc e).bind fun w => g y.2 w.2 else some (.bl false)
theorem rd_chain {K : Frag} {r r' : R2} {f g : D → D → Option D} {ma mb mc : XM} (hs : OpS K r f) (hf : ScR f) (hs' : OpS K r' g) (hg : ScR g) (σ : L2.St) (H : Hp) (Q : VK) (h : rdP K (chP f g ma mb mc) σ H Q) : tChain r r' (rdX K ma) (rdX K mb) (rdX K mc) σ H Q := by
  obtain ⟨O, env, U, d, s, od, e, q⟩ := h
  unfold chP at e
  obtain ⟨⟨kx, x⟩, ea, e⟩ := Option.bind_eq_some_iff.mp e
  obtain ⟨⟨ky, y⟩, eb, e⟩ := Option.bind_eq_some_iff.mp e
  obtain ⟨z, ef, e⟩ := Option.bind_eq_some_iff.mp e
  obtain ⟨k, ek, e⟩ := Option.bind_eq_some_iff.mp e
  have := asB_some ek; subst this
  refine ⟨O, env, U, kx, x, s, od, ea, fun v H1 F s1 r1 => ⟨O, env, U, ky, y, s.same s1, od.same s1, eb, fun u H2 G s2 r2 => ?_⟩⟩
  refine hs H2 O0 v u x y _ _ od0 (r1.same s2).o0 r2.o0 ef fun v' H3 s3 r3 => ?_
  cases r3
  refine ⟨k, rfl, ?_⟩
  have sH : Same H H3 := (s1.trans s2).trans s3
  cases k with
  | false => cases e; exact iteF (q _ H3 sH .bl)
  | true =>
    have e : ((mc env).bind fun w => g y w.2) = some d := e
    obtain ⟨⟨kw, w⟩, ec, e⟩ := Option.bind_eq_some_iff.mp e
    refine iteT ⟨O, env, U, kw, w, s.same sH, od.same sH, ec, fun w' H4 G' s4 r4 => ?_⟩
    exact hs' H4 O0 u w' y w d Q od0 (r2.same (s3.trans s4)).o0 r4.o0 e fun v5 H5 s5 r5 => q v5 H5 ((sH.trans s4).trans s5) (r5.scalO (hg _ _ _ e))
theorem gp_chain {op op' : CmpOp} {f g : D → D → Option D} {a b c : Expr} {ma mb mc : XM} {pos : Pos} (ho : OpG X (compareOp op) f) (hf : ScR f) (ho' : OpG X (compareOp op') g) (hg : ScR g) (ha : GX X a ma) (hb : GX X b mb) (hc : GX X c mc)
    (hm : lastMarks [op, op'] [b, c] = false := by with_unfolding_all rfl) : GP X (.Compare a [op, op'] [b, c] pos) (chP f g ma mb mc) := by
  obtain ⟨r, h1, h2⟩ := ho.ex
  obtain ⟨r', h1', h2'⟩ := ho'.ex
  exact ⟨(pe_chain h1 h1' ha.pe hb.pe hc.pe hm).weaken fun σ H Q h => rd_chain h2 hf h2' hg σ H Q h⟩
theorem gt_chain {op op' : CmpOp} {f g : D → D → Option D} {a b c : Expr} {ma mb mc : XM} {pos : Pos} (ho : OpG X (compareOp op) f) (hf : ScR f) (ho' : OpG X (compareOp op') g) (hg : ScR g) (ha : GX X a ma) (hb : GX X b mb) (hc : GX X c mc)
    (hm : lastMarks [op, op'] [b, c] = false := by with_unfolding_all rfl) : GT X (.Compare a [op, op'] [b, c] pos) (bT (chP f g ma mb mc)) := by
  obtain ⟨r, h1, h2⟩ := ho.ex
  obtain ⟨r', h1', h2'⟩ := ho'.ex
  exact ⟨(pt_chain h1 h1' ha.pe hb.pe hc.pe hm).weaken fun σ H Q h => rd_chain h2 hf h2' hg σ H _ (rd_test σ H Q h)⟩
end
end Wr

/-! Operators, built-ins, displays, subscripts, slices: what they do to trees. -/
namespace Wr
open PySem PySem.Spec PyProof.Rows L2

section
variable {K : Frag} {H H' : Hp} {O : Addr → Prop}
theorem freshT {k vs ds F p} (r : Reps K H O k vs ds F) (hp : H p = none) : Rep K (upd H p (.tup vs)) O k (.ref p) (.tup ds) F :=
  .tup (.inl (.inl upd_same)) (r.same fun b x e => by rw [upd_ne (ne_of_none e hp)]; exact e)
theorem same_new {p : Addr} {o : HO} (hp : H p = none) : Same H (upd H p o) := fun b x e => by rw [upd_ne (ne_of_none e hp)]; exact e
theorem freshL {vs ds p} (od : Od H O) (r : Reps K H O 0 vs ds []) (hp : H p = none) : Rep K (upd H p (.lst vs)) O 0 (.ref p) (.lst ds) [] :=
  .frz (.inl ⟨upd_same, fun z => by obtain ⟨o, e, _⟩ := od p z; rw [hp] at e; cases e⟩) (r.same (same_new hp))
theorem Reps.at {k} : ∀ {vs ds F}, Reps K H O k vs ds F → ∀ {j : Nat} {d : D}, ds[j]? = some d → ∃ v G, vs[j]? = some v ∧ Rep K H O k v d G ∧ (∀ a ∈ G, a ∈ F)
  | _, _, _, .nil, j, d, h => by simp at h
  | _, _, _, .cons (F := F) (G := G) r rs dj, 0, d, h => by simp at h; subst h; exact ⟨_, _, rfl, r, fun a ha => List.mem_append_left _ ha⟩
  | _, _, _, .cons r rs dj, j + 1, d, h => by
    obtain ⟨v, G, e, r', q⟩ := rs.at (j := j) (by simpa using h)
    exact ⟨v, G, by simpa using e, r', fun a ha => List.mem_append_right _ (q a ha)⟩
theorem Reps.at0 {vs ds} (r : Reps K H O 0 vs ds []) {j : Nat} {d : D} (h : ds[j]? = some d) : ∃ v, vs[j]? = some v ∧ Rep K H O 0 v d [] := by
  obtain ⟨v, G, e, r', _⟩ := r.at h
  have := r'.zero; subst this
  exact ⟨v, e, r'⟩
theorem Reps.uncons {k vs d ds F} (r : Reps K H O k vs (d :: ds) F) : ∃ v ws F1 F2, vs = v :: ws ∧ F = F1 ++ F2 ∧ Rep K H O k v d F1 ∧ Reps K H O k ws ds F2 ∧ Disj F1 F2 := by
  cases r with
  | cons a b dj => exact ⟨_, _, _, _, rfl, rfl, a, b, dj⟩
theorem Reps.none {k vs F} (r : Reps K H O k vs [] F) : vs = [] ∧ F = [] := by cases r; exact ⟨rfl, rfl⟩
theorem Reps.un0 {vs d ds F} (r : Reps K H O 0 vs (d :: ds) F) : ∃ v ws, vs = v :: ws ∧ Rep K H O 0 v d [] ∧ Reps K H O 0 ws ds [] := by
  obtain ⟨v, ws, F1, F2, rfl, rfl, a, b, _⟩ := r.uncons
  have e1 := a.zero; have e2 := b.zero; subst e1 e2
  exact ⟨v, ws, rfl, a, b⟩
theorem Reps.cons0 {v d vs ds} (a : Rep K H O 0 v d []) (b : Reps K H O 0 vs ds []) : Reps K H O 0 (v :: vs) (d :: ds) [] := .cons (F := []) (G := []) a b fun _ z => nomatch z
theorem Reps.take0 : ∀ (n : Nat) {vs ds}, Reps K H O 0 vs ds [] → Reps K H O 0 (vs.take n) (ds.take n) []
  | 0, _, _, _ => by simp; exact .nil
  | n + 1, vs, [], r => by obtain ⟨rfl, _⟩ := r.none; simp; exact .nil
  | n + 1, vs, d :: ds, r => by
    obtain ⟨v, ws, rfl, a, b⟩ := r.un0
    exact .cons0 a (b.take0 n)
theorem Reps.drop0 : ∀ (n : Nat) {vs ds}, Reps K H O 0 vs ds [] → Reps K H O 0 (vs.drop n) (ds.drop n) []
  | 0, _, _, r => r
  | n + 1, vs, [], r => by obtain ⟨rfl, _⟩ := r.none; simp; exact .nil
  | n + 1, vs, d :: ds, r => by
    obtain ⟨v, ws, rfl, a, b⟩ := r.un0
    exact b.drop0 n
theorem Reps.app0 : ∀ {ds vs ws es}, Reps K H O 0 vs ds [] → Reps K H O 0 ws es [] → Reps K H O 0 (vs ++ ws) (ds ++ es) []
  | [], _, _, _, r, s => by obtain ⟨rfl, _⟩ := r.none; exact s
  | d :: ds, _, _, _, r, s => by
    obtain ⟨v, ws, rfl, a, b⟩ := r.un0
    exact .cons0 a (b.app0 s)
theorem Reps.ints : ∀ {ns : List Int} {vs : List V}, Reps K H O 0 vs (ns.map D.int) [] → vs = ns.map V.int
  | [], _, r => r.none.1
  | n :: ns, _, r => by
    obtain ⟨v, ws, rfl, a, b⟩ := Reps.un0 (d := .int n) (ds := ns.map D.int) r
    cases a
    rw [b.ints]; rfl
theorem Reps.bls : ∀ {ns : List Bool} {vs : List V}, Reps K H O 0 vs (ns.map D.bl) [] → vs = ns.map V.bl
  | [], _, r => r.none.1
  | n :: ns, _, r => by
    obtain ⟨v, ws, rfl, a, b⟩ := Reps.un0 (d := .bl n) (ds := ns.map D.bl) r
    cases a
    rw [b.bls]; rfl
theorem Reps.strs : ∀ {ns : List Str} {vs : List V}, Reps K H O 0 vs (ns.map D.str) [] → vs = ns.map V.str
  | [], _, r => r.none.1
  | n :: ns, _, r => by
    obtain ⟨v, ws, rfl, a, b⟩ := Reps.un0 (d := .str n) (ds := ns.map D.str) r
    cases a
    rw [b.strs]; rfl
end

/-! ### as plain data -/
mutual
def toPy : D → Option PyData
  | .non => some .none
  | .bl b => some (.bool b)
  | .int i => some (.int i)
  | .str x => some (.str x)
  | .ty _ => none
  | .tup xs => (toPys xs).map .tuple
  | .lst xs => (toPys xs).map .list
def toPys : List D → Option (List PyData)
  | [] => some []
  | x :: xs => (toPy x).bind fun d => (toPys xs).map (d :: ·)
end
theorem toPys_cons (x : D) (xs : List D) : toPys (x :: xs) = (toPy x).bind fun d => (toPys xs).map (d :: ·) := by rw [toPys]
section
variable {K : Frag} {H : Hp} {O : Addr → Prop}
theorem Rep.dp {k v d F} (r : Rep K H O k v d F) : ∀ p, toPy d = some p → Dp K H v p :=
  Rep.rec (motive_1 := fun k v d F _ => ∀ p, toPy d = some p → Dp K H v p) (motive_2 := fun k vs ds F _ => ∀ ps, toPys ds = some ps → DpAll K H vs ps)
    (fun p h => by rw [toPy] at h; cases h; exact .non) (fun p h => by rw [toPy] at h; cases h; exact .bl _) (fun p h => by rw [toPy] at h; cases h; exact .int _)
    (fun p h => by rw [toPy] at h; cases h; exact .str _) (fun p h => by rw [toPy] at h; cases h)
    (fun hs _ ih p h => by
      rw [toPy] at h
      obtain ⟨ps, e, rfl⟩ := Option.map_eq_some_iff.mp h
      exact .tup hs (ih ps e))
    (fun hs _ ih p h => by
      rw [toPy] at h
      obtain ⟨ps, e, rfl⟩ := Option.map_eq_some_iff.mp h
      exact .lst hs.sq (ih ps e))
    (fun hs _ _ _ ih p h => by
      rw [toPy] at h
      obtain ⟨ps, e, rfl⟩ := Option.map_eq_some_iff.mp h
      exact .lst (.inl (.inl hs)) (ih ps e))
    (fun p h => by rw [toPys] at h; cases h; exact .nil)
    (fun _ _ _ h1 h2 p h => by
      rw [toPys_cons] at h
      obtain ⟨d, e1, e2⟩ := Option.bind_eq_some_iff.mp h
      obtain ⟨ps, e3, rfl⟩ := Option.map_eq_some_iff.mp e2
      exact .cons (h1 d e1) (h2 ps e3)) r
end

/-! ### arithmetic -/
def addI : D → D → Option D
  | .int i, .int j => some (.int (i + j))
  | _, _ => none
def addS : D → D → Option D
  | .str x, .str y => if x.length + y.length ≤ sizeLine then some (.str (x ++ y)) else none
  | _, _ => none
def addT : D → D → Option D
  | .tup x, .tup y => if x.length + y.length ≤ sizeLine then some (.tup (x ++ y)) else none
  | _, _ => none
def addD : D → D → Option D
  | .int i, .int j => some (.int (i + j))
  | .str x, .str y => if x.length + y.length ≤ sizeLine then some (.str (x ++ y)) else none
  | .tup x, .tup y => if x.length + y.length ≤ sizeLine then some (.tup (x ++ y)) else none
  | _, _ => none
def subD : D → D → Option D
  | .int i, .int j => some (.int (i - j))
  | _, _ => none
def mulOk (i j : Int) : Bool := decide ((-(2 ^ 64) < i ∧ i < 2 ^ 64) ∨ (-(2 ^ 64) < j ∧ j < 2 ^ 64)) || decide (i.natAbs.log2 + j.natAbs.log2 < 1000000)
def mulD : D → D → Option D
  | .int i, .int j => if mulOk i j = true then some (.int (i * j)) else none
  | _, _ => none
def modD : D → D → Option D
  | .int i, .int j => if 0 < j then some (.int (i % j)) else none
  | _, _ => none
def fdivD : D → D → Option D
  | .int i, .int j => if 0 < j ∧ j.natAbs.log2 < 9000 then some (.int (i / j)) else none
  | _, _ => none
def powD : D → D → Option D
  | .int i, .int j => if 0 ≤ j ∧ j ≤ 1000000 ∧ i.natAbs < 2 ^ 64 then some (.int (i ^ j.toNat)) else none
  | _, _ => none
section
variable {X : Cx}
theorem OpG.ints {f : Value → Value → Sem Value} {C : Int → Int → Prop} {g : Int → Int → Int} {gd : D → D → Option D} (h : OpR X f (rI C fun i j => .int (g i j))) (hg : ∀ x y d, gd x y = some d → ∃ i j, x = .int i ∧ y = .int j ∧ C i j ∧ d = .int (g i j)) : OpG X f gd :=
  ⟨_, h, fun H O x y dx dy d Q od rx ry e q => by
    obtain ⟨i, j, rfl, rfl, c, rfl⟩ := hg _ _ _ e
    cases rx; cases ry
    exact ⟨i, j, rfl, rfl, c, q _ H (Same.refl H) .int⟩⟩
theorem OpG.ints0 {f : Value → Value → Sem Value} {g : Int → Int → D} {gv : Int → Int → V} {gd : D → D → Option D} (h : OpR X f (rI0 gv)) (hg : ∀ x y d, gd x y = some d → ∃ i j, x = .int i ∧ y = .int j ∧ d = g i j)
    (hr : ∀ i j H O, Rep X.K H O 0 (gv i j) (g i j) []) : OpG X f gd :=
  ⟨_, h, fun H O x y dx dy d Q od rx ry e q => by
    obtain ⟨i, j, rfl, rfl, rfl⟩ := hg _ _ _ e
    cases rx; cases ry
    exact ⟨i, j, rfl, rfl, q _ H (Same.refl H) (hr i j H O)⟩⟩
theorem og_addI : OpG X (binaryOp .Add) addI := .ints0 (g := fun i j => .int (i + j)) op_add (fun x y d e => by
  cases x <;> cases y <;> simp [addI] at e; exact ⟨_, _, rfl, rfl, e.symm⟩) fun _ _ _ _ => .int
theorem og_addS : OpG X (binaryOp .Add) addS := ⟨_, op_add_str, fun H O x y dx dy d Q od rx ry e q => by
  cases rx <;> cases ry <;> simp [addS] at e
  obtain ⟨h, rfl⟩ := e
  exact ⟨_, _, rfl, rfl, h, q _ H (Same.refl H) .str⟩⟩
theorem og_addT : OpG X (binaryOp .Add) addT := ⟨_, op_catA, fun H O x y dx dy d Q od rx ry e q => by
  cases rx with
  | tup hx rx =>
    cases ry with
    | tup hy ry =>
      simp [addT] at e
      obtain ⟨h, rfl⟩ := e
      refine ⟨_, _, _, _, rfl, rfl, hx, hy, by rw [rx.length, ry.length]; exact h, fun z => ?_, fun _ z => ?_, fun _ _ p hp => ?_⟩
      · subst z; cases rx; exact q _ H (Same.refl H) (.tup hy ry)
      · subst z; cases ry; rw [List.append_nil] at q; exact q _ H (Same.refl H) (.tup hx rx)
      · exact q _ _ (same_new hp) (freshT (rx.app0 ry) hp)
    | _ => simp [addT] at e
  | _ => cases ry <;> simp [addT] at e⟩
theorem og_add : OpG X (binaryOp .Add) addD := ((og_addI.or og_addS).or og_addT).imp fun x y d e => by
  cases x <;> cases y <;> simp [addD, addI, addS, addT] at e ⊢ <;> (try exact e)
  all_goals (obtain ⟨h, rfl⟩ := e; simp [h])
theorem og_sub : OpG X (binaryOp .Sub) subD := .ints0 (g := fun i j => .int (i - j)) op_sub (fun x y d e => by
  cases x <;> cases y <;> simp [subD] at e; exact ⟨_, _, rfl, rfl, e.symm⟩) fun _ _ _ _ => .int
theorem og_mul : OpG X (binaryOp .Mult) mulD := by
  have a : OpG X (binaryOp .Mult) (fun x y => match x, y with | .int i, .int j => if (-(2 ^ 64) < i ∧ i < 2 ^ 64) ∨ (-(2 ^ 64) < j ∧ j < 2 ^ 64) then some (.int (i * j)) else none | _, _ => none) :=
    .ints (C := CMul) (g := fun i j => i * j) op_mul fun x y d e => by
      cases x <;> cases y <;> simp only [reduceCtorEq] at e
      split at e
      · rename_i h; cases e; exact ⟨_, _, rfl, rfl, h, rfl⟩
      · cases e
  have b : OpG X (binaryOp .Mult) (fun x y => match x, y with | .int i, .int j => if i.natAbs.log2 + j.natAbs.log2 < 1000000 then some (.int (i * j)) else none | _, _ => none) :=
    .ints (C := CMulW) (g := fun i j => i * j) op_mulW fun x y d e => by
      cases x <;> cases y <;> simp only [reduceCtorEq] at e
      split at e
      · rename_i h; cases e; exact ⟨_, _, rfl, rfl, h, rfl⟩
      · cases e
  refine (a.or b).imp fun x y d e => ?_
  cases x <;> cases y <;> simp only [mulD, reduceCtorEq] at e
  rename_i i j
  split at e
  · rename_i h
    cases e
    unfold mulOk at h
    rw [Bool.or_eq_true] at h
    by_cases h1 : (-(2 ^ 64) < i ∧ i < 2 ^ 64) ∨ (-(2 ^ 64) < j ∧ j < 2 ^ 64)
    · simp only [if_pos h1]
    · simp only [if_neg h1]
      have h2 := of_decide_eq_true (h.resolve_left fun z => h1 (of_decide_eq_true z))
      simp only [if_pos h2]
  · cases e
theorem og_mod : OpG X (binaryOp .Mod) modD := .ints (C := fun _ j => 0 < j) (g := fun i j => i % j) op_mod fun x y d e => by
  cases x <;> cases y <;> simp only [modD, reduceCtorEq] at e
  split at e
  · rename_i h; cases e; exact ⟨_, _, rfl, rfl, h, rfl⟩
  · cases e
theorem og_fdiv : OpG X (binaryOp .FloorDiv) fdivD := .ints (C := CDivW) (g := fun i j => i / j) op_fdivW fun x y d e => by
  cases x <;> cases y <;> simp only [fdivD, reduceCtorEq] at e
  split at e
  · rename_i h; cases e; exact ⟨_, _, rfl, rfl, h, rfl⟩
  · cases e
theorem og_pow : OpG X (binaryOp .Pow) powD := .ints (C := CPow) (g := fun i j => i ^ j.toNat) op_pow fun x y d e => by
  cases x <;> cases y <;> simp only [powD, reduceCtorEq] at e
  split at e
  · rename_i h; cases e; exact ⟨_, _, rfl, rfl, h, rfl⟩
  · cases e

/-! ### comparisons -/
def ltI : D → D → Option D
  | .int i, .int j => some (.bl (decide (i < j)))
  | _, _ => none
def leI : D → D → Option D
  | .int i, .int j => some (.bl (decide (i ≤ j)))
  | _, _ => none
def gtI : D → D → Option D
  | .int i, .int j => some (.bl (decide (j < i)))
  | _, _ => none
def geI : D → D → Option D
  | .int i, .int j => some (.bl (decide (j ≤ i)))
  | _, _ => none
def leD : D → D → Option D
  | .int i, .int j => some (.bl (decide (i ≤ j)))
  | .str i, .str j => some (.bl (!decide (j.cps.toList < i.cps.toList)))
  | _, _ => none
theorem og_lt : OpG X (compareOp .Lt) ltI := .ints0 (g := fun i j => .bl (decide (i < j))) op_lt (fun x y d e => by
  cases x <;> cases y <;> simp [ltI] at e; exact ⟨_, _, rfl, rfl, by simp [← e]⟩) fun _ _ _ _ => .bl
theorem og_leI : OpG X (compareOp .LtE) leI := .ints0 (g := fun i j => .bl (decide (i ≤ j))) op_le (fun x y d e => by
  cases x <;> cases y <;> simp [leI] at e; exact ⟨_, _, rfl, rfl, by simp [← e]⟩) fun _ _ _ _ => .bl
theorem og_gt : OpG X (compareOp .Gt) gtI := .ints0 (g := fun i j => .bl (decide (j < i))) op_gt (fun x y d e => by
  cases x <;> cases y <;> simp [gtI] at e; exact ⟨_, _, rfl, rfl, by simp [← e]⟩) fun _ _ _ _ => .bl
theorem og_ge : OpG X (compareOp .GtE) geI := .ints0 (g := fun i j => .bl (decide (j ≤ i))) op_ge (fun x y d e => by
  cases x <;> cases y <;> simp [geI] at e; exact ⟨_, _, rfl, rfl, by simp [← e]⟩) fun _ _ _ _ => .bl
theorem og_le : OpG X (compareOp .LtE) leD := by
  refine (og_leI.or (g' := fun x y => match x, y with | .str i, .str j => some (.bl (!decide (j.cps.toList < i.cps.toList))) | _, _ => none) ⟨_, op_le_str, fun H O x y dx dy d Q od rx ry e q => ?_⟩).imp fun x y d e => ?_
  · cases rx <;> cases ry <;> simp only [reduceCtorEq, Option.some.injEq] at e
    subst e
    exact ⟨_, _, rfl, rfl, q _ H (Same.refl H) .bl⟩
  · cases x <;> cases y <;> simp [leD, leI] at e ⊢ <;> exact e
/-- == -/
def eqS : D → D → Option Bool
  | .non, .non => some true
  | .int i, .int j => some (decide (i = j))
  | .bl i, .bl j => some (decide (i = j))
  | .str i, .str j => some (decide (i = j))
  | .non, .int _ => some false | .int _, .non => some false
  | .non, .bl _ => some false | .bl _, .non => some false
  | .non, .str _ => some false | .str _, .non => some false
  | .int _, .str _ => some false | .str _, .int _ => some false
  | .bl _, .str _ => some false | .str _, .bl _ => some false
  | _, _ => none
def eqC (x y : D) : Option Bool := (toPy x).bind fun p => (toPy y).bind fun q => if SeqAt.shaped p = true ∧ SeqAt.shaped q = true then some (PyData.eqv p q) else none
def eqM (x y : D) : Option Bool := match eqS x y with
  | some b => some b
  | none => eqC x y
def eqD (x y : D) : Option D := (eqM x y).map .bl
def neD (x y : D) : Option D := (eqM x y).map fun b => .bl (!b)
theorem eqS_ok {H : Hp} {O : Addr → Prop} {k1 k2 x y dx dy F G b} (rx : Rep X.K H O k1 x dx F) (ry : Rep X.K H O k2 y dy G) (e : eqS dx dy = some b) : scal x y = true ∧ decide (x = y) = b := by
  cases rx <;> cases ry <;> simp [eqS] at e <;> subst e <;> simp [scal]
theorem og_eqS : OpG X (compareOp .Eq) fun x y => (eqS x y).map .bl := ⟨_, op_eq, fun H O x y dx dy d Q od rx ry e q => by
  obtain ⟨b, e1, rfl⟩ := Option.map_eq_some_iff.mp e
  obtain ⟨h1, h2⟩ := eqS_ok rx ry e1
  exact ⟨h1, by rw [h2]; exact q _ H (Same.refl H) .bl⟩⟩
theorem og_neS : OpG X (compareOp .NotEq) fun x y => (eqS x y).map fun b => .bl (!b) := ⟨_, op_ne, fun H O x y dx dy d Q od rx ry e q => by
  obtain ⟨b, e1, rfl⟩ := Option.map_eq_some_iff.mp e
  obtain ⟨h1, h2⟩ := eqS_ok rx ry e1
  exact ⟨h1, by rw [h2]; exact q _ H (Same.refl H) .bl⟩⟩
theorem eqC_ok {H : Hp} {O : Addr → Prop} {k1 k2 x y dx dy F G b} (rx : Rep X.K H O k1 x dx F) (ry : Rep X.K H O k2 y dy G) (e : eqC dx dy = some b) :
    ∃ p q, Dp X.K H x p ∧ Dp X.K H y q ∧ SeqAt.shaped p = true ∧ SeqAt.shaped q = true ∧ PyData.eqv p q = b := by
  unfold eqC at e
  obtain ⟨p, e1, e⟩ := Option.bind_eq_some_iff.mp e
  obtain ⟨q, e2, e⟩ := Option.bind_eq_some_iff.mp e
  split at e
  · rename_i h
    cases e
    exact ⟨p, q, rx.dp p e1, ry.dp q e2, h.1, h.2, rfl⟩
  · cases e
theorem og_eqC (hu : X.A.units + 66 < cLine) : OpG X (compareOp .Eq) fun x y => (eqC x y).map .bl := ⟨_, op_eqD (by omega), fun H O x y dx dy d Q od rx ry e q => by
  obtain ⟨b, e1, rfl⟩ := Option.map_eq_some_iff.mp e
  obtain ⟨p, p', h1, h2, h3, h4, rfl⟩ := eqC_ok rx ry e1
  exact ⟨p, p', h1, h2, h3, h4, q _ H (Same.refl H) .bl⟩⟩
theorem og_neC (hu : X.A.units + 66 < cLine) : OpG X (compareOp .NotEq) fun x y => (eqC x y).map fun b => .bl (!b) := ⟨_, op_neD (by omega), fun H O x y dx dy d Q od rx ry e q => by
  obtain ⟨b, e1, rfl⟩ := Option.map_eq_some_iff.mp e
  obtain ⟨p, p', h1, h2, h3, h4, rfl⟩ := eqC_ok rx ry e1
  exact ⟨p, p', h1, h2, h3, h4, q _ H (Same.refl H) .bl⟩⟩
theorem og_eq (hu : X.A.units + 66 < cLine) : OpG X (compareOp .Eq) eqD := (og_eqS.or (og_eqC hu)).imp fun x y d e => by
  unfold eqD eqM at e
  cases h : eqS x y with
  | some b => rw [h] at e; simp only [Option.map_some] at e ⊢; exact e
  | none => rw [h] at e; simp only [Option.map_none] at e ⊢; exact e
theorem og_ne (hu : X.A.units + 66 < cLine) : OpG X (compareOp .NotEq) neD := (og_neS.or (og_neC hu)).imp fun x y d e => by
  unfold neD eqM at e
  cases h : eqS x y with
  | some b => rw [h] at e; simp only [Option.map_some] at e ⊢; exact e
  | none => rw [h] at e; simp only [Option.map_none] at e ⊢; exact e
/-- is None -/
def isNonB : D → Bool
  | .non => true
  | _ => false
def isD : D → D → Option D
  | x, .non => some (.bl (isNonB x))
  | _, _ => none
def isntD : D → D → Option D
  | x, .non => some (.bl (!isNonB x))
  | _, _ => none
theorem Rep.isNon {K : Frag} {H : Hp} {O : Addr → Prop} {k v d F} (r : Rep K H O k v d F) : decide (v = .non) = isNonB d := by cases r <;> simp [isNonB]
theorem og_is : OpG X (compareOp .Is) isD := ⟨_, op_isN, fun H O x y dx dy d Q od rx ry e q => by
  cases ry <;> simp [isD] at e
  subst e
  exact ⟨rfl, by rw [rx.isNon]; exact q _ H (Same.refl H) .bl⟩⟩
theorem og_isnt : OpG X (compareOp .IsNot) isntD := ⟨_, op_notN, fun H O x y dx dy d Q od rx ry e q => by
  cases ry <;> simp [isntD] at e
  subst e
  exact ⟨rfl, by rw [rx.isNon]; exact q _ H (Same.refl H) .bl⟩⟩
/-- in: a text in a text (one sign), flat things in a list or tuple -/
def flatD : D → Bool
  | .non => true
  | .bl _ => true
  | .int _ => true
  | .str _ => true
  | _ => false
def eqF : D → D → Bool
  | .non, .non => true
  | .bl a, .bl b => a == b
  | .bl a, .int b => (if a then 1 else 0) == b
  | .int a, .bl b => a == (if b then 1 else 0)
  | .int a, .int b => a == b
  | .str a, .str b => a == b
  | _, _ => false
theorem Rep.flat {K : Frag} {H : Hp} {O : Addr → Prop} {k v d F} (r : Rep K H O k v d F) : flatV v = flatD d := by cases r <;> rfl
theorem eqF_ok {K : Frag} {H : Hp} {O : Addr → Prop} {k k' v d F w e G} (r : Rep K H O k v d F) (s : Rep K H O k' w e G) : eqV v w = eqF d e := by cases r <;> cases s <;> rfl
def inL (x : D) (ys : List D) : Bool := ys.any fun y => eqF y x
theorem Reps.allFlat {K : Frag} {H : Hp} {O : Addr → Prop} {k} : ∀ {vs ds F}, Reps K H O k vs ds F → vs.all flatV = ds.all flatD
  | _, _, _, .nil => rfl
  | _, _, _, .cons r rs _ => by rw [List.all_cons, List.all_cons, r.flat, rs.allFlat]
theorem Reps.inV {K : Frag} {H : Hp} {O : Addr → Prop} {k k' x dx G} (rx : Rep K H O k' x dx G) : ∀ {vs ds F}, Reps K H O k vs ds F → L2.inV x vs = inL dx ds
  | _, _, _, .nil => rfl
  | _, _, _, .cons r rs _ => by
    have ih := Reps.inV rx rs
    unfold L2.inV inL at ih ⊢
    rw [List.any_cons, List.any_cons, eqF_ok r rx, ih]
def inD : D → D → Option Bool
  | .str x, .str y => if x.cps.size = 1 then some (decide (x.cps.toList.headD 0 ∈ y.cps.toList)) else none
  | x, .lst ys => if flatD x = true ∧ ys.all flatD = true then some (inL x ys) else none
  | x, .tup ys => if flatD x = true ∧ ys.all flatD = true then some (inL x ys) else none
  | _, _ => none
theorem one_sign {x : Str} (h : x.cps.size = 1) : x = ⟨#[x.cps.toList.headD 0]⟩ := by
  obtain ⟨⟨l⟩⟩ := x
  match l, h with
  | [c], _ => rfl
theorem og_in : OpG X (compareOp .In) fun x y => (inD x y).map .bl := by
  refine ((OpG.or (g := fun x y => match x, y with | .str x, .str y => if x.cps.size = 1 then some (.bl (decide (x.cps.toList.headD 0 ∈ y.cps.toList))) else none | _, _ => none)
    (g' := fun x y => match y with | .lst ys => if flatD x = true ∧ ys.all flatD = true then some (.bl (inL x ys)) else none | .tup ys => if flatD x = true ∧ ys.all flatD = true then some (.bl (inL x ys)) else none | _ => none)
    ⟨_, op_in_sign, fun H O x y dx dy d Q od rx ry e q => ?_⟩ ⟨_, op_in_seq, fun H O x y dx dy d Q od rx ry e q => ?_⟩).imp fun x y d e => ?_)
  · cases rx <;> cases ry <;> simp only [reduceCtorEq] at e
    split at e
    · rename_i h
      cases e
      exact ⟨_, _, congrArg V.str (one_sign h), rfl, q _ H (Same.refl H) .bl⟩
    · cases e
  · cases ry <;> simp only [reduceCtorEq] at e
    · rename_i hs rs
      split at e
      · rename_i h
        cases e
        exact ⟨_, _, rfl, .inr hs, by rw [rx.flat]; exact h.1, by rw [rs.allFlat]; exact h.2, by simp only [Bool.false_eq_true, if_false]; rw [Reps.inV rx rs]; exact q _ H (Same.refl H) .bl⟩
      · cases e
    · rename_i hs rs
      split at e
      · rename_i h
        cases e
        exact ⟨_, _, rfl, .inl hs.sq, by rw [rx.flat]; exact h.1, by rw [rs.allFlat]; exact h.2, by simp only [Bool.false_eq_true, if_false]; rw [Reps.inV rx rs]; exact q _ H (Same.refl H) .bl⟩
      · cases e
  · obtain ⟨b, e1, rfl⟩ := Option.map_eq_some_iff.mp e
    cases y <;> cases x <;> simp only [inD, reduceCtorEq] at e1 <;> (split at e1 <;> first | (cases e1; rename_i h; simp [h]; done) | cases e1)
theorem og_notin : OpG X (compareOp .NotIn) fun x y => (inD x y).map fun b => .bl (!b) := by
  refine ((OpG.or (g := fun x y => match x, y with | .str x, .str y => if x.cps.size = 1 then some (.bl (!decide (x.cps.toList.headD 0 ∈ y.cps.toList))) else none | _, _ => none)
    (g' := fun x y => match y with | .lst ys => if flatD x = true ∧ ys.all flatD = true then some (.bl (!inL x ys)) else none | .tup ys => if flatD x = true ∧ ys.all flatD = true then some (.bl (!inL x ys)) else none | _ => none)
    ⟨_, op_notIn_sign, fun H O x y dx dy d Q od rx ry e q => ?_⟩ ⟨_, op_notIn_seq, fun H O x y dx dy d Q od rx ry e q => ?_⟩).imp fun x y d e => ?_)
  · cases rx <;> cases ry <;> simp only [reduceCtorEq] at e
    split at e
    · rename_i h
      cases e
      exact ⟨_, _, congrArg V.str (one_sign h), rfl, q _ H (Same.refl H) .bl⟩
    · cases e
  · cases ry <;> simp only [reduceCtorEq] at e
    · rename_i hs rs
      split at e
      · rename_i h
        cases e
        exact ⟨_, _, rfl, .inr hs, by rw [rx.flat]; exact h.1, by rw [rs.allFlat]; exact h.2, by simp only [if_true]; rw [Reps.inV rx rs]; exact q _ H (Same.refl H) .bl⟩
      · cases e
    · rename_i hs rs
      split at e
      · rename_i h
        cases e
        exact ⟨_, _, rfl, .inl hs.sq, by rw [rx.flat]; exact h.1, by rw [rs.allFlat]; exact h.2, by simp only [if_true]; rw [Reps.inV rx rs]; exact q _ H (Same.refl H) .bl⟩
      · cases e
  · obtain ⟨b, e1, rfl⟩ := Option.map_eq_some_iff.mp e
    cases y <;> cases x <;> simp only [inD, reduceCtorEq] at e1 <;> (split at e1 <;> first | (cases e1; rename_i h; simp [h]; done) | cases e1)
/-- -n -/
def negD : D → Option D
  | .int i => some (.int (-i))
  | _ => none
def negP (m : XM) : PM := fun e => (m e).bind fun x => negD x.2
theorem gp_neg {a : Expr} {m : XM} {pos : Pos} (h : GX X a m) : GP X (.UnaryOp .USub a pos) (negP m) := by
  refine ⟨(pe_un un_neg h.pe).weaken fun σ H Q h => ?_⟩
  obtain ⟨O, env, U, d, s, od, e, q⟩ := h
  unfold negP at e
  obtain ⟨⟨k, x⟩, em, e⟩ := Option.bind_eq_some_iff.mp e
  cases x <;> simp only [negD, reduceCtorEq] at e
  cases e
  refine ⟨O, env, U, _, _, s, od, em, fun v H1 F s1 r1 => ?_⟩
  cases r1
  exact ⟨_, rfl, q _ H1 s1 .int⟩
theorem sc_sub : ScR subD := fun x y d e => by cases x <;> cases y <;> simp [subD] at e; subst e; rfl
theorem sc_mul : ScR mulD := fun x y d e => by
  cases x <;> cases y <;> simp only [mulD, reduceCtorEq] at e
  split at e <;> cases e; rfl
theorem sc_mod : ScR modD := fun x y d e => by
  cases x <;> cases y <;> simp only [modD, reduceCtorEq] at e
  split at e <;> cases e; rfl
theorem sc_fdiv : ScR fdivD := fun x y d e => by
  cases x <;> cases y <;> simp only [fdivD, reduceCtorEq] at e
  split at e <;> cases e; rfl
theorem sc_pow : ScR powD := fun x y d e => by
  cases x <;> cases y <;> simp only [powD, reduceCtorEq] at e
  split at e <;> cases e; rfl
theorem sc_lt : ScR ltI := fun x y d e => by cases x <;> cases y <;> simp [ltI] at e; subst e; rfl
theorem sc_gt : ScR gtI := fun x y d e => by cases x <;> cases y <;> simp [gtI] at e; subst e; rfl
theorem sc_ge : ScR geI := fun x y d e => by cases x <;> cases y <;> simp [geI] at e; subst e; rfl
theorem sc_le : ScR leD := fun x y d e => by cases x <;> cases y <;> simp [leD] at e <;> subst e <;> rfl
theorem sc_eq : ScR eqD := fun x y d e => by obtain ⟨b, _, rfl⟩ := Option.map_eq_some_iff.mp e; rfl
theorem sc_ne : ScR neD := fun x y d e => by obtain ⟨b, _, rfl⟩ := Option.map_eq_some_iff.mp e; rfl
theorem sc_is : ScR isD := fun x y d e => by cases y <;> simp [isD] at e; subst e; rfl
theorem sc_isnt : ScR isntD := fun x y d e => by cases y <;> simp [isntD] at e; subst e; rfl
def inB (x y : D) : Option D := (inD x y).map .bl
def ninB (x y : D) : Option D := (inD x y).map fun b => .bl (!b)
theorem sc_in : ScR inB := fun x y d e => by obtain ⟨b, _, rfl⟩ := Option.map_eq_some_iff.mp e; rfl
theorem sc_nin : ScR ninB := fun x y d e => by obtain ⟨b, _, rfl⟩ := Option.map_eq_some_iff.mp e; rfl
theorem og_inB : OpG X (compareOp .In) inB := og_in
theorem og_ninB : OpG X (compareOp .NotIn) ninB := og_notin
end
end Wr

/-! Argument lists, displays, subscripts, slices, built-ins. -/
namespace Wr
open PySem PySem.Spec PyProof.Rows L2

abbrev AM := Env → Option (List D)
def rdA (K : Frag) (m : AM) : TA := fun σ H Q => ∃ O env U ds, Sl K H O σ env U ∧ Od H O ∧ m env = some ds ∧ ∀ vs H', Same H H' → Reps K H' O 0 vs ds [] → Q vs H'
structure GA (X : Cx) (es : List Expr) (m : AM) : Prop where
  pa : PA X es (rdA X.K m)
  len : ∀ env ds, m env = some ds → ds.length = es.length
section
variable {X : Cx}
def nilA : AM := fun _ => some []
def consA (m : PM) (n : AM) : AM := fun e => (m e).bind fun x => (n e).bind fun xs => some (x :: xs)
theorem ga_nil : GA X [] nilA := ⟨pa_nil.weaken fun σ H Q ⟨O, env, U, ds, s, od, e, q⟩ => by cases e; exact q [] H (Same.refl H) .nil, fun _ _ e => by cases e; rfl⟩
theorem ga_cons {e : Expr} {es : List Expr} {m : PM} {n : AM} (h : GP X e m) (g : GA X es n) (hs : starEach (e :: es) X.env = (false, eval e X.env) :: starEach es X.env := by rfl) : GA X (e :: es) (consA m n) := by
  refine ⟨(pa_cons h.pe g.pa hs).weaken fun σ H Q h => ?_, fun env ds q => ?_⟩
  · obtain ⟨O, env, U, ds, s, od, e, q⟩ := h
    unfold consA at e
    obtain ⟨x, e1, e⟩ := Option.bind_eq_some_iff.mp e
    obtain ⟨xs, e2, e⟩ := Option.bind_eq_some_iff.mp e
    cases e
    exact ⟨O, env, U, x, s, od, e1, fun v H1 s1 r1 => ⟨O, env, U, xs, s.same s1, od.same s1, e2, fun vs H2 s2 r2 => q _ H2 (s1.trans s2) (.cons0 (r1.same s2) r2)⟩⟩
  · unfold consA at q
    obtain ⟨x, e1, q⟩ := Option.bind_eq_some_iff.mp q
    obtain ⟨xs, e2, q⟩ := Option.bind_eq_some_iff.mp q
    cases q
    rw [List.length_cons, List.length_cons, g.len env xs e2]
def tupP (m : AM) : PM := fun e => (m e).bind fun ds => some (.tup ds)
def lstP (m : AM) : PM := fun e => (m e).bind fun ds => some (.lst ds)
theorem gp_tup {es : List Expr} {m : AM} {k : Nat} {pos : Pos} (h : GA X es m) (hz : es.length ≤ sizeLine := by exact Nat.le_of_ble_eq_true rfl) : GP X (.Tuple es k pos) (tupP m) := by
  refine ⟨(pe_tup h.pa).weaken fun σ H Q hq => ?_⟩
  obtain ⟨O, env, U, d, s, od, e, q⟩ := hq
  unfold tupP at e
  obtain ⟨ds, e1, e⟩ := Option.bind_eq_some_iff.mp e
  cases e
  exact ⟨O, env, U, ds, s, od, e1, fun vs H1 s1 r => ⟨by rw [r.length, h.len _ _ e1]; exact hz, fun p hp => q _ _ (s1.trans (same_new hp)) (freshT r hp)⟩⟩
theorem gp_lst {es : List Expr} {m : AM} {pos : Pos} (h : GA X es m) (hz : es.length ≤ sizeLine := by exact Nat.le_of_ble_eq_true rfl) : GP X (.List es pos) (lstP m) := by
  refine ⟨(pe_lst h.pa).weaken fun σ H Q hq => ?_⟩
  obtain ⟨O, env, U, d, s, od, e, q⟩ := hq
  unfold lstP at e
  obtain ⟨ds, e1, e⟩ := Option.bind_eq_some_iff.mp e
  cases e
  exact ⟨O, env, U, ds, s, od, e1, fun vs H1 s1 r => ⟨by rw [r.length, h.len _ _ e1]; exact hz, fun p hp => q _ _ (s1.trans (same_new hp)) (freshL (od.same s1) r hp)⟩⟩

/-! ### subscripts -/
def idxD : D → D → Option D
  | .lst xs, .int i => atI xs i
  | .tup xs, .int i => atI xs i
  | .str z, .int i => if z.length ≤ sizeLine then (atI z.cps.toList i).map fun c => .str ⟨#[c]⟩ else none
  | _, _ => none
theorem atI_rep {K : Frag} {H : Hp} {O : Addr → Prop} {vs ds} {i : Int} {d : D} (r : Reps K H O 0 vs ds []) (h : atI ds i = some d) : ∃ v, atI vs i = some v ∧ Rep K H O 0 v d [] := by
  unfold atI at h ⊢
  obtain ⟨j, e1, e2⟩ := Option.bind_eq_some_iff.mp h
  obtain ⟨v, e3, r'⟩ := r.at0 e2
  exact ⟨v, by rw [r.length, e1]; exact e3, r'⟩
/-- x[i]: the item, with its kind -/
def idxK : Nat × D → D → Option (Nat × D)
  | (k, .lst xs), .int i => (atI xs i).map fun d => (k - 1, d)
  | (k, .tup xs), .int i => (atI xs i).map fun d => (k, d)
  | (_, .str z), .int i => if z.length ≤ sizeLine then (atI z.cps.toList i).map fun c => (0, .str ⟨#[c]⟩) else none
  | _, _ => none
def ixX (ma mb : XM) : XM := fun e => (ma e).bind fun x => (mb e).bind fun y => idxK x y.2
theorem atI_repK {K : Frag} {H : Hp} {O : Addr → Prop} {k vs ds F} {i : Int} {d : D} (r : Reps K H O k vs ds F) (h : atI ds i = some d) : ∃ v G, atI vs i = some v ∧ Rep K H O k v d G := by
  unfold atI at h ⊢
  obtain ⟨j, e1, e2⟩ := Option.bind_eq_some_iff.mp h
  obtain ⟨v, G, e3, r', _⟩ := r.at e2
  exact ⟨v, G, by rw [r.length, e1]; exact e3, r'⟩
theorem gx_ix {a b : Expr} {ma mb : XM} {pos : Pos} (ha : GX X a ma) (hb : GX X b mb) (hs : PlainIx b := by exact fun _ _ => rfl) : GX X (.Subscript a b pos) (ixX ma mb) := by
  refine ⟨(pe_ix ix_seq ha.pe hb.pe hs).weaken fun σ H Q h => ?_⟩
  obtain ⟨O, env, U, k, d, s, od, e, q⟩ := h
  unfold ixX at e
  obtain ⟨⟨kx, x⟩, ea, e⟩ := Option.bind_eq_some_iff.mp e
  obtain ⟨⟨ky, y⟩, eb, e⟩ := Option.bind_eq_some_iff.mp e
  refine ⟨O, env, U, kx, x, s, od, ea, fun v H1 F s1 r1 => ⟨O, env, U, ky, y, s.same s1, od.same s1, eb, fun u H2 G s2 r2 => ?_⟩⟩
  have r1 := r1.same s2
  have sH := s1.trans s2
  cases y with
  | int i =>
    cases r2
    cases x with
    | lst xs =>
      obtain ⟨d', e3, e4⟩ := Option.map_eq_some_iff.mp (show (atI xs i).map (fun d => (kx - 1, d)) = some (k, d) from e)
      cases e4
      cases r1 with
      | frz hs rs =>
        obtain ⟨v, G, e5, r'⟩ := atI_repK rs e3
        exact .inl ⟨_, _, _, v, rfl, rfl, hs.sq, e5, q v H2 G sH r'⟩
      | own hs _ _ rs =>
        obtain ⟨v, G, e5, r'⟩ := atI_repK rs e3
        exact .inl ⟨_, _, _, v, rfl, rfl, .inl (.inl hs), e5, q v H2 G sH r'⟩
    | tup xs =>
      obtain ⟨d', e3, e4⟩ := Option.map_eq_some_iff.mp (show (atI xs i).map (fun d => (kx, d)) = some (k, d) from e)
      cases e4
      cases r1 with
      | tup hs rs =>
        obtain ⟨v, G, e5, r'⟩ := atI_repK rs e3
        exact .inr (.inl ⟨_, _, _, v, rfl, rfl, hs, e5, q v H2 G sH r'⟩)
    | str z =>
      cases r1
      have e : (if z.length ≤ sizeLine then (atI z.cps.toList i).map fun c => ((0, .str ⟨#[c]⟩) : Nat × D) else none) = some (k, d) := e
      split at e
      · rename_i hz
        obtain ⟨c, e1, e4⟩ := Option.map_eq_some_iff.mp e
        cases e4
        exact .inr (.inr ⟨z, _, c, rfl, rfl, hz, e1, q _ H2 [] sH .str⟩)
      · cases e
    | _ => simp [idxK] at e
  | _ => cases x <;> simp [idxK] at e
/-! ### slices -/
abbrev OM := Env → Option (Option Int)
def rdO (K : Frag) (m : OM) : TO := fun σ H Q => ∃ O env U o, Sl K H O σ env U ∧ Od H O ∧ m env = some o ∧ ∀ H', Same H H' → Q o H'
structure GO (X : Cx) (e : Option Expr) (m : OM) : Prop where
  po : PO X e (rdO X.K m)
theorem _root_.L2.PO.weaken {e : Option Expr} {t t' : TO} (h : PO X e t) (q : ∀ σ H Q, t' σ H Q → t σ H Q) : PO X e t' := ⟨fun pins s σ H Q I hq => h.run pins s σ H Q I (q σ H Q hq)⟩
def noO : OM := fun _ => some none
def asI : D → Option Int
  | .int i => some i
  | _ => none
theorem asI_some {d : D} {i : Int} (h : asI d = some i) : d = .int i := by cases d <;> simp [asI] at h; subst h; rfl
def someO (m : PM) : OM := fun e => (m e).bind fun d => (asI d).map some
theorem go_none : GO X none noO := ⟨po_none.weaken fun σ H Q ⟨O, env, U, o, s, od, e, q⟩ => by cases e; exact q H (Same.refl H)⟩
theorem go_some {e : Expr} {m : PM} (h : GP X e m) : GO X (some e) (someO m) := ⟨(po_some h.pe).weaken fun σ H Q ⟨O, env, U, o, s, od, e, q⟩ => by
  unfold someO at e
  obtain ⟨d, e1, e⟩ := Option.bind_eq_some_iff.mp e
  obtain ⟨i, e2, rfl⟩ := Option.map_eq_some_iff.mp e
  have := asI_some e2; subst this
  refine ⟨O, env, U, _, s, od, e1, fun v H1 s1 r => ?_⟩
  cases r
  exact ⟨i, rfl, q H1 s1⟩⟩
def cutL {α : Type} (xs : List α) (lo hi : Option Int) : List α := (xs.drop (HT.sIx xs.length 0 lo)).take (HT.sIx xs.length xs.length hi - HT.sIx xs.length 0 lo)
def sliD (d : D) (lo hi : Option Int) : Option D := match d with
  | .lst xs => some (.lst (cutL xs lo hi))
  | .tup xs => some (.tup (cutL xs lo hi))
  | .str z => if z.length ≤ sizeLine then some (.str (cutS z lo hi)) else none
  | _ => none
def slP (m : PM) (l h : OM) : PM := fun e => (m e).bind fun d => (l e).bind fun lo => (h e).bind fun hi => sliD d lo hi
theorem cut_rep {K : Frag} {H : Hp} {O : Addr → Prop} {vs ds} {lo hi : Option Int} (r : Reps K H O 0 vs ds []) : Reps K H O 0 (cutV vs lo hi) (cutL ds lo hi) [] := by
  unfold cutV cutL
  rw [r.length]
  exact (r.drop0 _).take0 _
theorem gp_slice {a : Expr} {lo hi : Option Expr} {m : PM} {l h : OM} {p2 pos : Pos} (ha : GP X a m) (hl : GO X lo l) (hh : GO X hi h) : GP X (.Subscript a (.Slice lo hi none p2) pos) (slP m l h) := by
  refine ⟨(pe_slice ((sl_list.or sl_tupA).or sl_str) ha.pe hl.po hh.po).weaken fun σ H Q hq => ?_⟩
  obtain ⟨O, env, U, d, s, od, e, q⟩ := hq
  unfold slP at e
  obtain ⟨x, e1, e⟩ := Option.bind_eq_some_iff.mp e
  obtain ⟨lo', e2, e⟩ := Option.bind_eq_some_iff.mp e
  obtain ⟨hi', e3, e⟩ := Option.bind_eq_some_iff.mp e
  refine ⟨O, env, U, x, s, od, e1, fun v H1 s1 r1 => ⟨O, env, U, lo', s.same s1, od.same s1, e2, fun H2 s2 => ⟨O, env, U, hi', s.same (s1.trans s2), od.same (s1.trans s2), e3, fun H3 s3 => ?_⟩⟩⟩
  have r3 := r1.same (s2.trans s3)
  have sH : Same H H3 := (s1.trans s2).trans s3
  cases x with
  | lst xs =>
    cases e
    cases r3 with
    | frz hs rs => exact .inl (.inl ⟨_, _, rfl, hs.sq, fun p hp => q _ _ (sH.trans (same_new hp)) (freshL (od.same sH) (cut_rep rs) hp)⟩)
  | tup xs =>
    cases e
    cases r3 with
    | tup hs rs =>
      refine .inl (.inr ⟨_, _, rfl, hs, fun z => q _ H3 sH ?_, fun z p hp => q _ _ (sH.trans (same_new hp)) (freshT (cut_rep rs) hp)⟩)
      have e5 : cutL xs lo' hi' = xs := by
        unfold cutL
        rw [← rs.length, z.1, z.2, rs.length]
        simp
      rw [e5]
      exact .tup hs rs
  | str z =>
    simp only [sliD] at e
    split at e
    · rename_i hz
      cases e
      cases r3
      exact .inr ⟨z, rfl, hz, q _ H3 sH .str⟩
    · cases e
  | _ => simp [sliD] at e

/-! ### calls of built-ins -/
def CallS (K : Frag) (r : List V → Hp → VK → Prop) (g : List D → Option D) : Prop := ∀ (H : Hp) (O : Addr → Prop) (vs : List V) (ds : List D) (d : D) (Q : VK), Od H O → Reps K H O 0 vs ds [] → g ds = some d →
  (∀ v H', Same H H' → Rep K H' O 0 v d [] → Q v H') → r vs H Q
structure CallG (X : Cx) (f : Value) (g : List D → Option D) : Prop where
  ex : ∃ r, CallR X f r ∧ CallS X.K r g
theorem CallG.or {f : Value} {g g' : List D → Option D} (h : CallG X f g) (h' : CallG X f g') : CallG X f (fun x => match g x with | some d => some d | none => g' x) := by
  obtain ⟨r, a, b⟩ := h.ex
  obtain ⟨r', a', b'⟩ := h'.ex
  refine ⟨_, CallR.or a a', fun H O vs ds d Q od rs e q => ?_⟩
  cases e1 : g ds with
  | some d1 => simp only [e1] at e; cases e; exact .inl (b H O vs ds _ Q od rs e1 q)
  | none => simp only [e1] at e; exact .inr (b' H O vs ds _ Q od rs e q)
theorem CallG.imp {f : Value} {g g' : List D → Option D} (h : CallG X f g) (q : ∀ x d, g' x = some d → g x = some d) : CallG X f g' := by
  obtain ⟨r, a, b⟩ := h.ex
  exact ⟨r, a, fun H O vs ds d Q od rs e q' => b H O vs ds d Q od rs (q _ _ e) q'⟩
def callP (g : List D → Option D) (m : AM) : PM := fun e => (m e).bind g
theorem rd_call {K : Frag} {r : List V → Hp → VK → Prop} {g : List D → Option D} {m : AM} (hs : CallS K r g) (σ : L2.St) (H : Hp) (Q : VK) (h : rdP K (callP g m) σ H Q) : tCB r (rdA K m) σ H Q := by
  obtain ⟨O, env, U, d, s, od, e, q⟩ := h
  unfold callP at e
  obtain ⟨ds, e1, e⟩ := Option.bind_eq_some_iff.mp e
  exact ⟨O, env, U, ds, s, od, e1, fun vs H1 s1 rs => hs H1 O vs ds d Q (od.same s1) rs e fun v H' s' r' => q v H' (s1.trans s') r'⟩
/-- arguments that are read alone -/
def rdAX (K : Frag) (m : AM) : TA := fun σ H Q => ∃ O env U ds, Sl K H O σ env U ∧ Od H O ∧ m env = some ds ∧ ∀ vs H', Same H H' → Reps K H' O0 0 vs ds [] → Q vs H'
structure GAX (X : Cx) (es : List Expr) (m : AM) : Prop where
  pa : PA X es (rdAX X.K m)
def nilX : AM := fun _ => some []
def consX (m : XM) (n : AM) : AM := fun e => (m e).bind fun x => (n e).bind fun xs => some (x.2 :: xs)
theorem gax_nil : GAX X [] nilX := ⟨pa_nil.weaken fun σ H Q ⟨O, env, U, ds, s, od, e, q⟩ => by cases e; exact q [] H (Same.refl H) .nil⟩
theorem gax_cons {e : Expr} {es : List Expr} {m : XM} {n : AM} (h : GX X e m) (g : GAX X es n) (hs : starEach (e :: es) X.env = (false, eval e X.env) :: starEach es X.env := by rfl) : GAX X (e :: es) (consX m n) := by
  refine ⟨(pa_cons h.pe g.pa hs).weaken fun σ H Q h => ?_⟩
  obtain ⟨O, env, U, ds, s, od, e, q⟩ := h
  unfold consX at e
  obtain ⟨⟨k, x⟩, e1, e⟩ := Option.bind_eq_some_iff.mp e
  obtain ⟨xs, e2, e⟩ := Option.bind_eq_some_iff.mp e
  cases e
  exact ⟨O, env, U, k, x, s, od, e1, fun v H1 F s1 r1 => ⟨O, env, U, xs, s.same s1, od.same s1, e2, fun vs H2 s2 r2 => q _ H2 (s1.trans s2) (.cons0 (r1.same s2).o0 r2)⟩⟩
def ScC (g : List D → Option D) : Prop := ∀ x d, g x = some d → isScal d = true
theorem rd_callX {K : Frag} {r : List V → Hp → VK → Prop} {g : List D → Option D} {m : AM} (hs : CallS K r g) (hg : ScC g) (σ : L2.St) (H : Hp) (Q : VK) (h : rdP K (callP g m) σ H Q) : tCB r (rdAX K m) σ H Q := by
  obtain ⟨O, env, U, d, s, od, e, q⟩ := h
  unfold callP at e
  obtain ⟨ds, e1, e⟩ := Option.bind_eq_some_iff.mp e
  exact ⟨O, env, U, ds, s, od, e1, fun vs H1 s1 rs => hs H1 O0 vs ds d Q od0 rs e fun v H' s' r' => q v H' (s1.trans s') (r'.scalO (hg _ _ e))⟩
theorem gp_callBX {id : String} {x : Str} {e : Expr} {es : List Expr} {g : List D → Option D} {m : AM} {p pos : Pos} (hc : CallG X (.builtin id) g) (hs : ScC g) (hg : Gl X x) (hm : X.mg x = none) (hv : bootBuiltins x = some (.builtin id)) (ha : GAX X (e :: es) m) (hn : x ≠ "__name__" := by decide) (hdb : (x == ("__debug__" : Str)) = false := by decide)
    (he : starEach (e :: es) X.env = (false, eval e X.env) :: starEach es X.env := by rfl) (hpl : (backTo pos (starEach es X.env)).any (·.1) = false := by rfl) : GP X (.Call (.Name x p) (e :: es) [] pos) (callP g m) := by
  obtain ⟨r, h1, h2⟩ := hc.ex
  exact ⟨(pe_callB h1 hg hm hv ha.pa hn hdb he hpl).weaken fun σ H Q h => rd_callX h2 hs σ H Q h⟩
theorem gp_callTyX {T : String} {x : Str} {e : Expr} {es : List Expr} {g : List D → Option D} {m : AM} {p pos : Pos} (hc : CallG X (.type T) g) (hs : ScC g) (hg : Gl X x) (hm : X.mg x = none) (hv : bootBuiltins x = some (.type T)) (ha : GAX X (e :: es) m) (hn : x ≠ "__name__" := by decide) (hdb : (x == ("__debug__" : Str)) = false := by decide)
    (he : starEach (e :: es) X.env = (false, eval e X.env) :: starEach es X.env := by rfl) (hpl : (backTo pos (starEach es X.env)).any (·.1) = false := by rfl) : GP X (.Call (.Name x p) (e :: es) [] pos) (callP g m) := by
  obtain ⟨r, h1, h2⟩ := hc.ex
  exact ⟨(pe_callTy h1 hg hm hv ha.pa hn hdb he hpl).weaken fun σ H Q h => rd_callX h2 hs σ H Q h⟩
theorem gp_callB {id : String} {x : Str} {e : Expr} {es : List Expr} {g : List D → Option D} {m : AM} {p pos : Pos} (hc : CallG X (.builtin id) g) (hg : Gl X x) (hm : X.mg x = none) (hv : bootBuiltins x = some (.builtin id)) (ha : GA X (e :: es) m) (hn : x ≠ "__name__" := by decide) (hdb : (x == ("__debug__" : Str)) = false := by decide)
    (he : starEach (e :: es) X.env = (false, eval e X.env) :: starEach es X.env := by rfl) (hpl : (backTo pos (starEach es X.env)).any (·.1) = false := by rfl) : GP X (.Call (.Name x p) (e :: es) [] pos) (callP g m) := by
  obtain ⟨r, h1, h2⟩ := hc.ex
  exact ⟨(pe_callB h1 hg hm hv ha.pa hn hdb he hpl).weaken fun σ H Q h => rd_call h2 σ H Q h⟩
theorem gp_callTy {T : String} {x : Str} {e : Expr} {es : List Expr} {g : List D → Option D} {m : AM} {p pos : Pos} (hc : CallG X (.type T) g) (hg : Gl X x) (hm : X.mg x = none) (hv : bootBuiltins x = some (.type T)) (ha : GA X (e :: es) m) (hn : x ≠ "__name__" := by decide) (hdb : (x == ("__debug__" : Str)) = false := by decide)
    (he : starEach (e :: es) X.env = (false, eval e X.env) :: starEach es X.env := by rfl) (hpl : (backTo pos (starEach es X.env)).any (·.1) = false := by rfl) : GP X (.Call (.Name x p) (e :: es) [] pos) (callP g m) := by
  obtain ⟨r, h1, h2⟩ := hc.ex
  exact ⟨(pe_callTy h1 hg hm hv ha.pa hn hdb he hpl).weaken fun σ H Q h => rd_call h2 σ H Q h⟩
/-- a built-in type's name as a value -/
theorem gp_tyN {x : Str} {T : String} {pos : Pos} (hg : Gl X x) (hm : X.mg x = none) (hv : bootBuiltins x = some (.type T)) (hn : x ≠ "__name__" := by decide) (hdb : (x == ("__debug__" : Str)) = false := by decide) : GP X (.Name x pos) (cP (.ty T)) :=
  ⟨(pe_bltn (v := .ty T) hg hm hv rfl hn hdb).weaken fun σ H Q ⟨O, env, U, d, s, od, e, q⟩ => by cases e; exact q _ H (Same.refl H) .ty⟩

def lenD : List D → Option D
  | [.str y] => if y.length ≤ sizeLine then some (.int y.length) else none
  | [.tup xs] => some (.int xs.length)
  | [.lst xs] => some (.int xs.length)
  | _ => none
theorem cg_len : CallG X (.builtin "len") lenD := ⟨_, call_len, fun H O vs ds d Q od rs e q => by
  unfold lenD at e
  split at e
  · obtain ⟨v, ws, rfl, a, b⟩ := rs.un0
    obtain ⟨rfl, _⟩ := b.none
    split at e
    · rename_i hz; cases e; cases a; exact ⟨_, _, rfl, ⟨hz, rfl⟩, q _ H (Same.refl H) .int⟩
    · cases e
  · obtain ⟨v, ws, rfl, a, b⟩ := rs.un0
    obtain ⟨rfl, _⟩ := b.none
    cases e
    cases a with
    | tup hs r => exact ⟨_, _, rfl, .inr ⟨_, hs, rfl⟩, by rw [r.length]; exact q _ H (Same.refl H) .int⟩
  · obtain ⟨v, ws, rfl, a, b⟩ := rs.un0
    obtain ⟨rfl, _⟩ := b.none
    cases e
    cases a with
    | frz hs r => exact ⟨_, _, rfl, .inl ⟨_, hs.sq, rfl⟩, by rw [r.length]; exact q _ H (Same.refl H) .int⟩
  · cases e⟩
def absD : List D → Option D
  | [.int i] => some (.int (if i < 0 then -i else i))
  | _ => none
theorem cg_abs : CallG X (.builtin "abs") absD := ⟨_, call_abs, fun H O vs ds d Q od rs e q => by
  unfold absD at e
  split at e
  · obtain ⟨v, ws, rfl, a, b⟩ := rs.un0
    obtain ⟨rfl, _⟩ := b.none
    cases e; cases a; exact ⟨_, rfl, q _ H (Same.refl H) .int⟩
  · cases e⟩
def intsOf : List D → Option (List Int)
  | [] => some []
  | .int i :: r => (intsOf r).map (i :: ·)
  | _ => none
theorem intsOf_eq : ∀ {ds : List D} {ns : List Int}, intsOf ds = some ns → ds = ns.map .int
  | [], _, h => by cases h; rfl
  | d :: r, ns, h => by
    cases d <;> simp only [intsOf, reduceCtorEq] at h
    obtain ⟨ms, e, rfl⟩ := Option.map_eq_some_iff.mp h
    rw [intsOf_eq e]; rfl
theorem intsOf_map (ns : List Int) : intsOf (ns.map D.int) = some ns := by
  induction ns with
  | nil => rfl
  | cons n ns ih => simp [intsOf, ih]
def blsOf : List D → Option (List Bool)
  | [] => some []
  | .bl i :: r => (blsOf r).map (i :: ·)
  | _ => none
theorem blsOf_eq : ∀ {ds : List D} {ns : List Bool}, blsOf ds = some ns → ds = ns.map .bl
  | [], _, h => by cases h; rfl
  | d :: r, ns, h => by
    cases d <;> simp only [blsOf, reduceCtorEq] at h
    obtain ⟨ms, e, rfl⟩ := Option.map_eq_some_iff.mp h
    rw [blsOf_eq e]; rfl
theorem blsOf_map (ns : List Bool) : blsOf (ns.map D.bl) = some ns := by
  induction ns with
  | nil => rfl
  | cons n ns ih => simp [blsOf, ih]
def strsOf : List D → Option (List Str)
  | [] => some []
  | .str i :: r => (strsOf r).map (i :: ·)
  | _ => none
theorem strsOf_eq : ∀ {ds : List D} {ns : List Str}, strsOf ds = some ns → ds = ns.map .str
  | [], _, h => by cases h; rfl
  | d :: r, ns, h => by
    cases d <;> simp only [strsOf, reduceCtorEq] at h
    obtain ⟨ms, e, rfl⟩ := Option.map_eq_some_iff.mp h
    rw [strsOf_eq e]; rfl
theorem strsOf_map (ns : List Str) : strsOf (ns.map D.str) = some ns := by
  induction ns with
  | nil => rfl
  | cons n ns ih => simp [strsOf, ih]
def max2D : List D → Option D
  | [.int i, .int j] => some (.int (if j > i then j else i))
  | _ => none
def min2D : List D → Option D
  | [.int i, .int j] => some (.int (if j < i then j else i))
  | _ => none
theorem cg_max2 (hc : X.calm = true) : CallG X (.builtin "max") max2D := ⟨_, call_max2 hc, fun H O vs ds d Q od rs e q => by
  unfold max2D at e
  split at e
  · obtain ⟨v, ws, rfl, a, b⟩ := rs.un0
    obtain ⟨v2, ws, rfl, a2, b⟩ := b.un0
    obtain ⟨rfl, _⟩ := b.none
    cases e; cases a; cases a2; exact ⟨_, _, rfl, q _ H (Same.refl H) .int⟩
  · cases e⟩
theorem cg_min2 (hc : X.calm = true) : CallG X (.builtin "min") min2D := ⟨_, call_min2 hc, fun H O vs ds d Q od rs e q => by
  unfold min2D at e
  split at e
  · obtain ⟨v, ws, rfl, a, b⟩ := rs.un0
    obtain ⟨v2, ws, rfl, a2, b⟩ := b.un0
    obtain ⟨rfl, _⟩ := b.none
    cases e; cases a; cases a2; exact ⟨_, _, rfl, q _ H (Same.refl H) .int⟩
  · cases e⟩
/-- list(x), tuple(x) -/
def listD : List D → Option D
  | [.lst xs] => some (.lst xs)
  | [.tup xs] => some (.lst xs)
  | _ => none
def tupleD : List D → Option D
  | [.lst xs] => some (.tup xs)
  | [.tup xs] => some (.tup xs)
  | _ => none
theorem cg_list : CallG X (.type "list") listD := ⟨_, call_list_of, fun H O vs ds d Q od rs e q => by
  unfold listD at e
  split at e
  · obtain ⟨v, ws, rfl, a, b⟩ := rs.un0
    obtain ⟨rfl, _⟩ := b.none
    cases e
    cases a with
    | frz hs r => exact ⟨_, _, rfl, .inl hs.sq, fun p hp => q _ _ (same_new hp) (freshL od r hp)⟩
  · obtain ⟨v, ws, rfl, a, b⟩ := rs.un0
    obtain ⟨rfl, _⟩ := b.none
    cases e
    cases a with
    | tup hs r => exact ⟨_, _, rfl, .inr hs, fun p hp => q _ _ (same_new hp) (freshL od r hp)⟩
  · cases e⟩
theorem cg_tuple : CallG X (.type "tuple") tupleD := ⟨_, call_tuple_of, fun H O vs ds d Q od rs e q => by
  unfold tupleD at e
  split at e
  · obtain ⟨v, ws, rfl, a, b⟩ := rs.un0
    obtain ⟨rfl, _⟩ := b.none
    cases e
    cases a with
    | frz hs r => exact ⟨_, _, rfl, .inl ⟨hs.sq, fun p hp => q _ _ (same_new hp) (freshT r hp)⟩⟩
  · obtain ⟨v, ws, rfl, a, b⟩ := rs.un0
    obtain ⟨rfl, _⟩ := b.none
    cases e
    cases a with
    | tup hs r => exact ⟨_, _, rfl, .inr ⟨hs, q _ _ (Same.refl H) (.tup hs r)⟩⟩
  · cases e⟩
def allD : List D → Option D
  | [.lst xs] => (blsOf xs).map fun bs => .bl (bs.all id)
  | _ => none
def anyD : List D → Option D
  | [.lst xs] => (blsOf xs).map fun bs => .bl (bs.any id)
  | _ => none
def sumD : List D → Option D
  | [.lst xs] => (intsOf xs).map fun bs => .int bs.sum
  | _ => none
theorem cg_all (hc : X.calm = true) : CallG X (.builtin "all") allD := ⟨_, cr_all hc, fun H O vs ds d Q od rs e q => by
  unfold allD at e
  split at e
  · obtain ⟨v, ws, rfl, a, b⟩ := rs.un0
    obtain ⟨rfl, _⟩ := b.none
    obtain ⟨bs, e1, rfl⟩ := Option.map_eq_some_iff.mp e
    cases a with
    | frz hs r =>
      rw [intsOf_eq_all e1] at r
      have := r.bls; subst this
      exact ⟨_, bs, rfl, hs.sq, q _ H (Same.refl H) .bl⟩
  · cases e⟩
where intsOf_eq_all {xs : List D} {bs : List Bool} (h : blsOf xs = some bs) : xs = bs.map .bl := blsOf_eq h
theorem cg_any (hc : X.calm = true) : CallG X (.builtin "any") anyD := ⟨_, cr_any hc, fun H O vs ds d Q od rs e q => by
  unfold anyD at e
  split at e
  · obtain ⟨v, ws, rfl, a, b⟩ := rs.un0
    obtain ⟨rfl, _⟩ := b.none
    obtain ⟨bs, e1, rfl⟩ := Option.map_eq_some_iff.mp e
    cases a with
    | frz hs r =>
      rw [blsOf_eq e1] at r
      have := r.bls; subst this
      exact ⟨_, bs, rfl, hs.sq, q _ H (Same.refl H) .bl⟩
  · cases e⟩
theorem cg_sum (hc : X.calm = true) : CallG X (.builtin "sum") sumD := ⟨_, cr_sum hc, fun H O vs ds d Q od rs e q => by
  unfold sumD at e
  split at e
  · obtain ⟨v, ws, rfl, a, b⟩ := rs.un0
    obtain ⟨rfl, _⟩ := b.none
    obtain ⟨bs, e1, rfl⟩ := Option.map_eq_some_iff.mp e
    cases a with
    | frz hs r =>
      rw [intsOf_eq e1] at r
      have := r.ints; subst this
      exact ⟨_, bs, rfl, hs.sq, q _ H (Same.refl H) .int⟩
  · cases e⟩
def intD : List D → Option D
  | [.int i] => some (.int i)
  | [.bl k] => some (.int (if k then 1 else 0))
  | [.str a] => if a.length ≤ 640 then (PySem.intText? a).map .int else none
  | _ => none
theorem cg_int : CallG X (.type "int") intD := ⟨_, CallR.or call_int1 call_int_str, fun H O vs ds d Q od rs e q => by
  unfold intD at e
  split at e
  · obtain ⟨v, ws, rfl, a, b⟩ := rs.un0
    obtain ⟨rfl, _⟩ := b.none
    cases e; cases a; exact .inl (.inl ⟨_, rfl, q _ H (Same.refl H) .int⟩)
  · obtain ⟨v, ws, rfl, a, b⟩ := rs.un0
    obtain ⟨rfl, _⟩ := b.none
    cases e; cases a; exact .inl (.inr ⟨_, rfl, q _ H (Same.refl H) .int⟩)
  · obtain ⟨v, ws, rfl, a, b⟩ := rs.un0
    obtain ⟨rfl, _⟩ := b.none
    split at e
    · rename_i hz
      obtain ⟨n, e1, rfl⟩ := Option.map_eq_some_iff.mp e
      cases a; exact .inr ⟨_, n, rfl, e1, hz, q _ H (Same.refl H) .int⟩
    · cases e
  · cases e⟩
def strD : List D → Option D
  | [.int i] => if i.natAbs.log2 < 1920 then some (.str (toString i)) else none
  | _ => none
theorem cg_str : CallG X (.type "str") strD := ⟨_, call_str_int, fun H O vs ds d Q od rs e q => by
  unfold strD at e
  split at e
  · obtain ⟨v, ws, rfl, a, b⟩ := rs.un0
    obtain ⟨rfl, _⟩ := b.none
    split at e
    · rename_i hz; cases e; cases a; exact ⟨_, rfl, hz, q _ H (Same.refl H) .str⟩
    · cases e
  · cases e⟩
/-- isinstance of a built-in type -/
def tyN : D → Option String
  | .non => some "NoneType"
  | .bl _ => some "bool"
  | .int _ => some "int"
  | .str _ => some "str"
  | .tup _ => some "tuple"
  | .lst _ => some "list"
  | .ty _ => none
theorem tyN_ok {K : Frag} {H : Hp} {O : Addr → Prop} {k v d F T} (r : Rep K H O k v d F) (h : tyN d = some T) : TyX K H v (.type T) := by
  cases r with
  | non => cases h; exact .base .non
  | bl => cases h; exact .base (.bl _)
  | int => cases h; exact .base (.int _)
  | str => cases h; exact .base (.str _)
  | ty => cases h
  | tup hs =>
    cases h
    rcases hs with (hs | ⟨o, hs⟩) | ⟨o, its, n, e, c, _⟩
    · exact .base (.tup hs)
    · exact .fTuple hs
    · exact .kTuple e c
  | frz hs =>
    cases h
    rcases hs with ⟨hs, _⟩ | ⟨o, hs⟩ | ⟨o, its, n, e, c, _⟩
    · exact .base (.lst hs)
    · exact .base (.frz hs)
    · exact .kList e c
  | own hs => cases h; exact .base (.lst hs)
def isiD : List D → Option D
  | [x, .ty T] => (tyN x).bind fun t => (kitB t T).map .bl
  | _ => none
theorem cg_isi : CallG X (.builtin "isinstance") isiD := ⟨_, call_isi, fun H O vs ds d Q od rs e q => by
  unfold isiD at e
  split at e
  · obtain ⟨v, ws, rfl, a, b⟩ := rs.un0
    obtain ⟨v2, ws, rfl, a2, b⟩ := b.un0
    obtain ⟨rfl, _⟩ := b.none
    obtain ⟨t, e1, e⟩ := Option.bind_eq_some_iff.mp e
    obtain ⟨k, e2, rfl⟩ := Option.map_eq_some_iff.mp e
    cases a2
    exact ⟨v, _, .type t, .type _, k, rfl, by first | exact .ty | exact rfl | constructor, tyN_ok a e1, kit_ty e2, q _ H (Same.refl H) .bl⟩
  · cases e⟩
theorem scc_len : ScC lenD := fun x d e => by
  unfold lenD at e
  split at e <;> first | (cases e; rfl) | (split at e <;> cases e; rfl) | cases e
theorem scc_abs : ScC absD := fun x d e => by unfold absD at e; split at e <;> cases e; rfl
theorem scc_max2 : ScC max2D := fun x d e => by unfold max2D at e; split at e <;> cases e; rfl
theorem scc_min2 : ScC min2D := fun x d e => by unfold min2D at e; split at e <;> cases e; rfl
theorem scc_all : ScC allD := fun x d e => by
  unfold allD at e
  split at e
  · obtain ⟨_, _, rfl⟩ := Option.map_eq_some_iff.mp e; rfl
  · cases e
theorem scc_any : ScC anyD := fun x d e => by
  unfold anyD at e
  split at e
  · obtain ⟨_, _, rfl⟩ := Option.map_eq_some_iff.mp e; rfl
  · cases e
theorem scc_sum : ScC sumD := fun x d e => by
  unfold sumD at e
  split at e
  · obtain ⟨_, _, rfl⟩ := Option.map_eq_some_iff.mp e; rfl
  · cases e
theorem scc_int : ScC intD := fun x d e => by
  unfold intD at e
  split at e <;> first | (cases e; rfl) | (split at e; (obtain ⟨_, _, rfl⟩ := Option.map_eq_some_iff.mp e; rfl); cases e) | cases e
theorem scc_str : ScC strD := fun x d e => by
  unfold strD at e
  split at e <;> first | (split at e <;> cases e; rfl) | cases e
theorem scc_isi : ScC isiD := fun x d e => by
  unfold isiD at e
  split at e
  · obtain ⟨_, _, e⟩ := Option.bind_eq_some_iff.mp e
    obtain ⟨_, _, rfl⟩ := Option.map_eq_some_iff.mp e; rfl
  · cases e
end
end Wr

/-! Expressions that change what is owned. -/
namespace Wr
open PySem PySem.Spec PyProof.Rows L2

/-- from (H, O) with the owned addresses U to (H', O') with U' -/
structure Ext (H : Hp) (O : Addr → Prop) (U : List Addr) (H' : Hp) (O' : Addr → Prop) (U' : List Addr) : Prop where
  same : ∀ a o, H a = some o → a ∉ U → H' a = some o
  dom : ∀ a, (∃ o, H a = some o) → ∃ o, H' a = some o
  own : ∀ a, (∃ o, H a = some o) → O' a → O a
  keep : ∀ a, O a → a ∉ U → O' a
  new : ∀ a ∈ U', a ∈ U ∨ H a = none
section
variable {K : Frag} {H H' H1 H2 : Hp} {O O' O1 O2 : Addr → Prop} {U U' U1 U2 F F1 F2 : List Addr}
theorem Ext.kp (e : Ext H O U H' O' U') (m : Mt H O U) : Kp K H H' O O' U := ⟨e.same, e.own, e.keep, m⟩
theorem Ext.of_same (s : Same H H') (h : ∀ a ∈ U', a ∈ U) : Ext H O U H' O U' := ⟨fun a o q _ => s a o q, fun a ⟨o, q⟩ => ⟨o, s a o q⟩, fun _ _ h => h, fun _ h _ => h, fun a ha => .inl (h a ha)⟩
theorem Ext.refl (h : ∀ a ∈ U', a ∈ U) : Ext H O U H O U' := .of_same (Same.refl H) h
/-- one behind another: what the first made (F1) is kept by the second -/
theorem Ext.seq (a : Ext H O U H1 O1 (U1 ++ F1)) (b : Ext H1 O1 U1 H2 O2 U2) (od : Od H O) (h : ∀ a ∈ U', a ∈ U2 ∨ a ∈ F1) : Ext H O U H2 O2 U' where
  same := fun x o q n => b.same x o (a.same x o q n) fun z => (a.new x (List.mem_append_left _ z)).elim n fun z => by rw [q] at z; cases z
  dom := fun x q => b.dom x (a.dom x q)
  own := fun x q z => a.own x q (b.own x (a.dom x q) z)
  keep := fun x q n => b.keep x (a.keep x q n) fun z => (a.new x (List.mem_append_left _ z)).elim n fun z => by obtain ⟨o, e, _⟩ := od x q; rw [e] at z; cases z
  new := fun x hx => by
    rcases h x hx with hx | hx
    · rcases b.new x hx with z | z
      · exact a.new x (List.mem_append_left _ z)
      · refine .inr ?_
        cases q : H x with
        | none => rfl
        | some o => obtain ⟨o', e⟩ := a.dom x ⟨o, q⟩; rw [z] at e; cases e
    · exact a.new x (List.mem_append_right _ hx)
theorem Ext.weak (a : Ext H O U H1 O1 U1) (h : ∀ a ∈ U', a ∈ U1) : Ext H O U H1 O1 U' := ⟨a.same, a.dom, a.own, a.keep, fun x hx => a.new x (h x hx)⟩
theorem Ext.trans (a : Ext H O U H1 O1 U1) (b : Ext H1 O1 U1 H2 O2 U2) (od : Od H O) : Ext H O U H2 O2 U2 :=
  Ext.seq (F1 := []) (by simpa using a) b od fun x hx => .inl hx
/-- what was made ahead and is held aside is untouched -/
theorem Ext.aside (b : Ext H1 O1 U1 H2 O2 U2) (m : Mt H1 O1 F1) (dj : Disj F1 U1) : Disj F1 U2 := fun x hx z => by
  rcases b.new x z with q | q
  · exact dj x hx q
  · obtain ⟨_, xs, e, _⟩ := m x hx
    rw [q] at e; cases e
theorem Ext.rep (b : Ext H1 O1 U1 H2 O2 U2) (m : Mt H1 O1 U1) {k v d} (r : Rep K H1 O1 k v d F) (dj : Disj F U1) : Rep K H2 O2 k v d F := r.stay (b.kp m) dj
theorem Ext.reps (b : Ext H1 O1 U1 H2 O2 U2) (m : Mt H1 O1 U1) {k v d} (r : Reps K H1 O1 k v d F) (dj : Disj F U1) : Reps K H2 O2 k v d F := r.stay (b.kp m) dj
theorem Disj.app {F G W : List Addr} (a : Disj F W) (b : Disj G W) : Disj (F ++ G) W := fun x hx => (List.mem_append.mp hx).elim (a x) (b x)
theorem Disj.appR {F G W : List Addr} (a : Disj W F) (b : Disj W G) : Disj W (F ++ G) := fun x hx z => (List.mem_append.mp z).elim (a x hx) (b x hx)
theorem Disj.symm {F G : List Addr} (a : Disj F G) : Disj G F := fun x hx z => a x z hx
theorem Disj.nil {G : List Addr} : Disj [] G := fun _ z => nomatch z
theorem Disj.nilR {G : List Addr} : Disj G [] := fun _ _ z => nomatch z

/-- freezing -/
def less (O : Addr → Prop) (F : List Addr) : Addr → Prop := fun a => O a ∧ a ∉ F
theorem Od.less (od : Od H O) : Od H (less O F) := fun a h => od a h.1
theorem Kp.less (m : Mt H O F) : Kp K H H O (less O F) F := ⟨fun _ _ h _ => h, fun _ _ h => h.1, fun _ h n => ⟨h, n⟩, m⟩
theorem Rep.cold {k v d} (r : Rep K H O k v d F) : Rep K H (less O F) 0 v d [] := r.freeze (fun _ _ h => h.1) fun _ h z => z.2 h
theorem Ext.less (h : ∀ a ∈ F, a ∈ U) (h' : ∀ a ∈ U', a ∈ U) : Ext H O U H (less O F) U' := ⟨fun _ _ q _ => q, fun _ q => q, fun _ _ z => z.1, fun _ z n => ⟨z, fun y => n (h _ y)⟩, fun a ha => .inl (h' a ha)⟩

/-! ### slots taken out, put in -/
variable {σ : L2.St} {e : Env}
theorem Sl.take (s : Sl K H O σ e U) : ∀ {i : Nat} {k : Nat} {d : D}, e[i]? = some (some (k, d)) →
    ∃ v F U', σ[i]? = some (some v) ∧ Rep K H O k v d F ∧ Sl K H O σ (e.set i none) U' ∧ Disj F U' ∧ (∀ a, a ∈ U ↔ a ∈ F ∨ a ∈ U') := by
  induction s with
  | nil => intro i k d h; simp at h
  | @skip x σ e U s ih =>
    intro i k d h
    cases i with
    | zero => simp at h
    | succ i =>
      obtain ⟨v, F, U', a, b, c, dj, m⟩ := ih (i := i) (by simpa using h)
      exact ⟨v, F, U', by simpa using a, b, by simpa using c.skip, dj, m⟩
  | @keep v σ k' d' e F U r s dj ih =>
    intro i k d h
    cases i with
    | zero =>
      simp at h
      obtain ⟨rfl, rfl⟩ := h
      exact ⟨v, F, U, rfl, r, by simpa using s.skip, dj, fun a => List.mem_append⟩
    | succ i =>
      obtain ⟨w, G, U', a, b, c, dj', m⟩ := ih (i := i) (by simpa using h)
      refine ⟨w, G, F ++ U', by simpa using a, b, ?_, ?_, fun x => ?_⟩
      · simpa using Sl.keep r c fun x hx z => dj x hx ((m x).mpr (.inr z))
      · exact Disj.appR (fun x hx z => dj x z ((m x).mpr (.inl hx))) dj'
      · simp only [List.mem_append, m x]
        constructor
        · rintro (h | h | h)
          · exact .inr (.inl h)
          · exact .inl h
          · exact .inr (.inr h)
        · rintro (h | h | h)
          · exact .inr (.inl h)
          · exact .inl h
          · exact .inr (.inr h)
theorem Sl.put (s : Sl K H O σ e U) : ∀ {i : Nat} {k : Nat} {d : D} {v : V} {F : List Addr}, e[i]? = some none → σ[i]? = some (some v) → Rep K H O k v d F → Disj F U →
    ∃ U', Sl K H O σ (e.set i (some (k, d))) U' ∧ (∀ a, a ∈ U' ↔ a ∈ F ∨ a ∈ U) := by
  induction s with
  | nil => intro i k d v F h; simp at h
  | @skip x σ e U s ih =>
    intro i k d v F h hs r dj
    cases i with
    | zero =>
      simp at hs; subst hs
      exact ⟨F ++ U, by simpa using Sl.keep r s dj, fun a => List.mem_append⟩
    | succ i =>
      obtain ⟨U', a, b⟩ := ih (i := i) (by simpa using h) (by simpa using hs) r dj
      exact ⟨U', by simpa using a.skip, b⟩
  | @keep w σ k' d' e G U r' s dj' ih =>
    intro i k d v F h hs r dj
    cases i with
    | zero => simp at h
    | succ i =>
      obtain ⟨U', a, b⟩ := ih (i := i) (by simpa using h) (by simpa using hs) r (fun x hx z => dj x hx (List.mem_append_right _ z))
      refine ⟨G ++ U', ?_, fun x => ?_⟩
      · simpa using Sl.keep r' a fun x hx z => ((b x).mp z).elim (fun q => dj x q (List.mem_append_left _ hx)) (dj' x hx)
      · simp only [List.mem_append, b x]
        constructor
        · rintro (h | h | h)
          · exact .inr (.inl h)
          · exact .inl h
          · exact .inr (.inr h)
        · rintro (h | h | h)
          · exact .inr (.inl h)
          · exact .inl h
          · exact .inr (.inr h)
/-- a slot is stored anew (its old value is let go) -/
theorem Sl.store (s : Sl K H O σ e U) : ∀ {i : Nat} {k : Nat} {d : D} {v : V} {F : List Addr}, i < e.length → Rep K H O k v d F → Disj F U →
    ∃ U', Sl K H O (σ.set i (some v)) (e.set i (some (k, d))) U' ∧ (∀ a ∈ U', a ∈ F ∨ a ∈ U) := by
  induction s with
  | nil => intro i k d v F h; simp at h
  | @skip x σ e U s ih =>
    intro i k d v F h r dj
    cases i with
    | zero => exact ⟨F ++ U, by simpa using Sl.keep r s dj, fun a => List.mem_append.mp⟩
    | succ i =>
      obtain ⟨U', a, b⟩ := ih (i := i) (by simpa using h) r dj
      exact ⟨U', by simpa using a.skip, b⟩
  | @keep w σ k' d' e G U r' s dj' ih =>
    intro i k d v F h r dj
    cases i with
    | zero => exact ⟨F ++ U, by simpa using Sl.keep r s fun x hx z => dj x hx (List.mem_append_right _ z), fun a ha => (List.mem_append.mp ha).imp id fun z => List.mem_append_right _ z⟩
    | succ i =>
      obtain ⟨U', a, b⟩ := ih (i := i) (by simpa using h) r (fun x hx z => dj x hx (List.mem_append_right _ z))
      refine ⟨G ++ U', ?_, fun x hx => ?_⟩
      · simpa using Sl.keep r' a fun x hx z => (b x z).elim (fun q => dj x q (List.mem_append_left _ hx)) (dj' x hx)
      · rcases List.mem_append.mp hx with z | z
        · exact .inr (List.mem_append_left _ z)
        · exact (b x z).imp id fun z => List.mem_append_right _ z
/-- forgetting slots -/
theorem Sl.drop (s : Sl K H O σ e U) : ∀ (i : Nat), ∃ U', Sl K H O σ (e.set i none) U' ∧ (∀ a ∈ U', a ∈ U) := by
  induction s with
  | nil => intro i; exact ⟨[], .nil, fun _ h => h⟩
  | @skip x σ e U s ih =>
    intro i
    cases i with
    | zero => exact ⟨U, s.skip, fun _ h => h⟩
    | succ i => obtain ⟨U', a, b⟩ := ih i; exact ⟨U', a.skip, b⟩
  | @keep w σ k' d' e G U r' s dj' ih =>
    intro i
    cases i with
    | zero => exact ⟨U, s.skip, fun a h => List.mem_append_right _ h⟩
    | succ i =>
      obtain ⟨U', a, b⟩ := ih i
      exact ⟨G ++ U', Sl.keep r' a fun x hx z => dj' x hx (b x z), fun x hx => (List.mem_append.mp hx).elim (List.mem_append_left _) fun z => List.mem_append_right _ (b x z)⟩
theorem Sl.stayE (s : Sl K H O σ e U) (b : Ext H O U1 H' O' U2) (m : Mt H O U1) (dj : Disj U U1) : Sl K H' O' σ e U := s.stay (b.kp m) dj
theorem Sl.coldOut (s : Sl K H O σ e U) (m : Mt H O F) (dj : Disj U F) : Sl K H (Wr.less O F) σ e U := s.stay (Kp.less m) dj
end

/-! ### expressions -/
abbrev EM := Env → Option (Nat × D × Env)
def PoE (K : Frag) (σ : L2.St) (H : Hp) (O : Addr → Prop) (U : List Addr) (k : Nat) (d : D) (env' : Env) (Q : VK) : Prop :=
  ∀ v H' O' U' F, Sl K H' O' σ env' U' → Od H' O' → Rep K H' O' k v d F → Disj F U' → Ext H O U H' O' (U' ++ F) → Q v H'
def rdE (K : Frag) (m : EM) : TE := fun σ H Q => ∃ O env U k d env', Sl K H O σ env U ∧ Od H O ∧ m env = some (k, d, env') ∧ PoE K σ H O U k d env' Q
structure GE (X : Cx) (e : Expr) (m : EM) : Prop where
  pe : PE X e (rdE X.K m)
section
variable {X : Cx}
def toE (m : PM) : EM := fun e => (m e).map fun d => (0, d, e)
theorem GP.e {e : Expr} {m : PM} (h : GP X e m) : GE X e (toE m) := ⟨h.pe.weaken fun σ H Q hq => by
  obtain ⟨O, env, U, k, d, env', s, od, e, q⟩ := hq
  obtain ⟨d', e1, e2⟩ := Option.map_eq_some_iff.mp e
  cases e2
  exact ⟨O, env, U, _, s, od, e1, fun v H' s' r => q v H' O U [] (s.same s') (od.same s') r Disj.nil (.of_same s' fun a ha => by simpa using ha)⟩⟩
/-- a name whose value is handed on for good -/
def takeE (i : Nat) : EM := fun e => (vX i e).map fun x => (x.1, x.2, e.set i none)
theorem vX_some {i : Nat} {e : Env} {x : Nat × D} (h : vX i e = some x) : e[i]? = some (some x) := by
  unfold vX at h
  cases q : e[i]? with
  | none => rw [q] at h; cases h
  | some y => rw [q] at h; exact congrArg some h
theorem ge_take (i : Nat) {x : Str} {pos : Pos} (hN : X.N[i]? = some x := by rfl) (hv : Vis X.env.scope x := by first | exact Or.inl rfl | exact Or.inr (Or.inl rfl) | exact Or.inr (Or.inr rfl)) (hd : (x == ("__debug__" : Str)) = false := by decide)
    (hcd : (x == ("__classdict__" : Str)) = false := by decide) : GE X (.Name x pos) (takeE i) := ⟨(pe_var hN hv hd hcd).weaken fun σ H Q hq => by
  obtain ⟨O, env, U, k, d, env', s, od, e, q⟩ := hq
  obtain ⟨⟨k', d'⟩, e1, e2⟩ := Option.map_eq_some_iff.mp e
  cases e2
  obtain ⟨v, F, U', a, b, c, dj, m⟩ := s.take (vX_some e1)
  exact ⟨v, a, q v H O U' F c od b dj (.refl fun x hx => (m x).mpr ((List.mem_append.mp hx).elim .inr .inl))⟩⟩
/-- a name whose value is shared from now on -/
def frzE (i : Nat) : EM := fun e => (vX i e).map fun x => (0, x.2, e.set i (some (0, x.2)))
theorem Sl.frz {K : Frag} {H : Hp} {O : Addr → Prop} {σ : L2.St} {e : Env} {U : List Addr} (s : Sl K H O σ e U) (od : Od H O) {i k : Nat} {d : D} (h : e[i]? = some (some (k, d))) :
    ∃ v F U', σ[i]? = some (some v) ∧ Rep K H (less O F) 0 v d [] ∧ Sl K H (less O F) σ (e.set i (some (0, d))) U' ∧ Ext H O U H (less O F) U' := by
  obtain ⟨v, F, U', a, b, c, dj, m⟩ := s.take h
  have c2 : Sl K H (less O F) σ (e.set i none) U' := c.coldOut b.mt dj.symm
  have hi : i < e.length := (List.getElem?_eq_some_iff.mp h).1
  obtain ⟨U2, p, q⟩ := c2.put (i := i) (k := 0) (d := d) (v := v) (F := []) (by simp [hi]) a b.cold Disj.nil
  refine ⟨v, F, U2, a, b.cold, by simpa using p, .less (fun x hx => (m x).mpr (.inl hx)) fun x hx => (m x).mpr (.inr ?_)⟩
  rcases (q x).mp hx with z | z
  · cases z
  · exact z
theorem ge_frz (i : Nat) {x : Str} {pos : Pos} (hN : X.N[i]? = some x := by rfl) (hv : Vis X.env.scope x := by first | exact Or.inl rfl | exact Or.inr (Or.inl rfl) | exact Or.inr (Or.inr rfl)) (hd : (x == ("__debug__" : Str)) = false := by decide)
    (hcd : (x == ("__classdict__" : Str)) = false := by decide) : GE X (.Name x pos) (frzE i) := ⟨(pe_var hN hv hd hcd).weaken fun σ H Q hq => by
  obtain ⟨O, env, U, k, d, env', s, od, e, q⟩ := hq
  obtain ⟨⟨k', d'⟩, e1, e2⟩ := Option.map_eq_some_iff.mp e
  cases e2
  obtain ⟨v, F, U', a, r, c, ex⟩ := s.frz od (vX_some e1)
  exact ⟨v, a, q v H _ U' [] c od.less r Disj.nil (by simpa using ex)⟩⟩

/-! ### operators -/
def bE (f : D → D → Option D) (ma mb : EM) : EM := fun e => (ma e).bind fun x => (mb x.2.2).bind fun y => (f x.2.1 y.2.1).map fun d => (0, d, y.2.2)
theorem rd_binE {K : Frag} {r : R2} {f : D → D → Option D} {ma mb : EM} (hs : OpS K r f) (hf : ScR f) (σ : L2.St) (H : Hp) (Q : VK) (h : rdE K (bE f ma mb) σ H Q) : tOp r (rdE K ma) (rdE K mb) σ H Q := by
  obtain ⟨O, env, U, k, d, env', s, od, e, q⟩ := h
  unfold bE at e
  obtain ⟨⟨k1, x, e1⟩, ea, e⟩ := Option.bind_eq_some_iff.mp e
  obtain ⟨⟨k2, y, e2⟩, eb, e⟩ := Option.bind_eq_some_iff.mp e
  obtain ⟨d', ef, e3⟩ := Option.map_eq_some_iff.mp e
  cases e3
  refine ⟨O, env, U, k1, x, e1, s, od, ea, fun v H1 O1 U1 F1 s1 od1 r1 dj1 x1 => ⟨O1, e1, U1, k2, y, e2, s1, od1, eb, fun u H2 O2 U2 F2 s2 od2 r2 dj2 x2 => ?_⟩⟩
  refine hs H2 O0 v u x y _ Q od0 (x2.rep s1.mt r1 dj1).o0 r2.o0 ef fun v' H' s3 r3 => ?_
  have t : Ext H O U H2 O2 (U2 ++ F2) := x1.seq x2 od fun a ha => .inl ha
  exact q v' H' O2 U2 [] (s2.same s3) (od2.same s3) (r3.scalO (hf _ _ _ ef)) Disj.nil (t.trans (.of_same s3 fun a ha => by simp at ha; exact List.mem_append_left _ ha) od)
theorem ge_bin {op : Operator} {f : D → D → Option D} {a b : Expr} {ma mb : EM} {pos : Pos} (ho : OpG X (binaryOp op) f) (hf : ScR f) (ha : GE X a ma) (hb : GE X b mb) : GE X (.BinOp a op b pos) (bE f ma mb) := by
  obtain ⟨r, h1, h2⟩ := ho.ex
  exact ⟨(pe_op h1 ha.pe hb.pe).weaken fun σ H Q h => rd_binE h2 hf σ H Q h⟩
theorem ge_cmp {op : CmpOp} {f : D → D → Option D} {a b : Expr} {ma mb : EM} {pos : Pos} (ho : OpG X (compareOp op) f) (hf : ScR f) (ha : GE X a ma) (hb : GE X b mb) (hm : behindInMarks op b = false) : GE X (.Compare a [op] [b] pos) (bE f ma mb) := by
  obtain ⟨r, h1, h2⟩ := ho.ex
  exact ⟨(pe_cmpR h1 ha.pe hb.pe hm).weaken fun σ H Q h => rd_binE h2 hf σ H Q h⟩
/-- the same for what may be no scalar: shared operands -/
def keepE (m : EM) : EM := fun e => (m e).bind fun x => (keepK (x.1, x.2.1)).map fun d => (0, d, x.2.2)
def bE0 (f : D → D → Option D) (ma mb : EM) : EM := fun e => (ma e).bind fun x => (keepK (x.1, x.2.1)).bind fun dx => (mb x.2.2).bind fun y => (keepK (y.1, y.2.1)).bind fun dy => (f dx dy).map fun d => (0, d, y.2.2)
theorem keepK_rep {K : Frag} {H : Hp} {O : Addr → Prop} {k v d F d'} (r : Rep K H O k v d F) (h : keepK (k, d) = some d') : d' = d ∧ Rep K H O 0 v d [] := by
  unfold keepK at h
  split at h
  · rename_i hk
    cases h
    refine ⟨rfl, ?_⟩
    rcases hk with hk | hk
    · have hk : k = 0 := hk
      subst hk
      have := r.zero; subst this; exact r
    · exact r.scal hk
  · cases h
theorem rd_binE0 {K : Frag} {r : R2} {f : D → D → Option D} {ma mb : EM} (hs : OpS K r f) (σ : L2.St) (H : Hp) (Q : VK) (h : rdE K (bE0 f ma mb) σ H Q) : tOp r (rdE K ma) (rdE K mb) σ H Q := by
  obtain ⟨O, env, U, k, d, env', s, od, e, q⟩ := h
  unfold bE0 at e
  obtain ⟨⟨k1, x, e1⟩, ea, e⟩ := Option.bind_eq_some_iff.mp e
  obtain ⟨dx, ex, e⟩ := Option.bind_eq_some_iff.mp e
  obtain ⟨⟨k2, y, e2⟩, eb, e⟩ := Option.bind_eq_some_iff.mp e
  obtain ⟨dy, ey, e⟩ := Option.bind_eq_some_iff.mp e
  obtain ⟨d', ef, e3⟩ := Option.map_eq_some_iff.mp e
  cases e3
  refine ⟨O, env, U, k1, x, e1, s, od, ea, fun v H1 O1 U1 F1 s1 od1 r1 dj1 x1 => ⟨O1, e1, U1, k2, y, e2, s1, od1, eb, fun u H2 O2 U2 F2 s2 od2 r2 dj2 x2 => ?_⟩⟩
  obtain ⟨rfl, r1⟩ := keepK_rep r1 ex
  obtain ⟨rfl, r2⟩ := keepK_rep r2 ey
  refine hs H2 O2 v u _ _ _ Q od2 (x2.rep s1.mt r1 Disj.nil) r2 ef fun v' H' s3 r3 => ?_
  have t : Ext H O U H2 O2 (U2 ++ F2) := x1.seq x2 od fun a ha => .inl ha
  exact q v' H' O2 U2 [] (s2.same s3) (od2.same s3) r3 Disj.nil (t.trans (.of_same s3 fun a ha => by simp at ha; exact List.mem_append_left _ ha) od)
theorem ge_bin0 {op : Operator} {f : D → D → Option D} {a b : Expr} {ma mb : EM} {pos : Pos} (ho : OpG X (binaryOp op) f) (ha : GE X a ma) (hb : GE X b mb) : GE X (.BinOp a op b pos) (bE0 f ma mb) := by
  obtain ⟨r, h1, h2⟩ := ho.ex
  exact ⟨(pe_op h1 ha.pe hb.pe).weaken fun σ H Q h => rd_binE0 h2 σ H Q h⟩

/-! ### tests -/
abbrev TEM := Env → Option (Bool × Env)
def PoT (K : Frag) (σ : L2.St) (H : Hp) (O : Addr → Prop) (U : List Addr) (b : Bool) (env' : Env) (Q : Bool → Hp → Prop) : Prop :=
  ∀ H' O' U', Sl K H' O' σ env' U' → Od H' O' → Ext H O U H' O' U' → Q b H'
def rdTE (K : Frag) (m : TEM) : TT := fun σ H Q => ∃ O env U b env', Sl K H O σ env U ∧ Od H O ∧ m env = some (b, env') ∧ PoT K σ H O U b env' Q
structure GTE (X : Cx) (e : Expr) (m : TEM) : Prop where
  pt : PT X e (rdTE X.K m)
structure GWE (X : Cx) (e : Expr) (m : TEM) : Prop where
  pw : PW X e (rdTE X.K m)
theorem GWE.t {e : Expr} {m : TEM} (h : GWE X e m) : GTE X e m := ⟨h.pw.pt⟩
def toT (m : TM) : TEM := fun e => (m e).map fun b => (b, e)
theorem GT.e {e : Expr} {m : TM} (h : GT X e m) : GTE X e (toT m) := ⟨h.pt.weaken fun σ H Q hq => by
  obtain ⟨O, env, U, b, env', s, od, e, q⟩ := hq
  obtain ⟨d', e1, e2⟩ := Option.map_eq_some_iff.mp e
  cases e2
  exact ⟨O, env, U, _, s, od, e1, fun H' s' => q H' O U (s.same s') (od.same s') (.of_same s' fun a ha => ha)⟩⟩
def bTE (m : EM) : TEM := fun e => (m e).bind fun x => (asB x.2.1).map fun b => (b, x.2.2)
theorem rd_testE {K : Frag} {m : EM} (σ : L2.St) (H : Hp) (Q : Bool → Hp → Prop) (h : rdTE K (bTE m) σ H Q) : rdE K m σ H fun x H' => ∃ k, x = .bl k ∧ Q k H' := by
  obtain ⟨O, env, U, b, env', s, od, e, q⟩ := h
  unfold bTE at e
  obtain ⟨⟨k1, x, e1⟩, ea, e⟩ := Option.bind_eq_some_iff.mp e
  obtain ⟨b', eb, e3⟩ := Option.map_eq_some_iff.mp e
  cases e3
  have := asB_some eb
  have hx : x = .bl b := this
  subst hx
  refine ⟨O, env, U, _, _, _, s, od, ea, fun v H' O' U' F s' od' r dj x' => ?_⟩
  cases r
  exact ⟨b, rfl, q H' O' U' s' od' (by simpa using x')⟩
theorem gte_cmp {op : CmpOp} {f : D → D → Option D} {a b : Expr} {ma mb : EM} {pos : Pos} (ho : OpG X (compareOp op) f) (hf : ScR f) (ha : GE X a ma) (hb : GE X b mb) (hm : behindInMarks op b = false) : GTE X (.Compare a [op] [b] pos) (bTE (bE f ma mb)) := by
  obtain ⟨r, h1, h2⟩ := ho.ex
  refine ⟨(pt_cmpR h1 ha.pe hb.pe hm).weaken fun σ H Q h => ?_⟩
  exact rd_binE h2 hf σ H _ (rd_testE σ H Q h)
theorem gte_val {e : Expr} {m : EM} (h : GE X e m) (he : ∀ whole, isTrue e X.env whole = (do let v ← whole; standAt e.pos; holding [v] (truthy v)) := by intro _; rfl) : GTE X e (bTE m) :=
  ⟨(pt_val h.pe he).weaken fun σ H Q h => rd_testE σ H Q h⟩
def notTE (m : TEM) : TEM := fun e => (m e).map fun x => (!x.1, x.2)
theorem gte_not {a : Expr} {m : TEM} {pos : Pos} (h : GTE X a m) : GTE X (.UnaryOp .Not a pos) (notTE m) := ⟨(pt_not h.pt).weaken fun σ H Q hq => by
  obtain ⟨O, env, U, b, env', s, od, e, q⟩ := hq
  obtain ⟨⟨c, e1⟩, e2, e3⟩ := Option.map_eq_some_iff.mp e
  cases e3
  exact ⟨O, env, U, c, _, s, od, e2, fun H' O' U' s' od' x' => q H' O' U' s' od' x'⟩⟩
def andTE (m n : TEM) : TEM := fun e => (m e).bind fun x => if x.1 = true then n x.2 else some (false, x.2)
def orTE (m n : TEM) : TEM := fun e => (m e).bind fun x => if x.1 = true then some (true, x.2) else n x.2
theorem gwe_and1 {a : Expr} {m : TEM} {pos : Pos} (h : GTE X a m) : GWE X (.BoolOp .And [a] pos) m := ⟨pw_and1 h.pt⟩
theorem gwe_or1 {a : Expr} {m : TEM} {pos : Pos} (h : GTE X a m) : GWE X (.BoolOp .Or [a] pos) m := ⟨pw_or1 h.pt⟩
theorem gwe_and {a b : Expr} {rest : List Expr} {m n : TEM} {pos : Pos} (h : GTE X a m) (g : GWE X (.BoolOp .And (b :: rest) pos) n) : GWE X (.BoolOp .And (a :: b :: rest) pos) (andTE m n) := ⟨(pw_and h.pt g.pw).weaken fun σ H Q hq => by
  obtain ⟨O, env, U, b, env', s, od, e, q⟩ := hq
  unfold andTE at e
  obtain ⟨⟨c, e1⟩, ea, e⟩ := Option.bind_eq_some_iff.mp e
  refine ⟨O, env, U, c, e1, s, od, ea, fun H1 O1 U1 s1 od1 x1 => ?_⟩
  cases c with
  | true => exact iteT ⟨O1, e1, U1, b, env', s1, od1, e, fun H' O' U' s' od' x' => q H' O' U' s' od' (x1.trans x' od)⟩
  | false => cases e; exact iteF (q H1 O1 U1 s1 od1 x1)⟩
theorem gwe_or {a b : Expr} {rest : List Expr} {m n : TEM} {pos : Pos} (h : GTE X a m) (g : GWE X (.BoolOp .Or (b :: rest) pos) n) : GWE X (.BoolOp .Or (a :: b :: rest) pos) (orTE m n) := ⟨(pw_or h.pt g.pw).weaken fun σ H Q hq => by
  obtain ⟨O, env, U, b, env', s, od, e, q⟩ := hq
  unfold orTE at e
  obtain ⟨⟨c, e1⟩, ea, e⟩ := Option.bind_eq_some_iff.mp e
  refine ⟨O, env, U, c, e1, s, od, ea, fun H1 O1 U1 s1 od1 x1 => ?_⟩
  cases c with
  | false => exact iteF ⟨O1, e1, U1, b, env', s1, od1, e, fun H' O' U' s' od' x' => q H' O' U' s' od' (x1.trans x' od)⟩
  | true => cases e; exact iteT (q H1 O1 U1 s1 od1 x1)⟩
def andE (m n : EM) : EM := fun e => (m e).bind fun x => (asB x.2.1).bind fun b => if b = true then n x.2.2 else some (0, .bl false, x.2.2)
def orE (m n : EM) : EM := fun e => (m e).bind fun x => (asB x.2.1).bind fun b => if b = true then some (0, .bl true, x.2.2) else n x.2.2
theorem ge_one {op} {a : Expr} {m : EM} {pos : Pos} (h : GE X a m) : GE X (.BoolOp op [a] pos) m := ⟨pe_one h.pe⟩
theorem ge_and {a b : Expr} {rest : List Expr} {m n : EM} {pos : Pos} (h : GE X a m) (g : GE X (.BoolOp .And (b :: rest) pos) n) : GE X (.BoolOp .And (a :: b :: rest) pos) (andE m n) := ⟨(pe_and h.pe g.pe).weaken fun σ H Q hq => by
  obtain ⟨O, env, U, k, d, env', s, od, e, q⟩ := hq
  unfold andE at e
  obtain ⟨⟨k1, x, e1⟩, ea, e⟩ := Option.bind_eq_some_iff.mp e
  obtain ⟨c, eb, e⟩ := Option.bind_eq_some_iff.mp e
  have hx : x = .bl c := asB_some eb
  subst hx
  refine ⟨O, env, U, _, _, e1, s, od, ea, fun v H1 O1 U1 F1 s1 od1 r1 dj1 x1 => ?_⟩
  cases r1
  refine ⟨c, rfl, ?_⟩
  cases c with
  | true => exact iteT ⟨O1, e1, U1, k, d, env', s1, od1, e, fun v H' O' U' F s' od' r' dj' x' => q v H' O' U' F s' od' r' dj' ((show Ext H O U H1 O1 U1 by simpa using x1).trans x' od)⟩
  | false => cases e; exact iteF (q _ H1 O1 U1 [] s1 od1 .bl Disj.nil x1)⟩
theorem ge_or {a b : Expr} {rest : List Expr} {m n : EM} {pos : Pos} (h : GE X a m) (g : GE X (.BoolOp .Or (b :: rest) pos) n) : GE X (.BoolOp .Or (a :: b :: rest) pos) (orE m n) := ⟨(pe_or h.pe g.pe).weaken fun σ H Q hq => by
  obtain ⟨O, env, U, k, d, env', s, od, e, q⟩ := hq
  unfold orE at e
  obtain ⟨⟨k1, x, e1⟩, ea, e⟩ := Option.bind_eq_some_iff.mp e
  obtain ⟨c, eb, e⟩ := Option.bind_eq_some_iff.mp e
  have hx : x = .bl c := asB_some eb
  subst hx
  refine ⟨O, env, U, _, _, e1, s, od, ea, fun v H1 O1 U1 F1 s1 od1 r1 dj1 x1 => ?_⟩
  cases r1
  refine ⟨c, rfl, ?_⟩
  cases c with
  | false => exact iteF ⟨O1, e1, U1, k, d, env', s1, od1, e, fun v H' O' U' F s' od' r' dj' x' => q v H' O' U' F s' od' r' dj' ((show Ext H O U H1 O1 U1 by simpa using x1).trans x' od)⟩
  | true => cases e; exact iteT (q _ H1 O1 U1 [] s1 od1 .bl Disj.nil x1)⟩
def ifE (c : TEM) (m n : EM) : EM := fun e => (c e).bind fun b => if b.1 = true then m b.2 else n b.2
theorem ge_if {c a b : Expr} {mc : TEM} {m n : EM} {pos : Pos} (hc : GTE X c mc) (ha : GE X a m) (hb : GE X b n) : GE X (.IfExp c a b pos) (ifE mc m n) := ⟨(pe_ifExp hc.pt ha.pe hb.pe).weaken fun σ H Q hq => by
  obtain ⟨O, env, U, k, d, env', s, od, e, q⟩ := hq
  unfold ifE at e
  obtain ⟨⟨c, e1⟩, ea, e⟩ := Option.bind_eq_some_iff.mp e
  refine ⟨O, env, U, c, e1, s, od, ea, fun H1 O1 U1 s1 od1 x1 => ?_⟩
  cases c with
  | true => exact iteT ⟨O1, e1, U1, k, d, env', s1, od1, e, fun v H' O' U' F s' od' r' dj' x' => q v H' O' U' F s' od' r' dj' (x1.trans x' od)⟩
  | false => exact iteF ⟨O1, e1, U1, k, d, env', s1, od1, e, fun v H' O' U' F s' od' r' dj' x' => q v H' O' U' F s' od' r' dj' (x1.trans x' od)⟩⟩
def negE (m : EM) : EM := fun e => (m e).bind fun x => (negD x.2.1).map fun d => (0, d, x.2.2)
theorem ge_neg {a : Expr} {m : EM} {pos : Pos} (h : GE X a m) : GE X (.UnaryOp .USub a pos) (negE m) := ⟨(pe_un un_neg h.pe).weaken fun σ H Q hq => by
  obtain ⟨O, env, U, k, d, env', s, od, e, q⟩ := hq
  unfold negE at e
  obtain ⟨⟨k1, x, e1⟩, ea, e⟩ := Option.bind_eq_some_iff.mp e
  obtain ⟨d', eb, e3⟩ := Option.map_eq_some_iff.mp e
  cases e3
  cases x <;> simp only [negD, reduceCtorEq] at eb
  cases eb
  refine ⟨O, env, U, _, _, e1, s, od, ea, fun v H1 O1 U1 F1 s1 od1 r1 dj1 x1 => ?_⟩
  cases r1
  exact ⟨_, rfl, q _ H1 O1 U1 [] s1 od1 .int Disj.nil x1⟩⟩
/-- x[i], both reckoned; x is a name that is read behind i -/
def ixE (ma mb : EM) : EM := fun e => (ma e).bind fun x => (mb x.2.2).bind fun y => (idxK (x.1, x.2.1) y.2.1).map fun z => (z.1, z.2, y.2.2)
def ixV (i : Nat) (mb : EM) : EM := fun e => (vX i e).bind fun _ => (mb e).bind fun y => (vX i y.2.2).bind fun x => (idxK x y.2.1).bind fun z => (keepK z).map fun d => (0, d, y.2.2)
theorem idx_go {K : Frag} {H : Hp} {O : Addr → Prop} {k kx x y kd d v u F G} (r1 : Rep K H O kx v x F) (r2 : Rep K H O k u y G) (e : idxK (kx, x) y = some (kd, d)) {Q : VK} (q : ∀ w W, Rep K H O kd w d W → (∀ a ∈ W, a ∈ F) → Q w H) : rIx K v u H Q := by
  cases y with
  | int i =>
    cases r2
    cases x with
    | lst xs =>
      obtain ⟨d', e3, e4⟩ := Option.map_eq_some_iff.mp (show (atI xs i).map (fun d => (kx - 1, d)) = some (kd, d) from e)
      cases e4
      cases r1 with
      | frz hs rs =>
        unfold atI at e3
        obtain ⟨j, e5, e6⟩ := Option.bind_eq_some_iff.mp e3
        obtain ⟨w, W, e7, r', m⟩ := rs.at e6
        exact .inl ⟨_, _, _, w, rfl, rfl, hs.sq, by unfold atI; rw [rs.length, e5]; exact e7, q w W r' m⟩
      | own hs _ _ rs =>
        unfold atI at e3
        obtain ⟨j, e5, e6⟩ := Option.bind_eq_some_iff.mp e3
        obtain ⟨w, W, e7, r', m⟩ := rs.at e6
        exact .inl ⟨_, _, _, w, rfl, rfl, .inl (.inl hs), by unfold atI; rw [rs.length, e5]; exact e7, q w W r' fun a ha => List.mem_cons_of_mem _ (m a ha)⟩
    | tup xs =>
      obtain ⟨d', e3, e4⟩ := Option.map_eq_some_iff.mp (show (atI xs i).map (fun d => (kx, d)) = some (kd, d) from e)
      cases e4
      cases r1 with
      | tup hs rs =>
        unfold atI at e3
        obtain ⟨j, e5, e6⟩ := Option.bind_eq_some_iff.mp e3
        obtain ⟨w, W, e7, r', m⟩ := rs.at e6
        exact .inr (.inl ⟨_, _, _, w, rfl, rfl, hs, by unfold atI; rw [rs.length, e5]; exact e7, q w W r' m⟩)
    | str z =>
      cases r1
      have e : (if z.length ≤ sizeLine then (atI z.cps.toList i).map fun c => ((0, .str ⟨#[c]⟩) : Nat × D) else none) = some (kd, d) := e
      split at e
      · rename_i hz
        obtain ⟨c, e1, e4⟩ := Option.map_eq_some_iff.mp e
        cases e4
        exact .inr (.inr ⟨z, _, c, rfl, rfl, hz, e1, q _ [] .str fun _ z => nomatch z⟩)
      · cases e
    | _ => simp [idxK] at e
  | _ => cases x <;> simp [idxK] at e
theorem ge_ix {a b : Expr} {ma mb : EM} {pos : Pos} (ha : GE X a ma) (hb : GE X b mb) (hs : PlainIx b := by exact fun _ _ => rfl) : GE X (.Subscript a b pos) (ixE ma mb) := ⟨(pe_ix ix_seq ha.pe hb.pe hs).weaken fun σ H Q hq => by
  obtain ⟨O, env, U, k, d, env', s, od, e, q⟩ := hq
  unfold ixE at e
  obtain ⟨⟨k1, x, e1⟩, ea, e⟩ := Option.bind_eq_some_iff.mp e
  obtain ⟨⟨k2, y, e2⟩, eb, e⟩ := Option.bind_eq_some_iff.mp e
  obtain ⟨⟨kd, d'⟩, ef, e3⟩ := Option.map_eq_some_iff.mp e
  cases e3
  refine ⟨O, env, U, k1, x, e1, s, od, ea, fun v H1 O1 U1 F1 s1 od1 r1 dj1 x1 => ⟨O1, e1, U1, k2, y, e2, s1, od1, eb, fun u H2 O2 U2 F2 s2 od2 r2 dj2 x2 => ?_⟩⟩
  refine idx_go (x2.rep s1.mt r1 dj1) r2 ef fun w W rw hW => ?_
  have dW : Disj W (U2 ++ F2) := fun a ha => x2.aside r1.mt dj1 a (hW a ha)
  exact q w H2 O2 U2 W s2 od2 rw (fun a ha z => dW a ha (List.mem_append_left _ z)) (x1.seq x2 od fun a ha => (List.mem_append.mp ha).imp (fun z => List.mem_append_left _ z) fun z => hW a z)⟩
theorem ge_ixN (i : Nat) {x : Str} {b : Expr} {mb : EM} {p pos : Pos} (hb : GE X b mb) (hs : PlainIx b := by exact fun _ _ => rfl) (hN : X.N[i]? = some x := by rfl) (hv : Vis X.env.scope x := by first | exact Or.inl rfl | exact Or.inr (Or.inl rfl) | exact Or.inr (Or.inr rfl)) (hd : (x == ("__debug__" : Str)) = false := by decide)
    (hcd : (x == ("__classdict__" : Str)) = false := by decide) : GE X (.Subscript (.Name x p) b pos) (ixV i mb) := ⟨(pe_ix ix_seq (pe_var hN hv hd hcd) hb.pe hs).weaken fun σ H Q hq => by
  obtain ⟨O, env, U, k, d, env', s, od, e, q⟩ := hq
  unfold ixV at e
  obtain ⟨x0, e0, e⟩ := Option.bind_eq_some_iff.mp e
  obtain ⟨⟨k2, y, e2⟩, eb, e⟩ := Option.bind_eq_some_iff.mp e
  obtain ⟨⟨kx, x⟩, ev, e⟩ := Option.bind_eq_some_iff.mp e
  obtain ⟨⟨kd, d'⟩, ef, e⟩ := Option.bind_eq_some_iff.mp e
  obtain ⟨d2, ek, e3⟩ := Option.map_eq_some_iff.mp e
  cases e3
  obtain ⟨v, _, hv, _⟩ := s.get (vX_some e0)
  refine ⟨v, hv, O, env, U, k2, y, e2, s, od, eb, fun u H2 O2 U2 F2 s2 od2 r2 dj2 x2 => ?_⟩
  obtain ⟨v', F, hv', rv, _⟩ := s2.get (vX_some ev)
  rw [hv] at hv'; cases hv'
  refine idx_go rv r2 ef fun w W rw hW => ?_
  obtain ⟨rfl, r0⟩ := keepK_rep rw ek
  exact q w H2 O2 U2 [] s2 od2 r0 Disj.nil (x2.weak fun a ha => by simp at ha; exact List.mem_append_left _ ha)⟩
end
end Wr

/-! Arguments, displays, calls: with effects. -/
namespace Wr
open PySem PySem.Spec PyProof.Rows L2

/-- an argument: a slot that is lent, or a value -/
inductive Ar where
  | bor (j : Nat) | val (k : Nat) (d : D)
inductive ArOk (K : Frag) (H : Hp) (O : Addr → Prop) (σ : L2.St) : List Ar → List V → List Addr → Prop
  | nil : ArOk K H O σ [] [] []
  | bor {j v as vs F} : σ[j]? = some (some v) → ArOk K H O σ as vs F → ArOk K H O σ (.bor j :: as) (v :: vs) F
  | val {k d v as vs F G} : Rep K H O k v d F → ArOk K H O σ as vs G → Disj F G → ArOk K H O σ (.val k d :: as) (v :: vs) (F ++ G)
section
variable {K : Frag} {H H' : Hp} {O O' : Addr → Prop} {σ : L2.St}
theorem ArOk.mt {as vs F} (r : ArOk K H O σ as vs F) : Mt H O F := by
  induction r with
  | nil => exact .nil
  | bor _ _ ih => exact ih
  | val r _ _ ih => exact r.mt.app ih
theorem ArOk.stay {as vs F U} (r : ArOk K H O σ as vs F) (q : Kp K H H' O O' U) (n : Disj F U) : ArOk K H' O' σ as vs F := by
  induction r with
  | nil => exact .nil
  | bor h _ ih => exact .bor h (ih n)
  | val r _ dj ih => exact .val (r.stay q n.left) (ih n.right) dj
theorem ArOk.length {as vs F} (r : ArOk K H O σ as vs F) : vs.length = as.length := by
  induction r with
  | nil => rfl
  | bor _ _ ih => simp [ih]
  | val _ _ _ ih => simp [ih]
end
abbrev AEM := Env → Option (List Ar × Env)
def rdAE (K : Frag) (m : AEM) : TA := fun σ H Q => ∃ O env U as env', Sl K H O σ env U ∧ Od H O ∧ m env = some (as, env') ∧
  ∀ vs H' O' U' F, Sl K H' O' σ env' U' → Od H' O' → ArOk K H' O' σ as vs F → Disj F U' → Ext H O U H' O' (U' ++ F) → Q vs H'
structure GAE (X : Cx) (es : List Expr) (m : AEM) : Prop where
  pa : PA X es (rdAE X.K m)
  len : ∀ env as env', m env = some (as, env') → as.length = es.length
section
variable {X : Cx}
def nilE : AEM := fun e => some ([], e)
theorem gae_nil : GAE X [] nilE := ⟨pa_nil.weaken fun σ H Q ⟨O, env, U, as, env', s, od, e, q⟩ => by
  cases e; exact q [] H O U [] s od .nil Disj.nil (.refl fun a ha => by simpa using ha), fun _ _ _ e => by cases e; rfl⟩
def valE (m : EM) (n : AEM) : AEM := fun e => (m e).bind fun x => (n x.2.2).bind fun y => some (.val x.1 x.2.1 :: y.1, y.2)
theorem gae_val {e : Expr} {es : List Expr} {m : EM} {n : AEM} (h : GE X e m) (g : GAE X es n) (hs : starEach (e :: es) X.env = (false, eval e X.env) :: starEach es X.env := by rfl) : GAE X (e :: es) (valE m n) := by
  refine ⟨(pa_cons h.pe g.pa hs).weaken fun σ H Q hq => ?_, fun env as env' q => ?_⟩
  · obtain ⟨O, env, U, as, env', s, od, e, q⟩ := hq
    unfold valE at e
    obtain ⟨⟨k1, x, e1⟩, ea, e⟩ := Option.bind_eq_some_iff.mp e
    obtain ⟨⟨as', e2⟩, eb, e⟩ := Option.bind_eq_some_iff.mp e
    cases e
    refine ⟨O, env, U, k1, x, e1, s, od, ea, fun v H1 O1 U1 F1 s1 od1 r1 dj1 x1 => ⟨O1, e1, U1, as', e2, s1, od1, eb, fun vs H2 O2 U2 F2 s2 od2 r2 dj2 x2 => ?_⟩⟩
    have d12 := x2.aside r1.mt dj1
    exact q (v :: vs) H2 O2 U2 (F1 ++ F2) s2 od2 (.val (x2.rep s1.mt r1 dj1) r2 fun a ha z => d12 a ha (List.mem_append_right _ z))
      (Disj.app (fun a ha z => d12 a ha (List.mem_append_left _ z)) dj2) (x1.seq x2 od fun a ha => by
        rcases List.mem_append.mp ha with z | z
        · exact .inl (List.mem_append_left _ z)
        · exact (List.mem_append.mp z).elim .inr fun z => .inl (List.mem_append_right _ z))
  · unfold valE at q
    obtain ⟨x, e1, q⟩ := Option.bind_eq_some_iff.mp q
    obtain ⟨y, e2, q⟩ := Option.bind_eq_some_iff.mp q
    cases q
    rw [List.length_cons, List.length_cons, g.len _ _ _ e2]
def borE (j : Nat) (n : AEM) : AEM := fun e => (vX j e).bind fun _ => (n e).bind fun y => some (.bor j :: y.1, y.2)
theorem gae_bor (j : Nat) {x : Str} {p : Pos} {es : List Expr} {n : AEM} (g : GAE X es n) (hN : X.N[j]? = some x := by rfl) (hv : Vis X.env.scope x := by first | exact Or.inl rfl | exact Or.inr (Or.inl rfl) | exact Or.inr (Or.inr rfl)) (hd : (x == ("__debug__" : Str)) = false := by decide)
    (hcd : (x == ("__classdict__" : Str)) = false := by decide) (hs : starEach (.Name x p :: es) X.env = (false, eval (.Name x p) X.env) :: starEach es X.env := by rfl) : GAE X (.Name x p :: es) (borE j n) := by
  refine ⟨(pa_cons (pe_var hN hv hd hcd) g.pa hs).weaken fun σ H Q hq => ?_, fun env as env' q => ?_⟩
  · obtain ⟨O, env, U, as, env', s, od, e, q⟩ := hq
    unfold borE at e
    obtain ⟨x0, e0, e⟩ := Option.bind_eq_some_iff.mp e
    obtain ⟨⟨as', e2⟩, eb, e⟩ := Option.bind_eq_some_iff.mp e
    cases e
    obtain ⟨v, _, hv, _⟩ := s.get (vX_some e0)
    exact ⟨v, hv, O, env, U, as', e2, s, od, eb, fun vs H2 O2 U2 F2 s2 od2 r2 dj2 x2 => q (v :: vs) H2 O2 U2 F2 s2 od2 (.bor hv r2) dj2 x2⟩
  · unfold borE at q
    obtain ⟨x, e1, q⟩ := Option.bind_eq_some_iff.mp q
    obtain ⟨y, e2, q⟩ := Option.bind_eq_some_iff.mp q
    cases q
    rw [List.length_cons, List.length_cons, g.len _ _ _ e2]
/-- a value made cold: shared from now on -/
def coldE (m : EM) : EM := fun e => (m e).map fun x => (0, x.2.1, x.2.2)
theorem GE.cold {e : Expr} {m : EM} (h : GE X e m) : GE X e (coldE m) := ⟨h.pe.weaken fun σ H Q hq => by
  obtain ⟨O, env, U, k, d, env', s, od, e, q⟩ := hq
  obtain ⟨⟨k1, x, e1⟩, ea, e2⟩ := Option.map_eq_some_iff.mp e
  cases e2
  refine ⟨O, env, U, k1, _, _, s, od, ea, fun v H1 O1 U1 F1 s1 od1 r1 dj1 x1 => ?_⟩
  refine q v H1 (less O1 F1) U1 [] (s1.coldOut r1.mt dj1.symm) od1.less r1.cold Disj.nil ?_
  exact (x1.trans (U2 := U1 ++ []) (.less (fun a ha => List.mem_append_right _ ha) fun a ha => by simp at ha; exact List.mem_append_left _ ha) od)⟩
/-- all values, of a kind -/
def arK (k : Nat) : List Ar → Option (List D)
  | [] => some []
  | .val j d :: r => if j = k ∨ isScal d = true then (arK k r).map (d :: ·) else none
  | .bor _ :: _ => none
theorem arK_ok {K : Frag} {H : Hp} {O : Addr → Prop} {σ : L2.St} {k : Nat} {as vs F} (r : ArOk K H O σ as vs F) : ∀ {ds}, arK k as = some ds → ∃ G, Reps K H O k vs ds G ∧ ∀ a ∈ G, a ∈ F := by
  induction r with
  | nil => intro ds e; cases e; exact ⟨[], .nil, fun _ h => h⟩
  | bor _ _ _ => intro ds e; cases e
  | @val j d v as vs F G r _ dj ih =>
    intro ds e
    unfold arK at e
    split at e
    · rename_i hk
      obtain ⟨ds', e1, rfl⟩ := Option.map_eq_some_iff.mp e
      obtain ⟨W, rs, hW⟩ := ih e1
      rcases hk with hk | hk
      · subst hk
        exact ⟨F ++ W, .cons r rs fun a ha z => dj a ha (hW a z), fun a ha => (List.mem_append.mp ha).elim (List.mem_append_left _) fun z => List.mem_append_right _ (hW a z)⟩
      · exact ⟨[] ++ W, Reps.cons (r.scalO hk) rs (fun _ z => by cases z), fun a ha => List.mem_append_right _ (hW a (by simpa using ha))⟩
    · cases e
theorem arK_len {k : Nat} : ∀ {as : List Ar} {ds : List D}, arK k as = some ds → ds.length = as.length
  | [], _, e => by cases e; rfl
  | .val j d :: r, ds, e => by
    unfold arK at e
    split at e
    · obtain ⟨ds', e1, rfl⟩ := Option.map_eq_some_iff.mp e
      rw [List.length_cons, List.length_cons, arK_len e1]
    · cases e
  | .bor _ :: _, _, e => by cases e
def plus (O : Addr → Prop) (p : Addr) : Addr → Prop := fun a => O a ∨ a = p
theorem freshO {K : Frag} {H : Hp} {O : Addr → Prop} {k vs ds F p} (od : Od H O) (r : Reps K H O k vs ds F) (hp : H p = none) :
    Rep K (upd H p (.lst vs)) (plus O p) (k + 1) (.ref p) (.lst ds) (p :: F) ∧ Od (upd H p (.lst vs)) (plus O p) ∧ (∀ {σ env U}, Sl K H O σ env U → Sl K (upd H p (.lst vs)) (plus O p) σ env U) ∧ (∀ U', Ext H O U' (upd H p (.lst vs)) (plus O p) (p :: U')) := by
  have kp : Kp K H (upd H p (.lst vs)) O (plus O p) [] := by
    refine ⟨fun a o e _ => ?_, fun a ⟨o, e⟩ z => ?_, fun a h _ => Or.inl h, Mt.nil⟩
    · rw [upd_ne (ne_of_none e hp)]; exact e
    · rcases z with z | z
      · exact z
      · subst z; rw [hp] at e; cases e
  refine ⟨.own upd_same (.inr rfl) (fun z => ?_) (r.stay kp Disj.nilR), fun a h => ?_, fun s => s.stay kp Disj.nilR, fun U' => ?_⟩
  · obtain ⟨_, xs, e, _⟩ := r.mt p z
    rw [hp] at e; cases e
  · rcases h with h | h
    · obtain ⟨o, e, m⟩ := od a h
      exact ⟨o, by rw [upd_ne (ne_of_none e hp)]; exact e, m⟩
    · subst h; exact ⟨_, upd_same, trivial⟩
  · refine ⟨fun a o e _ => by rw [upd_ne (ne_of_none e hp)]; exact e, fun a ⟨o, e⟩ => ⟨o, by rw [upd_ne (ne_of_none e hp)]; exact e⟩, kp.own, fun a h _ => .inl h, fun a ha => ?_⟩
    rcases List.mem_cons.mp ha with z | z
    · subst z; exact .inr hp
    · exact .inl z
def lstE (k : Nat) (m : AEM) : EM := fun e => (m e).bind fun x => (arK k x.1).map fun ds => (k + 1, .lst ds, x.2)
def tupE (k : Nat) (m : AEM) : EM := fun e => (m e).bind fun x => (arK k x.1).map fun ds => (k, .tup ds, x.2)
theorem ge_lst (k : Nat) {es : List Expr} {m : AEM} {pos : Pos} (h : GAE X es m) (hz : es.length ≤ sizeLine := by exact Nat.le_of_ble_eq_true rfl) : GE X (.List es pos) (lstE k m) := ⟨(pe_lst h.pa).weaken fun σ H Q hq => by
  obtain ⟨O, env, U, kk, d, env', s, od, e, q⟩ := hq
  unfold lstE at e
  obtain ⟨⟨as, e1⟩, ea, e⟩ := Option.bind_eq_some_iff.mp e
  obtain ⟨ds, eb, e⟩ := Option.map_eq_some_iff.mp e
  cases e
  refine ⟨O, env, U, as, _, s, od, ea, fun vs H1 O1 U1 F1 s1 od1 r1 dj1 x1 => ⟨by rw [r1.length, h.len _ _ _ ea]; exact hz, fun p hp => ?_⟩⟩
  obtain ⟨G, rs, hG⟩ := arK_ok r1 eb
  obtain ⟨a1, a2, a3, a4⟩ := freshO od1 rs hp
  refine q _ _ _ U1 (p :: G) (a3 s1) a2 a1 (fun a ha z => ?_) ?_
  · rcases List.mem_cons.mp ha with y | y
    · subst y
      obtain ⟨_, xs, e, _⟩ := s1.mt a z
      rw [hp] at e; cases e
    · exact dj1 a (hG a y) z
  · refine (x1.trans (a4 _) od).weak fun a ha => ?_
    rcases List.mem_append.mp ha with z | z
    · exact List.mem_cons_of_mem _ (List.mem_append_left _ z)
    · rcases List.mem_cons.mp z with z | z
      · subst z; exact List.mem_cons_self
      · exact List.mem_cons_of_mem _ (List.mem_append_right _ (hG a z))⟩
theorem ge_tup (k : Nat) {es : List Expr} {m : AEM} {kk : Nat} {pos : Pos} (h : GAE X es m) (hz : es.length ≤ sizeLine := by exact Nat.le_of_ble_eq_true rfl) : GE X (.Tuple es kk pos) (tupE k m) := ⟨(pe_tup h.pa).weaken fun σ H Q hq => by
  obtain ⟨O, env, U, kk, d, env', s, od, e, q⟩ := hq
  unfold tupE at e
  obtain ⟨⟨as, e1⟩, ea, e⟩ := Option.bind_eq_some_iff.mp e
  obtain ⟨ds, eb, e⟩ := Option.map_eq_some_iff.mp e
  cases e
  refine ⟨O, env, U, as, _, s, od, ea, fun vs H1 O1 U1 F1 s1 od1 r1 dj1 x1 => ⟨by rw [r1.length, h.len _ _ _ ea]; exact hz, fun p hp => ?_⟩⟩
  obtain ⟨G, rs, hG⟩ := arK_ok r1 eb
  have sm : Same H1 (upd H1 p (.tup vs)) := same_new hp
  exact q _ _ O1 U1 G (s1.same sm) (od1.same sm) (freshT rs hp) (fun a ha z => dj1 a (hG a ha) z)
    (x1.trans (.of_same sm fun a ha => (List.mem_append.mp ha).elim (List.mem_append_left _) fun z => List.mem_append_right _ (hG a z)) od)⟩
/-- built-ins -/
def callE (g : List D → Option D) (m : AEM) : EM := fun e => (m e).bind fun x => (arK 0 x.1).bind fun ds => (g ds).map fun d => (0, d, x.2)
theorem rd_callE {K : Frag} {r : List V → Hp → VK → Prop} {g : List D → Option D} {m : AEM} (hs : CallS K r g) (σ : L2.St) (H : Hp) (Q : VK) (h : rdE K (callE g m) σ H Q) : tCB r (rdAE K m) σ H Q := by
  obtain ⟨O, env, U, k, d, env', s, od, e, q⟩ := h
  unfold callE at e
  obtain ⟨⟨as, e1⟩, ea, e⟩ := Option.bind_eq_some_iff.mp e
  obtain ⟨ds, eb, e⟩ := Option.bind_eq_some_iff.mp e
  obtain ⟨d', ec, e⟩ := Option.map_eq_some_iff.mp e
  cases e
  refine ⟨O, env, U, as, _, s, od, ea, fun vs H1 O1 U1 F1 s1 od1 r1 dj1 x1 => ?_⟩
  obtain ⟨G, rs, hG⟩ := arK_ok r1 eb
  have := rs.zero; subst this
  refine hs H1 O1 vs ds _ Q od1 rs ec fun v H' s' r' => ?_
  exact q v H' O1 U1 [] (s1.same s') (od1.same s') r' Disj.nil (x1.trans (.of_same s' fun a ha => by simp at ha; exact List.mem_append_left _ ha) od)
theorem ge_callB {id : String} {x : Str} {e : Expr} {es : List Expr} {g : List D → Option D} {m : AEM} {p pos : Pos} (hc : CallG X (.builtin id) g) (hg : Gl X x) (hm : X.mg x = none) (hv : bootBuiltins x = some (.builtin id)) (ha : GAE X (e :: es) m) (hn : x ≠ "__name__" := by decide) (hdb : (x == ("__debug__" : Str)) = false := by decide)
    (he : starEach (e :: es) X.env = (false, eval e X.env) :: starEach es X.env := by rfl) (hpl : (backTo pos (starEach es X.env)).any (·.1) = false := by rfl) : GE X (.Call (.Name x p) (e :: es) [] pos) (callE g m) := by
  obtain ⟨r, h1, h2⟩ := hc.ex
  exact ⟨(pe_callB h1 hg hm hv ha.pa hn hdb he hpl).weaken fun σ H Q h => rd_callE h2 σ H Q h⟩
theorem ge_callTy {T : String} {x : Str} {e : Expr} {es : List Expr} {g : List D → Option D} {m : AEM} {p pos : Pos} (hc : CallG X (.type T) g) (hg : Gl X x) (hm : X.mg x = none) (hv : bootBuiltins x = some (.type T)) (ha : GAE X (e :: es) m) (hn : x ≠ "__name__" := by decide) (hdb : (x == ("__debug__" : Str)) = false := by decide)
    (he : starEach (e :: es) X.env = (false, eval e X.env) :: starEach es X.env := by rfl) (hpl : (backTo pos (starEach es X.env)).any (·.1) = false := by rfl) : GE X (.Call (.Name x p) (e :: es) [] pos) (callE g m) := by
  obtain ⟨r, h1, h2⟩ := hc.ex
  exact ⟨(pe_callTy h1 hg hm hv ha.pa hn hdb he hpl).weaken fun σ H Q h => rd_callE h2 σ H Q h⟩
/-- a built-in that makes a list of its own: list(..) -/
def CallFS (K : Frag) (r : List V → Hp → VK → Prop) (g : List D → Option (List D)) : Prop := ∀ (H : Hp) (O : Addr → Prop) (vs : List V) (ds : List D) (d : List D) (Q : VK), Od H O → Reps K H O 0 vs ds [] → g ds = some d →
  (∀ p H' ws, Same H H' → H' p = none → Reps K H' O 0 ws d [] → Q (.ref p) (upd H' p (.lst ws))) → r vs H Q
structure CallF (X : Cx) (f : Value) (g : List D → Option (List D)) : Prop where
  ex : ∃ r, CallR X f r ∧ CallFS X.K r g
def callL (g : List D → Option (List D)) (m : AEM) : EM := fun e => (m e).bind fun x => (arK 0 x.1).bind fun ds => (g ds).map fun d => (1, .lst d, x.2)
theorem own_post {K : Frag} {σ : L2.St} {H H1 H' : Hp} {O O1 : Addr → Prop} {U U1 F1 : List Addr} {env' : Env} {d : List D} {Q : VK} {p ws} (od : Od H O) (s1 : Sl K H1 O1 σ env' U1) (od1 : Od H1 O1) (x1 : Ext H O U H1 O1 (U1 ++ F1)) (q : PoE K σ H O U 1 (.lst d) env' Q)
    (sm : Same H1 H') (hp : H' p = none) (rs : Reps K H' O1 0 ws d []) : Q (.ref p) (upd H' p (.lst ws)) := by
  obtain ⟨a1, a2, a3, a4⟩ := freshO (od1.same sm) rs hp
  refine q _ _ _ U1 [p] (a3 (s1.same sm)) a2 a1 (fun a ha z => ?_) ?_
  · have : a = p := by simpa using ha
    subst this
    obtain ⟨_, xs, e, _⟩ := (s1.same sm).mt a z
    rw [hp] at e; cases e
  · refine ((x1.trans (.of_same (U' := U1) sm fun a ha => List.mem_append_left _ ha) od).trans (a4 U1) od).weak fun a ha => ?_
    rcases List.mem_append.mp ha with z | z
    · exact List.mem_cons_of_mem _ z
    · have : a = p := by simpa using z
      subst this; exact List.mem_cons_self
theorem rd_callL {K : Frag} {r : List V → Hp → VK → Prop} {g : List D → Option (List D)} {m : AEM} (hs : CallFS K r g) (σ : L2.St) (H : Hp) (Q : VK) (h : rdE K (callL g m) σ H Q) : tCB r (rdAE K m) σ H Q := by
  obtain ⟨O, env, U, k, d, env', s, od, e, q⟩ := h
  unfold callL at e
  obtain ⟨⟨as, e1⟩, ea, e⟩ := Option.bind_eq_some_iff.mp e
  obtain ⟨ds, eb, e⟩ := Option.bind_eq_some_iff.mp e
  obtain ⟨d', ec, e⟩ := Option.map_eq_some_iff.mp e
  cases e
  refine ⟨O, env, U, as, _, s, od, ea, fun vs H1 O1 U1 F1 s1 od1 r1 dj1 x1 => ?_⟩
  obtain ⟨G, rs, hG⟩ := arK_ok r1 eb
  have := rs.zero; subst this
  exact hs H1 O1 vs ds _ Q od1 rs ec fun p H' ws sm hp rs' => own_post od s1 od1 x1 q sm hp rs'
theorem ge_callTyL {T : String} {x : Str} {e : Expr} {es : List Expr} {g : List D → Option (List D)} {m : AEM} {p pos : Pos} (hc : CallF X (.type T) g) (hg : Gl X x) (hm : X.mg x = none) (hv : bootBuiltins x = some (.type T)) (ha : GAE X (e :: es) m) (hn : x ≠ "__name__" := by decide) (hdb : (x == ("__debug__" : Str)) = false := by decide)
    (he : starEach (e :: es) X.env = (false, eval e X.env) :: starEach es X.env := by rfl) (hpl : (backTo pos (starEach es X.env)).any (·.1) = false := by rfl) : GE X (.Call (.Name x p) (e :: es) [] pos) (callL g m) := by
  obtain ⟨r, h1, h2⟩ := hc.ex
  exact ⟨(pe_callTy h1 hg hm hv ha.pa hn hdb he hpl).weaken fun σ H Q h => rd_callL h2 σ H Q h⟩
def itemsD : List D → Option (List D)
  | [.lst xs] => some xs
  | [.tup xs] => some xs
  | _ => none
theorem cf_list : CallF X (.type "list") itemsD := ⟨_, call_list_of, fun H O vs ds d Q od rs e q => by
  unfold itemsD at e
  split at e
  · obtain ⟨v, ws, rfl, a, b⟩ := rs.un0
    obtain ⟨rfl, _⟩ := b.none
    cases e
    cases a with
    | frz hs r => exact ⟨_, _, rfl, .inl hs.sq, fun p hp => q p H _ (Same.refl H) hp r⟩
  · obtain ⟨v, ws, rfl, a, b⟩ := rs.un0
    obtain ⟨rfl, _⟩ := b.none
    cases e
    cases a with
    | tup hs r => exact ⟨_, _, rfl, .inr hs, fun p hp => q p H _ (Same.refl H) hp r⟩
  · cases e⟩
/-- xs[a:b], a list of its own; slices of shared things -/
abbrev OEM := Env → Option (Option Int × Env)
def rdOE (K : Frag) (m : OEM) : TO := fun σ H Q => ∃ O env U o env', Sl K H O σ env U ∧ Od H O ∧ m env = some (o, env') ∧ ∀ H' O' U', Sl K H' O' σ env' U' → Od H' O' → Ext H O U H' O' U' → Q o H'
structure GOE (X : Cx) (e : Option Expr) (m : OEM) : Prop where
  po : PO X e (rdOE X.K m)
def noOE : OEM := fun e => some (none, e)
def someOE (m : EM) : OEM := fun e => (m e).bind fun x => (asI x.2.1).map fun i => (some i, x.2.2)
theorem goe_none : GOE X none noOE := ⟨po_none.weaken fun σ H Q ⟨O, env, U, o, env', s, od, e, q⟩ => by cases e; exact q H O U s od (.refl fun _ h => h)⟩
theorem goe_some {e : Expr} {m : EM} (h : GE X e m) : GOE X (some e) (someOE m) := ⟨(po_some h.pe).weaken fun σ H Q ⟨O, env, U, o, env', s, od, e, q⟩ => by
  unfold someOE at e
  obtain ⟨⟨k, d, e1⟩, ea, e⟩ := Option.bind_eq_some_iff.mp e
  obtain ⟨i, e2, e3⟩ := Option.map_eq_some_iff.mp e
  cases e3
  have hd : d = .int i := asI_some e2
  subst hd
  refine ⟨O, env, U, _, _, _, s, od, ea, fun v H1 O1 U1 F1 s1 od1 r1 dj1 x1 => ?_⟩
  cases r1
  exact ⟨i, rfl, q H1 O1 U1 s1 od1 (by simpa using x1)⟩⟩
def slE (m : EM) (l h : OEM) : EM := fun e => (m e).bind fun x => (keepK (x.1, x.2.1)).bind fun d => (l x.2.2).bind fun lo => (h lo.2).bind fun hi => (sliD d lo.1 hi.1).map fun r => (0, r, hi.2)
def slL (m : EM) (l h : OEM) : EM := fun e => (m e).bind fun x => (keepK (x.1, x.2.1)).bind fun d => (l x.2.2).bind fun lo => (h lo.2).bind fun hi => match d with
  | .lst xs => some (1, .lst (cutL xs lo.1 hi.1), hi.2)
  | _ => none
theorem ge_slice {a : Expr} {lo hi : Option Expr} {m : EM} {l h : OEM} {p2 pos : Pos} (ha : GE X a m) (hl : GOE X lo l) (hh : GOE X hi h) : GE X (.Subscript a (.Slice lo hi none p2) pos) (slE m l h) := ⟨(pe_slice ((sl_list.or sl_tupA).or sl_str) ha.pe hl.po hh.po).weaken fun σ H Q hq => by
  obtain ⟨O, env, U, k, d, env', s, od, e, q⟩ := hq
  unfold slE at e
  obtain ⟨⟨k1, x, e1⟩, ea, e⟩ := Option.bind_eq_some_iff.mp e
  obtain ⟨dx, ek, e⟩ := Option.bind_eq_some_iff.mp e
  obtain ⟨⟨lo', e2⟩, eb, e⟩ := Option.bind_eq_some_iff.mp e
  obtain ⟨⟨hi', e3⟩, ec, e⟩ := Option.bind_eq_some_iff.mp e
  obtain ⟨rr, ed, e⟩ := Option.map_eq_some_iff.mp e
  cases e
  refine ⟨O, env, U, k1, x, e1, s, od, ea, fun v H1 O1 U1 F1 s1 od1 r1 dj1 x1 => ⟨O1, e1, U1, lo', e2, s1, od1, eb, fun H2 O2 U2 s2 od2 x2 => ⟨O2, e2, U2, hi', e3, s2, od2, ec, fun H3 O3 U3 s3 od3 x3 => ?_⟩⟩⟩
  obtain ⟨rfl, r1⟩ := keepK_rep r1 ek
  have r3 := x3.rep s2.mt (x2.rep s1.mt r1 Disj.nil) Disj.nil
  have t : Ext H O U H3 O3 (U3 ++ []) := by simpa using ((x1.weak (U' := U1) fun a ha => List.mem_append_left _ ha).trans x2 od).trans x3 od
  have fin : ∀ {v' H'}, Same H3 H' → Rep X.K H' O3 0 v' d [] → Q v' H' := fun sm r => q _ _ O3 U3 [] (s3.same sm) (od3.same sm) r Disj.nil (t.trans (.of_same sm fun a ha => ha) od)
  cases dx with
  | lst xs =>
    cases ed
    cases r3 with
    | frz hs rs => exact .inl (.inl ⟨_, _, rfl, hs.sq, fun p hp => fin (same_new hp) (freshL od3 (cut_rep rs) hp)⟩)
  | tup xs =>
    cases ed
    cases r3 with
    | tup hs rs =>
      refine .inl (.inr ⟨_, _, rfl, hs, fun z => fin (Same.refl _) ?_, fun z p hp => fin (same_new hp) (freshT (cut_rep rs) hp)⟩)
      have e5 : cutL xs lo' hi' = xs := by
        unfold cutL
        rw [← rs.length, z.1, z.2, rs.length]
        simp
      rw [e5]
      exact .tup hs rs
  | str z =>
    simp only [sliD] at ed
    split at ed
    · rename_i hz
      cases ed
      cases r3
      exact .inr ⟨z, rfl, hz, fin (Same.refl _) .str⟩
    · cases ed
  | _ => simp [sliD] at ed⟩
theorem ge_sliceL {a : Expr} {lo hi : Option Expr} {m : EM} {l h : OEM} {p2 pos : Pos} (ha : GE X a m) (hl : GOE X lo l) (hh : GOE X hi h) : GE X (.Subscript a (.Slice lo hi none p2) pos) (slL m l h) := ⟨(pe_slice sl_list ha.pe hl.po hh.po).weaken fun σ H Q hq => by
  obtain ⟨O, env, U, k, d, env', s, od, e, q⟩ := hq
  unfold slL at e
  obtain ⟨⟨k1, x, e1⟩, ea, e⟩ := Option.bind_eq_some_iff.mp e
  obtain ⟨dx, ek, e⟩ := Option.bind_eq_some_iff.mp e
  obtain ⟨⟨lo', e2⟩, eb, e⟩ := Option.bind_eq_some_iff.mp e
  obtain ⟨⟨hi', e3⟩, ec, e⟩ := Option.bind_eq_some_iff.mp e
  cases dx <;> simp only [reduceCtorEq] at e
  cases e
  refine ⟨O, env, U, k1, x, e1, s, od, ea, fun v H1 O1 U1 F1 s1 od1 r1 dj1 x1 => ⟨O1, e1, U1, lo', e2, s1, od1, eb, fun H2 O2 U2 s2 od2 x2 => ⟨O2, e2, U2, hi', _, s2, od2, ec, fun H3 O3 U3 s3 od3 x3 => ?_⟩⟩⟩
  obtain ⟨ex, r1⟩ := keepK_rep r1 ek
  subst ex
  have r3 := x3.rep s2.mt (x2.rep s1.mt r1 Disj.nil) Disj.nil
  have t : Ext H O U H3 O3 (U3 ++ []) := by simpa using ((x1.weak (U' := U1) fun a ha => List.mem_append_left _ ha).trans x2 od).trans x3 od
  cases r3 with
  | frz hs rs => exact ⟨_, _, rfl, hs.sq, fun p hp => own_post od s3 od3 t q (Same.refl _) hp (cut_rep rs)⟩⟩
end
end Wr

/-! Statements. -/
namespace Wr
open PySem PySem.Spec PyProof.Rows L2

inductive Out where
  | nx (e : Env) | rt (k : Nat) (d : D) (e : Env) | bk (e : Env) | ct (e : Env)
abbrev SM := Env → Option Out
/-- where one stands, from (σ, H, O, U) on -/
def Af (K : Frag) (B : List Nat) (σ : L2.St) (H : Hp) (O : Addr → Prop) (U : List Addr) (σ' : L2.St) (H' : Hp) (e' : Env) : Prop :=
  ∃ O' U', Sl K H' O' σ' e' U' ∧ Od H' O' ∧ Ext H O U H' O' U' ∧ ∀ i ∈ B, σ'[i]? = σ[i]?
def AfR (K : Frag) (B : List Nat) (σ : L2.St) (H : Hp) (O : Addr → Prop) (U : List Addr) (k : Nat) (d : D) (v : V) (H' : Hp) (e' : Env) : Prop :=
  ∃ σ' O' U' F, Sl K H' O' σ' e' U' ∧ Od H' O' ∧ Rep K H' O' k v d F ∧ Disj F U' ∧ Ext H O U H' O' (U' ++ F) ∧ ∀ i ∈ B, σ'[i]? = σ[i]?
def PoS (K : Frag) (B : List Nat) (σ : L2.St) (H : Hp) (O : Addr → Prop) (U : List Addr) (Dd : Ends) : Out → Prop
  | .nx e' => ∀ σ' H', Af K B σ H O U σ' H' e' → Dd.nx σ' H'
  | .bk e' => ∀ σ' H', Af K B σ H O U σ' H' e' → Dd.bk σ' H'
  | .ct e' => ∀ σ' H', Af K B σ H O U σ' H' e' → Dd.ct σ' H'
  | .rt k d e' => ∀ v H', AfR K B σ H O U k d v H' e' → Dd.rt v H'
def rdS (K : Frag) (B : List Nat) (m : SM) : TS := fun Dd σ H => ∃ O env U o, Sl K H O σ env U ∧ Od H O ∧ m env = some o ∧ PoS K B σ H O U Dd o
structure GS (X : Cx) (B : List Nat) (st : Stmt) (m : SM) : Prop where
  ps : PS X st (rdS X.K B m)
structure GSs (X : Cx) (B : List Nat) (st : List Stmt) (m : SM) : Prop where
  pss : PSs X st (rdS X.K B m)
theorem _root_.L2.PS.weaken {X : Cx} {e : Stmt} {t t' : TS} (h : PS X e t) (q : ∀ D σ H, t' D σ H → t D σ H) : PS X e t' := ⟨fun pins s σ H Q I hq => h.run pins s σ H Q I (q Q σ H hq)⟩
theorem _root_.L2.PSs.weaken {X : Cx} {e : List Stmt} {t t' : TS} (h : PSs X e t) (q : ∀ D σ H, t' D σ H → t D σ H) : PSs X e t' := ⟨fun pins s σ H Q I hq => h.run pins s σ H Q I (q Q σ H hq)⟩
section
variable {K : Frag} {B : List Nat} {σ σ1 : L2.St} {H H1 : Hp} {O O1 : Addr → Prop} {U U1 : List Addr} {Dd : Ends}
theorem Af.trans {σ2 H2 e2} (od : Od H O) (x : Ext H O U H1 O1 U1) (hb : ∀ i ∈ B, σ1[i]? = σ[i]?) (a : Af K B σ1 H1 O1 U1 σ2 H2 e2) : Af K B σ H O U σ2 H2 e2 := by
  obtain ⟨O', U', s, od', x', hb'⟩ := a
  exact ⟨O', U', s, od', x.trans x' od, fun i hi => (hb' i hi).trans (hb i hi)⟩
theorem AfR.trans {k d v H2 e2} (od : Od H O) (x : Ext H O U H1 O1 U1) (hb : ∀ i ∈ B, σ1[i]? = σ[i]?) (a : AfR K B σ1 H1 O1 U1 k d v H2 e2) : AfR K B σ H O U k d v H2 e2 := by
  obtain ⟨σ', O', U', F, s, od', r, dj, x', hb'⟩ := a
  exact ⟨σ', O', U', F, s, od', r, dj, x.trans x' od, fun i hi => (hb' i hi).trans (hb i hi)⟩
theorem PoS.trans (od : Od H O) (x : Ext H O U H1 O1 U1) (hb : ∀ i ∈ B, σ1[i]? = σ[i]?) : ∀ {o : Out}, PoS K B σ H O U Dd o → PoS K B σ1 H1 O1 U1 Dd o
  | .nx _, p => fun σ' H' a => p σ' H' (a.trans od x hb)
  | .bk _, p => fun σ' H' a => p σ' H' (a.trans od x hb)
  | .ct _, p => fun σ' H' a => p σ' H' (a.trans od x hb)
  | .rt _ _ _, p => fun v H' a => p v H' (a.trans od x hb)
end
section
variable {X : Cx} {B : List Nat}
def nilS : SM := fun e => some (.nx e)
def seqS (m n : SM) : SM := fun e => (m e).bind fun o => match o with
  | .nx e1 => n e1
  | .rt k d e1 => some (.rt k d e1)
  | .bk e1 => some (.bk e1)
  | .ct e1 => some (.ct e1)
theorem gss_nil : GSs X B [] nilS := ⟨pss_nil.weaken fun D σ H ⟨O, env, U, o, s, od, e, p⟩ => by
  cases e; exact p σ H ⟨O, U, s, od, .refl fun _ h => h, fun _ _ => rfl⟩⟩
theorem rd_seq {K : Frag} {m n : SM} (D : Ends) (σ : L2.St) (H : Hp) (h : rdS K B (seqS m n) D σ H) : tSeq (rdS K B m) (rdS K B n) D σ H := by
  obtain ⟨O, env, U, o, s, od, e, p⟩ := h
  unfold seqS at e
  obtain ⟨o1, e1, e⟩ := Option.bind_eq_some_iff.mp e
  refine ⟨O, env, U, o1, s, od, e1, ?_⟩
  cases o1 with
  | nx e2 =>
    have e : n e2 = some o := e
    intro σ' H' a
    obtain ⟨O', U', s', od', x', hb⟩ := a
    exact ⟨O', e2, U', o, s', od', e, p.trans od x' hb⟩
  | rt k d e2 => cases e; exact p
  | bk e2 => cases e; exact p
  | ct e2 => cases e; exact p
theorem gss_cons {st : Stmt} {rest : List Stmt} {m n : SM} (h : GS X B st m) (g : GSs X B rest n) : GSs X B (st :: rest) (seqS m n) := ⟨(pss_cons h.ps g.pss).weaken fun D σ H h => rd_seq D σ H h⟩
theorem gss_one {st : Stmt} {m : SM} (h : GS X B st m) : GSs X B [st] m := ⟨pss_one h.ps⟩
/-- a slot is shared from here on -/
def frzS (i : Nat) (m : SM) : SM := fun e => match vX i e with
  | some x => m (e.set i (some (0, x.2)))
  | none => m e
theorem gss_frz (i : Nat) {sts : List Stmt} {m : SM} (h : GSs X B sts m) : GSs X B sts (frzS i m) := ⟨h.pss.weaken fun D σ H hq => by
  obtain ⟨O, env, U, o, s, od, e, p⟩ := hq
  unfold frzS at e
  cases q : vX i env with
  | none => rw [q] at e; exact ⟨O, env, U, o, s, od, e, p⟩
  | some x =>
    rw [q] at e
    obtain ⟨v, F, U', a, r, c, ex⟩ := s.frz od (vX_some q)
    exact ⟨_, _, U', o, c, od.less, e, p.trans od ex fun _ _ => rfl⟩⟩

/-! ### targets -/
abbrev TAs := Nat → D → Env → Option Env
def rdG (K : Frag) (B : List Nat) (ta : TAs) : TG := fun v σ H Q => ∃ O env U k d F env', Sl K H O σ env U ∧ Od H O ∧ Rep K H O k v d F ∧ Disj F U ∧ ta k d env = some env' ∧
  ∀ σ' U', Sl K H O σ' env' U' → (∀ a ∈ U', a ∈ F ∨ a ∈ U) → (∀ i, i ∉ B → σ'[i]? = σ[i]?) → σ'.length = σ.length → Q σ' H
structure GG (X : Cx) (B : List Nat) (tg : Expr) (ta : TAs) : Prop where
  pg : PG X tg (rdG X.K B ta)
def rdGs (K : Frag) (B : List Nat) (ta : Nat → List D → Env → Option Env) : TGs := fun vs σ H Q => ∃ O env U k ds F env', Sl K H O σ env U ∧ Od H O ∧ Reps K H O k vs ds F ∧ Disj F U ∧ ta k ds env = some env' ∧
  ∀ σ' U', Sl K H O σ' env' U' → (∀ a ∈ U', a ∈ F ∨ a ∈ U) → (∀ i, i ∉ B → σ'[i]? = σ[i]?) → σ'.length = σ.length → Q σ' H
structure GGs (X : Cx) (B : List Nat) (tgs : List Expr) (ta : Nat → List D → Env → Option Env) : Prop where
  pgs : PGs X tgs (rdGs X.K B ta)
theorem _root_.L2.PG.weaken {e : Expr} {t t' : TG} (h : PG X e t) (q : ∀ v σ H Q, t' v σ H Q → t v σ H Q) : PG X e t' := ⟨fun pins s σ H v u Q I r hq => h.run pins s σ H v u Q I r (q v σ H Q hq)⟩
theorem _root_.L2.PGs.weaken {e : List Expr} {t t' : TGs} (h : PGs X e t) (q : ∀ v σ H Q, t' v σ H Q → t v σ H Q) : PGs X e t' := ⟨fun pins s σ H v u Q I r hq => h.run pins s σ H v u Q I r (q v σ H Q hq)⟩
def nameT (i : Nat) : TAs := fun k d e => if i < e.length then some (e.set i (some (k, d))) else none
theorem gg_name (i : Nat) {x : Str} {pos : Pos} (hN : X.N.Nodup) (hi : X.N[i]? = some x := by rfl) (hx : Loc X.env.scope x := by first | exact Or.inl rfl | exact Or.inr rfl) (hf : X.fn x = true ∨ X.env.scope.names.lookup x = some .local := by first | exact .inl rfl | exact .inr rfl | assumption) :
    GG X [i] (.Name x pos) (nameT i) := ⟨(pg_name hN hi hx hf).weaken fun v σ H Q hq => by
  obtain ⟨O, env, U, k, d, F, env', s, od, r, dj, e, q⟩ := hq
  unfold nameT at e
  split at e
  · rename_i hl
    cases e
    obtain ⟨U', s', m⟩ := s.store hl r dj
    exact q _ U' s' m (fun j hj => List.getElem?_set_ne (fun z => hj (by simp [z]))) List.length_set
  · cases e⟩
def nilT : Nat → List D → Env → Option Env := fun _ ds e => match ds with
  | [] => some e
  | _ => none
def consT (t : TAs) (ts : Nat → List D → Env → Option Env) : Nat → List D → Env → Option Env := fun k ds e => match ds with
  | d :: ds => (t k d e).bind fun e1 => ts k ds e1
  | [] => none
theorem ggs_nil : GGs X [] [] nilT := ⟨pgs_nil.weaken fun vs σ H Q hq => by
  obtain ⟨O, env, U, k, ds, F, env', s, od, r, dj, e, q⟩ := hq
  cases ds with
  | nil =>
    cases e
    obtain ⟨rfl, rfl⟩ := r.none
    exact ⟨rfl, q σ U s (fun a ha => .inr ha) (fun _ _ => rfl) rfl⟩
  | cons _ _ => cases e⟩
theorem ggs_cons {t : Expr} {ts : List Expr} {ta : TAs} {tas : Nat → List D → Env → Option Env} {B1 B2 : List Nat} (h : GG X B1 t ta) (g : GGs X B2 ts tas) (hs : (assignEach (t :: ts) X.env).map (·.2) = assign t X.env :: (assignEach ts X.env).map (·.2) := by rfl) : GGs X (B1 ++ B2) (t :: ts) (consT ta tas) := by
  refine ⟨(pgs_cons h.pg g.pgs hs).weaken fun vs σ H Q hq => ?_⟩
  obtain ⟨O, env, U, k, ds, F, env', s, od, r, dj, e, q⟩ := hq
  cases ds with
  | nil => cases e
  | cons d ds =>
    obtain ⟨v, ws, F1, F2, rfl, rfl, r1, r2, dj12⟩ := r.uncons
    obtain ⟨e1, ea, eb⟩ := Option.bind_eq_some_iff.mp e
    refine ⟨v, ws, rfl, O, env, U, k, d, F1, e1, s, od, r1, dj.left, ea, fun σ' U' s' m hb hl => ?_⟩
    refine ⟨O, e1, U', k, ds, F2, env', s', od, r2, fun a ha z => ?_, eb, fun σ2 U2 s2 m2 hb2 hl2 => q σ2 U2 s2 (fun a ha => ?_) (fun i hi => (hb2 i fun z => hi (List.mem_append_right _ z)).trans (hb i fun z => hi (List.mem_append_left _ z))) (hl2.trans hl)⟩
    · rcases m a z with z | z
      · exact dj12 a z ha
      · exact dj.right a ha z
    · rcases m2 a ha with z | z
      · exact .inl (List.mem_append_right _ z)
      · exact (m a z).imp (fun z => List.mem_append_left _ z) id
def tupT (n : Nat) (ts : Nat → List D → Env → Option Env) : TAs := fun k d e => match d with
  | .tup ds => if ds.length = n then ts k ds e else none
  | _ => none
theorem gg_tup {n : Nat} {es : List Expr} {kk : Nat} {pos : Pos} {ts : Nat → List D → Env → Option Env} (hc : X.calm = true) (h : GGs X B es ts) (hn : (assignEach es X.env).length = n := by rfl) (hst : (assignEach es X.env).findIdx? (·.1) = none := by rfl) : GG X B (.Tuple es kk pos) (tupT n ts) := by
  refine ⟨(pg_tup hc h.pgs hn hst).weaken fun v σ H Q hq => ?_⟩
  obtain ⟨O, env, U, k, d, F, env', s, od, r, dj, e, q⟩ := hq
  cases r with
  | @tup _ a vs ds F hs rs =>
    have e : (if ds.length = n then ts k ds env else none) = some env' := e
    split at e
    · rename_i hl
      exact ⟨a, vs, rfl, hs, by rw [rs.length]; exact hl, O, env, U, k, ds, F, env', s, od, rs, dj, e, q⟩
    · cases e
  | _ => cases e
/-- target = e -/
def asgS (ta : TAs) (m : EM) : SM := fun e => (m e).bind fun x => (ta x.1 x.2.1 x.2.2).map .nx
theorem gs_asg {W : List Nat} {tg e : Expr} {ta : TAs} {m : EM} {pos : Pos} (he : GE X e m) (hg : GG X W tg ta) (hW : ∀ i ∈ B, i ∉ W := by decide) (hs : swapsWithSole [tg] e pos.line X.env = pure false := by rfl) (hw : swappedStores [tg] e X.env = pure none := by rfl)
    (h1 : (assignEach [tg] X.env).map (·.2) = [assign tg X.env] := by rfl) : GS X B (.Assign [tg] e pos) (asgS ta m) := ⟨(ps_asg he.pe hg.pg hs hw h1).weaken fun D σ H hq => by
  obtain ⟨O, env, U, o, s, od, e, p⟩ := hq
  unfold asgS at e
  obtain ⟨⟨k, d, e1⟩, ea, e⟩ := Option.bind_eq_some_iff.mp e
  obtain ⟨e2, eb, e⟩ := Option.map_eq_some_iff.mp e
  cases e
  refine ⟨O, env, U, k, d, e1, s, od, ea, fun v H1 O1 U1 F1 s1 od1 r1 dj1 x1 => ?_⟩
  refine ⟨O1, e1, U1, k, d, F1, e2, s1, od1, r1, dj1, eb, fun σ' U' s' m hb _ => p σ' H1 ⟨O1, U', s', od1, x1.weak fun a ha => ?_, fun i hi => hb i (hW i hi)⟩⟩
  exact (m a ha).elim (List.mem_append_right _) (List.mem_append_left _)⟩

/-! ### simple statements -/
def dropS (m : EM) : SM := fun e => (m e).map fun x => .nx x.2.2
theorem gs_expr {e : Expr} {m : EM} {pos : Pos} (he : GE X e m) (hs : swapsWith e none pos.line X.env = pure false := by rfl) : GS X B (.Expr e pos) (dropS m) := ⟨(ps_expr he.pe hs).weaken fun D σ H hq => by
  obtain ⟨O, env, U, o, s, od, e, p⟩ := hq
  obtain ⟨⟨k, d, e1⟩, ea, e⟩ := Option.map_eq_some_iff.mp e
  cases e
  exact ⟨O, env, U, k, d, e1, s, od, ea, fun v H1 O1 U1 F1 s1 od1 r1 dj1 x1 => p σ H1 ⟨O1, U1, s1, od1, x1.weak fun a ha => List.mem_append_left _ ha, fun _ _ => rfl⟩⟩⟩
def retS (m : EM) : SM := fun e => (m e).map fun x => .rt x.1 x.2.1 x.2.2
theorem gs_ret {e : Expr} {m : EM} {pos : Pos} (he : GE X e m) : GS X B (.Return (some e) pos) (retS m) := ⟨(ps_ret he.pe).weaken fun D σ H hq => by
  obtain ⟨O, env, U, o, s, od, e, p⟩ := hq
  obtain ⟨⟨k, d, e1⟩, ea, e⟩ := Option.map_eq_some_iff.mp e
  cases e
  exact ⟨O, env, U, k, d, e1, s, od, ea, fun v H1 O1 U1 F1 s1 od1 r1 dj1 x1 => p v H1 ⟨σ, O1, U1, F1, s1, od1, r1, dj1, x1, fun _ _ => rfl⟩⟩⟩
def retNS : SM := fun e => some (.rt 0 .non e)
theorem gs_retN {pos : Pos} : GS X B (.Return none pos) retNS := ⟨ps_retN.weaken fun D σ H hq => by
  obtain ⟨O, env, U, o, s, od, e, p⟩ := hq
  cases e
  exact p .non H ⟨σ, O, U, [], s, od, .non, Disj.nil, .refl fun a ha => by simpa using ha, fun _ _ => rfl⟩⟩
def passS : SM := fun e => some (.nx e)
def brkS : SM := fun e => some (.bk e)
def ctS : SM := fun e => some (.ct e)
theorem gs_pass {pos : Pos} : GS X B (.Pass pos) passS := ⟨ps_pass.weaken fun D σ H hq => by
  obtain ⟨O, env, U, o, s, od, e, p⟩ := hq
  cases e; exact p σ H ⟨O, U, s, od, .refl fun _ h => h, fun _ _ => rfl⟩⟩
theorem gs_break {pos : Pos} : GS X B (.Break pos) brkS := ⟨ps_break.weaken fun D σ H hq => by
  obtain ⟨O, env, U, o, s, od, e, p⟩ := hq
  cases e; exact p σ H ⟨O, U, s, od, .refl fun _ h => h, fun _ _ => rfl⟩⟩
theorem gs_continue {pos : Pos} : GS X B (.Continue pos) ctS := ⟨ps_continue.weaken fun D σ H hq => by
  obtain ⟨O, env, U, o, s, od, e, p⟩ := hq
  cases e; exact p σ H ⟨O, U, s, od, .refl fun _ h => h, fun _ _ => rfl⟩⟩
def ifS (c : TEM) (m n : SM) : SM := fun e => (c e).bind fun b => if b.1 = true then m b.2 else n b.2
theorem gs_if {c : Expr} {a b : List Stmt} {mc : TEM} {m n : SM} {pos : Pos} (hc : GTE X c mc) (ha : GSs X B a m) (hb : GSs X B b n) : GS X B (.If c a b pos) (ifS mc m n) := ⟨(ps_if hc.pt ha.pss hb.pss).weaken fun D σ H hq => by
  obtain ⟨O, env, U, o, s, od, e, p⟩ := hq
  unfold ifS at e
  obtain ⟨⟨c, e1⟩, ea, e⟩ := Option.bind_eq_some_iff.mp e
  refine ⟨O, env, U, c, e1, s, od, ea, fun H1 O1 U1 s1 od1 x1 => ?_⟩
  cases c with
  | true => exact iteT ⟨O1, e1, U1, o, s1, od1, e, p.trans od x1 fun _ _ => rfl⟩
  | false => exact iteF ⟨O1, e1, U1, o, s1, od1, e, p.trans od x1 fun _ _ => rfl⟩⟩
/-- never reached -/
def neverS : SM := fun _ => none
theorem gs_never {st : Stmt} : GS X B st neverS := ⟨ps_never.weaken fun D σ H ⟨_, _, _, _, _, _, e, _⟩ => by cases e⟩

/-! ### for -/
/-- what the turns of J give -/
def Yl (K : Frag) (H : Hp) (O : Addr → Prop) (J : It) (ds : List D) : Prop :=
  ∀ H2 O2, (∀ a o, H a = some o → ¬ O a → H2 a = some o) → (∀ a, (∃ o, H a = some o) → O2 a → O a) →
    (∀ i d, ds[i]? = some d → J.go i H2 ∧ ∀ x H3, J.yld i H2 x H3 → Same H2 H3 ∧ Rep K H3 O2 0 x d []) ∧ J.stop ds.length H2
abbrev IM := Env → Option (List D × Env)
def rdI (K : Frag) (m : IM) : TI := fun σ H R => ∃ O env U ds env', Sl K H O σ env U ∧ Od H O ∧ m env = some (ds, env') ∧
  ∀ J H' O' U', Sl K H' O' σ env' U' → Od H' O' → Ext H O U H' O' U' → Yl K H' O' J ds → R J H'
structure GI (X : Cx) (tg iter : Expr) (m : IM) : Prop where
  pi : PI X tg iter (rdI X.K m)
theorem _root_.L2.PI.weaken {tg e : Expr} {t t' : TI} (h : PI X tg e t) (q : ∀ σ H Q, t' σ H Q → t σ H Q) : PI X tg e t' := ⟨fun pins s σ H R I hq => h.run pins s σ H R I (q σ H R hq)⟩
def forL (ta : TAs) (body : SM) : List D → Env → Option Out
  | [], e => some (.nx e)
  | d :: ds, e => (ta 0 d e).bind fun e1 => (body e1).bind fun o => match o with
    | .nx e2 => forL ta body ds e2
    | .ct e2 => forL ta body ds e2
    | .bk e2 => some (.nx e2)
    | .rt k d e2 => some (.rt k d e2)
def forS (mi : IM) (ta : TAs) (body : SM) : SM := fun e => (mi e).bind fun x => forL ta body x.1 x.2
theorem gs_for {W : List Nat} {tg iter : Expr} {body : List Stmt} {mi : IM} {ta : TAs} {m : SM} {pos : Pos} (hp : PassesOwn (model X.prog X.w) X.A X.env X.xe) (hc : X.calm = true) (hi : GI X tg iter mi) (hg : GG X W tg ta) (hb : GSs X B body m) (hW : ∀ i ∈ B, i ∉ W := by decide)
    (hs : ∀ x, foldedSetIterable iter X.env x = pure x := by intro _; rfl) : GS X B (.For tg iter body [] pos) (forS mi ta m) := ⟨(ps_for hp hc hi.pi hg.pg hb.pss hs).weaken fun Dd σ H hq => by
  obtain ⟨O, env, U, o, s, od, e, p⟩ := hq
  unfold forS at e
  obtain ⟨⟨ds, e1⟩, ea, e⟩ := Option.bind_eq_some_iff.mp e
  refine ⟨O, env, U, ds, e1, s, od, ea, fun J H1 O1 U1 s1 od1 x1 yl => ?_⟩
  have p1 : PoS X.K B σ H1 O1 U1 Dd o := p.trans od x1 fun _ _ => rfl
  refine ⟨fun i m' σ' H' => m' = ds.length - i ∧ i ≤ ds.length ∧ ∃ e', Af X.K B σ H1 O1 U1 σ' H' e' ∧ forL ta m (ds.drop i) e' = some o,
    ⟨ds.length, by simp, Nat.zero_le _, e1, ⟨O1, U1, s1, od1, .refl fun _ h => h, fun _ _ => rfl⟩, by simpa using e⟩, ?_⟩
  rintro i m' σ' H' ⟨rfl, hle, e', ⟨O', U', s', od', x', hbs⟩, ef⟩
  have kept : ∀ a o, H1 a = some o → ¬ O1 a → H' a = some o := fun a ob h n => x'.same a ob h fun z => n (s1.mt a z).1
  by_cases hlt : i < ds.length
  · obtain ⟨y1, y2⟩ := yl H' O' kept x'.own
    have hd : ds[i]? = some ds[i] := List.getElem?_eq_getElem hlt
    have hdr : ds.drop i = ds[i] :: ds.drop (i + 1) := (List.drop_eq_getElem_cons hlt)
    rw [hdr] at ef
    unfold forL at ef
    obtain ⟨e2, eb, ef⟩ := Option.bind_eq_some_iff.mp ef
    obtain ⟨o2, ec, ef⟩ := Option.bind_eq_some_iff.mp ef
    obtain ⟨g1, g2⟩ := y1 i _ hd
    refine .inr ⟨g1, fun σ2 H2 => i + 1 ≤ ds.length ∧ ∃ e', Af X.K B σ H1 O1 U1 σ2 H2 e' ∧ forL ta m (ds.drop (i + 1)) e' = some o, fun σ2 H2 ⟨hh, q⟩ => ⟨ds.length - (i + 1), by omega, rfl, hh, q⟩, fun x H3 hy => ?_⟩
    obtain ⟨sm, rx⟩ := g2 x H3 hy
    have s3 := s'.same sm
    have od3 := od'.same sm
    have x3 : Ext H1 O1 U1 H3 O' U' := x'.trans (.of_same sm fun _ h => h) od1
    refine ⟨O', e', U', 0, ds[i], [], e2, s3, od3, rx, Disj.nil, eb, fun σ4 U4 s4 m4 hb4 _ => ?_⟩
    have x4 : Ext H1 O1 U1 H3 O' U4 := x3.weak fun a ha => (m4 a ha).elim (fun z => nomatch z) id
    have hb5 : ∀ i ∈ B, σ4[i]? = σ[i]? := fun j hj => (hb4 j (hW j hj)).trans (hbs j hj)
    refine ⟨O', e2, U4, o2, s4, od3, ec, ?_⟩
    cases o2 with
    | nx e3 => exact fun σ5 H5 a => ⟨hlt, e3, a.trans od1 x4 hb5, ef⟩
    | ct e3 => exact fun σ5 H5 a => ⟨hlt, e3, a.trans od1 x4 hb5, ef⟩
    | bk e3 => cases ef; exact fun σ5 H5 a => p1 σ5 H5 (a.trans od1 x4 hb5)
    | rt k d e3 => cases ef; exact fun v H5 a => p1 v H5 (a.trans od1 x4 hb5)
  · have hi : i = ds.length := by omega
    subst hi
    rw [List.drop_length] at ef
    cases ef
    exact .inl ⟨(yl H' O' kept x'.own).2, p1 σ' H' ⟨O', U', s', od', x', hbs⟩⟩⟩
/-- while: n bounds the turns -/
def whL (c : TEM) (body : SM) : Nat → Env → Option Out
  | 0, _ => none
  | n + 1, e => (c e).bind fun b => if b.1 = true then (body b.2).bind fun o => match o with
      | .nx e2 => whL c body n e2
      | .ct e2 => whL c body n e2
      | .bk e2 => some (.nx e2)
      | .rt k d e2 => some (.rt k d e2)
    else some (.nx b.2)
theorem gs_while (n : Nat) {c : Expr} {body : List Stmt} {mc : TEM} {m : SM} {pos : Pos} (hp : PassesOwn (model X.prog X.w) X.A X.env X.xe) (hc : GTE X c mc) (hb : GSs X B body m) : GS X B (.While c body [] pos) (whL mc m n) := ⟨(ps_while hp hc.pt hb.pss).weaken fun Dd σ H hq => by
  obtain ⟨O, env, U, o, s, od, e, p⟩ := hq
  refine ⟨fun n σ' H' => ∃ e', Af X.K B σ H O U σ' H' e' ∧ whL mc m n e' = some o, ⟨n, env, ⟨O, U, s, od, .refl fun _ h => h, fun _ _ => rfl⟩, e⟩, ?_⟩
  rintro n σ' H' ⟨e', ⟨O', U', s', od', x', hbs⟩, ef⟩
  cases n with
  | zero => cases ef
  | succ n =>
    unfold whL at ef
    obtain ⟨⟨b, e2⟩, eb, ef⟩ := Option.bind_eq_some_iff.mp ef
    refine ⟨O', e', U', b, e2, s', od', eb, fun H2 O2 U2 s2 od2 x2 => ?_⟩
    have x3 : Ext H O U H2 O2 U2 := x'.trans x2 od
    cases b with
    | false => cases ef; exact iteF (p σ' H2 ⟨O2, U2, s2, od2, x3, hbs⟩)
    | true =>
      have ef : ((m e2).bind fun o => match o with
        | .nx e2 => whL mc m n e2
        | .ct e2 => whL mc m n e2
        | .bk e2 => some (.nx e2)
        | .rt k d e2 => some (.rt k d e2)) = some o := ef
      obtain ⟨o2, ec, ef⟩ := Option.bind_eq_some_iff.mp ef
      refine iteT ⟨fun σ2 H2 => ∃ e', Af X.K B σ H O U σ2 H2 e' ∧ whL mc m n e' = some o, fun σ2 H2 q => ⟨n, Nat.lt_succ_self n, q⟩, ?_⟩
      refine ⟨O2, e2, U2, o2, s2, od2, ec, ?_⟩
      cases o2 with
      | nx e3 => exact fun σ5 H5 a => ⟨e3, a.trans od x3 hbs, ef⟩
      | ct e3 => exact fun σ5 H5 a => ⟨e3, a.trans od x3 hbs, ef⟩
      | bk e3 => cases ef; exact fun σ5 H5 a => p σ5 H5 (a.trans od x3 hbs)
      | rt k d e3 => cases ef; exact fun v H5 a => p v H5 (a.trans od x3 hbs)⟩
end
end Wr

/-! enumerate of a tuple. -/
namespace Wr
open PySem PySem.Spec PyProof.Rows L2
set_option maxHeartbeats 1000000 in
theorem meets_enumT {v : Value} {o : Obj} {H : Heap → Prop} (B : Begins v o H) :
    Meets (Builtin.«enumerate.__new__» ⟨[.type "enumerate", v], []⟩) (fun _ R s => H s.heap ∧
      R (.ok (.ret (.ref (s.heap.push o).objs.size))) { s with heap := (s.heap.push o).push { cls := .type "enumerate", data := .fields #[.none, .bool false, .ref s.heap.objs.size, rawInt 0, .none, .none] } }) :=
  .of_wp fun prog w A R s h => by
    obtain ⟨hp, g, d, tk, os⟩ := s; obtain ⟨h1, h⟩ := h
    have hsub := sub_enumerate
    have q1 : ∀ {A' : Around} {E : Value → Shared → Prop} {Q : Value → Shared → Prop}, Q (.ref hp.objs.size) ⟨hp.push o, g, d, tk, os⟩ → wpAny (model prog w) A' (pyIter v) Q E ⟨hp, g, d, tk, os⟩ :=
      fun q => B.iter prog w _ _ ⟨hp, g, d, tk, os⟩ _ h1 q
    wp_walk using q1
    refine wpAny_stack_any fun st => wpAny_pure ?_
    split
    · rename_i c _ _ _ _ _
      cases (c == Value.type "enumerate")
      · wp_walk using q1
        exact ⟨_, rfl, h⟩
      · wp_walk using q1
        exact ⟨_, rfl, h⟩
    · wp_walk using q1
      exact ⟨_, rfl, h⟩
section
variable {prog : Program} {w : World} {A : Around} {E : Value → Shared → Prop} {s : Shared}
theorem call_enumT {t : Addr} {items : Array Value} {Q : Value → Shared → Prop} (ht : s.heap.IsTuple t items)
    (h : ∀ h', IsEnum h' (s.heap.objs.size + 1) s.heap.objs.size 0 .none → h'.IsTupleIter s.heap.objs.size t 0 → h'.objs.size = s.heap.objs.size + 2 →
      (∀ b o, s.heap.get? b = some o → h'.get? b = some o) → Q (.ref (s.heap.objs.size + 1)) { s with heap := h' }) :
    wpAny (model prog w) A (call (.type "enumerate") [.ref t]) Q E s := by
  refine callType_new F.called_enumerate (by decide) (F.typeCall_enumerate_1 _) (F.newCall_enumerate_1 _) (fun obj => F.args_object_init_2 obj _) F.entry_enumerate_new
    (meets_enumT (begins_tuple t items)) ⟨ht, ?_⟩
  have hz : (s.heap.push { cls := .type "tuple_iterator", data := .fields #[.ref t, .int 0 0] }).objs.size = s.heap.objs.size + 1 := Heap.size_push ..
  show _ ∧ _
  rw [hz]
  have he : IsEnum ((s.heap.push { cls := .type "tuple_iterator", data := .fields #[.ref t, .int 0 0] }).push { cls := .type "enumerate", data := .fields #[.none, .bool false, .ref s.heap.objs.size, rawInt 0, .none, .none] }) (s.heap.objs.size + 1) s.heap.objs.size 0 .none := by
    have := Heap.get?_push_size (s.heap.push { cls := .type "tuple_iterator", data := .fields #[.ref t, .int 0 0] }) (o := { cls := .type "enumerate", data := .fields #[.none, .bool false, .ref s.heap.objs.size, rawInt 0, .none, .none] }) rfl
    rw [hz] at this; exact this
  refine ⟨⟨_, he, rfl⟩, h _ he ⟨_, Heap.get?_push_of_some _ (Heap.get?_push_size _ rfl), rfl, rfl⟩ (by rw [Heap.size_push, hz]) fun b o x => Heap.get?_push_of_some _ (Heap.get?_push_of_some _ x)⟩
end
/-- the tuple at a, each item in a new pair -/
def IteT (K : PySem.W.Frag) (a : Addr) : It :=
  ⟨fun i H => ∃ (xs : List V) (x : V), SqT K H a xs ∧ xs[i]? = some x, fun i H v H' => ∃ T x, v = .ref T ∧ H T = none ∧ H' = upd H T (.tup [.int (i : Nat), x]) ∧ ∀ xs, SqT K H a xs → xs[i]? = some x, fun i H => ∃ xs : List V, SqT K H a xs ∧ xs.length ≤ i⟩
theorem turn_enumT {P : Program} {w : World} {K : PySem.W.Frag} {elts : List Expr} {kk : Nat} {tpos : Pos} (a e it : Addr) (hea : e ≠ a) (hai : a ≠ it) :
    Turn P w K (.Tuple elts kk tpos) (IteT K a) [e, it] e (fun i h => (∃ old, IsEnum h e it ((i : Nat) : Int) old) ∧ h.IsTupleIter it a i ∧ e ≠ it) where
  mem := by simp
  obj := fun i h st b hb => by
    obtain ⟨⟨old, he⟩, ⟨o, ho, hc, hd⟩, _⟩ := st
    have e' : b = e ∨ b = it := by simpa using hb
    rcases e' with z | z
    · rw [z]; exact ⟨_, he, fun v q => nomatch q⟩
    · rw [z]; exact ⟨o, ho, fun v q => by rw [hd] at q; cases q⟩
  keep := fun i h h' st k => let ⟨⟨old, he⟩, hi, hne⟩ := st; ⟨⟨old, k e (by simp) _ he⟩, hi.at fun o q => k it (by simp) o q, hne⟩
  item := by
    intro X hP hw hK hc i pins s σ H E I hf st hg
    subst hP hw hK
    obtain ⟨⟨old, he⟩, hit, hne⟩ := st
    obtain ⟨xs, x, hq, hx⟩ := hg
    obtain ⟨its, rv, p, hz⟩ := I.tuple hq
    obtain ⟨u, hu, ru⟩ := rv.get hx
    have hel : e < s.heap.objs.size := Heap.lt_size he
    have hil : it < s.heap.objs.size := by obtain ⟨_, q, _⟩ := hit; exact Heap.lt_size q
    have hlt : i < its.toArray.size := by
      have := (List.getElem?_eq_some_iff.mp hu).1
      simpa using this
    refine wpAny_pyNext_enum_itemD (Draws.tuple (A := X.A.in1) (I.ok.hd hc) it a hai its.toArray) he ⟨hit, p⟩ hlt hne (fun z => ?_) fun x' h' tk hP' ho hst' hT hsz hk => ?_
    · have : e = it ∨ e = a := by simpa using z
      exact this.elim hne hea
    have hxu : u = x' := by
      have hP' : its.toArray[i]? = some x' := hP'
      rw [List.getElem?_toArray, hu] at hP'
      exact Option.some.inj hP'
    subst hxu
    refine ⟨_, rfl, wpAny_letOwnedTupleGo_enum (s := { s with heap := h', toks := tk + 1 }) ho fun h'' he' sb => ?_⟩
    have hT2 : h''.get? s.heap.objs.size = some { cls := .type "tuple", data := .seq #[.int i tk, u] } := (sb.2 _ (Nat.ne_of_gt hel)).trans hT
    have new : ObjOk X.prog X.w (upd H s.heap.objs.size (.tup [.int (i : Nat), x])) h'' s.heap.objs.size (.tup [.int (i : Nat), x]) :=
      ⟨by show 2 ≤ sizeLine; decide, [.int i tk, u], .cons ⟨_, rfl⟩ (.cons ru .nil), ⟨_, hT2, rfl, _, rfl⟩⟩
    have I1 : Inv X pins σ (upd H s.heap.objs.size (.tup [.int (i : Nat), x])) { s with heap := h'', toks := tk + 1 } :=
      I.turnedNew (ch := [e, it]) (fun b ob hb q => (sb.2 b (fun z => hb (by simp [z]))).trans (hk b ob (fun z => hb (by simp [z])) (fun z => hb (by simp [z])) q)) hf (Nat.le_refl _) new
    refine ⟨.ref s.heap.objs.size, _, I1, rfl, ⟨_, x, rfl, I.hok.fresh (Nat.le_refl _), rfl, fun ys hy => by rw [I.tuple_inj hy hq]; exact hx⟩, ⟨⟨u, ?_⟩, hst'.1.at fun o q => (sb.2 it (Ne.symm hne)).trans q, hne⟩, fun b hb => ?_⟩
    · have e1 : ((i + 1 : Nat) : Int) = (i : Int) + 1 := by omega
      rw [e1]; exact he'
    · have hb' : b < s.heap.objs.size := by
        have e' : b = e ∨ b = it := by simpa using hb
        rcases e' with z | z
        · rw [z]; exact hel
        · rw [z]; exact hil
      rw [upd_ne (Nat.ne_of_lt hb')]
      exact (hf b hb).1
  done := by
    intro X hP hw hK hc i pins s σ H E I hf st hg
    subst hP hw hK
    obtain ⟨⟨old, he⟩, hit, hne⟩ := st
    obtain ⟨xs, hq, hx⟩ := hg
    obtain ⟨its, rv, p, hz⟩ := I.tuple hq
    obtain ⟨f0, f1, f2, f3, f4, f5⟩ := hf it (by simp)
    have hl := rv.length
    have hT : s.TypeIs (.ref e) "enumerate" := ⟨_, he, rfl⟩
    unfold pyNext
    refine wpAny_bind (wpAny_attempt (wpAny_callSpecial?_slot (name := Str.ofString "__next__") hT F.slot_enumerate_next
      (wpAny_call_entry F.slot_enumerate_next hT F.entry_enumerate_next ?_ (F.args_enumerate_next_1 _))))
    show PySem.wpAny _ _ (field (.ref e) 2 >>= _) _ _ _
    refine wpAny_bind (wpAny_field he rfl (x := .ref it) rfl ?_)
    refine wpAny_bind (RZ.nextOf_tuple_end (I.ok.hd hc) hit p (by simp; omega) fun h' x eb hx' => ?_)
    obtain ⟨o, ho, hc'⟩ := hx'
    refine wpAny_bind (wpAny_isInstance (T := "StopIteration") (b := true) ⟨o, ho, hc'⟩ isSubtype_stop ?_)
    exact wpAny_pure ⟨rfl, I.turned (t' := s.toks) (fun b o hb q => eb b o hb q) f0 f1 f3 f4 f5⟩
  self := fun A i s Q E st h => let ⟨⟨_, he⟩, _⟩ := st; wpAny_pyIter_enum he h
def iEnumA (K : PySem.W.Frag) (ta : TA) : TI := fun σ H R => ta σ H fun vs H1 => ∃ a xs, vs = [.ref a] ∧ ((SqL K H1 a xs ∧ R (Ite K a) H1) ∨ (SqT K H1 a xs ∧ R (IteT K a) H1))
theorem pi_enumA {X : Cx} {e : Expr} {ta : TA} {p pos tpos : Pos} {elts : List Expr} {kk : Nat} (hg : Gl X "enumerate") (hm : X.mg "enumerate" = none) (ha : PA X [e] ta) (hs : starEach [e] X.env = [(false, eval e X.env)] := by rfl) :
    PI X (.Tuple elts kk tpos) (.Call (.Name "enumerate" p) [e] [] pos) (iEnumA X.K ta) := by
  refine ⟨fun pins s σ H R I h => ?_⟩
  refine Call_ (ld_blt I hg hm boot_enumerate (PyProof.Rows.callWith_type1 (thn (ha.run pos pins s σ H _ I h) fun us s1 ⟨vs, H1, I1, r1, q1⟩ => ?_) hs rfl))
  obtain ⟨a, xs, ex, q⟩ := q1
  subst ex
  cases r1 with
  | cons r rr =>
    cases rr
    cases r
    have fr : ∀ b, b ∈ [s1.heap.objs.size + 1, s1.heap.objs.size] → FpOk X pins H1 b := fun b hb => by
      have e' : b = s1.heap.objs.size + 1 ∨ b = s1.heap.objs.size := by simpa using hb
      have hle : s1.heap.objs.size ≤ b := by
        rcases e' with z | z
        · rw [z]; exact Nat.le_add_right _ _
        · rw [z]; exact Nat.le_refl _
      exact I1.fpOk hle (I1.hok.fresh hle)
    rcases q with ⟨hq, q⟩ | ⟨hq, q⟩
    · obtain ⟨its, rv, p', hz⟩ := I1.list hq
      refine call_enumerate_list p'.isList fun h' he hit hsz hk => wpAny_pyIter_enum he ?_
      have I2 : Inv X pins σ H1 { s1 with heap := h' } := I1.kept (t' := s1.toks) hk
      exact ⟨s1.heap.objs.size + 1, [s1.heap.objs.size + 1, s1.heap.objs.size], _, _, H1, rfl, I2, turn_enum a (s1.heap.objs.size + 1) s1.heap.objs.size, ⟨⟨.none, he⟩, hit, Nat.succ_ne_self _⟩, fr, q⟩
    · obtain ⟨its, rv, p', hz⟩ := I1.tuple hq
      obtain ⟨o1, ho1, _⟩ := id p'
      have hal : a < s1.heap.objs.size := Heap.lt_size ho1
      refine call_enumT p' fun h' he hit hsz hk => wpAny_pyIter_enum he ?_
      have I2 : Inv X pins σ H1 { s1 with heap := h' } := I1.kept (t' := s1.toks) hk
      exact ⟨s1.heap.objs.size + 1, [s1.heap.objs.size + 1, s1.heap.objs.size], _, _, H1, rfl, I2, turn_enumT a (s1.heap.objs.size + 1) s1.heap.objs.size (Nat.ne_of_gt (Nat.lt_succ_of_lt hal)) (Nat.ne_of_lt hal), ⟨⟨.none, he⟩, hit, Nat.succ_ne_self _⟩, fr, q⟩
end Wr

/-! What a for walks; comprehensions; stores into lists; methods of lists. -/
namespace Wr
open PySem PySem.Spec PyProof.Rows L2

section
variable {K : Frag} {H H2 : Hp} {O O2 : Addr → Prop}
/-- what is frozen stays, whatever the owners do -/
structure Fz (H : Hp) (O : Addr → Prop) (H2 : Hp) (O2 : Addr → Prop) : Prop where
  same : ∀ a o, H a = some o → ¬ O a → H2 a = some o
  own : ∀ a, (∃ o, H a = some o) → O2 a → O a
theorem Fz.tup (f : Fz H O H2 O2) (od : Od H O) {a vs} (h : SqT K H a vs) : SqT K H2 a vs := by
  rcases h with (h | ⟨o, h⟩) | h
  · refine .inl (.inl (f.same _ _ h fun z => ?_))
    obtain ⟨o, e, m⟩ := od a z
    rw [h] at e; cases e; exact m
  · refine .inl (.inr ⟨o, f.same _ _ h fun z => ?_⟩)
    obtain ⟨o, e, m⟩ := od a z
    rw [h] at e; cases e; exact m
  · exact .inr h
theorem Fz.frz (f : Fz H O H2 O2) (od : Od H O) {a vs} (h : SqF K H O a vs) : SqF K H2 O2 a vs := by
  rcases h with ⟨h, n⟩ | ⟨o, h⟩ | h
  · exact .inl ⟨f.same _ _ h n, fun z => n (f.own _ ⟨_, h⟩ z)⟩
  · refine .inr (.inl ⟨o, f.same _ _ h fun z => ?_⟩)
    obtain ⟨o, e, m⟩ := od a z
    rw [h] at e; cases e; exact m
  · exact .inr (.inr h)
theorem Rep.fz {k v d F} (r : Rep K H O k v d F) (f : Fz H O H2 O2) (od : Od H O) : k = 0 → Rep K H2 O2 0 v d [] :=
  Rep.rec (motive_1 := fun k v d F _ => k = 0 → Rep K H2 O2 0 v d []) (motive_2 := fun k vs ds F _ => k = 0 → Reps K H2 O2 0 vs ds [])
    (fun _ => .non) (fun _ => .bl) (fun _ => .int) (fun _ => .str) (fun _ => .ty) (fun h _ ih e => .tup (f.tup od h) (ih e)) (fun h _ ih _ => .frz (f.frz od h) (ih rfl))
    (fun _ _ _ _ _ e => nomatch e) (fun _ => .nil) (fun _ _ _ h1 h2 e => .cons0 (h1 e) (h2 e)) r
theorem Reps.fz {k v d F} (r : Reps K H O k v d F) (f : Fz H O H2 O2) (od : Od H O) : k = 0 → Reps K H2 O2 0 v d [] :=
  Reps.rec (motive_1 := fun k v d F _ => k = 0 → Rep K H2 O2 0 v d []) (motive_2 := fun k vs ds F _ => k = 0 → Reps K H2 O2 0 vs ds [])
    (fun _ => .non) (fun _ => .bl) (fun _ => .int) (fun _ => .str) (fun _ => .ty) (fun h _ ih e => .tup (f.tup od h) (ih e)) (fun h _ ih _ => .frz (f.frz od h) (ih rfl))
    (fun _ _ _ _ _ e => nomatch e) (fun _ => .nil) (fun _ _ _ h1 h2 e => .cons0 (h1 e) (h2 e)) r
theorem Yl.seq {a : Addr} {vs ds} {J : It} (od : Od H O) (rs : Reps K H O 0 vs ds [])
    (hJ : ∀ H2 O2, Fz H O H2 O2 → (∀ i v, vs[i]? = some v → J.go i H2 ∧ ∀ x H3, J.yld i H2 x H3 → H3 = H2 ∧ x = v) ∧ J.stop vs.length H2) : Yl K H O J ds := fun H2 O2 h1 h2 => by
  have f : Fz H O H2 O2 := ⟨h1, h2⟩
  obtain ⟨j1, j2⟩ := hJ H2 O2 f
  refine ⟨fun i d hd => ?_, by rw [← rs.length]; exact j2⟩
  obtain ⟨v, hv, rv⟩ := rs.at0 hd
  obtain ⟨g, y⟩ := j1 i v hv
  refine ⟨g, fun x H3 hy => ?_⟩
  obtain ⟨rfl, rfl⟩ := y x H3 hy
  exact ⟨Same.refl _, rv.fz f od rfl⟩
end
section
variable {X : Cx} {tg : Expr}
theorem _root_.L2.PI.or {e : Expr} {t t' : TI} (h : PI X tg e t) (g : PI X tg e t') : PI X tg e (fun σ H R => t σ H R ∨ t' σ H R) := ⟨fun pins s σ H R I hq => hq.elim (h.run pins s σ H R I) (g.run pins s σ H R I)⟩
/-- a list, a tuple, a text -/
def seqItems : D → Option (List D)
  | .lst xs => some xs
  | .tup xs => some xs
  | .str x => some (x.cps.toList.map fun c => .str ⟨#[c]⟩)
  | _ => none
def seqI (m : EM) : IM := fun e => (m e).bind fun x => (seqItems x.2.1).map fun ds => (ds, x.2.2)
theorem gi_seq0 {e : Expr} {m : EM} (h : GE X e m) : GI X tg e (seqI (coldE m)) := by
  have hc := h.cold
  refine ⟨((pi_list hc.pe).or ((pi_tup hc.pe).or (pi_str hc.pe))).weaken fun σ H R hq => ?_⟩
  obtain ⟨O, env, U, ds, env', s, od, e, q⟩ := hq
  unfold seqI at e
  obtain ⟨⟨k, d, e1⟩, ea, e⟩ := Option.bind_eq_some_iff.mp e
  obtain ⟨ds', eb, e⟩ := Option.map_eq_some_iff.mp e
  have hk : k = 0 := by
    unfold coldE at ea
    obtain ⟨y, _, e2⟩ := Option.map_eq_some_iff.mp ea
    cases e2; rfl
  subst hk
  cases e
  have main : ∀ {v H1 O1 U1 F1}, Sl X.K H1 O1 σ e1 U1 → Od H1 O1 → Rep X.K H1 O1 0 v d F1 → Ext H O U H1 O1 (U1 ++ F1) → ∀ J, Yl X.K H1 O1 J ds → R J H1 := fun s1 od1 r1 x1 J y => q J _ _ _ s1 od1 (x1.weak fun a ha => List.mem_append_left _ ha) y
  cases d with
  | lst xs =>
    cases eb
    refine .inl ⟨O, env, U, 0, _, e1, s, od, ea, fun v H1 O1 U1 F1 s1 od1 r1 dj1 x1 => ?_⟩
    cases r1 with
    | @frz a vs _ hs rs =>
      refine ⟨a, rfl, ⟨vs, hs.sq⟩, main s1 od1 (.frz hs rs) x1 _ (Yl.seq (a := a) od1 rs fun H2 O2 f => ?_)⟩
      have hs2 := (f.frz od1 hs).sq
      exact ⟨fun i v hv => ⟨⟨vs, v, hs2, hv⟩, fun x H3 hy => ⟨hy.1, Option.some.inj ((hy.2 vs hs2).symm.trans hv)⟩⟩, ⟨vs, hs2, Nat.le_refl _⟩⟩
  | tup xs =>
    cases eb
    refine .inr (.inl ⟨O, env, U, 0, _, e1, s, od, ea, fun v H1 O1 U1 F1 s1 od1 r1 dj1 x1 => ?_⟩)
    have h0 := r1.zero; subst h0
    cases r1 with
    | @tup _ a vs _ _ hs rs =>
      refine ⟨a, rfl, ⟨vs, hs⟩, main s1 od1 (.tup hs rs) x1 _ (Yl.seq (a := a) od1 rs fun H2 O2 f => ?_)⟩
      have hs2 := f.tup od1 hs
      exact ⟨fun i v hv => ⟨⟨vs, v, hs2, hv⟩, fun x H3 hy => ⟨hy.1, Option.some.inj ((hy.2 vs hs2).symm.trans hv)⟩⟩, ⟨vs, hs2, Nat.le_refl _⟩⟩
  | str z =>
    cases eb
    refine .inr (.inr ⟨O, env, U, 0, _, e1, s, od, ea, fun v H1 O1 U1 F1 s1 od1 r1 dj1 x1 => ?_⟩)
    cases r1
    refine ⟨z, rfl, main s1 od1 .str x1 _ fun H2 O2 h1 h2 => ⟨fun i d hd => ?_, by simp [Its]⟩⟩
    rw [List.getElem?_map] at hd
    obtain ⟨c, hc', rfl⟩ := Option.map_eq_some_iff.mp hd
    have hc2 : z.cps[i]? = some c := by rw [← Array.getElem?_toList]; exact hc'
    refine ⟨(Array.getElem?_eq_some_iff.mp hc2).1, fun x H3 hy => ?_⟩
    obtain ⟨rfl, c', e3, rfl⟩ := hy
    rw [hc2] at e3; cases e3
    exact ⟨Same.refl _, .str⟩
  | _ => cases eb
def rangeD (lo hi : Int) : List D := (List.range (hi - lo).toNat).map fun i => .int (lo + (i : Nat))
def rng1 (m : EM) : IM := fun e => (m e).bind fun x => (asI x.2.1).bind fun j => if -(2 ^ 62) ≤ j ∧ j < 2 ^ 62 then some (rangeD 0 j, x.2.2) else none
theorem yl_range {K : Frag} {H : Hp} {O : Addr → Prop} (lo hi : Int) : Yl K H O (Itr lo (hi - lo).toNat) (rangeD lo hi) := fun H2 O2 _ _ => by
  refine ⟨fun i d hd => ?_, by show (hi - lo).toNat ≤ (rangeD lo hi).length; unfold rangeD; rw [List.length_map, List.length_range]; exact Nat.le_refl _⟩
  unfold rangeD at hd
  rw [List.getElem?_map] at hd
  obtain ⟨c, hc', rfl⟩ := Option.map_eq_some_iff.mp hd
  obtain ⟨h1, h2⟩ := List.getElem?_eq_some_iff.mp hc'
  have hi' : i < (hi - lo).toNat := by simpa using h1
  have hc : c = i := by rw [← h2]; simp
  subst hc
  refine ⟨hi', fun x H3 hy => ?_⟩
  obtain ⟨rfl, rfl⟩ := hy
  exact ⟨Same.refl _, .int⟩
theorem gi_range1 {a : Expr} {m : AEM} {p pos : Pos} (hg : Gl X "range") (hm : X.mg "range" = none) (ha : GAE X [a] m) (hs : starEach [a] X.env = [(false, eval a X.env)] := by rfl) :
    GI X tg (.Call (.Name "range" p) [a] [] pos) (fun e => (m e).bind fun x => (arK 0 x.1).bind fun ds => match ds with | [.int j] => if -(2 ^ 62) ≤ j ∧ j < 2 ^ 62 then some (rangeD 0 j, x.2) else none | _ => none) := by
  refine ⟨(pi_range1 hg hm ha.pa hs).weaken fun σ H R hq => ?_⟩
  obtain ⟨O, env, U, ds, env', s, od, e, q⟩ := hq
  obtain ⟨⟨as, e1⟩, ea, e⟩ := Option.bind_eq_some_iff.mp e
  obtain ⟨ds', eb, e⟩ := Option.bind_eq_some_iff.mp e
  refine ⟨O, env, U, as, e1, s, od, ea, fun vs H1 O1 U1 F1 s1 od1 r1 dj1 x1 => ?_⟩
  obtain ⟨G, rs, hG⟩ := arK_ok r1 eb
  have := rs.zero; subst this
  split at e
  · rename_i j
    obtain ⟨v, ws, rfl, a1, b1⟩ := rs.un0
    obtain ⟨rfl, _⟩ := b1.none
    cases a1
    split at e
    · rename_i hb
      cases e
      have y := yl_range (K := X.K) (H := H1) (O := O1) 0 j
      rw [Int.sub_zero] at y
      exact ⟨j, rfl, hb.1, hb.2, q _ H1 O1 U1 s1 od1 (x1.weak fun a ha => List.mem_append_left _ ha) y⟩
    · cases e
  · cases e
theorem gi_range2 {a b : Expr} {m : AEM} {p pos : Pos} (hg : Gl X "range") (hm : X.mg "range" = none) (ha : GAE X [a, b] m) (hs : starEach [a, b] X.env = [(false, eval a X.env), (false, eval b X.env)] := by rfl) (hs2 : starEach [b] X.env = [(false, eval b X.env)] := by rfl) :
    GI X tg (.Call (.Name "range" p) [a, b] [] pos) (fun e => (m e).bind fun x => (arK 0 x.1).bind fun ds => match ds with | [.int i, .int j] => if -(2 ^ 62) ≤ i ∧ i < 2 ^ 62 ∧ -(2 ^ 62) ≤ j ∧ j < 2 ^ 62 then some (rangeD i j, x.2) else none | _ => none) := by
  refine ⟨(pi_range2 hg hm ha.pa hs hs2).weaken fun σ H R hq => ?_⟩
  obtain ⟨O, env, U, ds, env', s, od, e, q⟩ := hq
  obtain ⟨⟨as, e1⟩, ea, e⟩ := Option.bind_eq_some_iff.mp e
  obtain ⟨ds', eb, e⟩ := Option.bind_eq_some_iff.mp e
  refine ⟨O, env, U, as, e1, s, od, ea, fun vs H1 O1 U1 F1 s1 od1 r1 dj1 x1 => ?_⟩
  obtain ⟨G, rs, hG⟩ := arK_ok r1 eb
  have := rs.zero; subst this
  split at e
  · rename_i i j
    obtain ⟨v, ws, rfl, a1, b1⟩ := rs.un0
    obtain ⟨v2, ws2, rfl, a2, b2⟩ := b1.un0
    obtain ⟨rfl, _⟩ := b2.none
    cases a1; cases a2
    split at e
    · rename_i hb
      cases e
      exact ⟨i, j, rfl, ⟨hb.1, hb.2.1, hb.2.2.1, hb.2.2.2⟩, q _ H1 O1 U1 s1 od1 (x1.weak fun a ha => List.mem_append_left _ ha) (yl_range i j)⟩
    · cases e
  · cases e
/-- enumerate of a list; zip of two lists, of two tuples -/
def enumD (xs : List D) : List D := (List.range xs.length).zip xs |>.map fun p => .tup [.int (p.1 : Nat), p.2]
theorem yl_enum {K : Frag} {H : Hp} {O : Addr → Prop} {a : Addr} {vs ds} (od : Od H O) (hs : SqF K H O a vs) (rs : Reps K H O 0 vs ds []) : Yl K H O (Ite K a) (enumD ds) := fun H2 O2 h1 h2 => by
  have f : Fz H O H2 O2 := ⟨h1, h2⟩
  have hs2 := (f.frz od hs).sq
  have hl : (enumD ds).length = vs.length := by rw [rs.length]; simp [enumD]
  refine ⟨fun i d hd => ?_, ⟨vs, hs2, by rw [hl]; exact Nat.le_refl _⟩⟩
  unfold enumD at hd
  rw [List.getElem?_map] at hd
  obtain ⟨⟨j, c⟩, hc, rfl⟩ := Option.map_eq_some_iff.mp hd
  rw [List.getElem?_zip_eq_some] at hc
  obtain ⟨hj, hc⟩ := hc
  have hj' : j = i := by
    obtain ⟨_, e⟩ := List.getElem?_eq_some_iff.mp hj
    rw [List.getElem_range] at e
    exact e.symm
  subst hj'
  obtain ⟨v, hv, rv⟩ := rs.at0 hc
  refine ⟨⟨vs, v, hs2, hv⟩, fun x H3 hy => ?_⟩
  obtain ⟨T, y, rfl, hT, rfl, g⟩ := hy
  have : y = v := Option.some.inj ((g vs hs2).symm.trans hv)
  subst this
  exact ⟨same_new hT, freshT (.cons0 .int (.cons0 (rv.fz f od rfl) .nil)) hT⟩
theorem yl_enumT {K : Frag} {H : Hp} {O : Addr → Prop} {a : Addr} {vs ds} (od : Od H O) (hs : SqT K H a vs) (rs : Reps K H O 0 vs ds []) : Yl K H O (IteT K a) (enumD ds) := fun H2 O2 h1 h2 => by
  have f : Fz H O H2 O2 := ⟨h1, h2⟩
  have hs2 := f.tup od hs
  have hl : (enumD ds).length = vs.length := by rw [rs.length]; simp [enumD]
  refine ⟨fun i d hd => ?_, ⟨vs, hs2, by rw [hl]; exact Nat.le_refl _⟩⟩
  unfold enumD at hd
  rw [List.getElem?_map] at hd
  obtain ⟨⟨j, c⟩, hc, rfl⟩ := Option.map_eq_some_iff.mp hd
  rw [List.getElem?_zip_eq_some] at hc
  obtain ⟨hj, hc⟩ := hc
  have hj' : j = i := by
    obtain ⟨_, e⟩ := List.getElem?_eq_some_iff.mp hj
    rw [List.getElem_range] at e
    exact e.symm
  subst hj'
  obtain ⟨v, hv, rv⟩ := rs.at0 hc
  refine ⟨⟨vs, v, hs2, hv⟩, fun x H3 hy => ?_⟩
  obtain ⟨T, y, rfl, hT, rfl, g⟩ := hy
  have : y = v := Option.some.inj ((g vs hs2).symm.trans hv)
  subst this
  exact ⟨same_new hT, freshT (.cons0 .int (.cons0 (rv.fz f od rfl) .nil)) hT⟩
theorem gi_enum {e : Expr} {m : AEM} {p pos tpos : Pos} {elts : List Expr} {kk : Nat} (hg : Gl X "enumerate") (hm : X.mg "enumerate" = none) (ha : GAE X [e] m) (hs : starEach [e] X.env = [(false, eval e X.env)] := by rfl) :
    GI X (.Tuple elts kk tpos) (.Call (.Name "enumerate" p) [e] [] pos) (fun e => (m e).bind fun x => (arK 0 x.1).bind fun ds => match ds with | [.lst xs] => some (enumD xs, x.2) | [.tup xs] => some (enumD xs, x.2) | _ => none) := by
  refine ⟨(pi_enumA hg hm ha.pa hs).weaken fun σ H R hq => ?_⟩
  obtain ⟨O, env, U, ds, env', s, od, e, q⟩ := hq
  obtain ⟨⟨as, e1⟩, ea, e⟩ := Option.bind_eq_some_iff.mp e
  obtain ⟨ds', eb, e⟩ := Option.bind_eq_some_iff.mp e
  refine ⟨O, env, U, as, e1, s, od, ea, fun vs H1 O1 U1 F1 s1 od1 r1 dj1 x1 => ?_⟩
  obtain ⟨G, rs, hG⟩ := arK_ok r1 eb
  have := rs.zero; subst this
  split at e
  · obtain ⟨v, ws, rfl, a1, b1⟩ := rs.un0
    obtain ⟨rfl, _⟩ := b1.none
    cases e
    cases a1 with
    | @frz a vs _ hs rs => exact ⟨a, vs, rfl, .inl ⟨hs.sq, q _ H1 O1 U1 s1 od1 (x1.weak fun a ha => List.mem_append_left _ ha) (yl_enum od1 hs rs)⟩⟩
  · obtain ⟨v, ws, rfl, a1, b1⟩ := rs.un0
    obtain ⟨rfl, _⟩ := b1.none
    cases e
    cases a1 with
    | @tup _ a vs _ _ hs rs => exact ⟨a, vs, rfl, .inr ⟨hs, q _ H1 O1 U1 s1 od1 (x1.weak fun a ha => List.mem_append_left _ ha) (yl_enumT od1 hs rs)⟩⟩
  · cases e
def zipD (xs ys : List D) : List D := (xs.zip ys).map fun p => .tup [p.1, p.2]
theorem zip_get {xs ys : List D} {i : Nat} {d : D} (h : (zipD xs ys)[i]? = some d) : ∃ a b, xs[i]? = some a ∧ ys[i]? = some b ∧ d = .tup [a, b] := by
  unfold zipD at h
  rw [List.getElem?_map] at h
  obtain ⟨⟨a, b⟩, hc, rfl⟩ := Option.map_eq_some_iff.mp h
  rw [List.getElem?_zip_eq_some] at hc
  exact ⟨a, b, hc.1, hc.2, rfl⟩
theorem zip_len (xs ys : List D) : (zipD xs ys).length = min xs.length ys.length := by simp [zipD]
theorem gi_zip {e e2 : Expr} {m : AEM} {p pos tpos : Pos} {elts : List Expr} {kk : Nat} (hg : Gl X "zip") (hm : X.mg "zip" = none) (ha : GAE X [e, e2] m)
    (hs : starEach [e, e2] X.env = (false, eval e X.env) :: starEach [e2] X.env := by rfl) (hpl : (backTo pos (starEach [e2] X.env)).any (·.1) = false := by rfl) :
    GI X (.Tuple elts kk tpos) (.Call (.Name "zip" p) [e, e2] [] pos) (fun e => (m e).bind fun x => (arK 0 x.1).bind fun ds => match ds with | [.lst xs, .lst ys] => some (zipD xs ys, x.2) | [.tup xs, .tup ys] => some (zipD xs ys, x.2) | _ => none) := by
  refine ⟨(RZ.pi_zipA hg hm ha.pa hs hpl).weaken fun σ H R hq => ?_⟩
  obtain ⟨O, env, U, ds, env', s, od, e, q⟩ := hq
  obtain ⟨⟨as, e1⟩, ea, e⟩ := Option.bind_eq_some_iff.mp e
  obtain ⟨ds', eb, e⟩ := Option.bind_eq_some_iff.mp e
  refine ⟨O, env, U, as, e1, s, od, ea, fun vs H1 O1 U1 F1 s1 od1 r1 dj1 x1 => ?_⟩
  obtain ⟨G, rs, hG⟩ := arK_ok r1 eb
  have := rs.zero; subst this
  split at e
  · obtain ⟨v, ws, rfl, a1, b1⟩ := rs.un0
    obtain ⟨v2, ws2, rfl, a2, b2⟩ := b1.un0
    obtain ⟨rfl, _⟩ := b2.none
    cases e
    cases a1 with
    | @frz a vs _ hs ra =>
      cases a2 with
      | @frz b us _ hs' rb =>
        refine ⟨a, b, vs, us, rfl, .inl ⟨hs.sq, hs'.sq, q _ H1 O1 U1 s1 od1 (x1.weak fun a ha => List.mem_append_left _ ha) fun H2 O2 h1 h2 => ?_⟩⟩
        have f : Fz H1 O1 H2 O2 := ⟨h1, h2⟩
        have k1 := (f.frz od1 hs).sq
        have k2 := (f.frz od1 hs').sq
        refine ⟨fun i d hd => ?_, ⟨vs, us, k1, k2, by rw [zip_len, ra.length, rb.length]; omega⟩⟩
        obtain ⟨c1, c2, g1, g2, rfl⟩ := zip_get hd
        obtain ⟨w1, e1', q1⟩ := ra.at0 g1
        obtain ⟨w2, e2', q2⟩ := rb.at0 g2
        refine ⟨⟨vs, us, w1, w2, k1, k2, e1', e2'⟩, fun x H3 hy => ?_⟩
        obtain ⟨T, y1, y2, rfl, hT, rfl, z1, z2⟩ := hy
        have u1 : y1 = w1 := Option.some.inj ((z1 vs k1).symm.trans e1')
        have u2 : y2 = w2 := Option.some.inj ((z2 us k2).symm.trans e2')
        subst u1; subst u2
        exact ⟨same_new hT, freshT (.cons0 (q1.fz f od1 rfl) (.cons0 (q2.fz f od1 rfl) .nil)) hT⟩
  · obtain ⟨v, ws, rfl, a1, b1⟩ := rs.un0
    obtain ⟨v2, ws2, rfl, a2, b2⟩ := b1.un0
    obtain ⟨rfl, _⟩ := b2.none
    cases e
    cases a1 with
    | @tup _ a vs _ _ hs ra =>
      cases a2 with
      | @tup _ b us _ _ hs' rb =>
        refine ⟨a, b, vs, us, rfl, .inr ⟨hs, hs', q _ H1 O1 U1 s1 od1 (x1.weak fun a ha => List.mem_append_left _ ha) fun H2 O2 h1 h2 => ?_⟩⟩
        have f : Fz H1 O1 H2 O2 := ⟨h1, h2⟩
        have k1 := f.tup od1 hs
        have k2 := f.tup od1 hs'
        refine ⟨fun i d hd => ?_, ⟨vs, us, k1, k2, by rw [zip_len, ra.length, rb.length]; omega⟩⟩
        obtain ⟨c1, c2, g1, g2, rfl⟩ := zip_get hd
        obtain ⟨w1, e1', q1⟩ := ra.at0 g1
        obtain ⟨w2, e2', q2⟩ := rb.at0 g2
        refine ⟨⟨vs, us, w1, w2, k1, k2, e1', e2'⟩, fun x H3 hy => ?_⟩
        obtain ⟨T, y1, y2, rfl, hT, rfl, z1, z2⟩ := hy
        have u1 : y1 = w1 := Option.some.inj ((z1 vs k1).symm.trans e1')
        have u2 : y2 = w2 := Option.some.inj ((z2 us k2).symm.trans e2')
        subst u1; subst u2
        exact ⟨same_new hT, freshT (.cons0 (q1.fz f od1 rfl) (.cons0 (q2.fz f od1 rfl) .nil)) hT⟩
  · cases e

/-! ### comprehensions -/
def wipeE (e : Env) : List Nat → Env
  | [] => e
  | v :: vs => (wipeE e vs).set v none
/-- the slots vs as they were in e0 -/
def backE (e0 e : Env) : List Nat → Env
  | [] => e
  | v :: vs => (backE e0 e vs).set v ((e0[v]?).getD none)
/-- nothing in the slots vs is owned -/
def coolE (e : Env) (vs : List Nat) : Bool := vs.all fun v => match e[v]? with
  | some (some (k, d)) => k == 0 || isScal d
  | _ => true
theorem Sl.hole {K : Frag} {H : Hp} {O : Addr → Prop} {σ : L2.St} {e : Env} {U : List Addr} (s : Sl K H O σ e U) : ∀ (i : Nat), ∃ U', Sl K H O (σ.set i none) (e.set i none) U' ∧ (∀ a ∈ U', a ∈ U) := by
  induction s with
  | nil => intro i; exact ⟨[], .nil, fun _ h => h⟩
  | @skip x σ e U s ih =>
    intro i
    cases i with
    | zero => exact ⟨U, s.skip, fun _ h => h⟩
    | succ i => obtain ⟨U', a, b⟩ := ih i; exact ⟨U', a.skip, b⟩
  | @keep w σ k' d' e G U r' s dj' ih =>
    intro i
    cases i with
    | zero => exact ⟨U, s.skip, fun a h => List.mem_append_right _ h⟩
    | succ i =>
      obtain ⟨U', a, b⟩ := ih i
      exact ⟨G ++ U', Sl.keep r' a fun x hx z => dj' x hx (b x z), fun x hx => (List.mem_append.mp hx).elim (List.mem_append_left _) fun z => List.mem_append_right _ (b x z)⟩
theorem Sl.wipe {K : Frag} {H : Hp} {O : Addr → Prop} {σ : L2.St} {e : Env} {U : List Addr} (s : Sl K H O σ e U) : ∀ (vs : List Nat), ∃ U', Sl K H O (L2.wipe σ vs) (wipeE e vs) U' ∧ (∀ a ∈ U', a ∈ U)
  | [] => ⟨U, s, fun _ h => h⟩
  | v :: vs => by
    obtain ⟨U', a, b⟩ := s.wipe vs
    obtain ⟨U2, a2, b2⟩ := a.hole v
    exact ⟨U2, a2, fun x hx => b x (b2 x hx)⟩
/-- a slot's old value, which is owned by nobody, is back -/
theorem Sl.back1 {K : Frag} {H : Hp} {O : Addr → Prop} {σ : L2.St} {e : Env} {U : List Addr} (s : Sl K H O σ e U) : ∀ {i : Nat} {x : Option V} {y : Option (Nat × D)},
    (∀ k d, y = some (k, d) → ∃ v, x = some v ∧ Rep K H O k v d []) → ∃ U', Sl K H O (σ.set i x) (e.set i y) U' ∧ (∀ a ∈ U', a ∈ U) := by
  induction s with
  | nil => intro i x y _; exact ⟨[], .nil, fun _ h => h⟩
  | @skip z σ e U s ih =>
    intro i x y h
    cases i with
    | zero =>
      cases y with
      | none => exact ⟨U, s.skip, fun _ h => h⟩
      | some p =>
        obtain ⟨v, rfl, r⟩ := h p.1 p.2 rfl
        exact ⟨[] ++ U, Sl.keep r s Disj.nil, fun _ h => h⟩
    | succ i => obtain ⟨U', a, b⟩ := ih (i := i) h; exact ⟨U', a.skip, b⟩
  | @keep w σ k' d' e G U r' s dj' ih =>
    intro i x y h
    cases i with
    | zero =>
      cases y with
      | none => exact ⟨U, s.skip, fun a h => List.mem_append_right _ h⟩
      | some p =>
        obtain ⟨v, rfl, r⟩ := h p.1 p.2 rfl
        exact ⟨[] ++ U, Sl.keep r s Disj.nil, fun a h => List.mem_append_right _ h⟩
    | succ i =>
      obtain ⟨U', a, b⟩ := ih (i := i) h
      exact ⟨G ++ U', Sl.keep r' a fun x hx z => dj' x hx (b x z), fun x hx => (List.mem_append.mp hx).elim (List.mem_append_left _) fun z => List.mem_append_right _ (b x z)⟩
theorem set_back {α : Type} (l : List α) (i : Nat) (x : α) (h : l[i]? = some x) : l.set i x = l := by
  obtain ⟨h1, h2⟩ := List.getElem?_eq_some_iff.mp h
  rw [← h2, List.set_getElem_self]
theorem wipe_get (σ : L2.St) : ∀ (vs : List Nat) (i : Nat), (L2.wipe σ vs)[i]? = if i ∈ vs then (σ[i]?).map fun _ => none else σ[i]?
  | [], i => by simp [L2.wipe]
  | v :: vs, i => by
    unfold L2.wipe
    have ih := wipe_get σ vs i
    by_cases hi : v = i
    · subst hi
      rw [List.getElem?_set]
      simp only [if_true, wipe_length]
      by_cases hl : v < σ.length
      · simp [hl]
      · simp [hl]
    · rw [List.getElem?_set_ne hi, ih]
      simp only [List.mem_cons]
      by_cases h2 : i ∈ vs
      · simp [h2]
      · simp [h2, Ne.symm hi]
/-- the list so far, turn by turn -/
def toKind (k : Nat) (x : Nat × D) : Option D := if x.1 = k ∨ isScal x.2 = true then some x.2 else none
def lcL (k : Nat) (vs : List Nat) (ta : TAs) (mt : TEM) (me : EM) : List D → Env → Option (List D × Env)
  | [], e => some ([], e)
  | d :: ds, e => (ta 0 d (wipeE e vs)).bind fun e1 => (mt e1).bind fun b => if b.1 = true then (me b.2).bind fun y => (toKind k (y.1, y.2.1)).bind fun v => (lcL k vs ta mt me ds y.2.2).map fun r => (v :: r.1, r.2)
    else lcL k vs ta mt me ds b.2
def lcE (k : Nat) (vs : List Nat) (mi : IM) (ta : TAs) (mt : TEM) (me : EM) : EM := fun e => (mi e).bind fun x => if coolE x.2 vs = true ∧ x.1.length ≤ sizeLine then (lcL k vs ta mt me x.1 x.2).map fun r => (k + 1, .lst r.1, backE x.2 (wipeE r.2 vs) vs) else none
def bkS (σ τ : L2.St) : List Nat → L2.St
  | [] => τ
  | v :: vs => (bkS σ τ vs).set v ((σ[v]?).getD none)
theorem bkS_len (σ τ : L2.St) : ∀ vs, (bkS σ τ vs).length = τ.length
  | [] => rfl
  | v :: vs => by unfold bkS; rw [List.length_set, bkS_len σ τ vs]
theorem bkS_get {σ τ : L2.St} (hl : τ.length = σ.length) : ∀ (vs : List Nat) (i : Nat), (bkS σ τ vs)[i]? = if i ∈ vs then σ[i]? else τ[i]?
  | [], i => by simp [bkS]
  | v :: vs, i => by
    unfold bkS
    have ih := bkS_get hl vs i
    by_cases hi : v = i
    · subst hi
      rw [List.getElem?_set]
      simp only [if_true, bkS_len, List.mem_cons, true_or]
      by_cases h : v < σ.length
      · rw [if_pos (by rw [hl]; exact h), List.getElem?_eq_getElem h]; rfl
      · rw [if_neg (by rw [hl]; exact h), List.getElem?_eq_none (by omega)]
    · rw [List.getElem?_set_ne hi, ih]
      simp only [List.mem_cons]
      by_cases h2 : i ∈ vs
      · simp [h2]
      · simp [h2, Ne.symm hi]
theorem bkS_wipe (σ : L2.St) (vs : List Nat) : bkS σ (L2.wipe σ vs) vs = σ := by
  apply List.ext_getElem?
  intro i
  rw [bkS_get (wipe_length σ vs), wipe_get]
  split <;> rfl
theorem Sl.backs {K : Frag} {H : Hp} {O : Addr → Prop} {σ τ : L2.St} {e0 e : Env} {U : List Addr} (s : Sl K H O τ e U) : ∀ (vs : List Nat),
    (∀ v ∈ vs, ∀ k d, (e0[v]?).getD none = some (k, d) → ∃ w, (σ[v]?).getD none = some w ∧ Rep K H O k w d []) → ∃ U', Sl K H O (bkS σ τ vs) (backE e0 e vs) U' ∧ (∀ a ∈ U', a ∈ U)
  | [], _ => ⟨U, s, fun _ h => h⟩
  | v :: vs, h => by
    obtain ⟨U1, s1, m1⟩ := s.backs (σ := σ) (e0 := e0) vs fun w hw => h w (List.mem_cons_of_mem _ hw)
    obtain ⟨U2, s2, m2⟩ := s1.back1 (i := v) (x := (σ[v]?).getD none) (y := (e0[v]?).getD none) (h v List.mem_cons_self)
    exact ⟨U2, s2, fun a ha => m1 a (m2 a ha)⟩
theorem Reps.snoc {K : Frag} {H : Hp} {O : Addr → Prop} {k : Nat} {v d G} (a : Rep K H O k v d G) : ∀ {ds vs F}, Reps K H O k vs ds F → Disj F G → Reps K H O k (vs ++ [v]) (ds ++ [d]) (F ++ G)
  | [], vs, F, r, _ => by
    obtain ⟨rfl, rfl⟩ := r.none
    have := Reps.cons a (Reps.nil (K := K) (H := H) (O := O) (k := k)) Disj.nilR
    simpa using this
  | d0 :: ds, vs, F, r, dj => by
    obtain ⟨v0, ws, F1, F2, rfl, rfl, r1, r2, dj12⟩ := r.uncons
    have ih := Reps.snoc a r2 dj.right
    have := Reps.cons r1 ih (Disj.appR dj12 dj.left)
    simpa [List.append_assoc] using this
theorem toKind_rep {K : Frag} {H : Hp} {O : Addr → Prop} {j k v d F d'} (r : Rep K H O j v d F) (h : toKind k (j, d) = some d') : d' = d ∧ ∃ G, Rep K H O k v d G ∧ ∀ a ∈ G, a ∈ F := by
  unfold toKind at h
  split at h
  · rename_i hk
    cases h
    refine ⟨rfl, ?_⟩
    rcases hk with hk | hk
    · have hk : j = k := hk
      subst hk; exact ⟨F, r, fun _ h => h⟩
    · exact ⟨[], r.scalO hk, fun _ z => nomatch z⟩
  · cases h
structure GTs (X : Cx) (ifs : List Expr) (mt : TEM) : Prop where
  pts : PTs X ifs (rdTE X.K mt)
def yesT : TEM := fun e => some (true, e)
theorem gts_nil : GTs X [] yesT := ⟨⟨fun pins s σ H Q I h => pts_nil.run pins s σ H Q I (by
  obtain ⟨O, env, U, b, env', s, od, e, q⟩ := h
  cases e
  exact q H O U s od (.refl fun _ h => h))⟩⟩
theorem gts_one {c : Expr} {mt : TEM} (h : GTE X c mt) : GTs X [c] mt := ⟨pts_one h.pt⟩
theorem lc_rd (k : Nat) {W vs : List Nat} {mi : IM} {ta : TAs} {mt : TEM} {me : EM} (hW : ∀ i ∈ W, i ∈ vs) : ∀ σ H Q, rdE X.K (lcE k vs mi ta mt me) σ H Q → tLc (rdI X.K mi) (rdG X.K W ta) (rdTE X.K mt) (rdE X.K me) vs σ H Q := by
  intro σ H Q hq
  obtain ⟨O, env, U, kk, dd, env', s, od, e, q⟩ := hq
  unfold lcE at e
  obtain ⟨⟨ds, e1⟩, ea, e⟩ := Option.bind_eq_some_iff.mp e
  split at e
  case isFalse => cases e
  rename_i hcond
  obtain ⟨hcool, hsz⟩ := hcond
  have hsz : ds.length ≤ sizeLine := hsz
  obtain ⟨⟨items, e2⟩, eb, e⟩ := Option.map_eq_some_iff.mp e
  cases e
  refine ⟨O, env, U, ds, e1, s, od, ea, fun J H1 O1 U1 s1 od1 x1 yl Dn hD => ?_⟩
  obtain ⟨-, od1', sl1', ex1'⟩ := freshO (K := X.K) (k := k) od1 (Reps.nil) hD
  obtain ⟨Uw, sw, mw⟩ := (sl1' s1).wipe vs
  have mtU1 := s1.mt
  refine ⟨fun i m' H' => m' = ds.length - i ∧ i ≤ ds.length ∧ ∃ e' O' U' acc accD F rest, Sl X.K H' O' (L2.wipe σ vs) (wipeE e' vs) U' ∧ Od H' O' ∧ H' Dn = some (.lst acc) ∧ O' Dn ∧ Dn ∉ U' ∧ Dn ∉ F ∧ Reps X.K H' O' k acc accD F ∧ Disj F U' ∧
    Ext H1 O1 U1 H' O' (Dn :: (U' ++ F)) ∧ acc.length ≤ i ∧ lcL k vs ta mt me (ds.drop i) e' = some (rest, e2) ∧ items = accD ++ rest,
    ⟨ds.length, by simp, Nat.zero_le _, e1, _, Uw, [], [], [], items, sw, od1', upd_same, .inr rfl, fun z => ?_, (fun z => by cases z), Reps.nil, Disj.nil, (ex1' U1).weak fun a ha => ?_, Nat.le_refl _, by simpa using eb, rfl⟩, ?_⟩
  · obtain ⟨_, o, e, _⟩ := mtU1 Dn (mw Dn z)
    rw [hD] at e; cases e
  · rcases List.mem_cons.mp ha with z | z
    · subst z; exact List.mem_cons_self
    · simp at z; exact List.mem_cons_of_mem _ (mw a z)
  rintro i m' H' ⟨rfl, hle, e', O', U', acc, accD, F, rest, s', od', hDn, oD, nU, nF, ra, djF, x', hacc, eL, eI⟩
  have kept : ∀ a o, H1 a = some o → ¬ O1 a → H' a = some o := fun a ob h n => x'.same a ob h fun z => n (mtU1 a z).1
  by_cases hlt : i < ds.length
  · obtain ⟨y1, y2⟩ := yl H' O' kept x'.own
    have hd : ds[i]? = some ds[i] := List.getElem?_eq_getElem hlt
    obtain ⟨g1, g2⟩ := y1 i _ hd
    rw [List.drop_eq_getElem_cons hlt] at eL
    unfold lcL at eL
    obtain ⟨e3, ec, eL⟩ := Option.bind_eq_some_iff.mp eL
    obtain ⟨⟨b, e4⟩, ed, eL⟩ := Option.bind_eq_some_iff.mp eL
    refine .inr ⟨g1, fun H' => i + 1 ≤ ds.length ∧ ∃ e' O' U' acc accD F rest, Sl X.K H' O' (L2.wipe σ vs) (wipeE e' vs) U' ∧ Od H' O' ∧ H' Dn = some (.lst acc) ∧ O' Dn ∧ Dn ∉ U' ∧ Dn ∉ F ∧ Reps X.K H' O' k acc accD F ∧ Disj F U' ∧
      Ext H1 O1 U1 H' O' (Dn :: (U' ++ F)) ∧ acc.length ≤ i + 1 ∧ lcL k vs ta mt me (ds.drop (i + 1)) e' = some (rest, e2) ∧ items = accD ++ rest, fun H2 ⟨hh, q⟩ => ⟨ds.length - (i + 1), by omega, rfl, hh, q⟩, fun x H3 hy => ?_⟩
    obtain ⟨sm, rx⟩ := g2 x H3 hy
    have s3 := s'.same sm
    have od3 := od'.same sm
    have ra3 := ra.same sm
    have hD3 := sm _ _ hDn
    have x3 : Ext H1 O1 U1 H3 O' (Dn :: (U' ++ F)) := x'.trans (.of_same sm fun _ h => h) od1
    refine ⟨O', _, U', 0, ds[i], [], e3, s3, od3, rx, Disj.nil, ec, fun σ2 U2 s2 m2 hb2 hl2 => ?_⟩
    have m2' : ∀ a ∈ U2, a ∈ U' := fun a ha => (m2 a ha).elim (fun z => nomatch z) id
    have hw2 : L2.wipe σ2 vs = L2.wipe σ vs := by
      apply List.ext_getElem?
      intro j
      rw [wipe_get, wipe_get]
      by_cases hj : j ∈ vs
      · simp only [if_pos hj]
        have hl3 : σ2.length = σ.length := by rw [hl2, wipe_length]
        by_cases hjl : j < σ.length
        · rw [List.getElem?_eq_getElem (by omega), List.getElem?_eq_getElem hjl]; rfl
        · rw [List.getElem?_eq_none (by omega), List.getElem?_eq_none (by omega)]
      · simp only [if_neg hj]
        have := hb2 j fun z => hj (hW j z)
        rw [wipe_get, if_neg hj] at this
        exact this
    refine ⟨hw2, O', e3, U2, b, e4, s2, od3, ed, fun H4 O4 U4 s4 od4 x4 => ?_⟩
    have nU2 : Dn ∉ U2 := fun z => nU (m2' _ z)
    have dF2 : Disj F U2 := fun a ha z => djF a ha (m2' a z)
    have hD4 := x4.same _ _ hD3 nU2
    have oD4 := x4.keep _ oD nU2
    have nU4 : Dn ∉ U4 := fun z => (x4.new _ z).elim nU2 fun z => by rw [hD3] at z; cases z
    have ra4 := x4.reps s2.mt ra3 dF2
    have dF4 : Disj F U4 := x4.aside ra3.mt dF2
    have x14 : Ext H1 O1 U1 H4 O4 (Dn :: (U4 ++ F)) := by
      have h1 : Ext H1 O1 U1 H3 O' (U2 ++ (Dn :: F)) := x3.weak fun a ha => by
        rcases List.mem_append.mp ha with z | z
        · exact List.mem_cons_of_mem _ (List.mem_append_left _ (m2' a z))
        · rcases List.mem_cons.mp z with z | z
          · subst z; exact List.mem_cons_self
          · exact List.mem_cons_of_mem _ (List.mem_append_right _ z)
      exact h1.seq x4 od1 fun a ha => by
        rcases List.mem_cons.mp ha with z | z
        · subst z; exact .inr List.mem_cons_self
        · exact (List.mem_append.mp z).imp id fun z => List.mem_cons_of_mem _ z
    cases b with
    | false =>
      have eL : lcL k vs ta mt me (ds.drop (i + 1)) e4 = some (rest, e2) := eL
      refine iteF ⟨hlt, ?_⟩
      obtain ⟨U6, s6, m6⟩ := s4.wipe vs
      rw [hw2] at s6
      exact ⟨e4, O4, U6, acc, accD, F, rest, s6, od4, hD4, oD4, fun z => nU4 (m6 _ z), nF, ra4, fun a ha z => dF4 a ha (m6 a z), x14.weak fun a ha => by
        rcases List.mem_cons.mp ha with z | z
        · subst z; exact List.mem_cons_self
        · exact List.mem_cons_of_mem _ ((List.mem_append.mp z).elim (fun z => List.mem_append_left _ (m6 a z)) fun z => List.mem_append_right _ z), by omega, eL, eI⟩
    | true =>
      have eL : ((me e4).bind fun y => (toKind k (y.1, y.2.1)).bind fun v => (lcL k vs ta mt me (ds.drop (i + 1)) y.2.2).map fun r => (v :: r.1, r.2)) = some (rest, e2) := eL
      obtain ⟨⟨j, dv, e5⟩, ee, eL⟩ := Option.bind_eq_some_iff.mp eL
      obtain ⟨dk, ef, eL⟩ := Option.bind_eq_some_iff.mp eL
      obtain ⟨⟨rest', e6⟩, eg, eh⟩ := Option.map_eq_some_iff.mp eL
      cases eh
      refine iteT ⟨O4, e4, U4, j, dv, e5, s4, od4, ee, fun v H5 O5 U5 F5 s5 od5 r5 dj5 x5 => ?_⟩
      have hD5 := x5.same _ _ hD4 nU4
      have oD5 := x5.keep _ oD4 nU4
      have nUF5 : Dn ∉ U5 ++ F5 := fun z => (x5.new _ z).elim nU4 fun z => by rw [hD4] at z; cases z
      have ra5 := x5.reps s4.mt ra4 dF4
      have dF5 : Disj F (U5 ++ F5) := x5.aside ra4.mt dF4
      obtain ⟨rfl, G, rG, mG⟩ := toKind_rep r5 ef
      refine ⟨acc, hD5, by omega, hlt, ?_⟩
      have kp : Kp X.K H5 (upd H5 Dn (.lst (acc ++ [v]))) O5 O5 [Dn] := ⟨fun a o e n => by rw [upd_ne (fun z => n (by simp [z]))]; exact e, fun _ _ h => h, fun _ h _ => h, fun a ha => by
        have : a = Dn := by simpa using ha
        subst this; exact ⟨oD5, _, hD5, trivial⟩⟩
      have dN : ∀ {L : List Addr}, Dn ∉ L → Disj L [Dn] := fun h a ha z => by
        have : a = Dn := by simpa using z
        exact h (by rw [← this]; exact ha)
      obtain ⟨U6, s6, m6⟩ := s5.wipe vs
      rw [hw2] at s6
      have s7 := s6.stay kp (dN fun z => nUF5 (List.mem_append_left _ (m6 _ z)))
      have raF := ra5.stay kp (dN nF)
      have rGn := rG.stay kp (dN fun z => nUF5 (List.mem_append_right _ (mG _ z)))
      refine ⟨e5, O5, U6, acc ++ [v], accD ++ [dk], F ++ G, rest', s7, fun a h => ?_, upd_same, oD5, fun z => nUF5 (List.mem_append_left _ (m6 _ z)), fun z => (List.mem_append.mp z).elim nF fun z => nUF5 (List.mem_append_right _ (mG _ z)),
        Reps.snoc rGn raF (fun a ha z => dF5 a ha (List.mem_append_right _ (mG a z))), Disj.app (fun a ha z => dF5 a ha (List.mem_append_left _ (m6 a z))) (fun a ha z => dj5 a (mG a ha) (m6 a z)), ?_, by simp; omega, eg, by rw [eI]; simp⟩
      · by_cases hh : a = Dn
        · subst hh; exact ⟨_, upd_same, trivial⟩
        · obtain ⟨o, e, m⟩ := od5 a h
          exact ⟨o, by rw [upd_ne hh]; exact e, m⟩
      · have x15 : Ext H1 O1 U1 H5 O5 (Dn :: (U5 ++ F5) ++ F) := by
          have h1 : Ext H1 O1 U1 H4 O4 (U4 ++ (Dn :: F)) := x14.weak fun a ha => by
            rcases List.mem_append.mp ha with z | z
            · exact List.mem_cons_of_mem _ (List.mem_append_left _ z)
            · rcases List.mem_cons.mp z with z | z
              · subst z; exact List.mem_cons_self
              · exact List.mem_cons_of_mem _ (List.mem_append_right _ z)
          exact h1.seq x5 od1 fun a ha => by
            rcases List.mem_append.mp ha with z | z
            · rcases List.mem_cons.mp z with z | z
              · subst z; exact .inr List.mem_cons_self
              · exact .inl z
            · exact .inr (List.mem_cons_of_mem _ z)
        have x56 : Ext H5 O5 (Dn :: (U5 ++ F5) ++ F) (upd H5 Dn (.lst (acc ++ [v]))) O5 (Dn :: (U5 ++ F5) ++ F) := ⟨fun a o e n => by rw [upd_ne (fun z => n (by simp [z]))]; exact e, fun a ⟨o, e⟩ => by
          by_cases hh : a = Dn
          · subst hh; exact ⟨_, upd_same⟩
          · exact ⟨o, by rw [upd_ne hh]; exact e⟩, fun _ _ h => h, fun _ h _ => h, fun a ha => .inl ha⟩
        refine (x15.trans x56 od1).weak fun a ha => ?_
        rcases List.mem_cons.mp ha with z | z
        · subst z; exact List.mem_append_left _ List.mem_cons_self
        · rcases List.mem_append.mp z with z | z
          · exact List.mem_append_left _ (List.mem_cons_of_mem _ (List.mem_append_left _ (m6 a z)))
          · rcases List.mem_append.mp z with z | z
            · exact List.mem_append_right _ z
            · exact List.mem_append_left _ (List.mem_cons_of_mem _ (List.mem_append_right _ (mG a z)))
  · have hi : i = ds.length := by omega
    subst hi
    rw [List.drop_length] at eL
    cases eL
    refine .inl ⟨(yl H' O' kept x'.own).2, ?_⟩
    rw [List.append_nil] at eI
    subst eI
    obtain ⟨U9, s9, m9⟩ := s'.backs (σ := σ) (e0 := e1) vs fun v hv k d h => by
      have hc1 := List.all_eq_true.mp hcool v hv
      cases h1 : e1[v]? with
      | none => rw [h1] at h; cases h
      | some y =>
        rw [h1] at h hc1
        have hy : y = some (k, d) := h
        subst hy
        have hk : (k == 0 || isScal d) = true := hc1
        obtain ⟨w, G, hw, rw', _⟩ := s1.get h1
        refine ⟨w, by rw [hw]; rfl, ?_⟩
        have f : Fz H1 O1 H' O' := ⟨kept, x'.own⟩
        rcases Bool.or_eq_true_iff.mp hk with hk | hk
        · have hk : k = 0 := by simpa using hk
          subst hk
          exact rw'.fz f od1 rfl
        · exact rw'.scalO hk
    rw [bkS_wipe] at s9
    refine q (.ref Dn) H' O' U9 (Dn :: F) s9 od' (.own hDn oD nF ra) (fun a ha z => ?_) ?_
    · rcases List.mem_cons.mp ha with y | y
      · subst y; exact nU (m9 _ z)
      · exact djF a y (m9 a z)
    · refine (x1.trans x' od).weak fun a ha => ?_
      rcases List.mem_append.mp ha with z | z
      · exact List.mem_cons_of_mem _ (List.mem_append_left _ (m9 a z))
      · rcases List.mem_cons.mp z with z | z
        · subst z; exact List.mem_cons_self
        · exact List.mem_cons_of_mem _ (List.mem_append_right _ z)
theorem ge_lc (k : Nat) {W : List Nat} {elt tg iter : Expr} {ifs : List Expr} {scope : Scope} {own : List (Str × Nat)} {pos : Pos} {mi : IM} {ta : TAs} {mt : TEM} {me : EM} (hc : X.calm = true) (hN : X.N.Nodup) (hi : GI X tg iter mi) (ok : BlkOk X.N X.env.scope scope own)
    (hg : ∀ (s : Shared) (H : Hp) (C : Addr) (cl : List (Str × Addr)) (fp : List Addr), GG (X.blk s H scope (compEnvC scope cl C X.env) fp) W tg ta) (ht : ∀ (s : Shared) (H : Hp) (C : Addr) (cl : List (Str × Addr)) (fp : List Addr), GTs (X.blk s H scope (compEnvC scope cl C X.env) fp) ifs mt)
    (he : ∀ (s : Shared) (H : Hp) (C : Addr) (cl : List (Str × Addr)) (fp : List Addr), GE (X.blk s H scope (compEnvC scope cl C X.env) fp) elt me) (hW : ∀ i ∈ W, i ∈ own.map (·.2) := by decide) (hs : ∀ x, foldedSetIterable iter X.env x = pure x := by intro _; rfl) :
    GE X (.ListComp elt [⟨tg, iter, ifs, 0⟩] scope pos) (lcE k (own.map (·.2)) mi ta mt me) := by
  exact ⟨(pe_lc (te := rdE X.K me) (tt := rdTE X.K mt) (g := rdG X.K W ta) (wi := rdI X.K mi) hc hN hi.pi ok (fun s H C cl fp => (hg s H C cl fp).pg) (fun s H C cl fp => (ht s H C cl fp).pts) (fun s H C cl fp => (he s H C cl fp).pe) hs).weaken (lc_rd k hW)⟩
/-- name = [.. for ..] whose list the model hands over at once -/
theorem gs_setLc {B : List Nat} (k i : Nat) {W : List Nat} {y : Str} {py : Pos} {elt tg iter : Expr} {ifs : List Expr} {scope : Scope} {own : List (Str × Nat)} {pos spos : Pos} {mi : IM} {ta : TAs} {mt : TEM} {me : EM} (hc : X.calm = true) (hN : X.N.Nodup) (hi : GI X tg iter mi) (ok : BlkOk X.N X.env.scope scope own)
    (hg : ∀ (s : Shared) (H : Hp) (C : Addr) (cl : List (Str × Addr)) (fp : List Addr), GG (X.blk s H scope (compEnvC scope cl C X.env) fp) W tg ta) (ht : ∀ (s : Shared) (H : Hp) (C : Addr) (cl : List (Str × Addr)) (fp : List Addr), GTs (X.blk s H scope (compEnvC scope cl C X.env) fp) ifs mt)
    (he : ∀ (s : Shared) (H : Hp) (C : Addr) (cl : List (Str × Addr)) (fp : List Addr), GE (X.blk s H scope (compEnvC scope cl C X.env) fp) elt me) (hy : X.N[i]? = some y := by rfl) (hyl : X.env.scope.names.lookup y = some .local := by rfl) (hk : X.env.scope.kind = .function := by rfl) (hl : (py.line == pos.line) = true := by rfl)
    (ha : (scope.names.any fun (n, k) => n == y && (k == .local || k == .cell)) = false := by rfl) (hB : i ∉ B := by decide) (hW : ∀ i ∈ W, i ∈ own.map (·.2) := by decide) (hs : ∀ x, foldedSetIterable iter X.env x = pure x := by intro _; rfl) :
    GS X B (.Assign [.Name y py] (.ListComp elt [⟨tg, iter, ifs, 0⟩] scope pos) spos) (asgS (nameT i) (lcE k (own.map (·.2)) mi ta mt me)) := by
  refine ⟨(ps_setLc (te := rdE X.K me) (tt := rdTE X.K mt) (g := rdG X.K W ta) (wi := rdI X.K mi) hc hN hy hyl (sw_true hk hyl hl ha) hi.pi ok (fun s H C cl fp => (hg s H C cl fp).pg) (fun s H C cl fp => (ht s H C cl fp).pts) (fun s H C cl fp => (he s H C cl fp).pe) hs).weaken fun D σ H hq => ?_⟩
  refine lc_rd k hW σ H _ ?_
  obtain ⟨O, env, U, o, s, od, e, p⟩ := hq
  unfold asgS at e
  obtain ⟨⟨k, d, e1⟩, ea, e⟩ := Option.bind_eq_some_iff.mp e
  obtain ⟨e2, eb, e⟩ := Option.map_eq_some_iff.mp e
  cases e
  refine ⟨O, env, U, k, d, e1, s, od, ea, fun v H1 O1 U1 F1 s1 od1 r1 dj1 x1 => ?_⟩
  have eb : nameT i k d e1 = some e2 := eb
  unfold nameT at eb
  split at eb
  · rename_i hl
    cases eb
    obtain ⟨U', s', m⟩ := s1.store hl r1 dj1
    exact p _ H1 ⟨O1, U', s', od1, x1.weak fun a ha => (m a ha).elim (List.mem_append_right _) (List.mem_append_left _), fun j hj => List.getElem?_set_ne (fun z : i = j => hB (by rw [z]; exact hj))⟩
  · cases eb
end
end Wr

/-! Stores into lists, methods of lists, op=; calls of the text's own defs. -/
namespace Wr
open PySem PySem.Spec PyProof.Rows L2

section
variable {K : Frag} {H H' : Hp} {O O' : Addr → Prop} {σ : L2.St} {e : Env} {U : List Addr}
/-- a part of a list looked at, and put back changed -/
theorem Reps.focus {k : Nat} : ∀ {ds vs F}, Reps K H O k vs ds F → ∀ {a : Nat} {d : D}, ds[a]? = some d → ∃ v G R, vs[a]? = some v ∧ Rep K H O k v d G ∧ (∀ x ∈ G, x ∈ F) ∧ (∀ x ∈ R, x ∈ F) ∧ Disj G R ∧
    ∀ {v' d' G' H' O' W}, Kp K H H' O O' W → Disj R W → Rep K H' O' k v' d' G' → Disj G' R → ∃ F', Reps K H' O' k (vs.set a v') (ds.set a d') F' ∧ ∀ x ∈ F', x ∈ R ∨ x ∈ G'
  | [], _, _, _, a, d, h => by simp at h
  | d0 :: ds, vs, F, r, 0, d, h => by
    obtain ⟨v0, ws, F1, F2, rfl, rfl, r1, r2, dj⟩ := r.uncons
    simp at h; subst h
    refine ⟨v0, F1, F2, rfl, r1, fun x => List.mem_append_left _, fun x => List.mem_append_right _, dj, fun kp dw r' dj' => ?_⟩
    exact ⟨_, .cons r' (r2.stay kp dw) dj', fun x hx => (List.mem_append.mp hx).symm⟩
  | d0 :: ds, vs, F, r, a + 1, d, h => by
    obtain ⟨v0, ws, F1, F2, rfl, rfl, r1, r2, dj⟩ := r.uncons
    obtain ⟨v, G, R, hv, rv, hG, hR, djG, put⟩ := r2.focus (a := a) (d := d) (by simpa using h)
    refine ⟨v, G, F1 ++ R, by simpa using hv, rv, fun x hx => List.mem_append_right _ (hG x hx), fun x hx => (List.mem_append.mp hx).elim (List.mem_append_left _) fun z => List.mem_append_right _ (hR x z),
      Disj.appR (fun x hx z => dj x z (hG x hx)) djG, fun kp dw r' dj' => ?_⟩
    obtain ⟨F', rs', hF'⟩ := put kp dw.right r' (fun x hx z => dj' x hx (List.mem_append_right _ z))
    refine ⟨F1 ++ F', .cons (r1.stay kp dw.left) rs' fun x hx z => ?_, fun x hx => ?_⟩
    · rcases hF' x z with z | z
      · exact dj x hx (hR x z)
      · exact dj' x z (List.mem_append_left _ hx)
    · rcases List.mem_append.mp hx with z | z
      · exact .inl (List.mem_append_left _ z)
      · exact (hF' x z).imp (fun z => List.mem_append_right _ z) id
theorem kp_upd {p : Addr} {o : HO} (oO : O p) (hp : ∃ x, H p = some x ∧ MutH x) : Kp K H (upd H p o) O O [p] :=
  ⟨fun a ob e n => by rw [upd_ne (fun z => n (by simp [z]))]; exact e, fun _ _ h => h, fun _ h _ => h, fun a ha => by
    have : a = p := by simpa using ha
    subst this; exact ⟨oO, hp⟩⟩
theorem od_upd {p : Addr} {o : HO} (od : Od H O) (m : MutH o) : Od (upd H p o) O := fun a h => by
  by_cases z : a = p
  · subst z; exact ⟨_, upd_same, m⟩
  · obtain ⟨x, e, y⟩ := od a h
    exact ⟨x, by rw [upd_ne z]; exact e, y⟩
theorem ext_upd {p : Addr} {o : HO} {U' : List Addr} (hp : p ∈ U) (h : ∀ a ∈ U', a ∈ U) : Ext H O U (upd H p o) O U' :=
  ⟨fun a ob e n => by rw [upd_ne (fun z => n (by rw [z]; exact hp))]; exact e, fun a ⟨x, e⟩ => by
    by_cases z : a = p
    · subst z; exact ⟨_, upd_same⟩
    · exact ⟨x, by rw [upd_ne z]; exact e⟩, fun _ _ h => h, fun _ h _ => h, fun a ha => .inl (h a ha)⟩
theorem notin_one {L : List Addr} {p : Addr} (h : p ∉ L) : Disj L [p] := fun a ha z => by
  have : a = p := by simpa using z
  exact h (by rw [← this]; exact ha)
/-- slot i holds a list of its own -/
theorem Sl.lstAt (s : Sl K H O σ e U) {i j : Nat} {xs : List D} (h : e[i]? = some (some (j + 1, .lst xs))) :
    ∃ p vs F U0, σ[i]? = some (some (.ref p)) ∧ H p = some (.lst vs) ∧ O p ∧ Reps K H O j vs xs F ∧ p ∉ F ∧ Sl K H O σ (e.set i none) U0 ∧ p ∉ U0 ∧ Disj F U0 ∧ (∀ a, a ∈ U ↔ a = p ∨ a ∈ F ∨ a ∈ U0) := by
  obtain ⟨v, F, U0, hv, r, s0, dj, m⟩ := s.take h
  cases r with
  | @own _ p vs _ F hp oO nF rs =>
    exact ⟨p, vs, F, U0, hv, hp, oO, rs, nF, s0, dj p List.mem_cons_self, fun a ha => dj a (List.mem_cons_of_mem _ ha), fun a => by rw [m a, List.mem_cons, or_assoc]⟩
/-- .. and is written -/
theorem Sl.write (od : Od H O) {i j : Nat} {p : Addr} {U0 : List Addr} {vs' : List V} {xs' : List D} {F' : List Addr} (hi : i < e.length) (hv : σ[i]? = some (some (.ref p))) (hp : ∃ x, H p = some x ∧ MutH x) (oO : O p)
    (s0 : Sl K H O σ (e.set i none) U0) (np : p ∉ U0) (rs : Reps K H O j vs' xs' F') (nF : p ∉ F') (dj : Disj F' U0) :
    ∃ U', Sl K (upd H p (.lst vs')) O σ (e.set i (some (j + 1, .lst xs'))) U' ∧ Od (upd H p (.lst vs')) O ∧ (∀ a, a ∈ U' ↔ a = p ∨ a ∈ F' ∨ a ∈ U0) := by
  have kp : Kp K H (upd H p (.lst vs')) O O [p] := kp_upd oO hp
  have s1 := s0.stay kp (notin_one np)
  have r1 : Rep K (upd H p (.lst vs')) O (j + 1) (.ref p) (.lst xs') (p :: F') := .own upd_same oO nF (rs.stay kp (notin_one nF))
  obtain ⟨U', a, b⟩ := s1.put (i := i) (by simp [hi]) hv r1 fun a ha => (List.mem_cons.mp ha).elim (fun z => by subst z; exact np) (dj a)
  exact ⟨U', by simpa using a, od_upd od trivial, fun a => by rw [b a, List.mem_cons, or_assoc]⟩
end
section
variable {X : Cx} {B : List Nat}
/-- x[i] = e -/
def setixS (i : Nat) (mi me : EM) : SM := fun e => (me e).bind fun y => (vX i y.2.2).bind fun _ => (mi y.2.2).bind fun n => (asI n.2.1).bind fun n1 => (vX i n.2.2).bind fun x => match x with
  | (j + 1, .lst xs) => (toKind j (y.1, y.2.1)).bind fun d => (L2.ixN xs.length n1).map fun m => .nx (n.2.2.set i (some (j + 1, .lst (xs.set m d))))
  | _ => none
theorem Reps.setAt {K : Frag} {H : Hp} {O : Addr → Prop} {k ds vs F} (r : Reps K H O k vs ds F) {m : Nat} {v d G} (hm : m < ds.length) (rv : Rep K H O k v d G) (dj : Disj G F) : ∃ F', Reps K H O k (vs.set m v) (ds.set m d) F' ∧ ∀ a ∈ F', a ∈ F ∨ a ∈ G := by
  obtain ⟨_, _, R, _, _, _, hR, _, put⟩ := r.focus (List.getElem?_eq_getElem hm)
  obtain ⟨F', rs, h⟩ := put (W := []) (Kp.of_same (Same.refl H)) Disj.nilR rv fun x hx z => dj x hx (hR x z)
  exact ⟨F', rs, fun a ha => (h a ha).imp (hR a) id⟩
theorem ixN_lt {n m : Nat} {i : Int} (h : L2.ixN n i = some m) : m < n := by
  unfold L2.ixN at h
  split at h
  · split at h
    · cases h; omega
    · cases h
  · split at h
    · cases h; omega
    · cases h
theorem gs_setix (i : Nat) {x : Str} {ie e : Expr} {mi me : EM} {p ps pos : Pos} (he : GE X e me) (hi : GE X ie mi) (hN : X.N[i]? = some x := by rfl) (hv : Vis X.env.scope x := by first | exact Or.inl rfl | exact Or.inr (Or.inl rfl) | exact Or.inr (Or.inr rfl)) (hd : (x == ("__debug__" : Str)) = false := by decide)
    (hcd : (x == ("__classdict__" : Str)) = false := by decide) (hs : swapsWithSole [.Subscript (.Name x p) ie ps] e pos.line X.env = pure false := by rfl) (hw : swappedStores [.Subscript (.Name x p) ie ps] e X.env = pure none := by rfl)
    (h1 : (assignEach [.Subscript (.Name x p) ie ps] X.env).map (·.2) = [assign (.Subscript (.Name x p) ie ps) X.env] := by rfl)
    (ha : ∀ v, assign (.Subscript (.Name x p) ie ps) X.env v = (do
      let ov ← holding [v] (eval (.Name x p) X.env)
      let iv ← holding [v, ov] (eval ie X.env)
      standAt ps
      holding [v, ov, iv] (setItem ov iv v)
      release [v, ov, iv] []) := by intro _; rfl) : GS X B (.Assign [.Subscript (.Name x p) ie ps] e pos) (setixS i mi me) := ⟨(ps_asg he.pe (pg_sub (pe_var hN hv hd hcd) hi.pe set_list ha) hs hw h1).weaken fun D σ H hq => by
  obtain ⟨O, env, U, o, s, od, e, q⟩ := hq
  unfold setixS at e
  obtain ⟨⟨kv, dv, e1⟩, ea, e⟩ := Option.bind_eq_some_iff.mp e
  obtain ⟨x0, eb, e⟩ := Option.bind_eq_some_iff.mp e
  obtain ⟨⟨kn, dn, e2⟩, ec, e⟩ := Option.bind_eq_some_iff.mp e
  obtain ⟨n1, ed, e⟩ := Option.bind_eq_some_iff.mp e
  obtain ⟨y, ee, e⟩ := Option.bind_eq_some_iff.mp e
  split at e
  · rename_i j xs
    obtain ⟨dk, ef, e⟩ := Option.bind_eq_some_iff.mp e
    obtain ⟨m, eg, e⟩ := Option.map_eq_some_iff.mp e
    cases e
    have hn : dn = .int n1 := asI_some ed
    subst hn
    refine ⟨O, env, U, kv, dv, e1, s, od, ea, fun v H1 O1 U1 F1 s1 od1 r1 dj1 x1 => ?_⟩
    obtain ⟨w, _, hw, _⟩ := s1.get (vX_some eb)
    refine ⟨w, hw, O1, e1, U1, kn, _, e2, s1, od1, ec, fun u H2 O2 U2 F2 s2 od2 r2 dj2 x2 => ?_⟩
    cases r2
    obtain ⟨p, vs, F, U0, hp1, hp2, oO, rs, nF, s0, np, djF, mU⟩ := s2.lstAt (vX_some ee)
    rw [hw] at hp1; cases hp1
    refine ⟨p, vs, n1, m, rfl, rfl, hp2, by rw [rs.length]; exact eg, ?_⟩
    have d12 := x2.aside r1.mt dj1
    obtain ⟨rfl, G, rG, mG⟩ := toKind_rep (x2.rep s1.mt r1 dj1) ef
    have dGU : Disj G U2 := fun a ha z => d12 a (mG a ha) (List.mem_append_left _ z)
    have dGF : Disj G F := fun a ha z => dGU a ha ((mU a).mpr (.inr (.inl z)))
    obtain ⟨F', rs', mF'⟩ := rs.setAt (ixN_lt eg) rG dGF
    have nF' : p ∉ F' := fun z => (mF' p z).elim nF fun z => dGU p z ((mU p).mpr (.inl rfl))
    have djF' : Disj F' U0 := fun a ha z => (mF' a ha).elim (fun y => djF a y z) fun y => dGU a y ((mU a).mpr (.inr (.inr z)))
    have hi2 : i < e2.length := (List.getElem?_eq_some_iff.mp (vX_some ee)).1
    obtain ⟨U', a1, a2, a3⟩ := s0.write od2 hi2 hw ⟨_, hp2, trivial⟩ oO np rs' nF' djF'
    refine q σ _ ⟨O2, U', a1, a2, ?_, fun _ _ => rfl⟩
    have t : Ext H O U H2 O2 (U2 ++ G) := x1.seq x2 od fun a ha => (List.mem_append.mp ha).imp (List.mem_append_left _) (mG a)
    refine t.trans (ext_upd (List.mem_append_left _ ((mU p).mpr (.inl rfl))) fun a ha => ?_) od
    rcases (a3 a).mp ha with z | z | z
    · subst z; exact List.mem_append_left _ ((mU a).mpr (.inl rfl))
    · rcases mF' a z with z | z
      · exact List.mem_append_left _ ((mU a).mpr (.inr (.inl z)))
      · exact List.mem_append_right _ z
    · exact List.mem_append_left _ ((mU a).mpr (.inr (.inr z)))
  · cases e⟩
/-- x[i][j] = e -/
def setix2S (i : Nat) (m1 m2 : XM) (me : EM) : SM := fun e => (me e).bind fun y => (m1 y.2.2).bind fun n1 => (asI n1.2).bind fun n1 => (m2 y.2.2).bind fun n2 => (asI n2.2).bind fun n2 => (vX i y.2.2).bind fun x => match x with
  | (j + 2, .lst xs) => (L2.ixN xs.length n1).bind fun a => (xs[a]?).bind fun c => match c with
    | .lst ys => (toKind j (y.1, y.2.1)).bind fun d => (L2.ixN ys.length n2).map fun b => .nx (y.2.2.set i (some (j + 2, .lst (xs.set a (.lst (ys.set b d))))))
    | _ => none
  | _ => none
theorem gs_setix2 (i : Nat) {x : Str} {i1 i2 e : Expr} {m1 m2 : XM} {me : EM} {p p1 ps pos : Pos} (he : GE X e me) (h1 : GX X i1 m1) (h2 : GX X i2 m2) (hN : X.N[i]? = some x := by rfl) (hv : Vis X.env.scope x := by first | exact Or.inl rfl | exact Or.inr (Or.inl rfl) | exact Or.inr (Or.inr rfl)) (hd : (x == ("__debug__" : Str)) = false := by decide)
    (hcd : (x == ("__classdict__" : Str)) = false := by decide) (hpi : PlainIx i1 := by exact fun _ _ => rfl) (hs : swapsWithSole [.Subscript (.Subscript (.Name x p) i1 p1) i2 ps] e pos.line X.env = pure false := by rfl) (hw : swappedStores [.Subscript (.Subscript (.Name x p) i1 p1) i2 ps] e X.env = pure none := by rfl)
    (h3 : (assignEach [.Subscript (.Subscript (.Name x p) i1 p1) i2 ps] X.env).map (·.2) = [assign (.Subscript (.Subscript (.Name x p) i1 p1) i2 ps) X.env] := by rfl)
    (ha : ∀ v, assign (.Subscript (.Subscript (.Name x p) i1 p1) i2 ps) X.env v = (do
      let ov ← holding [v] (eval (.Subscript (.Name x p) i1 p1) X.env)
      let iv ← holding [v, ov] (eval i2 X.env)
      standAt ps
      holding [v, ov, iv] (setItem ov iv v)
      release [v, ov, iv] []) := by intro _; rfl) : GS X B (.Assign [.Subscript (.Subscript (.Name x p) i1 p1) i2 ps] e pos) (setix2S i m1 m2 me) := ⟨(ps_asg he.pe (pg_sub (pe_ix ix_list (pe_var hN hv hd hcd) h1.pe hpi) h2.pe set_list ha) hs hw h3).weaken fun D σ H hq => by
  obtain ⟨O, env, U, o, s, od, e, q⟩ := hq
  unfold setix2S at e
  obtain ⟨⟨kv, dv, e1⟩, ea, e⟩ := Option.bind_eq_some_iff.mp e
  obtain ⟨⟨k1, d1⟩, eb, e⟩ := Option.bind_eq_some_iff.mp e
  obtain ⟨n1, ec, e⟩ := Option.bind_eq_some_iff.mp e
  obtain ⟨⟨k2, d2⟩, ed, e⟩ := Option.bind_eq_some_iff.mp e
  obtain ⟨n2, ee, e⟩ := Option.bind_eq_some_iff.mp e
  obtain ⟨y, ef, e⟩ := Option.bind_eq_some_iff.mp e
  split at e
  · rename_i j xs
    obtain ⟨a, eg, e⟩ := Option.bind_eq_some_iff.mp e
    obtain ⟨c, eh, e⟩ := Option.bind_eq_some_iff.mp e
    split at e
    · rename_i ys
      obtain ⟨dk, ei, e⟩ := Option.bind_eq_some_iff.mp e
      obtain ⟨b, ej, e⟩ := Option.map_eq_some_iff.mp e
      cases e
      have hn1 : d1 = .int n1 := asI_some ec
      have hn2 : d2 = .int n2 := asI_some ee
      subst hn1 hn2
      refine ⟨O, env, U, kv, dv, e1, s, od, ea, fun v H1 O1 U1 F1 s1 od1 r1 dj1 x1 => ?_⟩
      obtain ⟨p, vs, F, U0, hp1, hp2, oO, rs, nF, s0, np, djF, mU⟩ := s1.lstAt (vX_some ef)
      refine ⟨_, hp1, O1, e1, U1, k1, _, s1, od1, eb, fun u H2 F2 sm2 r2 => ?_⟩
      cases r2
      obtain ⟨w, G, R, hw, rw', hG, hR, djG, put⟩ := rs.focus eh
      have hp3 := sm2 _ _ hp2
      refine ⟨p, vs, n1, w, rfl, rfl, .inl (.inl hp3), by unfold atI; rw [rs.length, eg]; exact hw, ?_⟩
      refine ⟨O1, e1, U1, k2, _, s1.same sm2, od1.same sm2, ed, fun u3 H3 F3 sm3 r3 => ?_⟩
      cases r3
      have sm : Same H1 H3 := sm2.trans sm3
      cases rw' with
      | @own _ q1 us _ G1 hq1 oQ nG1 rus =>
        have hq3 := sm _ _ hq1
        refine ⟨q1, us, n2, b, rfl, rfl, hq3, by rw [rus.length]; exact ej, ?_⟩
        obtain ⟨rfl, Gv, rGv, mGv⟩ := toKind_rep (r1.same sm) ei
        have dGvU : Disj Gv U1 := fun a ha z => dj1 a (mGv a ha) z
        have inU : ∀ a, a ∈ F → a ∈ U1 := fun a ha => (mU a).mpr (.inr (.inl ha))
        obtain ⟨G2, rus2, mG2⟩ := (rus.same sm).setAt (ixN_lt ej) rGv fun a ha z => dGvU a ha (inU a (hG a (List.mem_cons_of_mem _ z)))
        -- the inner list is written
        have kpq : Kp X.K H3 (upd H3 q1 (.lst (us.set b v))) O1 O1 [q1] := kp_upd oQ ⟨_, hq3, trivial⟩
        have nq : q1 ∉ G2 := fun z => (mG2 _ z).elim nG1 fun z => dGvU _ z (inU _ (hG _ List.mem_cons_self))
        have rin : Rep X.K (upd H3 q1 (.lst (us.set b v))) O1 (j + 1) (.ref q1) (.lst (ys.set b dk)) (q1 :: G2) := .own upd_same oQ nq (rus2.stay kpq (notin_one nq))
        have kp1 : Kp X.K H1 (upd H3 q1 (.lst (us.set b v))) O1 O1 [q1] := ⟨fun a o e n => by rw [upd_ne (fun z => n (by simp [z]))]; exact sm _ _ e, fun _ _ h => h, fun _ h _ => h, fun a ha => by
          have : a = q1 := by simpa using ha
          subst this; exact ⟨oQ, _, hq1, trivial⟩⟩
        have djR : Disj (q1 :: G2) R := fun a ha z => by
          rcases List.mem_cons.mp ha with y | y
          · subst y; exact djG a List.mem_cons_self z
          · rcases mG2 a y with y | y
            · exact djG a (List.mem_cons_of_mem _ y) z
            · exact dGvU a y (inU a (hR a z))
        obtain ⟨F', rs', mF'⟩ := put kp1 (notin_one fun z => djG _ List.mem_cons_self z) rin djR
        rw [set_back vs a _ hw] at rs'
        have hpq : p ≠ q1 := fun z => nF (z ▸ hG _ List.mem_cons_self)
        have mF2 : ∀ x ∈ F', x ∈ F ∨ x ∈ Gv := fun x hx => by
          rcases mF' x hx with z | z
          · exact .inl (hR x z)
          · rcases List.mem_cons.mp z with z | z
            · subst z; exact .inl (hG _ List.mem_cons_self)
            · exact (mG2 x z).imp (fun z => hG _ (List.mem_cons_of_mem _ z)) id
        have nF' : p ∉ F' := fun z => (mF2 p z).elim nF fun z => dGvU p z ((mU p).mpr (.inl rfl))
        have djF' : Disj F' U0 := fun a ha z => (mF2 a ha).elim (fun y => djF a y z) fun y => dGvU a y ((mU a).mpr (.inr (.inr z)))
        have s0' : Sl X.K (upd H3 q1 (.lst (us.set b v))) O1 σ (e1.set i none) U0 := s0.stay kp1 (notin_one fun z => djF _ (hG _ List.mem_cons_self) z)
        have hp4 : (upd H3 q1 (.lst (us.set b v))) p = some (.lst vs) := by rw [upd_ne hpq]; exact sm _ _ hp2
        have r1' : Rep X.K (upd H3 q1 (.lst (us.set b v))) O1 (j + 2) (.ref p) (.lst (xs.set a (.lst (ys.set b dk)))) (p :: F') := .own hp4 oO nF' rs'
        have hi2 : i < e1.length := (List.getElem?_eq_some_iff.mp (vX_some ef)).1
        obtain ⟨U', a1, a3⟩ := s0'.put (i := i) (by simp [hi2]) hp1 r1' fun a ha => (List.mem_cons.mp ha).elim (fun z => by subst z; exact np) (djF' a)
        have a1 : Sl X.K (upd H3 q1 (.lst (us.set b v))) O1 σ (e1.set i (some (j + 2, .lst (xs.set a (.lst (ys.set b dk)))))) U' := by simpa using a1
        refine q σ _ ⟨O1, U', a1, od_upd (od1.same sm) trivial, ?_, fun _ _ => rfl⟩
        have t : Ext H O U H3 O1 (U1 ++ F1) := x1.trans (.of_same sm fun _ h => h) od
        refine t.trans (ext_upd (List.mem_append_left _ (inU _ (hG _ List.mem_cons_self))) fun a ha => ?_) od
        rcases (a3 a).mp ha with z | z
        · rcases List.mem_cons.mp z with z | z
          · subst z; exact List.mem_append_left _ ((mU a).mpr (.inl rfl))
          · rcases mF2 a z with z | z
            · exact List.mem_append_left _ (inU a z)
            · exact List.mem_append_right _ (mGv a z)
        · exact List.mem_append_left _ ((mU a).mpr (.inr (.inr z)))
    · cases e
  · cases e⟩
end
end Wr

/-! Methods of lists, op=, calls of defs, a def by its body. -/
namespace Wr
open PySem PySem.Spec PyProof.Rows L2

section
variable {X : Cx} {B : List Nat}
def isLst (x : Nat × D) : Option Unit := match x.2 with
  | .lst _ => some ()
  | _ => none
theorem tyV_lst {K : Frag} {H : Hp} {O : Addr → Prop} {k v d F} (r : Rep K H O k v d F) (h : isLst (k, d) = some ()) : tyV K "list" v H := by
  cases d <;> simp only [isLst, reduceCtorEq] at h
  cases r with
  | frz hs _ => exact .inl ⟨rfl, _, hs.sq⟩
  | own hs _ _ _ => exact .inl ⟨rfl, _, .inl (.inl hs)⟩
/-- x.append(e) -/
def appS (i : Nat) (me : EM) : EM := fun e => (vX i e).bind fun x0 => (isLst x0).bind fun _ => (me e).bind fun y => (vX i y.2.2).bind fun x => match x with
  | (j + 1, .lst xs) => if xs.length < sizeLine then (toKind j (y.1, y.2.1)).map fun d => (0, .non, y.2.2.set i (some (j + 1, .lst (xs ++ [d])))) else none
  | _ => none
theorem ge_append (i : Nat) {x : Str} {e : Expr} {me : EM} {p ap pos : Pos} (he : GE X e me) (hN : X.N[i]? = some x := by rfl) (hv : Vis X.env.scope x := by first | exact Or.inl rfl | exact Or.inr (Or.inl rfl) | exact Or.inr (Or.inr rfl)) (hd : (x == ("__debug__" : Str)) = false := by decide)
    (hcd : (x == ("__classdict__" : Str)) = false := by decide) (hbase : attributeBase (.Name x p) "append" X.env (eval (.Name x p) X.env) = eval (.Name x p) X.env := by rfl)
    (hfew : ((backTo pos (starEach [e] X.env)).all (fun x => !x.1) && (backToKw pos (keywordEach [] X.env)).all (fun x => x.1.isSome)
      && decide (([e] : List Expr).length + ([] : List Keyword).length + (if ([] : List Keyword).isEmpty then 0 else 1) < 30)) = true := by rfl)
    (hline : (ap.endLine == pos.line) = true := by rfl) (hs : starEach [e] X.env = (false, eval e X.env) :: starEach [] X.env := by rfl) (hplain : (backTo pos (starEach [] X.env)).any (·.1) = false := by rfl) :
    GE X (.Call (.Attribute (.Name x p) "append" ap) [e] [] pos) (appS i me) := ⟨(pe_bm PySem.F.plainAttrs_list PySem.F.slot_list_append PySem.F.type_list_append mt_append (pe_var hN hv hd hcd) (pa_cons he.pe pa_nil hs) hbase hfew hline hs hplain).weaken fun σ H Q hq => by
  obtain ⟨O, env, U, k, d, env', s, od, e, q⟩ := hq
  unfold appS at e
  obtain ⟨⟨k0, d0⟩, ea, e⟩ := Option.bind_eq_some_iff.mp e
  obtain ⟨_, eb, e⟩ := Option.bind_eq_some_iff.mp e
  obtain ⟨⟨kv, dv, e1⟩, ec, e⟩ := Option.bind_eq_some_iff.mp e
  obtain ⟨y, ed, e⟩ := Option.bind_eq_some_iff.mp e
  obtain ⟨w, F0, hw, rw0, _⟩ := s.get (vX_some ea)
  split at e
  case h_2 => cases e
  rename_i j xs
  split at e
  case isFalse => cases e
  rename_i hz
  obtain ⟨dk, ef, e⟩ := Option.map_eq_some_iff.mp e
  cases e
  refine ⟨w, hw, tyV_lst rw0 eb, O, env, U, kv, dv, e1, s, od, ec, fun v H1 O1 U1 F1 s1 od1 r1 dj1 x1 => ?_⟩
  obtain ⟨p, vs, F, U0, hp1, hp2, oO, rs, nF, s0, np, djF, mU⟩ := s1.lstAt (vX_some ed)
  rw [hw] at hp1; cases hp1
  refine ⟨p, vs, v, rfl, rfl, hp2, by rw [rs.length]; exact hz, ?_⟩
  obtain ⟨rfl, G, rG, mG⟩ := toKind_rep r1 ef
  have dGU : Disj G U1 := fun a ha z => dj1 a (mG a ha) z
  have rs' := Reps.snoc rG rs fun a ha z => dGU a z ((mU a).mpr (.inr (.inl ha)))
  have nF' : p ∉ F ++ G := fun z => (List.mem_append.mp z).elim nF fun z => dGU p z ((mU p).mpr (.inl rfl))
  have djF' : Disj (F ++ G) U0 := Disj.app djF fun a ha z => dGU a ha ((mU a).mpr (.inr (.inr z)))
  have hi2 : i < e1.length := (List.getElem?_eq_some_iff.mp (vX_some ed)).1
  obtain ⟨U', a1, a2, a3⟩ := s0.write od1 hi2 hw ⟨_, hp2, trivial⟩ oO np rs' nF' djF'
  refine q .non _ O1 U' [] a1 a2 .non Disj.nil (x1.trans (ext_upd (List.mem_append_left _ ((mU p).mpr (.inl rfl))) fun a ha => ?_) od)
  have ha : a ∈ U' := by simpa using ha
  rcases (a3 a).mp ha with z | z | z
  · subst z; exact List.mem_append_left _ ((mU a).mpr (.inl rfl))
  · rcases List.mem_append.mp z with z | z
    · exact List.mem_append_left _ ((mU a).mpr (.inr (.inl z)))
    · exact List.mem_append_right _ (mG a z)
  · exact List.mem_append_left _ ((mU a).mpr (.inr (.inr z)))⟩
/-- x op= e, scalars -/
structure IpG (X : Cx) (op : Operator) (f : D → D → Option D) : Prop where
  ex : ∃ r, OpR X (inplaceOp op) r ∧ OpS X.K r f
theorem ip_addG : IpG X .Add (fun x y => match addI x y with | some d => some d | none => addS x y) := by
  refine ⟨_, OpR.or iop_add iop_add_str, fun H O x y dx dy d Q od rx ry e q => ?_⟩
  cases e1 : addI dx dy with
  | some d1 =>
    simp only [e1] at e; cases e
    cases rx <;> cases ry <;> simp [addI] at e1
    subst e1
    exact .inl ⟨_, _, rfl, rfl, q _ H (Same.refl H) .int⟩
  | none =>
    simp only [e1] at e
    cases rx <;> cases ry <;> simp [addS] at e
    obtain ⟨h, rfl⟩ := e
    exact .inr ⟨_, _, rfl, rfl, h, q _ H (Same.refl H) .str⟩
theorem ip_mulG : IpG X .Mult (fun x y => match x, y with | .int i, .int j => if (-(2 ^ 64) < i ∧ i < 2 ^ 64) ∨ (-(2 ^ 64) < j ∧ j < 2 ^ 64) then some (.int (i * j)) else none | _, _ => none) := by
  refine ⟨_, iop_mul, fun H O x y dx dy d Q od rx ry e q => ?_⟩
  cases rx <;> cases ry <;> simp only [reduceCtorEq] at e
  split at e
  · rename_i h; cases e; exact ⟨_, _, rfl, rfl, h, q _ H (Same.refl H) .int⟩
  · cases e
def augS (f : D → D → Option D) (i : Nat) (me : EM) : SM := fun e => (vX i e).bind fun x => (me e).bind fun y => (f x.2 y.2.1).bind fun d => if isScal d = true ∧ i < y.2.2.length then some (.nx (y.2.2.set i (some (0, d)))) else none
theorem gs_aug (i : Nat) {x : Str} {op : Operator} {f : D → D → Option D} {e : Expr} {me : EM} {p pos : Pos} (ho : IpG X op f) (hsx : ∀ a b d, f a b = some d → isScal a = true) (he : GE X e me) (hN : X.N.Nodup) (hi : X.N[i]? = some x := by rfl) (hx : Loc X.env.scope x := by first | exact Or.inl rfl | exact Or.inr rfl) (hB : i ∉ B := by decide)
    (hf : X.fn x = true ∨ X.env.scope.names.lookup x = some .local := by first | exact .inl rfl | exact .inr rfl | assumption) : GS X B (.AugAssign (.Name x p) op e pos) (augS f i me) := by
  obtain ⟨r, h1, h2⟩ := ho.ex
  refine ⟨(ps_aug hN hi hx he.pe (ti := r) h1 hf).weaken fun D σ H hq => ?_⟩
  obtain ⟨O, env, U, o, s, od, e, q⟩ := hq
  unfold augS at e
  obtain ⟨⟨kx, dx⟩, ea, e⟩ := Option.bind_eq_some_iff.mp e
  obtain ⟨⟨ky, dy, e1⟩, eb, e⟩ := Option.bind_eq_some_iff.mp e
  obtain ⟨d, ec, e⟩ := Option.bind_eq_some_iff.mp e
  split at e
  case isFalse => cases e
  rename_i hc
  cases e
  obtain ⟨w, F0, hw, rw0, _⟩ := s.get (vX_some ea)
  refine ⟨w, hw, O, env, U, ky, dy, e1, s, od, eb, fun v H1 O1 U1 F1 s1 od1 r1 dj1 x1 => ?_⟩
  refine h2 H1 O0 w v dx dy d _ od0 (rw0.scalO (hsx _ _ _ ec)) r1.o0 ec fun v' H' sm rd => ?_
  obtain ⟨U', s', m⟩ := (s1.same sm).store hc.2 (rd.scalO hc.1 (O' := O1) (k' := 0) (H' := H')) Disj.nil
  refine q _ H' ⟨O1, U', s', od1.same sm, (x1.trans (.of_same (U' := U') sm fun a ha => ?_) od), fun j hj => List.getElem?_set_ne fun z => hB (by rw [z]; exact hj)⟩
  exact (m a ha).elim (fun z => nomatch z) (List.mem_append_left _)

/-! ### defs -/
/-- arguments by kinds: cold ones, owned ones -/
inductive Ra (K : Frag) (H : Hp) (O : Addr → Prop) : List V → List Nat → List D → List Addr → Prop
  | nil : Ra K H O [] [] [] []
  | cons {v k d F vs ks ds G} : Rep K H O k v d F → Ra K H O vs ks ds G → Disj F G → Ra K H O (v :: vs) (k :: ks) (d :: ds) (F ++ G)
abbrev FM := List D → Option (D × List D)
/-- a def's promise: ks the kinds of its parameters (0: only read), κ of what it hands back -/
def SpF (K : Frag) (ks : List Nat) (κ : Nat) (m : FM) : Sp := fun vs H Q _ => ∃ O ds U r ds', Ra K H O vs ks ds U ∧ Od H O ∧ m ds = some (r, ds') ∧
  ∀ v H' O' U' F, Ra K H' O' vs ks ds' U' → Od H' O' → Rep K H' O' κ v r F → Disj F U' → Ext H O U H' O' (U' ++ F) → Q v H'
section
variable {K : Frag} {H H' : Hp} {O O' : Addr → Prop} {σ : L2.St}
theorem Ra.len {vs ks ds U} (r : Ra K H O vs ks ds U) : vs.length = ks.length ∧ ds.length = ks.length := by
  induction r with
  | nil => exact ⟨rfl, rfl⟩
  | cons _ _ _ ih => simp [ih.1, ih.2]
theorem Ra.mt {vs ks ds U} (r : Ra K H O vs ks ds U) : Mt H O U := by
  induction r with
  | nil => exact .nil
  | cons r _ _ ih => exact r.mt.app ih
theorem Ra.stay {vs ks ds F U} (r : Ra K H O vs ks ds F) (q : Kp K H H' O O' U) : Disj F U → Ra K H' O' vs ks ds F := by
  induction r with
  | nil => exact fun _ => .nil
  | cons r _ dj ih => exact fun n => .cons (r.stay q n.left) (ih n.right) dj
end
/-- what is taken for a call: the slots that are lent are emptied -/
def takeA : List Ar → List Nat → Env → Option (List D × Env)
  | [], [], e => some ([], e)
  | .bor j :: as, k :: ks, e => (vX j e).bind fun x => if x.1 = k then (takeA as ks (e.set j none)).map fun r => (x.2 :: r.1, r.2) else none
  | .val l d :: as, k :: ks, e => if l = k ∨ isScal d = true then (takeA as ks e).map fun r => (d :: r.1, r.2) else none
  | _, _, _ => none
def putA : List Ar → List Nat → List D → Env → Env
  | .bor j :: as, k :: ks, d :: ds, e => putA as ks ds (e.set j (some (k, d)))
  | .val _ _ :: as, _ :: ks, _ :: ds, e => putA as ks ds e
  | _, _, _, e => e
def brs : List Ar → List Nat
  | [] => []
  | .bor j :: as => j :: brs as
  | .val _ _ :: as => brs as
theorem takeA_ok {K : Frag} {H : Hp} {O : Addr → Prop} {σ : L2.St} : ∀ {as ks vs e U F ds e'}, Sl K H O σ e U → ArOk K H O σ as vs F → Disj F U → takeA as ks e = some (ds, e') →
    ∃ U1 U2, Ra K H O vs ks ds U1 ∧ Sl K H O σ e' U2 ∧ Disj U1 U2 ∧ (∀ a ∈ U1, a ∈ U ∨ a ∈ F) ∧ (∀ a ∈ U2, a ∈ U) ∧ e'.length = e.length ∧ (∀ j : Nat, e[j]? = some none → e'[j]? = some none) ∧ (∀ j ∈ brs as, e'[j]? = some none) ∧ (∀ j ∈ brs as, e[j]? ≠ some none) ∧ (brs as).Nodup
  | [], [], vs, e, U, F, ds, e', s, r, dj, h => by
    cases h
    cases r
    exact ⟨[], U, .nil, s, Disj.nil, (fun _ z => by cases z), fun _ h => h, rfl, fun _ h => h, (fun _ z => by cases z), (fun _ z => by cases z), List.nodup_nil⟩
  | .bor j :: as, k :: ks, vs, e, U, F, ds, e', s, r, dj, h => by
    unfold takeA at h
    obtain ⟨⟨kx, dx⟩, h1, h⟩ := Option.bind_eq_some_iff.mp h
    by_cases hk : kx = k
    · subst hk
      have h : (takeA as ks (e.set j none)).map (fun r => (dx :: r.1, r.2)) = some (ds, e') := by simpa using h
      obtain ⟨⟨ds1, e1⟩, h2, h3⟩ := Option.map_eq_some_iff.mp h
      cases h3
      cases r with
      | @bor _ v _ vs F hv ra =>
        obtain ⟨v', F1, U0, hv', rv, s0, dj0, mU⟩ := s.take (vX_some h1)
        rw [hv] at hv'; cases hv'
        obtain ⟨U1, U2, a1, a2, a3, a4, a5, a6, a7, a8, a9, a10⟩ := takeA_ok s0 ra (fun a ha z => dj a ha ((mU a).mpr (.inr z))) h2
        have hj : j < e.length := (List.getElem?_eq_some_iff.mp (vX_some h1)).1
        have hj0 : (e.set j none)[j]? = some none := by simp [hj]
        refine ⟨F1 ++ U1, U2, .cons rv a1 (fun a ha z => (a4 a z).elim (dj0 a ha) fun z => dj a z ((mU a).mpr (.inl ha))), a2, Disj.app (fun a ha z => dj0 a ha (a5 a z)) a3, fun a ha => ?_, fun a ha => (mU a).mpr (.inr (a5 a ha)), by rw [a6, List.length_set], fun i hi => ?_, fun i hi => ?_, fun i hi => ?_, ?_⟩
        · rcases List.mem_append.mp ha with z | z
          · exact .inl ((mU a).mpr (.inl z))
          · exact (a4 a z).imp (fun z => (mU a).mpr (.inr z)) id
        · refine a7 i ?_
          by_cases hij : j = i
          · subst hij; exact hj0
          · rw [List.getElem?_set_ne hij]; exact hi
        · rcases List.mem_cons.mp hi with z | z
          · subst z; exact a7 _ hj0
          · exact a8 i z
        · rcases List.mem_cons.mp hi with z | z
          · subst z; rw [vX_some h1]; exact fun z => by cases z
          · intro q
            refine a9 i z ?_
            by_cases hij : j = i
            · subst hij; exact hj0
            · rw [List.getElem?_set_ne hij]; exact q
        · exact List.nodup_cons.mpr ⟨fun z => a9 j z hj0, a10⟩
    · simp [hk] at h
  | .val l d :: as, k :: ks, vs, e, U, F, ds, e', s, r, dj, h => by
    unfold takeA at h
    split at h
    case isFalse => cases h
    rename_i hk
    obtain ⟨⟨ds1, e1⟩, h2, h3⟩ := Option.map_eq_some_iff.mp h
    cases h3
    cases r with
    | @val _ _ v _ vs F1 G rv ra djv =>
      obtain ⟨U1, U2, a1, a2, a3, a4, a5, a6, a7, a8, a9, a10⟩ := takeA_ok s ra dj.right h2
      obtain ⟨F2, rv2, m2⟩ : ∃ F2, Rep K H O k v d F2 ∧ ∀ a ∈ F2, a ∈ F1 := by
        rcases hk with hk | hk
        · subst hk; exact ⟨F1, rv, fun _ h => h⟩
        · exact ⟨[], rv.scalO hk, fun _ z => by cases z⟩
      refine ⟨F2 ++ U1, U2, .cons rv2 a1 (fun a ha z => (a4 a z).elim (dj.left a (m2 a ha)) (djv a (m2 a ha))), a2, Disj.app (fun a ha z => dj.left a (m2 a ha) (a5 a z)) a3, fun a ha => ?_, a5, a6, a7, a8, a9, a10⟩
      rcases List.mem_append.mp ha with z | z
      · exact .inr (List.mem_append_left _ (m2 a z))
      · exact (a4 a z).imp id (List.mem_append_right _)
  | [], _ :: _, _, _, _, _, _, _, _, _, _, h => by cases h
  | .bor _ :: _, [], _, _, _, _, _, _, _, _, _, h => by cases h
  | .val _ _ :: _, [], _, _, _, _, _, _, _, _, _, h => by cases h
theorem putA_ok {K : Frag} {H : Hp} {O : Addr → Prop} {σ : L2.St} : ∀ {as vs} , (∀ (i j : Nat), as[i]? = some (.bor j) → ∃ v, vs[i]? = some v ∧ σ[j]? = some (some v)) → ∀ {ks ds e U1 U2}, Ra K H O vs ks ds U1 → Sl K H O σ e U2 → Disj U1 U2 → (∀ j ∈ brs as, e[j]? = some none) → (brs as).Nodup →
    ∃ U', Sl K H O σ (putA as ks ds e) U' ∧ ∀ a ∈ U', a ∈ U1 ∨ a ∈ U2
  | [], vs, _, ks, ds, e, U1, U2, _, s, _, _, _ => ⟨U2, by simpa [putA] using s, fun a ha => .inr ha⟩
  | .bor j :: as, vs, hv, ks, ds, e, U1, U2, r, s, dj, hn, nd => by
    cases r with
    | nil => obtain ⟨v, h, _⟩ := hv 0 j rfl; simp at h
    | @cons v k d F vs ks ds G rv ra dd =>
      obtain ⟨v', h1, h2⟩ := hv 0 j rfl
      have h1 : v = v' := by simpa using h1
      subst h1
      obtain ⟨U3, s3, m3⟩ := s.put (hn j List.mem_cons_self) h2 rv dj.left
      have nd' := List.nodup_cons.mp nd
      obtain ⟨U', a1, a2⟩ := putA_ok (as := as) (vs := vs) (fun i j' hi => by
        obtain ⟨w, q1, q2⟩ := hv (i + 1) j' (by simpa using hi)
        exact ⟨w, by simpa using q1, q2⟩) ra s3 (fun a ha z => ((m3 a).mp z).elim (fun y => dd a y ha) (dj.right a ha)) (fun j' hj' => by
        rw [List.getElem?_set_ne (fun z => nd'.1 (by rw [z]; exact hj'))]
        exact hn j' (List.mem_cons_of_mem _ hj')) nd'.2
      refine ⟨U', by simpa [putA] using a1, fun a ha => ?_⟩
      rcases a2 a ha with z | z
      · exact .inl (List.mem_append_right _ z)
      · exact ((m3 a).mp z).imp (List.mem_append_left _) id
  | .val l d0 :: as, vs, hv, ks, ds, e, U1, U2, r, s, dj, hn, nd => by
    cases r with
    | nil => exact ⟨U2, by simpa [putA] using s, fun a ha => .inr ha⟩
    | @cons v k d F vs ks ds G rv ra dd =>
      obtain ⟨U', a1, a2⟩ := putA_ok (as := as) (vs := vs) (fun i j' hi => by
        obtain ⟨w, q1, q2⟩ := hv (i + 1) j' (by simpa using hi)
        exact ⟨w, by simpa using q1, q2⟩) ra s dj.right hn nd
      exact ⟨U', by simpa [putA] using a1, fun a ha => (a2 a ha).imp (List.mem_append_right _) id⟩
theorem ArOk.at {K : Frag} {H : Hp} {O : Addr → Prop} {σ : L2.St} {as vs F} (r : ArOk K H O σ as vs F) : ∀ (i j : Nat), as[i]? = some (.bor j) → ∃ v, vs[i]? = some v ∧ σ[j]? = some (some v) := by
  induction r with
  | nil => intro i j h; simp at h
  | @bor j0 v as vs F hv r ih =>
    intro i j h
    cases i with
    | zero => simp at h; subst h; exact ⟨v, rfl, hv⟩
    | succ i => simpa using ih i j (by simpa using h)
  | val r1 r2 dj ih =>
    intro i j h
    cases i with
    | zero => simp at h
    | succ i => simpa using ih i j (by simpa using h)
/-- a call -/
def ucall (ks : List Nat) (κ : Nat) (f : FM) (m : AEM) : EM := fun e => (m e).bind fun x => (takeA x.1 ks x.2).bind fun y => (f y.1).map fun r => (κ, r.1, putA x.1 ks r.2 y.2)
theorem rd_ucall {K : Frag} {ks : List Nat} {κ : Nat} {f : FM} {m : AEM} {E : XK} (σ : L2.St) (H : Hp) (Q : VK) (h : rdE K (ucall ks κ f m) σ H Q) : tCall (SpF K ks κ f) [] E (rdAE K m) σ H Q := by
  obtain ⟨O, env, U, k, d, env', s, od, e, q⟩ := h
  unfold ucall at e
  obtain ⟨⟨as, e1⟩, ea, e⟩ := Option.bind_eq_some_iff.mp e
  obtain ⟨⟨ds, e2⟩, eb, e⟩ := Option.bind_eq_some_iff.mp e
  obtain ⟨⟨r, ds'⟩, ec, e⟩ := Option.map_eq_some_iff.mp e
  cases e
  refine ⟨O, env, U, as, e1, s, od, ea, fun vs H1 O1 U1 F1 s1 od1 r1 dj1 x1 => ?_⟩
  obtain ⟨V1, V2, a1, a2, a3, a4, a5, a6, a7, a8, a9, a10⟩ := takeA_ok s1 r1 dj1 eb
  rw [List.append_nil]
  refine ⟨O1, ds, V1, _, _, a1, od1, ec, fun v H' O' U' F ra' od' rv dF x' => ?_⟩
  have kp : Kp K H1 H' O1 O' V1 := x'.kp a1.mt
  have s2 := a2.stay kp a3.symm
  have d2 : Disj V2 (U' ++ F) := x'.aside a2.mt a3.symm
  obtain ⟨U3, s3, m3⟩ := putA_ok r1.at ra' s2 (fun a ha z => d2 a z (List.mem_append_left _ ha)) a8 a10
  refine q v H' O' U3 F s3 od' rv (fun a ha z => (m3 a z).elim (dF a ha) fun y => d2 a y (List.mem_append_right _ ha)) ?_
  have x1' : Ext H O U H1 O1 (V1 ++ V2) := x1.weak fun a ha => (List.mem_append.mp ha).elim (fun z => (a4 a z).elim (List.mem_append_left _) (List.mem_append_right _)) fun z => List.mem_append_left _ (a5 a z)
  exact x1'.seq x' od fun a ha => (List.mem_append.mp ha).elim (fun z => (m3 a z).imp (List.mem_append_left _) id) fun z => .inl (List.mem_append_right _ z)
theorem ge_call {CX : CXT} {E : XK} {k κ : Nat} {f : Addr} {fd : FuncData} {ps : List Str} {ks : List Nat} {g : FM} {x : Str} {e : Expr} {es : List Expr} {m : AEM} {p pos : Pos} (F : FnOk X.prog X.w X.K X.mg X.base CX k f fd ps (SpF X.K ks κ g)) (hr : Room k X.A) (hg : Gl X x) (hm : X.mg x = some (.ref f)) (hk : PySem.W.keepIn X.K (.ref f) = true)
    (hb : Binds X.K fd ps []) (hx : Passes CX X E) (ha : GAE X (e :: es) m) (hdb : (x == ("__debug__" : Str)) = false := by decide)
    (he : starEach (e :: es) X.env = (false, eval e X.env) :: starEach es X.env := by rfl) (hpl : (backTo pos (starEach es X.env)).any (·.1) = false := by rfl) : GE X (.Call (.Name x p) (e :: es) [] pos) (ucall ks κ g m) :=
  ⟨(pe_call F hr hg hm hk hb .nil hx ha.pa hdb he hpl).weaken fun σ H Q h => rd_ucall σ H Q h⟩
theorem ge_call0 {CX : CXT} {E : XK} {k κ : Nat} {f : Addr} {fd : FuncData} {g : FM} {x : Str} {p pos : Pos} (F : FnOk X.prog X.w X.K X.mg X.base CX k f fd [] (SpF X.K [] κ g)) (hr : Room k X.A) (hg : Gl X x) (hm : X.mg x = some (.ref f)) (hk : PySem.W.keepIn X.K (.ref f) = true)
    (hb : Binds X.K fd [] []) (hx : Passes CX X E) (hdb : (x == ("__debug__" : Str)) = false := by decide) : GE X (.Call (.Name x p) [] [] pos) (ucall [] κ g nilE) :=
  ⟨(pe_call0 F hr hg hm hk hb .nil hx hdb).weaken fun σ H Q h => by
    have h2 := rd_ucall (E := E) σ H Q h
    obtain ⟨O, env, U, as, env', s, od, e, q⟩ := h2
    cases e
    exact q [] H O U [] s od .nil Disj.nil (.refl fun a ha => by simpa using ha)⟩
/-- a call that changes nothing of what it is handed -/
def pcall (f : FM) (m : AM) : PM := fun e => (m e).bind fun ds => (f ds).map fun r => r.1
theorem ra0 {K : Frag} {H : Hp} {O : Addr → Prop} : ∀ {vs ds}, Reps K H O 0 vs ds [] → Ra K H O vs (List.replicate vs.length 0) ds []
  | vs, [], r => by obtain ⟨rfl, _⟩ := r.none; exact .nil
  | vs, d :: ds, r => by
    obtain ⟨v, ws, rfl, a, b⟩ := r.un0
    exact .cons (F := []) (G := []) a (ra0 b) Disj.nil
theorem gp_call {CX : CXT} {E : XK} {k κ n : Nat} {f : Addr} {fd : FuncData} {ps : List Str} {g : FM} {x : Str} {e : Expr} {es : List Expr} {m : AM} {p pos : Pos} (F : FnOk X.prog X.w X.K X.mg X.base CX k f fd ps (SpF X.K (List.replicate n 0) κ g)) (hr : Room k X.A) (hg : Gl X x) (hm : X.mg x = some (.ref f)) (hk : PySem.W.keepIn X.K (.ref f) = true)
    (hb : Binds X.K fd ps []) (hx : Passes CX X E) (ha : GA X (e :: es) m) (hn : (e :: es).length = n := by rfl) (hdb : (x == ("__debug__" : Str)) = false := by decide)
    (he : starEach (e :: es) X.env = (false, eval e X.env) :: starEach es X.env := by rfl) (hpl : (backTo pos (starEach es X.env)).any (·.1) = false := by rfl) : GP X (.Call (.Name x p) (e :: es) [] pos) (pcall g m) :=
  ⟨(pe_call F hr hg hm hk hb .nil hx ha.pa hdb he hpl).weaken fun σ H Q hq => by
    obtain ⟨O, env, U, d, s, od, e, q⟩ := hq
    unfold pcall at e
    obtain ⟨ds, e1, e⟩ := Option.bind_eq_some_iff.mp e
    obtain ⟨⟨r, ds'⟩, e2, e3⟩ := Option.map_eq_some_iff.mp e
    cases e3
    refine ⟨O, env, U, ds, s, od, e1, fun vs H1 s1 rs => ?_⟩
    show SpF X.K (List.replicate n 0) κ g (vs ++ []) H1 Q E
    rw [List.append_nil]
    have hl : vs.length = n := by rw [rs.length, ha.len _ _ e1, hn]
    have ra := ra0 rs
    rw [hl] at ra
    refine ⟨O, ds, [], _, _, ra, od.same s1, e2, fun v H' O' U' F ra' od' rv dF x' => ?_⟩
    have sm : Same H1 H' := fun a o h => x'.same a o h fun z => nomatch z
    refine q v H' (s1.trans sm) (rv.freeze (fun a h z => x'.keep a z fun z => nomatch z) fun a ha z => ?_)
    rcases x'.new a (List.mem_append_right _ ha) with y | y
    · cases y
    · obtain ⟨o, e, _⟩ := (od.same s1) a z
      rw [y] at e; cases e⟩

/-! ### a def by its body -/
def envOf (N : List Str) (ks : List Nat) (ds : List D) : Env := (List.zipWith (fun k d => some (k, d)) ks ds) ++ List.replicate (N.length - ks.length) none
def outA : List Nat → List D → Env → Option (List D)
  | [], _, _ => some []
  | k :: ks, d :: ds, y :: e => if k = 0 then (outA ks ds e).map (d :: ·) else match y with
    | some (j, d') => if j = k then (outA ks ds e).map (d' :: ·) else none
    | none => none
  | _, _, _ => none
def kindR (κ : Nat) (k : Nat) (d : D) : Bool := k == κ || isScal d || κ == 0
/-- what a def hands back, by its body's function -/
def runF (N : List Str) (ks : List Nat) (κ : Nat) (m : SM) : FM := fun ds => (m (envOf N ks ds)).bind fun o => match o with
    | .rt k d e => if kindR κ k d = true then (outA ks ds e).map fun ds' => (d, ds') else none
    | .nx e => (outA ks ds e).map fun ds' => (.non, ds')
    | _ => none
def borS : List Nat → Nat → List Nat
  | [], _ => []
  | k :: ks, i => if k = 0 then borS ks (i + 1) else i :: borS ks (i + 1)
theorem borS_mem : ∀ (ks : List Nat) (i j k : Nat), ks[j]? = some k → k ≠ 0 → i + j ∈ borS ks i
  | [], _, _, _, h, _ => by simp at h
  | k0 :: ks, i, 0, k, h, hk => by
    simp at h; subst h
    unfold borS
    rw [if_neg hk]
    exact List.mem_cons_self
  | k0 :: ks, i, j + 1, k, h, hk => by
    have ih := borS_mem ks (i + 1) j k (by simpa using h) hk
    have e : i + 1 + j = i + (j + 1) := by omega
    rw [e] at ih
    unfold borS
    split
    · exact ih
    · exact List.mem_cons_of_mem _ ih
theorem outA_ok {K : Frag} {H H' : Hp} {O O' : Addr → Prop} (f : Fz H O H' O') (od : Od H O) : ∀ {ks vs ds U}, Ra K H O vs ks ds U → ∀ {σ e U' ds'}, Sl K H' O' σ e U' → outA ks ds e = some ds' →
    (∀ (j k : Nat), ks[j]? = some k → k ≠ 0 → σ[j]? = (vs[j]?).map some) → ∃ W, Ra K H' O' vs ks ds' W ∧ ∀ a ∈ W, a ∈ U'
  | _, _, _, _, .nil, σ, e, U', ds', s, h, _ => by
    have : ds' = [] := by cases e <;> (unfold outA at h; cases h; rfl)
    subst this
    exact ⟨[], .nil, fun _ z => by cases z⟩
  | _, _, _, _, .cons (v := v) (k := k) (d := d) (F := F) (vs := vs) (ks := ks) (ds := ds) (G := G) r ra dj, σ, e, U', ds', s, h, hv => by
    cases e with
    | nil => unfold outA at h; cases h
    | cons y e =>
      by_cases hk : k = 0
      · subst hk
        have h : (outA ks ds e).map (d :: ·) = some ds' := by unfold outA at h; simpa using h
        obtain ⟨ds1, h1, rfl⟩ := Option.map_eq_some_iff.mp h
        have rv := r.fz f od rfl
        cases s with
        | @skip x σ e U s =>
          obtain ⟨W, a1, a2⟩ := outA_ok f od ra s h1 fun j k hj hk => by simpa using hv (j + 1) k (by simpa using hj) hk
          exact ⟨[] ++ W, .cons rv a1 Disj.nil, fun a ha => a2 a (by simpa using ha)⟩
        | @keep w σ k' d' e F U r' s dj' =>
          obtain ⟨W, a1, a2⟩ := outA_ok f od ra s h1 fun j k hj hk => by simpa using hv (j + 1) k (by simpa using hj) hk
          exact ⟨[] ++ W, .cons rv a1 Disj.nil, fun a ha => List.mem_append_right _ (a2 a (by simpa using ha))⟩
      · cases s with
        | @skip x σ e U s => unfold outA at h; simp [hk] at h
        | @keep w σ k' d' e F U r' s dj' =>
          by_cases hk' : k' = k
          · subst hk'
            have h : (outA ks ds e).map (d' :: ·) = some ds' := by unfold outA at h; simpa [hk] using h
            obtain ⟨ds1, h1, rfl⟩ := Option.map_eq_some_iff.mp h
            have hw := hv 0 _ rfl hk
            have hw : w = v := by simpa using hw
            subst hw
            obtain ⟨W, a1, a2⟩ := outA_ok f od ra s h1 fun j k hj hk => by simpa using hv (j + 1) k (by simpa using hj) hk
            exact ⟨F ++ W, .cons r' a1 fun a ha z => dj' a ha (a2 a z), fun a ha => (List.mem_append.mp ha).elim (List.mem_append_left _) fun z => List.mem_append_right _ (a2 a z)⟩
          · unfold outA at h; simp [hk, hk'] at h
theorem sl_nones {K : Frag} {H : Hp} {O : Addr → Prop} : ∀ n : Nat, Sl K H O (List.replicate n none) (List.replicate n none) []
  | 0 => .nil
  | n + 1 => by rw [List.replicate_succ, List.replicate_succ]; exact .skip (sl_nones n)
theorem sl_start {K : Frag} {H : Hp} {O : Addr → Prop} {n : Nat} : ∀ {vs ks ds U}, Ra K H O vs ks ds U → Sl K H O (vs.map some ++ List.replicate n none) (List.zipWith (fun k d => some (k, d)) ks ds ++ List.replicate n none) U
  | _, _, _, _, .nil => by simpa using sl_nones n
  | _, _, _, _, .cons r ra dj => by simpa using Sl.keep r (sl_start ra) dj
theorem fnF {CX : CXT} {P : Program} {w : World} {K : Frag} {mg : Str → Option Value} {base : Heap} {x qual : Str} {params : Arguments} {body : List Stmt} {scope : Scope} {dvs : List V} {kws : List (Str × V)} {f : Addr} {fd : FuncData} {N ps : List Str} {k : Nat} {ks : List Nat} {κ : Nat} {m : SM}
    (F : FunD K x qual params body scope dvs kws f fd) (S : FnScope N ps scope) (hk : ks.length = ps.length)
    (hbody : ∀ (cdv : Value) (A : Around) (outer : List PySem.Env) (s : Shared) (H : Hp) (E : XK), Room k (A.deeper (envOfC qual scope s.heap.objs.size f cdv)) → GSs (cxOf CX P w K mg base N qual scope f cdv A outer s H E).nox (borS ks 0) body m) :
    FnOk P w K mg base CX (k + 1) f fd ps (SpF K ks κ (runF N ks κ m)) := by
  refine F.ok S (fun vs H Q E h => ?_) (fun cdv A outer s H vs Q E hr h => ⟨_, (hbody cdv A outer s H E hr).pss.nox, ?_⟩)
  · obtain ⟨O, ds, U, r, ds', ra, _⟩ := h
    rw [ra.len.1, hk]
  · obtain ⟨O, ds, U, r, ds', ra, od, e, q⟩ := h
    unfold runF at e
    obtain ⟨o, e1, e⟩ := Option.bind_eq_some_iff.mp e
    have hl := ra.len
    refine ⟨O, envOf N ks ds, U, o, ?_, od, e1, ?_⟩
    · unfold L2.start envOf
      rw [hl.1]
      exact sl_start ra
    have fin : ∀ {σ' H' O' U' e' ds'}, Sl K H' O' σ' e' U' → Ext H O U H' O' U' → (∀ i ∈ borS ks 0, σ'[i]? = (L2.start N vs)[i]?) → outA ks ds e' = some ds' → ∃ W, Ra K H' O' vs ks ds' W ∧ ∀ a ∈ W, a ∈ U' := fun s' x' hb ho => by
      refine outA_ok ⟨fun a o h n => x'.same a o h fun z => n (ra.mt a z).1, x'.own⟩ od ra s' ho fun j k hj hk => ?_
      have h1 := borS_mem ks 0 j k hj hk
      rw [Nat.zero_add] at h1
      rw [hb j h1]
      unfold L2.start
      have hj2 : j < vs.length := by rw [hl.1]; exact (List.getElem?_eq_some_iff.mp hj).1
      rw [List.getElem?_append_left (by simpa using hj2), List.getElem?_map]
    cases o with
    | nx e' =>
      intro σ' H' a
      obtain ⟨O', U', s', od', x', hb⟩ := a
      obtain ⟨ds2, e2, e3⟩ := Option.map_eq_some_iff.mp e
      cases e3
      obtain ⟨W, a1, a2⟩ := fin s' x' hb e2
      exact q .non H' O' W [] a1 od' .non Disj.nil (x'.weak fun a ha => a2 a (by simpa using ha))
    | rt k d e' =>
      intro v H' a
      obtain ⟨σ', O', U', F', s', od', rv, dj, x', hb⟩ := a
      have e : (if kindR κ k d = true then (outA ks ds e').map fun ds' => (d, ds') else none) = some (r, ds') := e
      split at e
      case isFalse => cases e
      rename_i hkr
      obtain ⟨ds2, e2, e3⟩ := Option.map_eq_some_iff.mp e
      cases e3
      obtain ⟨W, a1, a2⟩ := fin s' (x'.weak fun a ha => List.mem_append_left _ ha) hb e2
      have hx : Ext H O U H' O' (W ++ F') := x'.weak fun a ha => (List.mem_append.mp ha).elim (fun z => List.mem_append_left _ (a2 a z)) (List.mem_append_right _)
      have dW : Disj F' W := fun a ha z => dj a ha (a2 a z)
      unfold kindR at hkr
      by_cases h1 : k = κ
      · subst h1
        exact q v H' O' W F' a1 od' rv dW hx
      · by_cases h2 : isScal r = true
        · exact q v H' O' W [] a1 od' (rv.scalO h2) Disj.nil (hx.weak fun a ha => List.mem_append_left _ (by simpa using ha))
        · have h3 : κ = 0 := by
            rcases Bool.or_eq_true_iff.mp hkr with h | h
            · rcases Bool.or_eq_true_iff.mp h with h | h
              · exact absurd (by simpa using h) h1
              · exact absurd h h2
            · simpa using h
          subst h3
          refine q v H' (less O' F') W [] (a1.stay (Kp.less rv.mt) dW.symm) od'.less rv.cold Disj.nil ?_
          exact hx.trans (.less (fun a ha => List.mem_append_right _ ha) fun a ha => List.mem_append_left _ (by simpa using ha)) od
    | bk e' => cases e
    | ct e' => cases e
end
end Wr

/-! Small additions. -/
namespace Wr
open PySem PySem.Spec PyProof.Rows L2

section
variable {X : Cx} {B : List Nat}
/-- text * int -/
def mulS : D → D → Option D
  | .str x, .int n => if x.length ≤ 1000 ∧ n ≤ 1000 ∧ -1000 ≤ n then some (.str (Txt.mul x n)) else none
  | _, _ => none
theorem og_mulS : OpG X (binaryOp .Mult) mulS := by
  refine ⟨fun x y H Q => ∃ z n, x = .str z ∧ y = .int n ∧ (z.length ≤ 1000 ∧ n ≤ 1000 ∧ -1000 ≤ n) ∧ Q (.str (Txt.mul z n)) H, ?_, fun H O x y dx dy d Q od rx ry e q => ?_⟩
  · intro pins s σ H x y v u Q I rx ry h
    obtain ⟨z, n, rfl, rfl, ⟨h1, h2, h3⟩, q⟩ := h
    obtain ⟨t, rfl⟩ := rx
    obtain ⟨t', rfl⟩ := ry
    refine SB.mul ⟨?_, fun h4 _ h5 => ?_, fun h4 _ => ?_⟩ fun t' k => ⟨.str _, H, I.tok _, ⟨_, rfl⟩, q⟩
    · have e1 : ¬ n < -(2 ^ 63 : Int) := by omega
      have e2 : ¬ n ≥ (2 ^ 63 : Int) := by omega
      rw [decide_eq_false e1, decide_eq_false e2]; rfl
    · have h6 : (z.length : Int) * n > (2 ^ 63 - 1 : Int) := by
        have h7 : (2 ^ 63 - 1 : Int) < z.length * n := Int.lt_mul_of_ediv_lt (by omega) h5
        exact h7
      have h8 : (z.length : Int) * n ≤ 1000 * 1000 := Int.mul_le_mul (by omega) h2 (by omega) (by omega)
      omega
    · have h8 : z.length * n.toNat ≤ 1000 * 1000 := Nat.mul_le_mul h1 (by omega)
      have hs : (sizeLine : Nat) = 16777216 := sizeLine_eq
      have h9 : ¬ (z.length * n.toNat > sizeLine) := by omega
      first | exact decide_eq_false h9 | (unfold Builtin.Str.tooLong; exact decide_eq_false h9) | (unfold PySem.Builtin.tooLong; exact decide_eq_false h9)
  · cases rx <;> cases ry <;> simp only [mulS, reduceCtorEq] at e
    split at e
    · rename_i hc; cases e; exact ⟨_, _, rfl, rfl, hc, q _ H (Same.refl H) .str⟩
    · cases e
def mulX (x y : D) : Option D := match mulD x y with
  | some d => some d
  | none => mulS x y
theorem og_mulX : OpG X (binaryOp .Mult) mulX := og_mul.or og_mulS
theorem sc_mulX : ScR mulX := fun x y d e => by
  unfold mulX at e
  cases h : mulD x y with
  | some d1 => rw [h] at e; cases e; exact sc_mul x y _ h
  | none =>
    rw [h] at e
    have e : mulS x y = some d := e
    cases x <;> cases y <;> simp only [mulS, reduceCtorEq] at e
    split at e <;> cases e; rfl
/-- not, as a value -/
def notE (m : EM) : EM := fun e => (m e).bind fun x => (asB x.2.1).map fun b => (0, .bl (!b), x.2.2)
theorem ge_not {a : Expr} {m : EM} {pos : Pos} (h : GE X a m) : GE X (.UnaryOp .Not a pos) (notE m) := ⟨(pe_not h.pe).weaken fun σ H Q hq => by
  obtain ⟨O, env, U, k, d, env', s, od, e, q⟩ := hq
  unfold notE at e
  obtain ⟨⟨k1, x, e1⟩, ea, e⟩ := Option.bind_eq_some_iff.mp e
  obtain ⟨c, eb, e⟩ := Option.map_eq_some_iff.mp e
  cases e
  have hx : x = .bl c := asB_some eb
  subst hx
  refine ⟨O, env, U, _, _, _, s, od, ea, fun v H1 O1 U1 F1 s1 od1 r1 dj1 x1 => ?_⟩
  cases r1
  exact ⟨c, rfl, q _ H1 O1 U1 [] s1 od1 .bl Disj.nil x1⟩⟩
/-- truth of what was reckoned -/
def tTE (m : EM) : TEM := fun e => (m e).bind fun x => (truD x.2.1).map fun b => (b, x.2.2)
theorem gte_truth {e : Expr} {m : EM} (h : GE X e m) (he : ∀ whole, isTrue e X.env whole = (do let v ← whole; standAt e.pos; holding [v] (truthy v)) := by intro _; rfl) : GTE X e (tTE m) := ⟨(pt_truth h.pe he).weaken fun σ H Q hq => by
  obtain ⟨O, env, U, b, env', s, od, e, q⟩ := hq
  unfold tTE at e
  obtain ⟨⟨k1, x, e1⟩, ea, e⟩ := Option.bind_eq_some_iff.mp e
  obtain ⟨c, eb, e⟩ := Option.map_eq_some_iff.mp e
  cases e
  exact ⟨O, env, U, k1, x, _, s, od, ea, fun v H1 O1 U1 F1 s1 od1 r1 dj1 x1 => ⟨_, truD_ok r1 eb, q H1 O1 U1 s1 od1 (x1.weak fun a ha => List.mem_append_left _ ha)⟩⟩⟩
/-- x.pop(i) -/
def popE (i : Nat) (mi : EM) : EM := fun e => (vX i e).bind fun x0 => (isLst x0).bind fun _ => (mi e).bind fun y => (asI y.2.1).bind fun n => (vX i y.2.2).bind fun x => match x with
  | (j + 1, .lst xs) => if -(2 ^ 63) ≤ n ∧ n < 2 ^ 63 then (seqIndex? n xs.length).bind fun m => (xs[m]?).map fun d => (j, d, y.2.2.set i (some (j + 1, .lst (xs.eraseIdx m)))) else none
  | _ => none
theorem Reps.erase {K : Frag} {H : Hp} {O : Addr → Prop} {k : Nat} : ∀ {ds vs F}, Reps K H O k vs ds F → ∀ {a : Nat} {d : D}, ds[a]? = some d → ∃ v G R, vs[a]? = some v ∧ Rep K H O k v d G ∧ Reps K H O k (vs.eraseIdx a) (ds.eraseIdx a) R ∧ Disj G R ∧ (∀ x ∈ G, x ∈ F) ∧ (∀ x ∈ R, x ∈ F)
  | [], _, _, _, a, d, h => by simp at h
  | d0 :: ds, vs, F, r, 0, d, h => by
    obtain ⟨v0, ws, F1, F2, rfl, rfl, r1, r2, dj⟩ := r.uncons
    simp at h; subst h
    exact ⟨v0, F1, F2, rfl, r1, r2, dj, fun x => List.mem_append_left _, fun x => List.mem_append_right _⟩
  | d0 :: ds, vs, F, r, a + 1, d, h => by
    obtain ⟨v0, ws, F1, F2, rfl, rfl, r1, r2, dj⟩ := r.uncons
    obtain ⟨v, G, R, hv, rv, rs, djG, hG, hR⟩ := r2.erase (a := a) (d := d) (by simpa using h)
    exact ⟨v, G, F1 ++ R, by simpa using hv, rv, .cons r1 rs fun x hx z => dj x hx (hR x z), Disj.appR (fun x hx z => dj x z (hG x hx)) djG, fun x hx => List.mem_append_right _ (hG x hx),
      fun x hx => (List.mem_append.mp hx).elim (List.mem_append_left _) fun z => List.mem_append_right _ (hR x z)⟩
theorem ge_pop (i : Nat) {x : Str} {e : Expr} {me : EM} {p ap pos : Pos} (he : GE X e me) (hN : X.N[i]? = some x := by rfl) (hv : Vis X.env.scope x := by first | exact Or.inl rfl | exact Or.inr (Or.inl rfl) | exact Or.inr (Or.inr rfl)) (hd : (x == ("__debug__" : Str)) = false := by decide)
    (hcd : (x == ("__classdict__" : Str)) = false := by decide) (hbase : attributeBase (.Name x p) "pop" X.env (eval (.Name x p) X.env) = eval (.Name x p) X.env := by rfl)
    (hfew : ((backTo pos (starEach [e] X.env)).all (fun x => !x.1) && (backToKw pos (keywordEach [] X.env)).all (fun x => x.1.isSome)
      && decide (([e] : List Expr).length + ([] : List Keyword).length + (if ([] : List Keyword).isEmpty then 0 else 1) < 30)) = true := by rfl)
    (hline : (ap.endLine == pos.line) = true := by rfl) (hs : starEach [e] X.env = (false, eval e X.env) :: starEach [] X.env := by rfl) (hplain : (backTo pos (starEach [] X.env)).any (·.1) = false := by rfl) :
    GE X (.Call (.Attribute (.Name x p) "pop" ap) [e] [] pos) (popE i me) := ⟨(pe_bm PySem.F.plainAttrs_list PySem.F.slot_list_pop PySem.F.type_list_pop mt_popAt (pe_var hN hv hd hcd) (pa_cons he.pe pa_nil hs) hbase hfew hline hs hplain).weaken fun σ H Q hq => by
  obtain ⟨O, env, U, k, d, env', s, od, e, q⟩ := hq
  unfold popE at e
  obtain ⟨⟨k0, d0⟩, ea, e⟩ := Option.bind_eq_some_iff.mp e
  obtain ⟨_, eb, e⟩ := Option.bind_eq_some_iff.mp e
  obtain ⟨⟨kv, dv, e1⟩, ec, e⟩ := Option.bind_eq_some_iff.mp e
  obtain ⟨n, en, e⟩ := Option.bind_eq_some_iff.mp e
  obtain ⟨y, ed, e⟩ := Option.bind_eq_some_iff.mp e
  obtain ⟨w, F0, hw, rw0, _⟩ := s.get (vX_some ea)
  have hn : dv = .int n := asI_some en
  subst hn
  split at e
  case h_2 => cases e
  rename_i j xs
  split at e
  case isFalse => cases e
  rename_i hz
  obtain ⟨m, ef, e⟩ := Option.bind_eq_some_iff.mp e
  obtain ⟨dk, eg, e⟩ := Option.map_eq_some_iff.mp e
  cases e
  refine ⟨w, hw, tyV_lst rw0 eb, O, env, U, kv, _, e1, s, od, ec, fun v H1 O1 U1 F1 s1 od1 r1 dj1 x1 => ?_⟩
  cases r1
  obtain ⟨p, vs, F, U0, hp1, hp2, oO, rs, nF, s0, np, djF, mU⟩ := s1.lstAt (vX_some ed)
  rw [hw] at hp1; cases hp1
  obtain ⟨v, G, R, hv, rv, rs', djG, hG, hR⟩ := rs.erase eg
  refine ⟨p, vs, n, m, v, rfl, rfl, hp2, hz.1, hz.2, by rw [rs.length]; exact ef, hv, ?_⟩
  have hi2 : i < e1.length := (List.getElem?_eq_some_iff.mp (vX_some ed)).1
  obtain ⟨U', a1, a2, a3⟩ := s0.write od1 hi2 hw ⟨_, hp2, trivial⟩ oO np rs' (fun z => nF (hR _ z)) (fun a ha => djF a (hR a ha))
  have inU : ∀ a ∈ F, a ∈ U1 := fun a ha => (mU a).mpr (.inr (.inl ha))
  refine q v _ O1 U' G a1 a2 (rv.stay (kp_upd oO ⟨_, hp2, trivial⟩) (notin_one fun z => nF (hG _ z))) (fun a ha z => ?_) ?_
  · rcases (a3 a).mp z with z | z | z
    · subst z; exact nF (hG _ ha)
    · exact djG a ha z
    · exact djF a (hG a ha) z
  · refine x1.trans (ext_upd (List.mem_append_left _ ((mU p).mpr (.inl rfl))) fun a ha => ?_) od
    rcases List.mem_append.mp ha with z | z
    · rcases (a3 a).mp z with z | z | z
      · subst z; exact List.mem_append_left _ ((mU a).mpr (.inl rfl))
      · exact List.mem_append_left _ (inU a (hR a z))
      · exact List.mem_append_left _ ((mU a).mpr (.inr (.inr z)))
    · exact List.mem_append_left _ (inU a (hG a z))⟩
end
end Wr

/-! More rules; named functions for the generator. -/
namespace Wr
open PySem PySem.Spec PyProof.Rows L2

theorem huR {A : Around} {k : Nat} (hr : Room k A) : A.units + 66 < cLine := by have := hr.un; omega
def rngI1 (m : AEM) : IM := fun e => (m e).bind fun x => (arK 0 x.1).bind fun ds => match ds with | [.int j] => if -(2 ^ 62) ≤ j ∧ j < 2 ^ 62 then some (rangeD 0 j, x.2) else none | _ => none
def rngI2 (m : AEM) : IM := fun e => (m e).bind fun x => (arK 0 x.1).bind fun ds => match ds with | [.int i, .int j] => if -(2 ^ 62) ≤ i ∧ i < 2 ^ 62 ∧ -(2 ^ 62) ≤ j ∧ j < 2 ^ 62 then some (rangeD i j, x.2) else none | _ => none
def enumI (m : AEM) : IM := fun e => (m e).bind fun x => (arK 0 x.1).bind fun ds => match ds with | [.lst xs] => some (enumD xs, x.2) | [.tup xs] => some (enumD xs, x.2) | _ => none
def zipI (m : AEM) : IM := fun e => (m e).bind fun x => (arK 0 x.1).bind fun ds => match ds with | [.lst xs, .lst ys] => some (zipD xs ys, x.2) | [.tup xs, .tup ys] => some (zipD xs ys, x.2) | _ => none
def addIp (x y : D) : Option D := match addI x y with | some d => some d | none => addS x y
theorem ips_add : ∀ a b d, addIp a b = some d → isScal a = true := fun a b d e => by
  cases a <;> first | rfl | (cases b <;> simp [addIp, addI, addS] at e)
theorem sqf_only {K : Frag} {H : Hp} {a : Addr} {vs : List V} (h : Only H) (s : SqL K H a vs) : SqF K H O0 a vs := by
  rcases s with (e | e) | e
  · rcases h a with z | ⟨o, xs, z⟩ <;> rw [e] at z <;> cases z
  · exact .inr (.inl e)
  · exact .inr (.inr e)
section
variable {X : Cx} {B : List Nat} {tg : Expr}
theorem gi_rng1 {a : Expr} {m : AEM} {p pos : Pos} (hg : Gl X "range") (hm : X.mg "range" = none) (ha : GAE X [a] m) (hs : starEach [a] X.env = [(false, eval a X.env)] := by rfl) : GI X tg (.Call (.Name "range" p) [a] [] pos) (rngI1 m) := gi_range1 hg hm ha hs
theorem gi_rng2 {a b : Expr} {m : AEM} {p pos : Pos} (hg : Gl X "range") (hm : X.mg "range" = none) (ha : GAE X [a, b] m) (hs : starEach [a, b] X.env = [(false, eval a X.env), (false, eval b X.env)] := by rfl) (hs2 : starEach [b] X.env = [(false, eval b X.env)] := by rfl) : GI X tg (.Call (.Name "range" p) [a, b] [] pos) (rngI2 m) := gi_range2 hg hm ha hs hs2
theorem gi_enumA {e : Expr} {m : AEM} {p pos tpos : Pos} {elts : List Expr} {kk : Nat} (hg : Gl X "enumerate") (hm : X.mg "enumerate" = none) (ha : GAE X [e] m) (hs : starEach [e] X.env = [(false, eval e X.env)] := by rfl) : GI X (.Tuple elts kk tpos) (.Call (.Name "enumerate" p) [e] [] pos) (enumI m) := gi_enum hg hm ha hs
theorem gi_zipA {e e2 : Expr} {m : AEM} {p pos tpos : Pos} {elts : List Expr} {kk : Nat} (hg : Gl X "zip") (hm : X.mg "zip" = none) (ha : GAE X [e, e2] m)
    (hs : starEach [e, e2] X.env = (false, eval e X.env) :: starEach [e2] X.env := by rfl) (hpl : (backTo pos (starEach [e2] X.env)).any (·.1) = false := by rfl) : GI X (.Tuple elts kk tpos) (.Call (.Name "zip" p) [e, e2] [] pos) (zipI m) := gi_zip hg hm ha hs hpl
theorem ip_addGG : IpG X .Add addIp := ip_addG
/-- a tuple of texts of the module -/
theorem gp_globS {x : Str} {a : Addr} {xs : List Str} {pos : Pos} (hg : Gl X x) (hm : X.mg x = some (.ref a) ∧ ∀ H, SqT X.K H a (xs.map V.str)) (hd : (x == ("__debug__" : Str)) = false := by decide) : GP X (.Name x pos) (cP (.tup (xs.map D.str))) := by
  refine gp_glob (v := .ref a) hg hm.1 rfl (fun H O => .tup (hm.2 H) ?_) hd
  induction xs with
  | nil => exact .nil
  | cons x xs ih => exact .cons0 .str (Reps.o1 xs)
where Reps.o1 : ∀ xs : List Str, ∀ {K : Frag} {H : Hp} {O : Addr → Prop}, Reps K H O 0 (xs.map V.str) (xs.map D.str) []
  | [], _, _, _ => .nil
  | x :: xs, _, _, _ => .cons0 .str (Reps.o1 xs)
/-- f() -/
theorem gp_call0 {CX : CXT} {E : XK} {k κ : Nat} {f : Addr} {fd : FuncData} {g : FM} {x : Str} {p pos : Pos} (F : FnOk X.prog X.w X.K X.mg X.base CX k f fd [] (SpF X.K [] κ g)) (hr : Room k X.A) (hg : Gl X x) (hm : X.mg x = some (.ref f)) (hk : PySem.W.keepIn X.K (.ref f) = true)
    (hb : Binds X.K fd [] []) (hx : Passes CX X E) (hdb : (x == ("__debug__" : Str)) = false := by decide) : GP X (.Call (.Name x p) [] [] pos) (pcall g nilA) :=
  ⟨(pe_call0 F hr hg hm hk hb .nil hx hdb).weaken fun σ H Q hq => by
    obtain ⟨O, env, U, d, s, od, e, q⟩ := hq
    obtain ⟨ds, e1, e⟩ := Option.bind_eq_some_iff.mp e
    cases e1
    obtain ⟨⟨r, ds'⟩, e2, e3⟩ := Option.map_eq_some_iff.mp e
    cases e3
    show SpF X.K [] κ g ([] ++ []) H Q E
    refine ⟨O, [], [], _, _, .nil, od, e2, fun v H' O' U' F ra' od' rv dF x' => ?_⟩
    have sm : Same H H' := fun a o h => x'.same a o h fun z => by cases z
    refine q v H' sm (rv.freeze (fun a h z => x'.keep a z fun z => by cases z) fun a ha z => ?_)
    rcases x'.new a (List.mem_append_right _ ha) with y | y
    · cases y
    · obtain ⟨o, e, _⟩ := od a z
      rw [y] at e; cases e⟩
/-- x[::-1] of a list -/
def revD : D → Option D
  | .lst xs => some (.lst xs.reverse)
  | _ => none
def revP (m : PM) : PM := fun e => (m e).bind revD
theorem Reps.rev0 {K : Frag} {H : Hp} {O : Addr → Prop} : ∀ {ds vs}, Reps K H O 0 vs ds [] → Reps K H O 0 vs.reverse ds.reverse []
  | [], _, r => by obtain ⟨rfl, _⟩ := r.none; exact .nil
  | d :: ds, _, r => by
    obtain ⟨v, ws, rfl, a, b⟩ := r.un0
    rw [List.reverse_cons, List.reverse_cons]
    exact b.rev0.app0 (.cons0 a .nil)
theorem gp_rev {e : Expr} {m : PM} {k : Nat} {p1 p2 p3 pos : Pos} (h : GP X e m) : GP X (.Subscript e (.Slice none none (some (.UnaryOp .USub (.Constant (.int 1) k p1) p2)) p3) pos) (revP m) := ⟨(pe_revL h.pe).weaken fun σ H Q hq => by
  obtain ⟨O, env, U, d, s, od, e, q⟩ := hq
  unfold revP at e
  obtain ⟨x, e1, e⟩ := Option.bind_eq_some_iff.mp e
  cases x <;> simp only [revD, reduceCtorEq] at e
  cases e
  refine ⟨O, env, U, _, s, od, e1, fun v H1 s1 r1 => ?_⟩
  cases r1 with
  | @frz a vs _ hs rs => exact ⟨a, vs, rfl, hs.sq, fun p hp => q _ _ (s1.trans (same_new hp)) (freshL (od.same s1) rs.rev0 hp)⟩⟩
/-- [a, ..] * n -/
def repE (ma mb : EM) : EM := fun e => (ma e).bind fun x => (mb x.2.2).bind fun y => (asI y.2.1).bind fun n => match x.1, x.2.1 with
  | 1, .lst xs => if -(2 ^ 63) ≤ n ∧ n < 2 ^ 63 ∧ xs.length * n.toNat ≤ sizeLine then some (1, .lst (List.replicate n.toNat xs).flatten, y.2.2) else none
  | _, _ => none
theorem Reps.rep0 {K : Frag} {H : Hp} {O : Addr → Prop} {vs ds} (r : Reps K H O 0 vs ds []) : ∀ n : Nat, Reps K H O 0 (List.replicate n vs).flatten (List.replicate n ds).flatten []
  | 0 => .nil
  | n + 1 => by rw [List.replicate_succ, List.replicate_succ, List.flatten_cons, List.flatten_cons]; exact r.app0 (Reps.rep0 r n)
theorem ge_rep {a b : Expr} {ma mb : EM} {pos : Pos} (ha : GE X a ma) (hb : GE X b mb) : GE X (.BinOp a .Mult b pos) (repE ma mb) := ⟨(pe_op op_rep ha.pe hb.pe).weaken fun σ H Q hq => by
  obtain ⟨O, env, U, k, d, env', s, od, e, q⟩ := hq
  unfold repE at e
  obtain ⟨⟨k1, x, e1⟩, ea, e⟩ := Option.bind_eq_some_iff.mp e
  obtain ⟨⟨k2, y, e2⟩, eb, e⟩ := Option.bind_eq_some_iff.mp e
  obtain ⟨n, ec, e⟩ := Option.bind_eq_some_iff.mp e
  have hy : y = .int n := asI_some ec
  subst hy
  split at e
  case h_2 => cases e
  rename_i xs hk1 hx1
  split at e
  case isFalse => cases e
  rename_i hc
  cases e
  have hk1 : k1 = 1 := hk1
  subst hk1
  have hx1 : x = .lst _ := hx1
  subst hx1
  refine ⟨O, env, U, 1, _, e1, s, od, ea, fun v H1 O1 U1 F1 s1 od1 r1 dj1 x1 => ⟨O1, e1, U1, k2, _, _, s1, od1, eb, fun u H2 O2 U2 F2 s2 od2 r2 dj2 x2 => ?_⟩⟩
  have r1' := x2.rep s1.mt r1 dj1
  cases r2
  cases r1' with
  | @own _ p vs _ F hp oO nF rs =>
    have := rs.zero; subst this
    refine ⟨p, n, vs, rfl, rfl, hp, hc.1, hc.2.1, by rw [rs.length]; exact hc.2.2, fun p' hp' => ?_⟩
    exact own_post od s2 od2 (x1.seq (U' := U2 ++ []) x2 od fun a ha => .inl ha) q (Same.refl _) hp' (rs.rep0 _)⟩
/-- x.clear() -/
def clrE (i : Nat) : EM := fun e => (vX i e).bind fun x => match x with
  | (j + 1, .lst _) => some (0, .non, e.set i (some (j + 1, .lst [])))
  | _ => none
theorem ge_clear (i : Nat) {x : Str} {p ap pos : Pos} (hN : X.N[i]? = some x := by rfl) (hv : Vis X.env.scope x := by first | exact Or.inl rfl | exact Or.inr (Or.inl rfl) | exact Or.inr (Or.inr rfl)) (hd : (x == ("__debug__" : Str)) = false := by decide)
    (hcd : (x == ("__classdict__" : Str)) = false := by decide) (hbase : attributeBase (.Name x p) "clear" X.env (eval (.Name x p) X.env) = eval (.Name x p) X.env := by rfl) (hline : (ap.endLine == pos.line) = true := by rfl) :
    GE X (.Call (.Attribute (.Name x p) "clear" ap) [] [] pos) (clrE i) := ⟨(pe_bm0 PySem.F.plainAttrs_list PySem.F.slot_list_clear PySem.F.type_list_clear mt_clear (pe_var hN hv hd hcd) hbase hline).weaken fun σ H Q hq => by
  obtain ⟨O, env, U, k, d, env', s, od, e, q⟩ := hq
  unfold clrE at e
  obtain ⟨⟨k0, d0⟩, ea, e⟩ := Option.bind_eq_some_iff.mp e
  split at e
  case h_2 => cases e
  rename_i j xs heq
  cases heq
  cases e
  obtain ⟨p, vs, F, U0, hp1, hp2, oO, rs, nF, s0, np, djF, mU⟩ := s.lstAt (vX_some ea)
  refine ⟨.ref p, hp1, .inl ⟨rfl, _, .inl (.inl hp2)⟩, p, vs, rfl, rfl, hp2, ?_⟩
  have hi2 : i < env.length := (List.getElem?_eq_some_iff.mp (vX_some ea)).1
  obtain ⟨U', a1, a2, a3⟩ := s0.write od hi2 hp1 ⟨_, hp2, trivial⟩ oO np (Reps.nil (k := j)) (fun z => by cases z) (fun _ z => by cases z)
  refine q .non _ O U' [] a1 a2 .non Disj.nil (ext_upd ((mU p).mpr (.inl rfl)) fun a ha => ?_)
  have ha : a ∈ U' := by simpa using ha
  rcases (a3 a).mp ha with z | z | z
  · subst z; exact (mU a).mpr (.inl rfl)
  · cases z
  · exact (mU a).mpr (.inr (.inr z))⟩
/-- a text's methods, pure -/
def meth1 (f : D → D → Option D) (mo ma : PM) : PM := fun e => (mo e).bind fun x => (ma e).bind fun y => f x y
def sindexD : D → D → Option D
  | .str a, .str b => match Builtin.Str.occurrences a b 0 a.length 1 with
    | i :: _ => some (.int (i : Nat))
    | [] => none
  | _, _ => none
theorem gp_sindex {o a : Expr} {mo ma : PM} {ap pos : Pos} (ho : GP X o mo) (ha : GP X a ma) (hbase : attributeBase o "index" X.env (eval o X.env) = eval o X.env := by rfl)
    (hfew : ((backTo pos (starEach [a] X.env)).all (fun x => !x.1) && (backToKw pos (keywordEach [] X.env)).all (fun x => x.1.isSome)
      && decide (([a] : List Expr).length + ([] : List Keyword).length + (if ([] : List Keyword).isEmpty then 0 else 1) < 30)) = true := by rfl)
    (hline : (ap.endLine == pos.line) = true := by rfl) (hs : starEach [a] X.env = (false, eval a X.env) :: starEach [] X.env := by rfl) (hplain : (backTo pos (starEach [] X.env)).any (·.1) = false := by rfl) :
    GP X (.Call (.Attribute o "index" ap) [a] [] pos) (meth1 sindexD mo ma) := ⟨(pe_bm PySem.F.plainAttrs_str PySem.F.slot_str_index PySem.F.type_str_index mt_sindex ho.pe (pa_cons ha.pe pa_nil hs) hbase hfew hline hs hplain).weaken fun σ H Q hq => by
  obtain ⟨O, env, U, d, s, od, e, q⟩ := hq
  unfold meth1 at e
  obtain ⟨x, e1, e⟩ := Option.bind_eq_some_iff.mp e
  obtain ⟨y, e2, e⟩ := Option.bind_eq_some_iff.mp e
  cases x <;> cases y <;> simp only [sindexD, reduceCtorEq] at e
  rename_i a b
  refine ⟨O, env, U, _, s, od, e1, fun v H1 s1 r1 => ?_⟩
  cases r1
  refine ⟨rfl, O, env, U, _, s.same s1, od.same s1, e2, fun u H2 s2 r2 => ?_⟩
  cases r2
  split at e
  · rename_i i rest heq
    cases e
    exact ⟨_, _, i, rest, rfl, rfl, heq, q _ H2 (s1.trans s2) .int⟩
  · cases e⟩
/-- sep.join(xs) -/
def joinD : D → D → Option D
  | .str a, .lst xs => (strsOf xs).bind fun ys => if (ys.map (·.length)).sum + ys.length * a.length ≤ 16777216 then some (.str (Txt.join a ys)) else none
  | .str a, .tup xs => (strsOf xs).bind fun ys => if (ys.map (·.length)).sum + ys.length * a.length ≤ 16777216 then some (.str (Txt.join a ys)) else none
  | _, _ => none
def meth1E (f : D → D → Option D) (mo : PM) (ma : EM) : EM := fun e => (mo e).bind fun x => (ma e).bind fun y => (keepK (y.1, y.2.1)).bind fun dy => (f x dy).map fun d => (0, d, y.2.2)
theorem ge_join {o a : Expr} {mo : PM} {ma : EM} {ap pos : Pos} (ho : GP X o mo) (ha : GE X a ma) (hbase : attributeBase o "join" X.env (eval o X.env) = eval o X.env := by rfl)
    (hfew : ((backTo pos (starEach [a] X.env)).all (fun x => !x.1) && (backToKw pos (keywordEach [] X.env)).all (fun x => x.1.isSome)
      && decide (([a] : List Expr).length + ([] : List Keyword).length + (if ([] : List Keyword).isEmpty then 0 else 1) < 30)) = true := by rfl)
    (hline : (ap.endLine == pos.line) = true := by rfl) (hs : starEach [a] X.env = (false, eval a X.env) :: starEach [] X.env := by rfl) (hplain : (backTo pos (starEach [] X.env)).any (·.1) = false := by rfl) :
    GE X (.Call (.Attribute o "join" ap) [a] [] pos) (meth1E joinD mo ma) := ⟨(pe_bm PySem.F.plainAttrs_str PySem.F.slot_str_join PySem.F.type_str_join mt_join ho.pe (pa_cons ha.pe pa_nil hs) hbase hfew hline hs hplain).weaken fun σ H Q hq => by
  obtain ⟨O, env, U, k, d, env', s, od, e, q⟩ := hq
  unfold meth1E at e
  obtain ⟨x, e1, e⟩ := Option.bind_eq_some_iff.mp e
  obtain ⟨⟨ky, y, e3⟩, e2, e⟩ := Option.bind_eq_some_iff.mp e
  obtain ⟨dy, e4, e⟩ := Option.bind_eq_some_iff.mp e
  obtain ⟨d', e5, e⟩ := Option.map_eq_some_iff.mp e
  cases e
  cases x <;> simp only [joinD, reduceCtorEq] at e5
  rename_i a
  refine ⟨O, env, U, _, s, od, e1, fun v H1 s1 r1 => ?_⟩
  cases r1
  refine ⟨rfl, O, env, U, ky, y, _, s.same s1, od.same s1, e2, fun u H2 O2 U2 F2 s2 od2 r2 dj2 x2 => ?_⟩
  obtain ⟨rfl, r2⟩ := keepK_rep r2 e4
  have x12 : Ext H O U H2 O2 (U2 ++ []) := (((Ext.of_same s1 fun _ h => h).trans x2 od).weak fun a ha => List.mem_append_left _ (by simpa using ha))
  cases dy with
  | lst xs =>
    obtain ⟨ys, e6, e7⟩ := Option.bind_eq_some_iff.mp e5
    split at e7
    · rename_i hz
      cases e7
      rw [strsOf_eq e6] at r2
      cases r2 with
      | @frz b vs _ hs rs =>
        have := rs.strs; subst this
        exact ⟨_, b, ys, rfl, rfl, .inl hs.sq, hz, q _ H2 O2 U2 [] s2 od2 .str Disj.nil x12⟩
    · cases e7
  | tup xs =>
    obtain ⟨ys, e6, e7⟩ := Option.bind_eq_some_iff.mp e5
    split at e7
    · rename_i hz
      cases e7
      rw [strsOf_eq e6] at r2
      cases r2 with
      | @tup _ b vs _ _ hs rs =>
        have := rs.strs; subst this
        exact ⟨_, b, ys, rfl, rfl, .inr hs, hz, q _ H2 O2 U2 [] s2 od2 .str Disj.nil x12⟩
    · cases e7
  | _ => cases e5⟩
end
end Wr

/-! Working out what the functions over trees answer. -/
namespace Wr
open PySem PySem.Spec PyProof.Rows L2
theorem bind_some' {α β : Type} (a : α) (f : α → Option β) : (some a).bind f = f a := rfl
@[simp] theorem toKind_int (k : Nat) (x : Nat) (i : Int) : toKind k (x, .int i) = some (.int i) := by simp [toKind, isScal]
@[simp] theorem toKind_same (k : Nat) (d : D) : toKind k (k, d) = some d := by simp [toKind]
@[simp] theorem toKind_bl (k : Nat) (x : Nat) (i : Bool) : toKind k (x, .bl i) = some (.bl i) := by simp [toKind, isScal]
@[simp] theorem toKind_str (k : Nat) (x : Nat) (i : Str) : toKind k (x, .str i) = some (.str i) := by simp [toKind, isScal]
@[simp] theorem toKind_non (k : Nat) (x : Nat) : toKind k (x, .non) = some .non := by simp [toKind, isScal]
@[simp] theorem keepK_non (x : Nat) : keepK (x, .non) = some .non := by simp [keepK, isScal]
@[simp] theorem single_lt (a b : Nat) : ([a] < [b]) ↔ a < b := by
  rw [List.cons_lt_cons_iff]
  exact ⟨fun h => h.elim id fun z => absurd z.2 (List.lt_irrefl _), .inl⟩
@[simp] theorem single_le (a b : Nat) : ([a] ≤ [b]) ↔ a ≤ b := by
  rw [← List.not_lt, single_lt]; omega
@[simp] theorem keepK_int (x : Nat) (i : Int) : keepK (x, .int i) = some (.int i) := by simp [keepK, isScal]
@[simp] theorem keepK_bl (x : Nat) (i : Bool) : keepK (x, .bl i) = some (.bl i) := by simp [keepK, isScal]
@[simp] theorem keepK_str (x : Nat) (i : Str) : keepK (x, .str i) = some (.str i) := by simp [keepK, isScal]
@[simp] theorem keepK_zero (d : D) : keepK (0, d) = some d := by simp [keepK]
theorem ixN_nat {n i : Nat} (h : i < n) : L2.ixN n (i : Int) = some i := by
  unfold L2.ixN
  rw [if_pos (by omega), if_pos (by omega)]; simp
theorem ixN_neg {n i : Nat} (h : i < n) : L2.ixN n (-((i : Int) + 1)) = some (n - 1 - i) := by
  unfold L2.ixN
  rw [if_neg (by omega), if_pos (by omega)]
  congr 1; omega
theorem atI_nat {α : Type} {xs : List α} {i : Nat} (h : i < xs.length) : L2.atI xs (i : Int) = some xs[i] := by
  unfold L2.atI
  rw [ixN_nat h]
  exact List.getElem?_eq_getElem h
@[simp] theorem atI0 {α : Type} (x : α) (xs : List α) : L2.atI (x :: xs) 0 = some x := atI_nat (xs := x :: xs) (i := 0) (by simp)
@[simp] theorem atI1 {α : Type} (x y : α) (xs : List α) : L2.atI (x :: y :: xs) 1 = some y := atI_nat (xs := x :: y :: xs) (i := 1) (by simp)
@[simp] theorem atI2 {α : Type} (x y z : α) (xs : List α) : L2.atI (x :: y :: z :: xs) 2 = some z := atI_nat (xs := x :: y :: z :: xs) (i := 2) (by simp)
@[simp] theorem ixN1 (n : Nat) : L2.ixN (n + 2) 1 = some 1 := ixN_nat (n := n + 2) (i := 1) (by omega)
@[simp] theorem ixN0 (n : Nat) : L2.ixN (n + 1) 0 = some 0 := ixN_nat (n := n + 1) (i := 0) (by omega)
section
variable (i j : Int) (x y : Str) (a b : Bool) (n : Nat) (d : D) (xs ys : List D)
@[simp] theorem addD_ii : addD (.int i) (.int j) = some (.int (i + j)) := rfl
theorem addD_ss : addD (.str x) (.str y) = if x.length + y.length ≤ sizeLine then some (.str (x ++ y)) else none := rfl
@[simp] theorem addD_tt : addD (.tup xs) (.tup ys) = if xs.length + ys.length ≤ 16777216 then some (.tup (xs ++ ys)) else none := rfl
@[simp] theorem addIp_ii : addIp (.int i) (.int j) = some (.int (i + j)) := rfl
@[simp] theorem subD_ii : subD (.int i) (.int j) = some (.int (i - j)) := rfl
@[simp] theorem modD_ii : modD (.int i) (.int j) = if 0 < j then some (.int (i % j)) else none := rfl
@[simp] theorem fdivD_ii : fdivD (.int i) (.int j) = if 0 < j ∧ j.natAbs.log2 < 9000 then some (.int (i / j)) else none := rfl
@[simp] theorem powD_ii : powD (.int i) (.int j) = if 0 ≤ j ∧ j ≤ 1000000 ∧ i.natAbs < 2 ^ 64 then some (.int (i ^ j.toNat)) else none := rfl
@[simp] theorem mulX_ii : mulX (.int i) (.int j) = if mulOk i j = true then some (.int (i * j)) else none := by unfold mulX mulD; split <;> simp_all [mulS]
theorem mulOk_l (h : -(2 ^ 64) < i ∧ i < 2 ^ 64) : mulOk i j = true := by unfold mulOk; simp only [Bool.or_eq_true, decide_eq_true_eq]; exact .inl (.inl h)
theorem mulOk_r (h : -(2 ^ 64) < j ∧ j < 2 ^ 64) : mulOk i j = true := by unfold mulOk; simp only [Bool.or_eq_true, decide_eq_true_eq]; exact .inl (.inr h)
@[simp] theorem ltI_ii : ltI (.int i) (.int j) = some (.bl (decide (i < j))) := rfl
@[simp] theorem leI_ii : leI (.int i) (.int j) = some (.bl (decide (i ≤ j))) := rfl
@[simp] theorem gtI_ii : gtI (.int i) (.int j) = some (.bl (decide (j < i))) := rfl
@[simp] theorem geI_ii : geI (.int i) (.int j) = some (.bl (decide (j ≤ i))) := rfl
@[simp] theorem leD_ii : leD (.int i) (.int j) = some (.bl (decide (i ≤ j))) := rfl
theorem leD_ss : leD (.str x) (.str y) = some (.bl (!decide (y.cps.toList < x.cps.toList))) := rfl
@[simp] theorem eqD_ii : eqD (.int i) (.int j) = some (.bl (decide (i = j))) := rfl
theorem eqD_ss : eqD (.str x) (.str y) = some (.bl (decide (x = y))) := rfl
@[simp] theorem eqD_bb : eqD (.bl a) (.bl b) = some (.bl (decide (a = b))) := rfl
@[simp] theorem neD_ii : neD (.int i) (.int j) = some (.bl (!decide (i = j))) := rfl
theorem neD_ss : neD (.str x) (.str y) = some (.bl (!decide (x = y))) := rfl
@[simp] theorem isD_n : isD d .non = some (.bl (isNonB d)) := by cases d <;> rfl
@[simp] theorem isntD_n : isntD d .non = some (.bl (!isNonB d)) := by cases d <;> rfl
@[simp] theorem negD_i : negD (.int i) = some (.int (-i)) := rfl
theorem lenD_s : lenD [.str x] = if x.length ≤ sizeLine then some (.int x.length) else none := rfl
@[simp] theorem lenD_l : lenD [.lst xs] = some (.int xs.length) := rfl
@[simp] theorem lenD_t : lenD [.tup xs] = some (.int xs.length) := rfl
@[simp] theorem absD_i : absD [.int i] = some (.int (if i < 0 then -i else i)) := rfl
@[simp] theorem idxK_l (k : Nat) : idxK (k, .lst xs) (.int i) = (L2.atI xs i).map fun d => (k - 1, d) := rfl
@[simp] theorem idxK_t (k : Nat) : idxK (k, .tup xs) (.int i) = (L2.atI xs i).map fun d => (k, d) := rfl
theorem idxK_s (k : Nat) : idxK (k, .str x) (.int i) = if x.length ≤ sizeLine then (L2.atI x.cps.toList i).map fun c => (0, .str ⟨#[c]⟩) else none := rfl
@[simp] theorem asI_i : asI (.int i) = some i := rfl
@[simp] theorem asB_b : asB (.bl a) = some a := rfl
@[simp] theorem truD_b : truD (.bl a) = some a := rfl
@[simp] theorem truD_i : truD (.int i) = some (i != 0) := rfl
theorem runF_rt {N : List Str} {ks : List Nat} {κ : Nat} {m : SM} {ds : List D} {k : Nat} {d : D} {e : Env} (h : m (envOf N ks ds) = some (.rt k d e)) (hk : kindR κ k d = true) : runF N ks κ m ds = (outA ks ds e).map fun ds' => (d, ds') := by
  unfold runF; rw [h]; simp [hk]
end
/-! ### there is an answer, and it is one of Q -/
structure Lazy {α : Type} (Q : α → Prop) : Type where
/-- (u keeps simp out of Q) -/
def OB {α : Type} (x : Option α) (Q : α → Prop) (u : Lazy Q := ⟨⟩) : Prop := ∃ a, x = some a ∧ Q a
section
variable {α β : Type}
@[simp] theorem OB_some (a : α) (Q : α → Prop) : OB (some a) Q ↔ Q a := ⟨fun ⟨_, e, q⟩ => by cases e; exact q, fun q => ⟨a, rfl, q⟩⟩
@[simp] theorem OB_none (Q : α → Prop) : OB none Q ↔ False := ⟨fun ⟨_, e, _⟩ => (by cases e), fun q => False.elim q⟩
@[simp ↓] theorem OB_bind (x : Option α) (f : α → Option β) (Q : β → Prop) : OB (x.bind f) Q ↔ OB x fun a => OB (f a) Q := by
  cases x with
  | none => exact ⟨fun ⟨_, e, _⟩ => (by cases e), fun ⟨_, e, _⟩ => (by cases e)⟩
  | some a => exact (OB_some (α := α) a (fun a => OB (f a) Q)).symm
@[simp ↓] theorem OB_map (x : Option α) (f : α → β) (Q : β → Prop) : OB (x.map f) Q ↔ OB x fun a => Q (f a) := by
  cases x with
  | none => exact ⟨fun ⟨_, e, _⟩ => (by cases e), fun ⟨_, e, _⟩ => (by cases e)⟩
  | some a => exact (OB_some (f a) Q).trans (OB_some (α := α) a (fun a => Q (f a))).symm
@[simp ↓] theorem OB_ite (c : Prop) [Decidable c] (x y : Option α) (Q : α → Prop) : OB (if c then x else y) Q ↔ (c → OB x Q) ∧ (¬ c → OB y Q) := by
  by_cases h : c
  · rw [if_pos h]; exact ⟨fun q => ⟨fun _ => q, fun z => absurd h z⟩, fun q => q.1 h⟩
  · rw [if_neg h]; exact ⟨fun q => ⟨fun z => absurd z h, fun _ => q⟩, fun q => q.2 h⟩
@[simp ↓ 2000] theorem OB_guard (c : Prop) [Decidable c] (x : Option α) (Q : α → Prop) : OB (if c then x else none) Q ↔ c ∧ OB x Q := by
  by_cases h : c
  · rw [if_pos h]; exact ⟨fun q => ⟨h, q⟩, fun q => q.2⟩
  · rw [if_neg h]; exact ⟨fun ⟨_, e, _⟩ => (by cases e), fun q => absurd q.1 h⟩
@[simp 2000] theorem OB_guard' (c : Prop) [Decidable c] (x : Option α) (Q : α → Prop) : OB (if c then x else none) Q ↔ c ∧ OB x Q := OB_guard c x Q
@[simp] theorem OB_ite' (c : Prop) [Decidable c] (x y : Option α) (Q : α → Prop) : OB (if c then x else y) Q ↔ (c → OB x Q) ∧ (¬ c → OB y Q) := OB_ite c x y Q
structure LazyP (p : Prop) : Type where
/-- p, as it stands (simp stays out) -/
def Hid (p : Prop) (u : LazyP p := ⟨⟩) : Prop := p
theorem Hid.mk {p : Prop} (h : p) : Hid p := h
theorem Hid.out {p : Prop} (h : Hid p) : p := h
theorem OB.imp {x : Option α} {Q R : α → Prop} (h : OB x Q) (g : ∀ a, Q a → R a) : OB x R := let ⟨a, e, q⟩ := h; ⟨a, e, g a q⟩
theorem OB.of_eq {x : Option α} {a : α} {Q : α → Prop} (h : x = some a) (q : Q a) : OB x Q := ⟨a, h, q⟩
theorem OB.eq {x : Option α} {a : α} (h : OB x (· = a)) : x = some a := by obtain ⟨b, e, rfl⟩ := h; exact e
/-- a for: I at what is left -/
theorem forL_ob {ta : TAs} {body : SM} {Q : Out → Prop} (I : List D → Env → Prop) (step : ∀ d ds e, I (d :: ds) e → OB (ta 0 d e) fun e1 => OB (body e1) fun o => match o with
      | .nx e2 => I ds e2
      | .ct e2 => I ds e2
      | .bk e2 => Q (.nx e2)
      | .rt k d e2 => Q (.rt k d e2)) (done : ∀ e, I [] e → Q (.nx e)) : ∀ ds e, I ds e → OB (forL ta body ds e) Q
  | [], e, h => ⟨_, rfl, done e h⟩
  | d :: ds, e, h => by
    obtain ⟨e1, a, o, b, q⟩ := step d ds e h
    unfold forL
    rw [a, bind_some', b, bind_some']
    cases o with
    | nx e2 => exact forL_ob I step done ds e2 q
    | ct e2 => exact forL_ob I step done ds e2 q
    | bk e2 => exact ⟨_, rfl, q⟩
    | rt k d e2 => exact ⟨_, rfl, q⟩
theorem rangeD_cons {lo hi : Int} (h : lo < hi) : rangeD lo hi = .int lo :: rangeD (lo + 1) hi := by
  unfold rangeD
  obtain ⟨n, hn⟩ : ∃ n : Nat, (hi - lo).toNat = n + 1 := ⟨(hi - lo).toNat - 1, by omega⟩
  rw [hn, show (hi - (lo + 1)).toNat = n by omega, List.range_succ_eq_map, List.map_cons, List.map_map]
  congr 1
  · simp
  · apply List.map_congr_left
    intro a _
    simp only [Function.comp]
    congr 1
    omega
theorem rangeD_nil {lo hi : Int} (h : hi ≤ lo) : rangeD lo hi = [] := by
  unfold rangeD
  rw [show (hi - lo).toNat = 0 by omega]; rfl
/-- a for over a range: I at the next number -/
theorem forR_ob {ta : TAs} {body : SM} {Q : Out → Prop} {hi : Int} (I : Int → Env → Prop) (step : ∀ i e, i < hi → I i e → OB (ta 0 (.int i) e) fun e1 => OB (body e1) fun o => match o with
      | .nx e2 => I (i + 1) e2
      | .ct e2 => I (i + 1) e2
      | .bk e2 => Q (.nx e2)
      | .rt k d e2 => Q (.rt k d e2)) (done : ∀ i e, hi ≤ i → I i e → Q (.nx e)) (lo : Int) (e : Env) (h : I lo e) : OB (forL ta body (rangeD lo hi) e) Q := by
  refine forL_ob (fun ds e => ∃ i, ds = rangeD i hi ∧ I i e) (fun d ds e ⟨i, h1, h2⟩ => ?_) (fun e ⟨i, h1, h2⟩ => ?_) _ _ ⟨lo, rfl, h⟩
  · by_cases hl : i < hi
    · rw [rangeD_cons hl] at h1
      cases h1
      obtain ⟨e1, a, o, b, q⟩ := step i e hl h2
      refine ⟨e1, a, o, b, ?_⟩
      cases o with
      | nx e2 => exact ⟨_, rfl, q⟩
      | ct e2 => exact ⟨_, rfl, q⟩
      | bk e2 => exact q
      | rt k d e2 => exact q
    · rw [rangeD_nil (by omega)] at h1; cases h1
  · refine done i e ?_ h2
    by_cases hl : i < hi
    · rw [rangeD_cons hl] at h1; cases h1
    · omega
/-- a comprehension: I at what is left and what is built -/
theorem lcL_ob {k : Nat} {vs : List Nat} {ta : TAs} {mt : TEM} {me : EM} {Q : List D × Env → Prop} (I : List D → List D → Env → Prop) (step : ∀ d ds acc e, I (d :: ds) acc e → OB (ta 0 d (wipeE e vs)) fun e1 => OB (mt e1) fun b =>
      (b.1 = true → OB (me b.2) fun y => OB (toKind k (y.1, y.2.1)) fun v => I ds (acc ++ [v]) y.2.2) ∧ (¬ b.1 = true → I ds acc b.2)) (done : ∀ acc e, I [] acc e → Q (acc, e)) : ∀ ds acc e, I ds acc e → OB (lcL k vs ta mt me ds e) fun r => Q (acc ++ r.1, r.2)
  | [], acc, e, h => ⟨_, rfl, by simpa using done acc e h⟩
  | d :: ds, acc, e, h => by
    obtain ⟨e1, a, b, hb, q1, q2⟩ := step d ds acc e h
    unfold lcL
    rw [a, bind_some', hb, bind_some']
    by_cases hc : b.1 = true
    · rw [if_pos hc]
      obtain ⟨y, ey, v, ev, q⟩ := q1 hc
      rw [ey, bind_some', ev, bind_some', OB_map]
      exact (lcL_ob I step done ds _ _ q).imp fun r hr => by simpa using hr
    · rw [if_neg hc]
      exact lcL_ob I step done ds _ _ (q2 hc)
end
/-! ### texts as lists of signs -/
def S (cs : List Nat) : Str := ⟨cs.toArray⟩
theorem S_of (x : Str) : S x.cps.toList = x := by cases x; simp [S]
theorem S_inj {a b : List Nat} : S a = S b ↔ a = b := by simp [S]
theorem S_len (a : List Nat) : (S a).length = a.length := by simp [S, Str.length]
theorem S_list (a : List Nat) : (S a).cps.toList = a := by simp [S]
theorem S_size (a : List Nat) : (S a).cps.size = a.length := by simp [S]
theorem S_app (a b : List Nat) : S a ++ S b = S (a ++ b) := by show Str.append _ _ = _; simp [Str.append, S]
theorem cutS_S (a : List Nat) (lo hi : Option Int) : L2.cutS (S a) lo hi = S (cutL a lo hi) := by simp [L2.cutS, cutL, S, Str.length]
theorem cutL_le {α : Type} (xs : List α) (lo hi : Option Int) : (cutL xs lo hi).length ≤ xs.length := by
  unfold cutL
  rw [List.length_take, List.length_drop]; omega
theorem cutL_to {α : Type} (xs : List α) (k : Nat) : cutL xs none (some (k : Int)) = xs.take k := by
  unfold cutL
  rw [HT.sIx_none, HT.sIx_nat, List.drop_zero, Nat.sub_zero]
  rw [List.take_eq_take_iff]; omega
theorem cutL_from {α : Type} (xs : List α) (k : Nat) : cutL xs (some (k : Int)) none = xs.drop k := by
  unfold cutL
  rw [HT.sIx_none, HT.sIx_nat]
  by_cases h : k ≤ xs.length
  · rw [Nat.min_eq_left h, List.take_of_length_le (by simp)]
  · rw [Nat.min_eq_right (by omega), List.drop_eq_nil_of_le (Nat.le_refl _), List.drop_eq_nil_of_le (by omega)]; simp
theorem cutL_map {α β : Type} (f : α → β) (xs : List α) (lo hi : Option Int) : cutL (xs.map f) lo hi = (cutL xs lo hi).map f := by
  unfold cutL
  rw [List.length_map, List.map_take, List.map_drop]
@[simp] theorem idxK_S (k : Nat) (a : List Nat) (i : Int) : idxK (k, .str (S a)) (.int i) = if a.length ≤ 16777216 then (L2.atI a i).map fun c => (0, .str (S [c])) else none := by rw [idxK_s, S_len, S_list]; rfl
@[simp] theorem addD_SS (a b : List Nat) : addD (.str (S a)) (.str (S b)) = if a.length + b.length ≤ 16777216 then some (.str (S (a ++ b))) else none := by rw [addD_ss, S_len, S_len, S_app]; rfl
@[simp] theorem addIp_SS (a b : List Nat) : addIp (.str (S a)) (.str (S b)) = if a.length + b.length ≤ 16777216 then some (.str (S (a ++ b))) else none := by
  show (if (S a).length + (S b).length ≤ 16777216 then some (D.str (S a ++ S b)) else none) = _
  rw [S_len, S_len, S_app]
@[simp] theorem eqD_SS (a b : List Nat) : eqD (.str (S a)) (.str (S b)) = some (.bl (decide (a = b))) := by rw [eqD_ss]; simp [S_inj]
@[simp] theorem neD_SS (a b : List Nat) : neD (.str (S a)) (.str (S b)) = some (.bl (!decide (a = b))) := by rw [neD_ss]; simp [S_inj]
@[simp] theorem leD_SS (a b : List Nat) : leD (.str (S a)) (.str (S b)) = some (.bl (!decide (b < a))) := by rw [leD_ss, S_list, S_list]
@[simp] theorem lenD_S (a : List Nat) : lenD [.str (S a)] = if a.length ≤ 16777216 then some (.int a.length) else none := by rw [lenD_s, S_len]; rfl
@[simp] theorem sliD_S (a : List Nat) (lo hi : Option Int) : sliD (.str (S a)) lo hi = if a.length ≤ 16777216 then some (.str (S (cutL a lo hi))) else none := by
  show (if (S a).length ≤ 16777216 then some (D.str (L2.cutS (S a) lo hi)) else none) = _
  rw [S_len, cutS_S]
@[simp] theorem sliD_l (a : List D) (lo hi : Option Int) : sliD (.lst a) lo hi = some (.lst (cutL a lo hi)) := rfl
@[simp] theorem sliD_t (a : List D) (lo hi : Option Int) : sliD (.tup a) lo hi = some (.tup (cutL a lo hi)) := rfl
@[simp] theorem seqItems_S (a : List Nat) : seqItems (.str (S a)) = some (a.map fun c => .str (S [c])) := by
  show some (List.map (fun c => D.str ⟨#[c]⟩) (S a).cps.toList) = _
  rw [S_list]; rfl
@[simp] theorem seqItems_l (a : List D) : seqItems (.lst a) = some a := rfl
@[simp] theorem seqItems_t (a : List D) : seqItems (.tup a) = some a := rfl
@[simp] theorem inB_SS (c : Nat) (a : List Nat) : inB (.str (S [c])) (.str (S a)) = some (.bl (decide (c ∈ a))) := by simp [inB, inD, S_list, S_size]
@[simp] theorem ninB_SS (c : Nat) (a : List Nat) : ninB (.str (S [c])) (.str (S a)) = some (.bl (!decide (c ∈ a))) := by simp [ninB, inD, S_list, S_size]
@[simp] theorem mulX_S (a : List Nat) (n : Int) : mulX (.str (S a)) (.int n) = mulS (.str (S a)) (.int n) := rfl
@[simp] theorem truD_S (a : List Nat) : truD (.str (S a)) = if a.length ≤ 16777216 then some ((a.length : Int) != 0) else none := by
  show (if (S a).length ≤ 16777216 then some (((S a).length : Int) != 0) else none) = _
  rw [S_len]
theorem atI_in {α : Type} {xs : List α} {i : Int} (h0 : 0 ≤ i) (h : i < xs.length) : ∃ x, x ∈ xs ∧ L2.atI xs i = some x := by
  obtain ⟨n, rfl⟩ : ∃ n : Nat, i = n := ⟨i.toNat, by omega⟩
  exact ⟨_, List.getElem_mem (by omega), atI_nat (by omega)⟩
theorem OB_atI {α : Type} {xs : List α} {i : Int} {Q : α → Prop} (h0 : 0 ≤ i) (h : i < xs.length) (q : ∀ x ∈ xs, Q x) : OB (L2.atI xs i) Q := by
  obtain ⟨x, hx, e⟩ := atI_in h0 h
  exact ⟨x, e, q x hx⟩
@[simp] theorem isScal_non : isScal .non = true := rfl
@[simp] theorem isScal_bl (b : Bool) : isScal (.bl b) = true := rfl
@[simp] theorem isScal_int (b : Int) : isScal (.int b) = true := rfl
@[simp] theorem isScal_str (b : Str) : isScal (.str b) = true := rfl
@[simp] theorem isScal_ty (b : String) : isScal (.ty b) = true := rfl
@[simp] theorem isScal_tup (b : List D) : isScal (.tup b) = false := rfl
@[simp] theorem isScal_lst (b : List D) : isScal (.lst b) = false := rfl
theorem OB_atS {xs : List D} {i : Int} {n : Nat} {Q : D → Prop} (h0 : 0 ≤ i) (h : i < xs.length) (hx : ∀ x ∈ xs, ∃ w : List Nat, x = .str (S w) ∧ w.length ≤ n) (q : ∀ w : List Nat, w.length ≤ n → Q (.str (S w))) : OB (L2.atI xs i) Q :=
  OB_atI h0 h fun x hm => by obtain ⟨w, rfl, hw⟩ := hx x hm; exact q w hw
theorem strS_len {x : Str} {w : List Nat} : (D.str x = D.str (S w)) ↔ x = S w := by simp
@[simp] theorem cutL_to1 {α : Type} (xs : List α) : cutL xs none (some 1) = xs.take 1 := cutL_to xs 1
@[simp] theorem cutL_from1 {α : Type} (xs : List α) : cutL xs (some 1) none = xs.drop 1 := cutL_from xs 1
@[simp] theorem cutL_from0 {α : Type} (xs : List α) : cutL xs (some 0) none = xs := cutL_from xs 0
theorem foldl_app (xs : List (Array Nat)) : ∀ a : Array Nat, (xs.foldl (· ++ ·) a).toList = a.toList ++ (xs.map Array.toList).flatten := by
  induction xs with
  | nil => intro a; simp
  | cons x xs ih => intro a; rw [List.foldl_cons, ih]; simp
theorem mul_S (a : List Nat) (n : Int) : Txt.mul (S a) n = S (List.replicate n.toNat a).flatten := by
  unfold Txt.mul
  by_cases h : n < 1
  · rw [if_pos h, show n.toNat = 0 by omega]; rfl
  · rw [if_neg h]
    split
    · rename_i h2
      rcases Bool.or_eq_true _ _ ▸ h2 with z | z
      · have : n = 1 := by simpa using z
        subst this; simp
      · rw [S_len] at z
        have : a = [] := by simpa using z
        subst this; simp
    · have e := foldl_app (List.replicate n.toNat (S a).cps) #[]
      rw [← S_of ⟨_⟩, S_inj, e]
      simp [S]
@[simp] theorem mulS_S (a : List Nat) (n : Int) : mulS (.str (S a)) (.int n) = if a.length ≤ 1000 ∧ n ≤ 1000 ∧ -1000 ≤ n then some (.str (S (List.replicate n.toNat a).flatten)) else none := by
  show (if (S a).length ≤ 1000 ∧ n ≤ 1000 ∧ -1000 ≤ n then some (D.str (Txt.mul (S a) n)) else none) = _
  rw [S_len, mul_S]
theorem intD_S {a : List Nat} (h : NumText.AllDigits a) (h1 : a ≠ []) (h2 : a.length ≤ 640) : intD [.str (S a)] = some (.int (NumText.digitsVal a : Nat)) := by
  show (if (S a).length ≤ 640 then (PySem.intText? (S a)).map D.int else none) = _
  rw [S_len, if_pos h2, PySem.intText_digits (x := S a) (by rw [S_list]; exact h) (by rw [S_list]; exact h1) (by rw [S_len]; omega), S_list]; rfl
@[simp] theorem intD_b (b : Bool) : intD [.bl b] = some (.int (if b then 1 else 0)) := rfl
@[simp] theorem intD_i (i : Int) : intD [.int i] = some (.int i) := rfl
theorem allD_l (bs : List Bool) : allD [.lst (bs.map D.bl)] = some (.bl (bs.all id)) := by simp [allD, blsOf_map]
theorem anyD_l (bs : List Bool) : anyD [.lst (bs.map D.bl)] = some (.bl (bs.any id)) := by simp [anyD, blsOf_map]
theorem sumD_l (bs : List Int) : sumD [.lst (bs.map D.int)] = some (.int bs.sum) := by simp [sumD, intsOf_map]
@[simp] theorem isiD_ii (i : Int) : isiD [.int i, .ty "int"] = some (.bl true) := rfl
@[simp] theorem isiD_ib (i : Int) : isiD [.int i, .ty "bool"] = some (.bl false) := rfl
@[simp] theorem isiD_is (i : Int) : isiD [.int i, .ty "str"] = some (.bl false) := rfl
@[simp] theorem isiD_bi (i : Bool) : isiD [.bl i, .ty "int"] = some (.bl true) := rfl
@[simp] theorem isiD_bb (i : Bool) : isiD [.bl i, .ty "bool"] = some (.bl true) := rfl
@[simp] theorem isiD_ni : isiD [.non, .ty "int"] = some (.bl false) := rfl
@[simp] theorem isiD_ns : isiD [.non, .ty "str"] = some (.bl false) := rfl
@[simp] theorem isiD_ss (x : Str) : isiD [.str x, .ty "str"] = some (.bl true) := rfl
@[simp] theorem isiD_si (x : Str) : isiD [.str x, .ty "int"] = some (.bl false) := rfl
@[simp] theorem isiD_tt (x : List D) : isiD [.tup x, .ty "tuple"] = some (.bl true) := rfl
@[simp] theorem isiD_ll (x : List D) : isiD [.lst x, .ty "list"] = some (.bl true) := rfl
@[simp] theorem isiD_nl : isiD [.non, .ty "list"] = some (.bl false) := rfl
@[simp] theorem isiD_nt : isiD [.non, .ty "tuple"] = some (.bl false) := rfl
@[simp] theorem revD_l (xs : List D) : revD (.lst xs) = some (.lst xs.reverse) := rfl
@[simp] theorem rangeD_len (lo hi : Int) : (rangeD lo hi).length = (hi - lo).toNat := by unfold rangeD; simp
theorem sizeL : sizeLine = 16777216 := rfl
@[simp ↓] theorem ob_vX (i : Nat) (e : Env) (Q : Nat × D → Prop) : OB (vX i e) Q = OB ((e[i]?).bind id) Q := rfl
@[simp ↓] theorem ob_toX (m : PM) (e : Env) (Q : Nat × D → Prop) : OB (toX m e) Q = OB ((m e).map fun d => (0, d)) Q := rfl
@[simp ↓] theorem ob_ofX (m : XM) (e : Env) (Q : D → Prop) : OB (ofX m e) Q = OB ((m e).bind keepK) Q := rfl
@[simp ↓] theorem ob_cP (d : D) (e : Env) (Q : D → Prop) : OB (cP d e) Q = OB (some d) Q := rfl
@[simp ↓] theorem ob_bP (f : D → D → Option D) (ma mb : PM) (e : Env) (Q : D → Prop) : OB (bP f ma mb e) Q = OB ((ma e).bind fun x => (mb e).bind fun y => f x y) Q := rfl
@[simp ↓] theorem ob_bX (f : D → D → Option D) (ma mb : XM) (e : Env) (Q : D → Prop) : OB (bX f ma mb e) Q = OB ((ma e).bind fun x => (mb e).bind fun y => f x.2 y.2) Q := rfl
@[simp ↓] theorem ob_bT (m : PM) (e : Env) (Q : Bool → Prop) : OB (bT m e) Q = OB ((m e).bind asB) Q := rfl
@[simp ↓] theorem ob_tT (m : XM) (e : Env) (Q : Bool → Prop) : OB (tT m e) Q = OB ((m e).bind fun x => truD x.2) Q := rfl
@[simp ↓] theorem ob_notT (m : TM) (e : Env) (Q : Bool → Prop) : OB (notT m e) Q = OB ((m e).map (!·)) Q := rfl
@[simp ↓] theorem ob_andT (m n : TM) (e : Env) (Q : Bool → Prop) : OB (andT m n e) Q = OB ((m e).bind fun b => if b = true then n e else some false) Q := rfl
@[simp ↓] theorem ob_orT (m n : TM) (e : Env) (Q : Bool → Prop) : OB (orT m n e) Q = OB ((m e).bind fun b => if b = true then some true else n e) Q := rfl
@[simp ↓] theorem ob_andP (m n : PM) (e : Env) (Q : D → Prop) : OB (andP m n e) Q = OB ((m e).bind fun x => (asB x).bind fun b => if b = true then n e else some (.bl false)) Q := rfl
@[simp ↓] theorem ob_orP (m n : PM) (e : Env) (Q : D → Prop) : OB (orP m n e) Q = OB ((m e).bind fun x => (asB x).bind fun b => if b = true then some (.bl true) else n e) Q := rfl
@[simp ↓] theorem ob_notP (m : PM) (e : Env) (Q : D → Prop) : OB (notP m e) Q = OB ((m e).bind fun x => (asB x).map fun b => .bl (!b)) Q := rfl
@[simp ↓] theorem ob_ifP (c : TM) (m n : PM) (e : Env) (Q : D → Prop) : OB (ifP c m n e) Q = OB ((c e).bind fun b => if b = true then m e else n e) Q := rfl
@[simp ↓] theorem ob_chP (f g : D → D → Option D) (ma mb mc : XM) (e : Env) (Q : D → Prop) : OB (chP f g ma mb mc e) Q = OB ((ma e).bind fun x => (mb e).bind fun y => (f x.2 y.2).bind fun z => (asB z).bind fun k => if k = true then (mc e).bind fun w => g y.2 w.2 else some (.bl false)) Q := rfl
@[simp ↓] theorem ob_negP (m : XM) (e : Env) (Q : D → Prop) : OB (negP m e) Q = OB ((m e).bind fun x => negD x.2) Q := rfl
@[simp ↓] theorem ob_nilA (e : Env) (Q : List D → Prop) : OB (nilA  e) Q = OB (some []) Q := rfl
@[simp ↓] theorem ob_consA (m : PM) (n : AM) (e : Env) (Q : List D → Prop) : OB (consA m n e) Q = OB ((m e).bind fun x => (n e).bind fun xs => some (x :: xs)) Q := rfl
@[simp ↓] theorem ob_tupP (m : AM) (e : Env) (Q : D → Prop) : OB (tupP m e) Q = OB ((m e).bind fun ds => some (.tup ds)) Q := rfl
@[simp ↓] theorem ob_lstP (m : AM) (e : Env) (Q : D → Prop) : OB (lstP m e) Q = OB ((m e).bind fun ds => some (.lst ds)) Q := rfl
@[simp ↓] theorem ob_ixX (ma mb : XM) (e : Env) (Q : Nat × D → Prop) : OB (ixX ma mb e) Q = OB ((ma e).bind fun x => (mb e).bind fun y => idxK x y.2) Q := rfl
@[simp ↓] theorem ob_noO (e : Env) (Q : Option Int → Prop) : OB (noO  e) Q = OB (some none) Q := rfl
@[simp ↓] theorem ob_someO (m : PM) (e : Env) (Q : Option Int → Prop) : OB (someO m e) Q = OB ((m e).bind fun d => (asI d).map some) Q := rfl
@[simp ↓] theorem ob_slP (m : PM) (l h : OM) (e : Env) (Q : D → Prop) : OB (slP m l h e) Q = OB ((m e).bind fun d => (l e).bind fun lo => (h e).bind fun hi => sliD d lo hi) Q := rfl
@[simp ↓] theorem ob_callP (g : List D → Option D) (m : AM) (e : Env) (Q : D → Prop) : OB (callP g m e) Q = OB ((m e).bind g) Q := rfl
@[simp ↓] theorem ob_nilX (e : Env) (Q : List D → Prop) : OB (nilX  e) Q = OB (some []) Q := rfl
@[simp ↓] theorem ob_consX (m : XM) (n : AM) (e : Env) (Q : List D → Prop) : OB (consX m n e) Q = OB ((m e).bind fun x => (n e).bind fun xs => some (x.2 :: xs)) Q := rfl
@[simp ↓] theorem ob_toE (m : PM) (e : Env) (Q : Nat × D × Env → Prop) : OB (toE m e) Q = OB ((m e).map fun d => (0, d, e)) Q := rfl
@[simp ↓] theorem ob_takeE (i : Nat) (e : Env) (Q : Nat × D × Env → Prop) : OB (takeE i e) Q = OB ((vX i e).map fun x => (x.1, x.2, e.set i none)) Q := rfl
@[simp ↓] theorem ob_frzE (i : Nat) (e : Env) (Q : Nat × D × Env → Prop) : OB (frzE i e) Q = OB ((vX i e).map fun x => (0, x.2, e.set i (some (0, x.2)))) Q := rfl
@[simp ↓] theorem ob_bE (f : D → D → Option D) (ma mb : EM) (e : Env) (Q : Nat × D × Env → Prop) : OB (bE f ma mb e) Q = OB ((ma e).bind fun x => (mb x.2.2).bind fun y => (f x.2.1 y.2.1).map fun d => (0, d, y.2.2)) Q := rfl
@[simp ↓] theorem ob_keepE (m : EM) (e : Env) (Q : Nat × D × Env → Prop) : OB (keepE m e) Q = OB ((m e).bind fun x => (keepK (x.1, x.2.1)).map fun d => (0, d, x.2.2)) Q := rfl
@[simp ↓] theorem ob_bE0 (f : D → D → Option D) (ma mb : EM) (e : Env) (Q : Nat × D × Env → Prop) : OB (bE0 f ma mb e) Q = OB ((ma e).bind fun x => (keepK (x.1, x.2.1)).bind fun dx => (mb x.2.2).bind fun y => (keepK (y.1, y.2.1)).bind fun dy => (f dx dy).map fun d => (0, d, y.2.2)) Q := rfl
@[simp ↓] theorem ob_toT (m : TM) (e : Env) (Q : Bool × Env → Prop) : OB (toT m e) Q = OB ((m e).map fun b => (b, e)) Q := rfl
@[simp ↓] theorem ob_bTE (m : EM) (e : Env) (Q : Bool × Env → Prop) : OB (bTE m e) Q = OB ((m e).bind fun x => (asB x.2.1).map fun b => (b, x.2.2)) Q := rfl
@[simp ↓] theorem ob_notTE (m : TEM) (e : Env) (Q : Bool × Env → Prop) : OB (notTE m e) Q = OB ((m e).map fun x => (!x.1, x.2)) Q := rfl
@[simp ↓] theorem ob_andTE (m n : TEM) (e : Env) (Q : Bool × Env → Prop) : OB (andTE m n e) Q = OB ((m e).bind fun x => if x.1 = true then n x.2 else some (false, x.2)) Q := rfl
@[simp ↓] theorem ob_orTE (m n : TEM) (e : Env) (Q : Bool × Env → Prop) : OB (orTE m n e) Q = OB ((m e).bind fun x => if x.1 = true then some (true, x.2) else n x.2) Q := rfl
@[simp ↓] theorem ob_andE (m n : EM) (e : Env) (Q : Nat × D × Env → Prop) : OB (andE m n e) Q = OB ((m e).bind fun x => (asB x.2.1).bind fun b => if b = true then n x.2.2 else some (0, .bl false, x.2.2)) Q := rfl
@[simp ↓] theorem ob_orE (m n : EM) (e : Env) (Q : Nat × D × Env → Prop) : OB (orE m n e) Q = OB ((m e).bind fun x => (asB x.2.1).bind fun b => if b = true then some (0, .bl true, x.2.2) else n x.2.2) Q := rfl
@[simp ↓] theorem ob_ifE (c : TEM) (m n : EM) (e : Env) (Q : Nat × D × Env → Prop) : OB (ifE c m n e) Q = OB ((c e).bind fun b => if b.1 = true then m b.2 else n b.2) Q := rfl
@[simp ↓] theorem ob_negE (m : EM) (e : Env) (Q : Nat × D × Env → Prop) : OB (negE m e) Q = OB ((m e).bind fun x => (negD x.2.1).map fun d => (0, d, x.2.2)) Q := rfl
@[simp ↓] theorem ob_ixE (ma mb : EM) (e : Env) (Q : Nat × D × Env → Prop) : OB (ixE ma mb e) Q = OB ((ma e).bind fun x => (mb x.2.2).bind fun y => (idxK (x.1, x.2.1) y.2.1).map fun z => (z.1, z.2, y.2.2)) Q := rfl
@[simp ↓] theorem ob_ixV (i : Nat) (mb : EM) (e : Env) (Q : Nat × D × Env → Prop) : OB (ixV i mb e) Q = OB ((vX i e).bind fun _ => (mb e).bind fun y => (vX i y.2.2).bind fun x => (idxK x y.2.1).bind fun z => (keepK z).map fun d => (0, d, y.2.2)) Q := rfl
@[simp ↓] theorem ob_nilE (e : Env) (Q : List Ar × Env → Prop) : OB (nilE  e) Q = OB (some ([], e)) Q := rfl
@[simp ↓] theorem ob_valE (m : EM) (n : AEM) (e : Env) (Q : List Ar × Env → Prop) : OB (valE m n e) Q = OB ((m e).bind fun x => (n x.2.2).bind fun y => some (.val x.1 x.2.1 :: y.1, y.2)) Q := rfl
@[simp ↓] theorem ob_borE (j : Nat) (n : AEM) (e : Env) (Q : List Ar × Env → Prop) : OB (borE j n e) Q = OB ((vX j e).bind fun _ => (n e).bind fun y => some (.bor j :: y.1, y.2)) Q := rfl
@[simp ↓] theorem ob_coldE (m : EM) (e : Env) (Q : Nat × D × Env → Prop) : OB (coldE m e) Q = OB ((m e).map fun x => (0, x.2.1, x.2.2)) Q := rfl
@[simp ↓] theorem ob_lstE (k : Nat) (m : AEM) (e : Env) (Q : Nat × D × Env → Prop) : OB (lstE k m e) Q = OB ((m e).bind fun x => (arK k x.1).map fun ds => (k + 1, .lst ds, x.2)) Q := rfl
@[simp ↓] theorem ob_tupE (k : Nat) (m : AEM) (e : Env) (Q : Nat × D × Env → Prop) : OB (tupE k m e) Q = OB ((m e).bind fun x => (arK k x.1).map fun ds => (k, .tup ds, x.2)) Q := rfl
@[simp ↓] theorem ob_callE (g : List D → Option D) (m : AEM) (e : Env) (Q : Nat × D × Env → Prop) : OB (callE g m e) Q = OB ((m e).bind fun x => (arK 0 x.1).bind fun ds => (g ds).map fun d => (0, d, x.2)) Q := rfl
@[simp ↓] theorem ob_callL (g : List D → Option (List D)) (m : AEM) (e : Env) (Q : Nat × D × Env → Prop) : OB (callL g m e) Q = OB ((m e).bind fun x => (arK 0 x.1).bind fun ds => (g ds).map fun d => (1, .lst d, x.2)) Q := rfl
@[simp ↓] theorem ob_noOE (e : Env) (Q : Option Int × Env → Prop) : OB (noOE  e) Q = OB (some (none, e)) Q := rfl
@[simp ↓] theorem ob_someOE (m : EM) (e : Env) (Q : Option Int × Env → Prop) : OB (someOE m e) Q = OB ((m e).bind fun x => (asI x.2.1).map fun i => (some i, x.2.2)) Q := rfl
@[simp ↓] theorem ob_slE (m : EM) (l h : OEM) (e : Env) (Q : Nat × D × Env → Prop) : OB (slE m l h e) Q = OB ((m e).bind fun x => (keepK (x.1, x.2.1)).bind fun d => (l x.2.2).bind fun lo => (h lo.2).bind fun hi => (sliD d lo.1 hi.1).map fun r => (0, r, hi.2)) Q := rfl
@[simp ↓] theorem ob_slL (m : EM) (l h : OEM) (e : Env) (Q : Nat × D × Env → Prop) : OB (slL m l h e) Q = OB ((m e).bind fun x => (keepK (x.1, x.2.1)).bind fun d => (l x.2.2).bind fun lo => (h lo.2).bind fun hi => match d with
  | .lst xs => some (1, .lst (cutL xs lo.1 hi.1), hi.2)
  | _ => none) Q := rfl
@[simp ↓] theorem ob_nilS (e : Env) (Q : Out → Prop) : OB (nilS  e) Q = OB (some (.nx e)) Q := rfl
@[simp ↓] theorem ob_seqS (m n : SM) (e : Env) (Q : Out → Prop) : OB (seqS m n e) Q = OB ((m e).bind fun o => match o with
  | .nx e1 => n e1
  | .rt k d e1 => some (.rt k d e1)
  | .bk e1 => some (.bk e1)
  | .ct e1 => some (.ct e1)) Q := rfl
@[simp ↓] theorem ob_frzS (i : Nat) (m : SM) (e : Env) (Q : Out → Prop) : OB (frzS i m e) Q = OB (match vX i e with
  | some x => m (e.set i (some (0, x.2)))
  | none => m e) Q := rfl
@[simp ↓] theorem ob_asgS (ta : TAs) (m : EM) (e : Env) (Q : Out → Prop) : OB (asgS ta m e) Q = OB ((m e).bind fun x => (ta x.1 x.2.1 x.2.2).map .nx) Q := rfl
@[simp ↓] theorem ob_dropS (m : EM) (e : Env) (Q : Out → Prop) : OB (dropS m e) Q = OB ((m e).map fun x => .nx x.2.2) Q := rfl
@[simp ↓] theorem ob_retS (m : EM) (e : Env) (Q : Out → Prop) : OB (retS m e) Q = OB ((m e).map fun x => .rt x.1 x.2.1 x.2.2) Q := rfl
@[simp ↓] theorem ob_retNS (e : Env) (Q : Out → Prop) : OB (retNS  e) Q = OB (some (.rt 0 .non e)) Q := rfl
@[simp ↓] theorem ob_passS (e : Env) (Q : Out → Prop) : OB (passS  e) Q = OB (some (.nx e)) Q := rfl
@[simp ↓] theorem ob_brkS (e : Env) (Q : Out → Prop) : OB (brkS  e) Q = OB (some (.bk e)) Q := rfl
@[simp ↓] theorem ob_ctS (e : Env) (Q : Out → Prop) : OB (ctS  e) Q = OB (some (.ct e)) Q := rfl
@[simp ↓] theorem ob_ifS (c : TEM) (m n : SM) (e : Env) (Q : Out → Prop) : OB (ifS c m n e) Q = OB ((c e).bind fun b => if b.1 = true then m b.2 else n b.2) Q := rfl
@[simp ↓] theorem ob_neverS (e : Env) (Q : Out → Prop) : OB (neverS  e) Q = OB (none) Q := rfl
@[simp ↓] theorem ob_forS (mi : IM) (ta : TAs) (body : SM) (e : Env) (Q : Out → Prop) : OB (forS mi ta body e) Q = OB ((mi e).bind fun x => forL ta body x.1 x.2) Q := rfl
@[simp ↓] theorem ob_seqI (m : EM) (e : Env) (Q : List D × Env → Prop) : OB (seqI m e) Q = OB ((m e).bind fun x => (seqItems x.2.1).map fun ds => (ds, x.2.2)) Q := rfl
@[simp ↓] theorem ob_rng1 (m : EM) (e : Env) (Q : List D × Env → Prop) : OB (rng1 m e) Q = OB ((m e).bind fun x => (asI x.2.1).bind fun j => if -(2 ^ 62) ≤ j ∧ j < 2 ^ 62 then some (rangeD 0 j, x.2.2) else none) Q := rfl
@[simp ↓] theorem ob_lcE (k : Nat) (vs : List Nat) (mi : IM) (ta : TAs) (mt : TEM) (me : EM) (e : Env) (Q : Nat × D × Env → Prop) : OB (lcE k vs mi ta mt me e) Q = OB ((mi e).bind fun x => if coolE x.2 vs = true ∧ x.1.length ≤ 16777216 then (lcL k vs ta mt me x.1 x.2).map fun r => (k + 1, .lst r.1, backE x.2 (wipeE r.2 vs) vs) else none) Q := rfl
@[simp ↓] theorem ob_yesT (e : Env) (Q : Bool × Env → Prop) : OB (yesT  e) Q = OB (some (true, e)) Q := rfl
@[simp ↓] theorem ob_setixS (i : Nat) (mi me : EM) (e : Env) (Q : Out → Prop) : OB (setixS i mi me e) Q = OB ((me e).bind fun y => (vX i y.2.2).bind fun _ => (mi y.2.2).bind fun n => (asI n.2.1).bind fun n1 => (vX i n.2.2).bind fun x => match x with
  | (j + 1, .lst xs) => (toKind j (y.1, y.2.1)).bind fun d => (L2.ixN xs.length n1).map fun m => .nx (n.2.2.set i (some (j + 1, .lst (xs.set m d))))
  | _ => none) Q := rfl
@[simp ↓] theorem ob_setix2S (i : Nat) (m1 m2 : XM) (me : EM) (e : Env) (Q : Out → Prop) : OB (setix2S i m1 m2 me e) Q = OB ((me e).bind fun y => (m1 y.2.2).bind fun n1 => (asI n1.2).bind fun n1 => (m2 y.2.2).bind fun n2 => (asI n2.2).bind fun n2 => (vX i y.2.2).bind fun x => match x with
  | (j + 2, .lst xs) => (L2.ixN xs.length n1).bind fun a => (xs[a]?).bind fun c => match c with
    | .lst ys => (toKind j (y.1, y.2.1)).bind fun d => (L2.ixN ys.length n2).map fun b => .nx (y.2.2.set i (some (j + 2, .lst (xs.set a (.lst (ys.set b d))))))
    | _ => none
  | _ => none) Q := rfl
@[simp ↓] theorem ob_appS (i : Nat) (me : EM) (e : Env) (Q : Nat × D × Env → Prop) : OB (appS i me e) Q = OB ((vX i e).bind fun x0 => (isLst x0).bind fun _ => (me e).bind fun y => (vX i y.2.2).bind fun x => match x with
  | (j + 1, .lst xs) => if xs.length < 16777216 then (toKind j (y.1, y.2.1)).map fun d => (0, .non, y.2.2.set i (some (j + 1, .lst (xs ++ [d])))) else none
  | _ => none) Q := rfl
@[simp ↓] theorem ob_augS (f : D → D → Option D) (i : Nat) (me : EM) (e : Env) (Q : Out → Prop) : OB (augS f i me e) Q = OB ((vX i e).bind fun x => (me e).bind fun y => (f x.2 y.2.1).bind fun d => if isScal d = true ∧ i < y.2.2.length then some (.nx (y.2.2.set i (some (0, d)))) else none) Q := rfl
@[simp ↓] theorem ob_ucall (ks : List Nat) (κ : Nat) (f : FM) (m : AEM) (e : Env) (Q : Nat × D × Env → Prop) : OB (ucall ks κ f m e) Q = OB ((m e).bind fun x => (takeA x.1 ks x.2).bind fun y => (f y.1).map fun r => (κ, r.1, putA x.1 ks r.2 y.2)) Q := rfl
@[simp ↓] theorem ob_pcall (f : FM) (m : AM) (e : Env) (Q : D → Prop) : OB (pcall f m e) Q = OB ((m e).bind fun ds => (f ds).map fun r => r.1) Q := rfl
@[simp ↓] theorem ob_notE (m : EM) (e : Env) (Q : Nat × D × Env → Prop) : OB (notE m e) Q = OB ((m e).bind fun x => (asB x.2.1).map fun b => (0, .bl (!b), x.2.2)) Q := rfl
@[simp ↓] theorem ob_tTE (m : EM) (e : Env) (Q : Bool × Env → Prop) : OB (tTE m e) Q = OB ((m e).bind fun x => (truD x.2.1).map fun b => (b, x.2.2)) Q := rfl
@[simp ↓] theorem ob_popE (i : Nat) (mi : EM) (e : Env) (Q : Nat × D × Env → Prop) : OB (popE i mi e) Q = OB ((vX i e).bind fun x0 => (isLst x0).bind fun _ => (mi e).bind fun y => (asI y.2.1).bind fun n => (vX i y.2.2).bind fun x => match x with
  | (j + 1, .lst xs) => if -(2 ^ 63) ≤ n ∧ n < 2 ^ 63 then (seqIndex? n xs.length).bind fun m => (xs[m]?).map fun d => (j, d, y.2.2.set i (some (j + 1, .lst (xs.eraseIdx m)))) else none
  | _ => none) Q := rfl
@[simp ↓] theorem ob_rngI1 (m : AEM) (e : Env) (Q : List D × Env → Prop) : OB (rngI1 m e) Q = OB ((m e).bind fun x => (arK 0 x.1).bind fun ds => match ds with | [.int j] => if -(2 ^ 62) ≤ j ∧ j < 2 ^ 62 then some (rangeD 0 j, x.2) else none | _ => none) Q := rfl
@[simp ↓] theorem ob_rngI2 (m : AEM) (e : Env) (Q : List D × Env → Prop) : OB (rngI2 m e) Q = OB ((m e).bind fun x => (arK 0 x.1).bind fun ds => match ds with | [.int i, .int j] => if -(2 ^ 62) ≤ i ∧ i < 2 ^ 62 ∧ -(2 ^ 62) ≤ j ∧ j < 2 ^ 62 then some (rangeD i j, x.2) else none | _ => none) Q := rfl
@[simp ↓] theorem ob_enumI (m : AEM) (e : Env) (Q : List D × Env → Prop) : OB (enumI m e) Q = OB ((m e).bind fun x => (arK 0 x.1).bind fun ds => match ds with | [.lst xs] => some (enumD xs, x.2) | [.tup xs] => some (enumD xs, x.2) | _ => none) Q := rfl
@[simp ↓] theorem ob_zipI (m : AEM) (e : Env) (Q : List D × Env → Prop) : OB (zipI m e) Q = OB ((m e).bind fun x => (arK 0 x.1).bind fun ds => match ds with | [.lst xs, .lst ys] => some (zipD xs ys, x.2) | [.tup xs, .tup ys] => some (zipD xs ys, x.2) | _ => none) Q := rfl
@[simp ↓] theorem ob_revP (m : PM) (e : Env) (Q : D → Prop) : OB (revP m e) Q = OB ((m e).bind revD) Q := rfl
@[simp ↓] theorem ob_repE (ma mb : EM) (e : Env) (Q : Nat × D × Env → Prop) : OB (repE ma mb e) Q = OB ((ma e).bind fun x => (mb x.2.2).bind fun y => (asI y.2.1).bind fun n => match x.1, x.2.1 with
  | 1, .lst xs => if -(2 ^ 63) ≤ n ∧ n < 2 ^ 63 ∧ xs.length * n.toNat ≤ 16777216 then some (1, .lst (List.replicate n.toNat xs).flatten, y.2.2) else none
  | _, _ => none) Q := rfl
@[simp ↓] theorem ob_clrE (i : Nat) (e : Env) (Q : Nat × D × Env → Prop) : OB (clrE i e) Q = OB ((vX i e).bind fun x => match x with
  | (j + 1, .lst _) => some (0, .non, e.set i (some (j + 1, .lst [])))
  | _ => none) Q := rfl
@[simp ↓] theorem ob_meth1 (f : D → D → Option D) (mo ma : PM) (e : Env) (Q : D → Prop) : OB (meth1 f mo ma e) Q = OB ((mo e).bind fun x => (ma e).bind fun y => f x y) Q := rfl
@[simp ↓] theorem ob_meth1E (f : D → D → Option D) (mo : PM) (ma : EM) (e : Env) (Q : Nat × D × Env → Prop) : OB (meth1E f mo ma e) Q = OB ((mo e).bind fun x => (ma e).bind fun y => (keepK (y.1, y.2.1)).bind fun dy => (f x dy).map fun d => (0, d, y.2.2)) Q := rfl
@[simp ↓] theorem ob_nameT (i k : Nat) (d : D) (e : Env) (Q : Env → Prop) : OB (nameT i k d e) Q = OB (if i < e.length then some (e.set i (some (k, d))) else none) Q := rfl
@[simp ↓] theorem ob_runF (N : List Str) (ks : List Nat) (κ : Nat) (m : SM) (ds : List D) (Q : D × List D → Prop) : OB (runF N ks κ m ds) Q = OB ((m (envOf N ks ds)).bind fun o => match o with
    | .rt k d e => if kindR κ k d = true then (outA ks ds e).map fun ds' => (d, ds') else none
    | .nx e => (outA ks ds e).map fun ds' => (.non, ds')
    | _ => none) Q := rfl
@[simp] theorem envOf_eq (N : List Str) (ks : List Nat) (ds : List D) : envOf N ks ds = (List.zipWith (fun k d => some (k, d)) ks ds) ++ List.replicate (N.length - ks.length) none := rfl
@[simp] theorem kindR_eq (κ k : Nat) (d : D) : kindR κ k d = (k == κ || isScal d || κ == 0) := rfl
@[simp] theorem vX_eq (i : Nat) (e : Env) : vX i e = (e[i]?).bind id := rfl
@[simp] theorem outA_0 (ds : List D) (e : Env) : outA [] ds e = some [] := rfl
@[simp] theorem outA_z (ks : List Nat) (d : D) (ds : List D) (y : Option (Nat × D)) (e : Env) : outA (0 :: ks) (d :: ds) (y :: e) = (outA ks ds e).map (d :: ·) := rfl
@[simp] theorem outA_s (k j : Nat) (ks : List Nat) (d d' : D) (ds : List D) (e : Env) : outA ((k + 1) :: ks) (d :: ds) (some (j, d') :: e) = if j = k + 1 then (outA ks ds e).map (d' :: ·) else none := rfl
@[simp] theorem outA_1 (j : Nat) (ks : List Nat) (d d' : D) (ds : List D) (e : Env) : outA (1 :: ks) (d :: ds) (some (j, d') :: e) = if j = 1 then (outA ks ds e).map (d' :: ·) else none := rfl
@[simp] theorem outA_2 (j : Nat) (ks : List Nat) (d d' : D) (ds : List D) (e : Env) : outA (2 :: ks) (d :: ds) (some (j, d') :: e) = if j = 2 then (outA ks ds e).map (d' :: ·) else none := rfl
@[simp] theorem outA_3 (j : Nat) (ks : List Nat) (d d' : D) (ds : List D) (e : Env) : outA (3 :: ks) (d :: ds) (some (j, d') :: e) = if j = 3 then (outA ks ds e).map (d' :: ·) else none := rfl
@[simp] theorem takeA_0 (e : Env) : takeA [] [] e = some ([], e) := rfl
@[simp] theorem takeA_b (j k : Nat) (as : List Ar) (ks : List Nat) (e : Env) : takeA (.bor j :: as) (k :: ks) e = (vX j e).bind fun x => if x.1 = k then (takeA as ks (e.set j none)).map fun r => (x.2 :: r.1, r.2) else none := rfl
@[simp] theorem takeA_v (l k : Nat) (d : D) (as : List Ar) (ks : List Nat) (e : Env) : takeA (.val l d :: as) (k :: ks) e = if l = k ∨ isScal d = true then (takeA as ks e).map fun r => (d :: r.1, r.2) else none := rfl
@[simp] theorem putA_b (j k : Nat) (as : List Ar) (ks : List Nat) (d : D) (ds : List D) (e : Env) : putA (.bor j :: as) (k :: ks) (d :: ds) e = putA as ks ds (e.set j (some (k, d))) := rfl
@[simp] theorem putA_v (l k : Nat) (d' : D) (as : List Ar) (ks : List Nat) (d : D) (ds : List D) (e : Env) : putA (.val l d' :: as) (k :: ks) (d :: ds) e = putA as ks ds e := rfl
@[simp] theorem putA_0 (ks : List Nat) (ds : List D) (e : Env) : putA [] ks ds e = e := by cases ks <;> rfl
@[simp] theorem wipeE_0 (e : Env) : wipeE e [] = e := rfl
@[simp] theorem wipeE_c (e : Env) (v : Nat) (vs : List Nat) : wipeE e (v :: vs) = (wipeE e vs).set v none := rfl
@[simp] theorem backE_0 (e0 e : Env) : backE e0 e [] = e := rfl
@[simp] theorem backE_c (e0 e : Env) (v : Nat) (vs : List Nat) : backE e0 e (v :: vs) = (backE e0 e vs).set v ((e0[v]?).getD none) := rfl
@[simp] theorem isLst_l (k : Nat) (xs : List D) : isLst (k, .lst xs) = some () := rfl
@[simp] theorem arK_0 (k : Nat) : arK k [] = some [] := rfl
@[simp] theorem arK_v (k j : Nat) (d : D) (r : List Ar) : arK k (.val j d :: r) = if j = k ∨ isScal d = true then (arK k r).map (d :: ·) else none := rfl
@[simp] theorem coolE_0 (e : Env) : coolE e [] = true := rfl
@[simp] theorem coolE_c (e : Env) (v : Nat) (vs : List Nat) : coolE e (v :: vs) = ((match e[v]? with | some (some (k, d)) => k == 0 || isScal d | _ => true) && coolE e vs) := rfl
@[simp] theorem isNonB_n : isNonB .non = true := rfl
@[simp] theorem isNonB_b (b : Bool) : isNonB (.bl b) = false := rfl
@[simp] theorem isNonB_i (b : Int) : isNonB (.int b) = false := rfl
@[simp] theorem isNonB_s (b : Str) : isNonB (.str b) = false := rfl
@[simp] theorem isNonB_t (b : List D) : isNonB (.tup b) = false := rfl
@[simp] theorem isNonB_l (b : List D) : isNonB (.lst b) = false := rfl
end Wr

/-! The head's watch, with tuples of the module. -/
namespace Wr
open PySem PySem.Spec PyProof.Rows L2
abbrev Tu : Type := Str × List He.Dv
abbrev AlX : Type := He.AlD × Bool
def obsX (fa : List He.Fa) (fn : List He.DefD) (ts : List Tu) (K : Frag) : AlX := (He.obsD fa fn K, ts.all fun t => He.tupB K t.1 t.2)
def valX (fn : List He.DefD) : AlX := (He.valD fn, true)
def SaysX (fa : List He.Fa) (fn : List He.DefD) (ts : List Tu) (K : Frag) : Prop := obsX fa fn ts K = valX fn
def obsXG (n : Nat) (fa : List He.Fa) (fn : List He.DefD) (ts : List Tu) (g : Addr → Option Obj) : AlX := obsX fa fn ts (He.frG g (He.asD g n))
def hookX (n : Nat) (fa : List He.Fa) (fn : List He.DefD) (ts : List Tu) : PySem.W.Hook where
  α := AlX
  obs := fun s => obsXG n fa fn ts s.heap.get?
  val := fun _ => valX fn
  says := fun _ h => ∃ K : Frag, K.In h ∧ SaysX fa fn ts K
  of := fun _ _ e => ⟨_, He.frG_in, e⟩
  keeps := fun _ _ _ ⟨K, hK, c⟩ k => ⟨K, PySem.W.Frag.In.keeps hK k, c⟩
theorem obsXG_eq {n : Nat} {fa : List He.Fa} {fn : List He.DefD} {ts : List Tu} {g : Addr → Option Obj} {s : Shared} (h : ∀ a, g a = s.heap.get? a) : obsXG n fa fn ts g = (hookX n fa fn ts).obs s := by
  have e : g = s.heap.get? := funext h
  rw [e] <;> rfl
section
variable {fa : List He.Fa} {fn : List He.DefD} {ts : List Tu} {K : Frag}
theorem SaysX.d (c : SaysX fa fn ts K) : He.SaysD fa fn K := congrArg (fun z : AlX => z.1) c
theorem SaysX.tup (c : SaysX fa fn ts K) (i : Nat) {x : Str} {cs : List Str} (h : ts[i]? = some (x, cs.map He.Dv.str) := by rfl) (H : Hp) : SqT K H (He.ga K x) (cs.map V.str) := by
  have c1 : (ts.all fun t => He.tupB K t.1 t.2) = true := congrArg (fun z : AlX => z.2) c
  have := He.tupB_ok (List.all_eq_true.mp c1 _ (List.mem_of_getElem? h)) H
  rw [List.map_map] at this
  exact this
end
end Wr

/-! == of plain trees. -/
namespace Wr
open PySem PySem.Spec PyProof.Rows L2
def pl : Nat → D → Prop
  | _, .non => True
  | _, .int _ => True
  | _, .str x => PyData.strOk x = true
  | n + 1, .tup xs => ∀ x ∈ xs, pl n x
  | n + 1, .lst xs => ∀ x ∈ xs, pl n x
  | _, _ => False
theorem pl_non (n : Nat) : pl n .non := by cases n <;> trivial
theorem pl_int (n : Nat) (i : Int) : pl n (.int i) := by cases n <;> trivial
theorem pl_py : ∀ (n : Nat) (d : D), pl n d → ∃ p, toPy d = some p ∧ p.canLay0 = true ∧ p.depth ≤ n := by
  intro n
  induction n with
  | zero =>
    intro d h
    cases d with
    | non => exact ⟨.none, rfl, rfl, Nat.le_refl _⟩
    | int i => exact ⟨.int i, rfl, rfl, Nat.le_refl _⟩
    | str x => exact ⟨.str x, rfl, h, Nat.le_refl _⟩
    | bl b => exact False.elim h
    | ty b => exact False.elim h
    | tup b => exact False.elim h
    | lst b => exact False.elim h
  | succ n ih =>
    intro d h
    have hl : ∀ xs : List D, (∀ x ∈ xs, pl n x) → ∃ ps, toPys xs = some ps ∧ PyData.canLayAll0 ps = true ∧ PyData.depthAll ps ≤ n := by
      intro xs
      induction xs with
      | nil => exact fun _ => ⟨[], rfl, rfl, Nat.zero_le _⟩
      | cons x xs ihx =>
        intro h
        obtain ⟨p, h1, h2, h3⟩ := ih x (h x (by simp))
        obtain ⟨ps, g1, g2, g3⟩ := ihx fun y hy => h y (by simp [hy])
        refine ⟨p :: ps, by rw [toPys_cons, h1, g1]; rfl, by rw [PyData.canLayAll0, h2, g2]; rfl, ?_⟩
        rw [PyData.depthAll]
        exact Nat.max_le.mpr ⟨h3, g3⟩
    cases d with
    | non => exact ⟨.none, rfl, rfl, Nat.zero_le _⟩
    | int i => exact ⟨.int i, rfl, rfl, Nat.zero_le _⟩
    | str x => exact ⟨.str x, rfl, h, Nat.zero_le _⟩
    | bl b => exact False.elim h
    | ty b => exact False.elim h
    | tup xs =>
      obtain ⟨ps, g1, g2, g3⟩ := hl xs h
      exact ⟨.tuple ps, by rw [toPy, g1]; rfl, by rw [PyData.canLay0, g2], by rw [PyData.depth]; omega⟩
    | lst xs =>
      obtain ⟨ps, g1, g2, g3⟩ := hl xs h
      exact ⟨.list ps, by rw [toPy, g1]; rfl, by rw [PyData.canLay0, g2], by rw [PyData.depth]; omega⟩
theorem pl_eqv : ∀ (n : Nat) (x y : D), pl n x → pl n y → ∀ p q, toPy x = some p → toPy y = some q → (PyData.eqv p q = true ↔ x = y) := by
  intro n
  induction n with
  | zero =>
    intro x y hx hy p q h1 h2
    cases x <;> cases y <;> first | exact False.elim hx | exact False.elim hy | (simp only [toPy, Option.some.injEq] at h1 h2; subst h1 h2; simp [PyData.eqv])
  | succ n ih =>
    have hl : ∀ xs ys : List D, (∀ x ∈ xs, pl n x) → (∀ y ∈ ys, pl n y) → ∀ ps qs, toPys xs = some ps → toPys ys = some qs → (PyData.eqvAll ps qs = true ↔ xs = ys) := by
      intro xs
      induction xs with
      | nil =>
        intro ys _ h2 ps qs e1 e2
        cases e1
        cases ys with
        | nil => cases e2; simp [PyData.eqvAll]
        | cons y ys =>
          rw [toPys_cons] at e2
          obtain ⟨q, _, e2⟩ := Option.bind_eq_some_iff.mp e2
          obtain ⟨q', _, rfl⟩ := Option.map_eq_some_iff.mp e2
          simp [PyData.eqvAll]
      | cons x xs ihx =>
        intro ys h1 h2 ps qs e1 e2
        rw [toPys_cons] at e1
        obtain ⟨p, f1, e1⟩ := Option.bind_eq_some_iff.mp e1
        obtain ⟨p', f2, rfl⟩ := Option.map_eq_some_iff.mp e1
        cases ys with
        | nil => cases e2; simp [PyData.eqvAll]
        | cons y ys =>
          rw [toPys_cons] at e2
          obtain ⟨q, g1, e2⟩ := Option.bind_eq_some_iff.mp e2
          obtain ⟨q', g2, rfl⟩ := Option.map_eq_some_iff.mp e2
          rw [PyData.eqvAll, Bool.and_eq_true, ih x y (h1 x (by simp)) (h2 y (by simp)) p q f1 g1, ihx ys (fun z hz => h1 z (by simp [hz])) (fun z hz => h2 z (by simp [hz])) p' q' f2 g2, List.cons.injEq]
    intro x y hx hy p q h1 h2
    cases x with
    | non => cases y <;> first | exact False.elim hy | (simp only [toPy, Option.some.injEq, Option.map_eq_some_iff] at h1 h2; subst h1; first | (subst h2; simp [PyData.eqv]) | (obtain ⟨q', _, rfl⟩ := h2; simp [PyData.eqv]))
    | int i => cases y <;> first | exact False.elim hy | (simp only [toPy, Option.some.injEq, Option.map_eq_some_iff] at h1 h2; subst h1; first | (subst h2; simp [PyData.eqv]) | (obtain ⟨q', _, rfl⟩ := h2; simp [PyData.eqv]))
    | str i => cases y <;> first | exact False.elim hy | (simp only [toPy, Option.some.injEq, Option.map_eq_some_iff] at h1 h2; subst h1; first | (subst h2; simp [PyData.eqv]) | (obtain ⟨q', _, rfl⟩ := h2; simp [PyData.eqv]))
    | bl b => exact False.elim hx
    | ty b => exact False.elim hx
    | tup xs =>
      rw [toPy] at h1
      obtain ⟨p', f1, rfl⟩ := Option.map_eq_some_iff.mp h1
      cases y with
      | tup ys =>
        rw [toPy] at h2
        obtain ⟨q', f2, rfl⟩ := Option.map_eq_some_iff.mp h2
        rw [PyData.eqv, hl xs ys hx hy p' q' f1 f2, D.tup.injEq]
      | lst ys =>
        rw [toPy] at h2
        obtain ⟨q', f2, rfl⟩ := Option.map_eq_some_iff.mp h2
        simp [PyData.eqv]
      | bl => exact False.elim hy
      | ty => exact False.elim hy
      | non => simp only [toPy, Option.some.injEq] at h2; subst h2; simp [PyData.eqv]
      | int => simp only [toPy, Option.some.injEq] at h2; subst h2; simp [PyData.eqv]
      | str => simp only [toPy, Option.some.injEq] at h2; subst h2; simp [PyData.eqv]
    | lst xs =>
      rw [toPy] at h1
      obtain ⟨p', f1, rfl⟩ := Option.map_eq_some_iff.mp h1
      cases y with
      | lst ys =>
        rw [toPy] at h2
        obtain ⟨q', f2, rfl⟩ := Option.map_eq_some_iff.mp h2
        rw [PyData.eqv, hl xs ys hx hy p' q' f1 f2, D.lst.injEq]
      | tup ys =>
        rw [toPy] at h2
        obtain ⟨q', f2, rfl⟩ := Option.map_eq_some_iff.mp h2
        simp [PyData.eqv]
      | bl => exact False.elim hy
      | ty => exact False.elim hy
      | non => simp only [toPy, Option.some.injEq] at h2; subst h2; simp [PyData.eqv]
      | int => simp only [toPy, Option.some.injEq] at h2; subst h2; simp [PyData.eqv]
      | str => simp only [toPy, Option.some.injEq] at h2; subst h2; simp [PyData.eqv]
theorem eqM_pl {x y : D} (hx : pl 64 x) (hy : pl 64 y) : ∃ b, eqM x y = some b ∧ (b = true ↔ x = y) := by
  obtain ⟨p, h1, h2, h3⟩ := pl_py 64 x hx
  obtain ⟨q, g1, g2, g3⟩ := pl_py 64 y hy
  have hc : eqC x y = some (PyData.eqv p q) := by
    unfold eqC
    rw [h1, bind_some', g1, bind_some', if_pos]
    simp [SeqAt.shaped, h2, g2, h3, g3]
  unfold eqM
  split
  · rename_i b hb
    refine ⟨b, rfl, ?_⟩
    cases x <;> cases y <;> simp [eqS] at hb <;> first | (subst hb; simp) | exact False.elim hx | exact False.elim hy
  · exact ⟨_, hc, pl_eqv 64 x y hx hy p q h1 g1⟩
theorem eqD_same {x : D} (hx : pl 64 x) : eqD x x = some (.bl true) := by
  obtain ⟨b, h, g⟩ := eqM_pl hx hx
  unfold eqD; rw [h, g.mpr rfl]; rfl
theorem neD_same {x : D} (hx : pl 64 x) : neD x x = some (.bl false) := by
  obtain ⟨b, h, g⟩ := eqM_pl hx hx
  unfold neD; rw [h, g.mpr rfl]; rfl
theorem eqD_unlike {x y : D} (hx : pl 64 x) (hy : pl 64 y) (n : x ≠ y) : eqD x y = some (.bl false) := by
  obtain ⟨b, h, g⟩ := eqM_pl hx hy
  cases b with
  | true => exact absurd (g.mp rfl) n
  | false => unfold eqD; rw [h]; rfl
theorem neD_unlike {x y : D} (hx : pl 64 x) (hy : pl 64 y) (n : x ≠ y) : neD x y = some (.bl true) := by
  obtain ⟨b, h, g⟩ := eqM_pl hx hy
  cases b with
  | true => exact absurd (g.mp rfl) n
  | false => unfold neD; rw [h]; rfl
@[simp] theorem listD_t (xs : List D) : listD [.tup xs] = some (.lst xs) := rfl
@[simp] theorem listD_l (xs : List D) : listD [.lst xs] = some (.lst xs) := rfl
@[simp] theorem tupleD_t (xs : List D) : tupleD [.tup xs] = some (.tup xs) := rfl
@[simp] theorem tupleD_l (xs : List D) : tupleD [.lst xs] = some (.tup xs) := rfl
end Wr

/-! list(range(n)), xs.insert(i, y). -/
namespace Wr
open PySem PySem.Spec PyProof.Rows L2
section
variable {X : Cx}
theorem reps_rg {K : Frag} {H : Hp} {O : Addr → Prop} (a b : Int) : Reps K H O 0 (rgV a b) (rangeD a b) [] := by
  unfold rgV rangeD
  generalize List.range (b - a).toNat = l
  induction l with
  | nil => exact .nil
  | cons i l ih => exact .cons0 .int ih
/-- list(range(n)), a list of its own -/
def lrE1 (m : EM) : EM := fun e => (m e).bind fun x => (asI x.2.1).bind fun n => if 0 ≤ n ∧ n ≤ 16777216 then some (1, .lst (rangeD 0 n), x.2.2) else none
def lrE2 (m1 m2 : EM) : EM := fun e => (m1 e).bind fun x => (asI x.2.1).bind fun a => (m2 x.2.2).bind fun y => (asI y.2.1).bind fun b => if (0 ≤ a ∧ a ≤ 16777216) ∧ 0 ≤ b ∧ b ≤ 16777216 then some (1, .lst (rangeD a b), y.2.2) else none
theorem ge_listRg1 {a : Expr} {m : EM} {p p2 pos pos2 : Pos} (hc : X.calm = true) (hg2 : Gl X "range") (hm2 : X.mg "range" = none) (hg : Gl X "list") (hm : X.mg "list" = none) (ha : GE X a m)
    (na : starEach [a] X.env = (false, eval a X.env) :: starEach [] X.env := by rfl)
    (nb : starEach [Expr.Call (.Name "range" p2) [a] [] pos2] X.env = (false, eval (.Call (.Name "range" p2) [a] [] pos2) X.env) :: starEach [] X.env := by rfl) :
    GE X (.Call (.Name "list" p) [.Call (.Name "range" p2) [a] [] pos2] [] pos) (lrE1 m) := ⟨(pe_listRg hc hg hm (prg_1 hg2 hm2 ha.pe na) nb).weaken fun σ H Q hq => by
  obtain ⟨O, env, U, k, d, env', s, od, e, q⟩ := hq
  unfold lrE1 at e
  obtain ⟨⟨k1, x, e1⟩, ea, e⟩ := Option.bind_eq_some_iff.mp e
  obtain ⟨n, ec, e⟩ := Option.bind_eq_some_iff.mp e
  have hy : x = .int n := asI_some ec
  subst hy
  split at e
  case isFalse => cases e
  rename_i hn
  cases e
  refine ⟨O, env, U, k1, _, e1, s, od, ea, fun v H1 O1 U1 F1 s1 od1 r1 dj1 x1 => ?_⟩
  cases r1
  exact ⟨n, rfl, RgOk.of_le (Int.le_refl 0) hn.2 (by decide) hn.1, fun p' hp' => own_post od s1 od1 x1 q (Same.refl _) hp' (reps_rg 0 n)⟩⟩
theorem ge_listRg2 {a b : Expr} {m m2 : EM} {p p2 pos pos2 : Pos} (hc : X.calm = true) (hg2 : Gl X "range") (hm2 : X.mg "range" = none) (hg : Gl X "list") (hm : X.mg "list" = none) (ha : GE X a m) (hb : GE X b m2)
    (na : starEach [a, b] X.env = (false, eval a X.env) :: starEach [b] X.env := by rfl) (nc : starEach [b] X.env = (false, eval b X.env) :: starEach [] X.env := by rfl) (hp : (backTo pos2 (starEach [b] X.env)).any (·.1) = false := by rfl)
    (nb : starEach [Expr.Call (.Name "range" p2) [a, b] [] pos2] X.env = (false, eval (.Call (.Name "range" p2) [a, b] [] pos2) X.env) :: starEach [] X.env := by rfl) :
    GE X (.Call (.Name "list" p) [.Call (.Name "range" p2) [a, b] [] pos2] [] pos) (lrE2 m m2) := ⟨(pe_listRg hc hg hm (prg_2 hg2 hm2 ha.pe hb.pe na nc hp) nb).weaken fun σ H Q hq => by
  obtain ⟨O, env, U, k, d, env', s, od, e, q⟩ := hq
  unfold lrE2 at e
  obtain ⟨⟨k1, x, e1⟩, ea, e⟩ := Option.bind_eq_some_iff.mp e
  obtain ⟨n, ec, e⟩ := Option.bind_eq_some_iff.mp e
  have hy : x = .int n := asI_some ec
  subst hy
  obtain ⟨⟨k2, x2, e2⟩, eb, e⟩ := Option.bind_eq_some_iff.mp e
  obtain ⟨n2, ed, e⟩ := Option.bind_eq_some_iff.mp e
  have hy : x2 = .int n2 := asI_some ed
  subst hy
  split at e
  case isFalse => cases e
  rename_i hn
  cases e
  refine ⟨O, env, U, k1, _, e1, s, od, ea, fun v H1 O1 U1 F1 s1 od1 r1 dj1 x1 => ⟨O1, e1, U1, k2, _, _, s1, od1, eb, fun u H2 O2 U2 F2 s2 od2 r2 dj2 x2 => ?_⟩⟩
  cases r1
  cases r2
  exact ⟨n, n2, rfl, rfl, RgOk.of_le hn.1.1 hn.2.2 hn.1.2 hn.2.1, fun p' hp' => own_post od s2 od2 (x1.seq (U' := U2 ++ []) x2 od fun a ha => .inl ha) q (Same.refl _) hp' (reps_rg n n2)⟩⟩
/-- x.insert(i, y) -/
def insS (i : Nat) (m : AEM) : EM := fun e => (vX i e).bind fun x0 => (isLst x0).bind fun _ => (m e).bind fun y => (arK 0 y.1).bind fun ds => (vX i y.2).bind fun x => match x, ds with
  | (1, .lst xs), [.int n, d] => if xs.length < sizeLine ∧ 0 ≤ n ∧ n < 2 ^ 63 then some (0, .non, y.2.set i (some (1, .lst (xs.take n.toNat ++ [d] ++ xs.drop n.toNat)))) else none
  | _, _ => none
theorem ge_insert (i : Nat) {x : Str} {e1 e2 : Expr} {m : AEM} {p ap pos : Pos} (ha : GAE X [e1, e2] m) (hN : X.N[i]? = some x := by rfl) (hv : Vis X.env.scope x := by first | exact Or.inl rfl | exact Or.inr (Or.inl rfl) | exact Or.inr (Or.inr rfl)) (hd : (x == ("__debug__" : Str)) = false := by decide)
    (hcd : (x == ("__classdict__" : Str)) = false := by decide) (hbase : attributeBase (.Name x p) "insert" X.env (eval (.Name x p) X.env) = eval (.Name x p) X.env := by rfl)
    (hfew : ((backTo pos (starEach [e1, e2] X.env)).all (fun x => !x.1) && (backToKw pos (keywordEach [] X.env)).all (fun x => x.1.isSome)
      && decide (([e1, e2] : List Expr).length + ([] : List Keyword).length + (if ([] : List Keyword).isEmpty then 0 else 1) < 30)) = true := by rfl)
    (hline : (ap.endLine == pos.line) = true := by rfl) (hs : starEach [e1, e2] X.env = (false, eval e1 X.env) :: starEach [e2] X.env := by rfl) (hplain : (backTo pos (starEach [e2] X.env)).any (·.1) = false := by rfl) :
    GE X (.Call (.Attribute (.Name x p) "insert" ap) [e1, e2] [] pos) (insS i m) := ⟨(pe_bm PySem.F.plainAttrs_list PySem.F.slot_list_insert PySem.F.type_list_insert mt_insert (pe_var hN hv hd hcd) ha.pa hbase hfew hline hs hplain).weaken fun σ H Q hq => by
  obtain ⟨O, env, U, k, d, env', s, od, e, q⟩ := hq
  unfold insS at e
  obtain ⟨⟨k0, d0⟩, ea, e⟩ := Option.bind_eq_some_iff.mp e
  obtain ⟨_, eb, e⟩ := Option.bind_eq_some_iff.mp e
  obtain ⟨⟨as, e1⟩, ec, e⟩ := Option.bind_eq_some_iff.mp e
  obtain ⟨ds, eg, e⟩ := Option.bind_eq_some_iff.mp e
  obtain ⟨y, ed, e⟩ := Option.bind_eq_some_iff.mp e
  obtain ⟨w, F0, hw, rw0, _⟩ := s.get (vX_some ea)
  split at e
  case h_2 => cases e
  rename_i xs n d hdd
  split at e
  case isFalse => cases e
  rename_i hz
  cases e
  refine ⟨w, hw, tyV_lst rw0 eb, O, env, U, as, e1, s, od, ec, fun vs' H1 O1 U1 F1 s1 od1 r1 dj1 x1 => ?_⟩
  obtain ⟨G, rsA, hG⟩ := arK_ok r1 eg
  have := rsA.zero; subst this
  obtain ⟨v1, ws1, rfl, a1, b1⟩ := rsA.un0
  obtain ⟨v2, ws2, rfl, a2, b2⟩ := b1.un0
  obtain ⟨rfl, _⟩ := b2.none
  cases a1
  obtain ⟨p, vs, F, U0, hp1, hp2, oO, rs, nF, s0, np, djF, mU⟩ := s1.lstAt (vX_some ed)
  rw [hw] at hp1; cases hp1
  have := rs.zero; subst this
  refine ⟨p, vs, n, v2, rfl, rfl, hp2, by rw [rs.length]; exact hz.1, hz.2.1, hz.2.2, ?_⟩
  have rs' : Reps X.K H1 O1 0 (vs.take n.toNat ++ [v2] ++ vs.drop n.toNat) (xs.take n.toNat ++ [d] ++ xs.drop n.toNat) [] := ((rs.take0 n.toNat).app0 (.cons0 a2 .nil)).app0 (rs.drop0 n.toNat)
  have hi2 : i < e1.length := (List.getElem?_eq_some_iff.mp (vX_some ed)).1
  obtain ⟨U', a1, a2, a3⟩ := s0.write od1 hi2 hw ⟨_, hp2, trivial⟩ oO np rs' (by simp) Disj.nil
  refine q .non _ O1 U' [] a1 a2 .non Disj.nil (x1.trans (ext_upd (List.mem_append_left _ ((mU p).mpr (.inl rfl))) fun a ha => ?_) od)
  have ha : a ∈ U' := by simpa using ha
  rcases (a3 a).mp ha with z | z | z
  · subst z; exact List.mem_append_left _ ((mU a).mpr (.inl rfl))
  · cases z
  · exact List.mem_append_left _ ((mU a).mpr (.inr (.inr z)))⟩
end
@[simp ↓] theorem ob_lrE1 (m : EM) (e : Env) (Q : Nat × D × Env → Prop) : OB (lrE1 m e) Q = OB ((m e).bind fun x => (asI x.2.1).bind fun n => if 0 ≤ n ∧ n ≤ 16777216 then some (1, .lst (rangeD 0 n), x.2.2) else none) Q := rfl
@[simp ↓] theorem ob_lrE2 (m1 m2 : EM) (e : Env) (Q : Nat × D × Env → Prop) : OB (lrE2 m1 m2 e) Q = OB ((m1 e).bind fun x => (asI x.2.1).bind fun a => (m2 x.2.2).bind fun y => (asI y.2.1).bind fun b => if (0 ≤ a ∧ a ≤ 16777216) ∧ 0 ≤ b ∧ b ≤ 16777216 then some (1, .lst (rangeD a b), y.2.2) else none) Q := rfl
@[simp ↓] theorem ob_insS (i : Nat) (m : AEM) (e : Env) (Q : Nat × D × Env → Prop) : OB (insS i m e) Q = OB ((vX i e).bind fun x0 => (isLst x0).bind fun _ => (m e).bind fun y => (arK 0 y.1).bind fun ds => (vX i y.2).bind fun x => match x, ds with
  | (1, .lst xs), [.int n, d] => if xs.length < sizeLine ∧ 0 ≤ n ∧ n < 2 ^ 63 then some (0, .non, y.2.set i (some (1, .lst (xs.take n.toNat ++ [d] ++ xs.drop n.toNat)))) else none
  | _, _ => none) Q := rfl
/-- nothing is promised -/
theorem fnNone {CX : CXT} {P : Program} {w : World} {K : Frag} {mg : Str → Option Value} {base : Heap} {f : Addr} {fd : FuncData} {ps : List Str} {k : Nat} {ks : List Nat} {κ : Nat} :
    FnOk P w K mg base CX k f fd ps (SpF K ks κ fun _ => none) :=
  have no : ∀ vs H Q E, ¬ SpF K ks κ (fun _ => none) vs H Q E := fun vs H Q E h => by
    obtain ⟨_, _, _, _, _, _, _, e, _⟩ := h
    cases e
  ⟨fun vs H Q E h => (no _ _ _ _ h).elim, fun A outer s H args us vs Q E hr he hb hv hs => (no _ _ _ _ hs).elim⟩
end Wr

/-! Loops over enumerate and by place; lists told by a function. -/
namespace Wr
open PySem PySem.Spec PyProof.Rows L2
theorem enumD_from (xs : List D) (i : Nat) : (enumD xs).drop i = if h : i < xs.length then .tup [.int (i : Nat), xs[i]] :: (enumD xs).drop (i + 1) else [] := by
  have hl : (enumD xs).length = xs.length := by simp [enumD]
  split
  · rename_i h
    rw [List.drop_eq_getElem_cons (by rw [hl]; exact h)]
    congr 1
    simp [enumD]
  · rename_i h
    exact List.drop_eq_nil_of_le (by omega)
/-- a for over enumerate: I at the next place -/
theorem forE_ob {ta : TAs} {body : SM} {Q : Out → Prop} {xs : List D} (I : Nat → Env → Prop) (step : ∀ i (h : i < xs.length) e, I i e → OB (ta 0 (.tup [.int (i : Nat), xs[i]]) e) fun e1 => OB (body e1) fun o => match o with
      | .nx e2 => I (i + 1) e2
      | .ct e2 => I (i + 1) e2
      | .bk e2 => Q (.nx e2)
      | .rt k d e2 => Q (.rt k d e2)) (done : ∀ e, I xs.length e → Q (.nx e)) (e : Env) (h : I 0 e) : OB (forL ta body (enumD xs) e) Q := by
  refine forL_ob (fun ds e => ∃ i, i ≤ xs.length ∧ ds = (enumD xs).drop i ∧ I i e) (fun d ds e ⟨i, h0, h1, h2⟩ => ?_) (fun e ⟨i, h0, h1, h2⟩ => ?_) _ _ ⟨0, Nat.zero_le _, rfl, h⟩
  · rw [enumD_from] at h1
    split at h1
    · rename_i hl
      cases h1
      obtain ⟨e1, a, o, b, q⟩ := step i hl e h2
      refine ⟨e1, a, o, b, ?_⟩
      cases o with
      | nx e2 => exact ⟨i + 1, hl, rfl, q⟩
      | ct e2 => exact ⟨i + 1, hl, rfl, q⟩
      | bk e2 => exact q
      | rt k d e2 => exact q
    · cases h1
  · refine done e ?_
    have hl : (enumD xs).length = xs.length := by simp [enumD]
    have := congrArg List.length h1
    rw [List.length_drop, hl] at this
    have : i = xs.length := by simp at this; omega
    exact this ▸ h2
/-- a for over a list: I at the next place -/
theorem forX_ob {ta : TAs} {body : SM} {Q : Out → Prop} {xs : List D} (I : Nat → Env → Prop) (step : ∀ i (h : i < xs.length) e, I i e → OB (ta 0 xs[i] e) fun e1 => OB (body e1) fun o => match o with
      | .nx e2 => I (i + 1) e2
      | .ct e2 => I (i + 1) e2
      | .bk e2 => Q (.nx e2)
      | .rt k d e2 => Q (.rt k d e2)) (done : ∀ e, I xs.length e → Q (.nx e)) (e : Env) (h : I 0 e) : OB (forL ta body xs e) Q := by
  refine forL_ob (fun ds e => ∃ i, i ≤ xs.length ∧ ds = xs.drop i ∧ I i e) (fun d ds e ⟨i, h0, h1, h2⟩ => ?_) (fun e ⟨i, h0, h1, h2⟩ => ?_) _ _ ⟨0, Nat.zero_le _, rfl, h⟩
  · by_cases hl : i < xs.length
    · rw [List.drop_eq_getElem_cons hl] at h1
      cases h1
      obtain ⟨e1, a, o, b, q⟩ := step i hl e h2
      refine ⟨e1, a, o, b, ?_⟩
      cases o with
      | nx e2 => exact ⟨i + 1, hl, rfl, q⟩
      | ct e2 => exact ⟨i + 1, hl, rfl, q⟩
      | bk e2 => exact q
      | rt k d e2 => exact q
    · rw [List.drop_eq_nil_of_le (by omega)] at h1; cases h1
  · refine done e ?_
    have := congrArg List.length h1
    rw [List.length_drop] at this
    have : i = xs.length := by simp at this; omega
    exact this ▸ h2
/-- a for over range(n): I at the next number, a Nat -/
theorem forN_ob {ta : TAs} {body : SM} {Q : Out → Prop} {n : Nat} (I : Nat → Env → Prop) (step : ∀ i e, i < n → I i e → OB (ta 0 (.int (i : Nat)) e) fun e1 => OB (body e1) fun o => match o with
      | .nx e2 => I (i + 1) e2
      | .ct e2 => I (i + 1) e2
      | .bk e2 => Q (.nx e2)
      | .rt k d e2 => Q (.rt k d e2)) (done : ∀ e, I n e → Q (.nx e)) (e : Env) (h : I 0 e) : OB (forL ta body (rangeD 0 (n : Nat)) e) Q := by
  refine forR_ob (fun i e => ∃ j : Nat, i = j ∧ j ≤ n ∧ I j e) (fun i e hi ⟨j, h0, h1, h2⟩ => ?_) (fun i e hi ⟨j, h0, h1, h2⟩ => ?_) 0 e ⟨0, rfl, Nat.zero_le _, h⟩
  · subst h0
    obtain ⟨e1, a, o, b, q⟩ := step j e (by omega) h2
    refine ⟨e1, a, o, b, ?_⟩
    cases o with
    | nx e2 => exact ⟨j + 1, by omega, by omega, q⟩
    | ct e2 => exact ⟨j + 1, by omega, by omega, q⟩
    | bk e2 => exact q
    | rt k d e2 => exact q
  · have : j = n := by omega
    exact done e (this ▸ h2)
/-- a while: m goes down, and I stays -/
theorem while_ob {c : TEM} {body : SM} {Q : Out → Prop} (I : Nat → Env → Prop) (step : ∀ m e, I m e → OB (c e) fun b => (b.1 = true → OB (body b.2) fun o => match o with
      | .nx e2 => ∃ m', m' < m ∧ I m' e2
      | .ct e2 => ∃ m', m' < m ∧ I m' e2
      | .bk e2 => Q (.nx e2)
      | .rt k d e2 => Q (.rt k d e2)) ∧ (¬ b.1 = true → Q (.nx b.2))) : ∀ N m e, m < N → I m e → OB (whL c body N e) Q
  | 0, m, e, l, h => absurd l (Nat.not_lt_zero _)
  | N + 1, m, e, l, h => by
    obtain ⟨b, hb, q1, q2⟩ := step m e h
    unfold whL
    rw [hb, bind_some']
    by_cases hc : b.1 = true
    · rw [if_pos hc]
      obtain ⟨o, ho, q⟩ := q1 hc
      rw [ho, bind_some']
      cases o with
      | nx e2 => obtain ⟨m', l', i⟩ := q; exact while_ob I step N m' e2 (by omega) i
      | ct e2 => obtain ⟨m', l', i⟩ := q; exact while_ob I step N m' e2 (by omega) i
      | bk e2 => exact ⟨_, rfl, q⟩
      | rt k d e2 => exact ⟨_, rfl, q⟩
    · rw [if_neg hc]; exact ⟨_, rfl, q2 hc⟩
/-- f 0, .., f (n - 1) -/
def ar (n : Nat) (f : Nat → D) : List D := (List.range n).map f
@[simp] theorem ar_len (n : Nat) (f : Nat → D) : (ar n f).length = n := by simp [ar]
theorem ar_get {n : Nat} {f : Nat → D} {i : Nat} (h : i < n) : (ar n f)[i]? = some (f i) := by simp [ar, h]
theorem atI_ar {n : Nat} {f : Nat → D} {i : Nat} (h : i < n) : L2.atI (ar n f) (i : Int) = some (f i) := by
  unfold L2.atI
  rw [ar_len, ixN_nat h]
  exact ar_get h
theorem ar_set (n : Nat) (f : Nat → D) (i : Nat) (v : D) : (ar n f).set i v = ar n fun j => if j = i then v else f j := by
  apply List.ext_getElem?
  intro j
  rw [List.getElem?_set]
  by_cases h : j < n
  · rw [ar_get (f := fun j => if j = i then v else f j) h, ar_get h]
    by_cases e : i = j
    · subst e; simp [h]
    · rw [if_neg e, if_neg (Ne.symm e)]
  · have : ∀ g, (ar n g)[j]? = none := fun g => List.getElem?_eq_none (by simp; omega)
    rw [this, this]; simp; omega
theorem ar_congr {n : Nat} {f g : Nat → D} (h : ∀ i, i < n → f i = g i) : ar n f = ar n g := List.map_congr_left fun i hi => h i (List.mem_range.mp hi)
theorem ar_succ (n : Nat) (f : Nat → D) : ar (n + 1) f = ar n f ++ [f n] := by simp [ar, List.range_succ]
theorem ar_rep (n : Nat) (v : D) : (List.replicate n [v]).flatten = ar n fun _ => v := by
  induction n with
  | zero => rfl
  | succ n ih =>
    rw [ar_succ, ← ih, List.replicate_succ']
    simp
theorem rep_ar (n : Nat) (v : D) : List.replicate n v = ar n fun _ => v := by
  induction n with
  | zero => rfl
  | succ n ih => rw [ar_succ, ← ih, List.replicate_succ']
theorem ar_map (n : Nat) (f : Nat → D) (g : D → D) : (ar n f).map g = ar n fun i => g (f i) := by simp [ar]
theorem list_ar (xs : List D) (d : D) : xs = ar xs.length fun i => xs.getD i d := by
  apply List.ext_getElem?
  intro j
  by_cases h : j < xs.length
  · rw [ar_get h]; simp [h]
  · rw [List.getElem?_eq_none (by omega), List.getElem?_eq_none (by simp; omega)]
@[simp ↓] theorem ob_tupT (n k : Nat) (ts : Nat → List D → Env → Option Env) (ds : List D) (e : Env) (Q : Env → Prop) : OB (tupT n ts k (.tup ds) e) Q = OB (if ds.length = n then ts k ds e else none) Q := rfl
@[simp ↓] theorem ob_consT (t : TAs) (ts : Nat → List D → Env → Option Env) (k : Nat) (d : D) (ds : List D) (e : Env) (Q : Env → Prop) : OB (consT t ts k (d :: ds) e) Q = OB ((t k d e).bind fun e1 => ts k ds e1) Q := rfl
@[simp ↓] theorem ob_nilT (k : Nat) (e : Env) (Q : Env → Prop) : OB (nilT k [] e) Q = OB (some e) Q := rfl
/-- a comprehension that keeps each, over a list -/
theorem lcX_ob {k : Nat} {vs : List Nat} {ta : TAs} {mt : TEM} {me : EM} {Q : List D × Env → Prop} {xs : List D} (f : Nat → D) (I : Nat → Env → Prop)
    (step : ∀ i (h : i < xs.length) e, I i e → OB (ta 0 xs[i] (wipeE e vs)) fun e1 => OB (mt e1) fun b => b.1 = true ∧ OB (me b.2) fun y => OB (toKind k (y.1, y.2.1)) fun w => w = f i ∧ I (i + 1) y.2.2)
    (done : ∀ e, I xs.length e → Q (ar xs.length f, e)) (e : Env) (h : I 0 e) : OB (lcL k vs ta mt me xs e) Q := by
  refine (lcL_ob (Q := Q) (fun ds acc e => ∃ i, i ≤ xs.length ∧ ds = xs.drop i ∧ acc = ar i f ∧ I i e) (fun d ds acc e ⟨i, h0, h1, h2, h3⟩ => ?_) (fun acc e ⟨i, h0, h1, h2, h3⟩ => ?_) _ [] _ ⟨0, Nat.zero_le _, rfl, rfl, h⟩).imp fun r hr => ?_
  · by_cases hl : i < xs.length
    · rw [List.drop_eq_getElem_cons hl] at h1
      cases h1
      refine (step i hl e h3).imp fun e1 q => q.imp fun b q => ⟨fun _ => q.2.imp fun y q => q.imp fun w q => ⟨i + 1, hl, rfl, ?_, q.2⟩, fun z => absurd q.1 z⟩
      rw [h2, q.1, ar_succ]
    · rw [List.drop_eq_nil_of_le (by omega)] at h1; cases h1
  · have := congrArg List.length h1
    rw [List.length_drop] at this
    have : i = xs.length := by simp at this; omega
    subst this
    subst h2
    exact done e h3
  · simpa using hr
theorem rangeD_len0 (n : Nat) : (rangeD 0 (n : Nat)).length = n := by simp [rangeD]
theorem rangeD_get0 (n : Nat) {i : Nat} (h : i < (rangeD 0 (n : Nat)).length) : (rangeD 0 (n : Nat))[i] = .int (i : Nat) := by simp [rangeD]
/-- over range(n) -/
theorem lcN_ob {k : Nat} {vs : List Nat} {ta : TAs} {mt : TEM} {me : EM} {Q : List D × Env → Prop} {n : Nat} (f : Nat → D) (I : Nat → Env → Prop)
    (step : ∀ i e, i < n → I i e → OB (ta 0 (.int (i : Nat)) (wipeE e vs)) fun e1 => OB (mt e1) fun b => b.1 = true ∧ OB (me b.2) fun y => OB (toKind k (y.1, y.2.1)) fun w => w = f i ∧ I (i + 1) y.2.2)
    (done : ∀ e, I n e → Q (ar n f, e)) (e : Env) (h : I 0 e) : OB (lcL k vs ta mt me (rangeD 0 (n : Nat)) e) Q := by
  refine lcX_ob f I (fun i hi e q => ?_) (fun e q => ?_) e h
  · rw [rangeD_get0]; exact step i e (by rwa [rangeD_len0] at hi) q
  · rw [rangeD_len0] at q ⊢; exact done e q
end Wr

/-! A call that is lent what is owned, to read it. -/
namespace Wr
open PySem PySem.Spec PyProof.Rows L2
/-- no list in it -/
def noL : Nat → D → Bool
  | _, .lst _ => false
  | 0, .tup _ => false
  | n + 1, .tup xs => xs.all (noL n)
  | _, _ => true
theorem noL_rep {K : Frag} {H : Hp} {O O2 : Addr → Prop} : ∀ (n : Nat) {k v d F}, Rep K H O k v d F → noL n d = true → Rep K H O2 0 v d [] := by
  intro n
  induction n with
  | zero =>
    intro k v d F r h
    cases r with
    | non => exact .non
    | bl => exact .bl
    | int => exact .int
    | str => exact .str
    | ty => exact .ty
    | tup => cases h
    | frz => cases h
    | own => cases h
  | succ n ih =>
    intro k v d F r h
    cases r with
    | non => exact .non
    | bl => exact .bl
    | int => exact .int
    | str => exact .str
    | ty => exact .ty
    | @tup _ a vs ds F hs rs =>
      replace h : ds.all (noL n) = true := h
      refine .tup hs ?_
      clear hs
      induction ds generalizing vs F with
      | nil => obtain ⟨rfl, _⟩ := rs.none; exact .nil
      | cons d ds ihd =>
        obtain ⟨v, ws, F1, F2, rfl, rfl, r1, r2, dj12⟩ := rs.uncons
        rw [List.all_cons, Bool.and_eq_true] at h
        exact .cons0 (ih r1 h.1) (ihd r2 h.2)
    | frz => cases h
    | own => cases h
theorem ArOk.lenv {K : Frag} {H : Hp} {O : Addr → Prop} {σ : L2.St} {as vs F} (r : ArOk K H O σ as vs F) : vs.length = as.length := by
  induction r with
  | nil => rfl
  | bor _ _ ih => simp [ih]
  | val _ _ _ ih => simp [ih]
def takeZ : List Ar → Env → Option (List D)
  | [], _ => some []
  | .bor j :: as, e => (vX j e).bind fun x => (takeZ as e).map (x.2 :: ·)
  | .val l d :: as, e => if l = 0 ∨ isScal d = true then (takeZ as e).map (d :: ·) else none
theorem takeZ_ok {K : Frag} {H : Hp} {O O2 : Addr → Prop} {σ : L2.St} {e : Env} {U : List Addr} (s : Sl K H O σ e U) (hO : ∀ a, O2 a → O a ∧ a ∉ U) : ∀ {as vs F ds}, ArOk K H O σ as vs F → takeZ as e = some ds → Ra K H O2 vs (List.replicate vs.length 0) ds [] ∧ ds.length = vs.length
  | [], vs, F, ds, r, h => by cases h; cases r; exact ⟨.nil, rfl⟩
  | .bor j :: as, vs, F, ds, r, h => by
    unfold takeZ at h
    obtain ⟨⟨kx, dx⟩, h1, h⟩ := Option.bind_eq_some_iff.mp h
    obtain ⟨ds1, h2, rfl⟩ := Option.map_eq_some_iff.mp h
    cases r with
    | @bor _ v _ vs F hv ra =>
      obtain ⟨w, G, hw, rv, mG⟩ := s.get (vX_some h1)
      rw [hv] at hw; cases hw
      obtain ⟨a, b⟩ := takeZ_ok s hO ra h2
      exact ⟨.cons (F := []) (G := []) (rv.freeze (fun a _ z => (hO a z).1) fun a ha z => (hO a z).2 (mG a ha)) a Disj.nil, by simp [b]⟩
  | .val l d :: as, vs, F, ds, r, h => by
    unfold takeZ at h
    split at h
    case isFalse => cases h
    rename_i hk
    obtain ⟨ds1, h2, rfl⟩ := Option.map_eq_some_iff.mp h
    cases r with
    | @val _ _ v _ vs F1 G rv ra djv =>
      obtain ⟨a, b⟩ := takeZ_ok s hO ra h2
      have rv0 : Rep K H O 0 v d [] := by
        rcases hk with hk | hk
        · subst hk
          have := rv.zero
          subst this
          exact rv
        · exact rv.scalO hk
      exact ⟨.cons (F := []) (G := []) (rv0.freeze (fun a _ z => (hO a z).1) fun a ha => nomatch ha) a Disj.nil, by simp [b]⟩
def lcall (f : FM) (m : AEM) : EM := fun e => (m e).bind fun x => (takeZ x.1 x.2).bind fun ds => (f ds).bind fun r => if noL 50 r.1 = true then some (0, r.1, x.2) else none
section
variable {X : Cx}
theorem ge_lcall {CX : CXT} {E : XK} {k κ n : Nat} {f : Addr} {fd : FuncData} {ps : List Str} {g : FM} {x : Str} {e : Expr} {es : List Expr} {m : AEM} {p pos : Pos} (F : FnOk X.prog X.w X.K X.mg X.base CX k f fd ps (SpF X.K (List.replicate n 0) κ g)) (hr : Room k X.A) (hg : Gl X x) (hm : X.mg x = some (.ref f)) (hk : PySem.W.keepIn X.K (.ref f) = true)
    (hb : Binds X.K fd ps []) (hx : Passes CX X E) (ha : GAE X (e :: es) m) (hn : (e :: es).length = n := by rfl) (hdb : (x == ("__debug__" : Str)) = false := by decide)
    (he : starEach (e :: es) X.env = (false, eval e X.env) :: starEach es X.env := by rfl) (hpl : (backTo pos (starEach es X.env)).any (·.1) = false := by rfl) : GE X (.Call (.Name x p) (e :: es) [] pos) (lcall g m) :=
  ⟨(pe_call F hr hg hm hk hb .nil hx ha.pa hdb he hpl).weaken fun σ H Q h => by
    obtain ⟨O, env, U, k, d, env', s, od, e, q⟩ := h
    unfold lcall at e
    obtain ⟨⟨as, e1⟩, ea, e⟩ := Option.bind_eq_some_iff.mp e
    obtain ⟨ds, eb, e⟩ := Option.bind_eq_some_iff.mp e
    obtain ⟨⟨r, ds'⟩, ec, e⟩ := Option.bind_eq_some_iff.mp e
    split at e
    case isFalse => cases e
    rename_i hl
    cases e
    refine ⟨O, env, U, as, e1, s, od, ea, fun vs H1 O1 U1 F1 s1 od1 r1 dj1 x1 => ?_⟩
    show SpF X.K (List.replicate n 0) κ g (vs ++ []) H1 Q E
    rw [List.append_nil]
    have hlv : vs.length = n := by rw [ArOk.lenv r1, ha.len _ _ _ ea, hn]
    obtain ⟨a1, a2⟩ := takeZ_ok (O2 := less O1 U1) s1 (fun a h => h) r1 eb
    rw [hlv] at a1
    refine ⟨less O1 U1, ds, [], _, _, a1, od1.less, ec, fun v H' O' U' F ra' od' rv dF x' => ?_⟩
    have kp : Kp X.K H1 H' O1 (fun a => O' a ∨ a ∈ U1) [] := ⟨fun a o h n => x'.same a o h (by simp), fun a h z => z.elim (fun z => (x'.own a h z).1) fun z => (s1.mt a z).1,
      fun a h _ => by
        by_cases z : a ∈ U1
        · exact .inr z
        · exact .inl (x'.keep a ⟨h, z⟩ (by simp)), .nil⟩
    have od2 : Od H' (fun a => O' a ∨ a ∈ U1) := fun a h => h.elim (od' a) fun z => by
      obtain ⟨_, o, h1, h2⟩ := s1.mt a z
      exact ⟨o, x'.same a o h1 (by simp), h2⟩
    refine q v H' (fun a => O' a ∨ a ∈ U1) U1 [] (s1.stay kp fun _ _ z => nomatch z) od2 (noL_rep 50 rv hl) Disj.nil ?_
    have x2 : Ext H1 O1 (U1 ++ F1) H' (fun a => O' a ∨ a ∈ U1) (U1 ++ []) := ⟨fun a o h _ => x'.same a o h (by simp), x'.dom, kp.own, fun a h _ => kp.keep a h (by simp), fun a ha => .inl (List.mem_append_left _ (by simpa using ha))⟩
    exact x1.trans x2 od⟩
end
@[simp ↓] theorem ob_lcall (f : FM) (m : AEM) (e : Env) (Q : Nat × D × Env → Prop) : OB (lcall f m e) Q = OB ((m e).bind fun x => (takeZ x.1 x.2).bind fun ds => (f ds).bind fun r => if noL 50 r.1 = true then some (0, r.1, x.2) else none) Q := rfl
@[simp] theorem takeZ_0 (e : Env) : takeZ [] e = some [] := rfl
@[simp] theorem takeZ_b (j : Nat) (as : List Ar) (e : Env) : takeZ (.bor j :: as) e = (vX j e).bind fun x => (takeZ as e).map (x.2 :: ·) := rfl
@[simp] theorem takeZ_v (l : Nat) (d : D) (as : List Ar) (e : Env) : takeZ (.val l d :: as) e = if l = 0 ∨ isScal d = true then (takeZ as e).map (d :: ·) else none := rfl
@[simp] theorem itemsD_l (xs : List D) : itemsD [.lst xs] = some xs := rfl
@[simp] theorem itemsD_t (xs : List D) : itemsD [.tup xs] = some xs := rfl
@[simp] theorem isiD_int_tuple (i : Int) : isiD [.int i, .ty "tuple"] = some (.bl false) := rfl
@[simp] theorem isiD_int_list (i : Int) : isiD [.int i, .ty "list"] = some (.bl false) := rfl
@[simp] theorem isiD_int_dict (i : Int) : isiD [.int i, .ty "dict"] = some (.bl false) := rfl
@[simp] theorem isiD_bl_str (i : Bool) : isiD [.bl i, .ty "str"] = some (.bl false) := rfl
@[simp] theorem isiD_bl_tuple (i : Bool) : isiD [.bl i, .ty "tuple"] = some (.bl false) := rfl
@[simp] theorem isiD_bl_list (i : Bool) : isiD [.bl i, .ty "list"] = some (.bl false) := rfl
@[simp] theorem isiD_bl_dict (i : Bool) : isiD [.bl i, .ty "dict"] = some (.bl false) := rfl
@[simp] theorem isiD_str_bool (i : Str) : isiD [.str i, .ty "bool"] = some (.bl false) := rfl
@[simp] theorem isiD_str_tuple (i : Str) : isiD [.str i, .ty "tuple"] = some (.bl false) := rfl
@[simp] theorem isiD_str_list (i : Str) : isiD [.str i, .ty "list"] = some (.bl false) := rfl
@[simp] theorem isiD_str_dict (i : Str) : isiD [.str i, .ty "dict"] = some (.bl false) := rfl
@[simp] theorem isiD_tup_int (i : List D) : isiD [.tup i, .ty "int"] = some (.bl false) := rfl
@[simp] theorem isiD_tup_bool (i : List D) : isiD [.tup i, .ty "bool"] = some (.bl false) := rfl
@[simp] theorem isiD_tup_str (i : List D) : isiD [.tup i, .ty "str"] = some (.bl false) := rfl
@[simp] theorem isiD_tup_list (i : List D) : isiD [.tup i, .ty "list"] = some (.bl false) := rfl
@[simp] theorem isiD_tup_dict (i : List D) : isiD [.tup i, .ty "dict"] = some (.bl false) := rfl
@[simp] theorem isiD_lst_int (i : List D) : isiD [.lst i, .ty "int"] = some (.bl false) := rfl
@[simp] theorem isiD_lst_bool (i : List D) : isiD [.lst i, .ty "bool"] = some (.bl false) := rfl
@[simp] theorem isiD_lst_str (i : List D) : isiD [.lst i, .ty "str"] = some (.bl false) := rfl
@[simp] theorem isiD_lst_tuple (i : List D) : isiD [.lst i, .ty "tuple"] = some (.bl false) := rfl
@[simp] theorem isiD_lst_dict (i : List D) : isiD [.lst i, .ty "dict"] = some (.bl false) := rfl
@[simp] theorem isiD_non_bool  : isiD [.non, .ty "bool"] = some (.bl false) := rfl
@[simp] theorem isiD_non_dict  : isiD [.non, .ty "dict"] = some (.bl false) := rfl
@[simp] theorem min2D_ii (i j : Int) : min2D [.int i, .int j] = some (.int (if j < i then j else i)) := rfl
@[simp] theorem max2D_ii (i j : Int) : max2D [.int i, .int j] = some (.int (if i < j then j else i)) := rfl
end Wr

/-! list + list; min, max of a list. -/
namespace Wr
open PySem PySem.Spec PyProof.Rows L2
section
variable {prog : Program} {w : World} {A : Around} {E : Value → Shared → Prop} {s : Shared}
theorem add_listA {l b : Addr} {vs ws : List Value} {Q : Value → Shared → Prop} (hl : s.heap.IsList l vs.toArray) (hb : s.heap.IsList b ws.toArray)
    (hsz : vs.length + ws.length ≤ sizeLine) (h : Q (.ref s.heap.objs.size) { s with heap := s.heap.push { cls := .type "list", data := .seq (vs ++ ws).toArray } }) :
    wpAny (model prog w) A (binaryOp .Add (.ref l) (.ref b)) Q E s := by
  obtain ⟨⟨cls, dd, data, sl⟩, ho, hc, n, hd⟩ := id hl
  obtain ⟨⟨cls2, dd2, data2, sl2⟩, ho2, hc2, n2, hd2⟩ := id hb
  simp only at hc hd hc2 hd2
  subst hc hd hc2 hd2
  have e : vs.toArray ++ ws.toArray = (vs ++ ws).toArray := by simp
  refine concat_meets ⟨_, ho, rfl⟩ ⟨_, ho2, rfl⟩ noFill_list_add seq_list_add PySem.F.slot_list_add PySem.F.entry_list_add (PySem.F.args_list_add_2 _ _) (list_addW l b vs.toArray ws.toArray n n2 dd dd2 sl sl2 (by simpa using hsz)) ⟨ho, ho2, ?_⟩
  rw [e]
  exact h
end
section
variable {X : Cx}
def rCatL (K : PySem.W.Frag) : R2 := fun x y H Q => ∃ a b xs ys, x = .ref a ∧ y = .ref b ∧ SqL K H a xs ∧ SqL K H b ys ∧ xs.length + ys.length ≤ sizeLine ∧ ∀ p, H p = none → Q (.ref p) (upd H p (.lst (xs ++ ys)))
theorem op_catL : OpR X (binaryOp .Add) (rCatL X.K) := by
  intro pins s σ H x y v u Q I rx ry h
  obtain ⟨a, b, xs, ys, rfl, rfl, ha, hb, hz, q⟩ := h
  cases rx
  cases ry
  obtain ⟨its, r1, p1, _⟩ := I.list ha
  obtain ⟨its2, r2, p2, _⟩ := I.list hb
  refine add_listA p1.isList p2.isList (by rw [← r1.length, ← r2.length]; exact hz) ?_
  exact ⟨.ref _, _, I.lnew (t' := s.toks) (r1.append r2) (by rw [List.length_append]; omega), rfl, q _ I.fresh⟩
def addL : D → D → Option D
  | .lst x, .lst y => if x.length + y.length ≤ 16777216 then some (.lst (x ++ y)) else none
  | _, _ => none
theorem og_addL : OpG X (binaryOp .Add) addL := ⟨_, op_catL, fun H O x y dx dy d Q od rx ry e q => by
  cases rx with
  | frz hx rx =>
    cases ry with
    | frz hy ry =>
      simp [addL] at e
      obtain ⟨h, rfl⟩ := e
      exact ⟨_, _, _, _, rfl, rfl, hx.sq, hy.sq, by rw [rx.length, ry.length]; exact h, fun p hp => q _ _ (same_new hp) (freshL od (rx.app0 ry) hp)⟩
    | _ => simp [addL] at e
  | _ => cases ry <;> simp [addL] at e⟩
def minI : List Int → Int → Int
  | [], m => m
  | i :: is, m => minI is (if i < m then i else m)
theorem minI_le : ∀ (is : List Int) (m : Int), minI is m ≤ m ∧ ∀ i ∈ is, minI is m ≤ i
  | [], m => ⟨Int.le_refl _, fun _ z => by cases z⟩
  | i :: is, m => by
    obtain ⟨a, b⟩ := minI_le is (if i < m then i else m)
    have h : (if i < m then i else m) ≤ m ∧ (if i < m then i else m) ≤ i := by split <;> omega
    refine ⟨Int.le_trans a h.1, fun j hj => ?_⟩
    rcases List.mem_cons.mp hj with z | z
    · subst z; exact Int.le_trans a h.2
    · exact b j z
theorem minI_mem : ∀ (is : List Int) (m : Int), minI is m = m ∨ minI is m ∈ is
  | [], m => .inl rfl
  | i :: is, m => by
    show minI is (if i < m then i else m) = m ∨ _
    by_cases h : i < m
    · rw [if_pos h]
      rcases minI_mem is i with z | z
      · exact .inr (by show minI is (if i < m then i else m) ∈ _; rw [if_pos h, z]; exact List.mem_cons_self)
      · exact .inr (by show minI is (if i < m then i else m) ∈ _; rw [if_pos h]; exact List.mem_cons_of_mem _ z)
    · rw [if_neg h]
      rcases minI_mem is m with z | z
      · exact .inl z
      · exact .inr (by show minI is (if i < m then i else m) ∈ _; rw [if_neg h]; exact List.mem_cons_of_mem _ z)
def min1D : List D → Option D
  | [.lst xs] => match intsOf xs with
    | some (i :: is) => some (.int (minI is i))
    | _ => none
  | _ => none
theorem cg_min1 (hc : X.calm = true) : CallG X (.builtin "min") min1D := ⟨_, cr_min hc, fun H O vs ds d Q od rs e q => by
  unfold min1D at e
  split at e
  · obtain ⟨v, ws, rfl, a, b⟩ := rs.un0
    obtain ⟨rfl, _⟩ := b.none
    split at e
    · rename_i i is e1
      cases e
      cases a with
      | frz hs r =>
        rw [intsOf_eq e1] at r
        have := r.ints; subst this
        refine ⟨_, i :: is, rfl, hs.sq, by simp, fun m hm hle => ?_⟩
        have h1 := minI_le is i
        have h2 := minI_mem is i
        have : m = minI is i := by
          have a1 : m ≤ minI is i := by
            rcases h2 with z | z
            · rw [z]; exact hle i (by simp)
            · exact hle _ (List.mem_cons_of_mem _ z)
          have a2 : minI is i ≤ m := by
            rcases List.mem_cons.mp hm with z | z
            · rw [z]; exact h1.1
            · exact h1.2 m z
          omega
        rw [this]
        exact q _ H (Same.refl H) .int
    · cases e
  · cases e⟩
theorem scc_min1 : ScC min1D := fun x d e => by
  unfold min1D at e
  split at e
  · split at e
    · cases e; rfl
    · cases e
  · cases e
end
@[simp] theorem addL_ll (xs ys : List D) : addL (.lst xs) (.lst ys) = if xs.length + ys.length ≤ 16777216 then some (.lst (xs ++ ys)) else none := rfl
end Wr

namespace Wr
open PySem PySem.Spec PyProof.Rows L2
@[simp] theorem atI3 {α : Type} (a b c d : α) (xs : List α) : L2.atI (a :: b :: c :: d :: xs) 3 = some d := Wr.atI_nat (xs := a :: b :: c :: d :: xs) (i := 3) (by simp)
@[simp] theorem atI4 {α : Type} (a b c d e : α) (xs : List α) : L2.atI (a :: b :: c :: d :: e :: xs) 4 = some e := Wr.atI_nat (xs := a :: b :: c :: d :: e :: xs) (i := 4) (by simp)
@[simp] theorem atI5 {α : Type} (a b c d e f : α) (xs : List α) : L2.atI (a :: b :: c :: d :: e :: f :: xs) 5 = some f := Wr.atI_nat (xs := a :: b :: c :: d :: e :: f :: xs) (i := 5) (by simp)
@[simp] theorem atI6 {α : Type} (a b c d e f g : α) (xs : List α) : L2.atI (a :: b :: c :: d :: e :: f :: g :: xs) 6 = some g := Wr.atI_nat (xs := a :: b :: c :: d :: e :: f :: g :: xs) (i := 6) (by simp)
@[simp] theorem atI7 {α : Type} (a b c d e f g h : α) (xs : List α) : L2.atI (a :: b :: c :: d :: e :: f :: g :: h :: xs) 7 = some h := Wr.atI_nat (xs := a :: b :: c :: d :: e :: f :: g :: h :: xs) (i := 7) (by simp)
section
variable {X : Cx}
def rRepL (K : PySem.W.Frag) : R2 := fun x y H Q => ∃ l k xs, x = .ref l ∧ y = .int k ∧ SqL K H l xs ∧ -(2 ^ 63) ≤ k ∧ k < 2 ^ 63 ∧ xs.length * k.toNat ≤ sizeLine ∧
  ∀ p, H p = none → Q (.ref p) (upd H p (.lst (List.replicate k.toNat xs).flatten))
theorem op_repL : OpR X (binaryOp .Mult) (rRepL X.K) := by
  intro pins s σ H x y v u Q I rx ry h
  obtain ⟨l, k, xs, rfl, rfl, hH, h1, h2, hz, q⟩ := h
  cases rx
  obtain ⟨t, rfl⟩ := ry
  obtain ⟨its, r, p1, _⟩ := I.list hH
  obtain ⟨⟨cls, d, data, sl⟩, ho, hcl, n, hd⟩ := id p1.isList
  simp only at hcl hd
  subst hcl hd
  have hsz' : its.toArray.size * k.toNat ≤ 2 ^ 24 := by rw [List.size_toArray, ← r.length]; exact hz
  refine wpAny_binaryOp_repeat_ref (T := "list") (U := "int") (by decide) ⟨_, ho, rfl⟩ (fun s' => typeIs_int s' k t) noFill_list_mul F.fills_int_mul F.slot_int_rmul repeat_list F.slot_int_index.lookup
    (call_meets F.slot_int_rmul (typeIs_int s k t) F.entry_int_rmul (F.args_int_rmul_2 _ _) (lm_int_rmul_list_any k t l its.toArray n d sl)
      ⟨ho, rfl, ⟨_, ho, rfl⟩, call_meets F.slot_list_mul ⟨_, ho, rfl⟩ F.entry_list_mul (F.args_list_mul_2 _ _)
        (lm_list_mul_any l its.toArray n d sl k t (by simp [Builtin.List.listFitsIndex]; omega) (by omega) (by simp [Builtin.List.listTooLong, sizeLine]; omega))
        ⟨ho, ?_⟩⟩)
  rw [listMul_foldl_if]
  exact ⟨.ref _, _, I.lnew (t' := s.toks) (r.rep k.toNat) (by rw [PyProof.Rows.lm_len_rep_flat, Nat.mul_comm]; exact hz), rfl, q _ I.fresh⟩
def mulL : D → D → Option D
  | .lst x, .int k => if x.length ≤ 1000 ∧ k ≤ 1000 ∧ -1000 ≤ k then some (.lst (List.replicate k.toNat x).flatten) else none
  | _, _ => none
theorem og_mulL : OpG X (binaryOp .Mult) mulL := ⟨_, op_repL, fun H O x y dx dy d Q od rx ry e q => by
  cases rx with
  | frz hx rx =>
    cases ry with
    | int =>
      simp [mulL] at e
      obtain ⟨⟨h1, h2, h3⟩, rfl⟩ := e
      exact ⟨_, _, _, rfl, rfl, hx.sq, by omega, by omega, Nat.le_trans (Nat.mul_le_mul (by rw [rx.length]; exact h1) (show _ ≤ 1000 by omega)) (by decide), fun p hp => q _ _ (same_new hp) (freshL od (rx.rep0 _) hp)⟩
    | _ => simp [mulL] at e
  | _ => cases ry <;> simp [mulL] at e⟩
def maxI : List Int → Int → Int
  | [], m => m
  | i :: is, m => maxI is (if i > m then i else m)
theorem maxI_le : ∀ (is : List Int) (m : Int), m ≤ maxI is m ∧ ∀ i ∈ is, i ≤ maxI is m
  | [], m => ⟨Int.le_refl _, fun _ z => by cases z⟩
  | i :: is, m => by
    obtain ⟨a, b⟩ := maxI_le is (if i > m then i else m)
    have h : m ≤ (if i > m then i else m) ∧ i ≤ (if i > m then i else m) := by split <;> omega
    refine ⟨Int.le_trans h.1 a, fun j hj => ?_⟩
    rcases List.mem_cons.mp hj with z | z
    · subst z; exact Int.le_trans h.2 a
    · exact b j z
theorem maxI_mem : ∀ (is : List Int) (m : Int), maxI is m = m ∨ maxI is m ∈ is
  | [], m => .inl rfl
  | i :: is, m => by
    show maxI is (if i > m then i else m) = m ∨ _
    by_cases h : i > m
    · rw [if_pos h]
      rcases maxI_mem is i with z | z
      · exact .inr (by show maxI is (if i > m then i else m) ∈ _; rw [if_pos h, z]; exact List.mem_cons_self)
      · exact .inr (by show maxI is (if i > m then i else m) ∈ _; rw [if_pos h]; exact List.mem_cons_of_mem _ z)
    · rw [if_neg h]
      rcases maxI_mem is m with z | z
      · exact .inl z
      · exact .inr (by show maxI is (if i > m then i else m) ∈ _; rw [if_neg h]; exact List.mem_cons_of_mem _ z)
def max1D : List D → Option D
  | [.lst xs] => match intsOf xs with
    | some (i :: is) => some (.int (maxI is i))
    | _ => none
  | _ => none
theorem cg_max1 (hc : X.calm = true) : CallG X (.builtin "max") max1D := ⟨_, cr_max hc, fun H O vs ds d Q od rs e q => by
  unfold max1D at e
  split at e
  · obtain ⟨v, ws, rfl, a, b⟩ := rs.un0
    obtain ⟨rfl, _⟩ := b.none
    split at e
    · rename_i i is e1
      cases e
      cases a with
      | frz hs r =>
        rw [intsOf_eq e1] at r
        have := r.ints; subst this
        refine ⟨_, i :: is, rfl, hs.sq, by simp, fun m hm hle => ?_⟩
        have h1 := maxI_le is i
        have h2 := maxI_mem is i
        have : m = maxI is i := by
          have a1 : maxI is i ≤ m := by
            rcases h2 with z | z
            · rw [z]; exact hle i (by simp)
            · exact hle _ (List.mem_cons_of_mem _ z)
          have a2 : m ≤ maxI is i := by
            rcases List.mem_cons.mp hm with z | z
            · rw [z]; exact h1.1
            · exact h1.2 m z
          omega
        rw [this]
        exact q _ H (Same.refl H) .int
    · cases e
  · cases e⟩
theorem scc_max1 : ScC max1D := fun x d e => by
  unfold max1D at e
  split at e
  · split at e
    · cases e; rfl
    · cases e
  · cases e
def tupU (n : Nat) (ts : Nat → List D → Env → Option Env) : TAs := fun k d e => match d with
  | .tup ds => if ds.length = n then ts k ds e else none
  | .lst ds => if ds.length = n ∧ k = 0 then ts 0 ds e else none
  | _ => none
theorem gg_tupU {B : List Nat} {n : Nat} {es : List Expr} {kk : Nat} {pos : Pos} {ts : Nat → List D → Env → Option Env} (hc : X.calm = true) (h : GGs X B es ts) (hn : (assignEach es X.env).length = n := by rfl) (hst : (assignEach es X.env).findIdx? (·.1) = none := by rfl) : GG X B (.Tuple es kk pos) (tupU n ts) := by
  refine ⟨⟨fun pins s0 σ H v u Q I r0 hq => ?_⟩⟩
  obtain ⟨O, env, U, k, d, F, env', s, od, r, dj, e, q⟩ := hq
  cases r with
  | @tup _ a vs ds F hs rs =>
    have e : (if ds.length = n then ts k ds env else none) = some env' := e
    split at e
    · rename_i hl
      exact (pg_tup hc h.pgs hn hst).run pins s0 σ H _ u Q I r0 ⟨a, vs, rfl, hs, by rw [rs.length]; exact hl, O, env, U, k, ds, F, env', s, od, rs, dj, e, q⟩
    · cases e
  | @frz a vs ds hs rs =>
    have e : (if ds.length = n ∧ 0 = 0 then ts 0 ds env else none) = some env' := e
    split at e
    · rename_i hl
      exact (pg_unl hc h.pgs hn hst).run pins s0 σ H _ u Q I r0 ⟨a, vs, rfl, hs.sq, by rw [rs.length]; exact hl.1, O, env, U, 0, ds, [], env', s, od, rs, dj, e, q⟩
    · cases e
  | own => simp [tupU] at e
  | _ => cases e
/-- xs.index(y), flat things -/
def idxL (y : D) : List D → Option Nat
  | [] => none
  | x :: xs => if eqF x y = true then some 0 else (idxL y xs).map (· + 1)
def lindexD : D → D → Option D
  | .lst xs, y => if flatD y = true ∧ xs.all flatD = true then (idxL y xs).map fun i => .int (i : Nat) else none
  | _, _ => none
theorem idxL_ok {K : Frag} {H : Hp} {O : Addr → Prop} {k k' y dy G} (ry : Rep K H O k' y dy G) : ∀ {vs ds F}, Reps K H O k vs ds F → ∀ {j : Nat}, idxL dy ds = some j →
    ∃ z, vs[j]? = some z ∧ eqV z y = true ∧ ∀ (m : Nat) (z' : V), m < j → vs[m]? = some z' → eqV z' y = false
  | _, _, _, .nil, j, e => by cases e
  | _, _, _, .cons (v := v) (d := d) r rs _, j, e => by
    unfold idxL at e
    have hv : eqV v y = eqF d dy := eqF_ok r ry
    split at e
    · rename_i h
      cases e
      exact ⟨v, rfl, by rw [hv, h], fun m _ hm => absurd hm (Nat.not_lt_zero m)⟩
    · rename_i h
      obtain ⟨i, ei, rfl⟩ := Option.map_eq_some_iff.mp e
      obtain ⟨z, h1, h2, h3⟩ := idxL_ok ry rs ei
      refine ⟨z, h1, h2, fun m z' hm hz => ?_⟩
      cases m with
      | zero => cases hz; rw [hv]; simpa using h
      | succ m => exact h3 m z' (by omega) hz
theorem gp_lindex {o a : Expr} {mo ma : PM} {ap pos : Pos} (ho : GP X o mo) (ha : GP X a ma) (hbase : attributeBase o "index" X.env (eval o X.env) = eval o X.env := by rfl)
    (hfew : ((backTo pos (starEach [a] X.env)).all (fun x => !x.1) && (backToKw pos (keywordEach [] X.env)).all (fun x => x.1.isSome)
      && decide (([a] : List Expr).length + ([] : List Keyword).length + (if ([] : List Keyword).isEmpty then 0 else 1) < 30)) = true := by rfl)
    (hline : (ap.endLine == pos.line) = true := by rfl) (hs : starEach [a] X.env = (false, eval a X.env) :: starEach [] X.env := by rfl) (hplain : (backTo pos (starEach [] X.env)).any (·.1) = false := by rfl) :
    GP X (.Call (.Attribute o "index" ap) [a] [] pos) (meth1 lindexD mo ma) := ⟨(pe_bm PySem.F.plainAttrs_list PySem.F.slot_list_index PySem.F.type_list_index mt_index ho.pe (pa_cons ha.pe pa_nil hs) hbase hfew hline hs hplain).weaken fun σ H Q hq => by
  obtain ⟨O, env, U, d, s, od, e, q⟩ := hq
  unfold meth1 at e
  obtain ⟨x, e1, e⟩ := Option.bind_eq_some_iff.mp e
  obtain ⟨y, e2, e⟩ := Option.bind_eq_some_iff.mp e
  cases x <;> simp only [lindexD, reduceCtorEq] at e
  rename_i xs
  split at e
  · rename_i hfl
    obtain ⟨j, ej, rfl⟩ := Option.map_eq_some_iff.mp e
    refine ⟨O, env, U, _, s, od, e1, fun v H1 s1 r1 => ?_⟩
    cases r1 with
    | frz hs rs =>
      refine ⟨.inl ⟨rfl, _, hs.sq⟩, O, env, U, _, s.same s1, od.same s1, e2, fun u H2 s2 r2 => ?_⟩
      have r1' := (Rep.frz hs rs).same s2
      cases r1' with
      | frz hs2 rs2 =>
        obtain ⟨z, h1, h2, h3⟩ := idxL_ok r2 rs2 ej
        exact ⟨_, _, _, j, z, rfl, rfl, hs2.sq, by rw [r2.flat]; exact hfl.1, by rw [rs2.allFlat]; exact hfl.2, h1, h2, h3, q _ H2 (s1.trans s2) .int⟩
  · cases e⟩
end
@[simp ↓] theorem ob_tupU (n k : Nat) (ts : Nat → List D → Env → Option Env) (ds : List D) (e : Env) (Q : Env → Prop) : OB (tupU n ts k (.tup ds) e) Q = OB (if ds.length = n then ts k ds e else none) Q := rfl
@[simp ↓] theorem ob_tupUl (n k : Nat) (ts : Nat → List D → Env → Option Env) (ds : List D) (e : Env) (Q : Env → Prop) : OB (tupU n ts k (.lst ds) e) Q = OB (if ds.length = n ∧ k = 0 then ts 0 ds e else none) Q := rfl
@[simp] theorem mulL_li (x : List D) (k : Int) : mulL (.lst x) (.int k) = if x.length ≤ 1000 ∧ k ≤ 1000 ∧ -1000 ≤ k then some (.lst (List.replicate k.toNat x).flatten) else none := rfl
end Wr

namespace Law
open PySem PySem.Spec PyProof.Rows L2 Wr
def top (i : Nat) : Stmt := PySem.Challenge.pw_watchrules_k43_who_undoes.main.body.getD i (.Pass ⟨0, 0, 0, 0⟩)

def dd (x : Str) (i : Nat) : He.DefD := ⟨(x, none), x, x, defArgs (top i), defBody (top i), defScope (top i), [], []⟩
def fn : List He.DefD := [dd "_law_draw" 11, dd "_law_names" 13, dd "_law_based" 20, dd "_law_cut" 19, dd "_law_great" 12, dd "_law_any_test" 22, dd "_law_bars" 23, dd "_law_slot" 17, dd "_law_asked" 18, dd "_law_true_test" 21, dd "_law_road" 24, dd "_law_moments" 14, dd "_law_worth" 15, dd "_law_taken" 16, dd "_law_case" 25, dd "_law_deck" 10, dd "_law_stretch" 26, dd "_law_last_met" 27, dd "_law_whole" 28, dd "_law_is_happening" 29, dd "_law_holds" 30, dd "_law_meets" 31, dd "worth" 2, dd "asked_of" 4, dd "limits" 5, dd "moments_met" 7, dd "worths_of" 6, dd "undoer" 8, dd "_law_right" 32, dd "law" 33]
def tu : List Tu := []
def fa : List He.Fa := [.glo "_law_draw", .glo "_law_names", .glo "_law_based", .glo "_law_cut", .glo "_law_great", .glo "_law_any_test", .glo "_law_bars", .glo "_law_slot", .glo "_law_asked", .glo "_law_true_test", .glo "_law_road", .glo "_law_moments", .glo "_law_worth", .glo "_law_taken", .glo "_law_case", .glo "_law_deck", .glo "_law_stretch", .glo "_law_last_met", .glo "_law_whole", .glo "_law_is_happening", .glo "_law_holds", .glo "_law_meets", .glo "worth", .glo "asked_of", .glo "limits", .glo "moments_met", .glo "worths_of", .glo "undoer", .glo "_law_right", .glo "law", .free "abs", .free "bool", .free "enumerate", .free "int", .free "isinstance", .free "len", .free "list", .free "max", .free "min", .free "range", .free "str", .free "sum", .free "tuple", .int "FAR" (1000000000000000000)]
def lo0 : List PySem.Str := ["FAR", "worth", "asked_of", "limits", "worths_of", "moments_met", "undoer", "_law_deck", "_law_draw", "_law_great", "_law_names", "_law_moments", "_law_worth", "_law_taken", "_law_slot", "_law_asked", "_law_cut", "_law_based", "_law_true_test", "_law_any_test"]
def lo1 : List PySem.Str := ["_law_bars", "_law_road", "_law_case", "_law_stretch", "_law_last_met", "_law_whole", "_law_is_happening", "_law_holds", "_law_meets", "_law_right"]
def lo : List PySem.Str := lo0 ++ lo1
/-- what the head says -/
structure Tx (K : Frag) (mg : Str → Option Value) where
  fd_law_draw : FuncData
  F_law_draw : FunD K "_law_draw" "_law_draw" (defArgs (top 11)) (defBody (top 11)) (defScope (top 11)) [] [] (He.ga K "_law_draw") fd_law_draw
  g_law_draw : mg "_law_draw" = some (.ref (He.ga K "_law_draw"))
  fd_law_names : FuncData
  F_law_names : FunD K "_law_names" "_law_names" (defArgs (top 13)) (defBody (top 13)) (defScope (top 13)) [] [] (He.ga K "_law_names") fd_law_names
  g_law_names : mg "_law_names" = some (.ref (He.ga K "_law_names"))
  fd_law_based : FuncData
  F_law_based : FunD K "_law_based" "_law_based" (defArgs (top 20)) (defBody (top 20)) (defScope (top 20)) [] [] (He.ga K "_law_based") fd_law_based
  g_law_based : mg "_law_based" = some (.ref (He.ga K "_law_based"))
  fd_law_cut : FuncData
  F_law_cut : FunD K "_law_cut" "_law_cut" (defArgs (top 19)) (defBody (top 19)) (defScope (top 19)) [] [] (He.ga K "_law_cut") fd_law_cut
  g_law_cut : mg "_law_cut" = some (.ref (He.ga K "_law_cut"))
  fd_law_great : FuncData
  F_law_great : FunD K "_law_great" "_law_great" (defArgs (top 12)) (defBody (top 12)) (defScope (top 12)) [] [] (He.ga K "_law_great") fd_law_great
  g_law_great : mg "_law_great" = some (.ref (He.ga K "_law_great"))
  fd_law_any_test : FuncData
  F_law_any_test : FunD K "_law_any_test" "_law_any_test" (defArgs (top 22)) (defBody (top 22)) (defScope (top 22)) [] [] (He.ga K "_law_any_test") fd_law_any_test
  g_law_any_test : mg "_law_any_test" = some (.ref (He.ga K "_law_any_test"))
  fd_law_bars : FuncData
  F_law_bars : FunD K "_law_bars" "_law_bars" (defArgs (top 23)) (defBody (top 23)) (defScope (top 23)) [] [] (He.ga K "_law_bars") fd_law_bars
  g_law_bars : mg "_law_bars" = some (.ref (He.ga K "_law_bars"))
  fd_law_slot : FuncData
  F_law_slot : FunD K "_law_slot" "_law_slot" (defArgs (top 17)) (defBody (top 17)) (defScope (top 17)) [] [] (He.ga K "_law_slot") fd_law_slot
  g_law_slot : mg "_law_slot" = some (.ref (He.ga K "_law_slot"))
  fd_law_asked : FuncData
  F_law_asked : FunD K "_law_asked" "_law_asked" (defArgs (top 18)) (defBody (top 18)) (defScope (top 18)) [] [] (He.ga K "_law_asked") fd_law_asked
  g_law_asked : mg "_law_asked" = some (.ref (He.ga K "_law_asked"))
  fd_law_true_test : FuncData
  F_law_true_test : FunD K "_law_true_test" "_law_true_test" (defArgs (top 21)) (defBody (top 21)) (defScope (top 21)) [] [] (He.ga K "_law_true_test") fd_law_true_test
  g_law_true_test : mg "_law_true_test" = some (.ref (He.ga K "_law_true_test"))
  fd_law_road : FuncData
  F_law_road : FunD K "_law_road" "_law_road" (defArgs (top 24)) (defBody (top 24)) (defScope (top 24)) [] [] (He.ga K "_law_road") fd_law_road
  g_law_road : mg "_law_road" = some (.ref (He.ga K "_law_road"))
  fd_law_moments : FuncData
  F_law_moments : FunD K "_law_moments" "_law_moments" (defArgs (top 14)) (defBody (top 14)) (defScope (top 14)) [] [] (He.ga K "_law_moments") fd_law_moments
  g_law_moments : mg "_law_moments" = some (.ref (He.ga K "_law_moments"))
  fd_law_worth : FuncData
  F_law_worth : FunD K "_law_worth" "_law_worth" (defArgs (top 15)) (defBody (top 15)) (defScope (top 15)) [] [] (He.ga K "_law_worth") fd_law_worth
  g_law_worth : mg "_law_worth" = some (.ref (He.ga K "_law_worth"))
  fd_law_taken : FuncData
  F_law_taken : FunD K "_law_taken" "_law_taken" (defArgs (top 16)) (defBody (top 16)) (defScope (top 16)) [] [] (He.ga K "_law_taken") fd_law_taken
  g_law_taken : mg "_law_taken" = some (.ref (He.ga K "_law_taken"))
  fd_law_case : FuncData
  F_law_case : FunD K "_law_case" "_law_case" (defArgs (top 25)) (defBody (top 25)) (defScope (top 25)) [] [] (He.ga K "_law_case") fd_law_case
  g_law_case : mg "_law_case" = some (.ref (He.ga K "_law_case"))
  fd_law_deck : FuncData
  F_law_deck : FunD K "_law_deck" "_law_deck" (defArgs (top 10)) (defBody (top 10)) (defScope (top 10)) [] [] (He.ga K "_law_deck") fd_law_deck
  g_law_deck : mg "_law_deck" = some (.ref (He.ga K "_law_deck"))
  fd_law_stretch : FuncData
  F_law_stretch : FunD K "_law_stretch" "_law_stretch" (defArgs (top 26)) (defBody (top 26)) (defScope (top 26)) [] [] (He.ga K "_law_stretch") fd_law_stretch
  g_law_stretch : mg "_law_stretch" = some (.ref (He.ga K "_law_stretch"))
  fd_law_last_met : FuncData
  F_law_last_met : FunD K "_law_last_met" "_law_last_met" (defArgs (top 27)) (defBody (top 27)) (defScope (top 27)) [] [] (He.ga K "_law_last_met") fd_law_last_met
  g_law_last_met : mg "_law_last_met" = some (.ref (He.ga K "_law_last_met"))
  fd_law_whole : FuncData
  F_law_whole : FunD K "_law_whole" "_law_whole" (defArgs (top 28)) (defBody (top 28)) (defScope (top 28)) [] [] (He.ga K "_law_whole") fd_law_whole
  g_law_whole : mg "_law_whole" = some (.ref (He.ga K "_law_whole"))
  fd_law_is_happening : FuncData
  F_law_is_happening : FunD K "_law_is_happening" "_law_is_happening" (defArgs (top 29)) (defBody (top 29)) (defScope (top 29)) [] [] (He.ga K "_law_is_happening") fd_law_is_happening
  g_law_is_happening : mg "_law_is_happening" = some (.ref (He.ga K "_law_is_happening"))
  fd_law_holds : FuncData
  F_law_holds : FunD K "_law_holds" "_law_holds" (defArgs (top 30)) (defBody (top 30)) (defScope (top 30)) [] [] (He.ga K "_law_holds") fd_law_holds
  g_law_holds : mg "_law_holds" = some (.ref (He.ga K "_law_holds"))
  fd_law_meets : FuncData
  F_law_meets : FunD K "_law_meets" "_law_meets" (defArgs (top 31)) (defBody (top 31)) (defScope (top 31)) [] [] (He.ga K "_law_meets") fd_law_meets
  g_law_meets : mg "_law_meets" = some (.ref (He.ga K "_law_meets"))
  fd_worth : FuncData
  F_worth : FunD K "worth" "worth" (defArgs (top 2)) (defBody (top 2)) (defScope (top 2)) [] [] (He.ga K "worth") fd_worth
  g_worth : mg "worth" = some (.ref (He.ga K "worth"))
  fd_asked_of : FuncData
  F_asked_of : FunD K "asked_of" "asked_of" (defArgs (top 4)) (defBody (top 4)) (defScope (top 4)) [] [] (He.ga K "asked_of") fd_asked_of
  g_asked_of : mg "asked_of" = some (.ref (He.ga K "asked_of"))
  fd_limits : FuncData
  F_limits : FunD K "limits" "limits" (defArgs (top 5)) (defBody (top 5)) (defScope (top 5)) [] [] (He.ga K "limits") fd_limits
  g_limits : mg "limits" = some (.ref (He.ga K "limits"))
  fd_moments_met : FuncData
  F_moments_met : FunD K "moments_met" "moments_met" (defArgs (top 7)) (defBody (top 7)) (defScope (top 7)) [] [] (He.ga K "moments_met") fd_moments_met
  g_moments_met : mg "moments_met" = some (.ref (He.ga K "moments_met"))
  fd_worths_of : FuncData
  F_worths_of : FunD K "worths_of" "worths_of" (defArgs (top 6)) (defBody (top 6)) (defScope (top 6)) [] [] (He.ga K "worths_of") fd_worths_of
  g_worths_of : mg "worths_of" = some (.ref (He.ga K "worths_of"))
  fd_undoer : FuncData
  F_undoer : FunD K "undoer" "undoer" (defArgs (top 8)) (defBody (top 8)) (defScope (top 8)) [] [] (He.ga K "undoer") fd_undoer
  g_undoer : mg "undoer" = some (.ref (He.ga K "undoer"))
  fd_law_right : FuncData
  F_law_right : FunD K "_law_right" "_law_right" (defArgs (top 32)) (defBody (top 32)) (defScope (top 32)) [] [] (He.ga K "_law_right") fd_law_right
  g_law_right : mg "_law_right" = some (.ref (He.ga K "_law_right"))
  fd_law : FuncData
  F_law : FunD K "law" "law" (defArgs (top 33)) (defBody (top 33)) (defScope (top 33)) [] [] (He.ga K "law") fd_law
  g_law : mg "law" = some (.ref (He.ga K "law"))
  m_abs : mg "abs" = none
  m_bool : mg "bool" = none
  m_enumerate : mg "enumerate" = none
  m_int : mg "int" = none
  m_isinstance : mg "isinstance" = none
  m_len : mg "len" = none
  m_list : mg "list" = none
  m_max : mg "max" = none
  m_min : mg "min" = none
  m_range : mg "range" = none
  m_str : mg "str" = none
  m_sum : mg "sum" = none
  m_tuple : mg "tuple" = none
  c_FAR : ∃ t, mg "FAR" = some (.int (1000000000000000000) t)
theorem Tx.kp_law_draw {K : Frag} {mg : Str → Option Value} (T : Tx K mg) : PySem.W.keepIn K (.ref (He.ga K "_law_draw")) = true := T.F_law_draw.kp
theorem Tx.b_law_draw {K : Frag} {mg : Str → Option Value} (T : Tx K mg) : Binds K T.fd_law_draw ["_law_deck_here", "_law_many"] [] := T.F_law_draw.bindsN fun _ _ _ _ _ _ us hl => match us, hl with | [_, _], _ => rfl
theorem Tx.kp_law_names {K : Frag} {mg : Str → Option Value} (T : Tx K mg) : PySem.W.keepIn K (.ref (He.ga K "_law_names")) = true := T.F_law_names.kp
theorem Tx.b_law_names {K : Frag} {mg : Str → Option Value} (T : Tx K mg) : Binds K T.fd_law_names ["_law_deck_here", "_law_many"] [] := T.F_law_names.bindsN fun _ _ _ _ _ _ us hl => match us, hl with | [_, _], _ => rfl
theorem Tx.kp_law_based {K : Frag} {mg : Str → Option Value} (T : Tx K mg) : PySem.W.keepIn K (.ref (He.ga K "_law_based")) = true := T.F_law_based.kp
theorem Tx.b_law_based {K : Frag} {mg : Str → Option Value} (T : Tx K mg) : Binds K T.fd_law_based ["_law_deck_here", "_law_slot_here", "_law_taken_here"] [] := T.F_law_based.bindsN fun _ _ _ _ _ _ us hl => match us, hl with | [_, _, _], _ => rfl
theorem Tx.kp_law_cut {K : Frag} {mg : Str → Option Value} (T : Tx K mg) : PySem.W.keepIn K (.ref (He.ga K "_law_cut")) = true := T.F_law_cut.kp
theorem Tx.b_law_cut {K : Frag} {mg : Str → Option Value} (T : Tx K mg) : Binds K T.fd_law_cut ["_law_number", "_law_most"] [] := T.F_law_cut.bindsN fun _ _ _ _ _ _ us hl => match us, hl with | [_, _], _ => rfl
theorem Tx.kp_law_great {K : Frag} {mg : Str → Option Value} (T : Tx K mg) : PySem.W.keepIn K (.ref (He.ga K "_law_great")) = true := T.F_law_great.kp
theorem Tx.b_law_great {K : Frag} {mg : Str → Option Value} (T : Tx K mg) : Binds K T.fd_law_great ["_law_deck_here", "_law_many"] [] := T.F_law_great.bindsN fun _ _ _ _ _ _ us hl => match us, hl with | [_, _], _ => rfl
theorem Tx.kp_law_any_test {K : Frag} {mg : Str → Option Value} (T : Tx K mg) : PySem.W.keepIn K (.ref (He.ga K "_law_any_test")) = true := T.F_law_any_test.kp
theorem Tx.b_law_any_test {K : Frag} {mg : Str → Option Value} (T : Tx K mg) : Binds K T.fd_law_any_test ["_law_deck_here", "_law_wide", "_law_taken_here"] [] := T.F_law_any_test.bindsN fun _ _ _ _ _ _ us hl => match us, hl with | [_, _, _], _ => rfl
theorem Tx.kp_law_bars {K : Frag} {mg : Str → Option Value} (T : Tx K mg) : PySem.W.keepIn K (.ref (He.ga K "_law_bars")) = true := T.F_law_bars.kp
theorem Tx.b_law_bars {K : Frag} {mg : Str → Option Value} (T : Tx K mg) : Binds K T.fd_law_bars ["_law_deck_here", "_law_kinds", "_law_taken_here"] [] := T.F_law_bars.bindsN fun _ _ _ _ _ _ us hl => match us, hl with | [_, _, _], _ => rfl
theorem Tx.kp_law_slot {K : Frag} {mg : Str → Option Value} (T : Tx K mg) : PySem.W.keepIn K (.ref (He.ga K "_law_slot")) = true := T.F_law_slot.kp
theorem Tx.b_law_slot {K : Frag} {mg : Str → Option Value} (T : Tx K mg) : Binds K T.fd_law_slot ["_law_happening", "_law_slot_here"] [] := T.F_law_slot.bindsN fun _ _ _ _ _ _ us hl => match us, hl with | [_, _], _ => rfl
theorem Tx.kp_law_asked {K : Frag} {mg : Str → Option Value} (T : Tx K mg) : PySem.W.keepIn K (.ref (He.ga K "_law_asked")) = true := T.F_law_asked.kp
theorem Tx.b_law_asked {K : Frag} {mg : Str → Option Value} (T : Tx K mg) : Binds K T.fd_law_asked ["_law_test", "_law_taken_here"] [] := T.F_law_asked.bindsN fun _ _ _ _ _ _ us hl => match us, hl with | [_, _], _ => rfl
theorem Tx.kp_law_true_test {K : Frag} {mg : Str → Option Value} (T : Tx K mg) : PySem.W.keepIn K (.ref (He.ga K "_law_true_test")) = true := T.F_law_true_test.kp
theorem Tx.b_law_true_test {K : Frag} {mg : Str → Option Value} (T : Tx K mg) : Binds K T.fd_law_true_test ["_law_deck_here", "_law_own", "_law_taken_here"] [] := T.F_law_true_test.bindsN fun _ _ _ _ _ _ us hl => match us, hl with | [_, _, _], _ => rfl
theorem Tx.kp_law_road {K : Frag} {mg : Str → Option Value} (T : Tx K mg) : PySem.W.keepIn K (.ref (He.ga K "_law_road")) = true := T.F_law_road.kp
theorem Tx.b_law_road {K : Frag} {mg : Str → Option Value} (T : Tx K mg) : Binds K T.fd_law_road ["_law_deck_here", "_law_kinds", "_law_taken_here", "_law_keyed"] [] := T.F_law_road.bindsN fun _ _ _ _ _ _ us hl => match us, hl with | [_, _, _, _], _ => rfl
theorem Tx.kp_law_moments {K : Frag} {mg : Str → Option Value} (T : Tx K mg) : PySem.W.keepIn K (.ref (He.ga K "_law_moments")) = true := T.F_law_moments.kp
theorem Tx.b_law_moments {K : Frag} {mg : Str → Option Value} (T : Tx K mg) : Binds K T.fd_law_moments ["_law_deck_here", "_law_count"] [] := T.F_law_moments.bindsN fun _ _ _ _ _ _ us hl => match us, hl with | [_, _], _ => rfl
theorem Tx.kp_law_worth {K : Frag} {mg : Str → Option Value} (T : Tx K mg) : PySem.W.keepIn K (.ref (He.ga K "_law_worth")) = true := T.F_law_worth.kp
theorem Tx.b_law_worth {K : Frag} {mg : Str → Option Value} (T : Tx K mg) : Binds K T.fd_law_worth ["_law_deck_here"] [] := T.F_law_worth.bindsN fun _ _ _ _ _ _ us hl => match us, hl with | [_], _ => rfl
theorem Tx.kp_law_taken {K : Frag} {mg : Str → Option Value} (T : Tx K mg) : PySem.W.keepIn K (.ref (He.ga K "_law_taken")) = true := T.F_law_taken.kp
theorem Tx.b_law_taken {K : Frag} {mg : Str → Option Value} (T : Tx K mg) : Binds K T.fd_law_taken ["_law_deck_here", "_law_kinds"] [] := T.F_law_taken.bindsN fun _ _ _ _ _ _ us hl => match us, hl with | [_, _], _ => rfl
theorem Tx.kp_law_case {K : Frag} {mg : Str → Option Value} (T : Tx K mg) : PySem.W.keepIn K (.ref (He.ga K "_law_case")) = true := T.F_law_case.kp
theorem Tx.b_law_case {K : Frag} {mg : Str → Option Value} (T : Tx K mg) : Binds K T.fd_law_case ["_law_deck_here"] [] := T.F_law_case.bindsN fun _ _ _ _ _ _ us hl => match us, hl with | [_], _ => rfl
theorem Tx.kp_law_deck {K : Frag} {mg : Str → Option Value} (T : Tx K mg) : PySem.W.keepIn K (.ref (He.ga K "_law_deck")) = true := T.F_law_deck.kp
theorem Tx.b_law_deck {K : Frag} {mg : Str → Option Value} (T : Tx K mg) : Binds K T.fd_law_deck ["_law_script"] [] := T.F_law_deck.bindsN fun _ _ _ _ _ _ us hl => match us, hl with | [_], _ => rfl
theorem Tx.kp_law_stretch {K : Frag} {mg : Str → Option Value} (T : Tx K mg) : PySem.W.keepIn K (.ref (He.ga K "_law_stretch")) = true := T.F_law_stretch.kp
theorem Tx.b_law_stretch {K : Frag} {mg : Str → Option Value} (T : Tx K mg) : Binds K T.fd_law_stretch ["_law_tests", "_law_slot_here", "_law_low", "_law_high", "_law_taken_here"] [] := T.F_law_stretch.bindsN fun _ _ _ _ _ _ us hl => match us, hl with | [_, _, _, _, _], _ => rfl
theorem Tx.kp_law_last_met {K : Frag} {mg : Str → Option Value} (T : Tx K mg) : PySem.W.keepIn K (.ref (He.ga K "_law_last_met")) = true := T.F_law_last_met.kp
theorem Tx.b_law_last_met {K : Frag} {mg : Str → Option Value} (T : Tx K mg) : Binds K T.fd_law_last_met ["_law_tail", "_law_taken_here"] [] := T.F_law_last_met.bindsN fun _ _ _ _ _ _ us hl => match us, hl with | [_, _], _ => rfl
theorem Tx.kp_law_whole {K : Frag} {mg : Str → Option Value} (T : Tx K mg) : PySem.W.keepIn K (.ref (He.ga K "_law_whole")) = true := T.F_law_whole.kp
theorem Tx.b_law_whole {K : Frag} {mg : Str → Option Value} (T : Tx K mg) : Binds K T.fd_law_whole ["_law_thing", "_law_least", "_law_most"] [] := T.F_law_whole.bindsN fun _ _ _ _ _ _ us hl => match us, hl with | [_, _, _], _ => rfl
theorem Tx.kp_law_is_happening {K : Frag} {mg : Str → Option Value} (T : Tx K mg) : PySem.W.keepIn K (.ref (He.ga K "_law_is_happening")) = true := T.F_law_is_happening.kp
theorem Tx.b_law_is_happening {K : Frag} {mg : Str → Option Value} (T : Tx K mg) : Binds K T.fd_law_is_happening ["_law_thing", "_law_kinds"] [] := T.F_law_is_happening.bindsN fun _ _ _ _ _ _ us hl => match us, hl with | [_, _], _ => rfl
theorem Tx.kp_law_holds {K : Frag} {mg : Str → Option Value} (T : Tx K mg) : PySem.W.keepIn K (.ref (He.ga K "_law_holds")) = true := T.F_law_holds.kp
theorem Tx.b_law_holds {K : Frag} {mg : Str → Option Value} (T : Tx K mg) : Binds K T.fd_law_holds ["_law_test", "_law_happening", "_law_taken_here"] [] := T.F_law_holds.bindsN fun _ _ _ _ _ _ us hl => match us, hl with | [_, _, _], _ => rfl
theorem Tx.kp_law_meets {K : Frag} {mg : Str → Option Value} (T : Tx K mg) : PySem.W.keepIn K (.ref (He.ga K "_law_meets")) = true := T.F_law_meets.kp
theorem Tx.b_law_meets {K : Frag} {mg : Str → Option Value} (T : Tx K mg) : Binds K T.fd_law_meets ["_law_road_here", "_law_happening", "_law_taken_here"] [] := T.F_law_meets.bindsN fun _ _ _ _ _ _ us hl => match us, hl with | [_, _, _], _ => rfl
theorem Tx.kp_worth {K : Frag} {mg : Str → Option Value} (T : Tx K mg) : PySem.W.keepIn K (.ref (He.ga K "worth")) = true := T.F_worth.kp
theorem Tx.b_worth {K : Frag} {mg : Str → Option Value} (T : Tx K mg) : Binds K T.fd_worth ["happening", "slot"] [] := T.F_worth.bindsN fun _ _ _ _ _ _ us hl => match us, hl with | [_, _], _ => rfl
theorem Tx.kp_asked_of {K : Frag} {mg : Str → Option Value} (T : Tx K mg) : PySem.W.keepIn K (.ref (He.ga K "asked_of")) = true := T.F_asked_of.kp
theorem Tx.b_asked_of {K : Frag} {mg : Str → Option Value} (T : Tx K mg) : Binds K T.fd_asked_of ["test", "taken"] [] := T.F_asked_of.bindsN fun _ _ _ _ _ _ us hl => match us, hl with | [_, _], _ => rfl
theorem Tx.kp_limits {K : Frag} {mg : Str → Option Value} (T : Tx K mg) : PySem.W.keepIn K (.ref (He.ga K "limits")) = true := T.F_limits.kp
theorem Tx.b_limits {K : Frag} {mg : Str → Option Value} (T : Tx K mg) : Binds K T.fd_limits ["tests", "slot", "low", "high", "taken"] [] := T.F_limits.bindsN fun _ _ _ _ _ _ us hl => match us, hl with | [_, _, _, _, _], _ => rfl
theorem Tx.kp_moments_met {K : Frag} {mg : Str → Option Value} (T : Tx K mg) : PySem.W.keepIn K (.ref (He.ga K "moments_met")) = true := T.F_moments_met.kp
theorem Tx.b_moments_met {K : Frag} {mg : Str → Option Value} (T : Tx K mg) : Binds K T.fd_moments_met ["tail", "taken", "settled"] [] := T.F_moments_met.bindsN fun _ _ _ _ _ _ us hl => match us, hl with | [_, _, _], _ => rfl
theorem Tx.kp_worths_of {K : Frag} {mg : Str → Option Value} (T : Tx K mg) : PySem.W.keepIn K (.ref (He.ga K "worths_of")) = true := T.F_worths_of.kp
theorem Tx.b_worths_of {K : Frag} {mg : Str → Option Value} (T : Tx K mg) : Binds K T.fd_worths_of ["tail", "taken"] [] := T.F_worths_of.bindsN fun _ _ _ _ _ _ us hl => match us, hl with | [_, _], _ => rfl
theorem Tx.kp_undoer {K : Frag} {mg : Str → Option Value} (T : Tx K mg) : PySem.W.keepIn K (.ref (He.ga K "undoer")) = true := T.F_undoer.kp
theorem Tx.b_undoer {K : Frag} {mg : Str → Option Value} (T : Tx K mg) : Binds K T.fd_undoer ["road", "taken", "settled"] [] := T.F_undoer.bindsN fun _ _ _ _ _ _ us hl => match us, hl with | [_, _, _], _ => rfl
theorem Tx.kp_law_right {K : Frag} {mg : Str → Option Value} (T : Tx K mg) : PySem.W.keepIn K (.ref (He.ga K "_law_right")) = true := T.F_law_right.kp
theorem Tx.b_law_right {K : Frag} {mg : Str → Option Value} (T : Tx K mg) : Binds K T.fd_law_right ["_law_case_here", "_law_settled", "_law_due", "_law_way"] [] := T.F_law_right.bindsN fun _ _ _ _ _ _ us hl => match us, hl with | [_, _, _, _], _ => rfl
theorem Tx.kp_law {K : Frag} {mg : Str → Option Value} (T : Tx K mg) : PySem.W.keepIn K (.ref (He.ga K "law")) = true := T.F_law.kp
theorem Tx.b_law {K : Frag} {mg : Str → Option Value} (T : Tx K mg) : Binds K T.fd_law ["_law_script"] [] := T.F_law.bindsN fun _ _ _ _ _ _ us hl => match us, hl with | [_], _ => rfl
section
variable {P : Program} {w : World} {K : Frag} {mg : Str → Option Value} {base : Heap}
theorem sc_law_draw : FnScope ["_law_deck_here", "_law_many", "_law_cell", "_law_place"] ["_law_deck_here", "_law_many"] (defScope (top 11)) := ⟨rfl, rfl, rfl, by decide +kernel, rfl, by decide +kernel, by decide +kernel⟩
def b_law_draw : SM := (seqS (setixS 0 (toE (cP (.int 1))) (toE (bP addD (ofX (ixX (vX 0) (toX (cP (.int 1))))) (cP (.int 1)))))
    (seqS (asgS (nameT 2) (toE (cP (.int 0))))
    (seqS (asgS (nameT 3) (toE (negP (toX (cP (.int 1))))))
    (seqS (ifS (toT (bT (bX gtI (toX (callP lenD (consX (ixX (vX 0) (toX (cP (.int 0)))) nilX))) (toX (cP (.int 0)))))) (seqS (asgS (nameT 3) (toE (bX modD (ixX (vX 0) (toX (cP (.int 1)))) (toX (callP lenD (consX (ixX (vX 0) (toX (cP (.int 0)))) nilX))))))
    (asgS (nameT 2) (toE (ofX (ixX (ixX (vX 0) (toX (cP (.int 0)))) (vX 3)))))) nilS)
    (seqS (ifS (toT (bT (bX geI (vX 2) (toX (bX powD (toX (cP (.int 10))) (toX (cP (.int 18)))))))) (seqS (setix2S 0 (toX (cP (.int 0))) (vX 3) (toE (bX fdivD (vX 2) (vX 1))))
    (retS (toE (bX modD (vX 2) (vX 1))))) nilS)
    (retS (toE (bX modD (toX (bX modD (toX (bX powD (toX (bP addD (bP addD (bX modD (vX 2) (toX (cP (.int 2147483587)))) (bX mulX (toX (cP (.int 7919))) (ixX (vX 0) (toX (cP (.int 1)))))) (cP (.int 1)))) (toX (cP (.int 5))))) (toX (cP (.int 2147483647))))) (vX 1)))))))))
def d_law_draw : FM := runF ["_law_deck_here", "_law_many", "_law_cell", "_law_place"] [2, 0] 0 b_law_draw
theorem ok_law_draw (T : Tx K mg) : FnOk P w K mg base CX0 1 (He.ga K "_law_draw") T.fd_law_draw ["_law_deck_here", "_law_many"] (SpF K [2, 0] 0 d_law_draw) :=
  fnF T.F_law_draw sc_law_draw rfl fun cdv A outer s H E hr => (show GSs _ _ (defBody (top 11)) b_law_draw from
      have hu := huR hr
      (gss_cons (gs_setix 0 (gp_bin og_add (gx_ix (gx_var 0) gp_int.x).p gp_int).e gp_int.e)
      (gss_cons (gs_asg gp_int.e (gg_name 2 sc_law_draw.nd))
      (gss_cons (gs_asg (gp_neg gp_int.x).e (gg_name 3 sc_law_draw.nd))
      (gss_cons (gs_if (gt_cmp og_gt sc_gt (gp_callBX cg_len scc_len (by rfl) T.m_len (by decide +kernel) (gax_cons (gx_ix (gx_var 0) gp_int.x) gax_nil)).x gp_int.x (nomark _)).e (gss_cons (gs_asg (gp_binX og_mod sc_mod (gx_ix (gx_var 0) gp_int.x) (gp_callBX cg_len scc_len (by rfl) T.m_len (by decide +kernel) (gax_cons (gx_ix (gx_var 0) gp_int.x) gax_nil)).x).e (gg_name 3 sc_law_draw.nd))
      (gss_one (gs_asg (gx_ix (gx_ix (gx_var 0) gp_int.x) (gx_var 3)).p.e (gg_name 2 sc_law_draw.nd)))) gss_nil)
      (gss_cons (gs_if (gt_cmp og_ge sc_ge (gx_var 2) (gp_binX og_pow sc_pow gp_int.x gp_int.x).x (nomark _)).e (gss_cons (gs_setix2 0 (gp_binX og_fdiv sc_fdiv (gx_var 2) (gx_var 1)).e gp_int.x (gx_var 3))
      (gss_one (gs_ret (gp_binX og_mod sc_mod (gx_var 2) (gx_var 1)).e))) gss_nil)
      (gss_one (gs_ret (gp_binX og_mod sc_mod (gp_binX og_mod sc_mod (gp_binX og_pow sc_pow (gp_bin og_add (gp_bin og_add (gp_binX og_mod sc_mod (gx_var 2) gp_int.x) (gp_binX og_mulX sc_mulX gp_int.x (gx_ix (gx_var 0) gp_int.x))) gp_int).x gp_int.x).x gp_int.x).x (gx_var 1)).e))))))))
theorem sc_law_names : FnScope ["_law_deck_here", "_law_many", "_law_letters", "_law_words", "_law_stem", "_law_at", "_law_first", "_law_step", "_law_found", "_law_k", "_law_name"] ["_law_deck_here", "_law_many"] (defScope (top 13)) := ⟨rfl, rfl, rfl, by decide +kernel, rfl, by decide +kernel, by decide +kernel⟩
def b_law_names : SM := (seqS (asgS (nameT 2) (toE (cP (.str (PySem.Str.ofString "abcdefghijklmnopqrstuvwxyz")))))
    (seqS (asgS (nameT 3) (toE (lstP (consA (cP (.str (PySem.Str.ofString "kind"))) (consA (cP (.str (PySem.Str.ofString "watch"))) (consA (cP (.str (PySem.Str.ofString "one"))) (consA (cP (.str (PySem.Str.ofString "many"))) (consA (cP (.str (PySem.Str.ofString "any"))) (consA (cP (.str (PySem.Str.ofString "all"))) (consA (cP (.str (PySem.Str.ofString "none"))) (consA (cP (.str (PySem.Str.ofString "tail"))) (consA (cP (.str (PySem.Str.ofString "by"))) (consA (cP (.str (PySem.Str.ofString "key"))) (consA (cP (.str (PySem.Str.ofString "within"))) (consA (cP (.str (PySem.Str.ofString "for"))) (consA (cP (.str (PySem.Str.ofString "or"))) (consA (cP (.str (PySem.Str.ofString "and"))) nilA)))))))))))))))))
    (seqS (asgS (nameT 3) (toE (bP addL (ofX (vX 3)) (lstP (consA (cP (.str (PySem.Str.ofString "at"))) (consA (cP (.str (PySem.Str.ofString "every"))) (consA (cP (.str (PySem.Str.ofString "next"))) (consA (cP (.str (PySem.Str.ofString "free"))) (consA (cP (.str (PySem.Str.ofString "apart"))) nilA)))))))))
    (seqS (asgS (nameT 4) (meth1E joinD (cP (.str (PySem.Str.ofString ""))) (coldE (lcE 0 [9] (rngI1 (valE (ixE (toE (lstP (consA (cP (.int 0)) (consA (cP (.int 1)) (consA (cP (.int 2)) (consA (cP (.int 3)) (consA (cP (.int 5)) (consA (cP (.int 7)) (consA (cP (.int 9)) (consA (cP (.int 10)) nilA)))))))))) (ucall [2, 0] 0 d_law_draw (borE 0 (valE (toE (cP (.int 8))) nilE)))) nilE)) (nameT 9) yesT (ixV 2 (ucall [2, 0] 0 d_law_draw (borE 0 (valE (toE (cP (.int 26))) nilE))))))))
    (seqS (asgS (nameT 5) (ucall [2, 0] 0 d_law_draw (borE 0 (valE (toE (bP addD (callP lenD (consX (vX 4) nilX)) (cP (.int 1)))) nilE))))
    (seqS (asgS (nameT 6) (ucall [2, 0] 0 d_law_draw (borE 0 (valE (toE (cP (.int 26))) nilE))))
    (seqS (asgS (nameT 7) (ixE (toE (lstP (consA (cP (.int 1)) (consA (cP (.int 3)) (consA (cP (.int 5)) (consA (cP (.int 7)) (consA (cP (.int 9)) (consA (cP (.int 11)) (consA (cP (.int 15)) (consA (cP (.int 17)) nilA)))))))))) (ucall [2, 0] 0 d_law_draw (borE 0 (valE (toE (cP (.int 8))) nilE)))))
    (seqS (asgS (nameT 8) (lstE 0 nilE))
    (seqS (forS (rngI1 (valE (toE (ofX (vX 1))) nilE)) (nameT 9) (seqS (asgS (nameT 10) (toE (bP addD (bP addD (slP (ofX (vX 4)) noO (someO (ofX (vX 5)))) (ofX (ixX (vX 2) (toX (bX modD (toX (bP addD (ofX (vX 6)) (bX mulX (vX 7) (vX 9)))) (toX (cP (.int 26)))))))) (slP (ofX (vX 4)) (someO (ofX (vX 5))) noO))))
    (seqS (ifS (toT (bT (bX inB (vX 10) (vX 3)))) (asgS (nameT 10) (toE (bP addD (cP (.str (PySem.Str.ofString "z"))) (ofX (vX 10))))) nilS)
    (dropS (appS 8 (toE (ofX (vX 10))))))))
    (retS (takeE 8)))))))))))
def d_law_names : FM := runF ["_law_deck_here", "_law_many", "_law_letters", "_law_words", "_law_stem", "_law_at", "_law_first", "_law_step", "_law_found", "_law_k", "_law_name"] [2, 0] 0 b_law_names
theorem ok_law_names (T : Tx K mg) : FnOk P w K mg base CX0 2 (He.ga K "_law_names") T.fd_law_names ["_law_deck_here", "_law_many"] (SpF K [2, 0] 0 d_law_names) :=
  fnF T.F_law_names sc_law_names rfl fun cdv A outer s H E hr => (show GSs _ _ (defBody (top 13)) b_law_names from
      have hu := huR hr
      (gss_cons (gs_asg gp_str.e (gg_name 2 sc_law_names.nd))
      (gss_cons (gs_asg (gp_lst (ga_cons gp_str (ga_cons gp_str (ga_cons gp_str (ga_cons gp_str (ga_cons gp_str (ga_cons gp_str (ga_cons gp_str (ga_cons gp_str (ga_cons gp_str (ga_cons gp_str (ga_cons gp_str (ga_cons gp_str (ga_cons gp_str (ga_cons gp_str ga_nil))))))))))))))).e (gg_name 3 sc_law_names.nd))
      (gss_cons (gs_asg (gp_bin og_addL (gx_var 3).p (gp_lst (ga_cons gp_str (ga_cons gp_str (ga_cons gp_str (ga_cons gp_str (ga_cons gp_str ga_nil))))))).e (gg_name 3 sc_law_names.nd))
      (gss_cons (gs_asg (ge_join gp_str (ge_lc 0 (own := [("_law_k", 9)]) rfl sc_law_names.nd (gi_rng1 (by rfl) T.m_range (gae_val (ge_ix (gp_lst (ga_cons gp_int (ga_cons gp_int (ga_cons gp_int (ga_cons gp_int (ga_cons gp_int (ga_cons gp_int (ga_cons gp_int (ga_cons gp_int ga_nil))))))))).e (ge_call (ok_law_draw T) (hr) (by rfl) (T.g_law_draw) (T.kp_law_draw) (T.b_law_draw) pass0 (gae_bor 0 (gae_val gp_int.e gae_nil)))) gae_nil)) (blkOk_by (by kernel_rfl)) (fun _ _ _ _ _ => (gg_name 9 sc_law_names.nd)) (fun _ _ _ _ _ => gts_nil) (fun _ _ _ _ _ => (ge_ixN 2 (ge_call (ok_law_draw T) (hr) (by rfl) (T.g_law_draw) (T.kp_law_draw) (T.b_law_draw) pass0 (gae_bor 0 (gae_val gp_int.e gae_nil)))))).cold) (gg_name 4 sc_law_names.nd))
      (gss_cons (gs_asg (ge_call (ok_law_draw T) (hr) (by rfl) (T.g_law_draw) (T.kp_law_draw) (T.b_law_draw) pass0 (gae_bor 0 (gae_val (gp_bin og_add (gp_callBX cg_len scc_len (by rfl) T.m_len (by decide +kernel) (gax_cons (gx_var 4) gax_nil)) gp_int).e gae_nil))) (gg_name 5 sc_law_names.nd))
      (gss_cons (gs_asg (ge_call (ok_law_draw T) (hr) (by rfl) (T.g_law_draw) (T.kp_law_draw) (T.b_law_draw) pass0 (gae_bor 0 (gae_val gp_int.e gae_nil))) (gg_name 6 sc_law_names.nd))
      (gss_cons (gs_asg (ge_ix (gp_lst (ga_cons gp_int (ga_cons gp_int (ga_cons gp_int (ga_cons gp_int (ga_cons gp_int (ga_cons gp_int (ga_cons gp_int (ga_cons gp_int ga_nil))))))))).e (ge_call (ok_law_draw T) (hr) (by rfl) (T.g_law_draw) (T.kp_law_draw) (T.b_law_draw) pass0 (gae_bor 0 (gae_val gp_int.e gae_nil)))) (gg_name 7 sc_law_names.nd))
      (gss_cons (gs_asg (ge_lst 0 gae_nil) (gg_name 8 sc_law_names.nd))
      (gss_cons (gs_for PassesOwn.never rfl (gi_rng1 (by rfl) T.m_range (gae_val (gx_var 1).p.e gae_nil)) (gg_name 9 sc_law_names.nd) (gss_cons (gs_asg (gp_bin og_add (gp_bin og_add (gp_slice (gx_var 4).p go_none (go_some (gx_var 5).p)) (gx_ix (gx_var 2) (gp_binX og_mod sc_mod (gp_bin og_add (gx_var 6).p (gp_binX og_mulX sc_mulX (gx_var 7) (gx_var 9))).x gp_int.x).x).p) (gp_slice (gx_var 4).p (go_some (gx_var 5).p) go_none)).e (gg_name 10 sc_law_names.nd))
      (gss_cons (gs_if (gt_cmp og_inB sc_in (gx_var 10) (gx_var 3) (by rfl)).e (gss_one (gs_asg (gp_bin og_add gp_str (gx_var 10).p).e (gg_name 10 sc_law_names.nd))) gss_nil)
      (gss_one (gs_expr (ge_append 8 (gx_var 10).p.e))))))
      (gss_one (gs_ret (ge_take 8)))))))))))))
theorem sc_law_based : FnScope ["_law_deck_here", "_law_slot_here", "_law_taken_here", "_law_some", "_law_place", "_law_other"] ["_law_deck_here", "_law_slot_here", "_law_taken_here"] (defScope (top 20)) := ⟨rfl, rfl, rfl, by decide +kernel, rfl, by decide +kernel, by decide +kernel⟩
def b_law_based : SM := (seqS (asgS (nameT 3) (lcE 0 [4] (rngI1 (valE (toE (callP lenD (consX (vX 2) nilX))) nilE)) (nameT 4) yesT (toE (tupP (consA (ofX (vX 4)) (consA (cP (.int 0)) nilA))))))
    (frzS 3 (seqS (ifS (toT (bT (bX gtI (vX 1) (toX (cP (.int 0)))))) (seqS (asgS (nameT 3) (toE (lstP (consA (tupP (consA (negP (toX (cP (.int 1)))) (consA (cP (.int 0)) nilA))) nilA))))
    (forS (rngI1 (valE (toE (callP lenD (consX (vX 2) nilX))) nilE)) (nameT 4) (asgS (nameT 3) (bE0 addL (toE (ofX (vX 3))) (coldE (lcE 0 [5] (rngI1 (valE (toE (callP lenD (consX (ixX (ixX (vX 2) (vX 4)) (toX (cP (.int 3)))) nilX))) nilE)) (nameT 5) yesT (toE (tupP (consA (ofX (vX 4)) (consA (bP addD (ofX (vX 5)) (cP (.int 1))) nilA)))))))))) nilS)
    (retS (ixV 3 (ucall [2, 0] 0 d_law_draw (borE 0 (valE (toE (callP lenD (consX (vX 3) nilX))) nilE))))))))
def d_law_based : FM := runF ["_law_deck_here", "_law_slot_here", "_law_taken_here", "_law_some", "_law_place", "_law_other"] [2, 0, 0] 0 b_law_based
theorem ok_law_based (T : Tx K mg) : FnOk P w K mg base CX0 2 (He.ga K "_law_based") T.fd_law_based ["_law_deck_here", "_law_slot_here", "_law_taken_here"] (SpF K [2, 0, 0] 0 d_law_based) :=
  fnF T.F_law_based sc_law_based rfl fun cdv A outer s H E hr => (show GSs _ _ (defBody (top 20)) b_law_based from
      have hu := huR hr
      (gss_cons (gs_setLc 0 3 (own := [("_law_place", 4)]) rfl sc_law_based.nd (gi_rng1 (by rfl) T.m_range (gae_val (gp_callBX cg_len scc_len (by rfl) T.m_len (by decide +kernel) (gax_cons (gx_var 2) gax_nil)).e gae_nil)) (blkOk_by (by kernel_rfl)) (fun _ _ _ _ _ => (gg_name 4 sc_law_based.nd)) (fun _ _ _ _ _ => gts_nil) (fun _ _ _ _ _ => (gp_tup (ga_cons (gx_var 4).p (ga_cons gp_int ga_nil))).e))
      (gss_frz 3 (gss_cons (gs_if (gt_cmp og_gt sc_gt (gx_var 1) gp_int.x (nomark _)).e (gss_cons (gs_asg (gp_lst (ga_cons (gp_tup (ga_cons (gp_neg gp_int.x) (ga_cons gp_int ga_nil))) ga_nil)).e (gg_name 3 sc_law_based.nd))
      (gss_one (gs_for PassesOwn.never rfl (gi_rng1 (by rfl) T.m_range (gae_val (gp_callBX cg_len scc_len (by rfl) T.m_len (by decide +kernel) (gax_cons (gx_var 2) gax_nil)).e gae_nil)) (gg_name 4 sc_law_based.nd) (gss_one (gs_asg (ge_bin0 og_addL (gx_var 3).p.e (ge_lc 0 (own := [("_law_other", 5)]) rfl sc_law_based.nd (gi_rng1 (by rfl) T.m_range (gae_val (gp_callBX cg_len scc_len (by rfl) T.m_len (by decide +kernel) (gax_cons (gx_ix (gx_ix (gx_var 2) (gx_var 4)) gp_int.x) gax_nil)).e gae_nil)) (blkOk_by (by kernel_rfl)) (fun _ _ _ _ _ => (gg_name 5 sc_law_based.nd)) (fun _ _ _ _ _ => gts_nil) (fun _ _ _ _ _ => (gp_tup (ga_cons (gx_var 4).p (ga_cons (gp_bin og_add (gx_var 5).p gp_int) ga_nil))).e)).cold) (gg_name 3 sc_law_based.nd)))))) gss_nil)
      (gss_one (gs_ret (ge_ixN 3 (ge_call (ok_law_draw T) (hr) (by rfl) (T.g_law_draw) (T.kp_law_draw) (T.b_law_draw) pass0 (gae_bor 0 (gae_val (gp_callBX cg_len scc_len (by rfl) T.m_len (by decide +kernel) (gax_cons (gx_var 3) gax_nil)).e gae_nil))))))))))
theorem sc_law_cut : FnScope ["_law_number", "_law_most"] ["_law_number", "_law_most"] (defScope (top 19)) := ⟨rfl, rfl, rfl, by decide +kernel, rfl, by decide +kernel, by decide +kernel⟩
def b_law_cut : SM := (retS (toE (callP max2D (consX (toX (negP (vX 1))) (consX (toX (callP min2D (consX (vX 1) (consX (vX 0) nilX)))) nilX)))))
def d_law_cut : FM := runF ["_law_number", "_law_most"] [0, 0] 0 b_law_cut
theorem ok_law_cut (T : Tx K mg) : FnOk P w K mg base CX0 1 (He.ga K "_law_cut") T.fd_law_cut ["_law_number", "_law_most"] (SpF K [0, 0] 0 d_law_cut) :=
  fnF T.F_law_cut sc_law_cut rfl fun cdv A outer s H E hr => (show GSs _ _ (defBody (top 19)) b_law_cut from
      have hu := huR hr
      (gss_one (gs_ret (gp_callBX (cg_max2 rfl) scc_max2 (by rfl) T.m_max (by decide +kernel) (gax_cons (gp_neg (gx_var 1)).x (gax_cons (gp_callBX (cg_min2 rfl) scc_min2 (by rfl) T.m_min (by decide +kernel) (gax_cons (gx_var 1) (gax_cons (gx_var 0) gax_nil))).x gax_nil))).e)))
theorem sc_law_great : FnScope ["_law_deck_here", "_law_many", "_law_found"] ["_law_deck_here", "_law_many"] (defScope (top 12)) := ⟨rfl, rfl, rfl, by decide +kernel, rfl, by decide +kernel, by decide +kernel⟩
def b_law_great : SM := (seqS (asgS (nameT 2) (ucall [2, 0] 0 d_law_draw (borE 0 (valE (toE (cP (.int 2000000011))) nilE))))
    (seqS (asgS (nameT 2) (bE0 addD (toE (bX mulX (vX 2) (toX (cP (.int 2000000011))))) (ucall [2, 0] 0 d_law_draw (borE 0 (valE (toE (cP (.int 2000000011))) nilE)))))
    (retS (bE modD (bE0 addD (toE (bX mulX (vX 2) (toX (cP (.int 2000000011))))) (ucall [2, 0] 0 d_law_draw (borE 0 (valE (toE (cP (.int 2000000011))) nilE)))) (toE (ofX (vX 1)))))))
def d_law_great : FM := runF ["_law_deck_here", "_law_many", "_law_found"] [2, 0] 0 b_law_great
theorem ok_law_great (T : Tx K mg) : FnOk P w K mg base CX0 2 (He.ga K "_law_great") T.fd_law_great ["_law_deck_here", "_law_many"] (SpF K [2, 0] 0 d_law_great) :=
  fnF T.F_law_great sc_law_great rfl fun cdv A outer s H E hr => (show GSs _ _ (defBody (top 12)) b_law_great from
      have hu := huR hr
      (gss_cons (gs_asg (ge_call (ok_law_draw T) (hr) (by rfl) (T.g_law_draw) (T.kp_law_draw) (T.b_law_draw) pass0 (gae_bor 0 (gae_val gp_int.e gae_nil))) (gg_name 2 sc_law_great.nd))
      (gss_cons (gs_asg (ge_bin0 og_add (gp_binX og_mulX sc_mulX (gx_var 2) gp_int.x).e (ge_call (ok_law_draw T) (hr) (by rfl) (T.g_law_draw) (T.kp_law_draw) (T.b_law_draw) pass0 (gae_bor 0 (gae_val gp_int.e gae_nil)))) (gg_name 2 sc_law_great.nd))
      (gss_one (gs_ret (ge_bin og_mod sc_mod (ge_bin0 og_add (gp_binX og_mulX sc_mulX (gx_var 2) gp_int.x).e (ge_call (ok_law_draw T) (hr) (by rfl) (T.g_law_draw) (T.kp_law_draw) (T.b_law_draw) pass0 (gae_bor 0 (gae_val gp_int.e gae_nil)))) (gx_var 1).p.e))))))
theorem sc_law_any_test : FnScope ["_law_deck_here", "_law_wide", "_law_taken_here", "_law_slot_here", "_law_number", "_law_place", "_law_other"] ["_law_deck_here", "_law_wide", "_law_taken_here"] (defScope (top 22)) := ⟨rfl, rfl, rfl, by decide +kernel, rfl, by decide +kernel, by decide +kernel⟩
def b_law_any_test : SM := (seqS (asgS (nameT 3) (ixE (coldE (lstE 0 (valE (toE (cP (.int 0))) (valE (ucall [2, 0] 0 d_law_draw (borE 0 (valE (toE (bP addD (ofX (vX 1)) (cP (.int 1)))) nilE))) nilE)))) (bE fdivD (ucall [2, 0] 0 d_law_draw (borE 0 (valE (toE (cP (.int 4))) nilE))) (toE (cP (.int 2))))))
    (seqS (asgS (tupU 2 (consT (nameT 5) (consT (nameT 6) nilT))) (ucall [2, 0, 0] 0 d_law_based (borE 0 (valE (toE (ofX (vX 3))) (valE (toE (ofX (vX 2))) nilE)))))
    (seqS (asgS (nameT 4) (ixE (coldE (lstE 0 (valE (bE subD (ucall [2, 0] 0 d_law_draw (borE 0 (valE (toE (cP (.int 24))) nilE))) (toE (cP (.int 12)))) (valE (bE subD (ucall [2, 0] 0 d_law_great (borE 0 (valE (toE (bP addD (bX mulX (toX (cP (.int 2))) (toX (bX powD (toX (cP (.int 10))) (toX (cP (.int 18)))))) (cP (.int 1)))) nilE))) (toE (bX powD (toX (cP (.int 10))) (toX (cP (.int 18)))))) nilE)))) (bE fdivD (ucall [2, 0] 0 d_law_draw (borE 0 (valE (toE (cP (.int 4))) nilE))) (toE (cP (.int 3))))))
    (seqS (ifS (toT (bT (bX eqD (vX 3) (toX (cP (.int 0)))))) (asgS (nameT 4) (ucall [0, 0] 0 d_law_cut (valE (bE subD (bE0 addD (toE (bX subD (ixX (ixX (vX 2) (toX (negP (toX (cP (.int 1)))))) (toX (cP (.int 0)))) (ixX (ixX (vX 2) (vX 5)) (toX (cP (.int 0)))))) (ucall [2, 0] 0 d_law_draw (borE 0 (valE (toE (cP (.int 14))) nilE)))) (toE (cP (.int 4)))) (valE (toE (bX powD (toX (cP (.int 10))) (toX (cP (.int 9))))) nilE)))) nilS)
    (retS (tupE 0 (valE (toE (ofX (vX 3))) (valE (ixE (toE (lstP (consA (cP (.str (PySem.Str.ofString "<="))) (consA (cP (.str (PySem.Str.ofString ">="))) (consA (cP (.str (PySem.Str.ofString "="))) nilA))))) (ucall [2, 0] 0 d_law_draw (borE 0 (valE (toE (cP (.int 3))) nilE)))) (valE (toE (ofX (vX 5))) (valE (toE (ofX (vX 6))) (valE (toE (ofX (vX 4))) nilE)))))))))))
def d_law_any_test : FM := runF ["_law_deck_here", "_law_wide", "_law_taken_here", "_law_slot_here", "_law_number", "_law_place", "_law_other"] [2, 0, 0] 0 b_law_any_test
theorem ok_law_any_test (T : Tx K mg) : FnOk P w K mg base CX0 3 (He.ga K "_law_any_test") T.fd_law_any_test ["_law_deck_here", "_law_wide", "_law_taken_here"] (SpF K [2, 0, 0] 0 d_law_any_test) :=
  fnF T.F_law_any_test sc_law_any_test rfl fun cdv A outer s H E hr => (show GSs _ _ (defBody (top 22)) b_law_any_test from
      have hu := huR hr
      (gss_cons (gs_asg (ge_ix (ge_lst 0 (gae_val gp_int.e (gae_val (ge_call (ok_law_draw T) (hr.mono (by decide)) (by rfl) (T.g_law_draw) (T.kp_law_draw) (T.b_law_draw) pass0 (gae_bor 0 (gae_val (gp_bin og_add (gx_var 1).p gp_int).e gae_nil))) gae_nil))).cold (ge_bin og_fdiv sc_fdiv (ge_call (ok_law_draw T) (hr.mono (by decide)) (by rfl) (T.g_law_draw) (T.kp_law_draw) (T.b_law_draw) pass0 (gae_bor 0 (gae_val gp_int.e gae_nil))) gp_int.e)) (gg_name 3 sc_law_any_test.nd))
      (gss_cons (gs_asg (ge_call (ok_law_based T) (hr) (by rfl) (T.g_law_based) (T.kp_law_based) (T.b_law_based) pass0 (gae_bor 0 (gae_val (gx_var 3).p.e (gae_val (gx_var 2).p.e gae_nil)))) (gg_tupU rfl (ggs_cons (gg_name 5 sc_law_any_test.nd) (ggs_cons (gg_name 6 sc_law_any_test.nd) ggs_nil))))
      (gss_cons (gs_asg (ge_ix (ge_lst 0 (gae_val (ge_bin og_sub sc_sub (ge_call (ok_law_draw T) (hr.mono (by decide)) (by rfl) (T.g_law_draw) (T.kp_law_draw) (T.b_law_draw) pass0 (gae_bor 0 (gae_val gp_int.e gae_nil))) gp_int.e) (gae_val (ge_bin og_sub sc_sub (ge_call (ok_law_great T) (hr) (by rfl) (T.g_law_great) (T.kp_law_great) (T.b_law_great) pass0 (gae_bor 0 (gae_val (gp_bin og_add (gp_binX og_mulX sc_mulX gp_int.x (gp_binX og_pow sc_pow gp_int.x gp_int.x).x) gp_int).e gae_nil))) (gp_binX og_pow sc_pow gp_int.x gp_int.x).e) gae_nil))).cold (ge_bin og_fdiv sc_fdiv (ge_call (ok_law_draw T) (hr.mono (by decide)) (by rfl) (T.g_law_draw) (T.kp_law_draw) (T.b_law_draw) pass0 (gae_bor 0 (gae_val gp_int.e gae_nil))) gp_int.e)) (gg_name 4 sc_law_any_test.nd))
      (gss_cons (gs_if (gt_cmp (og_eq hu) sc_eq (gx_var 3) gp_int.x (nomark _)).e (gss_one (gs_asg (ge_call (ok_law_cut T) (hr.mono (by decide)) (by rfl) (T.g_law_cut) (T.kp_law_cut) (T.b_law_cut) pass0 (gae_val (ge_bin og_sub sc_sub (ge_bin0 og_add (gp_binX og_sub sc_sub (gx_ix (gx_ix (gx_var 2) (gp_neg gp_int.x).x) gp_int.x) (gx_ix (gx_ix (gx_var 2) (gx_var 5)) gp_int.x)).e (ge_call (ok_law_draw T) (hr.mono (by decide)) (by rfl) (T.g_law_draw) (T.kp_law_draw) (T.b_law_draw) pass0 (gae_bor 0 (gae_val gp_int.e gae_nil)))) gp_int.e) (gae_val (gp_binX og_pow sc_pow gp_int.x gp_int.x).e gae_nil))) (gg_name 4 sc_law_any_test.nd))) gss_nil)
      (gss_one (gs_ret (ge_tup 0 (gae_val (gx_var 3).p.e (gae_val (ge_ix (gp_lst (ga_cons gp_str (ga_cons gp_str (ga_cons gp_str ga_nil)))).e (ge_call (ok_law_draw T) (hr.mono (by decide)) (by rfl) (T.g_law_draw) (T.kp_law_draw) (T.b_law_draw) pass0 (gae_bor 0 (gae_val gp_int.e gae_nil)))) (gae_val (gx_var 5).p.e (gae_val (gx_var 6).p.e (gae_val (gx_var 4).p.e gae_nil)))))))))))))
theorem sc_law_bars : FnScope ["_law_deck_here", "_law_kinds", "_law_taken_here", "_law_found", "_law_k", "_law_kind", "_law_wide", "_law_turn"] ["_law_deck_here", "_law_kinds", "_law_taken_here"] (defScope (top 23)) := ⟨rfl, rfl, rfl, by decide +kernel, rfl, by decide +kernel, by decide +kernel⟩
def b_law_bars : SM := (seqS (asgS (nameT 3) (lstE 0 nilE))
    (seqS (forS (rngI1 (valE (ucall [2, 0] 0 d_law_draw (borE 0 (valE (toE (cP (.int 3))) nilE))) nilE)) (nameT 4) (seqS (asgS (tupU 2 (consT (nameT 5) (consT (nameT 6) nilT))) (ixV 1 (ucall [2, 0] 0 d_law_draw (borE 0 (valE (toE (callP lenD (consX (vX 1) nilX))) nilE)))))
    (dropS (appS 3 (tupE 0 (valE (toE (ofX (vX 5))) (valE (callE tupleD (valE (coldE (lcE 0 [7] (rngI1 (valE (ucall [2, 0] 0 d_law_draw (borE 0 (valE (toE (cP (.int 3))) nilE))) nilE)) (nameT 7) yesT (ucall [2, 0, 0] 0 d_law_any_test (borE 0 (valE (toE (ofX (vX 6))) (valE (toE (ofX (vX 2))) nilE)))))) nilE)) nilE)))))))
    (retS (callE tupleD (valE (frzE 3) nilE)))))
def d_law_bars : FM := runF ["_law_deck_here", "_law_kinds", "_law_taken_here", "_law_found", "_law_k", "_law_kind", "_law_wide", "_law_turn"] [2, 0, 0] 0 b_law_bars
theorem ok_law_bars (T : Tx K mg) : FnOk P w K mg base CX0 4 (He.ga K "_law_bars") T.fd_law_bars ["_law_deck_here", "_law_kinds", "_law_taken_here"] (SpF K [2, 0, 0] 0 d_law_bars) :=
  fnF T.F_law_bars sc_law_bars rfl fun cdv A outer s H E hr => (show GSs _ _ (defBody (top 23)) b_law_bars from
      have hu := huR hr
      (gss_cons (gs_asg (ge_lst 0 gae_nil) (gg_name 3 sc_law_bars.nd))
      (gss_cons (gs_for PassesOwn.never rfl (gi_rng1 (by rfl) T.m_range (gae_val (ge_call (ok_law_draw T) (hr.mono (by decide)) (by rfl) (T.g_law_draw) (T.kp_law_draw) (T.b_law_draw) pass0 (gae_bor 0 (gae_val gp_int.e gae_nil))) gae_nil)) (gg_name 4 sc_law_bars.nd) (gss_cons (gs_asg (ge_ixN 1 (ge_call (ok_law_draw T) (hr.mono (by decide)) (by rfl) (T.g_law_draw) (T.kp_law_draw) (T.b_law_draw) pass0 (gae_bor 0 (gae_val (gp_callBX cg_len scc_len (by rfl) T.m_len (by decide +kernel) (gax_cons (gx_var 1) gax_nil)).e gae_nil)))) (gg_tupU rfl (ggs_cons (gg_name 5 sc_law_bars.nd) (ggs_cons (gg_name 6 sc_law_bars.nd) ggs_nil))))
      (gss_one (gs_expr (ge_append 3 (ge_tup 0 (gae_val (gx_var 5).p.e (gae_val (ge_callTy cg_tuple (by rfl) T.m_tuple (by decide +kernel) (gae_val (ge_lc 0 (own := [("_law_turn", 7)]) rfl sc_law_bars.nd (gi_rng1 (by rfl) T.m_range (gae_val (ge_call (ok_law_draw T) (hr.mono (by decide)) (by rfl) (T.g_law_draw) (T.kp_law_draw) (T.b_law_draw) pass0 (gae_bor 0 (gae_val gp_int.e gae_nil))) gae_nil)) (blkOk_by (by kernel_rfl)) (fun _ _ _ _ _ => (gg_name 7 sc_law_bars.nd)) (fun _ _ _ _ _ => gts_nil) (fun _ _ _ _ _ => (ge_call (ok_law_any_test T) (hr) (by rfl) (T.g_law_any_test) (T.kp_law_any_test) (T.b_law_any_test) pass0 (gae_bor 0 (gae_val (gx_var 6).p.e (gae_val (gx_var 2).p.e gae_nil)))))).cold gae_nil)) gae_nil))))))))
      (gss_one (gs_ret (ge_callTy cg_tuple (by rfl) T.m_tuple (by decide +kernel) (gae_val (ge_frz 3) gae_nil)))))))
theorem sc_law_slot : FnScope ["_law_happening", "_law_slot_here"] ["_law_happening", "_law_slot_here"] (defScope (top 17)) := ⟨rfl, rfl, rfl, by decide +kernel, rfl, by decide +kernel, by decide +kernel⟩
def b_law_slot : SM := (seqS (ifS (toT (bT (bX eqD (vX 1) (toX (cP (.int 0)))))) (retS (toE (ofX (ixX (vX 0) (toX (cP (.int 0))))))) nilS)
    (retS (toE (ofX (ixX (ixX (vX 0) (toX (cP (.int 3)))) (toX (bX subD (vX 1) (toX (cP (.int 1))))))))))
def d_law_slot : FM := runF ["_law_happening", "_law_slot_here"] [0, 0] 0 b_law_slot
theorem ok_law_slot (T : Tx K mg) : FnOk P w K mg base CX0 1 (He.ga K "_law_slot") T.fd_law_slot ["_law_happening", "_law_slot_here"] (SpF K [0, 0] 0 d_law_slot) :=
  fnF T.F_law_slot sc_law_slot rfl fun cdv A outer s H E hr => (show GSs _ _ (defBody (top 17)) b_law_slot from
      have hu := huR hr
      (gss_cons (gs_if (gt_cmp (og_eq hu) sc_eq (gx_var 1) gp_int.x (nomark _)).e (gss_one (gs_ret (gx_ix (gx_var 0) gp_int.x).p.e)) gss_nil)
      (gss_one (gs_ret (gx_ix (gx_ix (gx_var 0) gp_int.x) (gp_binX og_sub sc_sub (gx_var 1) gp_int.x).x).p.e))))
theorem sc_law_asked : FnScope ["_law_test", "_law_taken_here"] ["_law_test", "_law_taken_here"] (defScope (top 18)) := ⟨rfl, rfl, rfl, by decide +kernel, rfl, by decide +kernel, by decide +kernel⟩
def b_law_asked : SM := (seqS (ifS (toT (bT (bX ltI (ixX (vX 0) (toX (cP (.int 2)))) (toX (cP (.int 0)))))) (retS (toE (ofX (ixX (vX 0) (toX (cP (.int 4))))))) nilS)
    (retS (toE (bP addD (pcall d_law_slot (consA (ofX (ixX (vX 1) (ixX (vX 0) (toX (cP (.int 2)))))) (consA (ofX (ixX (vX 0) (toX (cP (.int 3))))) nilA))) (ofX (ixX (vX 0) (toX (cP (.int 4)))))))))
def d_law_asked : FM := runF ["_law_test", "_law_taken_here"] [0, 0] 0 b_law_asked
theorem ok_law_asked (T : Tx K mg) : FnOk P w K mg base CX0 2 (He.ga K "_law_asked") T.fd_law_asked ["_law_test", "_law_taken_here"] (SpF K [0, 0] 0 d_law_asked) :=
  fnF T.F_law_asked sc_law_asked rfl fun cdv A outer s H E hr => (show GSs _ _ (defBody (top 18)) b_law_asked from
      have hu := huR hr
      (gss_cons (gs_if (gt_cmp og_lt sc_lt (gx_ix (gx_var 0) gp_int.x) gp_int.x (nomark _)).e (gss_one (gs_ret (gx_ix (gx_var 0) gp_int.x).p.e)) gss_nil)
      (gss_one (gs_ret (gp_bin og_add (gp_call (n := 2) (ok_law_slot T) (hr) (by rfl) (T.g_law_slot) (T.kp_law_slot) (T.b_law_slot) pass0 (ga_cons (gx_ix (gx_var 1) (gx_ix (gx_var 0) gp_int.x)).p (ga_cons (gx_ix (gx_var 0) gp_int.x).p ga_nil))) (gx_ix (gx_var 0) gp_int.x).p).e))))
theorem sc_law_true_test : FnScope ["_law_deck_here", "_law_own", "_law_taken_here", "_law_slots", "_law_slot_here", "_law_most", "_law_number", "_law_way", "_law_slack", "_law_place", "_law_other", "_law_k"] ["_law_deck_here", "_law_own", "_law_taken_here"] (defScope (top 21)) := ⟨rfl, rfl, rfl, by decide +kernel, rfl, by decide +kernel, by decide +kernel⟩
def b_law_true_test : SM := (seqS (asgS (nameT 3) (bE0 addL (toE (bP mulL (lstP (consA (cP (.int 0)) nilA)) (callP intD (consX (toX (bX neD (vX 2) (toX (lstP nilA)))) nilX)))) (coldE (lcE 0 [11] (rngI1 (valE (toE (callP lenD (consX (ixX (vX 1) (toX (cP (.int 3)))) nilX))) nilE)) (nameT 11) yesT (toE (bP addD (ofX (vX 11)) (cP (.int 1))))))))
    (seqS (ifS (toT (bT (bX eqD (vX 3) (toX (lstP nilA))))) (retS (toE (lstP nilA))) nilS)
    (seqS (asgS (nameT 4) (ixV 3 (ucall [2, 0] 0 d_law_draw (borE 0 (valE (toE (callP lenD (consX (vX 3) nilX))) nilE)))))
    (seqS (asgS (nameT 5) (toE (ofX (ixX (toX (lstP (consA (bX powD (toX (cP (.int 10))) (toX (cP (.int 18)))) (consA (bX powD (toX (cP (.int 10))) (toX (cP (.int 9)))) nilA)))) (toX (callP intD (consX (toX (bX eqD (vX 4) (toX (cP (.int 0))))) nilX)))))))
    (seqS (asgS (tupU 2 (consT (nameT 9) (consT (nameT 10) nilT))) (ucall [2, 0, 0] 0 d_law_based (borE 0 (valE (toE (ofX (vX 4))) (valE (toE (ofX (vX 2))) nilE)))))
    (seqS (asgS (nameT 6) (toE (bX subD (toX (pcall d_law_slot (consA (ofX (vX 1)) (consA (ofX (vX 4)) nilA)))) (toX (pcall d_law_asked (consA (tupP (consA (ofX (vX 4)) (consA (cP (.str (PySem.Str.ofString "="))) (consA (ofX (vX 9)) (consA (ofX (vX 10)) (consA (cP (.int 0)) nilA)))))) (consA (ofX (vX 2)) nilA)))))))
    (seqS (asgS (nameT 7) (ucall [2, 0] 0 d_law_draw (borE 0 (valE (toE (cP (.int 3))) nilE))))
    (seqS (ifS (toT (bT (bX gtI (toX (callP absD (consX (vX 6) nilX))) (vX 5)))) (asgS (tupU 3 (consT (nameT 9) (consT (nameT 10) (consT (nameT 6) nilT)))) (toE (lstP (consA (negP (toX (cP (.int 1)))) (consA (cP (.int 0)) (consA (pcall d_law_slot (consA (ofX (vX 1)) (consA (ofX (vX 4)) nilA))) nilA)))))) nilS)
    (seqS (asgS (nameT 8) (ixE (coldE (lstE 0 (valE (ucall [2, 0] 0 d_law_draw (borE 0 (valE (toE (cP (.int 4))) nilE))) (valE (ucall [2, 0] 0 d_law_draw (borE 0 (valE (toE (cP (.int 1000000000))) nilE))) nilE)))) (ucall [2, 0] 0 d_law_draw (borE 0 (valE (toE (cP (.int 2))) nilE)))))
    (seqS (asgS (nameT 6) (toE (pcall d_law_cut (consA (bP addD (ofX (vX 6)) (ofX (ixX (toX (lstP (consA (ofX (vX 8)) (consA (negP (vX 8)) (consA (cP (.int 0)) nilA))))) (vX 7)))) (consA (ofX (vX 5)) nilA)))))
    (retS (toE (lstP (consA (tupP (consA (ofX (vX 4)) (consA (ofX (ixX (toX (lstP (consA (cP (.str (PySem.Str.ofString "<="))) (consA (cP (.str (PySem.Str.ofString ">="))) (consA (cP (.str (PySem.Str.ofString "="))) nilA))))) (vX 7))) (consA (ofX (vX 9)) (consA (ofX (vX 10)) (consA (ofX (vX 6)) nilA)))))) nilA))))))))))))))
def d_law_true_test : FM := runF ["_law_deck_here", "_law_own", "_law_taken_here", "_law_slots", "_law_slot_here", "_law_most", "_law_number", "_law_way", "_law_slack", "_law_place", "_law_other", "_law_k"] [2, 0, 0] 0 b_law_true_test
theorem ok_law_true_test (T : Tx K mg) : FnOk P w K mg base CX0 3 (He.ga K "_law_true_test") T.fd_law_true_test ["_law_deck_here", "_law_own", "_law_taken_here"] (SpF K [2, 0, 0] 0 d_law_true_test) :=
  fnF T.F_law_true_test sc_law_true_test rfl fun cdv A outer s H E hr => (show GSs _ _ (defBody (top 21)) b_law_true_test from
      have hu := huR hr
      (gss_cons (gs_asg (ge_bin0 og_addL (gp_bin og_mulL (gp_lst (ga_cons gp_int ga_nil)) (gp_callTyX cg_int scc_int (by rfl) T.m_int (by decide +kernel) (gax_cons (gp_cmp (og_ne hu) sc_ne (gx_var 2) (gp_lst ga_nil).x (nomark _)).x gax_nil))).e (ge_lc 0 (own := [("_law_k", 11)]) rfl sc_law_true_test.nd (gi_rng1 (by rfl) T.m_range (gae_val (gp_callBX cg_len scc_len (by rfl) T.m_len (by decide +kernel) (gax_cons (gx_ix (gx_var 1) gp_int.x) gax_nil)).e gae_nil)) (blkOk_by (by kernel_rfl)) (fun _ _ _ _ _ => (gg_name 11 sc_law_true_test.nd)) (fun _ _ _ _ _ => gts_nil) (fun _ _ _ _ _ => (gp_bin og_add (gx_var 11).p gp_int).e)).cold) (gg_name 3 sc_law_true_test.nd))
      (gss_cons (gs_if (gt_cmp (og_eq hu) sc_eq (gx_var 3) (gp_lst ga_nil).x (nomark _)).e (gss_one (gs_ret (gp_lst ga_nil).e)) gss_nil)
      (gss_cons (gs_asg (ge_ixN 3 (ge_call (ok_law_draw T) (hr.mono (by decide)) (by rfl) (T.g_law_draw) (T.kp_law_draw) (T.b_law_draw) pass0 (gae_bor 0 (gae_val (gp_callBX cg_len scc_len (by rfl) T.m_len (by decide +kernel) (gax_cons (gx_var 3) gax_nil)).e gae_nil)))) (gg_name 4 sc_law_true_test.nd))
      (gss_cons (gs_asg (gx_ix (gp_lst (ga_cons (gp_binX og_pow sc_pow gp_int.x gp_int.x) (ga_cons (gp_binX og_pow sc_pow gp_int.x gp_int.x) ga_nil))).x (gp_callTyX cg_int scc_int (by rfl) T.m_int (by decide +kernel) (gax_cons (gp_cmp (og_eq hu) sc_eq (gx_var 4) gp_int.x (nomark _)).x gax_nil)).x).p.e (gg_name 5 sc_law_true_test.nd))
      (gss_cons (gs_asg (ge_call (ok_law_based T) (hr) (by rfl) (T.g_law_based) (T.kp_law_based) (T.b_law_based) pass0 (gae_bor 0 (gae_val (gx_var 4).p.e (gae_val (gx_var 2).p.e gae_nil)))) (gg_tupU rfl (ggs_cons (gg_name 9 sc_law_true_test.nd) (ggs_cons (gg_name 10 sc_law_true_test.nd) ggs_nil))))
      (gss_cons (gs_asg (gp_binX og_sub sc_sub (gp_call (n := 2) (ok_law_slot T) (hr.mono (by decide)) (by rfl) (T.g_law_slot) (T.kp_law_slot) (T.b_law_slot) pass0 (ga_cons (gx_var 1).p (ga_cons (gx_var 4).p ga_nil))).x (gp_call (n := 2) (ok_law_asked T) (hr) (by rfl) (T.g_law_asked) (T.kp_law_asked) (T.b_law_asked) pass0 (ga_cons (gp_tup (ga_cons (gx_var 4).p (ga_cons gp_str (ga_cons (gx_var 9).p (ga_cons (gx_var 10).p (ga_cons gp_int ga_nil)))))) (ga_cons (gx_var 2).p ga_nil))).x).e (gg_name 6 sc_law_true_test.nd))
      (gss_cons (gs_asg (ge_call (ok_law_draw T) (hr.mono (by decide)) (by rfl) (T.g_law_draw) (T.kp_law_draw) (T.b_law_draw) pass0 (gae_bor 0 (gae_val gp_int.e gae_nil))) (gg_name 7 sc_law_true_test.nd))
      (gss_cons (gs_if (gt_cmp og_gt sc_gt (gp_callBX cg_abs scc_abs (by rfl) T.m_abs (by decide +kernel) (gax_cons (gx_var 6) gax_nil)).x (gx_var 5) (nomark _)).e (gss_one (gs_asg (gp_lst (ga_cons (gp_neg gp_int.x) (ga_cons gp_int (ga_cons (gp_call (n := 2) (ok_law_slot T) (hr.mono (by decide)) (by rfl) (T.g_law_slot) (T.kp_law_slot) (T.b_law_slot) pass0 (ga_cons (gx_var 1).p (ga_cons (gx_var 4).p ga_nil))) ga_nil)))).e (gg_tupU rfl (ggs_cons (gg_name 9 sc_law_true_test.nd) (ggs_cons (gg_name 10 sc_law_true_test.nd) (ggs_cons (gg_name 6 sc_law_true_test.nd) ggs_nil)))))) gss_nil)
      (gss_cons (gs_asg (ge_ix (ge_lst 0 (gae_val (ge_call (ok_law_draw T) (hr.mono (by decide)) (by rfl) (T.g_law_draw) (T.kp_law_draw) (T.b_law_draw) pass0 (gae_bor 0 (gae_val gp_int.e gae_nil))) (gae_val (ge_call (ok_law_draw T) (hr.mono (by decide)) (by rfl) (T.g_law_draw) (T.kp_law_draw) (T.b_law_draw) pass0 (gae_bor 0 (gae_val gp_int.e gae_nil))) gae_nil))).cold (ge_call (ok_law_draw T) (hr.mono (by decide)) (by rfl) (T.g_law_draw) (T.kp_law_draw) (T.b_law_draw) pass0 (gae_bor 0 (gae_val gp_int.e gae_nil)))) (gg_name 8 sc_law_true_test.nd))
      (gss_cons (gs_asg (gp_call (n := 2) (ok_law_cut T) (hr.mono (by decide)) (by rfl) (T.g_law_cut) (T.kp_law_cut) (T.b_law_cut) pass0 (ga_cons (gp_bin og_add (gx_var 6).p (gx_ix (gp_lst (ga_cons (gx_var 8).p (ga_cons (gp_neg (gx_var 8)) (ga_cons gp_int ga_nil)))).x (gx_var 7)).p) (ga_cons (gx_var 5).p ga_nil))).e (gg_name 6 sc_law_true_test.nd))
      (gss_one (gs_ret (gp_lst (ga_cons (gp_tup (ga_cons (gx_var 4).p (ga_cons (gx_ix (gp_lst (ga_cons gp_str (ga_cons gp_str (ga_cons gp_str ga_nil)))).x (gx_var 7)).p (ga_cons (gx_var 9).p (ga_cons (gx_var 10).p (ga_cons (gx_var 6).p ga_nil)))))) ga_nil)).e)))))))))))))
theorem sc_law_road : FnScope ["_law_deck_here", "_law_kinds", "_law_taken_here", "_law_keyed", "_law_clauses", "_law_behind", "_law_span", "_law_tails", "_law_k", "_law_happening", "_law_tests", "_law_turn", "_law_bars_here", "_law_length", "_law_kind", "_law_wide"] ["_law_deck_here", "_law_kinds", "_law_taken_here", "_law_keyed"] (defScope (top 24)) := ⟨rfl, rfl, rfl, by decide +kernel, rfl, by decide +kernel, by decide +kernel⟩
def b_law_road : SM := (seqS (asgS (nameT 4) (lstE 0 nilE))
    (seqS (asgS (nameT 5) (toE (bX subD (ixX (ixX (vX 2) (toX (negP (toX (cP (.int 1)))))) (toX (cP (.int 0)))) (ixX (ixX (vX 2) (toX (cP (.int 0)))) (toX (cP (.int 0)))))))
    (seqS (asgS (nameT 6) (ixE (coldE (lstE 0 (valE (toE (cP .non)) (valE (bE0 addD (toE (ofX (vX 5))) (ucall [2, 0] 0 d_law_draw (borE 0 (valE (toE (cP (.int 5))) nilE)))) nilE)))) (ucall [2, 0] 0 d_law_draw (borE 0 (valE (toE (cP (.int 2))) nilE)))))
    (seqS (forS (enumI (valE (toE (ofX (vX 2))) nilE)) (tupU 2 (consT (nameT 8) (consT (nameT 9) nilT))) (seqS (asgS (nameT 10) (toE (lstP nilA)))
    (seqS (forS (rngI1 (valE (ucall [2, 0] 0 d_law_draw (borE 0 (valE (toE (cP (.int 3))) nilE))) nilE)) (nameT 11) (asgS (nameT 10) (bE0 addL (toE (ofX (vX 10))) (ucall [2, 0, 0] 0 d_law_true_test (borE 0 (valE (toE (ofX (vX 9))) (valE (toE (slP (ofX (vX 2)) noO (someO (ofX (vX 8))))) nilE)))))))
    (seqS (asgS (nameT 12) (toE (tupP nilA)))
    (seqS (ifS (toT (andT (bT (bX gtI (vX 8) (toX (cP (.int 0))))) (bT (bX isntD (vX 6) (toX (cP .non)))))) (asgS (nameT 12) (ucall [2, 0, 0] 0 d_law_bars (borE 0 (valE (toE (ofX (vX 1))) (valE (toE (slP (ofX (vX 2)) noO (someO (ofX (vX 8))))) nilE))))) nilS)
    (dropS (appS 4 (toE (tupP (consA (ofX (vX 12)) (consA (ofX (ixX (vX 9) (toX (cP (.int 1))))) (consA (callP tupleD (consA (ofX (vX 10)) nilA)) (consA (andP (ofX (vX 3)) (bX gtI (vX 8) (toX (cP (.int 0))))) (consA (callP lenD (consX (ixX (vX 9) (toX (cP (.int 3)))) nilX)) nilA))))))))))))))
    (seqS (asgS (nameT 7) (lstE 0 nilE))
    (seqS (forS (rngI1 (valE (ucall [2, 0] 0 d_law_draw (borE 0 (valE (toE (cP (.int 3))) nilE))) nilE)) (nameT 8) (seqS (asgS (tupU 2 (consT (nameT 14) (consT (nameT 15) nilT))) (ixV 1 (ucall [2, 0] 0 d_law_draw (borE 0 (valE (toE (callP lenD (consX (vX 1) nilX))) nilE)))))
    (seqS (asgS (nameT 13) (bE0 addD (toE (cP (.int 1))) (ucall [2, 0] 0 d_law_draw (borE 0 (valE (ixE (toE (lstP (consA (cP (.int 8)) (consA (cP (.int 1000000000)) nilA)))) (bE fdivD (ucall [2, 0] 0 d_law_draw (borE 0 (valE (toE (cP (.int 4))) nilE))) (toE (cP (.int 3))))) nilE)))))
    (seqS (asgS (nameT 10) (lcE 0 [11] (rngI1 (valE (ucall [2, 0] 0 d_law_draw (borE 0 (valE (toE (cP (.int 4))) nilE))) nilE)) (nameT 11) yesT (ucall [2, 0, 0] 0 d_law_any_test (borE 0 (valE (toE (ofX (vX 15))) (valE (toE (ofX (vX 2))) nilE))))))
    (frzS 10 (dropS (appS 7 (toE (tupP (consA (ofX (vX 14)) (consA (ofX (vX 13)) (consA (callP tupleD (consA (ofX (vX 10)) nilA)) (consA (ofX (vX 15)) nilA)))))))))))))
    (retS (tupE 0 (valE (callE tupleD (valE (frzE 4) nilE)) (valE (toE (ofX (vX 6))) (valE (callE tupleD (valE (frzE 7) nilE)) (valE (toE (ofX (vX 3))) nilE))))))))))))
def d_law_road : FM := runF ["_law_deck_here", "_law_kinds", "_law_taken_here", "_law_keyed", "_law_clauses", "_law_behind", "_law_span", "_law_tails", "_law_k", "_law_happening", "_law_tests", "_law_turn", "_law_bars_here", "_law_length", "_law_kind", "_law_wide"] [2, 0, 0, 0] 0 b_law_road
theorem ok_law_road (T : Tx K mg) : FnOk P w K mg base CX0 5 (He.ga K "_law_road") T.fd_law_road ["_law_deck_here", "_law_kinds", "_law_taken_here", "_law_keyed"] (SpF K [2, 0, 0, 0] 0 d_law_road) :=
  fnF T.F_law_road sc_law_road rfl fun cdv A outer s H E hr => (show GSs _ _ (defBody (top 24)) b_law_road from
      have hu := huR hr
      (gss_cons (gs_asg (ge_lst 0 gae_nil) (gg_name 4 sc_law_road.nd))
      (gss_cons (gs_asg (gp_binX og_sub sc_sub (gx_ix (gx_ix (gx_var 2) (gp_neg gp_int.x).x) gp_int.x) (gx_ix (gx_ix (gx_var 2) gp_int.x) gp_int.x)).e (gg_name 5 sc_law_road.nd))
      (gss_cons (gs_asg (ge_ix (ge_lst 0 (gae_val gp_non.e (gae_val (ge_bin0 og_add (gx_var 5).p.e (ge_call (ok_law_draw T) (hr.mono (by decide)) (by rfl) (T.g_law_draw) (T.kp_law_draw) (T.b_law_draw) pass0 (gae_bor 0 (gae_val gp_int.e gae_nil)))) gae_nil))).cold (ge_call (ok_law_draw T) (hr.mono (by decide)) (by rfl) (T.g_law_draw) (T.kp_law_draw) (T.b_law_draw) pass0 (gae_bor 0 (gae_val gp_int.e gae_nil)))) (gg_name 6 sc_law_road.nd))
      (gss_cons (gs_for PassesOwn.never rfl (gi_enumA (by rfl) T.m_enumerate (gae_val (gx_var 2).p.e gae_nil)) (gg_tupU rfl (ggs_cons (gg_name 8 sc_law_road.nd) (ggs_cons (gg_name 9 sc_law_road.nd) ggs_nil))) (gss_cons (gs_asg (gp_lst ga_nil).e (gg_name 10 sc_law_road.nd))
      (gss_cons (gs_for PassesOwn.never rfl (gi_rng1 (by rfl) T.m_range (gae_val (ge_call (ok_law_draw T) (hr.mono (by decide)) (by rfl) (T.g_law_draw) (T.kp_law_draw) (T.b_law_draw) pass0 (gae_bor 0 (gae_val gp_int.e gae_nil))) gae_nil)) (gg_name 11 sc_law_road.nd) (gss_one (gs_asg (ge_bin0 og_addL (gx_var 10).p.e (ge_call (ok_law_true_test T) (hr.mono (by decide)) (by rfl) (T.g_law_true_test) (T.kp_law_true_test) (T.b_law_true_test) pass0 (gae_bor 0 (gae_val (gx_var 9).p.e (gae_val (gp_slice (gx_var 2).p go_none (go_some (gx_var 8).p)).e gae_nil))))) (gg_name 10 sc_law_road.nd))))
      (gss_cons (gs_asg (gp_tup ga_nil).e (gg_name 12 sc_law_road.nd))
      (gss_cons (gs_if (GW.gt (gw_and (gt_cmp og_gt sc_gt (gx_var 8) gp_int.x (nomark _)) (gw_and1 (gt_cmp og_isnt sc_isnt (gx_var 6) gp_non.x (nomark _))))).e (gss_one (gs_asg (ge_call (ok_law_bars T) (hr) (by rfl) (T.g_law_bars) (T.kp_law_bars) (T.b_law_bars) pass0 (gae_bor 0 (gae_val (gx_var 1).p.e (gae_val (gp_slice (gx_var 2).p go_none (go_some (gx_var 8).p)).e gae_nil)))) (gg_name 12 sc_law_road.nd))) gss_nil)
      (gss_one (gs_expr (ge_append 4 (gp_tup (ga_cons (gx_var 12).p (ga_cons (gx_ix (gx_var 9) gp_int.x).p (ga_cons (gp_callTy cg_tuple (by rfl) T.m_tuple (by decide +kernel) (ga_cons (gx_var 10).p ga_nil)) (ga_cons (gp_and (gx_var 3).p (gp_one (gp_cmp og_gt sc_gt (gx_var 8) gp_int.x (nomark _)))) (ga_cons (gp_callBX cg_len scc_len (by rfl) T.m_len (by decide +kernel) (gax_cons (gx_ix (gx_var 9) gp_int.x) gax_nil)) ga_nil)))))).e))))))))
      (gss_cons (gs_asg (ge_lst 0 gae_nil) (gg_name 7 sc_law_road.nd))
      (gss_cons (gs_for PassesOwn.never rfl (gi_rng1 (by rfl) T.m_range (gae_val (ge_call (ok_law_draw T) (hr.mono (by decide)) (by rfl) (T.g_law_draw) (T.kp_law_draw) (T.b_law_draw) pass0 (gae_bor 0 (gae_val gp_int.e gae_nil))) gae_nil)) (gg_name 8 sc_law_road.nd) (gss_cons (gs_asg (ge_ixN 1 (ge_call (ok_law_draw T) (hr.mono (by decide)) (by rfl) (T.g_law_draw) (T.kp_law_draw) (T.b_law_draw) pass0 (gae_bor 0 (gae_val (gp_callBX cg_len scc_len (by rfl) T.m_len (by decide +kernel) (gax_cons (gx_var 1) gax_nil)).e gae_nil)))) (gg_tupU rfl (ggs_cons (gg_name 14 sc_law_road.nd) (ggs_cons (gg_name 15 sc_law_road.nd) ggs_nil))))
      (gss_cons (gs_asg (ge_bin0 og_add gp_int.e (ge_call (ok_law_draw T) (hr.mono (by decide)) (by rfl) (T.g_law_draw) (T.kp_law_draw) (T.b_law_draw) pass0 (gae_bor 0 (gae_val (ge_ix (gp_lst (ga_cons gp_int (ga_cons gp_int ga_nil))).e (ge_bin og_fdiv sc_fdiv (ge_call (ok_law_draw T) (hr.mono (by decide)) (by rfl) (T.g_law_draw) (T.kp_law_draw) (T.b_law_draw) pass0 (gae_bor 0 (gae_val gp_int.e gae_nil))) gp_int.e)) gae_nil)))) (gg_name 13 sc_law_road.nd))
      (gss_cons (gs_setLc 0 10 (own := [("_law_turn", 11)]) rfl sc_law_road.nd (gi_rng1 (by rfl) T.m_range (gae_val (ge_call (ok_law_draw T) (hr.mono (by decide)) (by rfl) (T.g_law_draw) (T.kp_law_draw) (T.b_law_draw) pass0 (gae_bor 0 (gae_val gp_int.e gae_nil))) gae_nil)) (blkOk_by (by kernel_rfl)) (fun _ _ _ _ _ => (gg_name 11 sc_law_road.nd)) (fun _ _ _ _ _ => gts_nil) (fun _ _ _ _ _ => (ge_call (ok_law_any_test T) (hr.mono (by decide)) (by rfl) (T.g_law_any_test) (T.kp_law_any_test) (T.b_law_any_test) pass0 (gae_bor 0 (gae_val (gx_var 15).p.e (gae_val (gx_var 2).p.e gae_nil))))))
      (gss_frz 10 (gss_one (gs_expr (ge_append 7 (gp_tup (ga_cons (gx_var 14).p (ga_cons (gx_var 13).p (ga_cons (gp_callTy cg_tuple (by rfl) T.m_tuple (by decide +kernel) (ga_cons (gx_var 10).p ga_nil)) (ga_cons (gx_var 15).p ga_nil))))).e))))))))
      (gss_one (gs_ret (ge_tup 0 (gae_val (ge_callTy cg_tuple (by rfl) T.m_tuple (by decide +kernel) (gae_val (ge_frz 4) gae_nil)) (gae_val (gx_var 6).p.e (gae_val (ge_callTy cg_tuple (by rfl) T.m_tuple (by decide +kernel) (gae_val (ge_frz 7) gae_nil)) (gae_val (gx_var 3).p.e gae_nil))))))))))))))
theorem sc_law_moments : FnScope ["_law_deck_here", "_law_count", "_law_gaps", "_law_room", "_law_first", "_law_found", "_law_gap", "_law_k"] ["_law_deck_here", "_law_count"] (defScope (top 14)) := ⟨rfl, rfl, rfl, by decide +kernel, rfl, by decide +kernel, by decide +kernel⟩
def b_law_moments : SM := (seqS (asgS (nameT 2) (lcE 0 [7] (rngI1 (valE (toE (bX subD (vX 1) (toX (cP (.int 1))))) nilE)) (nameT 7) yesT (bE0 addD (toE (cP (.int 1))) (ucall [2, 0] 0 d_law_draw (borE 0 (valE (ixE (toE (lstP (consA (cP (.int 4)) (consA (cP (.int 200000000)) nilA)))) (bE fdivD (ucall [2, 0] 0 d_law_draw (borE 0 (valE (toE (cP (.int 4))) nilE))) (toE (cP (.int 3))))) nilE))))))
    (frzS 2 (seqS (asgS (nameT 3) (toE (bX subD (toX (bX powD (toX (cP (.int 10))) (toX (cP (.int 18))))) (toX (callP sumD (consX (vX 2) nilX))))))
    (seqS (asgS (nameT 4) (ixE (coldE (lstE 0 (valE (ucall [2, 0] 0 d_law_draw (borE 0 (valE (toE (cP (.int 60))) nilE))) (valE (ucall [2, 0] 0 d_law_great (borE 0 (valE (toE (bP addD (ofX (vX 3)) (cP (.int 1)))) nilE))) (valE (bE subD (toE (ofX (vX 3))) (ucall [2, 0] 0 d_law_draw (borE 0 (valE (toE (cP (.int 30))) nilE)))) nilE))))) (ucall [2, 0] 0 d_law_draw (borE 0 (valE (toE (cP (.int 3))) nilE)))))
    (seqS (asgS (nameT 5) (lstE 0 (valE (toE (ofX (vX 4))) nilE)))
    (seqS (forS (seqI (coldE (toE (ofX (vX 2))))) (nameT 6) (dropS (appS 5 (toE (bP addD (ofX (ixX (vX 5) (toX (negP (toX (cP (.int 1))))))) (ofX (vX 6)))))))
    (retS (takeE 5))))))))
def d_law_moments : FM := runF ["_law_deck_here", "_law_count", "_law_gaps", "_law_room", "_law_first", "_law_found", "_law_gap", "_law_k"] [2, 0] 0 b_law_moments
theorem ok_law_moments (T : Tx K mg) : FnOk P w K mg base CX0 3 (He.ga K "_law_moments") T.fd_law_moments ["_law_deck_here", "_law_count"] (SpF K [2, 0] 0 d_law_moments) :=
  fnF T.F_law_moments sc_law_moments rfl fun cdv A outer s H E hr => (show GSs _ _ (defBody (top 14)) b_law_moments from
      have hu := huR hr
      (gss_cons (gs_setLc 0 2 (own := [("_law_k", 7)]) rfl sc_law_moments.nd (gi_rng1 (by rfl) T.m_range (gae_val (gp_binX og_sub sc_sub (gx_var 1) gp_int.x).e gae_nil)) (blkOk_by (by kernel_rfl)) (fun _ _ _ _ _ => (gg_name 7 sc_law_moments.nd)) (fun _ _ _ _ _ => gts_nil) (fun _ _ _ _ _ => (ge_bin0 og_add gp_int.e (ge_call (ok_law_draw T) (hr.mono (by decide)) (by rfl) (T.g_law_draw) (T.kp_law_draw) (T.b_law_draw) pass0 (gae_bor 0 (gae_val (ge_ix (gp_lst (ga_cons gp_int (ga_cons gp_int ga_nil))).e (ge_bin og_fdiv sc_fdiv (ge_call (ok_law_draw T) (hr.mono (by decide)) (by rfl) (T.g_law_draw) (T.kp_law_draw) (T.b_law_draw) pass0 (gae_bor 0 (gae_val gp_int.e gae_nil))) gp_int.e)) gae_nil))))))
      (gss_frz 2 (gss_cons (gs_asg (gp_binX og_sub sc_sub (gp_binX og_pow sc_pow gp_int.x gp_int.x).x (gp_callBX (cg_sum rfl) scc_sum (by rfl) T.m_sum (by decide +kernel) (gax_cons (gx_var 2) gax_nil)).x).e (gg_name 3 sc_law_moments.nd))
      (gss_cons (gs_asg (ge_ix (ge_lst 0 (gae_val (ge_call (ok_law_draw T) (hr.mono (by decide)) (by rfl) (T.g_law_draw) (T.kp_law_draw) (T.b_law_draw) pass0 (gae_bor 0 (gae_val gp_int.e gae_nil))) (gae_val (ge_call (ok_law_great T) (hr) (by rfl) (T.g_law_great) (T.kp_law_great) (T.b_law_great) pass0 (gae_bor 0 (gae_val (gp_bin og_add (gx_var 3).p gp_int).e gae_nil))) (gae_val (ge_bin og_sub sc_sub (gx_var 3).p.e (ge_call (ok_law_draw T) (hr.mono (by decide)) (by rfl) (T.g_law_draw) (T.kp_law_draw) (T.b_law_draw) pass0 (gae_bor 0 (gae_val gp_int.e gae_nil)))) gae_nil)))).cold (ge_call (ok_law_draw T) (hr.mono (by decide)) (by rfl) (T.g_law_draw) (T.kp_law_draw) (T.b_law_draw) pass0 (gae_bor 0 (gae_val gp_int.e gae_nil)))) (gg_name 4 sc_law_moments.nd))
      (gss_cons (gs_asg (ge_lst 0 (gae_val (gx_var 4).p.e gae_nil)) (gg_name 5 sc_law_moments.nd))
      (gss_cons (gs_for PassesOwn.never rfl (gi_seq0 (gx_var 2).p.e) (gg_name 6 sc_law_moments.nd) (gss_one (gs_expr (ge_append 5 (gp_bin og_add (gx_ix (gx_var 5) (gp_neg gp_int.x).x).p (gx_var 6).p).e))))
      (gss_one (gs_ret (ge_take 5))))))))))
theorem sc_law_worth : FnScope ["_law_deck_here", "_law_way"] ["_law_deck_here"] (defScope (top 15)) := ⟨rfl, rfl, rfl, by decide +kernel, rfl, by decide +kernel, by decide +kernel⟩
def b_law_worth : SM := (seqS (asgS (nameT 1) (ucall [2, 0] 0 d_law_draw (borE 0 (valE (toE (cP (.int 8))) nilE))))
    (seqS (ifS (toT (bT (bX ltI (vX 1) (toX (cP (.int 5)))))) (retS (bE subD (ucall [2, 0] 0 d_law_draw (borE 0 (valE (toE (cP (.int 41))) nilE))) (toE (cP (.int 20))))) nilS)
    (seqS (ifS (toT (bT (bX ltI (vX 1) (toX (cP (.int 7)))))) (retS (bE subD (ucall [2, 0] 0 d_law_great (borE 0 (valE (toE (bP addD (bX mulX (toX (cP (.int 2))) (toX (bX powD (toX (cP (.int 10))) (toX (cP (.int 18)))))) (cP (.int 1)))) nilE))) (toE (bX powD (toX (cP (.int 10))) (toX (cP (.int 18))))))) nilS)
    (retS (ixE (toE (lstP (consA (bX powD (toX (cP (.int 10))) (toX (cP (.int 18)))) (consA (negP (toX (bX powD (toX (cP (.int 10))) (toX (cP (.int 18)))))) nilA)))) (ucall [2, 0] 0 d_law_draw (borE 0 (valE (toE (cP (.int 2))) nilE))))))))
def d_law_worth : FM := runF ["_law_deck_here", "_law_way"] [2] 0 b_law_worth
theorem ok_law_worth (T : Tx K mg) : FnOk P w K mg base CX0 3 (He.ga K "_law_worth") T.fd_law_worth ["_law_deck_here"] (SpF K [2] 0 d_law_worth) :=
  fnF T.F_law_worth sc_law_worth rfl fun cdv A outer s H E hr => (show GSs _ _ (defBody (top 15)) b_law_worth from
      have hu := huR hr
      (gss_cons (gs_asg (ge_call (ok_law_draw T) (hr.mono (by decide)) (by rfl) (T.g_law_draw) (T.kp_law_draw) (T.b_law_draw) pass0 (gae_bor 0 (gae_val gp_int.e gae_nil))) (gg_name 1 sc_law_worth.nd))
      (gss_cons (gs_if (gt_cmp og_lt sc_lt (gx_var 1) gp_int.x (nomark _)).e (gss_one (gs_ret (ge_bin og_sub sc_sub (ge_call (ok_law_draw T) (hr.mono (by decide)) (by rfl) (T.g_law_draw) (T.kp_law_draw) (T.b_law_draw) pass0 (gae_bor 0 (gae_val gp_int.e gae_nil))) gp_int.e))) gss_nil)
      (gss_cons (gs_if (gt_cmp og_lt sc_lt (gx_var 1) gp_int.x (nomark _)).e (gss_one (gs_ret (ge_bin og_sub sc_sub (ge_call (ok_law_great T) (hr) (by rfl) (T.g_law_great) (T.kp_law_great) (T.b_law_great) pass0 (gae_bor 0 (gae_val (gp_bin og_add (gp_binX og_mulX sc_mulX gp_int.x (gp_binX og_pow sc_pow gp_int.x gp_int.x).x) gp_int).e gae_nil))) (gp_binX og_pow sc_pow gp_int.x gp_int.x).e))) gss_nil)
      (gss_one (gs_ret (ge_ix (gp_lst (ga_cons (gp_binX og_pow sc_pow gp_int.x gp_int.x) (ga_cons (gp_neg (gp_binX og_pow sc_pow gp_int.x gp_int.x).x) ga_nil))).e (ge_call (ok_law_draw T) (hr.mono (by decide)) (by rfl) (T.g_law_draw) (T.kp_law_draw) (T.b_law_draw) pass0 (gae_bor 0 (gae_val gp_int.e gae_nil))))))))))
theorem sc_law_taken : FnScope ["_law_deck_here", "_law_kinds", "_law_count", "_law_keyed", "_law_keys", "_law_found", "_law_moment", "_law_key", "_law_kind", "_law_wide", "_law_k"] ["_law_deck_here", "_law_kinds"] (defScope (top 16)) := ⟨rfl, rfl, rfl, by decide +kernel, rfl, by decide +kernel, by decide +kernel⟩
def b_law_taken : SM := (seqS (asgS (nameT 2) (bE0 addD (toE (cP (.int 1))) (ucall [2, 0] 0 d_law_draw (borE 0 (valE (toE (cP (.int 5))) nilE)))))
    (seqS (asgS (nameT 3) (bE eqD (ucall [2, 0] 0 d_law_draw (borE 0 (valE (toE (cP (.int 2))) nilE))) (toE (cP (.int 1)))))
    (seqS (asgS (nameT 4) (coldE (lstE 0 (valE (ucall [2, 0] 0 d_law_draw (borE 0 (valE (toE (cP (.int 4))) nilE))) (valE (ucall [2, 0] 0 d_law_great (borE 0 (valE (toE (bP addD (bX powD (toX (cP (.int 10))) (toX (cP (.int 18)))) (cP (.int 1)))) nilE))) (valE (toE (bX powD (toX (cP (.int 10))) (toX (cP (.int 18))))) nilE))))))
    (seqS (asgS (nameT 5) (lstE 0 nilE))
    (seqS (forS (seqI (coldE (ucall [2, 0] 0 d_law_moments (borE 0 (valE (toE (ofX (vX 2))) nilE))))) (nameT 6) (seqS (asgS (tupU 2 (consT (nameT 8) (consT (nameT 9) nilT))) (ixV 1 (ucall [2, 0] 0 d_law_draw (borE 0 (valE (toE (callP lenD (consX (vX 1) nilX))) nilE)))))
    (seqS (asgS (nameT 7) (ixV 4 (ixE (coldE (lstE 0 (valE (ucall [2, 0] 0 d_law_draw (borE 0 (valE (toE (cP (.int 3))) nilE))) (valE (toE (cP (.int 0))) nilE)))) (toE (callP intD (consX (vX 3) nilX))))))
    (dropS (appS 5 (tupE 0 (valE (toE (ofX (vX 6))) (valE (toE (ofX (vX 8))) (valE (toE (ofX (vX 7))) (valE (callE tupleD (valE (coldE (lcE 0 [10] (rngI1 (valE (toE (ofX (vX 9))) nilE)) (nameT 10) yesT (ucall [2] 0 d_law_worth (borE 0 nilE)))) nilE)) nilE))))))))))
    (retS (coldE (lstE 0 (valE (frzE 5) (valE (toE (ofX (vX 3))) nilE))))))))))
def d_law_taken : FM := runF ["_law_deck_here", "_law_kinds", "_law_count", "_law_keyed", "_law_keys", "_law_found", "_law_moment", "_law_key", "_law_kind", "_law_wide", "_law_k"] [2, 0] 0 b_law_taken
theorem ok_law_taken (T : Tx K mg) : FnOk P w K mg base CX0 4 (He.ga K "_law_taken") T.fd_law_taken ["_law_deck_here", "_law_kinds"] (SpF K [2, 0] 0 d_law_taken) :=
  fnF T.F_law_taken sc_law_taken rfl fun cdv A outer s H E hr => (show GSs _ _ (defBody (top 16)) b_law_taken from
      have hu := huR hr
      (gss_cons (gs_asg (ge_bin0 og_add gp_int.e (ge_call (ok_law_draw T) (hr.mono (by decide)) (by rfl) (T.g_law_draw) (T.kp_law_draw) (T.b_law_draw) pass0 (gae_bor 0 (gae_val gp_int.e gae_nil)))) (gg_name 2 sc_law_taken.nd))
      (gss_cons (gs_asg (ge_cmp (og_eq hu) sc_eq (ge_call (ok_law_draw T) (hr.mono (by decide)) (by rfl) (T.g_law_draw) (T.kp_law_draw) (T.b_law_draw) pass0 (gae_bor 0 (gae_val gp_int.e gae_nil))) gp_int.e (nomark _)) (gg_name 3 sc_law_taken.nd))
      (gss_cons (gs_asg (ge_lst 0 (gae_val (ge_call (ok_law_draw T) (hr.mono (by decide)) (by rfl) (T.g_law_draw) (T.kp_law_draw) (T.b_law_draw) pass0 (gae_bor 0 (gae_val gp_int.e gae_nil))) (gae_val (ge_call (ok_law_great T) (hr.mono (by decide)) (by rfl) (T.g_law_great) (T.kp_law_great) (T.b_law_great) pass0 (gae_bor 0 (gae_val (gp_bin og_add (gp_binX og_pow sc_pow gp_int.x gp_int.x) gp_int).e gae_nil))) (gae_val (gp_binX og_pow sc_pow gp_int.x gp_int.x).e gae_nil)))).cold (gg_name 4 sc_law_taken.nd))
      (gss_cons (gs_asg (ge_lst 0 gae_nil) (gg_name 5 sc_law_taken.nd))
      (gss_cons (gs_for PassesOwn.never rfl (gi_seq0 (ge_call (ok_law_moments T) (hr) (by rfl) (T.g_law_moments) (T.kp_law_moments) (T.b_law_moments) pass0 (gae_bor 0 (gae_val (gx_var 2).p.e gae_nil)))) (gg_name 6 sc_law_taken.nd) (gss_cons (gs_asg (ge_ixN 1 (ge_call (ok_law_draw T) (hr.mono (by decide)) (by rfl) (T.g_law_draw) (T.kp_law_draw) (T.b_law_draw) pass0 (gae_bor 0 (gae_val (gp_callBX cg_len scc_len (by rfl) T.m_len (by decide +kernel) (gax_cons (gx_var 1) gax_nil)).e gae_nil)))) (gg_tupU rfl (ggs_cons (gg_name 8 sc_law_taken.nd) (ggs_cons (gg_name 9 sc_law_taken.nd) ggs_nil))))
      (gss_cons (gs_asg (ge_ixN 4 (ge_ix (ge_lst 0 (gae_val (ge_call (ok_law_draw T) (hr.mono (by decide)) (by rfl) (T.g_law_draw) (T.kp_law_draw) (T.b_law_draw) pass0 (gae_bor 0 (gae_val gp_int.e gae_nil))) (gae_val gp_int.e gae_nil))).cold (gp_callTyX cg_int scc_int (by rfl) T.m_int (by decide +kernel) (gax_cons (gx_var 3) gax_nil)).e)) (gg_name 7 sc_law_taken.nd))
      (gss_one (gs_expr (ge_append 5 (ge_tup 0 (gae_val (gx_var 6).p.e (gae_val (gx_var 8).p.e (gae_val (gx_var 7).p.e (gae_val (ge_callTy cg_tuple (by rfl) T.m_tuple (by decide +kernel) (gae_val (ge_lc 0 (own := [("_law_k", 10)]) rfl sc_law_taken.nd (gi_rng1 (by rfl) T.m_range (gae_val (gx_var 9).p.e gae_nil)) (blkOk_by (by kernel_rfl)) (fun _ _ _ _ _ => (gg_name 10 sc_law_taken.nd)) (fun _ _ _ _ _ => gts_nil) (fun _ _ _ _ _ => (ge_call (ok_law_worth T) (hr) (by rfl) (T.g_law_worth) (T.kp_law_worth) (T.b_law_worth) pass0 (gae_bor 0 gae_nil)))).cold gae_nil)) gae_nil)))))))))))
      (gss_one (gs_ret (ge_lst 0 (gae_val (ge_frz 5) (gae_val (gx_var 3).p.e gae_nil))).cold))))))))
theorem sc_law_case : FnScope ["_law_deck_here", "_law_names_here", "_law_kinds", "_law_taken_here", "_law_keyed", "_law_k"] ["_law_deck_here"] (defScope (top 25)) := ⟨rfl, rfl, rfl, by decide +kernel, rfl, by decide +kernel, by decide +kernel⟩
def b_law_case : SM := (seqS (asgS (nameT 1) (ucall [2, 0] 0 d_law_names (borE 0 (valE (toE (cP (.int 3))) nilE))))
    (seqS (asgS (nameT 2) (lcE 0 [5] (rngI1 (valE (bE0 addD (toE (cP (.int 1))) (ucall [2, 0] 0 d_law_draw (borE 0 (valE (toE (cP (.int 3))) nilE)))) nilE)) (nameT 5) yesT (tupE 0 (valE (toE (ofX (ixX (vX 1) (vX 5)))) (valE (ucall [2, 0] 0 d_law_draw (borE 0 (valE (toE (cP (.int 4))) nilE))) nilE)))))
    (frzS 2 (seqS (asgS (tupU 2 (consT (nameT 3) (consT (nameT 4) nilT))) (ucall [2, 0] 0 d_law_taken (borE 0 (valE (toE (ofX (vX 2))) nilE))))
    (retS (coldE (lstE 0 (valE (ucall [2, 0, 0, 0] 0 d_law_road (borE 0 (valE (toE (ofX (vX 2))) (valE (toE (ofX (vX 3))) (valE (toE (ofX (vX 4))) nilE))))) (valE (toE (ofX (vX 3))) (valE (toE (ofX (vX 2))) nilE))))))))))
def d_law_case : FM := runF ["_law_deck_here", "_law_names_here", "_law_kinds", "_law_taken_here", "_law_keyed", "_law_k"] [2] 0 b_law_case
theorem ok_law_case (T : Tx K mg) : FnOk P w K mg base CX0 6 (He.ga K "_law_case") T.fd_law_case ["_law_deck_here"] (SpF K [2] 0 d_law_case) :=
  fnF T.F_law_case sc_law_case rfl fun cdv A outer s H E hr => (show GSs _ _ (defBody (top 25)) b_law_case from
      have hu := huR hr
      (gss_cons (gs_asg (ge_call (ok_law_names T) (hr.mono (by decide)) (by rfl) (T.g_law_names) (T.kp_law_names) (T.b_law_names) pass0 (gae_bor 0 (gae_val gp_int.e gae_nil))) (gg_name 1 sc_law_case.nd))
      (gss_cons (gs_setLc 0 2 (own := [("_law_k", 5)]) rfl sc_law_case.nd (gi_rng1 (by rfl) T.m_range (gae_val (ge_bin0 og_add gp_int.e (ge_call (ok_law_draw T) (hr.mono (by decide)) (by rfl) (T.g_law_draw) (T.kp_law_draw) (T.b_law_draw) pass0 (gae_bor 0 (gae_val gp_int.e gae_nil)))) gae_nil)) (blkOk_by (by kernel_rfl)) (fun _ _ _ _ _ => (gg_name 5 sc_law_case.nd)) (fun _ _ _ _ _ => gts_nil) (fun _ _ _ _ _ => (ge_tup 0 (gae_val (gx_ix (gx_var 1) (gx_var 5)).p.e (gae_val (ge_call (ok_law_draw T) (hr.mono (by decide)) (by rfl) (T.g_law_draw) (T.kp_law_draw) (T.b_law_draw) pass0 (gae_bor 0 (gae_val gp_int.e gae_nil))) gae_nil)))))
      (gss_frz 2 (gss_cons (gs_asg (ge_call (ok_law_taken T) (hr.mono (by decide)) (by rfl) (T.g_law_taken) (T.kp_law_taken) (T.b_law_taken) pass0 (gae_bor 0 (gae_val (gx_var 2).p.e gae_nil))) (gg_tupU rfl (ggs_cons (gg_name 3 sc_law_case.nd) (ggs_cons (gg_name 4 sc_law_case.nd) ggs_nil))))
      (gss_one (gs_ret (ge_lst 0 (gae_val (ge_call (ok_law_road T) (hr) (by rfl) (T.g_law_road) (T.kp_law_road) (T.b_law_road) pass0 (gae_bor 0 (gae_val (gx_var 2).p.e (gae_val (gx_var 3).p.e (gae_val (gx_var 4).p.e gae_nil))))) (gae_val (gx_var 3).p.e (gae_val (gx_var 2).p.e gae_nil)))).cold)))))))
theorem sc_law_deck : FnScope ["_law_script", "_law_cell"] ["_law_script"] (defScope (top 10)) := ⟨rfl, rfl, rfl, by decide +kernel, rfl, by decide +kernel, by decide +kernel⟩
def b_law_deck : SM := (retS (lstE 1 (valE (lcE 0 [1] (seqI (coldE (toE (slP (ofX (vX 0)) noO (someO (cP (.int 63))))))) (nameT 1) yesT (toE (callP absD (consX (vX 1) nilX)))) (valE (toE (cP (.int 0))) nilE))))
def d_law_deck : FM := runF ["_law_script", "_law_cell"] [0] 2 b_law_deck
theorem ok_law_deck (T : Tx K mg) : FnOk P w K mg base CX0 1 (He.ga K "_law_deck") T.fd_law_deck ["_law_script"] (SpF K [0] 2 d_law_deck) :=
  fnF T.F_law_deck sc_law_deck rfl fun cdv A outer s H E hr => (show GSs _ _ (defBody (top 10)) b_law_deck from
      have hu := huR hr
      (gss_one (gs_ret (ge_lst 1 (gae_val (ge_lc 0 (own := [("_law_cell", 1)]) rfl sc_law_deck.nd (gi_seq0 (gp_slice (gx_var 0).p go_none (go_some gp_int)).e) (blkOk_by (by kernel_rfl)) (fun _ _ _ _ _ => (gg_name 1 sc_law_deck.nd)) (fun _ _ _ _ _ => gts_nil) (fun _ _ _ _ _ => (gp_callBX cg_abs scc_abs (by rfl) T.m_abs (by decide +kernel) (gax_cons (gx_var 1) gax_nil)).e)) (gae_val gp_int.e gae_nil))))))
theorem sc_law_stretch : FnScope ["_law_tests", "_law_slot_here", "_law_low", "_law_high", "_law_taken_here", "_law_test"] ["_law_tests", "_law_slot_here", "_law_low", "_law_high", "_law_taken_here"] (defScope (top 26)) := ⟨rfl, rfl, rfl, by decide +kernel, rfl, by decide +kernel, by decide +kernel⟩
def b_law_stretch : SM := (seqS (forS (seqI (coldE (toE (ofX (vX 0))))) (nameT 5) (seqS (ifS (toT (andT (bT (bX eqD (ixX (vX 5) (toX (cP (.int 0)))) (vX 1))) (bT (bX neD (ixX (vX 5) (toX (cP (.int 1)))) (toX (cP (.str (PySem.Str.ofString ">=")))))))) (asgS (nameT 3) (toE (callP min2D (consX (vX 3) (consX (toX (pcall d_law_asked (consA (ofX (vX 5)) (consA (ofX (vX 4)) nilA)))) nilX))))) nilS)
    (ifS (toT (andT (bT (bX eqD (ixX (vX 5) (toX (cP (.int 0)))) (vX 1))) (bT (bX neD (ixX (vX 5) (toX (cP (.int 1)))) (toX (cP (.str (PySem.Str.ofString "<=")))))))) (asgS (nameT 2) (toE (callP max2D (consX (vX 2) (consX (toX (pcall d_law_asked (consA (ofX (vX 5)) (consA (ofX (vX 4)) nilA)))) nilX))))) nilS)))
    (retS (toE (lstP (consA (ofX (vX 2)) (consA (ofX (vX 3)) nilA))))))
def d_law_stretch : FM := runF ["_law_tests", "_law_slot_here", "_law_low", "_law_high", "_law_taken_here", "_law_test"] [0, 0, 0, 0, 0] 0 b_law_stretch
theorem ok_law_stretch (T : Tx K mg) : FnOk P w K mg base CX0 3 (He.ga K "_law_stretch") T.fd_law_stretch ["_law_tests", "_law_slot_here", "_law_low", "_law_high", "_law_taken_here"] (SpF K [0, 0, 0, 0, 0] 0 d_law_stretch) :=
  fnF T.F_law_stretch sc_law_stretch rfl fun cdv A outer s H E hr => (show GSs _ _ (defBody (top 26)) b_law_stretch from
      have hu := huR hr
      (gss_cons (gs_for PassesOwn.never rfl (gi_seq0 (gx_var 0).p.e) (gg_name 5 sc_law_stretch.nd) (gss_cons (gs_if (GW.gt (gw_and (gt_cmp (og_eq hu) sc_eq (gx_ix (gx_var 5) gp_int.x) (gx_var 1) (nomark _)) (gw_and1 (gt_cmp (og_ne hu) sc_ne (gx_ix (gx_var 5) gp_int.x) gp_str.x (nomark _))))).e (gss_one (gs_asg (gp_callBX (cg_min2 rfl) scc_min2 (by rfl) T.m_min (by decide +kernel) (gax_cons (gx_var 3) (gax_cons (gp_call (n := 2) (ok_law_asked T) (hr) (by rfl) (T.g_law_asked) (T.kp_law_asked) (T.b_law_asked) pass0 (ga_cons (gx_var 5).p (ga_cons (gx_var 4).p ga_nil))).x gax_nil))).e (gg_name 3 sc_law_stretch.nd))) gss_nil)
      (gss_one (gs_if (GW.gt (gw_and (gt_cmp (og_eq hu) sc_eq (gx_ix (gx_var 5) gp_int.x) (gx_var 1) (nomark _)) (gw_and1 (gt_cmp (og_ne hu) sc_ne (gx_ix (gx_var 5) gp_int.x) gp_str.x (nomark _))))).e (gss_one (gs_asg (gp_callBX (cg_max2 rfl) scc_max2 (by rfl) T.m_max (by decide +kernel) (gax_cons (gx_var 2) (gax_cons (gp_call (n := 2) (ok_law_asked T) (hr) (by rfl) (T.g_law_asked) (T.kp_law_asked) (T.b_law_asked) pass0 (ga_cons (gx_var 5).p (ga_cons (gx_var 4).p ga_nil))).x gax_nil))).e (gg_name 2 sc_law_stretch.nd))) gss_nil))))
      (gss_one (gs_ret (gp_lst (ga_cons (gx_var 2).p (ga_cons (gx_var 3).p ga_nil))).e))))
theorem sc_law_last_met : FnScope ["_law_tail", "_law_taken_here", "_law_last", "_law_slot_here", "_law_low", "_law_high"] ["_law_tail", "_law_taken_here"] (defScope (top 27)) := ⟨rfl, rfl, rfl, by decide +kernel, rfl, by decide +kernel, by decide +kernel⟩
def b_law_last_met : SM := (seqS (asgS (nameT 2) (toE (ofX (ixX (ixX (vX 1) (toX (negP (toX (cP (.int 1)))))) (toX (cP (.int 0)))))))
    (seqS (forS (rngI2 (valE (toE (cP (.int 1))) (valE (toE (bP addD (ofX (ixX (vX 0) (toX (cP (.int 3))))) (cP (.int 1)))) nilE))) (nameT 3) (seqS (asgS (tupU 2 (consT (nameT 4) (consT (nameT 5) nilT))) (toE (pcall d_law_stretch (consA (ofX (ixX (vX 0) (toX (cP (.int 2))))) (consA (ofX (vX 3)) (consA (negP (toX (bX powD (toX (cP (.int 10))) (toX (cP (.int 18)))))) (consA (bX powD (toX (cP (.int 10))) (toX (cP (.int 18)))) (consA (ofX (vX 1)) nilA))))))))
    (ifS (toT (bT (bX gtI (vX 4) (vX 5)))) (retS (toE (ofX (vX 2)))) nilS)))
    (seqS (asgS (tupU 2 (consT (nameT 4) (consT (nameT 5) nilT))) (toE (pcall d_law_stretch (consA (ofX (ixX (vX 0) (toX (cP (.int 2))))) (consA (cP (.int 0)) (consA (bP addD (ofX (vX 2)) (cP (.int 1))) (consA (callP min2D (consX (toX (bP addD (ofX (vX 2)) (ofX (ixX (vX 0) (toX (cP (.int 1))))))) (consX (toX (bX powD (toX (cP (.int 10))) (toX (cP (.int 18))))) nilX))) (consA (ofX (vX 1)) nilA))))))))
    (retS (toE (ofX (ixX (toX (lstP (consA (ofX (vX 2)) (consA (ofX (vX 5)) nilA)))) (toX (callP intD (consX (toX (bX leD (vX 4) (vX 5))) nilX))))))))))
def d_law_last_met : FM := runF ["_law_tail", "_law_taken_here", "_law_last", "_law_slot_here", "_law_low", "_law_high"] [0, 0] 0 b_law_last_met
theorem ok_law_last_met (T : Tx K mg) : FnOk P w K mg base CX0 4 (He.ga K "_law_last_met") T.fd_law_last_met ["_law_tail", "_law_taken_here"] (SpF K [0, 0] 0 d_law_last_met) :=
  fnF T.F_law_last_met sc_law_last_met rfl fun cdv A outer s H E hr => (show GSs _ _ (defBody (top 27)) b_law_last_met from
      have hu := huR hr
      (gss_cons (gs_asg (gx_ix (gx_ix (gx_var 1) (gp_neg gp_int.x).x) gp_int.x).p.e (gg_name 2 sc_law_last_met.nd))
      (gss_cons (gs_for PassesOwn.never rfl (gi_rng2 (by rfl) T.m_range (gae_val gp_int.e (gae_val (gp_bin og_add (gx_ix (gx_var 0) gp_int.x).p gp_int).e gae_nil))) (gg_name 3 sc_law_last_met.nd) (gss_cons (gs_asg (gp_call (n := 5) (ok_law_stretch T) (hr) (by rfl) (T.g_law_stretch) (T.kp_law_stretch) (T.b_law_stretch) pass0 (ga_cons (gx_ix (gx_var 0) gp_int.x).p (ga_cons (gx_var 3).p (ga_cons (gp_neg (gp_binX og_pow sc_pow gp_int.x gp_int.x).x) (ga_cons (gp_binX og_pow sc_pow gp_int.x gp_int.x) (ga_cons (gx_var 1).p ga_nil)))))).e (gg_tupU rfl (ggs_cons (gg_name 4 sc_law_last_met.nd) (ggs_cons (gg_name 5 sc_law_last_met.nd) ggs_nil))))
      (gss_one (gs_if (gt_cmp og_gt sc_gt (gx_var 4) (gx_var 5) (nomark _)).e (gss_one (gs_ret (gx_var 2).p.e)) gss_nil))))
      (gss_cons (gs_asg (gp_call (n := 5) (ok_law_stretch T) (hr) (by rfl) (T.g_law_stretch) (T.kp_law_stretch) (T.b_law_stretch) pass0 (ga_cons (gx_ix (gx_var 0) gp_int.x).p (ga_cons gp_int (ga_cons (gp_bin og_add (gx_var 2).p gp_int) (ga_cons (gp_callBX (cg_min2 rfl) scc_min2 (by rfl) T.m_min (by decide +kernel) (gax_cons (gp_bin og_add (gx_var 2).p (gx_ix (gx_var 0) gp_int.x).p).x (gax_cons (gp_binX og_pow sc_pow gp_int.x gp_int.x).x gax_nil))) (ga_cons (gx_var 1).p ga_nil)))))).e (gg_tupU rfl (ggs_cons (gg_name 4 sc_law_last_met.nd) (ggs_cons (gg_name 5 sc_law_last_met.nd) ggs_nil))))
      (gss_one (gs_ret (gx_ix (gp_lst (ga_cons (gx_var 2).p (ga_cons (gx_var 5).p ga_nil))).x (gp_callTyX cg_int scc_int (by rfl) T.m_int (by decide +kernel) (gax_cons (gp_cmp og_le sc_le (gx_var 4) (gx_var 5) (nomark _)).x gax_nil)).x).p.e))))))
theorem sc_law_whole : FnScope ["_law_thing", "_law_least", "_law_most"] ["_law_thing", "_law_least", "_law_most"] (defScope (top 28)) := ⟨rfl, rfl, rfl, by decide +kernel, rfl, by decide +kernel, by decide +kernel⟩
def b_law_whole : SM := (retS (toE (andP (callP isiD (consX (vX 0) (consX (toX (cP (.ty "int"))) nilX))) (andP (notP (callP isiD (consX (vX 0) (consX (toX (cP (.ty "bool"))) nilX)))) (chP leD leD (vX 1) (vX 0) (vX 2))))))
def d_law_whole : FM := runF ["_law_thing", "_law_least", "_law_most"] [0, 0, 0] 0 b_law_whole
theorem ok_law_whole (T : Tx K mg) : FnOk P w K mg base CX0 1 (He.ga K "_law_whole") T.fd_law_whole ["_law_thing", "_law_least", "_law_most"] (SpF K [0, 0, 0] 0 d_law_whole) :=
  fnF T.F_law_whole sc_law_whole rfl fun cdv A outer s H E hr => (show GSs _ _ (defBody (top 28)) b_law_whole from
      have hu := huR hr
      (gss_one (gs_ret (gp_and (gp_callBX cg_isi scc_isi (by rfl) T.m_isinstance (by decide +kernel) (gax_cons (gx_var 0) (gax_cons (gp_tyN (by rfl) T.m_int (by decide +kernel)).x gax_nil))) (gp_and (gp_not (gp_callBX cg_isi scc_isi (by rfl) T.m_isinstance (by decide +kernel) (gax_cons (gx_var 0) (gax_cons (gp_tyN (by rfl) T.m_bool (by decide +kernel)).x gax_nil)))) (gp_one (gp_chain og_le sc_le og_le sc_le (gx_var 1) (gx_var 0) (gx_var 2))))).e)))
theorem sc_law_is_happening : FnScope ["_law_thing", "_law_kinds", "_law_wides", "_law_kind", "_law_wide", "_law_number"] ["_law_thing", "_law_kinds"] (defScope (top 29)) := ⟨rfl, rfl, rfl, by decide +kernel, rfl, by decide +kernel, by decide +kernel⟩
def b_law_is_happening : SM := (seqS (ifS (toT (orT (notT (tT (toX (callP isiD (consX (vX 0) (consX (toX (cP (.ty "tuple"))) nilX)))))) (orT (bT (bX neD (toX (callP lenD (consX (vX 0) nilX))) (toX (cP (.int 4))))) (notT (tT (toX (callP isiD (consX (ixX (vX 0) (toX (cP (.int 1)))) (consX (toX (cP (.ty "str"))) nilX))))))))) (retS (toE (cP (.bl false)))) nilS)
    (seqS (asgS (nameT 2) (lcE 0 [3, 4] (seqI (coldE (toE (ofX (vX 1))))) (tupU 2 (consT (nameT 3) (consT (nameT 4) nilT))) (toT (bT (bX eqD (vX 3) (ixX (vX 0) (toX (cP (.int 1))))))) (toE (ofX (vX 4)))))
    (frzS 2 (seqS (ifS (toT (orT (notT (tT (toX (pcall d_law_whole (consA (ofX (ixX (vX 0) (toX (cP (.int 0))))) (consA (cP (.int 0)) (consA (bX powD (toX (cP (.int 10))) (toX (cP (.int 18)))) nilA))))))) (orT (notT (tT (toX (pcall d_law_whole (consA (ofX (ixX (vX 0) (toX (cP (.int 2))))) (consA (cP (.int 0)) (consA (bX powD (toX (cP (.int 10))) (toX (cP (.int 18)))) nilA))))))) (bT (bX eqD (vX 2) (toX (lstP nilA))))))) (retS (toE (cP (.bl false)))) nilS)
    (seqS (ifS (toT (orT (notT (tT (toX (callP isiD (consX (ixX (vX 0) (toX (cP (.int 3)))) (consX (toX (cP (.ty "tuple"))) nilX)))))) (bT (bX neD (toX (callP lenD (consX (ixX (vX 0) (toX (cP (.int 3)))) nilX))) (ixX (vX 2) (toX (cP (.int 0)))))))) (retS (toE (cP (.bl false)))) nilS)
    (retS (bE eqD (coldE (lcE 0 [5] (seqI (coldE (toE (ofX (ixX (vX 0) (toX (cP (.int 3)))))))) (nameT 5) (toT (notT (tT (toX (pcall d_law_whole (consA (ofX (vX 5)) (consA (negP (toX (bX powD (toX (cP (.int 10))) (toX (cP (.int 18)))))) (consA (bX powD (toX (cP (.int 10))) (toX (cP (.int 18)))) nilA)))))))) (toE (ofX (vX 5))))) (toE (lstP nilA)))))))))
def d_law_is_happening : FM := runF ["_law_thing", "_law_kinds", "_law_wides", "_law_kind", "_law_wide", "_law_number"] [0, 0] 0 b_law_is_happening
theorem ok_law_is_happening (T : Tx K mg) : FnOk P w K mg base CX0 2 (He.ga K "_law_is_happening") T.fd_law_is_happening ["_law_thing", "_law_kinds"] (SpF K [0, 0] 0 d_law_is_happening) :=
  fnF T.F_law_is_happening sc_law_is_happening rfl fun cdv A outer s H E hr => (show GSs _ _ (defBody (top 29)) b_law_is_happening from
      have hu := huR hr
      (gss_cons (gs_if (GW.gt (gw_or (gt_not (gt_truth (gp_callBX cg_isi scc_isi (by rfl) T.m_isinstance (by decide +kernel) (gax_cons (gx_var 0) (gax_cons (gp_tyN (by rfl) T.m_tuple (by decide +kernel)).x gax_nil))).x)) (gw_or (gt_cmp (og_ne hu) sc_ne (gp_callBX cg_len scc_len (by rfl) T.m_len (by decide +kernel) (gax_cons (gx_var 0) gax_nil)).x gp_int.x (nomark _)) (gw_or1 (gt_not (gt_truth (gp_callBX cg_isi scc_isi (by rfl) T.m_isinstance (by decide +kernel) (gax_cons (gx_ix (gx_var 0) gp_int.x) (gax_cons (gp_tyN (by rfl) T.m_str (by decide +kernel)).x gax_nil))).x)))))).e (gss_one (gs_ret gp_bl.e)) gss_nil)
      (gss_cons (gs_setLc 0 2 (own := [("_law_kind", 3), ("_law_wide", 4)]) rfl sc_law_is_happening.nd (gi_seq0 (gx_var 1).p.e) (blkOk_by (by kernel_rfl)) (fun _ _ _ _ _ => (gg_tupU rfl (ggs_cons (gg_name 3 sc_law_is_happening.nd) (ggs_cons (gg_name 4 sc_law_is_happening.nd) ggs_nil)))) (fun _ _ _ _ _ => (gts_one (gt_cmp (og_eq hu) sc_eq (gx_var 3) (gx_ix (gx_var 0) gp_int.x) (nomark _)).e)) (fun _ _ _ _ _ => (gx_var 4).p.e))
      (gss_frz 2 (gss_cons (gs_if (GW.gt (gw_or (gt_not (gt_truth (gp_call (n := 3) (ok_law_whole T) (hr) (by rfl) (T.g_law_whole) (T.kp_law_whole) (T.b_law_whole) pass0 (ga_cons (gx_ix (gx_var 0) gp_int.x).p (ga_cons gp_int (ga_cons (gp_binX og_pow sc_pow gp_int.x gp_int.x) ga_nil)))).x)) (gw_or (gt_not (gt_truth (gp_call (n := 3) (ok_law_whole T) (hr) (by rfl) (T.g_law_whole) (T.kp_law_whole) (T.b_law_whole) pass0 (ga_cons (gx_ix (gx_var 0) gp_int.x).p (ga_cons gp_int (ga_cons (gp_binX og_pow sc_pow gp_int.x gp_int.x) ga_nil)))).x)) (gw_or1 (gt_cmp (og_eq hu) sc_eq (gx_var 2) (gp_lst ga_nil).x (nomark _)))))).e (gss_one (gs_ret gp_bl.e)) gss_nil)
      (gss_cons (gs_if (GW.gt (gw_or (gt_not (gt_truth (gp_callBX cg_isi scc_isi (by rfl) T.m_isinstance (by decide +kernel) (gax_cons (gx_ix (gx_var 0) gp_int.x) (gax_cons (gp_tyN (by rfl) T.m_tuple (by decide +kernel)).x gax_nil))).x)) (gw_or1 (gt_cmp (og_ne hu) sc_ne (gp_callBX cg_len scc_len (by rfl) T.m_len (by decide +kernel) (gax_cons (gx_ix (gx_var 0) gp_int.x) gax_nil)).x (gx_ix (gx_var 2) gp_int.x) (nomark _))))).e (gss_one (gs_ret gp_bl.e)) gss_nil)
      (gss_one (gs_ret (ge_cmp (og_eq hu) sc_eq (ge_lc 0 (own := [("_law_number", 5)]) rfl sc_law_is_happening.nd (gi_seq0 (gx_ix (gx_var 0) gp_int.x).p.e) (blkOk_by (by kernel_rfl)) (fun _ _ _ _ _ => (gg_name 5 sc_law_is_happening.nd)) (fun _ _ _ _ _ => (gts_one (gt_not (gt_truth (gp_call (n := 3) (ok_law_whole T) (hr) (by rfl) (T.g_law_whole) (T.kp_law_whole) (T.b_law_whole) pass0 (ga_cons (gx_var 5).p (ga_cons (gp_neg (gp_binX og_pow sc_pow gp_int.x gp_int.x).x) (ga_cons (gp_binX og_pow sc_pow gp_int.x gp_int.x) ga_nil)))).x)).e)) (fun _ _ _ _ _ => (gx_var 5).p.e)).cold (gp_lst ga_nil).e (nomark _))))))))))
theorem sc_law_holds : FnScope ["_law_test", "_law_happening", "_law_taken_here", "_law_mine", "_law_due"] ["_law_test", "_law_happening", "_law_taken_here"] (defScope (top 30)) := ⟨rfl, rfl, rfl, by decide +kernel, rfl, by decide +kernel, by decide +kernel⟩
def b_law_holds : SM := (seqS (asgS (nameT 3) (toE (pcall d_law_slot (consA (ofX (vX 1)) (consA (ofX (ixX (vX 0) (toX (cP (.int 0))))) nilA)))))
    (seqS (asgS (nameT 4) (toE (pcall d_law_asked (consA (ofX (vX 0)) (consA (ofX (vX 2)) nilA)))))
    (retS (toE (ofX (ixX (toX (lstP (consA (bX leD (vX 3) (vX 4)) (consA (bX geI (vX 3) (vX 4)) (consA (bX eqD (vX 3) (vX 4)) nilA))))) (toX (meth1 lindexD (lstP (consA (cP (.str (PySem.Str.ofString "<="))) (consA (cP (.str (PySem.Str.ofString ">="))) (consA (cP (.str (PySem.Str.ofString "="))) nilA)))) (ofX (ixX (vX 0) (toX (cP (.int 1)))))))))))))
def d_law_holds : FM := runF ["_law_test", "_law_happening", "_law_taken_here", "_law_mine", "_law_due"] [0, 0, 0] 0 b_law_holds
theorem ok_law_holds (T : Tx K mg) : FnOk P w K mg base CX0 3 (He.ga K "_law_holds") T.fd_law_holds ["_law_test", "_law_happening", "_law_taken_here"] (SpF K [0, 0, 0] 0 d_law_holds) :=
  fnF T.F_law_holds sc_law_holds rfl fun cdv A outer s H E hr => (show GSs _ _ (defBody (top 30)) b_law_holds from
      have hu := huR hr
      (gss_cons (gs_asg (gp_call (n := 2) (ok_law_slot T) (hr.mono (by decide)) (by rfl) (T.g_law_slot) (T.kp_law_slot) (T.b_law_slot) pass0 (ga_cons (gx_var 1).p (ga_cons (gx_ix (gx_var 0) gp_int.x).p ga_nil))).e (gg_name 3 sc_law_holds.nd))
      (gss_cons (gs_asg (gp_call (n := 2) (ok_law_asked T) (hr) (by rfl) (T.g_law_asked) (T.kp_law_asked) (T.b_law_asked) pass0 (ga_cons (gx_var 0).p (ga_cons (gx_var 2).p ga_nil))).e (gg_name 4 sc_law_holds.nd))
      (gss_one (gs_ret (gx_ix (gp_lst (ga_cons (gp_cmp og_le sc_le (gx_var 3) (gx_var 4) (nomark _)) (ga_cons (gp_cmp og_ge sc_ge (gx_var 3) (gx_var 4) (nomark _)) (ga_cons (gp_cmp (og_eq hu) sc_eq (gx_var 3) (gx_var 4) (nomark _)) ga_nil)))).x (gp_lindex (gp_lst (ga_cons gp_str (ga_cons gp_str (ga_cons gp_str ga_nil)))) (gx_ix (gx_var 0) gp_int.x).p).x).p.e)))))
theorem sc_law_meets : FnScope ["_law_road_here", "_law_happening", "_law_taken_here", "_law_behind", "_law_kind", "_law_length", "_law_tests", "_law_wide", "_law_test"] ["_law_road_here", "_law_happening", "_law_taken_here"] (defScope (top 31)) := ⟨rfl, rfl, rfl, by decide +kernel, rfl, by decide +kernel, by decide +kernel⟩
def b_law_meets : SM := (seqS (ifS (toT (andT (tT (ixX (vX 0) (toX (cP (.int 3))))) (bT (bX neD (ixX (vX 1) (toX (cP (.int 2)))) (ixX (ixX (vX 2) (toX (cP (.int 0)))) (toX (cP (.int 2)))))))) (retS (toE (cP (.bl false)))) nilS)
    (seqS (asgS (nameT 3) (toE (bX subD (ixX (vX 1) (toX (cP (.int 0)))) (ixX (ixX (vX 2) (toX (negP (toX (cP (.int 1)))))) (toX (cP (.int 0)))))))
    (seqS (forS (seqI (coldE (toE (ofX (ixX (vX 0) (toX (cP (.int 2)))))))) (tupU 4 (consT (nameT 4) (consT (nameT 5) (consT (nameT 6) (consT (nameT 7) nilT))))) (ifS (toT (andT (bT (bX eqD (vX 4) (ixX (vX 1) (toX (cP (.int 1)))))) (bT (chP ltI leD (toX (cP (.int 0))) (vX 3) (vX 5))))) (ifS (bTE (bE eqD (coldE (lcE 0 [8] (seqI (coldE (toE (ofX (vX 6))))) (nameT 8) (toT (notT (tT (toX (pcall d_law_holds (consA (ofX (vX 8)) (consA (ofX (vX 1)) (consA (ofX (vX 2)) nilA)))))))) (toE (ofX (vX 8))))) (toE (lstP nilA)))) (retS (toE (cP (.bl true)))) nilS) nilS))
    (retS (toE (cP (.bl false)))))))
def d_law_meets : FM := runF ["_law_road_here", "_law_happening", "_law_taken_here", "_law_behind", "_law_kind", "_law_length", "_law_tests", "_law_wide", "_law_test"] [0, 0, 0] 0 b_law_meets
theorem ok_law_meets (T : Tx K mg) : FnOk P w K mg base CX0 4 (He.ga K "_law_meets") T.fd_law_meets ["_law_road_here", "_law_happening", "_law_taken_here"] (SpF K [0, 0, 0] 0 d_law_meets) :=
  fnF T.F_law_meets sc_law_meets rfl fun cdv A outer s H E hr => (show GSs _ _ (defBody (top 31)) b_law_meets from
      have hu := huR hr
      (gss_cons (gs_if (GW.gt (gw_and (gt_truth (gx_ix (gx_var 0) gp_int.x)) (gw_and1 (gt_cmp (og_ne hu) sc_ne (gx_ix (gx_var 1) gp_int.x) (gx_ix (gx_ix (gx_var 2) gp_int.x) gp_int.x) (nomark _))))).e (gss_one (gs_ret gp_bl.e)) gss_nil)
      (gss_cons (gs_asg (gp_binX og_sub sc_sub (gx_ix (gx_var 1) gp_int.x) (gx_ix (gx_ix (gx_var 2) (gp_neg gp_int.x).x) gp_int.x)).e (gg_name 3 sc_law_meets.nd))
      (gss_cons (gs_for PassesOwn.never rfl (gi_seq0 (gx_ix (gx_var 0) gp_int.x).p.e) (gg_tupU rfl (ggs_cons (gg_name 4 sc_law_meets.nd) (ggs_cons (gg_name 5 sc_law_meets.nd) (ggs_cons (gg_name 6 sc_law_meets.nd) (ggs_cons (gg_name 7 sc_law_meets.nd) ggs_nil))))) (gss_one (gs_if (GW.gt (gw_and (gt_cmp (og_eq hu) sc_eq (gx_var 4) (gx_ix (gx_var 1) gp_int.x) (nomark _)) (gw_and1 (gt_chain og_lt sc_lt og_le sc_le gp_int.x (gx_var 3) (gx_var 5))))).e (gss_one (gs_if (gte_cmp (og_eq hu) sc_eq (ge_lc 0 (own := [("_law_test", 8)]) rfl sc_law_meets.nd (gi_seq0 (gx_var 6).p.e) (blkOk_by (by kernel_rfl)) (fun _ _ _ _ _ => (gg_name 8 sc_law_meets.nd)) (fun _ _ _ _ _ => (gts_one (gt_not (gt_truth (gp_call (n := 3) (ok_law_holds T) (hr) (by rfl) (T.g_law_holds) (T.kp_law_holds) (T.b_law_holds) pass0 (ga_cons (gx_var 8).p (ga_cons (gx_var 1).p (ga_cons (gx_var 2).p ga_nil)))).x)).e)) (fun _ _ _ _ _ => (gx_var 8).p.e)).cold (gp_lst ga_nil).e (nomark _)) (gss_one (gs_ret gp_bl.e)) gss_nil)) gss_nil)))
      (gss_one (gs_ret gp_bl.e))))))
theorem sc_worth : FnScope ["happening", "slot"] ["happening", "slot"] (defScope (top 2)) := ⟨rfl, rfl, rfl, by decide +kernel, rfl, by decide +kernel, by decide +kernel⟩
def b_worth : SM := (seqS (ifS (toT (bT (bX eqD (vX 1) (toX (cP (.int 0)))))) (retS (toE (ofX (ixX (vX 0) (toX (cP (.int 0))))))) nilS)
    (retS (toE (ofX (ixX (ixX (vX 0) (toX (cP (.int 3)))) (toX (bX subD (vX 1) (toX (cP (.int 1))))))))))
def d_worth : FM := runF ["happening", "slot"] [0, 0] 0 b_worth
theorem ok_worth (T : Tx K mg) : FnOk P w K mg base CX0 1 (He.ga K "worth") T.fd_worth ["happening", "slot"] (SpF K [0, 0] 0 d_worth) :=
  fnF T.F_worth sc_worth rfl fun cdv A outer s H E hr => (show GSs _ _ (defBody (top 2)) b_worth from
      have hu := huR hr
      (gss_cons (gs_if (gt_cmp (og_eq hu) sc_eq (gx_var 1) gp_int.x (nomark _)).e (gss_one (gs_ret (gx_ix (gx_var 0) gp_int.x).p.e)) gss_nil)
      (gss_one (gs_ret (gx_ix (gx_ix (gx_var 0) gp_int.x) (gp_binX og_sub sc_sub (gx_var 1) gp_int.x).x).p.e))))
theorem sc_asked_of : FnScope ["test", "taken"] ["test", "taken"] (defScope (top 4)) := ⟨rfl, rfl, rfl, by decide +kernel, rfl, by decide +kernel, by decide +kernel⟩
def b_asked_of : SM := (seqS (ifS (toT (bT (bX eqD (ixX (vX 0) (toX (cP (.int 2)))) (toX (negP (toX (cP (.int 1)))))))) (retS (toE (ofX (ixX (vX 0) (toX (cP (.int 4))))))) nilS)
    (retS (toE (bP addD (pcall d_worth (consA (ofX (ixX (vX 1) (ixX (vX 0) (toX (cP (.int 2)))))) (consA (ofX (ixX (vX 0) (toX (cP (.int 3))))) nilA))) (ofX (ixX (vX 0) (toX (cP (.int 4)))))))))
def d_asked_of : FM := runF ["test", "taken"] [0, 0] 0 b_asked_of
theorem ok_asked_of (T : Tx K mg) : FnOk P w K mg base CX0 2 (He.ga K "asked_of") T.fd_asked_of ["test", "taken"] (SpF K [0, 0] 0 d_asked_of) :=
  fnF T.F_asked_of sc_asked_of rfl fun cdv A outer s H E hr => (show GSs _ _ (defBody (top 4)) b_asked_of from
      have hu := huR hr
      (gss_cons (gs_if (gt_cmp (og_eq hu) sc_eq (gx_ix (gx_var 0) gp_int.x) (gp_neg gp_int.x).x (nomark _)).e (gss_one (gs_ret (gx_ix (gx_var 0) gp_int.x).p.e)) gss_nil)
      (gss_one (gs_ret (gp_bin og_add (gp_call (n := 2) (ok_worth T) (hr) (by rfl) (T.g_worth) (T.kp_worth) (T.b_worth) pass0 (ga_cons (gx_ix (gx_var 1) (gx_ix (gx_var 0) gp_int.x)).p (ga_cons (gx_ix (gx_var 0) gp_int.x).p ga_nil))) (gx_ix (gx_var 0) gp_int.x).p).e))))
theorem sc_limits : FnScope ["tests", "slot", "low", "high", "taken", "test", "number"] ["tests", "slot", "low", "high", "taken"] (defScope (top 5)) := ⟨rfl, rfl, rfl, by decide +kernel, rfl, by decide +kernel, by decide +kernel⟩
def b_limits : SM := (seqS (forS (seqI (coldE (toE (ofX (vX 0))))) (nameT 5) (ifS (toT (bT (bX eqD (ixX (vX 5) (toX (cP (.int 0)))) (vX 1)))) (seqS (asgS (nameT 6) (toE (pcall d_asked_of (consA (ofX (vX 5)) (consA (ofX (vX 4)) nilA)))))
    (seqS (ifS (toT (bT (bX neD (ixX (vX 5) (toX (cP (.int 1)))) (toX (cP (.str (PySem.Str.ofString ">="))))))) (asgS (nameT 3) (toE (callP min2D (consX (vX 3) (consX (vX 6) nilX))))) nilS)
    (ifS (toT (bT (bX neD (ixX (vX 5) (toX (cP (.int 1)))) (toX (cP (.str (PySem.Str.ofString "<="))))))) (asgS (nameT 2) (toE (callP max2D (consX (vX 2) (consX (vX 6) nilX))))) nilS))) nilS))
    (retS (toE (tupP (consA (ofX (vX 2)) (consA (ofX (vX 3)) nilA))))))
def d_limits : FM := runF ["tests", "slot", "low", "high", "taken", "test", "number"] [0, 0, 0, 0, 0] 0 b_limits
theorem ok_limits (T : Tx K mg) : FnOk P w K mg base CX0 3 (He.ga K "limits") T.fd_limits ["tests", "slot", "low", "high", "taken"] (SpF K [0, 0, 0, 0, 0] 0 d_limits) :=
  fnF T.F_limits sc_limits rfl fun cdv A outer s H E hr => (show GSs _ _ (defBody (top 5)) b_limits from
      have hu := huR hr
      (gss_cons (gs_for PassesOwn.never rfl (gi_seq0 (gx_var 0).p.e) (gg_name 5 sc_limits.nd) (gss_one (gs_if (gt_cmp (og_eq hu) sc_eq (gx_ix (gx_var 5) gp_int.x) (gx_var 1) (nomark _)).e (gss_cons (gs_asg (gp_call (n := 2) (ok_asked_of T) (hr) (by rfl) (T.g_asked_of) (T.kp_asked_of) (T.b_asked_of) pass0 (ga_cons (gx_var 5).p (ga_cons (gx_var 4).p ga_nil))).e (gg_name 6 sc_limits.nd))
      (gss_cons (gs_if (gt_cmp (og_ne hu) sc_ne (gx_ix (gx_var 5) gp_int.x) gp_str.x (nomark _)).e (gss_one (gs_asg (gp_callBX (cg_min2 rfl) scc_min2 (by rfl) T.m_min (by decide +kernel) (gax_cons (gx_var 3) (gax_cons (gx_var 6) gax_nil))).e (gg_name 3 sc_limits.nd))) gss_nil)
      (gss_one (gs_if (gt_cmp (og_ne hu) sc_ne (gx_ix (gx_var 5) gp_int.x) gp_str.x (nomark _)).e (gss_one (gs_asg (gp_callBX (cg_max2 rfl) scc_max2 (by rfl) T.m_max (by decide +kernel) (gax_cons (gx_var 2) (gax_cons (gx_var 6) gax_nil))).e (gg_name 2 sc_limits.nd))) gss_nil)))) gss_nil)))
      (gss_one (gs_ret (gp_tup (ga_cons (gx_var 2).p (ga_cons (gx_var 3).p ga_nil))).e))))
theorem sc_moments_met : FnScope ["tail", "taken", "settled", "last"] ["tail", "taken", "settled"] (defScope (top 7)) := ⟨rfl, rfl, rfl, by decide +kernel, rfl, by decide +kernel, by decide +kernel⟩
def b_moments_met : SM := (seqS (asgS (nameT 3) (toE (ofX (ixX (ixX (vX 1) (toX (negP (toX (cP (.int 1)))))) (toX (cP (.int 0)))))))
    (retS (toE (pcall d_limits (consA (ofX (ixX (vX 0) (toX (cP (.int 2))))) (consA (cP (.int 0)) (consA (bP addD (callP max2D (consX (vX 3) (consX (vX 2) nilX))) (cP (.int 1))) (consA (callP min2D (consX (toX (bP addD (ofX (vX 3)) (ofX (ixX (vX 0) (toX (cP (.int 1))))))) (consX (toX (cP (.int (1000000000000000000)))) nilX))) (consA (ofX (vX 1)) nilA)))))))))
def d_moments_met : FM := runF ["tail", "taken", "settled", "last"] [0, 0, 0] 0 b_moments_met
theorem ok_moments_met (T : Tx K mg) : FnOk P w K mg base CX0 4 (He.ga K "moments_met") T.fd_moments_met ["tail", "taken", "settled"] (SpF K [0, 0, 0] 0 d_moments_met) :=
  fnF T.F_moments_met sc_moments_met rfl fun cdv A outer s H E hr => (show GSs _ _ (defBody (top 7)) b_moments_met from
      have hu := huR hr
      (gss_cons (gs_asg (gx_ix (gx_ix (gx_var 1) (gp_neg gp_int.x).x) gp_int.x).p.e (gg_name 3 sc_moments_met.nd))
      (gss_one (gs_ret (gp_call (n := 5) (ok_limits T) (hr) (by rfl) (T.g_limits) (T.kp_limits) (T.b_limits) pass0 (ga_cons (gx_ix (gx_var 0) gp_int.x).p (ga_cons gp_int (ga_cons (gp_bin og_add (gp_callBX (cg_max2 rfl) scc_max2 (by rfl) T.m_max (by decide +kernel) (gax_cons (gx_var 3) (gax_cons (gx_var 2) gax_nil))) gp_int) (ga_cons (gp_callBX (cg_min2 rfl) scc_min2 (by rfl) T.m_min (by decide +kernel) (gax_cons (gp_bin og_add (gx_var 3).p (gx_ix (gx_var 0) gp_int.x).p).x (gax_cons (gp_globI (by rfl) T.c_FAR).x gax_nil))) (ga_cons (gx_var 1).p ga_nil)))))).e))))
theorem sc_worths_of : FnScope ["tail", "taken", "found", "slot", "low", "high"] ["tail", "taken"] (defScope (top 6)) := ⟨rfl, rfl, rfl, by decide +kernel, rfl, by decide +kernel, by decide +kernel⟩
def b_worths_of : SM := (seqS (asgS (nameT 2) (lstE 0 nilE))
    (seqS (forS (rngI2 (valE (toE (cP (.int 1))) (valE (toE (bP addD (ofX (ixX (vX 0) (toX (cP (.int 3))))) (cP (.int 1)))) nilE))) (nameT 3) (seqS (asgS (tupU 2 (consT (nameT 4) (consT (nameT 5) nilT))) (toE (pcall d_limits (consA (ofX (ixX (vX 0) (toX (cP (.int 2))))) (consA (ofX (vX 3)) (consA (negP (toX (cP (.int (1000000000000000000))))) (consA (cP (.int (1000000000000000000))) (consA (ofX (vX 1)) nilA))))))))
    (seqS (ifS (toT (bT (bX gtI (vX 4) (vX 5)))) (retS (toE (cP .non))) nilS)
    (dropS (appS 2 (toE (ofX (vX 4))))))))
    (retS (callE tupleD (valE (frzE 2) nilE)))))
def d_worths_of : FM := runF ["tail", "taken", "found", "slot", "low", "high"] [0, 0] 0 b_worths_of
theorem ok_worths_of (T : Tx K mg) : FnOk P w K mg base CX0 4 (He.ga K "worths_of") T.fd_worths_of ["tail", "taken"] (SpF K [0, 0] 0 d_worths_of) :=
  fnF T.F_worths_of sc_worths_of rfl fun cdv A outer s H E hr => (show GSs _ _ (defBody (top 6)) b_worths_of from
      have hu := huR hr
      (gss_cons (gs_asg (ge_lst 0 gae_nil) (gg_name 2 sc_worths_of.nd))
      (gss_cons (gs_for PassesOwn.never rfl (gi_rng2 (by rfl) T.m_range (gae_val gp_int.e (gae_val (gp_bin og_add (gx_ix (gx_var 0) gp_int.x).p gp_int).e gae_nil))) (gg_name 3 sc_worths_of.nd) (gss_cons (gs_asg (gp_call (n := 5) (ok_limits T) (hr) (by rfl) (T.g_limits) (T.kp_limits) (T.b_limits) pass0 (ga_cons (gx_ix (gx_var 0) gp_int.x).p (ga_cons (gx_var 3).p (ga_cons (gp_neg (gp_globI (by rfl) T.c_FAR).x) (ga_cons (gp_globI (by rfl) T.c_FAR) (ga_cons (gx_var 1).p ga_nil)))))).e (gg_tupU rfl (ggs_cons (gg_name 4 sc_worths_of.nd) (ggs_cons (gg_name 5 sc_worths_of.nd) ggs_nil))))
      (gss_cons (gs_if (gt_cmp og_gt sc_gt (gx_var 4) (gx_var 5) (nomark _)).e (gss_one (gs_ret gp_non.e)) gss_nil)
      (gss_one (gs_expr (ge_append 2 (gx_var 4).p.e))))))
      (gss_one (gs_ret (ge_callTy cg_tuple (by rfl) T.m_tuple (by decide +kernel) (gae_val (ge_frz 2) gae_nil)))))))
theorem sc_undoer : FnScope ["road", "taken", "settled", "tail", "worths", "low", "high"] ["road", "taken", "settled"] (defScope (top 8)) := ⟨rfl, rfl, rfl, by decide +kernel, rfl, by decide +kernel, by decide +kernel⟩
def b_undoer : SM := (seqS (forS (seqI (coldE (toE (ofX (ixX (vX 0) (toX (cP (.int 2)))))))) (nameT 3) (seqS (asgS (tupU 2 (consT (nameT 5) (consT (nameT 6) nilT))) (toE (pcall d_moments_met (consA (ofX (vX 3)) (consA (ofX (vX 1)) (consA (ofX (vX 2)) nilA))))))
    (seqS (asgS (nameT 4) (toE (pcall d_worths_of (consA (ofX (vX 3)) (consA (ofX (vX 1)) nilA)))))
    (ifS (toT (andT (bT (bX leD (vX 5) (vX 6))) (bT (bX isntD (vX 4) (toX (cP .non)))))) (retS (toE (tupP (consA (ofX (vX 5)) (consA (ofX (ixX (vX 3) (toX (cP (.int 0))))) (consA (ofX (ixX (ixX (vX 1) (toX (cP (.int 0)))) (toX (cP (.int 2))))) (consA (ofX (vX 4)) nilA))))))) nilS))))
    (retS (toE (cP .non))))
def d_undoer : FM := runF ["road", "taken", "settled", "tail", "worths", "low", "high"] [0, 0, 0] 0 b_undoer
theorem ok_undoer (T : Tx K mg) : FnOk P w K mg base CX0 5 (He.ga K "undoer") T.fd_undoer ["road", "taken", "settled"] (SpF K [0, 0, 0] 0 d_undoer) :=
  fnF T.F_undoer sc_undoer rfl fun cdv A outer s H E hr => (show GSs _ _ (defBody (top 8)) b_undoer from
      have hu := huR hr
      (gss_cons (gs_for PassesOwn.never rfl (gi_seq0 (gx_ix (gx_var 0) gp_int.x).p.e) (gg_name 3 sc_undoer.nd) (gss_cons (gs_asg (gp_call (n := 3) (ok_moments_met T) (hr) (by rfl) (T.g_moments_met) (T.kp_moments_met) (T.b_moments_met) pass0 (ga_cons (gx_var 3).p (ga_cons (gx_var 1).p (ga_cons (gx_var 2).p ga_nil)))).e (gg_tupU rfl (ggs_cons (gg_name 5 sc_undoer.nd) (ggs_cons (gg_name 6 sc_undoer.nd) ggs_nil))))
      (gss_cons (gs_asg (gp_call (n := 2) (ok_worths_of T) (hr) (by rfl) (T.g_worths_of) (T.kp_worths_of) (T.b_worths_of) pass0 (ga_cons (gx_var 3).p (ga_cons (gx_var 1).p ga_nil))).e (gg_name 4 sc_undoer.nd))
      (gss_one (gs_if (GW.gt (gw_and (gt_cmp og_le sc_le (gx_var 5) (gx_var 6) (nomark _)) (gw_and1 (gt_cmp og_isnt sc_isnt (gx_var 4) gp_non.x (nomark _))))).e (gss_one (gs_ret (gp_tup (ga_cons (gx_var 5).p (ga_cons (gx_ix (gx_var 3) gp_int.x).p (ga_cons (gx_ix (gx_ix (gx_var 1) gp_int.x) gp_int.x).p (ga_cons (gx_var 4).p ga_nil))))).e)) gss_nil)))))
      (gss_one (gs_ret gp_non.e))))
theorem sc_law_right : FnScope ["_law_case_here", "_law_settled", "_law_due", "_law_way", "_law_handed", "_law_found", "_law_road_here", "_law_taken_here", "_law_kinds"] ["_law_case_here", "_law_settled", "_law_due", "_law_way"] (defScope (top 32)) := ⟨rfl, rfl, rfl, by decide +kernel, rfl, by decide +kernel, by decide +kernel⟩
def b_law_right : SM := (seqS (asgS (tupU 3 (consT (nameT 6) (consT (nameT 7) (consT (nameT 8) nilT)))) (toE (ofX (vX 0))))
    (seqS (asgS (nameT 4) (toE (ofX (ixX (toX (lstP (consA (callP listD (consA (ofX (vX 7)) nilA)) (consA (callP tupleD (consA (ofX (vX 7)) nilA)) nilA)))) (vX 3)))))
    (seqS (asgS (nameT 5) (toE (pcall d_undoer (consA (ofX (vX 6)) (consA (ofX (vX 4)) (consA (ofX (vX 1)) nilA))))))
    (seqS (ifS (toT (bT (bX neD (toX (callP listD (consA (ofX (vX 4)) nilA))) (vX 7)))) (retS (toE (cP (.bl false)))) nilS)
    (seqS (ifS (toT (bT (bX geI (vX 1) (vX 2)))) (retS (toE (bX isD (vX 5) (toX (cP .non))))) nilS)
    (retS (toE (andP (pcall d_law_is_happening (consA (ofX (vX 5)) (consA (ofX (vX 8)) nilA))) (andP (bX gtI (ixX (vX 5) (toX (cP (.int 0)))) (vX 1)) (pcall d_law_meets (consA (ofX (vX 6)) (consA (ofX (vX 5)) (consA (ofX (vX 7)) nilA)))))))))))))
def d_law_right : FM := runF ["_law_case_here", "_law_settled", "_law_due", "_law_way", "_law_handed", "_law_found", "_law_road_here", "_law_taken_here", "_law_kinds"] [0, 0, 0, 0] 0 b_law_right
theorem ok_law_right (T : Tx K mg) : FnOk P w K mg base CX0 6 (He.ga K "_law_right") T.fd_law_right ["_law_case_here", "_law_settled", "_law_due", "_law_way"] (SpF K [0, 0, 0, 0] 0 d_law_right) :=
  fnF T.F_law_right sc_law_right rfl fun cdv A outer s H E hr => (show GSs _ _ (defBody (top 32)) b_law_right from
      have hu := huR hr
      (gss_cons (gs_asg (gx_var 0).p.e (gg_tupU rfl (ggs_cons (gg_name 6 sc_law_right.nd) (ggs_cons (gg_name 7 sc_law_right.nd) (ggs_cons (gg_name 8 sc_law_right.nd) ggs_nil)))))
      (gss_cons (gs_asg (gx_ix (gp_lst (ga_cons (gp_callTy cg_list (by rfl) T.m_list (by decide +kernel) (ga_cons (gx_var 7).p ga_nil)) (ga_cons (gp_callTy cg_tuple (by rfl) T.m_tuple (by decide +kernel) (ga_cons (gx_var 7).p ga_nil)) ga_nil))).x (gx_var 3)).p.e (gg_name 4 sc_law_right.nd))
      (gss_cons (gs_asg (gp_call (n := 3) (ok_undoer T) (hr) (by rfl) (T.g_undoer) (T.kp_undoer) (T.b_undoer) pass0 (ga_cons (gx_var 6).p (ga_cons (gx_var 4).p (ga_cons (gx_var 1).p ga_nil)))).e (gg_name 5 sc_law_right.nd))
      (gss_cons (gs_if (gt_cmp (og_ne hu) sc_ne (gp_callTy cg_list (by rfl) T.m_list (by decide +kernel) (ga_cons (gx_var 4).p ga_nil)).x (gx_var 7) (nomark _)).e (gss_one (gs_ret gp_bl.e)) gss_nil)
      (gss_cons (gs_if (gt_cmp og_ge sc_ge (gx_var 1) (gx_var 2) (nomark _)).e (gss_one (gs_ret (gp_cmp og_is sc_is (gx_var 5) gp_non.x (nomark _)).e)) gss_nil)
      (gss_one (gs_ret (gp_and (gp_call (n := 2) (ok_law_is_happening T) (hr.mono (by decide)) (by rfl) (T.g_law_is_happening) (T.kp_law_is_happening) (T.b_law_is_happening) pass0 (ga_cons (gx_var 5).p (ga_cons (gx_var 8).p ga_nil))) (gp_and (gp_cmp og_gt sc_gt (gx_ix (gx_var 5) gp_int.x) (gx_var 1) (nomark _)) (gp_one (gp_call (n := 3) (ok_law_meets T) (hr.mono (by decide)) (by rfl) (T.g_law_meets) (T.kp_law_meets) (T.b_law_meets) pass0 (ga_cons (gx_var 6).p (ga_cons (gx_var 5).p (ga_cons (gx_var 7).p ga_nil))))))).e))))))))
theorem sc_law : FnScope ["_law_script", "_law_deck_here", "_law_cases", "_law_rows", "_law_case_here", "_law_last", "_law_due", "_law_some", "_law_settled", "_law_k", "_law_road_here", "_law_taken_here", "_law_kinds", "_law_tail"] ["_law_script"] (defScope (top 33)) := ⟨rfl, rfl, rfl, by decide +kernel, rfl, by decide +kernel, by decide +kernel⟩
def b_law : SM := (seqS (asgS (nameT 1) (ucall [0] 2 d_law_deck (valE (toE (ofX (vX 0))) nilE)))
    (seqS (asgS (nameT 2) (lcE 0 [9] (rngI1 (valE (toE (cP (.int 3))) nilE)) (nameT 9) yesT (ucall [2] 0 d_law_case (borE 1 nilE))))
    (frzS 2 (seqS (asgS (nameT 3) (toE (lstP nilA)))
    (seqS (forS (seqI (coldE (toE (ofX (vX 2))))) (nameT 4) (seqS (asgS (tupU 3 (consT (nameT 10) (consT (nameT 11) (consT (nameT 12) nilT)))) (toE (ofX (vX 4))))
    (seqS (asgS (nameT 5) (toE (ofX (ixX (ixX (vX 11) (toX (negP (toX (cP (.int 1)))))) (toX (cP (.int 0)))))))
    (seqS (asgS (nameT 6) (callE max1D (valE (bE0 addL (toE (lstP (consA (ofX (vX 5)) nilA))) (coldE (lcE 0 [13] (seqI (coldE (toE (ofX (ixX (vX 10) (toX (cP (.int 2)))))))) (nameT 13) yesT (toE (pcall d_law_last_met (consA (ofX (vX 13)) (consA (ofX (vX 11)) nilA))))))) nilE)))
    (seqS (asgS (nameT 7) (coldE (lstE 0 (valE (toE (ofX (vX 5))) (valE (toE (bX subD (vX 6) (toX (cP (.int 1))))) (valE (toE (ofX (vX 6))) (valE (bE0 addD (toE (bP addD (ofX (vX 6)) (cP (.int 1)))) (ucall [2, 0] 0 d_law_draw (borE 1 (valE (toE (cP (.int 9))) nilE)))) (valE (bE0 addD (toE (ofX (vX 5))) (ucall [2, 0] 0 d_law_great (borE 1 (valE (toE (bP addD (bX subD (vX 6) (vX 5)) (cP (.int 1)))) nilE)))) nilE))))))))
    (asgS (nameT 3) (bE0 addL (toE (ofX (vX 3))) (coldE (lcE 0 [8] (seqI (coldE (toE (ofX (vX 7))))) (nameT 8) (toT (bT (bX geI (vX 8) (vX 5)))) (toE (lstP (consA (ofX (vX 4)) (consA (ofX (vX 8)) (consA (ofX (vX 6)) nilA))))))))))))))
    (seqS (forS (seqI (coldE (toE (ofX (vX 3))))) (tupU 3 (consT (nameT 4) (consT (nameT 8) (consT (nameT 6) nilT)))) (ifS (toT (notT (tT (toX (pcall d_law_right (consA (ofX (vX 4)) (consA (ofX (vX 8)) (consA (ofX (vX 6)) (consA (cP (.int 0)) nilA))))))))) (retS (toE (cP (.bl false)))) nilS))
    (seqS (forS (seqI (coldE (toE (ofX (vX 3))))) (tupU 3 (consT (nameT 4) (consT (nameT 8) (consT (nameT 6) nilT)))) (ifS (toT (notT (tT (toX (pcall d_law_right (consA (ofX (vX 4)) (consA (ofX (vX 8)) (consA (ofX (vX 6)) (consA (cP (.int 1)) nilA))))))))) (retS (toE (cP (.bl false)))) nilS))
    (retS (toE (cP (.bl true)))))))))))
def d_law : FM := runF ["_law_script", "_law_deck_here", "_law_cases", "_law_rows", "_law_case_here", "_law_last", "_law_due", "_law_some", "_law_settled", "_law_k", "_law_road_here", "_law_taken_here", "_law_kinds", "_law_tail"] [0] 0 b_law
theorem ok_law (T : Tx K mg) : FnOk P w K mg base CX0 7 (He.ga K "law") T.fd_law ["_law_script"] (SpF K [0] 0 d_law) :=
  fnF T.F_law sc_law rfl fun cdv A outer s H E hr => (show GSs _ _ (defBody (top 33)) b_law from
      have hu := huR hr
      (gss_cons (gs_asg (ge_call (ok_law_deck T) (hr.mono (by decide)) (by rfl) (T.g_law_deck) (T.kp_law_deck) (T.b_law_deck) pass0 (gae_val (gx_var 0).p.e gae_nil)) (gg_name 1 sc_law.nd))
      (gss_cons (gs_setLc 0 2 (own := [("_law_k", 9)]) rfl sc_law.nd (gi_rng1 (by rfl) T.m_range (gae_val gp_int.e gae_nil)) (blkOk_by (by kernel_rfl)) (fun _ _ _ _ _ => (gg_name 9 sc_law.nd)) (fun _ _ _ _ _ => gts_nil) (fun _ _ _ _ _ => (ge_call (ok_law_case T) (hr) (by rfl) (T.g_law_case) (T.kp_law_case) (T.b_law_case) pass0 (gae_bor 1 gae_nil))))
      (gss_frz 2 (gss_cons (gs_asg (gp_lst ga_nil).e (gg_name 3 sc_law.nd))
      (gss_cons (gs_for PassesOwn.never rfl (gi_seq0 (gx_var 2).p.e) (gg_name 4 sc_law.nd) (gss_cons (gs_asg (gx_var 4).p.e (gg_tupU rfl (ggs_cons (gg_name 10 sc_law.nd) (ggs_cons (gg_name 11 sc_law.nd) (ggs_cons (gg_name 12 sc_law.nd) ggs_nil)))))
      (gss_cons (gs_asg (gx_ix (gx_ix (gx_var 11) (gp_neg gp_int.x).x) gp_int.x).p.e (gg_name 5 sc_law.nd))
      (gss_cons (gs_asg (ge_callB (cg_max1 rfl) (by rfl) T.m_max (by decide +kernel) (gae_val (ge_bin0 og_addL (gp_lst (ga_cons (gx_var 5).p ga_nil)).e (ge_lc 0 (own := [("_law_tail", 13)]) rfl sc_law.nd (gi_seq0 (gx_ix (gx_var 10) gp_int.x).p.e) (blkOk_by (by kernel_rfl)) (fun _ _ _ _ _ => (gg_name 13 sc_law.nd)) (fun _ _ _ _ _ => gts_nil) (fun _ _ _ _ _ => (gp_call (n := 2) (ok_law_last_met T) (hr.mono (by decide)) (by rfl) (T.g_law_last_met) (T.kp_law_last_met) (T.b_law_last_met) pass0 (ga_cons (gx_var 13).p (ga_cons (gx_var 11).p ga_nil))).e)).cold) gae_nil)) (gg_name 6 sc_law.nd))
      (gss_cons (gs_asg (ge_lst 0 (gae_val (gx_var 5).p.e (gae_val (gp_binX og_sub sc_sub (gx_var 6) gp_int.x).e (gae_val (gx_var 6).p.e (gae_val (ge_bin0 og_add (gp_bin og_add (gx_var 6).p gp_int).e (ge_call (ok_law_draw T) (hr.mono (by decide)) (by rfl) (T.g_law_draw) (T.kp_law_draw) (T.b_law_draw) pass0 (gae_bor 1 (gae_val gp_int.e gae_nil)))) (gae_val (ge_bin0 og_add (gx_var 5).p.e (ge_call (ok_law_great T) (hr.mono (by decide)) (by rfl) (T.g_law_great) (T.kp_law_great) (T.b_law_great) pass0 (gae_bor 1 (gae_val (gp_bin og_add (gp_binX og_sub sc_sub (gx_var 6) (gx_var 5)) gp_int).e gae_nil)))) gae_nil)))))).cold (gg_name 7 sc_law.nd))
      (gss_one (gs_asg (ge_bin0 og_addL (gx_var 3).p.e (ge_lc 0 (own := [("_law_settled", 8)]) rfl sc_law.nd (gi_seq0 (gx_var 7).p.e) (blkOk_by (by kernel_rfl)) (fun _ _ _ _ _ => (gg_name 8 sc_law.nd)) (fun _ _ _ _ _ => (gts_one (gt_cmp og_ge sc_ge (gx_var 8) (gx_var 5) (nomark _)).e)) (fun _ _ _ _ _ => (gp_lst (ga_cons (gx_var 4).p (ga_cons (gx_var 8).p (ga_cons (gx_var 6).p ga_nil)))).e)).cold) (gg_name 3 sc_law.nd))))))))
      (gss_cons (gs_for PassesOwn.never rfl (gi_seq0 (gx_var 3).p.e) (gg_tupU rfl (ggs_cons (gg_name 4 sc_law.nd) (ggs_cons (gg_name 8 sc_law.nd) (ggs_cons (gg_name 6 sc_law.nd) ggs_nil)))) (gss_one (gs_if (gt_not (gt_truth (gp_call (n := 4) (ok_law_right T) (hr) (by rfl) (T.g_law_right) (T.kp_law_right) (T.b_law_right) pass0 (ga_cons (gx_var 4).p (ga_cons (gx_var 8).p (ga_cons (gx_var 6).p (ga_cons gp_int ga_nil))))).x)).e (gss_one (gs_ret gp_bl.e)) gss_nil)))
      (gss_cons (gs_for PassesOwn.never rfl (gi_seq0 (gx_var 3).p.e) (gg_tupU rfl (ggs_cons (gg_name 4 sc_law.nd) (ggs_cons (gg_name 8 sc_law.nd) (ggs_cons (gg_name 6 sc_law.nd) ggs_nil)))) (gss_one (gs_if (gt_not (gt_truth (gp_call (n := 4) (ok_law_right T) (hr) (by rfl) (T.g_law_right) (T.kp_law_right) (T.b_law_right) pass0 (ga_cons (gx_var 4).p (ga_cons (gx_var 8).p (ga_cons (gx_var 6).p (ga_cons gp_int ga_nil))))).x)).e (gss_one (gs_ret gp_bl.e)) gss_nil)))
      (gss_one (gs_ret gp_bl.e))))))))))
end
@[simp] theorem s_0 : PySem.Str.ofString "abcdefghijklmnopqrstuvwxyz" = S [97, 98, 99, 100, 101, 102, 103, 104, 105, 106, 107, 108, 109, 110, 111, 112, 113, 114, 115, 116, 117, 118, 119, 120, 121, 122] := by decide +kernel
@[simp] theorem s_1 : PySem.Str.ofString "kind" = S [107, 105, 110, 100] := by decide +kernel
@[simp] theorem s_2 : PySem.Str.ofString "watch" = S [119, 97, 116, 99, 104] := by decide +kernel
@[simp] theorem s_3 : PySem.Str.ofString "one" = S [111, 110, 101] := by decide +kernel
@[simp] theorem s_4 : PySem.Str.ofString "many" = S [109, 97, 110, 121] := by decide +kernel
@[simp] theorem s_5 : PySem.Str.ofString "any" = S [97, 110, 121] := by decide +kernel
@[simp] theorem s_6 : PySem.Str.ofString "all" = S [97, 108, 108] := by decide +kernel
@[simp] theorem s_7 : PySem.Str.ofString "none" = S [110, 111, 110, 101] := by decide +kernel
@[simp] theorem s_8 : PySem.Str.ofString "tail" = S [116, 97, 105, 108] := by decide +kernel
@[simp] theorem s_9 : PySem.Str.ofString "by" = S [98, 121] := by decide +kernel
@[simp] theorem s_10 : PySem.Str.ofString "key" = S [107, 101, 121] := by decide +kernel
@[simp] theorem s_11 : PySem.Str.ofString "within" = S [119, 105, 116, 104, 105, 110] := by decide +kernel
@[simp] theorem s_12 : PySem.Str.ofString "for" = S [102, 111, 114] := by decide +kernel
@[simp] theorem s_13 : PySem.Str.ofString "or" = S [111, 114] := by decide +kernel
@[simp] theorem s_14 : PySem.Str.ofString "and" = S [97, 110, 100] := by decide +kernel
@[simp] theorem s_15 : PySem.Str.ofString "at" = S [97, 116] := by decide +kernel
@[simp] theorem s_16 : PySem.Str.ofString "every" = S [101, 118, 101, 114, 121] := by decide +kernel
@[simp] theorem s_17 : PySem.Str.ofString "next" = S [110, 101, 120, 116] := by decide +kernel
@[simp] theorem s_18 : PySem.Str.ofString "free" = S [102, 114, 101, 101] := by decide +kernel
@[simp] theorem s_19 : PySem.Str.ofString "apart" = S [97, 112, 97, 114, 116] := by decide +kernel
@[simp] theorem s_20 : PySem.Str.ofString "" = S [] := by decide +kernel
@[simp] theorem s_21 : PySem.Str.ofString "z" = S [122] := by decide +kernel
@[simp] theorem s_22 : PySem.Str.ofString "<=" = S [60, 61] := by decide +kernel
@[simp] theorem s_23 : PySem.Str.ofString ">=" = S [62, 61] := by decide +kernel
@[simp] theorem s_24 : PySem.Str.ofString "=" = S [61] := by decide +kernel

end Law

namespace Law
open PySem PySem.Spec PyProof.Rows L2 Wr
def Dk (i : Nat) (d : D) : Prop := ∃ (cs : List Int) (n : Nat), d = .lst [.lst (cs.map .int), .int n] ∧ n ≤ i ∧ ∀ c ∈ cs, 0 ≤ c
theorem Dk.mono {i j : Nat} {d : D} (h : Dk i d) (l : i ≤ j) : Dk j d := let ⟨cs, n, a, b, c⟩ := h; ⟨cs, n, a, by omega, c⟩
theorem draw_wp {i : Nat} {d : D} {m : Int} {Q : D × List D → Prop} (h : Dk i d) (hi : i < 10 ^ 9) (hm : 0 < m) (hm2 : m < 2 ^ 64) (q : ∀ v d', 0 ≤ v → v < m → Dk (i + 1) d' → Q (.int v, [d', .int m])) : OB (d_law_draw [d, .int m]) Q := by
  obtain ⟨cs, n, rfl, hn, hc⟩ := h
  unfold d_law_draw b_law_draw
  have hk : mulOk 7919 ((n : Int) + 1) = true := mulOk_l _ _ (by omega)
  have hm3 : m.natAbs.log2 < 9000 := by
    have : m.natAbs.log2 < 64 := (Nat.log2_lt (by omega)).mpr (by omega)
    omega
  have tail : ∀ c : Int, 0 ≤ c → c < 2147483587 → ((c + 7919 * ((n : Int) + 1) + 1).natAbs < 18446744073709551616) := fun c h1 h2 => by omega
  by_cases h0 : cs = []
  · subst h0
    have t0 : (7919 * ((n : Int) + 1) + 1).natAbs < 18446744073709551616 := by omega
    simp [hk, hm, t0]
    exact q _ _ (Int.emod_nonneg _ (by omega)) (Int.emod_lt_of_pos _ hm) ⟨[], n + 1, by simp, by omega, by simp⟩
  · have hl : 0 < cs.length := List.length_pos_iff.mpr h0
    obtain ⟨p, hp, hp2⟩ : ∃ p : Nat, ((n : Int) + 1) % (cs.length : Int) = p ∧ p < cs.length := ⟨(n + 1) % cs.length, by simp, Nat.mod_lt _ hl⟩
    have hat : L2.atI (cs.map D.int) (p : Int) = some (.int cs[p]) := by rw [atI_nat (by simpa using hp2)]; simp
    have hc0 := hc _ (List.getElem_mem hp2)
    by_cases hb : 1000000000000000000 ≤ cs[p]
    · simp [hk, hm, hm3, hl, hp, hat, hb, ixN_nat, hp2]
      refine q _ _ (Int.emod_nonneg _ (by omega)) (Int.emod_lt_of_pos _ hm) ⟨cs.set p (cs[p] / m), n + 1, by simp [List.map_set], by omega, fun c hx => ?_⟩
      rcases List.mem_or_eq_of_mem_set hx with z | z
      · exact hc c z
      · subst z; exact Int.ediv_nonneg hc0 (by omega)
    · simp [hk, hm, hm3, hl, hp, hat, hb, tail (cs[p] % 2147483587) (Int.emod_nonneg _ (by omega)) (Int.emod_lt_of_pos _ (by omega))]
      exact q _ _ (Int.emod_nonneg _ (by omega)) (Int.emod_lt_of_pos _ hm) ⟨cs, n + 1, by simp, by omega, hc⟩
theorem deck_wp {ns : List Int} {Q : D × List D → Prop} (hl : ns.length ≤ 63) (q : ∀ d, Dk 0 d → Q (d, [.lst (ns.map .int)])) : OB (d_law_deck [.lst (ns.map .int)]) Q := by
  unfold d_law_deck b_law_deck
  have hs : (cutL ns none (some 63)).length ≤ 16777216 := Nat.le_trans (cutL_le ns none (some 63)) (by omega)
  simp [cutL_map, hs]
  refine (lcL_ob (fun ds acc e => ∃ ms cs x, ds = List.map D.int ms ∧ acc = List.map D.int cs ∧ (∀ c ∈ cs, 0 ≤ c) ∧ e = [some (0, .lst (ns.map .int)), x]) (Q := fun r => (∃ cs, r.1 = List.map D.int cs ∧ ∀ c ∈ cs, 0 ≤ c) ∧ ∃ x, r.2 = [some (0, .lst (ns.map .int)), x])
    ?_ ?_ _ [] _ ⟨_, [], _, rfl, rfl, by simp, rfl⟩).imp ?_
  · rintro d ds acc e ⟨ms, cs, x, h1, rfl, h3, rfl⟩
    cases ms with
    | nil => cases h1
    | cons m ms =>
      cases h1
      simp
      refine ⟨⟨ms, rfl⟩, cs ++ [if m < 0 then -m else m], by simp, fun c hc => ?_⟩
      rcases List.mem_append.mp hc with z | z
      · exact h3 c z
      · simp at z; subst z; split <;> omega
  · rintro acc e ⟨ms, cs, x, h1, rfl, h3, rfl⟩
    exact ⟨⟨cs, rfl, h3⟩, x, rfl⟩
  · rintro ⟨a, e⟩ ⟨⟨cs, h1, h2⟩, x, h3⟩
    simp at h1 h3
    subst h1 h3
    simp
    exact q _ ⟨cs, 0, by simp, by omega, h2⟩
end Law

namespace Law
open PySem PySem.Spec PyProof.Rows L2 Wr
/-- a word -/
def W (w : List Nat) : Prop := w.length ≤ 40 ∧ ∀ c ∈ w, c < 1114112
theorem strsOf_S : ∀ ws : List (List Nat), strsOf (ws.map fun w => .str (S w)) = some (ws.map S)
  | [] => rfl
  | w :: ws => by rw [List.map_cons, strsOf, strsOf_S ws]; rfl
theorem joinL_one : ∀ cs : List Nat, TL.joinL [] (cs.map fun c => [c]) = cs
  | [] => rfl
  | [c] => rfl
  | c :: d :: cs => by
    have := joinL_one (d :: cs)
    simp only [List.map_cons] at this ⊢
    rw [TL.joinL, this]; rfl
theorem joinD_S (cs : List Nat) (h : cs.length ≤ 1000) : joinD (.str (S [])) (.lst (cs.map fun c => .str (S [c]))) = some (.str (S cs)) := by
  have e : (cs.map fun c => D.str (S [c])) = (cs.map fun c => [c]).map fun w => .str (S w) := by simp
  show ((strsOf (cs.map fun c => D.str (S [c]))).bind fun ys => if (ys.map (·.length)).sum + ys.length * (S []).length ≤ 16777216 then some (D.str (Txt.join (S []) ys)) else none) = _
  rw [e, strsOf_S, bind_some', if_pos]
  · have := SX.join_S [] (cs.map fun c => [c])
    rw [joinL_one] at this
    exact congrArg (fun x => some (D.str x)) this
  · have h1 : (((cs.map fun c => [c]).map S).map (·.length)).sum = cs.length := by
      clear h e
      induction cs with
      | nil => rfl
      | cons c cs ih => simp only [List.map_cons, List.sum_cons, ih, S_len]; simp; omega
    rw [h1]
    simp [S_len]
    omega
theorem atI_last {w : List Nat} (h : w ≠ []) : ∃ c, L2.atI w (-1) = some c ∧ c ∈ w := by
  have hl : 0 < w.length := List.length_pos_iff.mpr h
  have := ixN_neg (n := w.length) (i := 0) hl
  refine ⟨w[w.length - 1], ?_, List.getElem_mem _⟩
  unfold L2.atI
  rw [show (-1 : Int) = -(((0 : Nat) : Int) + 1) by rfl, this]
  show w[w.length - 1 - 0]? = _
  rw [Nat.sub_zero, List.getElem?_eq_getElem (by omega)]
theorem inB_some (w : List Nat) (ws : List D) (h : ws.all flatD = true) : ∃ b, inB (.str (S w)) (.lst ws) = some (.bl b) := by
  refine ⟨inL (.str (S w)) ws, ?_⟩
  show ((if flatD (.str (S w)) = true ∧ ws.all flatD = true then some (inL (.str (S w)) ws) else none).map D.bl) = _
  rw [if_pos ⟨rfl, h⟩]; rfl
theorem alpha_lt : ∀ c ∈ [97, 98, 99, 100, 101, 102, 103, 104, 105, 106, 107, 108, 109, 110, 111, 112, 113, 114, 115, 116, 117, 118, 119, 120, 121, 122], c < 1114112 := by decide
theorem inB_ob {w : List Nat} {ws : List D} {Q : D → Prop} (h : ws.all flatD = true) (q : ∀ b, Q (.bl b)) : OB (inB (.str (S w)) (.lst ws)) Q := by
  obtain ⟨b, e⟩ := inB_some w ws h
  exact ⟨_, e, q b⟩
theorem W.app {a b : List Nat} (ha : ∀ c ∈ a, c < 1114112) (hb : ∀ c ∈ b, c < 1114112) : ∀ c ∈ a ++ b, c < 1114112 := fun c hc => (List.mem_append.mp hc).elim (ha c) (hb c)
theorem cutL_mem {α : Type} {xs : List α} {lo hi : Option Int} {c : α} (h : c ∈ cutL xs lo hi) : c ∈ xs := by
  unfold cutL at h
  exact List.mem_of_mem_drop (List.mem_of_mem_take h)
structure Hap where
  m : Int
  k : List Nat
  key : Int
  ws : List Int
def hD (h : Hap) : D := .tup [.int h.m, .str (S h.k), .int h.key, .tup (h.ws.map D.int)]
def HOk (h : Hap) : Prop := W h.k ∧ h.ws.length ≤ 3
def kD (x : List Nat × Nat) : D := .tup [.str (S x.1), .int x.2]
def KOk (x : List Nat × Nat) : Prop := W x.1 ∧ x.2 ≤ 3
structure Tst where
  slot : Nat
  op : Nat
  place : Option Nat
  other : Nat
  due : Int
def opT : Nat → List Nat
  | 0 => [60, 61]
  | 1 => [62, 61]
  | _ => [61]
def plI : Option Nat → Int
  | none => -1
  | some p => p
def tD (t : Tst) : D := .tup [.int t.slot, .str (S (opT t.op)), .int (plI t.place), .int t.other, .int t.due]
def worthF (h : Hap) (s : Nat) : Int := if s = 0 then h.m else h.ws.getD (s - 1) 0
theorem ixws {ws : List Int} {s : Nat} (h0 : s ≠ 0) (h : s ≤ ws.length) : L2.atI (ws.map D.int) ((s : Int) - 1) = some (.int (ws.getD (s - 1) 0)) := by
  obtain ⟨k, rfl⟩ := Nat.exists_eq_succ_of_ne_zero h0
  rw [show (((k.succ : Nat) : Int) - 1) = (k : Int) by omega, Wr.atI_nat (by simp; omega)]
  simp [List.getElem?_eq_getElem (show k < ws.length by omega)]
/-- the number that is due -/
def dueF (hs : List Hap) (t : Tst) : Int := t.due + match t.place with
  | none => 0
  | some p => match hs[p]? with
    | some x => worthF x t.other
    | none => 0
theorem hs_at {hs : List Hap} {p : Nat} {x : Hap} (h : hs[p]? = some x) : L2.atI (hs.map hD) (p : Int) = some (.tup [.int x.m, .str (S x.k), .int x.key, .tup (x.ws.map D.int)]) := by
  obtain ⟨hl, e⟩ := List.getElem?_eq_some_iff.mp h
  rw [Wr.atI_nat (by simpa using hl)]
  simp [e, hD]
theorem W.pl {w : List Nat} (h : W w) (n : Nat) : pl n (.str (S w)) := by
  have : PyData.strOk (S w) = true := by simp [PyData.strOk, S]; exact h.2
  cases n <;> exact this
theorem HOk.pl {h : Hap} (hh : HOk h) (n : Nat) : pl (n + 2) (hD h) := by
  intro x hx
  simp at hx
  rcases hx with rfl | rfl | rfl | rfl
  · exact pl_int _ _
  · exact hh.1.pl _
  · exact pl_int _ _
  · intro y hy
    obtain ⟨z, _, rfl⟩ := List.mem_map.mp hy
    exact pl_int _ _
theorem hs_pl {hs : List Hap} (h : ∀ x ∈ hs, HOk x) : Wr.pl 64 (.lst (hs.map hD)) := by
  intro y hy
  obtain ⟨z, hz, rfl⟩ := List.mem_map.mp hy
  exact (h z hz).pl 61
theorem hs_ne {hs : List Hap} (h : ∀ x ∈ hs, HOk x) : neD (.lst (hs.map hD)) (.lst []) = some (.bl (!decide (hs = []))) := by
  by_cases h0 : hs = []
  · subst h0; exact neD_same (hs_pl h)
  · rw [neD_unlike (y := .lst []) (hs_pl h) (show Wr.pl 64 (.lst []) from fun x hx => by cases hx) (fun z => h0 (by simpa using z))]; simp [h0]
theorem last_at {hs : List Hap} (h : hs ≠ []) : ∃ y, y ∈ hs ∧ L2.atI (hs.map hD) (-1) = some (hD y) := by
  have hl : 0 < hs.length := List.length_pos_iff.mpr h
  have := ixN_neg (n := (hs.map hD).length) (i := 0) (by simpa using hl)
  refine ⟨hs[hs.length - 1], List.getElem_mem _, ?_⟩
  unfold L2.atI
  rw [show (-1 : Int) = -(((0 : Nat) : Int) + 1) by rfl, this]
  show (hs.map hD)[(hs.map hD).length - 1 - 0]? = _
  rw [Nat.sub_zero, List.getElem?_map, List.length_map, List.getElem?_eq_getElem (by omega)]
  rfl
theorem opT_pl (o : Nat) (n : Nat) : Wr.pl n (.str (S (opT o))) := by
  have : W (opT o) := by
    unfold opT
    split <;> exact ⟨by decide, by decide⟩
  exact this.pl n
theorem tD_pl (t : Tst) (n : Nat) : Wr.pl (n + 2) (tD t) := by
  intro x hx
  simp at hx
  rcases hx with rfl | rfl | rfl | rfl | rfl
  · exact pl_int _ _
  · exact opT_pl _ _
  · exact pl_int _ _
  · exact pl_int _ _
  · exact pl_int _ _
end Law

namespace Law
open PySem PySem.Spec PyProof.Rows L2 Wr
theorem great_wp {i : Nat} {d : D} {m : Int} {Q : D × List D → Prop} (h : Dk i d) (hi : i < 10 ^ 8) (hm : 0 < m) (hm2 : m < 2 ^ 64) (q : ∀ v d', 0 ≤ v → v < m → Dk (i + 3) d' → Q (.int v, [d', .int m])) : OB (d_law_great [d, .int m]) Q := by
  unfold d_law_great b_law_great
  simp
  refine draw_wp h (by omega) (by omega) (by omega) fun v1 d1 _ _ h => ?_
  simp [mulOk_r]
  refine draw_wp h (by omega) (by omega) (by omega) fun v2 d2 _ _ h => ?_
  simp [mulOk_r]
  refine draw_wp h (by omega) (by omega) (by omega) fun v3 d3 _ _ h => ?_
  simp
  refine ⟨by omega, ?_⟩
  exact q _ _ (Int.emod_nonneg _ (by omega)) (Int.emod_lt_of_pos _ hm) (h.mono (by omega))
theorem num_wp {i : Nat} {d : D} {Q : D × List D → Prop} (h : Dk i d) (hi : i < 10 ^ 7) (q : ∀ (z : Int) (d' : D), Dk (i + 5) d' → Q (.int z, [d'])) : OB (d_law_worth [d]) Q := by
  unfold d_law_worth b_law_worth
  simp
  refine draw_wp h (by omega) (by omega) (by omega) fun v d1 v0 v1 h => ?_
  simp [mulOk_r]
  refine ⟨fun hv => ?_, fun hv => ⟨fun hv2 => ?_, fun hv2 => ?_⟩⟩
  · refine draw_wp h (by omega) (by omega) (by omega) fun v2 d2 _ _ h => ?_
    simp
    exact q _ _ (h.mono (by omega))
  · refine great_wp h (by omega) (by omega) (by omega) fun v2 d2 _ _ h => ?_
    simp
    exact q _ _ (h.mono (by omega))
  · refine draw_wp h (by omega) (by omega) (by omega) fun v2 d2 _ _ h => ?_
    rcases (show v2 = 0 ∨ v2 = 1 by omega) with rfl | rfl
    all_goals
      simp
      exact q _ _ (h.mono (by omega))
theorem cut_wp {z m : Int} {Q : D × List D → Prop} (q : ∀ y : Int, Q (.int y, [.int z, .int m])) : OB (d_law_cut [.int z, .int m]) Q := by
  unfold d_law_cut b_law_cut
  simp
  exact q _
theorem az_at : ∀ p : Fin 26, L2.atI ([97, 98, 99, 100, 101, 102, 103, 104, 105, 106, 107, 108, 109, 110, 111, 112, 113, 114, 115, 116, 117, 118, 119, 120, 121, 122] : List Nat) (p.val : Int) = some (97 + p.val) := by decide
theorem mid_ne {a b : List Nat} {x y : Nat} {bx by_ : Bool} (h : (if bx then 122 :: (a ++ x :: b) else a ++ x :: b) = (if by_ then 122 :: (a ++ y :: b) else a ++ y :: b)) : x = y := by
  have hl := congrArg List.length h
  cases bx <;> cases by_
  · simpa using h
  · simp at hl
  · simp at hl
  · simpa using h
theorem step_ne {first step : Int} {i j : Nat} (h13 : step % 13 ≠ 0) (hj : j < 3) (hij : i < j) : (first + step * i) % 26 ≠ (first + step * j) % 26 := by
  intro h
  rcases (show (i = 0 ∧ j = 1) ∨ (i = 0 ∧ j = 2) ∨ (i = 1 ∧ j = 2) by omega) with ⟨rfl, rfl⟩ | ⟨rfl, rfl⟩ | ⟨rfl, rfl⟩
  all_goals simp at h; omega
theorem names_wp {i n : Nat} {d : D} {Q : D × List D → Prop} (hi : i < 10 ^ 6) (hn : n ≤ 3) (hd : Dk i d) (q : ∀ (ws : List (List Nat)) d', ws.length = n → (∀ w ∈ ws, W w) → ws.Nodup → Dk (i + 20) d' → Q (.lst (ws.map fun w => .str (S w)), [d', .int n])) : OB (d_law_names [d, .int n]) Q := by
  have loop1 : ∀ (d : D) (m : Nat) (e3 e4 e5 e6 e7 e8 e10 : Option (Nat × D)), m ≤ 10 → Dk (i + 1) d → OB (lcL 0 [9] (nameT 9) yesT (ixV 2 (ucall [2, 0] 0 d_law_draw (borE 0 (valE (toE (cP (.int 26))) nilE)))) (rangeD 0 (m : Nat)) [some (2, d), some (0, .int n), some (0, .str (S [97, 98, 99, 100, 101, 102, 103, 104, 105, 106, 107, 108, 109, 110, 111, 112, 113, 114, 115, 116, 117, 118, 119, 120, 121, 122])), e3, e4, e5, e6, e7, e8, none, e10])
      fun r => Hid (∃ (w : List Nat) (d' : D) (e9 : Option (Nat × D)), w.length = m ∧ (∀ c ∈ w, c < 1114112) ∧ Dk (i + 1 + m) d' ∧ r = (w.map fun c => .str (S [c]), [some (2, d'), some (0, .int n), some (0, .str (S [97, 98, 99, 100, 101, 102, 103, 104, 105, 106, 107, 108, 109, 110, 111, 112, 113, 114, 115, 116, 117, 118, 119, 120, 121, 122])), e3, e4, e5, e6, e7, e8, e9, e10])) := by
    intro d m e3 e4 e5 e6 e7 e8 e10 hm hd
    refine (lcL_ob (Q := fun r => ∃ (w : List Nat) (d' : D) (e9 : Option (Nat × D)), w.length = m ∧ (∀ c ∈ w, c < 1114112) ∧ Dk (i + 1 + m) d' ∧ r = (w.map fun c => .str (S [c]), [some (2, d'), some (0, .int n), some (0, .str (S [97, 98, 99, 100, 101, 102, 103, 104, 105, 106, 107, 108, 109, 110, 111, 112, 113, 114, 115, 116, 117, 118, 119, 120, 121, 122])), e3, e4, e5, e6, e7, e8, e9, e10]))
      (fun ds acc e => Hid (∃ (w : List Nat) (d' : D) (e9 : Option (Nat × D)), w.length + ds.length = m ∧ acc = w.map (fun c => .str (S [c])) ∧ (∀ c ∈ w, c < 1114112) ∧ Dk (i + 1 + w.length) d' ∧ e = [some (2, d'), some (0, .int n), some (0, .str (S [97, 98, 99, 100, 101, 102, 103, 104, 105, 106, 107, 108, 109, 110, 111, 112, 113, 114, 115, 116, 117, 118, 119, 120, 121, 122])), e3, e4, e5, e6, e7, e8, e9, e10])) ?_ ?_ _ [] _
      (Hid.mk ⟨[], d, none, by simp [rangeD_len0], rfl, (fun _ z => by cases z), hd, rfl⟩)).imp ?_
    · rintro x ds acc e ⟨w, d', e2, h1, rfl, h2, hd', rfl⟩
      simp only [List.length_cons] at h1
      simp
      refine draw_wp hd' (by omega) (by omega) (by omega) fun v d2 v0 v1 hd2 => ?_
      simp
      refine OB_atI v0 (by simpa using v1) fun c hc => ?_
      simp
      refine Hid.mk ⟨w ++ [c], d2, _, by simp; omega, by simp, fun y hy => ?_, hd2.mono (by simp; omega), rfl⟩
      rcases List.mem_append.mp hy with z | z
      · exact h2 y z
      · simp at z; subst z; exact alpha_lt _ hc
    · rintro acc e ⟨w, d', e2, h1, rfl, h2, hd', rfl⟩
      simp at h1
      exact ⟨w, d', e2, h1, h2, hd'.mono (by omega), rfl⟩
    · rintro r ⟨w, d', e2, h1, h2, h3, h⟩
      exact Hid.mk ⟨w, d', e2, h1, h2, h3, Prod.ext (by simpa using congrArg Prod.fst h) (by have := congrArg Prod.snd h; exact this)⟩
  have loop2 : ∀ (d : D) (wl : List D) (stem : List Nat) (at_ first step : Int), wl.all flatD = true → stem.length ≤ 10 → (∀ c ∈ stem, c < 1114112) → -(2 ^ 64) < step → step < 2 ^ 64 → step % 13 ≠ 0 →
    OB (forL (nameT 9) (seqS (asgS (nameT 10) (toE (bP addD (bP addD (slP (ofX (vX 4)) noO (someO (ofX (vX 5)))) (ofX (ixX (vX 2) (toX (bX modD (toX (bP addD (ofX (vX 6)) (bX mulX (vX 7) (vX 9)))) (toX (cP (.int 26)))))))) (slP (ofX (vX 4)) (someO (ofX (vX 5))) noO))))
    (seqS (ifS (toT (bT (bX inB (vX 10) (vX 3)))) (asgS (nameT 10) (toE (bP addD (cP (.str (S [122]))) (ofX (vX 10))))) nilS)
    (dropS (appS 8 (toE (ofX (vX 10))))))) (rangeD 0 (n : Nat)) [some (2, d), some (0, .int n), some (0, .str (S [97, 98, 99, 100, 101, 102, 103, 104, 105, 106, 107, 108, 109, 110, 111, 112, 113, 114, 115, 116, 117, 118, 119, 120, 121, 122])), some (0, .lst wl), some (0, .str (S stem)), some (0, .int at_), some (0, .int first), some (0, .int step), some (1, .lst []), none, none])
      fun o => Hid (∃ (ws : List (List Nat)) (e9 e10 : Option (Nat × D)), ws.length = n ∧ (∀ w ∈ ws, W w) ∧ ws.Nodup ∧ o = .nx [some (2, d), some (0, .int n), some (0, .str (S [97, 98, 99, 100, 101, 102, 103, 104, 105, 106, 107, 108, 109, 110, 111, 112, 113, 114, 115, 116, 117, 118, 119, 120, 121, 122])), some (0, .lst wl), some (0, .str (S stem)), some (0, .int at_), some (0, .int first), some (0, .int step), some (1, .lst (ws.map fun w => .str (S w))), e9, e10]) := by
    intro d wl stem at_ first step hwl hs1 hs2 hst1 hst2 h13
    obtain ⟨pre, hpre⟩ : ∃ pre, pre = cutL stem none (some at_) := ⟨_, rfl⟩
    obtain ⟨suf, hsuf⟩ : ∃ suf, suf = cutL stem (some at_) none := ⟨_, rfl⟩
    refine forN_ob (fun j e => Hid (∃ (ws : List (List Nat)) (e9 e10 : Option (Nat × D)), ws.length = j ∧ (∀ w ∈ ws, W w) ∧ ws.Nodup ∧ (∀ w ∈ ws, ∃ (i : Nat) (b : Bool), i < j ∧ w = if b then 122 :: (pre ++ (97 + ((first + step * i) % 26).toNat) :: suf) else pre ++ (97 + ((first + step * i) % 26).toNat) :: suf) ∧ e = [some (2, d), some (0, .int n), some (0, .str (S [97, 98, 99, 100, 101, 102, 103, 104, 105, 106, 107, 108, 109, 110, 111, 112, 113, 114, 115, 116, 117, 118, 119, 120, 121, 122])), some (0, .lst wl), some (0, .str (S stem)), some (0, .int at_), some (0, .int first), some (0, .int step), some (1, .lst (ws.map fun w => .str (S w))), e9, e10])) ?_ ?_ _ (Hid.mk ⟨[], _, _, rfl, (fun _ z => by cases z), .nil, (fun _ z => by cases z), rfl⟩)
    · rintro j e hj ⟨ws, e9, e10, hl, hw, hnd, hform, rfl⟩
      have hmk : mulOk step (j : Int) = true := mulOk_r _ _ (by omega)
      simp [hmk, show stem.length ≤ 16777216 by omega]
      obtain ⟨sg, hsgd⟩ : ∃ sg, sg = 97 + ((first + step * (j : Nat)) % 26).toNat := ⟨_, rfl⟩
      have hp0 := Int.emod_nonneg (first + step * (j : Nat)) (show (26 : Int) ≠ 0 by omega)
      have hp1 := Int.emod_lt_of_pos (first + step * (j : Nat)) (show (0 : Int) < 26 by omega)
      have hsat : L2.atI ([97, 98, 99, 100, 101, 102, 103, 104, 105, 106, 107, 108, 109, 110, 111, 112, 113, 114, 115, 116, 117, 118, 119, 120, 121, 122] : List Nat) ((first + step * (j : Nat)) % 26) = some sg := by
        have := az_at ⟨((first + step * (j : Nat)) % 26).toNat, by omega⟩
        simp only at this
        rw [Int.toNat_of_nonneg hp0] at this
        rw [this, hsgd]
      have hsg : sg < 1114112 := by omega
      simp [hsat]
      have hl0 := cutL_le stem none (some at_)
      have hl1 := cutL_le stem (some at_) none
      have hcc : ∀ c ∈ cutL stem none (some at_) ++ ([sg] ++ cutL stem (some at_) none), c < 1114112 := W.app (fun c hc => hs2 c (cutL_mem hc)) (W.app (fun c hc => by simp at hc; subst hc; exact hsg) (fun c hc => hs2 c (cutL_mem hc)))
      have fin : ∀ (w : List Nat) (y9 y10 : Option (Nat × D)), w.length ≤ 40 → (∀ c ∈ w, c < 1114112) → (∃ b : Bool, w = if b then 122 :: (pre ++ sg :: suf) else pre ++ sg :: suf) →
        Hid (∃ (ws' : List (List Nat)) (e9 e10 : Option (Nat × D)), ws'.length = j + 1 ∧ (∀ w ∈ ws', W w) ∧ ws'.Nodup ∧ (∀ w ∈ ws', ∃ (i : Nat) (b : Bool), i < j + 1 ∧ w = if b then 122 :: (pre ++ (97 + ((first + step * i) % 26).toNat) :: suf) else pre ++ (97 + ((first + step * i) % 26).toNat) :: suf) ∧ [some (2, d), some (0, .int n), some (0, .str (S [97, 98, 99, 100, 101, 102, 103, 104, 105, 106, 107, 108, 109, 110, 111, 112, 113, 114, 115, 116, 117, 118, 119, 120, 121, 122])), some (0, .lst wl), some (0, .str (S stem)), some (0, .int at_), some (0, .int first), some (0, .int step), some (1, .lst ((ws.map fun w => .str (S w)) ++ [.str (S w)])), y9, y10] =
          [some (2, d), some (0, .int n), some (0, .str (S [97, 98, 99, 100, 101, 102, 103, 104, 105, 106, 107, 108, 109, 110, 111, 112, 113, 114, 115, 116, 117, 118, 119, 120, 121, 122])), some (0, .lst wl), some (0, .str (S stem)), some (0, .int at_), some (0, .int first), some (0, .int step), some (1, .lst (ws'.map fun w => .str (S w))), e9, e10]) := fun w y9 y10 hwl hwc ⟨b, hwb⟩ => by
        refine Hid.mk ⟨ws ++ [w], y9, y10, by simp [hl], fun v hv => ?_, ?_, fun v hv => ?_, by rw [List.map_append]; rfl⟩
        · rcases List.mem_append.mp hv with z | z
          · exact hw v z
          · simp at z; subst z; exact ⟨hwl, hwc⟩
        · refine List.nodup_append.mpr ⟨hnd, by simp, fun a ha c hc => ?_⟩
          simp at hc; subst hc
          intro e
          obtain ⟨i', b', hi', hwi⟩ := hform a ha
          have := mid_ne (e.symm.trans hwi |>.symm.trans hwb)
          rw [hsgd] at this
          have h0 := Int.emod_nonneg (first + step * (i' : Nat)) (show (26 : Int) ≠ 0 by omega)
          exact step_ne (first := first) h13 (by omega) hi' (by omega)
        · rcases List.mem_append.mp hv with z | z
          · obtain ⟨i', b', hi', hwi⟩ := hform v z
            exact ⟨i', b', by omega, hwi⟩
          · simp at z; subst z; exact ⟨j, b, by omega, by rw [hwb, hsgd]⟩
      refine ⟨by omega, by omega, by omega, ?_⟩
      refine inB_ob hwl fun b => ?_
      cases b with
      | false =>
        simp
        exact ⟨by omega, fin (cutL stem none (some at_) ++ sg :: cutL stem (some at_) none) _ _ (by simp; omega) hcc ⟨false, by rw [hpre, hsuf]; rfl⟩⟩
      | true =>
        simp
        refine ⟨by omega, ?_⟩
        exact ⟨by omega, fin (122 :: (cutL stem none (some at_) ++ sg :: cutL stem (some at_) none)) _ _ (by simp; omega) (fun c hc => by rcases List.mem_cons.mp hc with z | z; (· subst z; omega); exact hcc c z) ⟨true, by rw [hpre, hsuf]; rfl⟩⟩
    · rintro e ⟨ws, e9, e10, hl, hw, hnd, hform, rfl⟩
      exact Hid.mk ⟨ws, _, _, hl, hw, hnd, rfl⟩
  unfold d_law_names b_law_names
  simp
  refine draw_wp hd (by omega) (by omega) (by omega) fun v d1 v0 v1 hd => ?_
  obtain ⟨m, hm, hm10⟩ : ∃ m : Nat, L2.atI [D.int 0, .int 1, .int 2, .int 3, .int 5, .int 7, .int 9, .int 10] v = some (.int m) ∧ m ≤ 10 := by
    rcases (show v = 0 ∨ v = 1 ∨ v = 2 ∨ v = 3 ∨ v = 4 ∨ v = 5 ∨ v = 6 ∨ v = 7 by omega) with rfl | rfl | rfl | rfl | rfl | rfl | rfl | rfl
    · exact ⟨0, rfl, by omega⟩
    · exact ⟨1, rfl, by omega⟩
    · exact ⟨2, rfl, by omega⟩
    · exact ⟨3, rfl, by omega⟩
    · exact ⟨5, rfl, by omega⟩
    · exact ⟨7, rfl, by omega⟩
    · exact ⟨9, rfl, by omega⟩
    · exact ⟨10, rfl, by omega⟩
  simp [hm]
  refine ⟨by omega, by omega, (loop1 _ m _ _ _ _ _ _ _ hm10 hd).imp ?_⟩
  rintro r ⟨stem, d2, e9, hs1, hs2, hd, rfl⟩
  simp [joinD_S stem (by omega)]
  refine ⟨by omega, draw_wp hd (by omega) (by omega) (by omega) fun va d3 _ _ hd => ?_⟩
  simp
  refine draw_wp hd (by omega) (by omega) (by omega) fun vf d4 _ _ hd => ?_
  simp
  refine draw_wp hd (by omega) (by omega) (by omega) fun vs d5 s0 s8 hd => ?_
  obtain ⟨st, hst, hst1⟩ : ∃ m : Int, L2.atI [D.int 1, .int 3, .int 5, .int 7, .int 9, .int 11, .int 15, .int 17] vs = some (.int m) ∧ 0 < m ∧ m < 20 ∧ m % 13 ≠ 0 := by
    rcases (show vs = 0 ∨ vs = 1 ∨ vs = 2 ∨ vs = 3 ∨ vs = 4 ∨ vs = 5 ∨ vs = 6 ∨ vs = 7 by omega) with rfl | rfl | rfl | rfl | rfl | rfl | rfl | rfl
    all_goals exact ⟨_, rfl, by omega, by omega, by omega⟩
  simp [hst]
  refine ⟨by omega, (loop2 _ _ stem _ _ _ (by rfl) (by omega) hs2 (by omega) (by omega) hst1.2.2).imp ?_⟩
  rintro o ⟨ws, f9, f10, hw1, hw2, hnd, rfl⟩
  simp
  exact q ws _ hw1 hw2 hnd (hd.mono (by omega))
end Law

namespace Law
open PySem PySem.Spec PyProof.Rows L2 Wr
theorem lg3 : Nat.log2 3 < 9000 := by decide
theorem lg2 : Nat.log2 2 < 9000 := by decide
theorem sum0 : ∀ {gs : List Int}, (∀ g ∈ gs, 0 ≤ g) → 0 ≤ gs.sum
  | [], _ => by simp
  | g :: gs, h => by
    have := sum0 fun x hx => h x (List.mem_cons_of_mem _ hx)
    have := h g (by simp)
    rw [List.sum_cons]; omega
theorem last_atf {α : Type} {xs : List α} (f : α → D) (h : xs ≠ []) : ∃ y, y ∈ xs ∧ L2.atI (xs.map f) (-1) = some (f y) := by
  have hl : 0 < xs.length := List.length_pos_iff.mpr h
  have := ixN_neg (n := (xs.map f).length) (i := 0) (by simpa using hl)
  refine ⟨xs[xs.length - 1], List.getElem_mem _, ?_⟩
  unfold L2.atI
  rw [show (-1 : Int) = -(((0 : Nat) : Int) + 1) by rfl, this]
  show (xs.map f)[(xs.map f).length - 1 - 0]? = _
  rw [Nat.sub_zero, List.getElem?_map, List.length_map, List.getElem?_eq_getElem (by omega)]
  rfl
theorem moments_wp {i n : Nat} {d : D} {Q : D × List D → Prop} (hi : i < 10 ^ 6) (hn : 1 ≤ n) (hn2 : n ≤ 12) (hd : Dk i d) (q : ∀ (ms : List Int) d', ms.length = n → (∀ m ∈ ms, 0 ≤ m) → Dk (i + 50) d' → Q (.lst (ms.map D.int), [d', .int n])) : OB (d_law_moments [d, .int n]) Q := by
  obtain ⟨c, rfl⟩ : ∃ c, n = c + 1 := ⟨n - 1, by omega⟩
  have loop1 : OB (lcL 0 [7] (nameT 7) yesT (bE0 addD (toE (cP (.int 1))) (ucall [2, 0] 0 d_law_draw (borE 0 (valE (ixE (toE (lstP (consA (cP (.int 4)) (consA (cP (.int 200000000)) nilA)))) (bE fdivD (ucall [2, 0] 0 d_law_draw (borE 0 (valE (toE (cP (.int 4))) nilE))) (toE (cP (.int 3))))) nilE)))) (rangeD 0 (c : Nat)) [some (2, d), some (0, .int ((c + 1 : Nat) : Int)), none, none, none, none, none, none])
      fun r => Hid (∃ (gs : List Int) (d' : D) (e7 : Option (Nat × D)), gs.length = c ∧ (∀ g ∈ gs, 0 ≤ g) ∧ gs.sum ≤ 200000001 * (c : Int) ∧ Dk (i + 24) d' ∧ r = (gs.map D.int, [some (2, d'), some (0, .int ((c + 1 : Nat) : Int)), none, none, none, none, none, e7])) := by
    refine (lcL_ob (Q := fun r => ∃ (gs : List Int) (d' : D) (e7 : Option (Nat × D)), gs.length = c ∧ (∀ g ∈ gs, 0 ≤ g) ∧ gs.sum ≤ 200000001 * (c : Int) ∧ Dk (i + 24) d' ∧ r = (gs.map D.int, [some (2, d'), some (0, .int ((c + 1 : Nat) : Int)), none, none, none, none, none, e7]))
      (fun ds acc e => Hid (∃ (gs : List Int) (d' : D) (e7 : Option (Nat × D)), gs.length + ds.length = c ∧ acc = gs.map D.int ∧ (∀ g ∈ gs, 0 ≤ g) ∧ gs.sum ≤ 200000001 * (gs.length : Int) ∧ Dk (i + 2 * gs.length) d' ∧ e = [some (2, d'), some (0, .int ((c + 1 : Nat) : Int)), none, none, none, none, none, e7])) ?_ ?_ _ [] _
      (Hid.mk ⟨[], d, none, by simp [rangeD_len0], rfl, (fun _ z => by cases z), by simp, hd, rfl⟩)).imp ?_
    · rintro x ds acc e ⟨gs, d', e7, h1, rfl, h2, h3, hd', rfl⟩
      simp only [List.length_cons] at h1
      simp
      refine draw_wp hd' (by omega) (by omega) (by omega) fun v d2 v0 v1 hd2 => ?_
      obtain ⟨m, hm, hm1, hm2⟩ : ∃ m : Int, L2.atI [D.int 4, .int 200000000] (v / 3) = some (.int m) ∧ 0 < m ∧ m ≤ 200000000 := by
        rcases (show v = 0 ∨ v = 1 ∨ v = 2 ∨ v = 3 by omega) with rfl | rfl | rfl | rfl
        all_goals exact ⟨_, rfl, by omega, by omega⟩
      simp [hm, lg3]
      refine draw_wp hd2 (by omega) hm1 (by omega) fun v2 d3 v20 v21 hd3 => ?_
      simp
      refine Hid.mk ⟨gs ++ [1 + v2], d3, _, by simp; omega, by simp, fun y hy => ?_, ?_, hd3.mono (by simp; omega), rfl⟩
      · rcases List.mem_append.mp hy with z | z
        · exact h2 y z
        · simp at z; subst z; omega
      · rw [List.sum_append, List.length_append]; simp; omega
    · rintro acc e ⟨gs, d', e7, h1, rfl, h2, h3, hd', rfl⟩
      simp at h1
      subst h1
      exact ⟨gs, d', e7, rfl, h2, h3, hd'.mono (by omega), rfl⟩
    · rintro r ⟨gs, d', e7, h1, h2, h3, h4, h⟩
      exact Hid.mk ⟨gs, d', e7, h1, h2, h3, h4, Prod.ext (by simpa using congrArg Prod.fst h) (by have := congrArg Prod.snd h; exact this)⟩
  have loop2 : ∀ (d : D) (gs : List Int) (k2 : Nat) (e3 e4 e7 : Option (Nat × D)) (first : Int), gs.length = c → (∀ g ∈ gs, 0 ≤ g) → 0 ≤ first → OB (forL (nameT 6) (dropS (appS 5 (toE (bP addD (ofX (ixX (vX 5) (toX (negP (toX (cP (.int 1))))))) (ofX (vX 6)))))) (gs.map D.int) [some (2, d), some (0, .int ((c + 1 : Nat) : Int)), some (k2, .lst (gs.map D.int)), e3, e4, some (1, .lst [.int first]), none, e7])
      fun o => Hid (∃ (ms : List Int) (e6 : Option (Nat × D)), ms.length = c + 1 ∧ (∀ m ∈ ms, 0 ≤ m) ∧ o = .nx [some (2, d), some (0, .int ((c + 1 : Nat) : Int)), some (k2, .lst (gs.map D.int)), e3, e4, some (1, .lst (ms.map D.int)), e6, e7]) := by
    intro d gs k2 e3 e4 e7 first hg1 hg2 hf
    refine forL_ob (fun ds e => Hid (∃ (rs ms : List Int) (e6 : Option (Nat × D)), ds = rs.map D.int ∧ (∀ r ∈ rs, 0 ≤ r) ∧ ms.length + rs.length = c + 1 ∧ ms ≠ [] ∧ (∀ m ∈ ms, 0 ≤ m) ∧ e = [some (2, d), some (0, .int ((c + 1 : Nat) : Int)), some (k2, .lst (gs.map D.int)), e3, e4, some (1, .lst (ms.map D.int)), e6, e7])) ?_ ?_ _ _ (Hid.mk ⟨gs, [first], _, rfl, hg2, by simp; omega, by simp, fun m hm => by simp at hm; omega, rfl⟩)
    · rintro z ds e ⟨rs, ms, e6, h1, h2, h3, h4, h5, rfl⟩
      cases rs with
      | nil => cases h1
      | cons r rs =>
        cases h1
        obtain ⟨y, hy, hat⟩ := last_atf D.int h4
        simp [hat]
        simp only [List.length_cons] at h3
        refine ⟨by omega, Hid.mk ⟨rs, ms ++ [y + r], _, rfl, fun x hx => h2 x (by simp [hx]), by simp; omega, by simp, fun m hm => ?_, by simp; rfl⟩⟩
        rcases List.mem_append.mp hm with z | z
        · exact h5 m z
        · simp at z; subst z; have := h5 y hy; have := h2 r (by simp); omega
    · rintro e ⟨rs, ms, e6, h1, h2, h3, h4, h5, rfl⟩
      cases rs with
      | nil => exact Hid.mk ⟨ms, e6, by simpa using h3, h5, rfl⟩
      | cons => cases h1
  unfold d_law_moments b_law_moments
  have hcc : ((c + 1 : Nat) : Int) - 1 = (c : Int) := by omega
  simp [hcc] at loop1 loop2 ⊢
  refine ⟨by omega, by omega, loop1.imp ?_⟩
  rintro r ⟨gs, d', e7, h1, h2, h3, hd, rfl⟩
  have h3b : gs.sum ≤ 200000001 * 12 := by omega
  simp [sumD_l, show gs.length ≤ 16777216 by omega]
  refine draw_wp hd (by omega) (by omega) (by omega) fun v2 d3 v20 v21 hd => ?_
  simp
  refine great_wp hd (by omega) (by omega) ?_ fun v3 d4 v30 v31 hd => ?_
  · have := sum0 h2; omega
  simp
  refine draw_wp hd (by omega) (by omega) (by omega) fun v4 d5 v40 v41 hd => ?_
  simp
  refine draw_wp hd (by omega) (by omega) (by omega) fun v5 d6 v50 v51 hd => ?_
  obtain ⟨f, hf, hf0⟩ : ∃ f : Int, L2.atI [D.int v2, .int v3, .int (1000000000000000000 - gs.sum - v4)] v5 = some (.int f) ∧ 0 ≤ f := by
    rcases (show v5 = 0 ∨ v5 = 1 ∨ v5 = 2 by omega) with rfl | rfl | rfl
    all_goals exact ⟨_, rfl, by omega⟩
  simp [hf]
  refine (loop2 d6 gs _ _ _ none f h1 h2 hf0).imp ?_
  rintro o ⟨ms, e6, hm1, hm2, rfl⟩
  simp
  exact q ms d6 hm1 hm2 (hd.mono (by omega))
theorem taken_wp {i : Nat} {d : D} {ks : List (List Nat × Nat)} {Q : D × List D → Prop} (hi : i < 10 ^ 5) (hk : 1 ≤ ks.length) (hk2 : ks.length ≤ 10) (hks : ∀ k ∈ ks, KOk k) (hd : Dk i d)
    (q : ∀ (hs : List Hap) (keyed : Bool) d', hs ≠ [] → hs.length ≤ 5 → (∀ h ∈ hs, HOk h ∧ 0 ≤ h.m ∧ 0 ≤ h.key ∧ h.key ≤ 1000000000000000000) → Dk (i + 200) d' → Q (.lst [.lst (hs.map hD), .bl keyed], [d', .lst (ks.map kD)])) : OB (d_law_taken [d, .lst (ks.map kD)]) Q := by
  have loop1 : ∀ (i : Nat) (d : D) (w : Nat) (e0 e1 e2 e3 e4 e5 e6 e7 e8 e9 : Option (Nat × D)), i < 10 ^ 6 → w ≤ 3 → Dk i d → OB (lcL 0 [10] (nameT 10) yesT (ucall [2] 0 d_law_worth (borE 0 nilE)) (rangeD 0 (w : Nat)) [some (2, d), e1, e2, e3, e4, e5, e6, e7, e8, e9, none])
      fun r => Hid (∃ (ws : List Int) (d' : D) (e10 : Option (Nat × D)), ws.length = w ∧ Dk (i + 15) d' ∧ r = (ws.map D.int, [some (2, d'), e1, e2, e3, e4, e5, e6, e7, e8, e9, e10])) := by
    intro i d w e0 e1 e2 e3 e4 e5 e6 e7 e8 e9 hi hw hd
    refine (lcL_ob (Q := fun r => ∃ (ws : List Int) (d' : D) (e10 : Option (Nat × D)), ws.length = w ∧ Dk (i + 15) d' ∧ r = (ws.map D.int, [some (2, d'), e1, e2, e3, e4, e5, e6, e7, e8, e9, e10]))
      (fun ds acc e => Hid (∃ (ws : List Int) (d' : D) (e10 : Option (Nat × D)), ws.length + ds.length = w ∧ acc = ws.map D.int ∧ Dk (i + 5 * ws.length) d' ∧ e = [some (2, d'), e1, e2, e3, e4, e5, e6, e7, e8, e9, e10])) ?_ ?_ _ [] _
      (Hid.mk ⟨[], d, none, by simp [rangeD_len0], rfl, hd, rfl⟩)).imp ?_
    · rintro x ds acc e ⟨ws, d', e10, h1, rfl, hd', rfl⟩
      simp only [List.length_cons] at h1
      simp
      refine num_wp hd' (by omega) fun z d2 hd2 => ?_
      simp
      exact Hid.mk ⟨ws ++ [z], d2, _, by simp; omega, by simp, hd2.mono (by simp; omega), rfl⟩
    · rintro acc e ⟨ws, d', e10, h1, rfl, hd', rfl⟩
      simp at h1
      exact ⟨ws, d', e10, h1, hd'.mono (by omega), rfl⟩
    · rintro r ⟨ws, d', e10, h1, h4, h⟩
      exact Hid.mk ⟨ws, d', e10, h1, h4, Prod.ext (by simpa using congrArg Prod.fst h) (by have := congrArg Prod.snd h; exact this)⟩
  have loop2 : ∀ (d : D) (ms : List Int) (keyed : Bool) (n k0 k1 k2 : Int), ms.length = n → n ≤ 5 → 1 ≤ n → (∀ m ∈ ms, 0 ≤ m) → (0 ≤ k0 ∧ k0 ≤ 1000000000000000000 ∧ 0 ≤ k1 ∧ k1 ≤ 1000000000000000000 ∧ 0 ≤ k2 ∧ k2 ≤ 1000000000000000000) → Dk (i + 70) d → OB (forL (nameT 6) (seqS (asgS (tupU 2 (consT (nameT 8) (consT (nameT 9) nilT))) (ixV 1 (ucall [2, 0] 0 d_law_draw (borE 0 (valE (toE (callP lenD (consX (vX 1) nilX))) nilE)))))
    (seqS (asgS (nameT 7) (ixV 4 (ixE (coldE (lstE 0 (valE (ucall [2, 0] 0 d_law_draw (borE 0 (valE (toE (cP (.int 3))) nilE))) (valE (toE (cP (.int 0))) nilE)))) (toE (callP intD (consX (vX 3) nilX))))))
    (dropS (appS 5 (tupE 0 (valE (toE (ofX (vX 6))) (valE (toE (ofX (vX 8))) (valE (toE (ofX (vX 7))) (valE (callE tupleD (valE (coldE (lcE 0 [10] (rngI1 (valE (toE (ofX (vX 9))) nilE)) (nameT 10) yesT (ucall [2] 0 d_law_worth (borE 0 nilE)))) nilE)) nilE))))))))) (ms.map D.int)
     [some (2, d), some (0, .lst (ks.map kD)), some (0, .int n), some (0, .bl keyed), some (0, .lst [.int k0, .int k1, .int k2]), some (1, .lst []), none, none, none, none, none])
      fun o => Hid (∃ (hs : List Hap) (d' : D) (e6 e7 e8 e9 : Option (Nat × D)), hs ≠ [] ∧ hs.length ≤ 5 ∧ (∀ h ∈ hs, HOk h ∧ 0 ≤ h.m ∧ 0 ≤ h.key ∧ h.key ≤ 1000000000000000000) ∧ Dk (i + 200) d' ∧ o = .nx [some (2, d'), some (0, .lst (ks.map kD)), some (0, .int n), some (0, .bl keyed), some (0, .lst [.int k0, .int k1, .int k2]), some (1, .lst (hs.map hD)), e6, e7, e8, e9, none]) := by
    intro d ms keyed n k0 k1 k2 hn hn5 hn1 hms hkk hd
    refine forL_ob (fun ds e => Hid (∃ (rs : List Int) (hs : List Hap) (d' : D) (e6 e7 e8 e9 : Option (Nat × D)), ds = rs.map D.int ∧ (∀ r ∈ rs, 0 ≤ r) ∧ (hs.length + rs.length : Int) = n ∧ (∀ h ∈ hs, HOk h ∧ 0 ≤ h.m ∧ 0 ≤ h.key ∧ h.key ≤ 1000000000000000000) ∧ Dk (i + 70 + 20 * hs.length) d' ∧ e = [some (2, d'), some (0, .lst (ks.map kD)), some (0, .int n), some (0, .bl keyed), some (0, .lst [.int k0, .int k1, .int k2]), some (1, .lst (hs.map hD)), e6, e7, e8, e9, none])) ?_ ?_ _ _ (Hid.mk ⟨ms, [], d, _, _, _, _, rfl, hms, by simp; omega, (fun _ z => by cases z), hd, rfl⟩)
    · rintro z ds e ⟨rs, hs, d', e6, e7, e8, e9, h1, h2, h3, h4, hd', rfl⟩
      cases rs with
      | nil => cases h1
      | cons r rs =>
        cases h1
        simp only [List.length_cons] at h3
        simp
        refine draw_wp hd' (by omega) (by omega) (by omega) fun v d2 v0 v1 hd2 => ?_
        obtain ⟨v, rfl⟩ := Int.eq_ofNat_of_zero_le v0
        have hv : v < ks.length := by omega
        have hat : L2.atI (ks.map kD) (v : Int) = some (kD ks[v]) := by rw [Wr.atI_nat (by simpa using hv)]; simp
        obtain ⟨hw1, hw2⟩ := hks _ (List.getElem_mem hv)
        simp [hat, kD]
        refine draw_wp hd2 (by omega) (by omega) (by omega) fun v2 d3 v20 v21 hd3 => ?_
        obtain ⟨p, hp, hp0, hp1⟩ : ∃ p : Int, L2.atI [D.int v2, .int 0] (if keyed = true then 1 else 0) = some (.int p) ∧ 0 ≤ p ∧ p < 3 := by
          cases keyed
          · exact ⟨v2, rfl, v20, v21⟩
          · exact ⟨0, rfl, by omega, by omega⟩
        obtain ⟨key, hkey, hkey1⟩ : ∃ key : Int, L2.atI [D.int k0, .int k1, .int k2] p = some (.int key) ∧ 0 ≤ key ∧ key ≤ 1000000000000000000 := by
          rcases (show p = 0 ∨ p = 1 ∨ p = 2 by omega) with rfl | rfl | rfl
          all_goals exact ⟨_, rfl, by omega, by omega⟩
        simp [hp, hkey]
        refine ⟨by omega, by omega, (loop1 _ _ ks[v].2 none _ _ _ _ _ _ _ _ _ ?_ hw2 hd3).imp ?_⟩
        · omega
        rintro r2 ⟨ws, d4, e10, hws, hd4, rfl⟩
        simp
        refine ⟨by omega, Hid.mk ⟨rs, hs ++ [⟨r, ks[v].1, key, ws⟩], d4, _, _, _, _, rfl, fun x hx => h2 x (by simp [hx]), by simp; omega, fun h hh => ?_, hd4.mono (by simp; omega), by simp [hD]; exact ⟨rfl, rfl, rfl, rfl⟩⟩⟩
        rcases List.mem_append.mp hh with z | z
        · exact h4 h z
        · simp at z; subst z; exact ⟨⟨hw1, by show ws.length ≤ 3; omega⟩, h2 r (by simp), hkey1.1, hkey1.2⟩
    · rintro e ⟨rs, hs, d', e6, e7, e8, e9, h1, h2, h3, h4, hd', rfl⟩
      cases rs with
      | nil =>
        simp at h3
        exact Hid.mk ⟨hs, d', _, _, _, _, by intro z; subst z; simp at h3; omega, by omega, h4, hd'.mono (by omega), rfl⟩
      | cons => cases h1
  unfold d_law_taken b_law_taken
  simp
  refine draw_wp hd (by omega) (by omega) (by omega) fun v d2 v0 v1 hd => ?_
  obtain ⟨n, hn, hn1, hn5⟩ : ∃ n : Nat, 1 + v = (n : Int) ∧ 1 ≤ n ∧ n ≤ 5 := ⟨(1 + v).toNat, by omega, by omega, by omega⟩
  simp [hn]
  refine draw_wp hd (by omega) (by omega) (by omega) fun v2 d3 v20 v21 hd => ?_
  simp
  generalize decide (v2 = 1) = keyed
  refine draw_wp hd (by omega) (by omega) (by omega) fun v3 d4 v30 v31 hd => ?_
  simp
  refine great_wp hd (by omega) (by omega) (by omega) fun v4 d5 v40 v41 hd => ?_
  simp
  refine moments_wp (by omega) hn1 (by omega) hd fun ms d6 hm1 hm2 hd => ?_
  simp
  refine (loop2 _ ms keyed n v3 v4 _ (by omega) (by omega) (by omega) hm2 (by omega) (hd.mono (by omega))).imp ?_
  rintro o ⟨hs, d', e6, e7, e8, e9, h1, h2, h3, hd', rfl⟩
  simp
  exact q hs keyed d' h1 h2 h3 hd'
end Law

namespace Law
open PySem PySem.Spec PyProof.Rows L2 Wr
abbrev Pb := Option Nat × Nat
def pbD (p : Pb) : D := .tup [.int (plI p.1), .int p.2]
def PbOk (hs : List Hap) (slot : Nat) (p : Pb) : Prop := (p.1 = none → slot ≠ 0) ∧ ∀ x, p.1 = some x → ∃ h, hs[x]? = some h ∧ p.2 ≤ h.ws.length
theorem based_wp {i slot : Nat} {d : D} {hs : List Hap} {Q : D × List D → Prop} (hi : i < 10 ^ 7) (hl : hs.length ≤ 20) (hhs : ∀ h ∈ hs, HOk h) (hne : slot = 0 → hs ≠ []) (hd : Dk i d)
    (q : ∀ (p : Pb) (d' : D), PbOk hs slot p → Dk (i + 1) d' → Q (pbD p, [d', .int slot, .lst (hs.map hD)])) : OB (d_law_based [d, .int slot, .lst (hs.map hD)]) Q := by
  have loop1 : OB (lcL 0 [4] (nameT 4) yesT (toE (tupP (consA (ofX (vX 4)) (consA (cP (.int 0)) nilA)))) (rangeD 0 (hs.length : Nat)) [some (2, d), some (0, .int slot), some (0, .lst (hs.map hD)), none, none, none])
      fun r => Hid (∃ (ps : List Pb) (e4 : Option (Nat × D)), ps.length = hs.length ∧ (∀ p ∈ ps, ∃ x, p = (some x, 0) ∧ x < hs.length) ∧ r = (ps.map pbD, [some (2, d), some (0, .int slot), some (0, .lst (hs.map hD)), none, e4, none])) := by
    refine lcN_ob (fun k => pbD (some k, 0)) (fun j e => Hid (∃ (e4 : Option (Nat × D)), e = [some (2, d), some (0, .int slot), some (0, .lst (hs.map hD)), none, e4, none])) ?_ ?_ _ (Hid.mk ⟨_, rfl⟩)
    · rintro j e hj ⟨e4, rfl⟩
      simp [pbD, plI]
      exact Hid.mk ⟨_, rfl⟩
    · rintro e ⟨e4, rfl⟩
      refine Hid.mk ⟨(List.range hs.length).map fun k => (some k, 0), e4, by simp, fun p hp => ?_, by simp [ar, Function.comp_def]⟩
      obtain ⟨x, hx, rfl⟩ := List.mem_map.mp hp
      exact ⟨x, rfl, List.mem_range.mp hx⟩
  have loop2 : ∀ (d : D) (e4 : Option (Nat × D)), OB (forL (nameT 4) (asgS (nameT 3) (bE0 addL (toE (ofX (vX 3))) (coldE (lcE 0 [5] (rngI1 (valE (toE (callP lenD (consX (ixX (ixX (vX 2) (vX 4)) (toX (cP (.int 3)))) nilX))) nilE)) (nameT 5) yesT (toE (tupP (consA (ofX (vX 4)) (consA (bP addD (ofX (vX 5)) (cP (.int 1))) nilA)))))))) (rangeD 0 (hs.length : Nat)) [some (2, d), some (0, .int slot), some (0, .lst (hs.map hD)), some (0, .lst [.tup [.int (-1), .int 0]]), e4, none])
      fun o => Hid (∃ (ps : List Pb) (e4 : Option (Nat × D)), 1 ≤ ps.length ∧ ps.length ≤ 100 ∧ (∀ p ∈ ps, p.1 = none ∨ ∃ x h, p.1 = some x ∧ hs[x]? = some h ∧ p.2 ≤ h.ws.length) ∧ o = .nx [some (2, d), some (0, .int slot), some (0, .lst (hs.map hD)), some (0, .lst (ps.map pbD)), e4, none]) := by
    intro d e4
    refine forN_ob (fun j e => Hid (∃ (ps : List Pb) (e4 : Option (Nat × D)), 1 ≤ ps.length ∧ ps.length ≤ 1 + 3 * j ∧ (∀ p ∈ ps, p.1 = none ∨ ∃ x h, p.1 = some x ∧ hs[x]? = some h ∧ p.2 ≤ h.ws.length) ∧ e = [some (2, d), some (0, .int slot), some (0, .lst (hs.map hD)), some (0, .lst (ps.map pbD)), e4, none])) ?_ ?_ _
      (Hid.mk ⟨[(none, 0)], _, by simp, by simp, fun p hp => by simp at hp; subst hp; exact .inl rfl, rfl⟩)
    · rintro j e hj ⟨ps, e4, h1, h2, h3, rfl⟩
      have hat := hs_at (List.getElem?_eq_getElem hj)
      have hw := (hhs _ (List.getElem_mem hj)).2
      have lp : OB (lcL 0 [5] (nameT 5) yesT (toE (tupP (consA (ofX (vX 4)) (consA (bP addD (ofX (vX 5)) (cP (.int 1))) nilA)))) (rangeD 0 (hs[j].ws.length : Nat)) [some (2, d), some (0, .int slot), some (0, .lst (hs.map hD)), some (0, .lst (ps.map pbD)), some (0, .int (j : Nat)), none])
          fun r => Hid (∃ (qs : List Pb) (e5 : Option (Nat × D)), qs.length = hs[j].ws.length ∧ (∀ p ∈ qs, p.1 = none ∨ ∃ x h, p.1 = some x ∧ hs[x]? = some h ∧ p.2 ≤ h.ws.length) ∧ r = (qs.map pbD, [some (2, d), some (0, .int slot), some (0, .lst (hs.map hD)), some (0, .lst (ps.map pbD)), some (0, .int (j : Nat)), e5])) := by
        refine lcN_ob (fun k => pbD (some j, k + 1)) (fun _ e => Hid (∃ (e5 : Option (Nat × D)), e = [some (2, d), some (0, .int slot), some (0, .lst (hs.map hD)), some (0, .lst (ps.map pbD)), some (0, .int (j : Nat)), e5])) ?_ ?_ _ (Hid.mk ⟨_, rfl⟩)
        · rintro k e hk ⟨e5, rfl⟩
          simp [pbD, plI]
          exact Hid.mk ⟨_, rfl⟩
        · rintro e ⟨e5, rfl⟩
          refine Hid.mk ⟨(List.range hs[j].ws.length).map fun k => ((some j, k + 1) : Pb), e5, by simp, fun p hp => ?_, by simp [ar, Function.comp_def]⟩
          obtain ⟨k, hk, rfl⟩ := List.mem_map.mp hp
          exact .inr ⟨j, hs[j], rfl, List.getElem?_eq_getElem hj, by have := List.mem_range.mp hk; show k + 1 ≤ _; omega⟩
      simp [hat]
      refine ⟨by omega, by omega, lp.imp ?_⟩
      rintro r ⟨qs, e5, g1, g2, rfl⟩
      simp
      refine ⟨by omega, Hid.mk ⟨ps ++ qs, _, by simp; omega, by simp; omega, fun p hp => ?_, by simp; rfl⟩⟩
      rcases List.mem_append.mp hp with z | z
      · exact h3 p z
      · exact g2 p z
    · rintro e ⟨ps, e4, h1, h2, h3, rfl⟩
      exact Hid.mk ⟨ps, e4, h1, by omega, h3, rfl⟩
  unfold d_law_based b_law_based
  simp
  refine ⟨by omega, by omega, loop1.imp ?_⟩
  rintro r ⟨ps, e4, hp1, hp2, rfl⟩
  have fin : ∀ (ps : List Pb) (e4 : Option (Nat × D)), 1 ≤ ps.length → ps.length ≤ 100 → (∀ p ∈ ps, PbOk hs slot p) → OB (d_law_draw [d, .int ps.length]) fun r => ∃ p d', PbOk hs slot p ∧ Dk (i + 1) d' ∧ ∃ v, 0 ≤ v ∧ r = (.int v, [d', .int ps.length]) ∧ L2.atI (ps.map pbD) v = some (pbD p) := by
    intro ps e4 h1 h2 h3
    refine draw_wp hd (by omega) (by omega) (by omega) fun v d' v0 v1 hd' => ?_
    obtain ⟨v, rfl⟩ := Int.eq_ofNat_of_zero_le v0
    have hv : v < ps.length := by omega
    exact ⟨ps[v], d', h3 _ (List.getElem_mem hv), hd', v, v0, rfl, by rw [Wr.atI_nat (by simpa using hv)]; simp⟩
  by_cases h0 : slot = 0
  · subst h0
    have hl0 := List.length_pos_iff.mpr (hne rfl)
    simp
    refine (fin ps e4 (by omega) (by omega) fun p hp => ?_).imp ?_
    · obtain ⟨x, rfl, hx⟩ := hp2 p hp
      exact ⟨fun z => by simp at z, fun y hy => ⟨hs[x], by cases hy; exact List.getElem?_eq_getElem hx, Nat.zero_le _⟩⟩
    · rintro r ⟨p, d', h1, h2, v, hv, rfl, h3⟩
      simp [h3, pbD]
      exact q p d' h1 h2
  · simp [h0, show 0 < slot by omega]
    refine ⟨by omega, (loop2 d _).imp ?_⟩
    rintro o ⟨ps, e4, h1, h2, h3, rfl⟩
    simp
    refine (fin ps e4 (by omega) (by omega) fun p hp => ?_).imp ?_
    · refine ⟨fun _ => h0, fun y hy => ?_⟩
      rcases h3 p hp with z | ⟨x, h, g1, g2, g3⟩
      · rw [z] at hy; cases hy
      · rw [g1] at hy; cases hy; exact ⟨h, g2, g3⟩
    · rintro r ⟨p, d', h1, h2, v, hv, rfl, h3⟩
      simp [h3, pbD]
      exact q p d' h1 h2
end Law

namespace Law
open PySem PySem.Spec PyProof.Rows L2 Wr
def PlOk (hs : List Hap) (t : Tst) : Prop := t.op < 3 ∧ ∀ x, t.place = some x → ∃ h, hs[x]? = some h ∧ t.other ≤ h.ws.length
theorem opAt {v : Int} (h0 : 0 ≤ v) (h : v < 3) : ∃ op : Nat, L2.atI [D.str (S [60, 61]), .str (S [62, 61]), .str (S [61])] v = some (.str (S (opT op))) ∧ op < 3 := by
  rcases (show v = 0 ∨ v = 1 ∨ v = 2 by omega) with rfl | rfl | rfl
  · exact ⟨0, rfl, by omega⟩
  · exact ⟨1, rfl, by omega⟩
  · exact ⟨2, rfl, by omega⟩
def atT3 : SM := (seqS (ifS (toT (bT (bX eqD (vX 3) (toX (cP (.int 0)))))) (asgS (nameT 4) (ucall [0, 0] 0 d_law_cut (valE (bE subD (bE0 addD (toE (bX subD (ixX (ixX (vX 2) (toX (negP (toX (cP (.int 1)))))) (toX (cP (.int 0)))) (ixX (ixX (vX 2) (vX 5)) (toX (cP (.int 0)))))) (ucall [2, 0] 0 d_law_draw (borE 0 (valE (toE (cP (.int 14))) nilE)))) (toE (cP (.int 4)))) (valE (toE (bX powD (toX (cP (.int 10))) (toX (cP (.int 9))))) nilE)))) nilS)
    (retS (tupE 0 (valE (toE (ofX (vX 3))) (valE (ixE (toE (lstP (consA (cP (.str (PySem.Str.ofString "<="))) (consA (cP (.str (PySem.Str.ofString ">="))) (consA (cP (.str (PySem.Str.ofString "="))) nilA))))) (ucall [2, 0] 0 d_law_draw (borE 0 (valE (toE (cP (.int 3))) nilE)))) (valE (toE (ofX (vX 5))) (valE (toE (ofX (vX 6))) (valE (toE (ofX (vX 4))) nilE))))))))
theorem at_t3 {i slot : Nat} {d : D} {hs : List Hap} {p : Pb} {x1 : Option (Nat × D)} {num : Int} (hi : i < 10 ^ 7) (hne : hs ≠ []) (hp : PbOk hs slot p) (hd : Dk i d) :
    OB (atT3 [some (2, d), x1, some (0, .lst (hs.map hD)), some (0, .int slot), some (0, .int num), some (0, .int (plI p.1)), some (0, .int p.2)])
      fun o => Hid (∃ (t : Tst) (d' : D) (e4 : Option (Nat × D)), PlOk hs t ∧ t.slot = slot ∧ Dk (i + 2) d' ∧ o = .rt 0 (tD t) [some (2, d'), x1, some (0, .lst (hs.map hD)), some (0, .int slot), e4, some (0, .int (plI p.1)), some (0, .int p.2)]) := by
  have fin : ∀ (d : D) (num : Int), Dk (i + 1) d → OB (d_law_draw [d, .int 3]) fun r => ∃ v d', 0 ≤ v ∧ v < 3 ∧ Dk (i + 2) d' ∧ r = (.int v, [d', .int 3]) := fun d num hd =>
    draw_wp hd (by omega) (by omega) (by omega) fun v d' v0 v1 hd' => ⟨v, d', v0, v1, hd', rfl⟩
  obtain ⟨y, hy, hya⟩ := last_at hne
  have hyx : hD y = .tup [.int y.m, .str (S y.k), .int y.key, .tup (y.ws.map D.int)] := rfl
  obtain ⟨p, o⟩ := p
  obtain ⟨hp1, hp2⟩ := hp
  simp only at hp1 hp2
  unfold atT3
  by_cases h0 : slot = 0
  · subst h0
    cases p with
    | none => exact absurd rfl (hp1 rfl)
    | some x =>
      obtain ⟨h, hx, ho⟩ := hp2 x rfl
      simp [hya, hyx, plI, hs_at hx]
      refine draw_wp hd (by omega) (by omega) (by omega) fun v d2 v0 v1 hd => ?_
      simp
      refine cut_wp fun z => ?_
      simp
      refine (fin _ 0 hd).imp ?_
      rintro r ⟨v, d', v0, v1, hd', rfl⟩
      obtain ⟨op, hop, hop3⟩ := opAt v0 v1
      simp [hop]
      exact Hid.mk ⟨⟨0, op, some x, o, z⟩, d', _, ⟨hop3, hp2⟩, rfl, hd', rfl⟩
  · simp [h0]
    refine (fin _ 0 (hd.mono (by omega))).imp ?_
    rintro r ⟨v, d', v0, v1, hd', rfl⟩
    obtain ⟨op, hop, hop3⟩ := opAt v0 v1
    simp [hop]
    exact Hid.mk ⟨⟨slot, op, p, o, num⟩, d', _, ⟨hop3, hp2⟩, rfl, hd', rfl⟩
theorem any_test_wp {i wide : Nat} {d : D} {hs : List Hap} {Q : D × List D → Prop} (hi : i < 10 ^ 6) (hl : hs.length ≤ 20) (hhs : ∀ h ∈ hs, HOk h) (hne : hs ≠ []) (hw : wide ≤ 3) (hd : Dk i d)
    (q : ∀ (t : Tst) (d' : D), PlOk hs t → t.slot ≤ wide → Dk (i + 15) d' → Q (tD t, [d', .int wide, .lst (hs.map hD)])) : OB (d_law_any_test [d, .int wide, .lst (hs.map hD)]) Q := by
  have eb : b_law_any_test = (seqS (asgS (nameT 3) (ixE (coldE (lstE 0 (valE (toE (cP (.int 0))) (valE (ucall [2, 0] 0 d_law_draw (borE 0 (valE (toE (bP addD (ofX (vX 1)) (cP (.int 1)))) nilE))) nilE)))) (bE fdivD (ucall [2, 0] 0 d_law_draw (borE 0 (valE (toE (cP (.int 4))) nilE))) (toE (cP (.int 2))))))
    (seqS (asgS (tupU 2 (consT (nameT 5) (consT (nameT 6) nilT))) (ucall [2, 0, 0] 0 d_law_based (borE 0 (valE (toE (ofX (vX 3))) (valE (toE (ofX (vX 2))) nilE)))))
    (seqS (asgS (nameT 4) (ixE (coldE (lstE 0 (valE (bE subD (ucall [2, 0] 0 d_law_draw (borE 0 (valE (toE (cP (.int 24))) nilE))) (toE (cP (.int 12)))) (valE (bE subD (ucall [2, 0] 0 d_law_great (borE 0 (valE (toE (bP addD (bX mulX (toX (cP (.int 2))) (toX (bX powD (toX (cP (.int 10))) (toX (cP (.int 18)))))) (cP (.int 1)))) nilE))) (toE (bX powD (toX (cP (.int 10))) (toX (cP (.int 18)))))) nilE)))) (bE fdivD (ucall [2, 0] 0 d_law_draw (borE 0 (valE (toE (cP (.int 4))) nilE))) (toE (cP (.int 3))))))
    atT3))) := rfl
  unfold d_law_any_test
  rw [eb]
  simp
  refine draw_wp hd (by omega) (by omega) (by omega) fun v d2 v0 v1 hd => ?_
  obtain ⟨s1, rfl⟩ := Int.eq_ofNat_of_zero_le v0
  simp
  refine draw_wp hd (by omega) (by omega) (by omega) fun v2 d3 v20 v21 hd => ?_
  obtain ⟨slot, hslot, hslw⟩ : ∃ slot : Nat, L2.atI [D.int 0, .int (s1 : Nat)] (v2 / 2) = some (.int slot) ∧ slot ≤ wide := by
    rcases (show v2 = 0 ∨ v2 = 1 ∨ v2 = 2 ∨ v2 = 3 by omega) with rfl | rfl | rfl | rfl
    · exact ⟨0, rfl, by omega⟩
    · exact ⟨0, rfl, by omega⟩
    · exact ⟨s1, rfl, by omega⟩
    · exact ⟨s1, rfl, by omega⟩
  simp [hslot, lg2]
  refine based_wp (by omega) hl hhs (fun _ => hne) hd fun p d4 hp hd => ?_
  simp [pbD]
  refine draw_wp hd (by omega) (by omega) (by omega) fun v3 d5 v30 v31 hd => ?_
  simp [mulOk_r]
  refine great_wp hd (by omega) (by omega) (by omega) fun v4 d6 v40 v41 hd => ?_
  simp
  refine draw_wp hd (by omega) (by omega) (by omega) fun v5 d7 v50 v51 hd => ?_
  obtain ⟨num, hnum⟩ : ∃ num : Int, L2.atI [D.int (v3 - 12), .int (v4 - 1000000000000000000)] (v5 / 3) = some (.int num) := by
    rcases (show v5 = 0 ∨ v5 = 1 ∨ v5 = 2 ∨ v5 = 3 by omega) with rfl | rfl | rfl | rfl
    all_goals exact ⟨_, rfl⟩
  simp [hnum, lg3]
  refine (at_t3 (by omega) hne hp hd).imp ?_
  rintro o ⟨t, d', e4, ht, hts, hd', rfl⟩
  simp
  exact q t d' ht (by omega) (hd'.mono (by omega))
end Law

namespace Law
open PySem PySem.Spec PyProof.Rows L2 Wr
theorem lslot_wp {m key : Int} {k : List Nat} {ws : List Int} {s : Nat} {Q : D × List D → Prop} (h : s ≤ ws.length)
    (q : Q (.int (worthF ⟨m, k, key, ws⟩ s), [.tup [.int m, .str (S k), .int key, .tup (ws.map D.int)], .int s])) : OB (d_law_slot [.tup [.int m, .str (S k), .int key, .tup (ws.map D.int)], .int s]) Q := by
  unfold d_law_slot b_law_slot
  by_cases h0 : s = 0
  · subst h0; simp; simpa [worthF] using q
  · have : ¬ ((s : Int) = 0) := by omega
    simp [this, h0, ixws h0 h]
    simpa [worthF, h0] using q
/-- what a test asks for -/
def askF (hs : List Hap) (t : Tst) : Int := match t.place with
  | none => t.due
  | some p => match hs[p]? with
    | some x => worthF x t.other + t.due
    | none => t.due
theorem lasked_wp {hs : List Hap} {s : Int} {x : D} {p : Option Nat} {o : Nat} {due : Int} {tk : Bool} {Q : D × List D → Prop} (hp : ∀ y, p = some y → ∃ h, hs[y]? = some h ∧ o ≤ h.ws.length)
    (q : Q (.int (askF hs ⟨0, 0, p, o, due⟩), [.tup [.int s, x, .int (plI p), .int o, .int due], if tk then .tup (hs.map hD) else .lst (hs.map hD)])) : OB (d_law_asked [.tup [.int s, x, .int (plI p), .int o, .int due], if tk then .tup (hs.map hD) else .lst (hs.map hD)]) Q := by
  unfold d_law_asked b_law_asked
  cases p with
  | none =>
    simp [plI]
    simpa [plI, askF] using q
  | some y =>
    obtain ⟨h, hy, ho⟩ := hp y rfl
    cases tk
    all_goals
      simp [plI, hs_at hy]
      refine ⟨fun z => absurd z (by omega), lslot_wp ho ?_⟩
      simp
      simpa [plI, askF, hy] using q
def ttT2 : SM := (seqS (asgS (nameT 8) (ixE (coldE (lstE 0 (valE (ucall [2, 0] 0 d_law_draw (borE 0 (valE (toE (cP (.int 4))) nilE))) (valE (ucall [2, 0] 0 d_law_draw (borE 0 (valE (toE (cP (.int 1000000000))) nilE))) nilE)))) (ucall [2, 0] 0 d_law_draw (borE 0 (valE (toE (cP (.int 2))) nilE)))))
    (seqS (asgS (nameT 6) (toE (pcall d_law_cut (consA (bP addD (ofX (vX 6)) (ofX (ixX (toX (lstP (consA (ofX (vX 8)) (consA (negP (vX 8)) (consA (cP (.int 0)) nilA))))) (vX 7)))) (consA (ofX (vX 5)) nilA)))))
    (retS (toE (lstP (consA (tupP (consA (ofX (vX 4)) (consA (ofX (ixX (toX (lstP (consA (cP (.str (PySem.Str.ofString "<="))) (consA (cP (.str (PySem.Str.ofString ">="))) (consA (cP (.str (PySem.Str.ofString "="))) nilA))))) (vX 7))) (consA (ofX (vX 9)) (consA (ofX (vX 10)) (consA (ofX (vX 6)) nilA)))))) nilA))))))
theorem tt_t2 {i : Nat} {d d1 d2 d4 d9 d10 : D} {x3 : Option (Nat × D)} {most num way : Int} {x11 : Option (Nat × D)} (hi : i < 10 ^ 7) (w0 : 0 ≤ way) (w3 : way < 3) (hd : Dk i d) :
    OB (ttT2 [some (2, d), some (0, d1), some (0, d2), x3, some (0, d4), some (0, .int most), some (0, .int num), some (0, .int way), none, some (0, d9), some (0, d10), x11])
      fun o => Hid (∃ (t d' : D) (e4 e5 e6 e7 e8 e9 e10 e11 : Option (Nat × D)), Dk (i + 3) d' ∧ o = .rt 0 (.lst [t]) [some (2, d'), some (0, d1), some (0, d2), x3, e4, e5, e6, e7, e8, e9, e10, e11]) := by
  unfold ttT2
  simp
  refine draw_wp hd (by omega) (by omega) (by omega) fun v d2 v0 v1 hd => ?_
  simp
  refine draw_wp hd (by omega) (by omega) (by omega) fun v2 d3 v20 v21 hd => ?_
  simp
  refine draw_wp hd (by omega) (by omega) (by omega) fun v3 d4 v30 v31 hd => ?_
  obtain ⟨sl, hsl⟩ : ∃ sl : Int, L2.atI [D.int v, .int v2] v3 = some (.int sl) := by
    rcases (show v3 = 0 ∨ v3 = 1 by omega) with rfl | rfl
    all_goals exact ⟨_, rfl⟩
  obtain ⟨z, hz⟩ : ∃ z : Int, L2.atI [D.int sl, .int (-sl), .int 0] way = some (.int z) := by
    rcases (show way = 0 ∨ way = 1 ∨ way = 2 by omega) with rfl | rfl | rfl
    all_goals exact ⟨_, rfl⟩
  obtain ⟨op, hop, _⟩ := opAt w0 w3
  simp [hsl, hz]
  refine cut_wp fun y => ?_
  simp [hop]
  exact Hid.mk ⟨_, d4, _, _, _, _, _, _, _, _, hd.mono (by omega), rfl⟩
def ttT1 : SM := (seqS (ifS (toT (bT (bX eqD (vX 3) (toX (lstP nilA))))) (retS (toE (lstP nilA))) nilS)
    (seqS (asgS (nameT 4) (ixV 3 (ucall [2, 0] 0 d_law_draw (borE 0 (valE (toE (callP lenD (consX (vX 3) nilX))) nilE)))))
    (seqS (asgS (nameT 5) (toE (ofX (ixX (toX (lstP (consA (bX powD (toX (cP (.int 10))) (toX (cP (.int 18)))) (consA (bX powD (toX (cP (.int 10))) (toX (cP (.int 9)))) nilA)))) (toX (callP intD (consX (toX (bX eqD (vX 4) (toX (cP (.int 0))))) nilX)))))))
    (seqS (asgS (tupU 2 (consT (nameT 9) (consT (nameT 10) nilT))) (ucall [2, 0, 0] 0 d_law_based (borE 0 (valE (toE (ofX (vX 4))) (valE (toE (ofX (vX 2))) nilE)))))
    (seqS (asgS (nameT 6) (toE (bX subD (toX (pcall d_law_slot (consA (ofX (vX 1)) (consA (ofX (vX 4)) nilA)))) (toX (pcall d_law_asked (consA (tupP (consA (ofX (vX 4)) (consA (cP (.str (PySem.Str.ofString "="))) (consA (ofX (vX 9)) (consA (ofX (vX 10)) (consA (cP (.int 0)) nilA)))))) (consA (ofX (vX 2)) nilA)))))))
    (seqS (asgS (nameT 7) (ucall [2, 0] 0 d_law_draw (borE 0 (valE (toE (cP (.int 3))) nilE))))
    (seqS (ifS (toT (bT (bX gtI (toX (callP absD (consX (vX 6) nilX))) (vX 5)))) (asgS (tupU 3 (consT (nameT 9) (consT (nameT 10) (consT (nameT 6) nilT)))) (toE (lstP (consA (negP (toX (cP (.int 1)))) (consA (cP (.int 0)) (consA (pcall d_law_slot (consA (ofX (vX 1)) (consA (ofX (vX 4)) nilA))) nilA)))))) nilS)
    ttT2)))))))
theorem tt_t1 {i : Nat} {d : D} {m key : Int} {kk : List Nat} {ws : List Int} {hs : List Hap} {sl : List Nat} {x11 : Option (Nat × D)} (hi : i < 10 ^ 6) (hl : hs.length ≤ 20) (hhs : ∀ h ∈ hs, HOk h) (hw : ws.length ≤ 3) (hsl : ∀ s ∈ sl, s ≤ ws.length ∧ (s = 0 → hs ≠ [])) (hsl2 : sl.length ≤ 10) (hd : Dk i d) :
    OB (ttT1 [some (2, d), some (0, hD ⟨m, kk, key, ws⟩), some (0, .lst (hs.map hD)), some (0, .lst (sl.map (fun s : Nat => D.int s))), none, none, none, none, none, none, none, x11])
      fun o => Hid (∃ (ts : List D) (d' : D) (e3 e4 e5 e6 e7 e8 e9 e10 e11 : Option (Nat × D)), ts.length ≤ 1 ∧ Dk (i + 10) d' ∧ o = .rt 0 (.lst ts) [some (2, d'), some (0, hD ⟨m, kk, key, ws⟩), some (0, .lst (hs.map hD)), e3, e4, e5, e6, e7, e8, e9, e10, e11]) := by
  unfold ttT1
  have hp : Wr.pl 64 (.lst (sl.map (fun s : Nat => D.int s))) := by
    intro y hy
    obtain ⟨s, _, rfl⟩ := List.mem_map.mp hy
    exact pl_int _ _
  by_cases h0 : sl = []
  · subst h0
    have : eqD (.lst []) (.lst []) = some (.bl true) := eqD_same hp
    simp [this]
    exact Hid.mk ⟨[], d, _, _, _, _, _, _, _, _, _, by simp, hd.mono (by omega), rfl⟩
  · have hq : eqD (.lst (sl.map (fun s : Nat => D.int s))) (.lst []) = some (.bl false) := eqD_unlike hp (show Wr.pl 64 (.lst []) from fun x hx => by cases hx) (fun z => h0 (by simpa using z))
    have hl0 : 0 < sl.length := List.length_pos_iff.mpr h0
    simp [hq]
    refine draw_wp hd (by omega) (by omega) (by omega) fun v d2 v0 v1 hd => ?_
    obtain ⟨v, rfl⟩ := Int.eq_ofNat_of_zero_le v0
    have hv : v < sl.length := by omega
    obtain ⟨hs1, hs2⟩ := hsl _ (List.getElem_mem hv)
    have hat : L2.atI (sl.map (fun s : Nat => D.int s)) (v : Int) = some (.int sl[v]) := by rw [Wr.atI_nat (by simpa using hv)]; simp
    generalize sl[v] = s at *
    obtain ⟨most, hm⟩ : ∃ most : Int, L2.atI [D.int 1000000000000000000, .int 1000000000] (if s = 0 then 1 else 0) = some (.int most) := by
      by_cases hs0 : s = 0
      · rw [if_pos hs0]; exact ⟨_, rfl⟩
      · rw [if_neg hs0]; exact ⟨_, rfl⟩
    simp [hat, hm]
    refine based_wp (by omega) hl hhs hs2 hd fun p d3 hp hd => ?_
    simp [pbD, hD]
    refine lslot_wp hs1 ?_
    simp
    refine lasked_wp (tk := false) hp.2 ?_
    simp
    refine draw_wp hd (by omega) (by omega) (by omega) fun way d4 w0 w3 hd => ?_
    have fin : ∀ (num : Int) (d9 d10 : D) , OB (ttT2 [some (2, d4), some (0, hD ⟨m, kk, key, ws⟩), some (0, .lst (hs.map hD)), some (0, .lst (sl.map (fun s : Nat => D.int s))), some (0, .int s), some (0, .int most), some (0, .int num), some (0, .int way), none, some (0, d9), some (0, d10), x11])
        fun o => Hid (∃ (ts : List D) (d' : D) (e3 e4 e5 e6 e7 e8 e9 e10 e11 : Option (Nat × D)), ts.length ≤ 1 ∧ Dk (i + 10) d' ∧ o = .rt 0 (.lst ts) [some (2, d'), some (0, hD ⟨m, kk, key, ws⟩), some (0, .lst (hs.map hD)), e3, e4, e5, e6, e7, e8, e9, e10, e11]) := by
      intro num d9 d10
      refine (tt_t2 (by omega) w0 w3 hd).imp ?_
      rintro o ⟨t, d', e4, e5, e6, e7, e8, e9, e10, e11, hd', rfl⟩
      exact Hid.mk ⟨[t], d', _, _, _, _, _, _, _, _, _, by simp, hd'.mono (by omega), rfl⟩
    simp [hD] at fin ⊢
    refine ⟨fun _ => ?_, fun _ => ?_⟩
    · refine lslot_wp hs1 ?_
      simp
      exact fin _ _ _
    · exact fin _ _ _
theorem true_test_wp {i : Nat} {d : D} {h : Hap} {hs : List Hap} {Q : D × List D → Prop} (hi : i < 10 ^ 6) (hl : hs.length ≤ 20) (hhs : ∀ h ∈ hs, HOk h) (hw : h.ws.length ≤ 3) (hd : Dk i d)
    (q : ∀ (ts : List D) (d' : D), ts.length ≤ 1 → Dk (i + 10) d' → Q (.lst ts, [d', hD h, .lst (hs.map hD)])) : OB (d_law_true_test [d, hD h, .lst (hs.map hD)]) Q := by
  obtain ⟨m, kk, key, ws⟩ := h
  simp only at hw
  have loop1 : OB (lcL 0 [11] (nameT 11) yesT (toE (bP addD (ofX (vX 11)) (cP (.int 1)))) (rangeD 0 (ws.length : Nat)) [some (2, d), some (0, .tup [.int m, .str (S kk), .int key, .tup (ws.map D.int)]), some (0, .lst (hs.map hD)), none, none, none, none, none, none, none, none, none])
      fun r => Hid (∃ (sl : List Nat) (e11 : Option (Nat × D)), sl.length = ws.length ∧ (∀ s ∈ sl, s ≤ ws.length ∧ s ≠ 0) ∧ r = (sl.map (fun s : Nat => D.int s), [some (2, d), some (0, .tup [.int m, .str (S kk), .int key, .tup (ws.map D.int)]), some (0, .lst (hs.map hD)), none, none, none, none, none, none, none, none, e11])) := by
    refine lcN_ob (fun k => D.int ((k + 1 : Nat) : Int)) (fun j e => Hid (∃ (e11 : Option (Nat × D)), e = [some (2, d), some (0, .tup [.int m, .str (S kk), .int key, .tup (ws.map D.int)]), some (0, .lst (hs.map hD)), none, none, none, none, none, none, none, none, e11])) ?_ ?_ _ (Hid.mk ⟨_, rfl⟩)
    · rintro j e hj ⟨e11, rfl⟩
      simp
      exact Hid.mk ⟨_, rfl⟩
    · rintro e ⟨e11, rfl⟩
      refine Hid.mk ⟨(List.range ws.length).map fun k : Nat => k + 1, e11, by simp, fun s hs => ?_, by simp [ar, Function.comp_def]⟩
      obtain ⟨k, hk, rfl⟩ := List.mem_map.mp hs
      have := List.mem_range.mp hk
      exact ⟨by omega, by omega⟩
  have hne := hs_ne hhs
  have eb : b_law_true_test = (seqS (asgS (nameT 3) (bE0 addL (toE (bP mulL (lstP (consA (cP (.int 0)) nilA)) (callP intD (consX (toX (bX neD (vX 2) (toX (lstP nilA)))) nilX)))) (coldE (lcE 0 [11] (rngI1 (valE (toE (callP lenD (consX (ixX (vX 1) (toX (cP (.int 3)))) nilX))) nilE)) (nameT 11) yesT (toE (bP addD (ofX (vX 11)) (cP (.int 1))))))))
    ttT1) := rfl
  unfold d_law_true_test
  rw [eb]
  have fin : ∀ (sl : List Nat), (∀ s ∈ sl, s ≤ ws.length ∧ (s = 0 → hs ≠ [])) → sl.length ≤ 10 → ∀ x11, OB (ttT1 [some (2, d), some (0, hD ⟨m, kk, key, ws⟩), some (0, .lst (hs.map hD)), some (0, .lst (sl.map (fun s : Nat => D.int s))), none, none, none, none, none, none, none, x11])
      fun o => Hid (∃ (ts : List D) (d' : D) (e3 e4 e5 e6 e7 e8 e9 e10 e11 : Option (Nat × D)), ts.length ≤ 1 ∧ Dk (i + 10) d' ∧ o = .rt 0 (.lst ts) [some (2, d'), some (0, hD ⟨m, kk, key, ws⟩), some (0, .lst (hs.map hD)), e3, e4, e5, e6, e7, e8, e9, e10, e11]) := fun sl h1 h2 x11 => tt_t1 hi hl hhs hw h1 h2 hd
  by_cases h0 : hs = []
  · have hne' : neD (.lst (hs.map hD)) (.lst []) = some (.bl false) := by rw [hne]; simp [h0]
    simp [hD, hne'] at fin ⊢
    refine ⟨by omega, by omega, loop1.imp ?_⟩
    rintro r ⟨sl, e11, h1, h2, rfl⟩
    simp
    refine ⟨by omega, (fin sl (fun s hs => ⟨(h2 s hs).1, fun z => absurd z (h2 s hs).2⟩) (by omega) _).imp ?_⟩
    rintro o ⟨ts, d', e3, e4, e5, e6, e7, e8, e9, e10, e11, ht, hd', rfl⟩
    simp
    exact q ts d' ht hd'
  · have hne' : neD (.lst (hs.map hD)) (.lst []) = some (.bl true) := by rw [hne]; simp [h0]
    simp [hD, hne'] at fin ⊢
    refine ⟨by omega, by omega, loop1.imp ?_⟩
    rintro r ⟨sl, e11, h1, h2, rfl⟩
    simp
    have := fin (0 :: sl) (fun s hs => by rcases List.mem_cons.mp hs with z | z; (· subst z; exact ⟨by omega, fun _ => h0⟩); exact ⟨(h2 s z).1, fun g => absurd g (h2 s z).2⟩) (by simp; omega) none
    simp at this
    refine ⟨by omega, this.imp ?_⟩
    rintro o ⟨ts, d', e3, e4, e5, e6, e7, e8, e9, e10, e11, ht, hd', rfl⟩
    simp
    exact q ts d' ht hd'
end Law

namespace Law
open PySem PySem.Spec PyProof.Rows L2 Wr
theorem bars_wp {i : Nat} {d : D} {hs : List Hap} {ks : List (List Nat × Nat)} {Q : D × List D → Prop} (hi : i < 10 ^ 5) (hl : hs.length ≤ 20) (hhs : ∀ h ∈ hs, HOk h) (hne : hs ≠ []) (hk : 1 ≤ ks.length) (hk2 : ks.length ≤ 10) (hks : ∀ k ∈ ks, KOk k) (hd : Dk i d)
    (q : ∀ (b d' : D), Dk (i + 150) d' → Q (b, [d', .lst (ks.map kD), .lst (hs.map hD)])) : OB (d_law_bars [d, .lst (ks.map kD), .lst (hs.map hD)]) Q := by
  have loop1 : ∀ (i : Nat) (d : D) (v w : Nat) (e1 e3 e4 e5 : Option (Nat × D)), i < 10 ^ 5 + 10 ^ 4 → v ≤ 3 → w ≤ 3 → Dk i d → OB (lcL 0 [7] (nameT 7) yesT (ucall [2, 0, 0] 0 d_law_any_test (borE 0 (valE (toE (ofX (vX 6))) (valE (toE (ofX (vX 2))) nilE)))) (rangeD 0 (v : Nat)) [some (2, d), e1, some (0, .lst (hs.map hD)), e3, e4, e5, some (0, .int w), none])
      fun r => Hid (∃ (ts : List D) (d' : D) (e7 : Option (Nat × D)), ts.length ≤ 3 ∧ Dk (i + 45) d' ∧ r = (ts, [some (2, d'), e1, some (0, .lst (hs.map hD)), e3, e4, e5, some (0, .int w), e7])) := by
    intro i d v w e1 e3 e4 e5 hi hv hw hd
    refine (lcL_ob (Q := fun r => ∃ (ts : List D) (d' : D) (e7 : Option (Nat × D)), ts.length ≤ 3 ∧ Dk (i + 45) d' ∧ r = (ts, [some (2, d'), e1, some (0, .lst (hs.map hD)), e3, e4, e5, some (0, .int w), e7]))
      (fun ds acc e => Hid (∃ (d' : D) (e7 : Option (Nat × D)), acc.length + ds.length = v ∧ Dk (i + 15 * acc.length) d' ∧ e = [some (2, d'), e1, some (0, .lst (hs.map hD)), e3, e4, e5, some (0, .int w), e7])) ?_ ?_ _ [] _
      (Hid.mk ⟨d, none, by simp [rangeD_len0], hd, rfl⟩)).imp ?_
    · rintro x ds acc e ⟨d', e7, h1, hd', rfl⟩
      simp only [List.length_cons] at h1
      simp
      refine any_test_wp (by omega) hl hhs hne hw hd' fun t d2 ht _ hd2 => ?_
      simp [tD]
      exact Hid.mk ⟨d2, _, by simp; omega, hd2.mono (by simp; omega), rfl⟩
    · rintro acc e ⟨d', e7, h1, hd', rfl⟩
      simp at h1
      exact ⟨acc, d', e7, by omega, hd'.mono (by omega), rfl⟩
    · rintro r ⟨ts, d', e7, h1, h2, h⟩
      exact Hid.mk ⟨ts, d', e7, h1, h2, Prod.ext (by simpa using congrArg Prod.fst h) (by have := congrArg Prod.snd h; exact this)⟩
  have loop2 : ∀ (d : D) (v : Nat), v ≤ 3 → Dk (i + 1) d → OB (forL (nameT 4) (seqS (asgS (tupU 2 (consT (nameT 5) (consT (nameT 6) nilT))) (ixV 1 (ucall [2, 0] 0 d_law_draw (borE 0 (valE (toE (callP lenD (consX (vX 1) nilX))) nilE)))))
    (dropS (appS 3 (tupE 0 (valE (toE (ofX (vX 5))) (valE (callE tupleD (valE (coldE (lcE 0 [7] (rngI1 (valE (ucall [2, 0] 0 d_law_draw (borE 0 (valE (toE (cP (.int 3))) nilE))) nilE)) (nameT 7) yesT (ucall [2, 0, 0] 0 d_law_any_test (borE 0 (valE (toE (ofX (vX 6))) (valE (toE (ofX (vX 2))) nilE)))))) nilE)) nilE)))))) (rangeD 0 (v : Nat)) [some (2, d), some (0, .lst (ks.map kD)), some (0, .lst (hs.map hD)), some (1, .lst []), none, none, none, none])
      fun o => Hid (∃ (bs : List D) (d' : D) (e4 e5 e6 : Option (Nat × D)), bs.length ≤ 3 ∧ Dk (i + 150) d' ∧ o = .nx [some (2, d'), some (0, .lst (ks.map kD)), some (0, .lst (hs.map hD)), some (1, .lst bs), e4, e5, e6, none]) := by
    intro d v hv hd
    refine forN_ob (fun j e => Hid (∃ (bs : List D) (d' : D) (e4 e5 e6 : Option (Nat × D)), bs.length = j ∧ Dk (i + 1 + 48 * j) d' ∧ e = [some (2, d'), some (0, .lst (ks.map kD)), some (0, .lst (hs.map hD)), some (1, .lst bs), e4, e5, e6, none])) ?_ ?_ _ (Hid.mk ⟨[], d, _, _, _, rfl, hd, rfl⟩)
    · rintro j e hj ⟨bs, d', e4, e5, e6, h1, hd', rfl⟩
      simp
      refine draw_wp hd' (by omega) (by omega) (by omega) fun v1 d2 v10 v11 hd2 => ?_
      obtain ⟨v1, rfl⟩ := Int.eq_ofNat_of_zero_le v10
      have hv1 : v1 < ks.length := by omega
      have hat : L2.atI (ks.map kD) (v1 : Int) = some (kD ks[v1]) := by rw [Wr.atI_nat (by simpa using hv1)]; simp
      obtain ⟨hw1, hw2⟩ := hks _ (List.getElem_mem hv1)
      simp [hat, kD]
      refine draw_wp hd2 (by omega) (by omega) (by omega) fun v2 d3 v20 v21 hd3 => ?_
      obtain ⟨v2, rfl⟩ := Int.eq_ofNat_of_zero_le v20
      simp
      refine ⟨by omega, by omega, (loop1 _ _ v2 ks[v1].2 _ _ _ _ ?_ (by omega) hw2 hd3).imp ?_⟩
      · omega
      rintro r ⟨ts, d4, e7, ht, hd4, rfl⟩
      simp
      exact ⟨by omega, Hid.mk ⟨_, d4, _, _, _, by simp [h1], hd4.mono (by omega), rfl⟩⟩
    · rintro e ⟨bs, d', e4, e5, e6, h1, hd', rfl⟩
      exact Hid.mk ⟨bs, d', _, _, _, by omega, hd'.mono (by omega), rfl⟩
  unfold d_law_bars b_law_bars
  simp
  refine draw_wp hd (by omega) (by omega) (by omega) fun v d2 v0 v1 hd => ?_
  obtain ⟨v, rfl⟩ := Int.eq_ofNat_of_zero_le v0
  simp
  refine ⟨by omega, (loop2 d2 v (by omega) hd).imp ?_⟩
  rintro o ⟨bs, d', e4, e5, e6, h1, hd', rfl⟩
  simp
  exact q _ d' hd'
end Law

namespace Law
open PySem PySem.Spec PyProof.Rows L2 Wr
structure Tail where
  k : List Nat
  len : Int
  ts : List Tst
  w : Nat
def tlD (t : Tail) : D := .tup [.str (S t.k), .int t.len, .tup (t.ts.map tD), .int t.w]
def TlOk (hs : List Hap) (t : Tail) : Prop := W t.k ∧ (∀ z ∈ t.ts, PlOk hs z) ∧ t.w ≤ 3 ∧ t.ts.length ≤ 3 ∧ 1 ≤ t.len
def TlIn (ks : List (List Nat × Nat)) (t : Tail) : Prop := (t.k, t.w) ∈ ks ∧ ∀ z ∈ t.ts, z.slot ≤ t.w
def Z0 (e : Option (Nat × D)) : Prop := ∀ k x, e = some (k, x) → k = 0
theorem Z0.none : Z0 none := fun _ _ h => by cases h
theorem Z0.some (d : D) : Z0 (some (0, d)) := fun _ _ h => by cases h; rfl
theorem ro_in {i j : Nat} {d : D} {hs : List Hap} {v : Nat} {e1 e3 e4 e5 e6 e7 e11 e12 e13 e14 e15 : Option (Nat × D)} (z11 : Z0 e11) (hi : i < 10 ^ 5) (hv : v ≤ 3) (hl : hs.length ≤ 5) (hhs : ∀ h ∈ hs, HOk h) (hj : j < hs.length) (hd : Dk i d) :
    OB (forL (nameT 11) (asgS (nameT 10) (bE0 addL (toE (ofX (vX 10))) (ucall [2, 0, 0] 0 d_law_true_test (borE 0 (valE (toE (ofX (vX 9))) (valE (toE (slP (ofX (vX 2)) noO (someO (ofX (vX 8))))) nilE)))))) (rangeD 0 (v : Nat)) [some (2, d), e1, some (0, .lst (hs.map hD)), e3, e4, e5, e6, e7, some (0, .int (j : Nat)), some (0, hD hs[j]), some (0, .lst []), e11, e12, e13, e14, e15])
      fun o => Hid (∃ (ts : List D) (d' : D) (e11 : Option (Nat × D)), Z0 e11 ∧ ts.length ≤ 3 ∧ Dk (i + 30) d' ∧ o = .nx [some (2, d'), e1, some (0, .lst (hs.map hD)), e3, e4, e5, e6, e7, some (0, .int (j : Nat)), some (0, hD hs[j]), some (0, .lst ts), e11, e12, e13, e14, e15]) := by
  have hcut : (cutL (hs.map hD) none (some (j : Int))) = (hs.take j).map hD := by rw [cutL_to, List.map_take]
  have hle : hs.length ≤ 16777216 := by omega
  obtain ⟨hj', hjj⟩ : ∃ hj' , hj' = hs.take j := ⟨_, rfl⟩
  rw [← hjj] at hcut
  have hl' : hj'.length ≤ 20 := by rw [hjj, List.length_take]; omega
  have hhs' : ∀ h ∈ hj', HOk h := fun h hh => hhs h (List.mem_of_mem_take (hjj ▸ hh))
  have hw := (hhs _ (List.getElem_mem hj)).2
  refine forN_ob (fun t e => Hid (∃ (ts : List D) (d' : D) (e11 : Option (Nat × D)), Z0 e11 ∧ ts.length ≤ t ∧ Dk (i + 10 * t) d' ∧ e = [some (2, d'), e1, some (0, .lst (hs.map hD)), e3, e4, e5, e6, e7, some (0, .int (j : Nat)), some (0, hD hs[j]), some (0, .lst ts), e11, e12, e13, e14, e15])) ?_ ?_ _ (Hid.mk ⟨[], d, _, z11, by simp, hd, rfl⟩)
  · rintro t e ht ⟨ts, d', e11, z11, h1, hd', rfl⟩
    simp [hcut, hle]
    refine true_test_wp (h := hs[j]) (by omega) hl' hhs' hw hd' fun ts2 d2 ht2 hd2 => ?_
    simp
    exact ⟨by omega, Hid.mk ⟨ts ++ ts2, d2, _, Z0.some _, by simp; omega, hd2.mono (by omega), rfl⟩⟩
  · rintro e ⟨ts, d', e11, z11, h1, hd', rfl⟩
    exact Hid.mk ⟨ts, d', _, z11, by omega, hd'.mono (by omega), rfl⟩
def roD : SM := (dropS (appS 4 (toE (tupP (consA (ofX (vX 12)) (consA (ofX (ixX (vX 9) (toX (cP (.int 1))))) (consA (callP tupleD (consA (ofX (vX 10)) nilA)) (consA (andP (ofX (vX 3)) (bX gtI (vX 8) (toX (cP (.int 0))))) (consA (callP lenD (consX (ixX (vX 9) (toX (cP (.int 3)))) nilX)) nilA)))))))))
theorem ro_cl {i : Nat} {d : D} {hs : List Hap} {ks : List (List Nat × Nat)} {keyed : Bool} {span : D} {e5 e7 e10 e11 e12 e13 e14 e15 : Option (Nat × D)} (z11 : Z0 e11) (hspan : span = .non ∨ ∃ z : Int, span = .int z) (hi : i < 50000) (hl : hs.length ≤ 5) (hhs : ∀ h ∈ hs, HOk h) (hk : 1 ≤ ks.length) (hk2 : ks.length ≤ 10) (hks : ∀ k ∈ ks, KOk k) (hd : Dk i d) :
    OB (forL (tupU 2 (consT (nameT 8) (consT (nameT 9) nilT))) (seqS (asgS (nameT 10) (toE (lstP nilA)))
    (seqS (forS (rngI1 (valE (ucall [2, 0] 0 d_law_draw (borE 0 (valE (toE (cP (.int 3))) nilE))) nilE)) (nameT 11) (asgS (nameT 10) (bE0 addL (toE (ofX (vX 10))) (ucall [2, 0, 0] 0 d_law_true_test (borE 0 (valE (toE (ofX (vX 9))) (valE (toE (slP (ofX (vX 2)) noO (someO (ofX (vX 8))))) nilE)))))))
    (seqS (asgS (nameT 12) (toE (tupP nilA)))
    (seqS (ifS (toT (andT (bT (bX gtI (vX 8) (toX (cP (.int 0))))) (bT (bX isntD (vX 6) (toX (cP .non)))))) (asgS (nameT 12) (ucall [2, 0, 0] 0 d_law_bars (borE 0 (valE (toE (ofX (vX 1))) (valE (toE (slP (ofX (vX 2)) noO (someO (ofX (vX 8))))) nilE))))) nilS)
    roD)))) (enumD (hs.map hD)) [some (2, d), some (0, .lst (ks.map kD)), some (0, .lst (hs.map hD)), some (0, .bl keyed), some (1, .lst []), e5, some (0, span), e7, none, none, e10, e11, e12, e13, e14, e15])
      fun o => Hid (∃ (cs : List D) (d' : D) (e8 e9 e10 e11 e12 : Option (Nat × D)), Z0 e11 ∧ cs.length ≤ 5 ∧ Dk (i + 1000) d' ∧ o = .nx [some (2, d'), some (0, .lst (ks.map kD)), some (0, .lst (hs.map hD)), some (0, .bl keyed), some (1, .lst cs), e5, some (0, span), e7, e8, e9, e10, e11, e12, e13, e14, e15]) := by
  have hle : hs.length ≤ 16777216 := by omega
  refine forE_ob (fun t e => Hid (∃ (cs : List D) (d' : D) (e8 e9 e10 e11 e12 : Option (Nat × D)), Z0 e11 ∧ cs.length = t ∧ Dk (i + 200 * t) d' ∧ e = [some (2, d'), some (0, .lst (ks.map kD)), some (0, .lst (hs.map hD)), some (0, .bl keyed), some (1, .lst cs), e5, some (0, span), e7, e8, e9, e10, e11, e12, e13, e14, e15])) ?_ ?_ _ (Hid.mk ⟨[], d, _, _, _, _, _, z11, rfl, hd, rfl⟩)
  · rintro j hj e ⟨cs, d', e8, e9, e10, e11, e12, z11, h1, hd', rfl⟩
    have hj : j < hs.length := by simpa using hj
    have hcut : (cutL (hs.map hD) none (some (j : Int))) = (hs.take j).map hD := by rw [cutL_to, List.map_take]
    obtain ⟨hj', hjj⟩ : ∃ hj' , hj' = hs.take j := ⟨_, rfl⟩
    rw [← hjj] at hcut
    have hlj : hj'.length = j := by rw [hjj, List.length_take]; omega
    have hhs' : ∀ h ∈ hj', HOk h := fun h hh => hhs h (List.mem_of_mem_take (hjj ▸ hh))
    simp
    refine draw_wp hd' (by omega) (by omega) (by omega) fun v d2 v0 v1 hd2 => ?_
    obtain ⟨v, rfl⟩ := Int.eq_ofNat_of_zero_le v0
    simp
    refine ⟨by omega, (ro_in (j := j) (v := v) z11 (by omega) (by omega) hl hhs hj hd2).imp ?_⟩
    rintro o ⟨ts, d3, f11, zf, ht, hd3, rfl⟩
    have hapx : hD hs[j] = .tup [.int hs[j].m, .str (S hs[j].k), .int hs[j].key, .tup (hs[j].ws.map D.int)] := rfl
    have fin : ∀ (b d4 : D), Dk (i + 200 * (j + 1)) d4 → ∀ {Q : Out → Prop}, (∀ e2, Hid (∃ (cs : List D) (d' : D) (e8 e9 e10 e11 e12 : Option (Nat × D)), Z0 e11 ∧ cs.length = j + 1 ∧ Dk (i + 200 * (j + 1)) d' ∧ e2 = [some (2, d'), some (0, .lst (ks.map kD)), some (0, .lst (hs.map hD)), some (0, .bl keyed), some (1, .lst cs), e5, some (0, span), e7, e8, e9, e10, e11, e12, e13, e14, e15]) → Q (.nx e2)) →
       OB (roD [some (2, d4), some (0, .lst (ks.map kD)), some (0, .lst (hs.map hD)), some (0, .bl keyed), some (1, .lst cs), e5, some (0, span), e7, some (0, .int (j : Nat)), some (0, hD hs[j]), some (0, .lst ts), f11, some (0, b), e13, e14, e15]) Q := by
      intro b d4 hd4 Q hQ
      unfold roD
      cases keyed
      · simp [hapx]
        exact ⟨by omega, hQ _ (Hid.mk ⟨_, d4, _, _, _, _, _, zf, by simp [h1], hd4, rfl⟩)⟩
      · simp [hapx]
        exact ⟨by omega, hQ _ (Hid.mk ⟨_, d4, _, _, _, _, _, zf, by simp [h1], hd4, rfl⟩)⟩
    rcases hspan with rfl | ⟨z, rfl⟩
    · simp [isntD]
      refine ⟨fun _ => ?_, fun _ => ?_⟩
      · exact fin _ _ (hd3.mono (by omega)) fun e2 h => h
      · exact fin _ _ (hd3.mono (by omega)) fun e2 h => h
    · simp [isntD, hcut, hle]
      refine ⟨fun h0 => ?_, fun _ => ?_⟩
      · refine bars_wp (by omega) (by omega) hhs' (by intro z; rw [z] at hlj; simp at hlj; omega) hk hk2 hks hd3 fun b d4 hd4 => ?_
        simp
        exact fin _ _ (hd4.mono (by omega)) fun e2 h => h
      · exact fin _ _ (hd3.mono (by omega)) fun e2 h => h
  · rintro e ⟨cs, d', e8, e9, e10, e11, e12, z11, h1, hd', rfl⟩
    exact Hid.mk ⟨cs, d', _, _, _, _, _, z11, by simp at h1; omega, hd'.mono (by simp; omega), rfl⟩
end Law

namespace Law
open PySem PySem.Spec PyProof.Rows L2 Wr
theorem ro_tst {i : Nat} {d : D} {hs : List Hap} {v w : Nat} {x : Option (Nat × D)} {e1 e3 e4 e5 e6 e7 e8 e9 e10 e13 e14 e12 : Option (Nat × D)} (hi : i < 10 ^ 5 + 10 ^ 4) (hl : hs.length ≤ 20) (hhs : ∀ h ∈ hs, HOk h) (hne : hs ≠ []) (hv : v ≤ 3) (hw : w ≤ 3) (hd : Dk i d) :
    OB (lcL 0 [11] (nameT 11) yesT (ucall [2, 0, 0] 0 d_law_any_test (borE 0 (valE (toE (ofX (vX 15))) (valE (toE (ofX (vX 2))) nilE)))) (rangeD 0 (v : Nat)) [some (2, d), e1, some (0, .lst (hs.map hD)), e3, e4, e5, e6, e7, e8, e9, e10, x, e12, e13, e14, some (0, .int w)])
      fun r => Hid (∃ (ts : List Tst) (d' : D) (y : Option (Nat × D)), ts.length ≤ 3 ∧ (∀ t ∈ ts, PlOk hs t ∧ t.slot ≤ w) ∧ Dk (i + 45) d' ∧ r = (ts.map tD, [some (2, d'), e1, some (0, .lst (hs.map hD)), e3, e4, e5, e6, e7, e8, e9, e10, y, e12, e13, e14, some (0, .int w)])) := by
  refine (lcL_ob (Q := fun r => ∃ (ts : List Tst) (d' : D) (y : Option (Nat × D)), ts.length ≤ 3 ∧ (∀ t ∈ ts, PlOk hs t ∧ t.slot ≤ w) ∧ Dk (i + 45) d' ∧ r = (ts.map tD, [some (2, d'), e1, some (0, .lst (hs.map hD)), e3, e4, e5, e6, e7, e8, e9, e10, y, e12, e13, e14, some (0, .int w)]))
    (fun ds acc e => Hid (∃ (ts : List Tst) (d' : D) (y : Option (Nat × D)), ts.length + ds.length = v ∧ acc = ts.map tD ∧ (∀ t ∈ ts, PlOk hs t ∧ t.slot ≤ w) ∧ Dk (i + 15 * ts.length) d' ∧ e = [some (2, d'), e1, some (0, .lst (hs.map hD)), e3, e4, e5, e6, e7, e8, e9, e10, y, e12, e13, e14, some (0, .int w)])) ?_ ?_ _ [] _
    (Hid.mk ⟨[], d, _, by simp [rangeD_len0], rfl, (fun _ z => by cases z), hd, rfl⟩)).imp ?_
  · rintro z ds acc e ⟨ts, d', y, h1, rfl, h2, hd', rfl⟩
    simp only [List.length_cons] at h1
    simp
    refine any_test_wp (by omega) hl hhs hne hw hd' fun t d2 ht hsl hd2 => ?_
    simp [tD]
    refine Hid.mk ⟨ts ++ [t], d2, _, by simp; omega, by simp [tD], fun y hy => ?_, hd2.mono (by simp; omega), rfl⟩
    rcases List.mem_append.mp hy with g | g
    · exact h2 y g
    · simp at g; subst g; exact ⟨ht, hsl⟩
  · rintro acc e ⟨ts, d', y, h1, rfl, h2, hd', rfl⟩
    simp at h1
    exact ⟨ts, d', y, by omega, h2, hd'.mono (by omega), rfl⟩
  · rintro r ⟨ts, d', y, h1, h2, h3, h⟩
    exact Hid.mk ⟨ts, d', y, h1, h2, h3, Prod.ext (by simpa using congrArg Prod.fst h) (by have := congrArg Prod.snd h; exact this)⟩
def roT : SM := (seqS (asgS (nameT 7) (lstE 0 nilE))
    (seqS (forS (rngI1 (valE (ucall [2, 0] 0 d_law_draw (borE 0 (valE (toE (cP (.int 3))) nilE))) nilE)) (nameT 8) (seqS (asgS (tupU 2 (consT (nameT 14) (consT (nameT 15) nilT))) (ixV 1 (ucall [2, 0] 0 d_law_draw (borE 0 (valE (toE (callP lenD (consX (vX 1) nilX))) nilE)))))
    (seqS (asgS (nameT 13) (bE0 addD (toE (cP (.int 1))) (ucall [2, 0] 0 d_law_draw (borE 0 (valE (ixE (toE (lstP (consA (cP (.int 8)) (consA (cP (.int 1000000000)) nilA)))) (bE fdivD (ucall [2, 0] 0 d_law_draw (borE 0 (valE (toE (cP (.int 4))) nilE))) (toE (cP (.int 3))))) nilE)))))
    (seqS (asgS (nameT 10) (lcE 0 [11] (rngI1 (valE (ucall [2, 0] 0 d_law_draw (borE 0 (valE (toE (cP (.int 4))) nilE))) nilE)) (nameT 11) yesT (ucall [2, 0, 0] 0 d_law_any_test (borE 0 (valE (toE (ofX (vX 15))) (valE (toE (ofX (vX 2))) nilE))))))
    (frzS 10 (dropS (appS 7 (toE (tupP (consA (ofX (vX 14)) (consA (ofX (vX 13)) (consA (callP tupleD (consA (ofX (vX 10)) nilA)) (consA (ofX (vX 15)) nilA)))))))))))))
    (retS (tupE 0 (valE (callE tupleD (valE (frzE 4) nilE)) (valE (toE (ofX (vX 6))) (valE (callE tupleD (valE (frzE 7) nilE)) (valE (toE (ofX (vX 3))) nilE)))))))) 
theorem ro_t {i : Nat} {d : D} {hs : List Hap} {ks : List (List Nat × Nat)} {keyed : Bool} {span : D} {cs : List D} {e5 e7 e8 e9 e10 e11 e12 e13 e14 e15 : Option (Nat × D)} (z11 : Z0 e11) (hcs : cs.length ≤ 5) (hi : i < 90000) (hl : hs.length ≤ 20) (hhs : ∀ h ∈ hs, HOk h) (hne : hs ≠ []) (hk : 1 ≤ ks.length) (hk2 : ks.length ≤ 10) (hks : ∀ k ∈ ks, KOk k) (hd : Dk i d) :
    OB (roT [some (2, d), some (0, .lst (ks.map kD)), some (0, .lst (hs.map hD)), some (0, .bl keyed), some (1, .lst cs), e5, some (0, span), e7, e8, e9, e10, e11, e12, e13, e14, e15])
      fun o => Hid (∃ (c : D) (tls : List Tail) (d' : D) (e4 e5 e6 e7 e8 e9 e10 e11 e12 e13 e14 e15 : Option (Nat × D)), (∀ t ∈ tls, TlOk hs t ∧ TlIn ks t) ∧ tls.length ≤ 3 ∧ Dk (i + 200) d' ∧ o = .rt 0 (.tup [c, span, .tup (tls.map tlD), .bl keyed]) [some (2, d'), some (0, .lst (ks.map kD)), some (0, .lst (hs.map hD)), some (0, .bl keyed), e4, e5, e6, e7, e8, e9, e10, e11, e12, e13, e14, e15]) := by
  have loop : ∀ (d : D) (v : Nat), v ≤ 3 → Dk (i + 1) d → OB (forL (nameT 8) (seqS (asgS (tupU 2 (consT (nameT 14) (consT (nameT 15) nilT))) (ixV 1 (ucall [2, 0] 0 d_law_draw (borE 0 (valE (toE (callP lenD (consX (vX 1) nilX))) nilE)))))
    (seqS (asgS (nameT 13) (bE0 addD (toE (cP (.int 1))) (ucall [2, 0] 0 d_law_draw (borE 0 (valE (ixE (toE (lstP (consA (cP (.int 8)) (consA (cP (.int 1000000000)) nilA)))) (bE fdivD (ucall [2, 0] 0 d_law_draw (borE 0 (valE (toE (cP (.int 4))) nilE))) (toE (cP (.int 3))))) nilE)))))
    (seqS (asgS (nameT 10) (lcE 0 [11] (rngI1 (valE (ucall [2, 0] 0 d_law_draw (borE 0 (valE (toE (cP (.int 4))) nilE))) nilE)) (nameT 11) yesT (ucall [2, 0, 0] 0 d_law_any_test (borE 0 (valE (toE (ofX (vX 15))) (valE (toE (ofX (vX 2))) nilE))))))
    (frzS 10 (dropS (appS 7 (toE (tupP (consA (ofX (vX 14)) (consA (ofX (vX 13)) (consA (callP tupleD (consA (ofX (vX 10)) nilA)) (consA (ofX (vX 15)) nilA)))))))))))) (rangeD 0 (v : Nat)) [some (2, d), some (0, .lst (ks.map kD)), some (0, .lst (hs.map hD)), some (0, .bl keyed), some (1, .lst cs), e5, some (0, span), some (1, .lst []), e8, e9, e10, e11, e12, e13, e14, e15])
      fun o => Hid (∃ (tls : List Tail) (d' : D) (e8 e10 e11 e13 e14 e15 : Option (Nat × D)), (∀ t ∈ tls, TlOk hs t ∧ TlIn ks t) ∧ tls.length ≤ 3 ∧ Dk (i + 200) d' ∧ o = .nx [some (2, d'), some (0, .lst (ks.map kD)), some (0, .lst (hs.map hD)), some (0, .bl keyed), some (1, .lst cs), e5, some (0, span), some (1, .lst (tls.map tlD)), e8, e9, e10, e11, e12, e13, e14, e15]) := by
    intro d v hv hd
    refine forN_ob (fun j e => Hid (∃ (tls : List Tail) (d' : D) (e8 e10 e11 e13 e14 e15 : Option (Nat × D)), Z0 e11 ∧ (∀ t ∈ tls, TlOk hs t ∧ TlIn ks t) ∧ tls.length = j ∧ Dk (i + 1 + 60 * j) d' ∧ e = [some (2, d'), some (0, .lst (ks.map kD)), some (0, .lst (hs.map hD)), some (0, .bl keyed), some (1, .lst cs), e5, some (0, span), some (1, .lst (tls.map tlD)), e8, e9, e10, e11, e12, e13, e14, e15])) ?_ ?_ _ (Hid.mk ⟨[], d, _, _, _, _, _, _, z11, (fun _ z => by cases z), rfl, hd, rfl⟩)
    · rintro j e hj ⟨tls, d', e8, e10, e11, e13, e14, e15, z11, h1, h2, hd', rfl⟩
      simp
      refine draw_wp hd' (by omega) (by omega) (by omega) fun v1 d2 v10 v11 hd2 => ?_
      obtain ⟨v1, rfl⟩ := Int.eq_ofNat_of_zero_le v10
      have hv1 : v1 < ks.length := by omega
      have hat : L2.atI (ks.map kD) (v1 : Int) = some (kD ks[v1]) := by rw [Wr.atI_nat (by simpa using hv1)]; simp
      obtain ⟨hw1, hw2⟩ := hks _ (List.getElem_mem hv1)
      simp [hat, kD]
      refine draw_wp hd2 (by omega) (by omega) (by omega) fun v2 d3 v20 v21 hd3 => ?_
      obtain ⟨m, hm, hm1, hm2⟩ : ∃ m : Int, L2.atI [D.int 8, .int 1000000000] (v2 / 3) = some (.int m) ∧ 0 < m ∧ m ≤ 1000000000 := by
        rcases (show v2 = 0 ∨ v2 = 1 ∨ v2 = 2 ∨ v2 = 3 by omega) with rfl | rfl | rfl | rfl
        all_goals exact ⟨_, rfl, by omega, by omega⟩
      simp [hm, lg3]
      refine draw_wp hd3 (by omega) hm1 (by omega) fun v3 d4 v30 v31 hd4 => ?_
      simp
      refine draw_wp hd4 (by omega) (by omega) (by omega) fun v4 d5 v40 v41 hd5 => ?_
      obtain ⟨v4, rfl⟩ := Int.eq_ofNat_of_zero_le v40
      simp
      refine ⟨by omega, ⟨?_, by omega⟩, (ro_tst (x := e11) (v := v4) (w := ks[v1].2) (by omega) hl hhs hne (by omega) hw2 hd5).imp ?_⟩
      · cases e11 with
        | none => rfl
        | some x => obtain ⟨k, x⟩ := x; have := z11 k x rfl; subst this; rfl
      rintro r ⟨ts, d6, y, ht1, ht2, hd6, rfl⟩
      simp
      refine ⟨by omega, Hid.mk ⟨tls ++ [⟨ks[v1].1, 1 + v3, ts, ks[v1].2⟩], d6, _, _, _, _, _, _, z11, fun t ht => ?_, by simp [h2], hd6.mono (by omega), by simp [tlD]; exact ⟨rfl, rfl, rfl, rfl, rfl⟩⟩⟩
      rcases List.mem_append.mp ht with z | z
      · exact h1 t z
      · simp at z; subst z; exact ⟨⟨hw1, fun z hz => (ht2 z hz).1, hw2, ht1, by show 1 ≤ 1 + v3; omega⟩, List.getElem_mem hv1, fun z hz => (ht2 z hz).2⟩
    · rintro e ⟨tls, d', e8, e10, e11, e13, e14, e15, z11, h1, h2, hd', rfl⟩
      exact Hid.mk ⟨tls, d', _, _, _, _, _, _, h1, by omega, hd'.mono (by omega), rfl⟩
  unfold roT
  simp
  refine draw_wp hd (by omega) (by omega) (by omega) fun v d2 v0 v1 hd => ?_
  obtain ⟨v, rfl⟩ := Int.eq_ofNat_of_zero_le v0
  simp
  refine ⟨by omega, (loop d2 v (by omega) hd).imp ?_⟩
  rintro o ⟨tls, d', e8, e10, e11, e13, e14, e15, h1, h2, hd', rfl⟩
  simp
  exact Hid.mk ⟨_, tls, d', _, _, _, _, _, _, _, _, _, _, _, _, h1, h2, hd', rfl⟩
theorem road_wp {i : Nat} {d : D} {hs : List Hap} {ks : List (List Nat × Nat)} {keyed : Bool} {Q : D × List D → Prop} (hi : i < 40000) (hl : hs.length ≤ 5) (hhs : ∀ h ∈ hs, HOk h) (hne : hs ≠ []) (hk : 1 ≤ ks.length) (hk2 : ks.length ≤ 10) (hks : ∀ k ∈ ks, KOk k) (hd : Dk i d)
    (q : ∀ (c span : D) (tls : List Tail) (d' : D), (∀ t ∈ tls, TlOk hs t ∧ TlIn ks t) → tls.length ≤ 3 → Dk (i + 1300) d' → Q (.tup [c, span, .tup (tls.map tlD), .bl keyed], [d', .lst (ks.map kD), .lst (hs.map hD), .bl keyed])) :
    OB (d_law_road [d, .lst (ks.map kD), .lst (hs.map hD), .bl keyed]) Q := by
  have eb : b_law_road = (seqS (asgS (nameT 4) (lstE 0 nilE))
    (seqS (asgS (nameT 5) (toE (bX subD (ixX (ixX (vX 2) (toX (negP (toX (cP (.int 1)))))) (toX (cP (.int 0)))) (ixX (ixX (vX 2) (toX (cP (.int 0)))) (toX (cP (.int 0)))))))
    (seqS (asgS (nameT 6) (ixE (coldE (lstE 0 (valE (toE (cP .non)) (valE (bE0 addD (toE (ofX (vX 5))) (ucall [2, 0] 0 d_law_draw (borE 0 (valE (toE (cP (.int 5))) nilE)))) nilE)))) (ucall [2, 0] 0 d_law_draw (borE 0 (valE (toE (cP (.int 2))) nilE)))))
    (seqS (forS (enumI (valE (toE (ofX (vX 2))) nilE)) (tupU 2 (consT (nameT 8) (consT (nameT 9) nilT))) (seqS (asgS (nameT 10) (toE (lstP nilA)))
    (seqS (forS (rngI1 (valE (ucall [2, 0] 0 d_law_draw (borE 0 (valE (toE (cP (.int 3))) nilE))) nilE)) (nameT 11) (asgS (nameT 10) (bE0 addL (toE (ofX (vX 10))) (ucall [2, 0, 0] 0 d_law_true_test (borE 0 (valE (toE (ofX (vX 9))) (valE (toE (slP (ofX (vX 2)) noO (someO (ofX (vX 8))))) nilE)))))))
    (seqS (asgS (nameT 12) (toE (tupP nilA)))
    (seqS (ifS (toT (andT (bT (bX gtI (vX 8) (toX (cP (.int 0))))) (bT (bX isntD (vX 6) (toX (cP .non)))))) (asgS (nameT 12) (ucall [2, 0, 0] 0 d_law_bars (borE 0 (valE (toE (ofX (vX 1))) (valE (toE (slP (ofX (vX 2)) noO (someO (ofX (vX 8))))) nilE))))) nilS)
    roD)))))
    roT)))) := rfl
  unfold d_law_road
  rw [eb]
  obtain ⟨y, hym, hy⟩ := last_at hne
  have hyx : hD y = .tup [.int y.m, .str (S y.k), .int y.key, .tup (y.ws.map D.int)] := rfl
  have h0 : ∃ z : Hap, L2.atI (hs.map hD) 0 = some (hD z) := by
    have := Wr.atI_nat (xs := hs.map hD) (i := 0) (by simpa using List.length_pos_iff.mpr hne)
    exact ⟨_, by simpa using this⟩
  obtain ⟨z, hz⟩ := h0
  have hzx : hD z = .tup [.int z.m, .str (S z.k), .int z.key, .tup (z.ws.map D.int)] := rfl
  simp [hy, hyx, hz, hzx]
  refine draw_wp hd (by omega) (by omega) (by omega) fun v d2 v0 v1 hd => ?_
  simp
  refine draw_wp hd (by omega) (by omega) (by omega) fun v2 d3 v20 v21 hd => ?_
  obtain ⟨span, hsp, hsp2⟩ : ∃ span : D, L2.atI [D.non, .int (y.m - z.m + v)] v2 = some span ∧ (span = .non ∨ ∃ z : Int, span = .int z) := by
    rcases (show v2 = 0 ∨ v2 = 1 by omega) with rfl | rfl
    · exact ⟨_, rfl, .inl rfl⟩
    · exact ⟨_, rfl, .inr ⟨_, rfl⟩⟩
  have hks0 : keepK (0, span) = some span := by rcases hsp2 with rfl | ⟨z, rfl⟩ <;> rfl
  simp [hsp, hks0]
  refine (ro_cl (Z0.none) hsp2 (by omega) hl hhs hk hk2 hks hd).imp ?_
  rintro o ⟨cs, d', e8, e9, e10, e11, e12, z11, hcs, hd', rfl⟩
  simp
  refine (ro_t z11 hcs (by omega) (by omega) hhs hne hk hk2 hks hd').imp ?_
  rintro o ⟨c, tls, d', e4, e5, e6, e7, e8, e9, e10, e11, e12, e13, e14, e15, h1, h2, hd', rfl⟩
  simp
  exact q c span tls d' h1 h2 (hd'.mono (by omega))
end Law

namespace Law
open PySem PySem.Spec PyProof.Rows L2 Wr
structure Case where
  hs : List Hap
  keyed : Bool
  c : D
  span : D
  tls : List Tail
  ks : List (List Nat × Nat)
def roadD (x : Case) : D := .tup [x.c, x.span, .tup (x.tls.map tlD), .bl x.keyed]
def caseD (x : Case) : D := .lst [roadD x, .lst (x.hs.map hD), .lst (x.ks.map kD)]
def CaseOk (x : Case) : Prop := x.hs ≠ [] ∧ x.hs.length ≤ 5 ∧ (∀ h ∈ x.hs, HOk h ∧ 0 ≤ h.m ∧ 0 ≤ h.key ∧ h.key ≤ 1000000000000000000) ∧ (∀ t ∈ x.tls, TlOk x.hs t ∧ TlIn x.ks t) ∧ x.tls.length ≤ 3 ∧ (∀ k ∈ x.ks, KOk k) ∧ (x.ks.map Prod.fst).Nodup ∧ x.ks.length ≤ 3
theorem case_wp {i : Nat} {d : D} {Q : D × List D → Prop} (hi : i < 30000) (hd : Dk i d) (q : ∀ (x : Case) (d' : D), CaseOk x → Dk (i + 1700) d' → Q (caseD x, [d'])) : OB (d_law_case [d]) Q := by
  unfold d_law_case b_law_case
  simp
  refine names_wp (n := 3) (by omega) (by omega) hd fun ws d2 hws hw hnd hd => ?_
  simp
  refine draw_wp hd (by omega) (by omega) (by omega) fun v d3 v0 v1 hd => ?_
  obtain ⟨n, hn, hn1, hn3⟩ : ∃ n : Nat, 1 + v = (n : Int) ∧ 1 ≤ n ∧ n ≤ 3 := ⟨(1 + v).toNat, by omega, by omega, by omega⟩
  have loop : ∀ (d : D), Dk (i + 21) d → OB (lcL 0 [5] (nameT 5) yesT (tupE 0 (valE (toE (ofX (ixX (vX 1) (vX 5)))) (valE (ucall [2, 0] 0 d_law_draw (borE 0 (valE (toE (cP (.int 4))) nilE))) nilE))) (rangeD 0 (n : Nat)) [some (2, d), some (0, .lst (ws.map fun w => .str (S w))), none, none, none, none])
      fun r => Hid (∃ (ks : List (List Nat × Nat)) (d' : D) (e5 : Option (Nat × D)), ks.length = n ∧ (∀ k ∈ ks, KOk k) ∧ ks.map Prod.fst = ws.take ks.length ∧ Dk (i + 25) d' ∧ r = (ks.map kD, [some (2, d'), some (0, .lst (ws.map fun w => .str (S w))), none, none, none, e5])) := by
    intro d hd
    refine (lcL_ob (Q := fun r => ∃ (ks : List (List Nat × Nat)) (d' : D) (e5 : Option (Nat × D)), ks.length = n ∧ (∀ k ∈ ks, KOk k) ∧ ks.map Prod.fst = ws.take ks.length ∧ Dk (i + 25) d' ∧ r = (ks.map kD, [some (2, d'), some (0, .lst (ws.map fun w => .str (S w))), none, none, none, e5]))
      (fun ds acc e => Hid (∃ (ks : List (List Nat × Nat)) (d' : D) (e5 : Option (Nat × D)), ds = rangeD (ks.length : Nat) (n : Nat) ∧ ks.length ≤ n ∧ acc = ks.map kD ∧ (∀ k ∈ ks, KOk k) ∧ ks.map Prod.fst = ws.take ks.length ∧ Dk (i + 21 + ks.length) d' ∧ e = [some (2, d'), some (0, .lst (ws.map fun w => .str (S w))), none, none, none, e5])) ?_ ?_ _ [] _
      (Hid.mk ⟨[], d, none, rfl, by simp, rfl, (fun _ z => by cases z), by simp, hd, rfl⟩)).imp ?_
    · rintro z ds acc e ⟨ks, d', e5, h1, h2, rfl, h3, h4, hd', rfl⟩
      have hlt : ks.length < n := by
        rcases Nat.lt_or_ge ks.length n with z | z
        · exact z
        · have : ks.length = n := by omega
          rw [this] at h1
          unfold rangeD at h1
          simp at h1
      rw [rangeD_cons (by omega)] at h1
      cases h1
      have hat : L2.atI (ws.map fun w => D.str (S w)) ((ks.length : Nat) : Int) = some (.str (S (ws[ks.length]'(by omega)))) := by rw [Wr.atI_nat (by simp; omega)]; simp
      simp [hat]
      refine draw_wp hd' (by omega) (by omega) (by omega) fun v2 d3 v20 v21 hd3 => ?_
      obtain ⟨v2, rfl⟩ := Int.eq_ofNat_of_zero_le v20
      simp
      refine Hid.mk ⟨ks ++ [(ws[ks.length]'(by omega), v2)], d3, _, by simp, by simp; omega, by simp [kD], fun k hk => ?_, by rw [List.map_append, h4, List.length_append, List.length_singleton, List.take_succ_eq_append_getElem (show ks.length < ws.length by omega)]; rfl, hd3.mono (by simp; omega), rfl⟩
      rcases List.mem_append.mp hk with z | z
      · exact h3 k z
      · simp at z; subst z; exact ⟨hw _ (List.getElem_mem _), by show v2 ≤ 3; omega⟩
    · rintro acc e ⟨ks, d', e5, h1, h2, rfl, h3, h4, hd', rfl⟩
      have : ks.length = n := by
        rcases Nat.lt_or_ge ks.length n with z | z
        · rw [rangeD_cons (by omega)] at h1; cases h1
        · omega
      exact ⟨ks, d', e5, this, h3, h4, hd'.mono (by omega), rfl⟩
    · rintro r ⟨ks, d', e5, h1, h2, h3, h4, h⟩
      exact Hid.mk ⟨ks, d', e5, h1, h2, h3, h4, Prod.ext (by simpa using congrArg Prod.fst h) (by have := congrArg Prod.snd h; exact this)⟩
  simp [hn]
  refine ⟨by omega, by omega, (loop _ hd).imp ?_⟩
  rintro r ⟨ks, d4, e5, hk1, hks, hfst, hd, rfl⟩
  simp
  refine taken_wp (by omega) (by omega) (by omega) hks hd fun hs keyed d5 hne hl hhs hd => ?_
  simp
  refine road_wp (by omega) hl (fun h hh => (hhs h hh).1) hne (by omega) (by omega) hks hd fun c span tls d6 ht htl hd => ?_
  simp
  exact q ⟨hs, keyed, c, span, tls, ks⟩ d6 ⟨hne, hl, hhs, ht, htl, hks, by rw [hfst]; exact hnd.sublist (List.take_sublist _ _), by show ks.length ≤ 3; omega⟩ (hd.mono (by omega))
end Law

namespace Law
open PySem PySem.Spec PyProof.Rows L2 Wr
def sqD (tk : Bool) (xs : List D) : D := if tk then .tup xs else .lst xs
@[simp] theorem idxK_sq (tk : Bool) (xs : List D) (i : Int) : idxK (0, sqD tk xs) (.int i) = (L2.atI xs i).map fun d => (0, d) := by cases tk <;> rfl
theorem worth_wp {m key : Int} {k : List Nat} {ws : List Int} {s : Nat} {Q : D × List D → Prop} (h : s ≤ ws.length)
    (q : Q (.int (worthF ⟨m, k, key, ws⟩ s), [.tup [.int m, .str (S k), .int key, .tup (ws.map D.int)], .int s])) : OB (d_worth [.tup [.int m, .str (S k), .int key, .tup (ws.map D.int)], .int s]) Q := by
  unfold d_worth b_worth
  by_cases h0 : s = 0
  · subst h0; simp; simpa [worthF] using q
  · have : ¬ ((s : Int) = 0) := by omega
    simp [this, h0, ixws h0 h]
    simpa [worthF, h0] using q
theorem asked_wp {hs : List Hap} {s : Int} {x : D} {p : Option Nat} {o : Nat} {due : Int} {tk : Bool} {Q : D × List D → Prop} (hp : ∀ y, p = some y → ∃ h, hs[y]? = some h ∧ o ≤ h.ws.length)
    (q : Q (.int (askF hs ⟨0, 0, p, o, due⟩), [.tup [.int s, x, .int (plI p), .int o, .int due], if tk then .tup (hs.map hD) else .lst (hs.map hD)])) : OB (d_asked_of [.tup [.int s, x, .int (plI p), .int o, .int due], if tk then .tup (hs.map hD) else .lst (hs.map hD)]) Q := by
  unfold d_asked_of b_asked_of
  cases p with
  | none =>
    simp [plI]
    simpa [plI, askF] using q
  | some y =>
    obtain ⟨h, hy, ho⟩ := hp y rfl
    have : ¬ ((y : Int) = -1) := by omega
    cases tk
    all_goals
      simp [plI, hs_at hy, this]
      refine worth_wp ho ?_
      simp
      simpa [plI, askF, hy] using q
def mxI (i j : Int) : Int := if j > i then j else i
def mnI (i j : Int) : Int := if j < i then j else i
@[simp] theorem max2D_I (i j : Int) : max2D [.int i, .int j] = some (.int (mxI i j)) := rfl
@[simp] theorem min2D_I (i j : Int) : min2D [.int i, .int j] = some (.int (mnI i j)) := rfl
def stepF (hs : List Hap) (slot : Nat) (r : Int × Int) (t : Tst) : Int × Int :=
  if t.slot = slot then (if t.op = 0 then r.1 else mxI r.1 (askF hs t), if t.op = 1 then r.2 else mnI r.2 (askF hs t)) else r
def limF (hs : List Hap) (slot : Nat) (ts : List Tst) (r : Int × Int) : Int × Int := ts.foldl (stepF hs slot) r
theorem limits_wp {hs : List Hap} {ts : List Tst} {slot : Nat} {lo hi : Int} {tk : Bool} {Q : D × List D → Prop} (ht : ∀ t ∈ ts, PlOk hs t)
    (q : Q (.tup [.int (limF hs slot ts (lo, hi)).1, .int (limF hs slot ts (lo, hi)).2], [.tup (ts.map tD), .int slot, .int lo, .int hi, sqD tk (hs.map hD)])) :
    OB (d_limits [.tup (ts.map tD), .int slot, .int lo, .int hi, sqD tk (hs.map hD)]) Q := by
  have loop : ∀ (H : D), H = sqD tk (hs.map hD) → OB (forL (nameT 5) (ifS (toT (bT (bX eqD (ixX (vX 5) (toX (cP (.int 0)))) (vX 1)))) (seqS (asgS (nameT 6) (toE (pcall d_asked_of (consA (ofX (vX 5)) (consA (ofX (vX 4)) nilA)))))
    (seqS (ifS (toT (bT (bX neD (ixX (vX 5) (toX (cP (.int 1)))) (toX (cP (.str (S [62, 61]))))))) (asgS (nameT 3) (toE (callP min2D (consX (vX 3) (consX (vX 6) nilX))))) nilS)
    (ifS (toT (bT (bX neD (ixX (vX 5) (toX (cP (.int 1)))) (toX (cP (.str (S [60, 61]))))))) (asgS (nameT 2) (toE (callP max2D (consX (vX 2) (consX (vX 6) nilX))))) nilS))) nilS) (ts.map tD)
      [some (0, .tup (ts.map tD)), some (0, .int slot), some (0, .int lo), some (0, .int hi), some (0, H), none, none])
      fun o => Hid (∃ (e5 e6 : Option (Nat × D)), o = .nx [some (0, .tup (ts.map tD)), some (0, .int slot), some (0, .int (limF hs slot ts (lo, hi)).1), some (0, .int (limF hs slot ts (lo, hi)).2), some (0, H), e5, e6]) := by
    intro H hH
    refine forL_ob (fun ds e => Hid (∃ (rs : List Tst) (l h : Int) (e5 e6 : Option (Nat × D)), ds = rs.map tD ∧ (∀ t ∈ rs, PlOk hs t) ∧ limF hs slot ts (lo, hi) = limF hs slot rs (l, h) ∧ e = [some (0, .tup (ts.map tD)), some (0, .int slot), some (0, .int l), some (0, .int h), some (0, H), e5, e6])) ?_ ?_ _ _ (Hid.mk ⟨ts, lo, hi, _, _, rfl, ht, rfl, rfl⟩)
    · rintro z ds e ⟨rs, l, h, e5, e6, h1, h2, h3, rfl⟩
      cases rs with
      | nil => cases h1
      | cons t rs =>
        cases h1
        have ht := h2 t (by simp)
        have h2' : ∀ t ∈ rs, PlOk hs t := fun z hz => h2 z (List.mem_cons_of_mem _ hz)
        obtain ⟨s, op, p, o, due⟩ := t
        have h3' : limF hs slot ts (lo, hi) = limF hs slot rs (stepF hs slot (l, h) ⟨s, op, p, o, due⟩) := h3
        obtain ⟨hop, hp⟩ := ht
        simp only at hop hp
        have ha : askF hs ⟨s, op, p, o, due⟩ = askF hs ⟨0, 0, p, o, due⟩ := rfl
        by_cases hs0 : s = slot
        · subst hs0
          simp [tD]
          subst hH
          refine asked_wp hp ?_
          rcases (show op = 0 ∨ op = 1 ∨ op = 2 by omega) with rfl | rfl | rfl
          · simp [opT]
            exact Hid.mk ⟨rs, _, _, _, _, rfl, h2', by rw [h3']; simp [stepF, ha]; rfl, rfl⟩
          · simp [opT]
            exact Hid.mk ⟨rs, _, _, _, _, rfl, h2', by rw [h3']; simp [stepF, ha]; rfl, rfl⟩
          · simp [opT]
            exact Hid.mk ⟨rs, _, _, _, _, rfl, h2', by rw [h3']; simp [stepF, ha]; rfl, rfl⟩
        · have hs0' : ¬ ((s : Int) = (slot : Int)) := by omega
          simp [tD, hs0']
          exact Hid.mk ⟨rs, l, h, _, _, rfl, h2', by rw [h3']; simp [stepF, hs0], rfl⟩
    · rintro e ⟨rs, l, h, e5, e6, h1, h2, h3, rfl⟩
      cases rs with
      | nil => rw [h3]; exact Hid.mk ⟨e5, e6, rfl⟩
      | cons => cases h1
  unfold d_limits b_limits
  generalize hH : sqD tk (hs.map hD) = H at q ⊢
  simp
  refine (loop H hH.symm).imp ?_
  rintro o ⟨e5, e6, rfl⟩
  simp
  exact q
theorem stretch_wp {hs : List Hap} {ts : List Tst} {slot : Nat} {lo hi : Int} {Q : D × List D → Prop} (ht : ∀ t ∈ ts, PlOk hs t)
    (q : Q (.lst [.int (limF hs slot ts (lo, hi)).1, .int (limF hs slot ts (lo, hi)).2], [.tup (ts.map tD), .int slot, .int lo, .int hi, .lst (hs.map hD)])) :
    OB (d_law_stretch [.tup (ts.map tD), .int slot, .int lo, .int hi, .lst (hs.map hD)]) Q := by
  have loop : OB (forL (nameT 5) (seqS (ifS (toT (andT (bT (bX eqD (ixX (vX 5) (toX (cP (.int 0)))) (vX 1))) (bT (bX neD (ixX (vX 5) (toX (cP (.int 1)))) (toX (cP (.str (S [62, 61])))))))) (asgS (nameT 3) (toE (callP min2D (consX (vX 3) (consX (toX (pcall d_law_asked (consA (ofX (vX 5)) (consA (ofX (vX 4)) nilA)))) nilX))))) nilS)
    (ifS (toT (andT (bT (bX eqD (ixX (vX 5) (toX (cP (.int 0)))) (vX 1))) (bT (bX neD (ixX (vX 5) (toX (cP (.int 1)))) (toX (cP (.str (S [60, 61])))))))) (asgS (nameT 2) (toE (callP max2D (consX (vX 2) (consX (toX (pcall d_law_asked (consA (ofX (vX 5)) (consA (ofX (vX 4)) nilA)))) nilX))))) nilS)) (ts.map tD)
      [some (0, .tup (ts.map tD)), some (0, .int slot), some (0, .int lo), some (0, .int hi), some (0, .lst (hs.map hD)), none])
      fun o => Hid (∃ (e5 : Option (Nat × D)), o = .nx [some (0, .tup (ts.map tD)), some (0, .int slot), some (0, .int (limF hs slot ts (lo, hi)).1), some (0, .int (limF hs slot ts (lo, hi)).2), some (0, .lst (hs.map hD)), e5]) := by
    refine forL_ob (fun ds e => Hid (∃ (rs : List Tst) (l h : Int) (e5 : Option (Nat × D)), ds = rs.map tD ∧ (∀ t ∈ rs, PlOk hs t) ∧ limF hs slot ts (lo, hi) = limF hs slot rs (l, h) ∧ e = [some (0, .tup (ts.map tD)), some (0, .int slot), some (0, .int l), some (0, .int h), some (0, .lst (hs.map hD)), e5])) ?_ ?_ _ _ (Hid.mk ⟨ts, lo, hi, _, rfl, ht, rfl, rfl⟩)
    · rintro z ds e ⟨rs, l, h, e5, h1, h2, h3, rfl⟩
      cases rs with
      | nil => cases h1
      | cons t rs =>
        cases h1
        have ht := h2 t (by simp)
        have h2' : ∀ t ∈ rs, PlOk hs t := fun z hz => h2 z (List.mem_cons_of_mem _ hz)
        obtain ⟨s, op, p, o, due⟩ := t
        have h3' : limF hs slot ts (lo, hi) = limF hs slot rs (stepF hs slot (l, h) ⟨s, op, p, o, due⟩) := h3
        obtain ⟨hop, hp⟩ := ht
        simp only at hop hp
        have ha : askF hs ⟨s, op, p, o, due⟩ = askF hs ⟨0, 0, p, o, due⟩ := rfl
        by_cases hs0 : s = slot
        · subst hs0
          rcases (show op = 0 ∨ op = 1 ∨ op = 2 by omega) with rfl | rfl | rfl
          · simp [tD, opT]
            refine lasked_wp (tk := false) hp ?_
            simp
            exact Hid.mk ⟨rs, _, _, _, rfl, h2', by rw [h3']; simp [stepF, ha]; rfl, rfl⟩
          · simp [tD, opT]
            refine lasked_wp (tk := false) hp ?_
            simp
            exact Hid.mk ⟨rs, _, _, _, rfl, h2', by rw [h3']; simp [stepF, ha]; rfl, rfl⟩
          · simp [tD, opT]
            refine lasked_wp (tk := false) hp ?_
            simp
            refine lasked_wp (tk := false) hp ?_
            simp
            exact Hid.mk ⟨rs, _, _, _, rfl, h2', by rw [h3']; simp [stepF, ha]; rfl, rfl⟩
        · have hs0' : ¬ ((s : Int) = (slot : Int)) := by omega
          simp [tD, hs0']
          exact Hid.mk ⟨rs, l, h, _, rfl, h2', by rw [h3']; simp [stepF, hs0], rfl⟩
    · rintro e ⟨rs, l, h, e5, h1, h2, h3, rfl⟩
      cases rs with
      | nil => rw [h3]; exact Hid.mk ⟨e5, rfl⟩
      | cons => cases h1
  unfold d_law_stretch b_law_stretch
  simp
  refine loop.imp ?_
  rintro o ⟨e5, rfl⟩
  simp
  exact q
end Law

namespace Law
open PySem PySem.Spec PyProof.Rows L2 Wr
abbrev FAR : Int := 1000000000000000000
def wide (hs : List Hap) (ts : List Tst) (s : Nat) : Int × Int := limF hs s ts (-FAR, FAR)
def badF (hs : List Hap) (t : Tail) : Bool := (List.range t.w).any fun k => decide ((wide hs t.ts (k + 1)).2 < (wide hs t.ts (k + 1)).1)
theorem bad_all {hs : List Hap} {t : Tail} (h : ∀ k, k < t.w → (wide hs t.ts (k + 1)).1 ≤ (wide hs t.ts (k + 1)).2) : badF hs t = false := by
  rw [Bool.eq_false_iff]
  intro z
  obtain ⟨k, hk, g⟩ := List.any_eq_true.mp z
  have := h k (List.mem_range.mp hk)
  simp at g
  omega
theorem bad_one {hs : List Hap} {t : Tail} {k : Nat} (hk : k < t.w) (h : (wide hs t.ts (k + 1)).2 < (wide hs t.ts (k + 1)).1) : badF hs t = true :=
  List.any_eq_true.mpr ⟨k, List.mem_range.mpr hk, by simpa using h⟩
theorem worths_wp {hs : List Hap} {t : Tail} {tk : Bool} {Q : D × List D → Prop} (ht : TlOk hs t)
    (q : ∀ x, ((badF hs t = true ∧ x = .non) ∨ (badF hs t = false ∧ ∃ ws : List Int, ws.length = t.w ∧ (∀ k v, ws[k]? = some v → v = (wide hs t.ts (k + 1)).1) ∧ x = .tup (ws.map D.int))) → Q (x, [tlD t, sqD tk (hs.map hD)])) :
    OB (d_worths_of [tlD t, sqD tk (hs.map hD)]) Q := by
  obtain ⟨kk, len, ts, w⟩ := t
  obtain ⟨hw1, hts, hw3, hts3, hlen⟩ := ht
  simp only at hw1 hts hw3 hts3 hlen
  have loop : ∀ (H : D), H = sqD tk (hs.map hD) → OB (forL (nameT 3) (seqS (asgS (tupU 2 (consT (nameT 4) (consT (nameT 5) nilT))) (toE (pcall d_limits (consA (ofX (ixX (vX 0) (toX (cP (.int 2))))) (consA (ofX (vX 3)) (consA (negP (toX (cP (.int (1000000000000000000))))) (consA (cP (.int (1000000000000000000))) (consA (ofX (vX 1)) nilA))))))))
    (seqS (ifS (toT (bT (bX gtI (vX 4) (vX 5)))) (retS (toE (cP .non))) nilS)
    (dropS (appS 2 (toE (ofX (vX 4))))))) (rangeD 1 ((w : Int) + 1))
      [some (0, .tup [.str (S kk), .int len, .tup (ts.map tD), .int w]), some (0, H), some (1, .lst []), none, none, none])
      fun o => Hid (∃ (x2 e3 e4 e5 : Option (Nat × D)), (badF hs ⟨kk, len, ts, w⟩ = true ∧ o = .rt 0 .non [some (0, .tup [.str (S kk), .int len, .tup (ts.map tD), .int w]), some (0, H), x2, e3, e4, e5]) ∨ (badF hs ⟨kk, len, ts, w⟩ = false ∧ ∃ ws : List Int, ws.length = w ∧ (∀ k v, ws[k]? = some v → v = (wide hs ts (k + 1)).1) ∧ o = .nx [some (0, .tup [.str (S kk), .int len, .tup (ts.map tD), .int w]), some (0, H), some (1, .lst (ws.map D.int)), e3, e4, e5])) := by
    intro H hH
    refine forR_ob (fun i e => Hid (∃ (ws : List Int) (e3 e4 e5 : Option (Nat × D)), i = (ws.length : Int) + 1 ∧ ws.length ≤ w ∧ (∀ k, k < ws.length → (wide hs ts (k + 1)).1 ≤ (wide hs ts (k + 1)).2) ∧ (∀ k v, ws[k]? = some v → v = (wide hs ts (k + 1)).1) ∧ e = [some (0, .tup [.str (S kk), .int len, .tup (ts.map tD), .int w]), some (0, H), some (1, .lst (ws.map D.int)), e3, e4, e5])) ?_ ?_ _ _ (Hid.mk ⟨[], _, _, _, rfl, by simp, fun k hk => by simp at hk, fun k v hk => by simp at hk, rfl⟩)
    · rintro i e hi ⟨ws, e3, e4, e5, rfl, h1, h2, hv, rfl⟩
      simp
      subst hH
      rw [show ((ws.length : Int) + 1) = ((ws.length + 1 : Nat) : Int) by omega]
      refine limits_wp hts ?_
      have ew : limF hs (ws.length + 1) ts (-1000000000000000000, 1000000000000000000) = wide hs ts (ws.length + 1) := rfl
      rw [ew]
      simp
      refine ⟨fun hb => ?_, fun hb => ?_⟩
      · exact Hid.mk ⟨_, _, _, _, .inl ⟨bad_one (k := ws.length) (by show ws.length < w; omega) hb, rfl⟩⟩
      · refine ⟨by omega, Hid.mk ⟨ws ++ [(wide hs ts (ws.length + 1)).1], _, _, _, by simp, by simp; omega, fun k hk => ?_, fun k v hk => ?_, by simp; exact ⟨rfl, rfl, rfl⟩⟩⟩
        · simp at hk
          rcases Nat.lt_or_ge k ws.length with z | z
          · exact h2 k z
          · have : k = ws.length := by omega
            subst this; omega
        · rcases Nat.lt_or_ge k ws.length with z | z
          · rw [List.getElem?_append_left z] at hk; exact hv k v hk
          · rw [List.getElem?_append_right z] at hk
            have hk0 : k - ws.length = 0 := by
              rcases Nat.eq_zero_or_pos (k - ws.length) with g | g
              · exact g
              · rw [List.getElem?_eq_none (by simp; omega)] at hk; cases hk
            rw [hk0] at hk
            have : k = ws.length := by omega
            subst this
            simpa using hk.symm
    · rintro i e hi ⟨ws, e3, e4, e5, rfl, h1, h2, hv, rfl⟩
      have : ws.length = w := by omega
      subst this
      exact Hid.mk ⟨none, e3, e4, e5, .inr ⟨bad_all h2, ws, rfl, hv, rfl⟩⟩
  unfold d_worths_of b_worths_of
  generalize hH : sqD tk (hs.map hD) = H at q ⊢
  simp [tlD]
  refine ⟨by omega, (loop H hH.symm).imp ?_⟩
  rintro o ⟨x2, e3, e4, e5, ⟨hb, rfl⟩ | ⟨hb, ws, hws, hv, rfl⟩⟩
  · simp
    exact q _ (.inl ⟨hb, rfl⟩)
  · simp
    exact q _ (.inr ⟨hb, ws, hws, hv, rfl⟩)
theorem mx_last {m : Int} (h : 0 ≤ m) : mxI m (-1) = m := by unfold mxI; rw [if_neg (by omega)]
def lastF (hs : List Hap) (y : Hap) (t : Tail) : Int :=
  let r := limF hs 0 t.ts (y.m + 1, mnI (y.m + t.len) FAR)
  if r.2 < r.1 then y.m else if badF hs t then y.m else r.2
theorem met_wp {hs : List Hap} {y : Hap} {t : Tail} {settled : Int} {tk : Bool} {Q : D × List D → Prop} (hy : L2.atI (hs.map hD) (-1) = some (hD y)) (ht : TlOk hs t)
    (q : Q (.tup [.int (limF hs 0 t.ts (mxI y.m settled + 1, mnI (y.m + t.len) FAR)).1, .int (limF hs 0 t.ts (mxI y.m settled + 1, mnI (y.m + t.len) FAR)).2], [tlD t, sqD tk (hs.map hD), .int settled])) :
    OB (d_moments_met [tlD t, sqD tk (hs.map hD), .int settled]) Q := by
  obtain ⟨kk, len, ts, w⟩ := t
  obtain ⟨hw1, hts, hw3, hts3, hlen⟩ := ht
  simp only at hw1 hts hw3 hts3 hlen q
  have hyx : hD y = .tup [.int y.m, .str (S y.k), .int y.key, .tup (y.ws.map D.int)] := rfl
  unfold d_moments_met b_moments_met
  simp [tlD, hy, hyx]
  refine limits_wp (slot := 0) hts ?_
  simp
  simpa [tlD, mxI, mnI] using q
theorem llast_wp {hs : List Hap} {y : Hap} {t : Tail} {Q : D × List D → Prop} (hy : L2.atI (hs.map hD) (-1) = some (hD y)) (ht : TlOk hs t)
    (q : Q (.int (lastF hs y t), [tlD t, .lst (hs.map hD)])) :
    OB (d_law_last_met [tlD t, .lst (hs.map hD)]) Q := by
  have hyx : hD y = .tup [.int y.m, .str (S y.k), .int y.key, .tup (y.ws.map D.int)] := rfl
  obtain ⟨kk, len, ts, w⟩ := t
  obtain ⟨hw1, hts, hw3, hts3, hlen⟩ := ht
  simp only at hw1 hts hw3 hts3 hlen
  have hlast : lastF hs y ⟨kk, len, ts, w⟩ = if (limF hs 0 ts (y.m + 1, mnI (y.m + len) FAR)).2 < (limF hs 0 ts (y.m + 1, mnI (y.m + len) FAR)).1 then y.m else if badF hs ⟨kk, len, ts, w⟩ then y.m else (limF hs 0 ts (y.m + 1, mnI (y.m + len) FAR)).2 := rfl
  have loop : OB (forL (nameT 3) (seqS (asgS (tupU 2 (consT (nameT 4) (consT (nameT 5) nilT))) (toE (pcall d_law_stretch (consA (ofX (ixX (vX 0) (toX (cP (.int 2))))) (consA (ofX (vX 3)) (consA (negP (toX (bX powD (toX (cP (.int 10))) (toX (cP (.int 18)))))) (consA (bX powD (toX (cP (.int 10))) (toX (cP (.int 18)))) (consA (ofX (vX 1)) nilA))))))))
    (ifS (toT (bT (bX gtI (vX 4) (vX 5)))) (retS (toE (ofX (vX 2)))) nilS)) (rangeD 1 ((w : Int) + 1))
      [some (0, .tup [.str (S kk), .int len, .tup (ts.map tD), .int w]), some (0, .lst (hs.map hD)), some (0, .int y.m), none, none, none])
      fun o => Hid (∃ (e3 e4 e5 : Option (Nat × D)), (badF hs ⟨kk, len, ts, w⟩ = true ∧ o = .rt 0 (.int y.m) [some (0, .tup [.str (S kk), .int len, .tup (ts.map tD), .int w]), some (0, .lst (hs.map hD)), some (0, .int y.m), e3, e4, e5]) ∨ (badF hs ⟨kk, len, ts, w⟩ = false ∧ o = .nx [some (0, .tup [.str (S kk), .int len, .tup (ts.map tD), .int w]), some (0, .lst (hs.map hD)), some (0, .int y.m), e3, e4, e5])) := by
    refine forR_ob (fun i e => Hid (∃ (n : Nat) (e3 e4 e5 : Option (Nat × D)), i = (n : Int) + 1 ∧ n ≤ w ∧ (∀ k, k < n → (wide hs ts (k + 1)).1 ≤ (wide hs ts (k + 1)).2) ∧ e = [some (0, .tup [.str (S kk), .int len, .tup (ts.map tD), .int w]), some (0, .lst (hs.map hD)), some (0, .int y.m), e3, e4, e5])) ?_ ?_ _ _ (Hid.mk ⟨0, _, _, _, rfl, by omega, fun k hk => by omega, rfl⟩)
    · rintro i e hi ⟨n, e3, e4, e5, rfl, h1, h2, rfl⟩
      simp
      rw [show ((n : Int) + 1) = ((n + 1 : Nat) : Int) by omega]
      refine stretch_wp hts ?_
      have ew : limF hs (n + 1) ts (-1000000000000000000, 1000000000000000000) = wide hs ts (n + 1) := rfl
      rw [ew]
      simp
      refine ⟨fun hb => ?_, fun hb => ?_⟩
      · exact Hid.mk ⟨_, _, _, .inl ⟨bad_one (k := n) (by show n < w; omega) hb, rfl⟩⟩
      · refine Hid.mk ⟨n + 1, _, _, _, by simp, by omega, fun k hk => ?_, rfl⟩
        rcases Nat.lt_or_ge k n with z | z
        · exact h2 k z
        · have : k = n := by omega
          subst this; omega
    · rintro i e hi ⟨n, e3, e4, e5, rfl, h1, h2, rfl⟩
      have : n = w := by omega
      subst this
      exact Hid.mk ⟨e3, e4, e5, .inr ⟨bad_all h2, rfl⟩⟩
  unfold d_law_last_met b_law_last_met
  simp [tlD, hy, hyx]
  refine ⟨by omega, loop.imp ?_⟩
  rintro o ⟨e3, e4, e5, ⟨hb, rfl⟩ | ⟨hb, rfl⟩⟩
  · simp
    rw [hlast, hb] at q
    simpa [tlD] using q
  · rw [hlast, hb] at q
    simp
    refine stretch_wp (slot := 0) hts ?_
    have e0 : limF hs 0 ts (y.m + 1, if FAR < y.m + len then FAR else y.m + len) = limF hs 0 ts (y.m + 1, mnI (y.m + len) FAR) := rfl
    have e1 : (if (1000000000000000000 : Int) < y.m + len then (1000000000000000000 : Int) else y.m + len) = mnI (y.m + len) FAR := rfl
    rw [e1]
    generalize limF hs 0 ts (y.m + 1, mnI (y.m + len) FAR) = r at *
    by_cases hr : r.1 ≤ r.2
    · rw [if_neg (by omega)] at q
      simp [hr]
      simpa [tlD] using q
    · rw [if_pos (by omega)] at q
      simp [hr]
      simpa [tlD] using q
end Law

namespace Law
open PySem PySem.Spec PyProof.Rows L2 Wr
theorem mxI_eq (i j : Int) : mxI i j = max i j := by unfold mxI; split <;> omega
theorem mnI_eq (i j : Int) : mnI i j = min i j := by unfold mnI; split <;> omega
theorem limF_cons (hs : List Hap) (s : Nat) (t : Tst) (ts : List Tst) (r : Int × Int) : limF hs s (t :: ts) r = limF hs s ts (stepF hs s r t) := rfl
theorem step_ge (hs : List Hap) (s : Nat) (t : Tst) (r : Int × Int) : r.1 ≤ (stepF hs s r t).1 ∧ (stepF hs s r t).2 ≤ r.2 := by
  unfold stepF
  split
  · simp only [mxI_eq, mnI_eq]
    constructor
    · split <;> omega
    · split <;> omega
  · omega
theorem lim_ge (hs : List Hap) (s : Nat) : ∀ (ts : List Tst) (r : Int × Int), r.1 ≤ (limF hs s ts r).1 ∧ (limF hs s ts r).2 ≤ r.2
  | [], r => ⟨Int.le_refl _, Int.le_refl _⟩
  | t :: ts, r => by
    rw [limF_cons]
    have h1 := lim_ge hs s ts (stepF hs s r t)
    have h2 := step_ge hs s t r
    omega
theorem lim_test (hs : List Hap) (s : Nat) : ∀ (ts : List Tst) (r : Int × Int) (t : Tst), t ∈ ts → t.slot = s → (t.op ≠ 0 → askF hs t ≤ (limF hs s ts r).1) ∧ (t.op ≠ 1 → (limF hs s ts r).2 ≤ askF hs t)
  | t :: ts, r, u, hu, hs0 => by
    rw [limF_cons]
    rcases List.mem_cons.mp hu with z | z
    · subst z
      have h1 := lim_ge hs s ts (stepF hs s r u)
      have h2 : (u.op ≠ 0 → askF hs u ≤ (stepF hs s r u).1) ∧ (u.op ≠ 1 → (stepF hs s r u).2 ≤ askF hs u) := by
        unfold stepF
        rw [if_pos hs0]
        simp only [mxI_eq, mnI_eq]
        exact ⟨fun h => by rw [if_neg h]; omega, fun h => by rw [if_neg h]; omega⟩
      exact ⟨fun h => by have := h2.1 h; omega, fun h => by have := h2.2 h; omega⟩
    · exact lim_test hs s ts _ u z hs0
theorem lim_shift (hs : List Hap) (s : Nat) : ∀ (ts : List Tst) (lo hi x : Int), limF hs s ts (max lo x, hi) = (max (limF hs s ts (lo, hi)).1 x, (limF hs s ts (lo, hi)).2)
  | [], lo, hi, x => rfl
  | t :: ts, lo, hi, x => by
    rw [limF_cons, limF_cons]
    have e : stepF hs s (max lo x, hi) t = (max (stepF hs s (lo, hi) t).1 x, (stepF hs s (lo, hi) t).2) := by
      unfold stepF
      split
      · simp only [mxI_eq, mnI_eq, Prod.mk.injEq, and_true]
        split
        · rfl
        · omega
      · rfl
    rw [e, lim_shift hs s ts]
def findF (hs : List Hap) (y : Hap) (settled : Int) (t : Tail) : Bool :=
  decide ((limF hs 0 t.ts (mxI y.m settled + 1, mnI (y.m + t.len) FAR)).1 ≤ (limF hs 0 t.ts (mxI y.m settled + 1, mnI (y.m + t.len) FAR)).2) && !badF hs t
theorem find_last {hs : List Hap} {y : Hap} {settled : Int} {t : Tail} (h : y.m ≤ settled) : findF hs y settled t = decide (settled < lastF hs y t) := by
  have e : mxI y.m settled + 1 = max (y.m + 1) (settled + 1) := by rw [mxI_eq]; omega
  unfold findF lastF
  rw [e, lim_shift]
  generalize limF hs 0 t.ts (y.m + 1, mnI (y.m + t.len) FAR) = r
  obtain ⟨lo, hi⟩ := r
  simp only
  cases badF hs t
  · by_cases h1 : hi < lo
    · rw [if_pos h1, decide_eq_false (by omega), decide_eq_false (by omega)]; rfl
    · rw [if_neg h1]
      simp only [Bool.false_eq_true, if_false, Bool.not_false, Bool.and_true]
      by_cases h2 : settled < hi
      · rw [decide_eq_true h2, decide_eq_true (by omega)]
      · rw [decide_eq_false h2, decide_eq_false (by omega)]
  · simp only [if_true, Bool.not_true, Bool.and_false]
    split
    · rw [decide_eq_false (by omega)]
    · rw [decide_eq_false (by omega)]
theorem maxI_gt : ∀ (is : List Int) (m s : Int), s < maxI is m ↔ s < m ∨ ∃ i ∈ is, s < i := by
  intro is m s
  obtain ⟨h1, h2⟩ := maxI_le is m
  constructor
  · intro h
    rcases maxI_mem is m with z | z
    · left; omega
    · exact .inr ⟨_, z, h⟩
  · rintro (h | ⟨i, hi, h⟩)
    · omega
    · have := h2 i hi; omega
def opF : Nat → Int → Int → Bool
  | 0, a, b => decide (a ≤ b)
  | 1, a, b => decide (b ≤ a)
  | _, a, b => decide (a = b)
def holdF (f : Hap) (hs : List Hap) (t : Tst) : Bool := opF t.op (worthF f t.slot) (askF hs t)
/-- what is found holds -/
theorem found_holds {hs : List Hap} {y : Hap} {settled : Int} {t : Tail} {ws : List Int} {key : Int} (hf : findF hs y settled t = true) (hws : ws.length = t.w)
    (hv : ∀ k v, ws[k]? = some v → v = (wide hs t.ts (k + 1)).1) (hp : ∀ z ∈ t.ts, PlOk hs z ∧ z.slot ≤ t.w) :
    ∀ z ∈ t.ts, holdF ⟨(limF hs 0 t.ts (mxI y.m settled + 1, mnI (y.m + t.len) FAR)).1, t.k, key, ws⟩ hs z = true := by
  intro z hz
  unfold findF at hf
  rw [Bool.and_eq_true] at hf
  obtain ⟨h1, h2⟩ := hf
  have h1 := of_decide_eq_true h1
  have h2 : badF hs t = false := by simpa using h2
  obtain ⟨hpz, hsl⟩ := hp z hz
  have key2 : ∀ (r : Int × Int) (v : Int), v = r.1 → r.1 ≤ r.2 → ((z.op ≠ 0 → askF hs z ≤ r.1) ∧ (z.op ≠ 1 → r.2 ≤ askF hs z)) → opF z.op v (askF hs z) = true := by
    intro r v hv hr ⟨a, b⟩
    have hop := hpz.1
    rcases (show z.op = 0 ∨ z.op = 1 ∨ z.op = 2 by omega) with h | h | h
    · rw [h]; have := b (by omega); exact decide_eq_true (by omega)
    · rw [h]; have := a (by omega); exact decide_eq_true (by omega)
    · rw [h]; have := b (by omega); have := a (by omega); exact decide_eq_true (by omega)
  unfold holdF
  by_cases h0 : z.slot = 0
  · exact key2 _ _ (by unfold worthF; rw [if_pos h0]) h1 (lim_test hs 0 t.ts _ z hz h0)
  · have hk : z.slot - 1 < ws.length := by omega
    have hg := hv (z.slot - 1) _ (List.getElem?_eq_getElem hk)
    have hb : (wide hs t.ts z.slot).1 ≤ (wide hs t.ts z.slot).2 := by
      rcases Int.lt_or_le (wide hs t.ts z.slot).2 (wide hs t.ts z.slot).1 with g | g
      · have := bad_one (hs := hs) (t := t) (k := z.slot - 1) (by omega) (by rw [show z.slot - 1 + 1 = z.slot by omega]; exact g)
        rw [h2] at this; cases this
      · exact g
    refine key2 (wide hs t.ts z.slot) _ ?_ hb (lim_test hs z.slot t.ts _ z hz rfl)
    unfold worthF
    rw [if_neg h0]
    rw [show z.slot - 1 + 1 = z.slot by omega] at hg
    simp only [List.getD_eq_getElem?_getD, List.getElem?_eq_getElem hk, Option.getD_some]
    exact hg
end Law

namespace Law
open PySem PySem.Spec PyProof.Rows L2 Wr
/-- what undoer tells -/
def Und (x : Case) (y z : Hap) (settled : Int) (d : D) : Prop :=
  ((∀ t ∈ x.tls, findF x.hs y settled t = false) ∧ d = .non) ∨
  ∃ (t : Tail) (ws : List Int), t ∈ x.tls ∧ findF x.hs y settled t = true ∧ ws.length = t.w ∧ (∀ k v, ws[k]? = some v → v = (wide x.hs t.ts (k + 1)).1) ∧
    d = hD ⟨(limF x.hs 0 t.ts (mxI y.m settled + 1, mnI (y.m + t.len) FAR)).1, t.k, z.key, ws⟩
theorem undoer_wp {x : Case} {y z : Hap} {settled : Int} {tk : Bool} {Q : D × List D → Prop} (hx : CaseOk x) (hy : L2.atI (x.hs.map hD) (-1) = some (hD y)) (hz : L2.atI (x.hs.map hD) 0 = some (hD z))
    (q : ∀ d, Und x y z settled d → Q (d, [roadD x, sqD tk (x.hs.map hD), .int settled])) : OB (d_undoer [roadD x, sqD tk (x.hs.map hD), .int settled]) Q := by
  have hzx : hD z = .tup [.int z.m, .str (S z.k), .int z.key, .tup (z.ws.map D.int)] := rfl
  obtain ⟨hs, keyed, c, span, tls, ks⟩ := x
  obtain ⟨h1, h2, h3, h4, h5, _⟩ := hx
  simp only at h1 h2 h3 h4 h5 hy hz q ⊢
  have loop : ∀ (R : D), OB (forL (nameT 3) (seqS (asgS (tupU 2 (consT (nameT 5) (consT (nameT 6) nilT))) (toE (pcall d_moments_met (consA (ofX (vX 3)) (consA (ofX (vX 1)) (consA (ofX (vX 2)) nilA))))))
    (seqS (asgS (nameT 4) (toE (pcall d_worths_of (consA (ofX (vX 3)) (consA (ofX (vX 1)) nilA)))))
    (ifS (toT (andT (bT (bX leD (vX 5) (vX 6))) (bT (bX isntD (vX 4) (toX (cP .non)))))) (retS (toE (tupP (consA (ofX (vX 5)) (consA (ofX (ixX (vX 3) (toX (cP (.int 0))))) (consA (ofX (ixX (ixX (vX 1) (toX (cP (.int 0)))) (toX (cP (.int 2))))) (consA (ofX (vX 4)) nilA))))))) nilS))) (tls.map tlD) [some (0, R), some (0, sqD tk (hs.map hD)), some (0, .int settled), none, none, none, none])
      fun o => Hid (∃ (e3 e4 e5 e6 : Option (Nat × D)) (d : D), Und ⟨hs, keyed, c, span, tls, ks⟩ y z settled d ∧ ((d = .non ∧ o = .nx [some (0, R), some (0, sqD tk (hs.map hD)), some (0, .int settled), e3, e4, e5, e6]) ∨ o = .rt 0 d [some (0, R), some (0, sqD tk (hs.map hD)), some (0, .int settled), e3, e4, e5, e6])) := by
    intro R
    refine forL_ob (fun ds e => Hid (∃ (done rs : List Tail) (e3 e4 e5 e6 : Option (Nat × D)), ds = rs.map tlD ∧ tls = done ++ rs ∧ (∀ t ∈ done, findF hs y settled t = false) ∧ e = [some (0, R), some (0, sqD tk (hs.map hD)), some (0, .int settled), e3, e4, e5, e6])) ?_ ?_ _ _ (Hid.mk ⟨[], tls, _, _, _, _, rfl, rfl, (fun _ z => by cases z), rfl⟩)
    · rintro w ds e ⟨done, rs, e3, e4, e5, e6, g1, g2, g3, rfl⟩
      cases rs with
      | nil => cases g1
      | cons t rs =>
        cases g1
        have htm : t ∈ tls := by rw [g2]; simp
        obtain ⟨ht, hti⟩ := h4 t htm
        have no : ∀ (e3 e4 e5 e6 : Option (Nat × D)), findF hs y settled t = false → Hid (∃ (done' rs' : List Tail) (f3 f4 f5 f6 : Option (Nat × D)), rs.map tlD = rs'.map tlD ∧ tls = done' ++ rs' ∧ (∀ t ∈ done', findF hs y settled t = false) ∧ [some (0, R), some (0, sqD tk (hs.map hD)), some (0, .int settled), e3, e4, e5, e6] = [some (0, R), some (0, sqD tk (hs.map hD)), some (0, .int settled), f3, f4, f5, f6]) := fun e3 e4 e5 e6 hf =>
          Hid.mk ⟨done ++ [t], rs, _, _, _, _, rfl, by rw [g2]; simp, fun u hu => by rcases List.mem_append.mp hu with z | z; (· exact g3 u z); simp at z; subst z; exact hf, rfl⟩
        have hfd : findF hs y settled t = (decide ((limF hs 0 t.ts (mxI y.m settled + 1, mnI (y.m + t.len) FAR)).1 ≤ (limF hs 0 t.ts (mxI y.m settled + 1, mnI (y.m + t.len) FAR)).2) && !badF hs t) := rfl
        simp
        refine met_wp hy ht ?_
        have eU : ∀ ws : List Int, hD ⟨(limF hs 0 t.ts (mxI y.m settled + 1, mnI (y.m + t.len) FAR)).1, t.k, z.key, ws⟩ = .tup [.int (limF hs 0 t.ts (mxI y.m settled + 1, mnI (y.m + t.len) FAR)).1, .str (S t.k), .int z.key, .tup (ws.map D.int)] := fun _ => rfl
        have yes : ∀ (ws : List Int) (e3 e4 e5 e6 : Option (Nat × D)), findF hs y settled t = true → ws.length = t.w → (∀ k v, ws[k]? = some v → v = (wide hs t.ts (k + 1)).1) → Und ⟨hs, keyed, c, span, tls, ks⟩ y z settled (hD ⟨(limF hs 0 t.ts (mxI y.m settled + 1, mnI (y.m + t.len) FAR)).1, t.k, z.key, ws⟩) := fun ws _ _ _ _ hf hl hv => .inr ⟨t, ws, htm, hf, hl, hv, rfl⟩
        simp only [eU] at yes
        generalize limF hs 0 t.ts (mxI y.m settled + 1, mnI (y.m + t.len) FAR) = r at *
        simp
        refine worths_wp ht fun d hd => ?_
        rcases hd with ⟨hb, rfl⟩ | ⟨hb, ws, hws, hv, rfl⟩
        · rw [hb] at hfd
          simp [isntD]
          refine ⟨fun _ => ?_, fun _ => ?_⟩
          · exact no _ _ _ _ (by rw [hfd]; simp)
          · exact no _ _ _ _ (by rw [hfd]; simp)
        · rw [hb] at hfd
          have htl : tlD t = .tup [.str (S t.k), .int t.len, .tup (t.ts.map tD), .int t.w] := rfl
          simp [isntD, hz, hzx, htl]
          refine ⟨fun hle => ?_, fun hle => ?_⟩
          · refine Hid.mk ⟨_, _, _, _, _, yes ws none none none none (by rw [hfd]; simpa using hle) hws hv, .inr rfl⟩
          · have := no (some (0, tlD t)) (some (0, .tup (ws.map D.int))) (some (0, .int r.1)) (some (0, .int r.2)) (by rw [hfd]; simp; omega)
            exact this
    · rintro e ⟨done, rs, e3, e4, e5, e6, g1, g2, g3, rfl⟩
      cases rs with
      | nil => simp at g2; subst g2; exact Hid.mk ⟨_, _, _, _, .non, .inl ⟨g3, rfl⟩, .inl ⟨rfl, rfl⟩⟩
      | cons => cases g1
  unfold d_undoer b_undoer
  simp [roadD] at q ⊢
  refine (loop _).imp ?_
  rintro o ⟨e3, e4, e5, e6, d, hd, ⟨rfl, rfl⟩ | rfl⟩
  · simp
    exact q _ hd
  · simp
    exact q _ hd
end Law

namespace Law
open PySem PySem.Spec PyProof.Rows L2 Wr
theorem whole_wp {v lo hi : Int} {Q : D × List D → Prop} (h1 : lo ≤ v) (h2 : v ≤ hi) (q : Q (.bl true, [.int v, .int lo, .int hi])) : OB (d_law_whole [.int v, .int lo, .int hi]) Q := by
  unfold d_law_whole b_law_whole
  simp [h1, h2]
  exact q
theorem filter_one {k : List Nat} {w : Nat} : ∀ {ks : List (List Nat × Nat)}, (k, w) ∈ ks → (ks.map Prod.fst).Nodup → ks.filter (fun p => decide (p.1 = k)) = [(k, w)]
  | p :: ks, h, hn => by
    rw [List.map_cons, List.nodup_cons] at hn
    rcases List.mem_cons.mp h with z | z
    · subst z
      rw [List.filter_cons_of_pos (by simp)]
      have : ks.filter (fun p => decide (p.1 = k)) = [] := by
        rw [List.filter_eq_nil_iff]
        intro p hp hc
        have hc : p.1 = k := by simpa using hc
        have hm : p.1 ∈ ks.map Prod.fst := List.mem_map_of_mem hp
        rw [hc] at hm
        exact hn.1 hm
      rw [this]
    · have hne : ¬ p.1 = k := fun e => hn.1 (e ▸ List.mem_map_of_mem (f := Prod.fst) z)
      rw [List.filter_cons_of_neg (by simpa using hne)]
      exact filter_one z hn.2
theorem is_happening_wp {f : Hap} {ks : List (List Nat × Nat)} {Q : D × List D → Prop} (hW : W f.k) (hm0 : 0 ≤ f.m) (hm1 : f.m ≤ FAR) (hk0 : 0 ≤ f.key) (hk1 : f.key ≤ FAR) (hin : (f.k, f.ws.length) ∈ ks) (hnd : (ks.map Prod.fst).Nodup) (hws : ∀ v ∈ f.ws, -FAR ≤ v ∧ v ≤ FAR) (hl : f.ws.length ≤ 3) (hkl : ks.length ≤ 3)
    (q : Q (.bl true, [hD f, .lst (ks.map kD)])) : OB (d_law_is_happening [hD f, .lst (ks.map kD)]) Q := by
  obtain ⟨m, k, key, ws⟩ := f
  simp only at hW hm0 hm1 hk0 hk1 hin hws hl
  have loop1 : OB (lcL 0 [3, 4] (tupU 2 (consT (nameT 3) (consT (nameT 4) nilT))) (toT (bT (bX eqD (vX 3) (ixX (vX 0) (toX (cP (.int 1))))))) (toE (ofX (vX 4))) (ks.map kD) [some (0, .tup [.int m, .str (S k), .int key, .tup (ws.map D.int)]), some (0, .lst (ks.map kD)), none, none, none, none])
      fun r => Hid (∃ (e3 e4 : Option (Nat × D)), r = ([.int ws.length], [some (0, .tup [.int m, .str (S k), .int key, .tup (ws.map D.int)]), some (0, .lst (ks.map kD)), none, e3, e4, none])) := by
    rw [show ([.int ws.length] : List D) = (ks.filter (fun p => decide (p.1 = k))).map (fun p => D.int p.2) by rw [filter_one hin hnd]; rfl]
    refine (lcL_ob (Q := fun r => ∃ (e3 e4 : Option (Nat × D)), r = ((ks.filter (fun p => decide (p.1 = k))).map (fun p => D.int p.2), [some (0, .tup [.int m, .str (S k), .int key, .tup (ws.map D.int)]), some (0, .lst (ks.map kD)), none, e3, e4, none]))
      (fun ds acc e => Hid (∃ (done rs : List (List Nat × Nat)) (e3 e4 : Option (Nat × D)), ds = rs.map kD ∧ ks = done ++ rs ∧ acc = (done.filter (fun p => decide (p.1 = k))).map (fun p => D.int p.2) ∧ e = [some (0, .tup [.int m, .str (S k), .int key, .tup (ws.map D.int)]), some (0, .lst (ks.map kD)), none, e3, e4, none])) ?_ ?_ _ [] _
      (Hid.mk ⟨[], ks, none, none, rfl, rfl, rfl, rfl⟩)).imp ?_
    · rintro z ds acc e ⟨done, rs, e3, e4, g1, g2, rfl, rfl⟩
      cases rs with
      | nil => cases g1
      | cons p rs =>
        cases g1
        simp [kD]
        refine ⟨fun hp => ?_, fun hp => ?_⟩
        · exact Hid.mk ⟨done ++ [p], rs, _, _, rfl, by rw [g2]; simp, by simp [hp], rfl⟩
        · exact Hid.mk ⟨done ++ [p], rs, _, _, rfl, by rw [g2]; simp, by simp [hp], rfl⟩
    · rintro acc e ⟨done, rs, e3, e4, g1, g2, rfl, rfl⟩
      cases rs with
      | nil => simp at g2; subst g2; exact ⟨e3, e4, rfl⟩
      | cons => cases g1
    · rintro r ⟨e3, e4, h⟩
      exact Hid.mk ⟨e3, e4, Prod.ext (by simpa using congrArg Prod.fst h) (by have := congrArg Prod.snd h; exact this)⟩
  have loop2 : ∀ (x0 x1 x2 x3 x4 : Option (Nat × D)), OB (lcL 0 [5] (nameT 5) (toT (notT (tT (toX (pcall d_law_whole (consA (ofX (vX 5)) (consA (negP (toX (bX powD (toX (cP (.int 10))) (toX (cP (.int 18)))))) (consA (bX powD (toX (cP (.int 10))) (toX (cP (.int 18)))) nilA)))))))) (toE (ofX (vX 5))) (ws.map D.int) [x0, x1, x2, x3, x4, none])
      fun r => Hid (∃ (e5 : Option (Nat × D)), r = ([], [x0, x1, x2, x3, x4, e5])) := by
    intro x0 x1 x2 x3 x4
    refine (lcL_ob (Q := fun r => ∃ (e5 : Option (Nat × D)), r = ([], [x0, x1, x2, x3, x4, e5]))
      (fun ds acc e => Hid (∃ (rs : List Int) (e5 : Option (Nat × D)), ds = rs.map D.int ∧ (∀ v ∈ rs, -FAR ≤ v ∧ v ≤ FAR) ∧ acc = [] ∧ e = [x0, x1, x2, x3, x4, e5])) ?_ ?_ _ [] _
      (Hid.mk ⟨ws, none, rfl, hws, rfl, rfl⟩)).imp ?_
    · rintro z ds acc e ⟨rs, e5, g1, g2, rfl, rfl⟩
      cases rs with
      | nil => cases g1
      | cons v rs =>
        cases g1
        obtain ⟨a, b⟩ := g2 v (by simp)
        simp
        refine whole_wp a b ?_
        simp
        exact Hid.mk ⟨rs, _, rfl, fun u hu => g2 u (by simp [hu]), rfl, rfl⟩
    · rintro acc e ⟨rs, e5, g1, g2, rfl, rfl⟩
      exact ⟨e5, rfl⟩
    · rintro r ⟨e5, h⟩
      exact Hid.mk ⟨e5, Prod.ext (by simpa using congrArg Prod.fst h) (by have := congrArg Prod.snd h; exact this)⟩
  have q1 : eqD (.lst [.int ws.length]) (.lst []) = some (.bl false) := eqD_unlike (show Wr.pl 64 (.lst [.int ws.length]) from fun x hx => by simp at hx; subst hx; exact pl_int _ _) (show Wr.pl 64 (.lst []) from fun x hx => by cases hx) (by simp)
  have q2 : eqD (.lst []) (.lst []) = some (.bl true) := eqD_same (show Wr.pl 64 (.lst []) from fun x hx => by cases hx)
  unfold d_law_is_happening b_law_is_happening
  simp [hD]
  refine ⟨by omega, loop1.imp ?_⟩
  rintro r ⟨e3, e4, rfl⟩
  simp
  refine whole_wp hm0 hm1 ?_
  simp
  refine whole_wp hk0 hk1 ?_
  simp [q1]
  refine ⟨by omega, (loop2 _ _ _ _ _).imp ?_⟩
  rintro r ⟨e5, rfl⟩
  simp [q2]
  simpa [hD] using q
end Law

namespace Law
open PySem PySem.Spec PyProof.Rows L2 Wr
theorem opIx {o : Nat} (h : o < 3) : lindexD (.lst [.str (S [60, 61]), .str (S [62, 61]), .str (S [61])]) (.str (S (opT o))) = some (.int (o : Nat)) := by
  rcases (show o = 0 ∨ o = 1 ∨ o = 2 by omega) with rfl | rfl | rfl
  all_goals rfl
theorem lholds_wp {f : Hap} {hs : List Hap} {t : Tst} {Q : D × List D → Prop} (ht : PlOk hs t) (hsl : t.slot ≤ f.ws.length)
    (q : Q (.bl (holdF f hs t), [tD t, hD f, .lst (hs.map hD)])) : OB (d_law_holds [tD t, hD f, .lst (hs.map hD)]) Q := by
  obtain ⟨s, op, p, o, due⟩ := t
  obtain ⟨m, k, key, ws⟩ := f
  obtain ⟨hop, hp⟩ := ht
  simp only at hop hp hsl
  have ha : askF hs ⟨s, op, p, o, due⟩ = askF hs ⟨0, 0, p, o, due⟩ := rfl
  have hh : holdF ⟨m, k, key, ws⟩ hs ⟨s, op, p, o, due⟩ = opF op (worthF ⟨m, k, key, ws⟩ s) (askF hs ⟨0, 0, p, o, due⟩) := by rw [← ha]; rfl
  rw [hh] at q
  have ix := opIx hop
  have tdx : tD ⟨s, op, p, o, due⟩ = .tup [.int s, .str (S (opT op)), .int (plI p), .int o, .int due] := rfl
  have hdx : hD ⟨m, k, key, ws⟩ = .tup [.int m, .str (S k), .int key, .tup (ws.map D.int)] := rfl
  rw [tdx, hdx] at q ⊢
  unfold d_law_holds b_law_holds
  simp
  refine lslot_wp hsl ?_
  simp
  refine lasked_wp (tk := false) hp ?_
  generalize worthF ⟨m, k, key, ws⟩ s = a at *
  generalize askF hs ⟨0, 0, p, o, due⟩ = b at *
  generalize opT op = ow at *
  simp [ix]
  rcases (show op = 0 ∨ op = 1 ∨ op = 2 by omega) with rfl | rfl | rfl
  all_goals
    simp [opF] at q ⊢
    exact q
def meF (df : Int) (f : Hap) (hs : List Hap) (t : Tail) : Bool := decide (t.k = f.k) && (decide (0 < df) && decide (df ≤ t.len)) && t.ts.all (holdF f hs)
theorem ts_eq {ts : List Tst} : eqD (.lst (ts.map tD)) (.lst []) = some (.bl (decide (ts = []))) := by
  by_cases h : ts = []
  · subst h; exact eqD_same (show Wr.pl 64 (.lst []) from fun x hx => by cases hx)
  · rw [eqD_unlike (y := .lst []) (show Wr.pl 64 (.lst (ts.map tD)) from fun x hx => by obtain ⟨z, _, rfl⟩ := List.mem_map.mp hx; exact tD_pl z 61) (show Wr.pl 64 (.lst []) from fun x hx => by cases hx) (fun z => h (by simpa using z))]; simp [h]
theorem filter_none {ts : List Tst} {p : Tst → Bool} : decide (ts.filter (fun t => !p t) = []) = ts.all p := by
  rw [Bool.eq_iff_iff, decide_eq_true_iff, List.filter_eq_nil_iff, List.all_eq_true]
  simp
theorem lm_tests {f : Hap} {hs : List Hap} {ts : List Tst} {x0 x3 x4 x5 x6 x7 : Option (Nat × D)} (ht : ∀ t ∈ ts, PlOk hs t ∧ t.slot ≤ f.ws.length) :
    OB (lcL 0 [8] (nameT 8) (toT (notT (tT (toX (pcall d_law_holds (consA (ofX (vX 8)) (consA (ofX (vX 1)) (consA (ofX (vX 2)) nilA))))))) ) (toE (ofX (vX 8))) (ts.map tD) [x0, some (0, hD f), some (0, .lst (hs.map hD)), x3, x4, x5, x6, x7, none])
      fun r => Hid (∃ (e8 : Option (Nat × D)), r = ((ts.filter (fun t => !holdF f hs t)).map tD, [x0, some (0, hD f), some (0, .lst (hs.map hD)), x3, x4, x5, x6, x7, e8])) := by
  refine (lcL_ob (Q := fun r => ∃ (e8 : Option (Nat × D)), r = ((ts.filter (fun t => !holdF f hs t)).map tD, [x0, some (0, hD f), some (0, .lst (hs.map hD)), x3, x4, x5, x6, x7, e8]))
    (fun ds acc e => Hid (∃ (done rs : List Tst) (e8 : Option (Nat × D)), ds = rs.map tD ∧ ts = done ++ rs ∧ acc = (done.filter (fun t => !holdF f hs t)).map tD ∧ e = [x0, some (0, hD f), some (0, .lst (hs.map hD)), x3, x4, x5, x6, x7, e8])) ?_ ?_ _ [] _
    (Hid.mk ⟨[], ts, none, rfl, rfl, rfl, rfl⟩)).imp ?_
  · rintro z ds acc e ⟨done, rs, e8, g1, g2, rfl, rfl⟩
    cases rs with
    | nil => cases g1
    | cons t rs =>
      cases g1
      obtain ⟨h1, h2⟩ := ht t (by rw [g2]; simp)
      simp
      refine lholds_wp h1 h2 ?_
      cases hb : holdF f hs t
      · simp
        exact Hid.mk ⟨done ++ [t], rs, _, rfl, by rw [g2]; simp, by simp [hb], rfl⟩
      · simp
        exact Hid.mk ⟨done ++ [t], rs, _, rfl, by rw [g2]; simp, by simp [hb], rfl⟩
  · rintro acc e ⟨done, rs, e8, g1, g2, rfl, rfl⟩
    cases rs with
    | nil => simp at g2; subst g2; exact ⟨e8, rfl⟩
    | cons => cases g1
  · rintro r ⟨e8, h⟩
    exact Hid.mk ⟨e8, Prod.ext (by simpa using congrArg Prod.fst h) (by have := congrArg Prod.snd h; exact this)⟩
theorem lmeets_wp {x : Case} {y z f : Hap} {Q : D × List D → Prop} (hx : CaseOk x) (hy : L2.atI (x.hs.map hD) (-1) = some (hD y)) (hz : L2.atI (x.hs.map hD) 0 = some (hD z))
    (hk : f.key = z.key) (hsl : ∀ t ∈ x.tls, t.k = f.k → ∀ u ∈ t.ts, u.slot ≤ f.ws.length) (q : Q (.bl (x.tls.any (meF (f.m - y.m) f x.hs)), [roadD x, hD f, .lst (x.hs.map hD)])) :
    OB (d_law_meets [roadD x, hD f, .lst (x.hs.map hD)]) Q := by
  have hyx : hD y = .tup [.int y.m, .str (S y.k), .int y.key, .tup (y.ws.map D.int)] := rfl
  have hzx : hD z = .tup [.int z.m, .str (S z.k), .int z.key, .tup (z.ws.map D.int)] := rfl
  obtain ⟨hs, keyed, c, span, tls, ks⟩ := x
  obtain ⟨h1, h2, h3, h4, h5, _⟩ := hx
  simp only at h1 h2 h3 h4 h5 hy hz q hsl ⊢
  obtain ⟨m, k, key, ws⟩ := f
  simp only at hk hsl q
  have fdx : hD ⟨m, k, key, ws⟩ = .tup [.int m, .str (S k), .int key, .tup (ws.map D.int)] := rfl
  have loop : ∀ (R : D), OB (forL (tupU 4 (consT (nameT 4) (consT (nameT 5) (consT (nameT 6) (consT (nameT 7) nilT))))) (ifS (toT (andT (bT (bX eqD (vX 4) (ixX (vX 1) (toX (cP (.int 1)))))) (bT (chP ltI leD (toX (cP (.int 0))) (vX 3) (vX 5))))) (ifS (bTE (bE eqD (coldE (lcE 0 [8] (seqI (coldE (toE (ofX (vX 6))))) (nameT 8) (toT (notT (tT (toX (pcall d_law_holds (consA (ofX (vX 8)) (consA (ofX (vX 1)) (consA (ofX (vX 2)) nilA)))))))) (toE (ofX (vX 8))))) (toE (lstP nilA)))) (retS (toE (cP (.bl true)))) nilS) nilS) (tls.map tlD)
      [some (0, R), some (0, hD ⟨m, k, key, ws⟩), some (0, .lst (hs.map hD)), some (0, .int (m - y.m)), none, none, none, none, none])
      fun o => Hid (∃ (e4 e5 e6 e7 : Option (Nat × D)), (tls.any (meF (m - y.m) ⟨m, k, key, ws⟩ hs) = true ∧ o = .rt 0 (.bl true) [some (0, R), some (0, hD ⟨m, k, key, ws⟩), some (0, .lst (hs.map hD)), some (0, .int (m - y.m)), e4, e5, e6, e7, none]) ∨ (tls.any (meF (m - y.m) ⟨m, k, key, ws⟩ hs) = false ∧ o = .nx [some (0, R), some (0, hD ⟨m, k, key, ws⟩), some (0, .lst (hs.map hD)), some (0, .int (m - y.m)), e4, e5, e6, e7, none])) := by
    intro R
    refine forL_ob (fun ds e => Hid (∃ (done rs : List Tail) (e4 e5 e6 e7 : Option (Nat × D)), ds = rs.map tlD ∧ tls = done ++ rs ∧ (∀ t ∈ done, meF (m - y.m) ⟨m, k, key, ws⟩ hs t = false) ∧ e = [some (0, R), some (0, hD ⟨m, k, key, ws⟩), some (0, .lst (hs.map hD)), some (0, .int (m - y.m)), e4, e5, e6, e7, none])) ?_ ?_ _ _ (Hid.mk ⟨[], tls, _, _, _, _, rfl, rfl, (fun _ z => by cases z), rfl⟩)
    · rintro w ds e ⟨done, rs, e4, e5, e6, e7, g1, g2, g3, rfl⟩
      cases rs with
      | nil => cases g1
      | cons t rs =>
        cases g1
        have htm : t ∈ tls := by rw [g2]; simp
        obtain ⟨ht, hti⟩ := h4 t htm
        have hsl' := hsl t htm
        have no : ∀ (e4 e5 e6 e7 : Option (Nat × D)), meF (m - y.m) ⟨m, k, key, ws⟩ hs t = false → Hid (∃ (done' rs' : List Tail) (f4 f5 f6 f7 : Option (Nat × D)), rs.map tlD = rs'.map tlD ∧ tls = done' ++ rs' ∧ (∀ t ∈ done', meF (m - y.m) ⟨m, k, key, ws⟩ hs t = false) ∧ [some (0, R), some (0, hD ⟨m, k, key, ws⟩), some (0, .lst (hs.map hD)), some (0, .int (m - y.m)), e4, e5, e6, e7, none] = [some (0, R), some (0, hD ⟨m, k, key, ws⟩), some (0, .lst (hs.map hD)), some (0, .int (m - y.m)), f4, f5, f6, f7, none]) := fun e4 e5 e6 e7 hf =>
          Hid.mk ⟨done ++ [t], rs, _, _, _, _, rfl, by rw [g2]; simp, fun u hu => by rcases List.mem_append.mp hu with z | z; (· exact g3 u z); simp at z; subst z; exact hf, rfl⟩
        have yes : meF (m - y.m) ⟨m, k, key, ws⟩ hs t = true → tls.any (meF (m - y.m) ⟨m, k, key, ws⟩ hs) = true := fun h => List.any_eq_true.mpr ⟨t, htm, h⟩
        have me : meF (m - y.m) ⟨m, k, key, ws⟩ hs t = (decide (t.k = k) && (decide (0 < m - y.m) && decide (m - y.m ≤ t.len)) && t.ts.all (holdF ⟨m, k, key, ws⟩ hs)) := rfl
        obtain ⟨kk, len, ts, w⟩ := t
        simp only at me
        have tlx : tlD ⟨kk, len, ts, w⟩ = .tup [.str (S kk), .int len, .tup (ts.map tD), .int w] := rfl
        have ht2 := ht.2.1
        have ht3 := ht.2.2.2.1
        simp only at ht2 ht3
        have lt := fun (x0 x3 x4 x5 x6 x7 : Option (Nat × D)) (hkk : kk = k) => lm_tests (f := ⟨m, k, key, ws⟩) (hs := hs) (ts := ts) (x0 := x0) (x3 := x3) (x4 := x4) (x5 := x5) (x6 := x6) (x7 := x7) (fun t z => ⟨ht2 t z, hsl' hkk t z⟩)
        have fn : decide (ts.filter (fun t => !holdF ⟨m, k, key, ws⟩ hs t) = []) = ts.all (holdF ⟨m, k, key, ws⟩ hs) := filter_none
        rw [fdx] at *
        generalize meF (m - y.m) ⟨m, k, key, ws⟩ hs = mf at *
        generalize tls.any mf = any at *
        generalize hdf : m - y.m = df at *
        simp [tlx]
        refine ⟨fun hkk => ⟨fun h0 => ⟨fun hle => ?_, fun hle => ?_⟩, fun h0 => ?_⟩, fun hkk => ?_⟩
        · refine ⟨by omega, (lt _ _ _ _ _ _ hkk).imp ?_⟩
          rintro r ⟨e8, rfl⟩
          generalize ts.filter (fun t => !holdF ⟨m, k, key, ws⟩ hs t) = fl at *
          simp [ts_eq]
          generalize ts.all (holdF ⟨m, k, key, ws⟩ hs) = al at *
          refine ⟨fun hf => ?_, fun hf => ?_⟩
          · refine Hid.mk ⟨_, _, _, _, .inl ⟨yes ?_, rfl⟩⟩
            rw [me, ← fn]; simp [hkk, h0, hle, hf]
          · refine no _ _ _ _ ?_
            rw [me, ← fn]; simp [hf]
        · refine no _ _ _ _ ?_
          rw [me, decide_eq_false (show ¬ df ≤ len by omega)]; simp
        · refine no _ _ _ _ ?_
          rw [me, decide_eq_false (show ¬ 0 < df by omega)]; simp
        · refine no _ _ _ _ ?_
          rw [me, decide_eq_false hkk]; simp
    · rintro e ⟨done, rs, e4, e5, e6, e7, g1, g2, g3, rfl⟩
      cases rs with
      | nil =>
        simp at g2; subst g2
        refine Hid.mk ⟨_, _, _, _, .inr ⟨?_, rfl⟩⟩
        rw [List.any_eq_false]
        intro t ht
        rw [g3 t ht]; simp
      | cons => cases g1
  subst hk
  rw [fdx] at loop q
  unfold d_law_meets b_law_meets
  simp [roadD, hy, hz, hyx, hzx, fdx] at q ⊢
  generalize tls.any (meF (m - y.m) ⟨m, k, z.key, ws⟩ hs) = any at *

  cases keyed
  all_goals
    simp
    refine (loop _).imp ?_
    rintro o ⟨e4, e5, e6, e7, ⟨ha, rfl⟩ | ⟨ha, rfl⟩⟩
    · subst ha
      simp
      exact q
    · subst ha
      simp
      exact q
end Law

namespace Law
open PySem PySem.Spec PyProof.Rows L2 Wr
theorem max1_cons (m : Int) (ms : List Int) : max1D [.lst (.int m :: ms.map D.int)] = some (.int (maxI ms m)) := by
  have := intsOf_map (m :: ms)
  simp only [List.map_cons] at this
  show (match intsOf (.int m :: ms.map D.int) with | some (i :: is) => some (D.int (maxI is i)) | _ => none) = _
  rw [this]
def ripeF (x : Case) (y : Hap) : Int := maxI (x.tls.map (lastF x.hs y)) y.m
theorem same_w {k : List Nat} {w v : Nat} {ks : List (List Nat × Nat)} (hn : (ks.map Prod.fst).Nodup) (h1 : (k, w) ∈ ks) (h2 : (k, v) ∈ ks) : w = v := by
  have := filter_one h1 hn
  rw [filter_one h2 hn] at this
  simp at this
  exact this.symm
/-- what is found is right -/
theorem und_right {x : Case} {y z : Hap} {settled : Int} {t : Tail} {ws : List Int} (hx : CaseOk x) (hym : y ∈ x.hs) (hzm : z ∈ x.hs) (ht : t ∈ x.tls) (hf : findF x.hs y settled t = true) (hws : ws.length = t.w)
    (hv : ∀ k v, ws[k]? = some v → v = (wide x.hs t.ts (k + 1)).1) (f : Hap) (hfe : f = ⟨(limF x.hs 0 t.ts (mxI y.m settled + 1, mnI (y.m + t.len) FAR)).1, t.k, z.key, ws⟩) :
    W f.k ∧ 0 ≤ f.m ∧ f.m ≤ FAR ∧ 0 ≤ f.key ∧ f.key ≤ FAR ∧ (f.k, f.ws.length) ∈ x.ks ∧ (∀ v ∈ f.ws, -FAR ≤ v ∧ v ≤ FAR) ∧ f.ws.length ≤ 3 ∧ settled < f.m ∧ f.key = z.key ∧ (∀ u ∈ x.tls, u.k = f.k → ∀ a ∈ u.ts, a.slot ≤ f.ws.length) ∧
    x.tls.any (meF (f.m - y.m) f x.hs) = true := by
  obtain ⟨hs, keyed, c, span, tls, ks⟩ := x
  obtain ⟨h1, h2, h3, h4, h5, h6, h7, h8⟩ := hx
  simp only at h1 h2 h3 h4 h5 h6 h7 h8 hym hzm ht hf hv hfe ⊢
  obtain ⟨ht1, ht2⟩ := h4 t ht
  have hfh := found_holds (key := z.key) hf hws hv (fun u hu => ⟨ht1.2.1 u hu, ht2.2 u hu⟩)
  have hge := lim_ge hs 0 t.ts (mxI y.m settled + 1, mnI (y.m + t.len) FAR)
  have hmx := mxI_eq y.m settled
  have hmn := mnI_eq (y.m + t.len) FAR
  have hy0 := (h3 y hym).2.1
  have hz := (h3 z hzm).2
  unfold findF at hf
  rw [Bool.and_eq_true] at hf
  obtain ⟨hf1, hf2⟩ := hf
  have hf1 := of_decide_eq_true hf1
  have hf2 : badF hs t = false := by simpa using hf2
  generalize limF hs 0 t.ts (mxI y.m settled + 1, mnI (y.m + t.len) FAR) = r at *
  simp only at hge
  subst hfe
  have hb : ∀ v ∈ ws, -FAR ≤ v ∧ v ≤ FAR := by
    intro v hvm
    obtain ⟨k, hk, e⟩ := List.mem_iff_getElem.mp hvm
    have hg := hv k v (by rw [List.getElem?_eq_getElem hk, e])
    have hl := lim_ge hs (k + 1) t.ts (-FAR, FAR)
    have hbb : (wide hs t.ts (k + 1)).1 ≤ (wide hs t.ts (k + 1)).2 := by
      rcases Int.lt_or_le (wide hs t.ts (k + 1)).2 (wide hs t.ts (k + 1)).1 with g | g
      · have := bad_one (hs := hs) (t := t) (k := k) (by omega) g
        rw [hf2] at this; cases this
      · exact g
    unfold wide at *
    generalize limF hs (k + 1) t.ts (-FAR, FAR) = q at *
    simp only at hl
    subst hg
    omega
  refine ⟨ht1.1, by show 0 ≤ r.1; omega, by show r.1 ≤ FAR; omega, hz.2.1, hz.2.2, by show (t.k, ws.length) ∈ ks; rw [hws]; exact ht2.1, hb, by show ws.length ≤ 3; rw [hws]; exact ht1.2.2.1, by show settled < r.1; omega, rfl, fun u hu huk a ha => ?_, ?_⟩
  · obtain ⟨_, g1, g2⟩ := h4 u hu
    have huk : u.k = t.k := huk
    rw [huk] at g1
    have := same_w h7 g1 ht2.1
    show a.slot ≤ ws.length
    rw [hws, ← this]
    exact g2 a ha
  · refine List.any_eq_true.mpr ⟨t, ht, ?_⟩
    unfold meF
    rw [Bool.and_eq_true, Bool.and_eq_true, Bool.and_eq_true, List.all_eq_true]
    refine ⟨⟨decide_eq_true rfl, decide_eq_true ?_, decide_eq_true ?_⟩, hfh⟩
    · show 0 < r.1 - y.m; omega
    · show r.1 - y.m ≤ t.len; omega
theorem right_wp {x : Case} {y : Hap} {settled : Int} {tk : Bool} {Q : D × List D → Prop} (hx : CaseOk x) (hym : y ∈ x.hs) (hy : L2.atI (x.hs.map hD) (-1) = some (hD y)) (hys : y.m ≤ settled)
    (q : Q (.bl true, [caseD x, .int settled, .int (ripeF x y), .int (if tk then 1 else 0)])) : OB (d_law_right [caseD x, .int settled, .int (ripeF x y), .int (if tk then 1 else 0)]) Q := by
  obtain ⟨z, hzm, hz⟩ : ∃ z, z ∈ x.hs ∧ L2.atI (x.hs.map hD) 0 = some (hD z) := by
    have hl : 0 < x.hs.length := List.length_pos_iff.mpr hx.1
    refine ⟨x.hs[0], List.getElem_mem _, ?_⟩
    have := Wr.atI_nat (xs := x.hs.map hD) (i := 0) (by simpa using hl)
    rw [show (0 : Int) = ((0 : Nat) : Int) from rfl, this]
    simp [List.getElem?_eq_getElem hl]
  have hpl := hs_pl fun h hh => (hx.2.2.1 h hh).1
  have hne := neD_same hpl
  have hun := fun (tk : Bool) {Q : D × List D → Prop} => undoer_wp (x := x) (y := y) (z := z) (settled := settled) (tk := tk) (Q := Q) hx hy hz
  have hih := fun (f : Hap) {Q : D × List D → Prop} h1 h2 h3 h4 h5 h6 => is_happening_wp (f := f) (ks := x.ks) (Q := Q) h1 h2 h3 h4 h5 h6 hx.2.2.2.2.2.2.1
  have hme := fun (f : Hap) {Q : D × List D → Prop} => lmeets_wp (x := x) (y := y) (z := z) (f := f) (Q := Q) hx hy hz
  have cdx : caseD x = .lst [roadD x, .lst (x.hs.map hD), .lst (x.ks.map kD)] := rfl
  have gt1 := maxI_gt (x.tls.map (lastF x.hs y)) y.m settled
  have rp : ripeF x y = maxI (x.tls.map (lastF x.hs y)) y.m := rfl
  rw [← rp] at gt1
  have hkl := hx.2.2.2.2.2.2.2
  -- what is due
  have none_due : ∀ d, Und x y z settled d → ripeF x y ≤ settled → d = .non := by
    rintro d (⟨_, h⟩ | ⟨t, ws, h1, h2, _⟩) hr
    · exact h
    · exfalso
      rw [find_last hys] at h2
      have h2 := of_decide_eq_true h2
      have := gt1.mpr (.inr ⟨_, List.mem_map_of_mem h1, h2⟩)
      omega
  have some_due : ∀ d, Und x y z settled d → ¬ ripeF x y ≤ settled → ∃ f : Hap, d = hD f ∧ W f.k ∧ 0 ≤ f.m ∧ f.m ≤ FAR ∧ 0 ≤ f.key ∧ f.key ≤ FAR ∧ (f.k, f.ws.length) ∈ x.ks ∧ (∀ v ∈ f.ws, -FAR ≤ v ∧ v ≤ FAR) ∧ f.ws.length ≤ 3 ∧ settled < f.m ∧ f.key = z.key ∧ (∀ u ∈ x.tls, u.k = f.k → ∀ a ∈ u.ts, a.slot ≤ f.ws.length) ∧ x.tls.any (meF (f.m - y.m) f x.hs) = true := by
    rintro d (⟨h, _⟩ | ⟨t, ws, h1, h2, h3, h4, h5⟩) hr
    · exfalso
      rcases gt1.mp (by omega) with g | ⟨i, hi, g⟩
      · omega
      · obtain ⟨t, ht, rfl⟩ := List.mem_map.mp hi
        have := h t ht
        rw [find_last hys] at this
        have := of_decide_eq_false this
        omega
    · exact ⟨_, h5, und_right hx hym hzm h1 h2 h3 h4 _ rfl⟩
  have fdx : ∀ f : Hap, hD f = .tup [.int f.m, .str (S f.k), .int f.key, .tup (f.ws.map D.int)] := fun _ => rfl
  rw [cdx] at q ⊢
  generalize ripeF x y = due at *
  generalize roadD x = R at *
  generalize Und x y z settled = U at *
  have fin : ∀ (tk : Bool) (P : D × List D → Prop), (∀ d, U d → P (d, [R, sqD tk (x.hs.map hD), .int settled])) → OB (d_undoer [R, sqD tk (x.hs.map hD), .int settled]) P := fun tk P h => hun tk h
  unfold d_law_right b_law_right
  cases tk
  all_goals
    simp
  · refine fin false _ fun d hd => ?_
    simp [sqD, hne]
    refine ⟨fun hle => ?_, fun hle => ?_⟩
    · have := none_due d hd hle
      subst this
      simpa [isD] using q
    · obtain ⟨f, rfl, g1, g2, g3, g4, g5, g6, g7, g8, g9, g10, g11, g12⟩ := some_due d hd (by omega)
      refine hih f g1 g2 g3 g4 g5 g6 g7 g8 hkl ?_
      simp [fdx f, g9]
      rw [← fdx f]
      refine hme f g10 g11 ?_
      rw [g12]
      simpa using q
  · refine fin true _ fun d hd => ?_
    simp [sqD, hne]
    refine ⟨fun hle => ?_, fun hle => ?_⟩
    · have := none_due d hd hle
      subst this
      simpa [isD] using q
    · obtain ⟨f, rfl, g1, g2, g3, g4, g5, g6, g7, g8, g9, g10, g11, g12⟩ := some_due d hd (by omega)
      refine hih f g1 g2 g3 g4 g5 g6 g7 g8 hkl ?_
      simp [fdx f, g9]
      rw [← fdx f]
      refine hme f g10 g11 ?_
      rw [g12]
      simpa using q
end Law

namespace Law
open PySem PySem.Spec PyProof.Rows L2 Wr
structure Row where
  x : Case
  y : Hap
  s : Int
def rowD (r : Row) : D := .lst [caseD r.x, .int r.s, .int (ripeF r.x r.y)]
def RowOk (r : Row) : Prop := CaseOk r.x ∧ r.y ∈ r.x.hs ∧ L2.atI (r.x.hs.map hD) (-1) = some (hD r.y) ∧ r.y.m ≤ r.s
theorem ripe_bd {x : Case} {y : Hap} (hy0 : 0 ≤ y.m) : y.m ≤ ripeF x y ∧ ripeF x y - y.m ≤ FAR := by
  unfold ripeF
  have hF : (0 : Int) ≤ FAR := by decide
  refine ⟨(maxI_le _ _).1, ?_⟩
  rcases maxI_mem (x.tls.map (lastF x.hs y)) y.m with h | h
  · rw [h]; omega
  · obtain ⟨t, _, e⟩ := List.mem_map.mp h
    rw [← e]
    unfold lastF
    have hge := lim_ge x.hs 0 t.ts (y.m + 1, mnI (y.m + t.len) FAR)
    have hmn := mnI_eq (y.m + t.len) FAR
    generalize limF x.hs 0 t.ts (y.m + 1, mnI (y.m + t.len) FAR) = r at *
    simp only at hge ⊢
    split
    · omega
    · split <;> omega
theorem lasts_lp {x : Case} {y : Hap} {x0 x1 x2 x3 x4 x5 x6 x7 x8 x9 x10 x12 : Option (Nat × D)} (hx : CaseOk x) (hy : L2.atI (x.hs.map hD) (-1) = some (hD y)) :
    OB (lcL 0 [13] (nameT 13) yesT (toE (pcall d_law_last_met (consA (ofX (vX 13)) (consA (ofX (vX 11)) nilA)))) (x.tls.map tlD) [x0, x1, x2, x3, x4, x5, x6, x7, x8, x9, x10, some (0, .lst (x.hs.map hD)), x12, none])
      fun r => Hid (∃ (e : Option (Nat × D)), r = ((x.tls.map (lastF x.hs y)).map D.int, [x0, x1, x2, x3, x4, x5, x6, x7, x8, x9, x10, some (0, .lst (x.hs.map hD)), x12, e])) := by
  obtain ⟨hs, keyed, c, span, tls, ks⟩ := x
  obtain ⟨h1, h2, h3, h4, h5, _⟩ := hx
  simp only at h1 h2 h3 h4 h5 hy ⊢
  refine (lcL_ob (Q := fun r => ∃ (e : Option (Nat × D)), r = ((tls.map (lastF hs y)).map D.int, [x0, x1, x2, x3, x4, x5, x6, x7, x8, x9, x10, some (0, .lst (hs.map hD)), x12, e]))
    (fun ds acc e => Hid (∃ (done rs : List Tail) (e2 : Option (Nat × D)), ds = rs.map tlD ∧ tls = done ++ rs ∧ acc = (done.map (lastF hs y)).map D.int ∧ e = [x0, x1, x2, x3, x4, x5, x6, x7, x8, x9, x10, some (0, .lst (hs.map hD)), x12, e2])) ?_ ?_ _ [] _
    (Hid.mk ⟨[], tls, none, rfl, rfl, rfl, rfl⟩)).imp ?_
  · rintro z ds acc e ⟨done, rs, e2, g1, g2, rfl, rfl⟩
    cases rs with
    | nil => cases g1
    | cons t rs =>
      cases g1
      simp
      refine llast_wp hy (h4 t (by rw [g2]; simp)).1 ?_
      simp
      exact Hid.mk ⟨done ++ [t], rs, _, rfl, by rw [g2]; simp, by simp, rfl⟩
  · rintro acc e ⟨done, rs, e2, g1, g2, rfl, rfl⟩
    cases rs with
    | nil => simp at g2; subst g2; exact ⟨e2, rfl⟩
    | cons => cases g1
  · rintro r ⟨e2, h⟩
    exact Hid.mk ⟨e2, Prod.ext (by simpa using congrArg Prod.fst h) (by have := congrArg Prod.snd h; exact this)⟩
theorem some_lp {C : D} {m due : Int} {ss : List Int} {x0 x1 x2 x3 x7 x9 x10 x11 x12 x13 : Option (Nat × D)} :
    OB (lcL 0 [8] (nameT 8) (toT (bT (bX geI (vX 8) (vX 5)))) (toE (lstP (consA (ofX (vX 4)) (consA (ofX (vX 8)) (consA (ofX (vX 6)) nilA))))) (ss.map D.int) [x0, x1, x2, x3, some (0, C), some (0, .int m), some (0, .int due), x7, none, x9, x10, x11, x12, x13])
      fun r => Hid (∃ (e : Option (Nat × D)), r = ((ss.filter (fun s => decide (m ≤ s))).map (fun s => D.lst [C, .int s, .int due]), [x0, x1, x2, x3, some (0, C), some (0, .int m), some (0, .int due), x7, e, x9, x10, x11, x12, x13])) := by
  refine (lcL_ob (Q := fun r => ∃ (e : Option (Nat × D)), r = ((ss.filter (fun s => decide (m ≤ s))).map (fun s => D.lst [C, .int s, .int due]), [x0, x1, x2, x3, some (0, C), some (0, .int m), some (0, .int due), x7, e, x9, x10, x11, x12, x13]))
    (fun ds acc e => Hid (∃ (done rs : List Int) (e2 : Option (Nat × D)), ds = rs.map D.int ∧ ss = done ++ rs ∧ acc = (done.filter (fun s => decide (m ≤ s))).map (fun s => D.lst [C, .int s, .int due]) ∧ e = [x0, x1, x2, x3, some (0, C), some (0, .int m), some (0, .int due), x7, e2, x9, x10, x11, x12, x13])) ?_ ?_ _ [] _
    (Hid.mk ⟨[], ss, none, rfl, rfl, rfl, rfl⟩)).imp ?_
  · rintro z ds acc e ⟨done, rs, e2, g1, g2, rfl, rfl⟩
    cases rs with
    | nil => cases g1
    | cons t rs =>
      cases g1
      simp
      refine ⟨fun hle => ?_, fun hle => ?_⟩
      · exact Hid.mk ⟨done ++ [t], rs, _, rfl, by rw [g2]; simp, by simp [hle], rfl⟩
      · exact Hid.mk ⟨done ++ [t], rs, _, rfl, by rw [g2]; simp, by simp; omega, rfl⟩
  · rintro acc e ⟨done, rs, e2, g1, g2, rfl, rfl⟩
    cases rs with
    | nil => simp at g2; subst g2; exact ⟨e2, rfl⟩
    | cons => cases g1
  · rintro r ⟨e2, h⟩
    exact Hid.mk ⟨e2, Prod.ext (by simpa using congrArg Prod.fst h) (by have := congrArg Prod.snd h; exact this)⟩
theorem cases_lp : ∀ (d : D) (x0 x2 x3 x4 x5 x6 x7 x8 x10 x11 x12 x13 : Option (Nat × D)), Dk 0 d → OB (lcL 0 [9] (nameT 9) yesT (ucall [2] 0 d_law_case (borE 1 nilE)) (rangeD 0 (3 : Nat)) [x0, some (2, d), x2, x3, x4, x5, x6, x7, x8, none, x10, x11, x12, x13])
    fun r => Hid (∃ (xs : List Case) (d' : D) (e9 : Option (Nat × D)), (∀ x ∈ xs, CaseOk x) ∧ xs.length ≤ 3 ∧ Dk 6000 d' ∧ r = (xs.map caseD, [x0, some (2, d'), x2, x3, x4, x5, x6, x7, x8, e9, x10, x11, x12, x13])) := by
  intro d x0 x2 x3 x4 x5 x6 x7 x8 x10 x11 x12 x13 hd
  refine (lcL_ob (Q := fun r => ∃ (xs : List Case) (d' : D) (e9 : Option (Nat × D)), (∀ x ∈ xs, CaseOk x) ∧ xs.length ≤ 3 ∧ Dk 6000 d' ∧ r = (xs.map caseD, [x0, some (2, d'), x2, x3, x4, x5, x6, x7, x8, e9, x10, x11, x12, x13]))
    (fun ds acc e => Hid (∃ (xs : List Case) (d' : D) (e9 : Option (Nat × D)), (∀ x ∈ xs, CaseOk x) ∧ acc = xs.map caseD ∧ xs.length + ds.length = 3 ∧ Dk (1700 * xs.length) d' ∧ e = [x0, some (2, d'), x2, x3, x4, x5, x6, x7, x8, e9, x10, x11, x12, x13])) ?_ ?_ _ [] _
    (Hid.mk ⟨[], d, none, (fun _ z => by cases z), rfl, by decide, hd, rfl⟩)).imp ?_
  · rintro z ds acc e ⟨xs, d', e9, g1, rfl, g2, hd', rfl⟩
    simp only [List.length_cons] at g2
    simp
    refine case_wp (by omega) hd' fun x d2 hx hd2 => ?_
    simp [caseD]
    refine Hid.mk ⟨xs ++ [x], d2, _, fun w hw => ?_, by simp [caseD], by simp; omega, hd2.mono (by simp; omega), rfl⟩
    rcases List.mem_append.mp hw with z | z
    · exact g1 w z
    · simp at z; subst z; exact hx
  · rintro acc e ⟨xs, d', e9, g1, rfl, g2, hd', rfl⟩
    exact ⟨xs, d', e9, g1, by omega, hd'.mono (by omega), rfl⟩
  · rintro r ⟨xs, d', e9, g1, g2, g3, h⟩
    exact Hid.mk ⟨xs, d', e9, g1, g2, g3, Prod.ext (by simpa using congrArg Prod.fst h) (by have := congrArg Prod.snd h; exact this)⟩
theorem check_lp (tk : Bool) : ∀ (rs : List Row) (x0 x1 x2 x3 x4 x5 x6 x7 x8 x9 x10 x11 x12 x13 : Option (Nat × D)), (∀ r ∈ rs, RowOk r) → OB (forL (tupU 3 (consT (nameT 4) (consT (nameT 8) (consT (nameT 6) nilT)))) (ifS (toT (notT (tT (toX (pcall d_law_right (consA (ofX (vX 4)) (consA (ofX (vX 8)) (consA (ofX (vX 6)) (consA (cP (.int (if tk then 1 else 0))) nilA))))))))) (retS (toE (cP (.bl false)))) nilS) (rs.map rowD) [x0, x1, x2, x3, x4, x5, x6, x7, x8, x9, x10, x11, x12, x13])
    fun o => Hid (∃ (e4 e6 e8 : Option (Nat × D)), o = .nx [x0, x1, x2, x3, e4, x5, e6, x7, e8, x9, x10, x11, x12, x13]) := by
  intro rs x0 x1 x2 x3 x4 x5 x6 x7 x8 x9 x10 x11 x12 x13 hrs
  refine forL_ob (fun ds e => Hid (∃ (rs : List Row) (e4 e6 e8 : Option (Nat × D)), ds = rs.map rowD ∧ (∀ r ∈ rs, RowOk r) ∧ e = [x0, x1, x2, x3, e4, x5, e6, x7, e8, x9, x10, x11, x12, x13])) ?_ ?_ _ _ (Hid.mk ⟨rs, _, _, _, rfl, hrs, rfl⟩)
  · rintro z ds e ⟨rs, e4, e6, e8, g1, g2, rfl⟩
    cases rs with
    | nil => cases g1
    | cons r rs =>
      cases g1
      obtain ⟨hx, hym, hy, hs⟩ := g2 r (by simp)
      have hr := fun {Q : D × List D → Prop} => right_wp (tk := tk) (Q := Q) hx hym hy hs
      have hrw : rowD r = .lst [caseD r.x, .int r.s, .int (ripeF r.x r.y)] := rfl
      rw [hrw]
      generalize caseD r.x = C at *
      generalize ripeF r.x r.y = due at *
      simp
      refine hr ?_
      simp
      exact Hid.mk ⟨rs, _, _, _, rfl, fun w hw => g2 w (by simp [hw]), rfl⟩
  · rintro e ⟨rs, e4, e6, e8, g1, g2, rfl⟩
    exact Hid.mk ⟨e4, e6, e8, rfl⟩
end Law

namespace Law
open PySem PySem.Spec PyProof.Rows L2 Wr
def rowsB : SM := (seqS (asgS (tupU 3 (consT (nameT 10) (consT (nameT 11) (consT (nameT 12) nilT)))) (toE (ofX (vX 4))))
    (seqS (asgS (nameT 5) (toE (ofX (ixX (ixX (vX 11) (toX (negP (toX (cP (.int 1)))))) (toX (cP (.int 0)))))))
    (seqS (asgS (nameT 6) (callE max1D (valE (bE0 addL (toE (lstP (consA (ofX (vX 5)) nilA))) (coldE (lcE 0 [13] (seqI (coldE (toE (ofX (ixX (vX 10) (toX (cP (.int 2)))))))) (nameT 13) yesT (toE (pcall d_law_last_met (consA (ofX (vX 13)) (consA (ofX (vX 11)) nilA))))))) nilE)))
    (seqS (asgS (nameT 7) (coldE (lstE 0 (valE (toE (ofX (vX 5))) (valE (toE (bX subD (vX 6) (toX (cP (.int 1))))) (valE (toE (ofX (vX 6))) (valE (bE0 addD (toE (bP addD (ofX (vX 6)) (cP (.int 1)))) (ucall [2, 0] 0 d_law_draw (borE 1 (valE (toE (cP (.int 9))) nilE)))) (valE (bE0 addD (toE (ofX (vX 5))) (ucall [2, 0] 0 d_law_great (borE 1 (valE (toE (bP addD (bX subD (vX 6) (vX 5)) (cP (.int 1)))) nilE)))) nilE))))))))
    (asgS (nameT 3) (bE0 addL (toE (ofX (vX 3))) (coldE (lcE 0 [8] (seqI (coldE (toE (ofX (vX 7))))) (nameT 8) (toT (bT (bX geI (vX 8) (vX 5)))) (toE (lstP (consA (ofX (vX 4)) (consA (ofX (vX 8)) (consA (ofX (vX 6)) nilA))))))))))))) 
theorem row_b {i : Nat} {x : Case} {d : D} {rows : List Row} {x0 x2 e5 e6 e7 x9 e10 e11 e12 : Option (Nat × D)} (hi : i < 10 ^ 6) (hx : CaseOk x) (hr : ∀ r ∈ rows, RowOk r) (hl : rows.length ≤ 1000) (hd : Dk i d) :
    OB (rowsB [x0, some (2, d), x2, some (0, .lst (rows.map rowD)), some (0, caseD x), e5, e6, e7, none, x9, e10, e11, e12, none])
      fun o => Hid (∃ (rows' : List Row) (d' : D) (e4 e5 e6 e7 e10 e11 e12 : Option (Nat × D)), (∀ r ∈ rows', RowOk r) ∧ rows'.length ≤ rows.length + 5 ∧ Dk (i + 4) d' ∧ o = .nx [x0, some (2, d'), x2, some (0, .lst (rows'.map rowD)), e4, e5, e6, e7, none, x9, e10, e11, e12, none]) := by
  obtain ⟨y, hym, hy⟩ := last_at hx.1
  have hy0 := (hx.2.2.1 y hym).2.1
  have hF : FAR = 1000000000000000000 := rfl
  have rb := ripe_bd (x := x) hy0
  have cdx : caseD x = .lst [roadD x, .lst (x.hs.map hD), .lst (x.ks.map kD)] := rfl
  have rdx : roadD x = .tup [x.c, x.span, .tup (x.tls.map tlD), .bl x.keyed] := rfl
  have hyx : hD y = .tup [.int y.m, .str (S y.k), .int y.key, .tup (y.ws.map D.int)] := rfl
  have ll := fun (x0 x1 x2 x3 x4 x5 x6 x7 x8 x9 x10 x12 : Option (Nat × D)) => lasts_lp (x := x) (y := y) (x0 := x0) (x1 := x1) (x2 := x2) (x3 := x3) (x4 := x4) (x5 := x5) (x6 := x6) (x7 := x7) (x8 := x8) (x9 := x9) (x10 := x10) (x12 := x12) hx hy
  have hmx : max1D [.lst (.int y.m :: (x.tls.map (lastF x.hs y)).map D.int)] = some (.int (ripeF x y)) := max1_cons _ _
  have htl : x.tls.length ≤ 3 := hx.2.2.2.2.1
  have rok : ∀ s, y.m ≤ s → RowOk ⟨x, y, s⟩ := fun s h => ⟨hx, hym, hy, h⟩
  have rw0 : ∀ s, rowD ⟨x, y, s⟩ = .lst [caseD x, .int s, .int (ripeF x y)] := fun s => rfl
  unfold rowsB
  rw [cdx]
  simp only [rdx]
  simp [hy, hyx]
  refine ⟨by omega, (ll _ _ _ _ _ _ _ _ _ _ _ _).imp ?_⟩
  rintro r ⟨e13, rfl⟩
  have hlen : (x.tls.map (lastF x.hs y)).length ≤ 16 := by rw [List.length_map]; omega
  generalize x.tls.map (lastF x.hs y) = ls at *
  generalize ripeF x y = due at *
  simp [hmx]
  refine ⟨by omega, ?_⟩
  refine draw_wp hd (by omega) (by omega) (by omega) fun v d2 v0 v1 hd => ?_
  simp
  refine great_wp hd (by omega) (by omega) (by omega) fun v2 d3 v20 v21 hd => ?_
  simp
  have sl := fun (x0 x1 x2 x3 x7 x9 x10 x11 x12 x13 : Option (Nat × D)) (C : D) => some_lp (C := C) (m := y.m) (due := due) (ss := [y.m, due - 1, due, due + 1 + v, y.m + v2]) (x0 := x0) (x1 := x1) (x2 := x2) (x3 := x3) (x7 := x7) (x9 := x9) (x10 := x10) (x11 := x11) (x12 := x12) (x13 := x13)
  simp only [List.map_cons, List.map_nil] at sl
  refine (sl _ _ _ _ _ _ _ _ _ _ _).imp ?_
  rintro r ⟨e8, rfl⟩
  generalize hfl : List.filter (fun s => decide (y.m ≤ s)) [y.m, due - 1, due, due + 1 + v, y.m + v2] = fl at *
  have hf1 : fl.length ≤ 5 := by rw [← hfl]; exact List.length_filter_le _ _
  have hf2 : ∀ s ∈ fl, y.m ≤ s := fun s hs => by rw [← hfl] at hs; exact of_decide_eq_true (List.mem_filter.mp hs).2
  rw [cdx, rdx] at rw0
  simp
  refine ⟨by omega, Hid.mk ⟨rows ++ fl.map (fun s => ⟨x, y, s⟩), d3, _, _, _, _, _, _, _, fun w hw => ?_, by simp; omega, hd.mono (by omega), by simp [Function.comp_def, rw0]; exact ⟨rfl, rfl, rfl, rfl, rfl, rfl, rfl⟩⟩⟩
  rcases List.mem_append.mp hw with z | z
  · exact hr w z
  · obtain ⟨s, hs, rfl⟩ := List.mem_map.mp z
    exact rok s (hf2 s hs)
theorem rows_lp : ∀ (d : D) (xs : List Case) (x0 x2 x9 : Option (Nat × D)), Dk 6000 d → xs.length ≤ 3 → (∀ x ∈ xs, CaseOk x) → OB (forL (nameT 4) rowsB (xs.map caseD) [x0, some (2, d), x2, some (0, .lst []), none, none, none, none, none, x9, none, none, none, none])
    fun o => Hid (∃ (rows : List Row) (d' : D) (e4 e5 e6 e7 e10 e11 e12 : Option (Nat × D)), (∀ r ∈ rows, RowOk r) ∧ o = .nx [x0, some (2, d'), x2, some (0, .lst (rows.map rowD)), e4, e5, e6, e7, none, x9, e10, e11, e12, none]) := by
  intro d xs x0 x2 x9 hd hl hxs
  refine forL_ob (fun ds e => Hid (∃ (done rs : List Case) (rows : List Row) (d' : D) (e4 e5 e6 e7 e10 e11 e12 : Option (Nat × D)), ds = rs.map caseD ∧ xs = done ++ rs ∧ (∀ r ∈ rows, RowOk r) ∧ rows.length ≤ 5 * done.length ∧ Dk (6000 + 4 * done.length) d' ∧ e = [x0, some (2, d'), x2, some (0, .lst (rows.map rowD)), e4, e5, e6, e7, none, x9, e10, e11, e12, none])) ?_ ?_ _ _ (Hid.mk ⟨[], xs, [], d, _, _, _, _, _, _, _, rfl, rfl, (fun _ z => by cases z), by simp, hd, rfl⟩)
  · rintro z ds e ⟨done, rs, rows, d', e4, e5, e6, e7, e10, e11, e12, g1, g2, g3, g4, hd', rfl⟩
    cases rs with
    | nil => cases g1
    | cons x rs =>
      cases g1
      have hx := hxs x (by rw [g2]; simp)
      have hlen : done.length ≤ 3 := by rw [g2] at hl; simp at hl; omega
      have rb := row_b (x0 := x0) (x2 := x2) (e5 := e5) (e6 := e6) (e7 := e7) (x9 := x9) (e10 := e10) (e11 := e11) (e12 := e12) (show 6000 + 4 * done.length < 10 ^ 6 by omega) hx g3 (by omega) hd'
      generalize hC : caseD x = C at *
      generalize rowsB = B at *
      simp
      refine rb.imp ?_
      rintro o ⟨rows', d2, f4, f5, f6, f7, f10, f11, f12, h1, h2, h3, rfl⟩
      exact Hid.mk ⟨done ++ [x], rs, rows', d2, _, _, _, _, _, _, _, rfl, by rw [g2]; simp, h1, by simp; omega, h3.mono (by simp; omega), rfl⟩
  · rintro e ⟨done, rs, rows, d', e4, e5, e6, e7, e10, e11, e12, g1, g2, g3, g4, hd', rfl⟩
    exact Hid.mk ⟨rows, d', _, _, _, _, _, _, _, g3, rfl⟩
theorem law_ob (ns : List Int) (hns : ns.length ≤ 63) : OB (d_law [.lst (ns.map .int)]) fun r => r.1 = .bl true := by
  have bl : b_law = seqS (asgS (nameT 1) (ucall [0] 2 d_law_deck (valE (toE (ofX (vX 0))) nilE)))
    (seqS (asgS (nameT 2) (lcE 0 [9] (rngI1 (valE (toE (cP (.int 3))) nilE)) (nameT 9) yesT (ucall [2] 0 d_law_case (borE 1 nilE))))
    (frzS 2 (seqS (asgS (nameT 3) (toE (lstP nilA)))
    (seqS (forS (seqI (coldE (toE (ofX (vX 2))))) (nameT 4) rowsB)
    (seqS (forS (seqI (coldE (toE (ofX (vX 3))))) (tupU 3 (consT (nameT 4) (consT (nameT 8) (consT (nameT 6) nilT)))) (ifS (toT (notT (tT (toX (pcall d_law_right (consA (ofX (vX 4)) (consA (ofX (vX 8)) (consA (ofX (vX 6)) (consA (cP (.int (if false = true then 1 else 0))) nilA))))))))) (retS (toE (cP (.bl false)))) nilS))
    (seqS (forS (seqI (coldE (toE (ofX (vX 3))))) (tupU 3 (consT (nameT 4) (consT (nameT 8) (consT (nameT 6) nilT)))) (ifS (toT (notT (tT (toX (pcall d_law_right (consA (ofX (vX 4)) (consA (ofX (vX 8)) (consA (ofX (vX 6)) (consA (cP (.int (if true = true then 1 else 0))) nilA))))))))) (retS (toE (cP (.bl false)))) nilS))
    (retS (toE (cP (.bl true)))))))))) := rfl
  have c0 := check_lp false
  have c1 := check_lp true
  generalize hB0 : (ifS (toT (notT (tT (toX (pcall d_law_right (consA (ofX (vX 4)) (consA (ofX (vX 8)) (consA (ofX (vX 6)) (consA (cP (.int (if false = true then 1 else 0))) nilA))))))))) (retS (toE (cP (.bl false)))) nilS) = B0 at *
  generalize hB1 : (ifS (toT (notT (tT (toX (pcall d_law_right (consA (ofX (vX 4)) (consA (ofX (vX 8)) (consA (ofX (vX 6)) (consA (cP (.int (if true = true then 1 else 0))) nilA))))))))) (retS (toE (cP (.bl false)))) nilS) = B1 at *
  have rl := rows_lp
  unfold d_law
  rw [bl]
  generalize rowsB = B at *
  simp
  refine deck_wp hns fun d hd => ?_
  simp
  refine (cases_lp _ _ _ _ _ _ _ _ _ _ _ _ _ hd).imp ?_
  rintro r ⟨xs, d', e9, h1, h2, hd, rfl⟩
  simp
  refine (rl _ xs _ _ _ hd h2 h1).imp ?_
  rintro o ⟨rows, d2, e4, e5, e6, e7, e10, e11, e12, h3, rfl⟩
  simp
  refine (c0 rows _ _ _ _ _ _ _ _ _ _ _ _ _ _ h3).imp ?_
  rintro o ⟨f4, f6, f8, rfl⟩
  simp
  refine (c1 rows _ _ _ _ _ _ _ _ _ _ _ _ _ _ h3).imp ?_
  rintro o ⟨f4, f6, f8, rfl⟩
  simp
theorem all_true (ns : List Int) (hns : ns.length ≤ 63) : ∃ ds, d_law [.lst (ns.map D.int)] = some (.bl true, ds) := by
  obtain ⟨⟨a, ds⟩, e, h⟩ := law_ob ns hns
  exact ⟨ds, by rw [e]; simp only at h; rw [h]⟩
end Law

namespace Law
open PySem PySem.Spec PyProof.Rows L2 Wr
theorem tx_of {K : Frag} {h : Heap} {mg : Str → Option Value} (X : K.In h) (G : h.Ns mainGlobals mg) (cx : SaysX fa fn tu K) : Nonempty (Tx K mg) := by
  have c := cx.d
  obtain ⟨fd0, F0⟩ := c.def_ 0 (d := dd "_law_draw" 11) rfl
  obtain ⟨fd1, F1⟩ := c.def_ 1 (d := dd "_law_names" 13) rfl
  obtain ⟨fd2, F2⟩ := c.def_ 2 (d := dd "_law_based" 20) rfl
  obtain ⟨fd3, F3⟩ := c.def_ 3 (d := dd "_law_cut" 19) rfl
  obtain ⟨fd4, F4⟩ := c.def_ 4 (d := dd "_law_great" 12) rfl
  obtain ⟨fd5, F5⟩ := c.def_ 5 (d := dd "_law_any_test" 22) rfl
  obtain ⟨fd6, F6⟩ := c.def_ 6 (d := dd "_law_bars" 23) rfl
  obtain ⟨fd7, F7⟩ := c.def_ 7 (d := dd "_law_slot" 17) rfl
  obtain ⟨fd8, F8⟩ := c.def_ 8 (d := dd "_law_asked" 18) rfl
  obtain ⟨fd9, F9⟩ := c.def_ 9 (d := dd "_law_true_test" 21) rfl
  obtain ⟨fd10, F10⟩ := c.def_ 10 (d := dd "_law_road" 24) rfl
  obtain ⟨fd11, F11⟩ := c.def_ 11 (d := dd "_law_moments" 14) rfl
  obtain ⟨fd12, F12⟩ := c.def_ 12 (d := dd "_law_worth" 15) rfl
  obtain ⟨fd13, F13⟩ := c.def_ 13 (d := dd "_law_taken" 16) rfl
  obtain ⟨fd14, F14⟩ := c.def_ 14 (d := dd "_law_case" 25) rfl
  obtain ⟨fd15, F15⟩ := c.def_ 15 (d := dd "_law_deck" 10) rfl
  obtain ⟨fd16, F16⟩ := c.def_ 16 (d := dd "_law_stretch" 26) rfl
  obtain ⟨fd17, F17⟩ := c.def_ 17 (d := dd "_law_last_met" 27) rfl
  obtain ⟨fd18, F18⟩ := c.def_ 18 (d := dd "_law_whole" 28) rfl
  obtain ⟨fd19, F19⟩ := c.def_ 19 (d := dd "_law_is_happening" 29) rfl
  obtain ⟨fd20, F20⟩ := c.def_ 20 (d := dd "_law_holds" 30) rfl
  obtain ⟨fd21, F21⟩ := c.def_ 21 (d := dd "_law_meets" 31) rfl
  obtain ⟨fd22, F22⟩ := c.def_ 22 (d := dd "worth" 2) rfl
  obtain ⟨fd23, F23⟩ := c.def_ 23 (d := dd "asked_of" 4) rfl
  obtain ⟨fd24, F24⟩ := c.def_ 24 (d := dd "limits" 5) rfl
  obtain ⟨fd25, F25⟩ := c.def_ 25 (d := dd "moments_met" 7) rfl
  obtain ⟨fd26, F26⟩ := c.def_ 26 (d := dd "worths_of" 6) rfl
  obtain ⟨fd27, F27⟩ := c.def_ 27 (d := dd "undoer" 8) rfl
  obtain ⟨fd28, F28⟩ := c.def_ 28 (d := dd "_law_right" 32) rfl
  obtain ⟨fd29, F29⟩ := c.def_ 29 (d := dd "law" 33) rfl
  exact ⟨{
    fd_law_draw := fd0,
    F_law_draw := F0,
    g_law_draw := He.glo_ok X G (c.fact 0 (f := .glo "_law_draw") rfl),
    fd_law_names := fd1,
    F_law_names := F1,
    g_law_names := He.glo_ok X G (c.fact 1 (f := .glo "_law_names") rfl),
    fd_law_based := fd2,
    F_law_based := F2,
    g_law_based := He.glo_ok X G (c.fact 2 (f := .glo "_law_based") rfl),
    fd_law_cut := fd3,
    F_law_cut := F3,
    g_law_cut := He.glo_ok X G (c.fact 3 (f := .glo "_law_cut") rfl),
    fd_law_great := fd4,
    F_law_great := F4,
    g_law_great := He.glo_ok X G (c.fact 4 (f := .glo "_law_great") rfl),
    fd_law_any_test := fd5,
    F_law_any_test := F5,
    g_law_any_test := He.glo_ok X G (c.fact 5 (f := .glo "_law_any_test") rfl),
    fd_law_bars := fd6,
    F_law_bars := F6,
    g_law_bars := He.glo_ok X G (c.fact 6 (f := .glo "_law_bars") rfl),
    fd_law_slot := fd7,
    F_law_slot := F7,
    g_law_slot := He.glo_ok X G (c.fact 7 (f := .glo "_law_slot") rfl),
    fd_law_asked := fd8,
    F_law_asked := F8,
    g_law_asked := He.glo_ok X G (c.fact 8 (f := .glo "_law_asked") rfl),
    fd_law_true_test := fd9,
    F_law_true_test := F9,
    g_law_true_test := He.glo_ok X G (c.fact 9 (f := .glo "_law_true_test") rfl),
    fd_law_road := fd10,
    F_law_road := F10,
    g_law_road := He.glo_ok X G (c.fact 10 (f := .glo "_law_road") rfl),
    fd_law_moments := fd11,
    F_law_moments := F11,
    g_law_moments := He.glo_ok X G (c.fact 11 (f := .glo "_law_moments") rfl),
    fd_law_worth := fd12,
    F_law_worth := F12,
    g_law_worth := He.glo_ok X G (c.fact 12 (f := .glo "_law_worth") rfl),
    fd_law_taken := fd13,
    F_law_taken := F13,
    g_law_taken := He.glo_ok X G (c.fact 13 (f := .glo "_law_taken") rfl),
    fd_law_case := fd14,
    F_law_case := F14,
    g_law_case := He.glo_ok X G (c.fact 14 (f := .glo "_law_case") rfl),
    fd_law_deck := fd15,
    F_law_deck := F15,
    g_law_deck := He.glo_ok X G (c.fact 15 (f := .glo "_law_deck") rfl),
    fd_law_stretch := fd16,
    F_law_stretch := F16,
    g_law_stretch := He.glo_ok X G (c.fact 16 (f := .glo "_law_stretch") rfl),
    fd_law_last_met := fd17,
    F_law_last_met := F17,
    g_law_last_met := He.glo_ok X G (c.fact 17 (f := .glo "_law_last_met") rfl),
    fd_law_whole := fd18,
    F_law_whole := F18,
    g_law_whole := He.glo_ok X G (c.fact 18 (f := .glo "_law_whole") rfl),
    fd_law_is_happening := fd19,
    F_law_is_happening := F19,
    g_law_is_happening := He.glo_ok X G (c.fact 19 (f := .glo "_law_is_happening") rfl),
    fd_law_holds := fd20,
    F_law_holds := F20,
    g_law_holds := He.glo_ok X G (c.fact 20 (f := .glo "_law_holds") rfl),
    fd_law_meets := fd21,
    F_law_meets := F21,
    g_law_meets := He.glo_ok X G (c.fact 21 (f := .glo "_law_meets") rfl),
    fd_worth := fd22,
    F_worth := F22,
    g_worth := He.glo_ok X G (c.fact 22 (f := .glo "worth") rfl),
    fd_asked_of := fd23,
    F_asked_of := F23,
    g_asked_of := He.glo_ok X G (c.fact 23 (f := .glo "asked_of") rfl),
    fd_limits := fd24,
    F_limits := F24,
    g_limits := He.glo_ok X G (c.fact 24 (f := .glo "limits") rfl),
    fd_moments_met := fd25,
    F_moments_met := F25,
    g_moments_met := He.glo_ok X G (c.fact 25 (f := .glo "moments_met") rfl),
    fd_worths_of := fd26,
    F_worths_of := F26,
    g_worths_of := He.glo_ok X G (c.fact 26 (f := .glo "worths_of") rfl),
    fd_undoer := fd27,
    F_undoer := F27,
    g_undoer := He.glo_ok X G (c.fact 27 (f := .glo "undoer") rfl),
    fd_law_right := fd28,
    F_law_right := F28,
    g_law_right := He.glo_ok X G (c.fact 28 (f := .glo "_law_right") rfl),
    fd_law := fd29,
    F_law := F29,
    g_law := He.glo_ok X G (c.fact 29 (f := .glo "law") rfl),
    m_abs := He.free_ok X G (c.fact 30 (f := .free "abs") rfl),
    m_bool := He.free_ok X G (c.fact 31 (f := .free "bool") rfl),
    m_enumerate := He.free_ok X G (c.fact 32 (f := .free "enumerate") rfl),
    m_int := He.free_ok X G (c.fact 33 (f := .free "int") rfl),
    m_isinstance := He.free_ok X G (c.fact 34 (f := .free "isinstance") rfl),
    m_len := He.free_ok X G (c.fact 35 (f := .free "len") rfl),
    m_list := He.free_ok X G (c.fact 36 (f := .free "list") rfl),
    m_max := He.free_ok X G (c.fact 37 (f := .free "max") rfl),
    m_min := He.free_ok X G (c.fact 38 (f := .free "min") rfl),
    m_range := He.free_ok X G (c.fact 39 (f := .free "range") rfl),
    m_str := He.free_ok X G (c.fact 40 (f := .free "str") rfl),
    m_sum := He.free_ok X G (c.fact 41 (f := .free "sum") rfl),
    m_tuple := He.free_ok X G (c.fact 42 (f := .free "tuple") rfl),
    c_FAR := He.int_ok X G (c.fact 43 (f := .int "FAR" (1000000000000000000)) rfl) }⟩
abbrev R : PySem.W.OpenRow := PySem.W.OpenLaw.row PySem.Challenge.rw_watchrules_k43_who_undoes
abbrev hk : PySem.W.Hook := hookX 4 fa fn tu
def ob (s : PySem.W.SharedT) : AlX := obsXG 4 fa fn tu (HandSHeadRun.getT s)
theorem ob_eq (s : PySem.W.SharedT) : ob s = hk.obs s.abs := obsXG_eq (HandSHeadRun.getT_eq s)
theorem run (w : World) : HandSHeadRun.RunEq R (PySem.W.view R.prog [33]) hk ob 4000 lo w := by
  intro os
  kernel_rfl
/-- the law's promise: of every script it is True -/
def spLaw (K : Frag) : Sp := fun vs H Q _ => ∃ (a : Addr) (ns : List Int), vs = [.ref a] ∧ SqF K H O0 a (ns.map V.int) ∧ ns.length ≤ 63 ∧ ∀ H', Q (.bl true) H'
theorem sp_law {K : Frag} (hall : ∀ ns : List Int, ns.length ≤ 63 → ∃ ds, d_law [.lst (ns.map D.int)] = some (.bl true, ds)) : ∀ vs H Q E, spLaw K vs H Q E → SpF K [0] 0 d_law vs H Q E := fun vs H Q E h => by
  obtain ⟨a, ns, rfl, ha, hl, q⟩ := h
  obtain ⟨ds, hd⟩ := hall ns hl
  have hr : ∀ ms : List Int, Reps K H O0 0 (ms.map V.int) (ms.map D.int) [] := fun ms => by
    induction ms with
    | nil => exact .nil
    | cons m ms ih => exact .cons0 .int ih
  refine ⟨O0, [.lst (ns.map D.int)], [] ++ [], _, _, .cons (.frz ha (hr ns)) .nil Disj.nil, od0, hd, fun v H' O' U' F _ _ rv _ _ => ?_⟩
  cases rv
  exact q H'
end Law
open PySem PySem.W PySem.Calls PyProof.Rows
set_option maxRecDepth 100000 in
set_option maxHeartbeats 0 in
theorem PySem.Challenge.cw_watchrules_k43_who_undoes_holds : PySem.Challenge.rw_watchrules_k43_who_undoes.Holds := by
  w_on; o_law
  refine HandSHeadRun.head_any (r := OpenLaw.row PySem.Challenge.rw_watchrules_k43_who_undoes) (q := view (OpenLaw.row PySem.Challenge.rw_watchrules_k43_who_undoes).prog [33]) (H := Law.hk) (ob := Law.ob) (M := 4000) (loose := Law.lo) (d := HandSHeadRun.topDef (OpenLaw.row PySem.Challenge.rw_watchrules_k43_who_undoes).prog 33) (kwd := []) Law.ob_eq
    (by kernel_rfl) (fun s => by kernel_rfl) Law.run (by kernel_rfl) (by kernel_rfl) (by kernel_rfl) (by rfl) (by first | assumption | decide +kernel) (by decide +kernel) ⟨rfl, rfl, rfl, rfl, rfl, by decide +kernel⟩ ?hw ?hc
  case hw => w_witness2
  case hc =>
    refine L2.walk_ofE (l := PySem.Challenge.rw_watchrules_k43_who_undoes) (n := 63) (k := 7) (x := "_law_script") (CX := L2.CX0) rfl (by decide) (by kernel_rfl) ⟨rfl, by decide, by decide⟩ ?F (fun _ _ _ _ z => z)
    intro w mg fa h Y G hmg0
    obtain ⟨K, KX, c⟩ := Y
    have hmg : mg ("law" : PySem.Str) = some (.ref fa) := by
      have e : (HandSHeadRun.topDef (OpenLaw.row PySem.Challenge.rw_watchrules_k43_who_undoes).prog 33).name = ("law" : PySem.Str) := by kernel_rfl
      rw [← e]
      exact hmg0
    obtain ⟨T⟩ := Law.tx_of KX G c
    have e := hmg.symm.trans T.g_law
    cases e
    exact ⟨K, T.fd_law, Law.spLaw K, KX, fun s v => L2.FunD.bindsA (ps := ["_law_script"]) T.F_law (fun _ _ _ _ _ _ us hl => match us, hl with | [_], _ => rfl) s [v] rfl, fun H a ns hl hO hS => ⟨a, ns, rfl, Wr.sqf_only hO hS, hl, fun _ => rfl⟩, fun base _ _ => (Law.ok_law T).imp (Law.sp_law Law.all_true)⟩

