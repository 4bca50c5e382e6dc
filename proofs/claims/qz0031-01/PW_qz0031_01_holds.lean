import PyProof.Rows.All
import Wide.All
import OpenK.AllK
import Wide.FinOn
import KE.KSuper
import PySem.Challenge.RW_qz0031_01
open PySem PySem.W PyProof.Rows PySem.Calls
set_option Elab.async false
set_option maxRecDepth 100000
set_option linter.all false
set_option tactic.hygienic false
namespace Mine
section
inductive A15 (p0 p1 p2 p3 p4 p5 p6 p7 p8 p9 p10 p11 p12 p13 p14 : Prop) : Prop
  | mk : p0 -> p1 -> p2 -> p3 -> p4 -> p5 -> p6 -> p7 -> p8 -> p9 -> p10 -> p11 -> p12 -> p13 -> p14 -> A15 p0 p1 p2 p3 p4 p5 p6 p7 p8 p9 p10 p11 p12 p13 p14
inductive X2 {α β : Type} (p : α -> β -> Prop) : Prop
  | mk (a : α) (b : β) : p a b -> X2 p
inductive X3 {α β γ : Type} (p : α -> β -> γ -> Prop) : Prop
  | mk (a : α) (b : β) (c : γ) : p a b c -> X3 p
inductive X4 {α β γ δ : Type} (p : α -> β -> γ -> δ -> Prop) : Prop
  | mk (a : α) (b : β) (c : γ) (d : δ) : p a b c d -> X4 p
inductive X5 {α β γ δ ε : Type} (p : α -> β -> γ -> δ -> ε -> Prop) : Prop
  | mk (a : α) (b : β) (c : γ) (d : δ) (e : ε) : p a b c d e -> X5 p
inductive X6 {α β γ δ ε ζ : Type} (p : α -> β -> γ -> δ -> ε -> ζ -> Prop) : Prop
  | mk (a : α) (b : β) (c : γ) (d : δ) (e : ε) (f : ζ) : p a b c d e f -> X6 p
inductive X8 {α β γ δ ε ζ η θ : Type} (p : α -> β -> γ -> δ -> ε -> ζ -> η -> θ -> Prop) : Prop
  | mk (a : α) (b : β) (c : γ) (d : δ) (e : ε) (f : ζ) (g : η) (h : θ) : p a b c d e f g h -> X8 p
inductive X9 {α β γ δ ε ζ η θ ι : Type} (p : α -> β -> γ -> δ -> ε -> ζ -> η -> θ -> ι -> Prop) : Prop
  | mk (a : α) (b : β) (c : γ) (d : δ) (e : ε) (f : ζ) (g : η) (h : θ) (i : ι) : p a b c d e f g h i -> X9 p
inductive A3 (p0 p1 p2 : Prop) : Prop
  | mk : p0 -> p1 -> p2 -> A3 p0 p1 p2
inductive A4 (p0 p1 p2 p3 : Prop) : Prop
  | mk : p0 -> p1 -> p2 -> p3 -> A4 p0 p1 p2 p3
inductive A5 (p0 p1 p2 p3 p4 : Prop) : Prop
  | mk : p0 -> p1 -> p2 -> p3 -> p4 -> A5 p0 p1 p2 p3 p4
inductive A6 (p0 p1 p2 p3 p4 p5 : Prop) : Prop
  | mk : p0 -> p1 -> p2 -> p3 -> p4 -> p5 -> A6 p0 p1 p2 p3 p4 p5
inductive A7 (p0 p1 p2 p3 p4 p5 p6 : Prop) : Prop
  | mk : p0 -> p1 -> p2 -> p3 -> p4 -> p5 -> p6 -> A7 p0 p1 p2 p3 p4 p5 p6
inductive A8 (p0 p1 p2 p3 p4 p5 p6 p7 : Prop) : Prop
  | mk : p0 -> p1 -> p2 -> p3 -> p4 -> p5 -> p6 -> p7 -> A8 p0 p1 p2 p3 p4 p5 p6 p7
inductive A9 (p0 p1 p2 p3 p4 p5 p6 p7 p8 : Prop) : Prop
  | mk : p0 -> p1 -> p2 -> p3 -> p4 -> p5 -> p6 -> p7 -> p8 -> A9 p0 p1 p2 p3 p4 p5 p6 p7 p8
inductive A11 (p0 p1 p2 p3 p4 p5 p6 p7 p8 p9 p10 : Prop) : Prop
  | mk : p0 -> p1 -> p2 -> p3 -> p4 -> p5 -> p6 -> p7 -> p8 -> p9 -> p10 -> A11 p0 p1 p2 p3 p4 p5 p6 p7 p8 p9 p10
theorem no {α : Type} {a : α} {G : Prop} (e : none = some a) : G := nomatch e
theorem nob {G : Prop} (e : false = true) : G := nomatch e
def Dead (h h' : Heap) : Prop := h.objs.size ≤ h'.objs.size ∧ ∀ a, a < h.objs.size -> h.get? a = none -> h'.get? a = none
theorem Dead.refl (h : Heap) : Dead h h := ⟨Nat.le_refl _, fun V V e => e⟩
theorem Dead.trans {h h' h'' : Heap} (x : Dead h h') (y : Dead h' h'') : Dead h h'' := ⟨Nat.le_trans x.1 y.1, fun a l e => y.2 a (Nat.lt_of_lt_of_le l x.1) (x.2 a l e)⟩
theorem dead_push (h : Heap) (o : Obj) : Dead h (h.push o) := ⟨by rw [Heap.size_push]; exact Nat.le_succ _, fun a l e => (Heap.get?_push_ne _ _ _ (Nat.ne_of_lt l)).trans e⟩
theorem dead_update {h : Heap} {a : Addr} {f : Obj -> Obj} (hs : (h.get? a).isSome) : Dead h (h.update a f) :=
  ⟨by rw [Heap.size_update]; exact Nat.le_refl _, fun b V e => (Heap.get?_update_other h f (fun q => by subst q; rw [e] at hs; cases hs)).trans e⟩

set_option tactic.hygienic true in
theorem runs_dead {M : Model} {Γ : Ctx} {p : Pos} {t : Sem Fin} {fs : List Frame} {s s' : Shared} {e : End} (h : Runs M Γ p t fs s e s') : Dead s.heap s'.heap := by
  induction h <;> first
    | exact Dead.refl _
    | (rename_i ih; exact ih)
    | (rename_i hs _ ih; exact (dead_update hs).trans ih)
    | (rename_i ih; exact (dead_push _ _).trans ih)
    | (rename_i i1 i2; exact Dead.trans i1 i2)

theorem wakes_dead {M : Model} {Γ : Ctx} {p : Pos} {g : Nat} {r : Resume} {s s' : Shared} {res : GenResult} (h : Wakes M Γ p g r s res s') : Dead s.heap s'.heap := by
  unfold Wakes at h
  split at h
  · exact h.elim
  · split at h
    · obtain ⟨e₁, s₁, hr, _, _, rfl⟩ := h; exact (runs_dead hr : Dead (s.setGen g .running).heap s₁.heap)
    · rw [h.2]; exact Dead.refl _
    · rw [h.2]; exact Dead.refl _
  · obtain ⟨e₁, s₁, hr, _, _, rfl⟩ := h; exact (runs_dead hr : Dead (s.setGen g .running).heap s₁.heap)
  · rw [h.2]; exact Dead.refl _
  · rw [h.2]; exact Dead.refl _

theorem wp_dead {α : Type} (M : Model) (Γ : Ctx) (h₁ : Heap) (t : Sem α) : ∀ (Q : α -> Pos -> Shared -> Prop) (E : Value -> Pos -> Shared -> Prop) (p : Pos) (s : Shared), Dead h₁ s.heap -> Sem.wp M Γ t Q E p s ->
    Sem.wp M Γ t (fun a p' s' => Dead h₁ s'.heap ∧ Q a p' s') (fun e p' s' => Dead h₁ s'.heap ∧ E e p' s') p s := by
  induction t with
  | pure a => intro Q E p s hn h; exact ⟨hn, h⟩
  | raise e => intro Q E p s hn h; exact ⟨hn, h⟩
  | unsupported _ => intro Q E p s _ h; exact h
  | finish _ => intro Q E p s _ h; exact h
  | rule _ k ih => intro Q E p s hn h; exact ih () Q E p s hn h
  | «at» p' k ih => intro Q E p s hn h; exact ih () Q E p' s hn h
  | load a _ k ih => intro Q E p s hn h; obtain ⟨o, ho, h⟩ := h; exact ⟨o, ho, ih o Q E p s hn h⟩
  | update a _ f k ih => intro Q E p s hn h; exact ⟨h.1, ih () Q E p _ (hn.trans (dead_update h.1)) h.2⟩
  | loadIfAlive a k ih => intro Q E p s hn h; exact ih _ Q E p s hn h
  | point _ k ih => intro Q E p s hn h; exact ih () Q E p s hn h
  | register _ _ => intro Q E p s _ h; exact h
  | alloc o k ih => intro Q E p s hn h; exact ih _ Q E p _ (hn.trans (dead_push _ _)) h
  | fresh k ih => intro Q E p s hn h; exact ih _ Q E p _ hn h
  | ask k ih => intro Q E p s hn h; exact ih _ Q E p s hn h
  | choose src m k ih => intro Q E p s hn h; exact ⟨h.1, ih _ Q E p _ hn h.2⟩
  | os q _ k ih => intro Q E p s hn h; exact ih _ Q E p _ hn h
  | call c hd _ _ k ih => intro Q E p s hn h; obtain ⟨r, s', hr, h⟩ := h; exact ⟨r, s', hr, ih r Q E p s' (hn.trans (runs_dead hr)) h⟩
  | handled own k ih => intro Q E p s hn h; exact ih _ Q E p s hn h
  | genState g k ih => intro Q E p s hn h; obtain ⟨st, hs, h⟩ := h; exact ⟨st, hs, ih _ Q E p s hn h⟩
  | newGen c k ih => intro Q E p s hn h; exact ih _ Q E p _ hn h
  | resume g r _ k ih => intro Q E p s hn h; obtain ⟨res, s', hw, h⟩ := h; exact ⟨res, s', hw, ih res Q E p s' (hn.trans (wakes_dead hw)) h⟩
  | yield _ _ _ _ => intro Q E p s _ h; exact h
  | stack k ih => intro Q E p s hn h; exact ih _ Q E p s hn h
  | fork _ _ => intro Q E p s _ h; exact h
  | thread k ih => intro Q E p s hn h; exact ih _ Q E p s hn h
  | await _ _ _ _ _ => intro Q E p s _ h; exact h

theorem with_dead {α : Type} {M : Model} {A : Around} {s : Shared} {t : Sem α} {Q : α -> Shared -> Prop} {E : Value -> Shared -> Prop} (h : wpAny M A t (fun a s' => Dead s.heap s'.heap -> Q a s') E s) : wpAny M A t Q E s :=
  fun Γ p hΓ => Sem.wp_mono M Γ t (fun V V V x => x.2 x.1) (fun V V V x => x.2) p s (wp_dead M Γ s.heap t _ _ p s (Dead.refl _) (h Γ p hΓ))
theorem with_size {α : Type} {M : Model} {A : Around} {s : Shared} {t : Sem α} {Q : α -> Shared -> Prop} {E : Value -> Shared -> Prop} (h : wpAny M A t (fun a s' => s.heap.objs.size ≤ s'.heap.objs.size -> Q a s') E s) : wpAny M A t Q E s :=
  with_dead (wpAny_mono h (fun V V x d => x d.1) fun V V x => x)
end
section
inductive AV where
  | none
  | bool (b : Bool)
  | int (i : Int)
  | str (s : String)
  | tup (xs : List AV)
  | lst (xs : List AV)
  | obj (i : Nat)
  | ins (C : Addr) (i : Nat)
  deriving Inhabited

noncomputable abbrev S (x : String) : Str := Str.ofString x

def Off (pv μ : List Addr) (a : Addr) : Prop := a ∉ μ ∧ a ∉ pv

mutual
inductive VRel (pv μ : List Addr) (h : Heap) : AV -> Value -> Prop
  | none : VRel pv μ h .none .none
  | bool (b : Bool) : VRel pv μ h (.bool b) (.bool b)
  | int (i : Int) (t : Tok) : VRel pv μ h (.int i) (.int i t)
  | str (s : String) (t : Tok) : VRel pv μ h (.str s) (.str (S s) t)
  | tup {a : Addr} {xs : List AV} {cs : List Value} : IsTup h a cs.toArray -> Off pv μ a -> VRels pv μ h xs cs -> VRel pv μ h (.tup xs) (.ref a)
  | lst {a : Addr} {xs : List AV} {cs : List Value} : h.IsList a cs.toArray -> Off pv μ a -> VRels pv μ h xs cs -> VRel pv μ h (.lst xs) (.ref a)
  | obj {i : Nat} {a : Addr} : μ[i]? = some a -> VRel pv μ h (.obj i) (.ref a)
  | ins {i : Nat} {C x dx : Addr} : μ[i]? = some dx -> h.get? x = some (instObj C dx) -> Off pv μ x -> VRel pv μ h (.ins C i) (.ref x)
inductive VRels (pv μ : List Addr) (h : Heap) : List AV -> List Value -> Prop
  | nil : VRels pv μ h [] []
  | cons {v : AV} {c : Value} {vs : List AV} {cs : List Value} : VRel pv μ h v c -> VRels pv μ h vs cs -> VRels pv μ h (v :: vs) (c :: cs)
end

structure Grow (own : List Addr) (μ : List Addr) (h : Heap) (μ' : List Addr) (h' : Heap) : Prop where
  pre : ∃ ν, μ' = μ ++ ν ∧ ∀ a ∈ ν, h.objs.size ≤ a
  size : h.objs.size ≤ h'.objs.size
  keep : ∀ b o, h.get? b = some o -> b ∉ μ -> b ∉ own -> h'.get? b = some o

theorem Grow.refl (own μ : List Addr) (h : Heap) : Grow own μ h μ h := ⟨⟨[], by simp, fun V h => (nomatch h)⟩, Nat.le_refl _, fun V V e V V => e⟩
theorem Grow.at {own μ μ' : List Addr} {h h' : Heap} (G : Grow own μ h μ' h') {i : Nat} {a : Addr} (e : μ[i]? = some a) : μ'[i]? = some a := by
  obtain ⟨ν, rfl, _⟩ := G.pre
  rw [List.getElem?_append_left]
  · exact e
  · exact (List.getElem?_eq_some_iff.mp e).1
theorem Grow.off {own μ μ' : List Addr} {h h' : Heap} (G : Grow own μ h μ' h') {a : Addr} (lt : a < h.objs.size) (n : a ∉ μ) : a ∉ μ' := by
  obtain ⟨ν, rfl, hn⟩ := G.pre
  intro q
  rcases List.mem_append.mp q with q | q
  · exact n q
  · exact absurd (hn _ q) (Nat.not_le.mpr lt)
theorem Grow.off' {own μ μ' : List Addr} {h h' : Heap} (G : Grow own μ h μ' h') {a : Addr} {o : Obj} (e : h.get? a = some o) (n : a ∉ μ) : a ∉ μ' := G.off (Heap.lt_size e) n
theorem Grow.trans {own μ μ' μ'' : List Addr} {h h' h'' : Heap} (G : Grow own μ h μ' h') (G' : Grow own μ' h' μ'' h'') : Grow own μ h μ'' h'' := by
  refine ⟨?_, Nat.le_trans G.size G'.size, fun b o e n n' => G'.keep b o (G.keep b o e n n') (G.off' e n) n'⟩
  obtain ⟨ν, rfl, hn⟩ := G.pre
  obtain ⟨ν', rfl, hn'⟩ := G'.pre
  refine ⟨ν ++ ν', List.append_assoc .., fun a ha => ?_⟩
  rcases List.mem_append.mp ha with q | q
  · exact hn a q
  · exact Nat.le_trans G.size (hn' a q)
theorem Grow.mono {own own' μ μ' : List Addr} {h h' : Heap} (G : Grow own μ h μ' h') (s : ∀ a ∈ own, a ∈ own') : Grow own' μ h μ' h' :=
  ⟨G.pre, G.size, fun b o e n n' => G.keep b o e n fun q => n' (s b q)⟩

structure Kp (own : List Addr) (μ : List Addr) (h : Heap) (μ' : List Addr) (h' : Heap) : Prop where
  pre : ∃ ν, μ' = μ ++ ν ∧ ∀ a ∈ ν, h.objs.size ≤ a
  keep : ∀ b o, h.get? b = some o -> b ∉ μ -> b ∉ own -> h'.get? b = some o
theorem Grow.kp {own μ μ' : List Addr} {h h' : Heap} (G : Grow own μ h μ' h') : Kp own μ h μ' h' := ⟨G.pre, G.keep⟩
theorem Kp.at {own μ μ' : List Addr} {h h' : Heap} (G : Kp own μ h μ' h') {i : Nat} {a : Addr} (e : μ[i]? = some a) : μ'[i]? = some a := by
  obtain ⟨ν, rfl, _⟩ := G.pre
  rw [List.getElem?_append_left]
  · exact e
  · exact (List.getElem?_eq_some_iff.mp e).1
theorem Kp.off' {own μ μ' : List Addr} {h h' : Heap} (G : Kp own μ h μ' h') {a : Addr} {o : Obj} (e : h.get? a = some o) (n : a ∉ μ) : a ∉ μ' := by
  obtain ⟨ν, rfl, hn⟩ := G.pre
  intro q
  rcases List.mem_append.mp q with q | q
  · exact n q
  · exact absurd (hn _ q) (Nat.not_le.mpr (Heap.lt_size e))
theorem Grow.shrink {own own' μ μ' : List Addr} {h h' : Heap} (G : Grow own' μ h μ' h') (s : ∀ a ∈ own', a ∈ own ∨ h.get? a = none) : Grow own μ h μ' h' :=
  ⟨G.pre, G.size, fun b o e n n' => G.keep b o e n fun q => by
    rcases s b q with q' | q'
    · exact n' q'
    · rw [q'] at e; cases e⟩

structure OwnOk (own : List Addr) (h : Heap) : Prop where
  has : ∀ a ∈ own, ∃ o, h.get? a = some o ∧ ((∃ es ep, o.data = .dict es ep) ∨ (∃ v, o.data = .cell v) ∨ (∃ vs, o.data = .fields vs))
theorem OwnOk.nil (h : Heap) : OwnOk [] h := ⟨fun V q => (nomatch q)⟩
theorem OwnOk.no {own : List Addr} {h : Heap} (W : OwnOk own h) {a : Addr} (q : a ∈ own) {o : Obj} (e : h.get? a = some o) : (∃ es ep, o.data = .dict es ep) ∨ (∃ v, o.data = .cell v) ∨ (∃ vs, o.data = .fields vs) := by
  obtain ⟨o', e', r⟩ := W.has a q
  rw [e] at e'
  cases e'
  exact r
def SepOk (pv own : List Addr) (h : Heap) : Prop := ∀ a ∈ own, a ∈ pv ∨ ∃ o, h.get? a = some o ∧ ((∃ es ep, o.data = .dict es ep) ∨ (∃ v, o.data = .cell v) ∨ (∃ vs, o.data = .fields vs))
theorem OwnOk.sep {pv own : List Addr} {h : Heap} (W : OwnOk own h) : SepOk pv own h := fun a ha => .inr (W.has a ha)
theorem SepOk.prv {pv own : List Addr} {h : Heap} (s : ∀ a ∈ own, a ∈ pv) : SepOk pv own h := fun a ha => .inl (s a ha)
theorem SepOk.no {pv own : List Addr} {h : Heap} (W : SepOk pv own h) {a : Addr} (n : a ∉ pv) (q : a ∈ own) {o : Obj} (e : h.get? a = some o) : (∃ es ep, o.data = .dict es ep) ∨ (∃ v, o.data = .cell v) ∨ (∃ vs, o.data = .fields vs) := by
  rcases W a q with z | ⟨o', e', r⟩
  · exact absurd z n
  · rw [e] at e'; cases e'; exact r
theorem SepOk.tup {pv own : List Addr} {h : Heap} (W : SepOk pv own h) {a : Addr} {vs : Array Value} (n : a ∉ pv) (t : IsTup h a vs) : a ∉ own := by
  obtain ⟨o, ho, _, m, hd⟩ := t
  intro q
  rcases W.no n q ho with ⟨_, _, e⟩ | ⟨_, e⟩ | ⟨_, e⟩ <;> rw [hd] at e <;> cases e
theorem SepOk.list {pv own : List Addr} {h : Heap} (W : SepOk pv own h) {a : Addr} {vs : Array Value} (n : a ∉ pv) (t : h.IsList a vs) : a ∉ own := by
  obtain ⟨o, ho, _, m, hd⟩ := t
  intro q
  rcases W.no n q ho with ⟨_, _, e⟩ | ⟨_, e⟩ | ⟨_, e⟩ <;> rw [hd] at e <;> cases e
theorem SepOk.inst {pv own : List Addr} {h : Heap} (W : SepOk pv own h) {a C dx : Addr} (n : a ∉ pv) (t : h.get? a = some (instObj C dx)) : a ∉ own := by
  intro q
  rcases W.no n q t with ⟨_, _, e⟩ | ⟨_, e⟩ | ⟨_, e⟩ <;> cases e

noncomputable def VInv (pv μ : List Addr) (h : Heap) : AV -> Value -> Prop
  | .none, c => c = .none
  | .bool b, c => c = .bool b
  | .int i, c => ∃ t, c = .int i t
  | .str s, c => ∃ t, c = .str (S s) t
  | .tup xs, c => X2 fun a cs => A4 (c = .ref a) (IsTup h a cs.toArray) (Off pv μ a) (VRels pv μ h xs cs)
  | .lst xs, c => X2 fun a cs => A4 (c = .ref a) (h.IsList a cs.toArray) (Off pv μ a) (VRels pv μ h xs cs)
  | .obj i, c => ∃ a, c = .ref a ∧ μ[i]? = some a
  | .ins C i, c => X2 fun x dx => A4 (c = .ref x) (μ[i]? = some dx) (h.get? x = some (instObj C dx)) (Off pv μ x)
theorem VRel.inv {pv μ : List Addr} {h : Heap} {v : AV} {c : Value} (r : VRel pv μ h v c) : VInv pv μ h v c := by
  cases r with
  | none => exact rfl
  | bool => exact rfl
  | int _ t => exact ⟨t, rfl⟩
  | str _ t => exact ⟨t, rfl⟩
  | tup a b c => exact ⟨_, _, rfl, a, b, c⟩
  | lst a b c => exact ⟨_, _, rfl, a, b, c⟩
  | obj a => exact ⟨_, rfl, a⟩
  | ins a b c => exact ⟨_, _, rfl, a, b, c⟩
noncomputable def VsInv (pv μ : List Addr) (h : Heap) : List AV -> List Value -> Prop
  | [], cs => cs = []
  | x :: xs, cs => X2 fun c ds => A3 (cs = c :: ds) (VRel pv μ h x c) (VRels pv μ h xs ds)
theorem VRels.inv {pv μ : List Addr} {h : Heap} {v : List AV} {c : List Value} (r : VRels pv μ h v c) : VsInv pv μ h v c := by
  cases r with
  | nil => exact rfl
  | cons a b => exact ⟨_, _, rfl, a, b⟩
section
variable {pv μ : List Addr} {h : Heap} {xs : List AV} {c : Value} {x y z u : AV} {cs : List Value}
theorem VRel.iNone (r : VRel pv μ h .none c) : c = .none := r.inv
theorem VRel.iBool {b : Bool} (r : VRel pv μ h (.bool b) c) : c = .bool b := r.inv
theorem VRel.iInt {i : Int} (r : VRel pv μ h (.int i) c) : ∃ t, c = .int i t := r.inv
theorem VRel.iStr {s : String} (r : VRel pv μ h (.str s) c) : ∃ t, c = .str (S s) t := r.inv
theorem VRel.iTup (r : VRel pv μ h (.tup xs) c) : X2 fun a cs => A4 (c = .ref a) (IsTup h a cs.toArray) (Off pv μ a) (VRels pv μ h xs cs) := r.inv
theorem VRel.iLst (r : VRel pv μ h (.lst xs) c) : X2 fun a cs => A4 (c = .ref a) (h.IsList a cs.toArray) (Off pv μ a) (VRels pv μ h xs cs) := r.inv
theorem VRel.iObj {i : Nat} (r : VRel pv μ h (.obj i) c) : ∃ a, c = .ref a ∧ μ[i]? = some a := r.inv
theorem VRel.iIns {C i : Nat} (r : VRel pv μ h (.ins C i) c) : X2 fun x dx => A4 (c = .ref x) (μ[i]? = some dx) (h.get? x = some (instObj C dx)) (Off pv μ x) := r.inv
theorem VRels.iNil (r : VRels pv μ h [] cs) : cs = [] := r.inv
theorem VRels.iCons (r : VRels pv μ h (x :: xs) cs) : X2 fun c ds => A3 (cs = c :: ds) (VRel pv μ h x c) (VRels pv μ h xs ds) := r.inv
theorem VRels.i1 (r : VRels pv μ h [x] cs) : ∃ c, cs = [c] ∧ VRel pv μ h x c := by
  obtain ⟨c, ds, rfl, a, q⟩ := r.iCons; cases q.iNil; exact ⟨c, rfl, a⟩
theorem VRels.i2 (r : VRels pv μ h [x, y] cs) : X2 fun c d => A3 (cs = [c, d]) (VRel pv μ h x c) (VRel pv μ h y d) := by
  obtain ⟨c, ds, rfl, a, q⟩ := r.iCons; obtain ⟨d, rfl, b⟩ := q.i1; exact ⟨c, d, rfl, a, b⟩
theorem VRels.i3 (r : VRels pv μ h [x, y, z] cs) : X3 fun c d e => A4 (cs = [c, d, e]) (VRel pv μ h x c) (VRel pv μ h y d) (VRel pv μ h z e) := by
  obtain ⟨c, ds, rfl, a, q⟩ := r.iCons; obtain ⟨d, e, rfl, b, b'⟩ := q.i2; exact ⟨c, d, e, rfl, a, b, b'⟩
theorem VRels.i4 (r : VRels pv μ h [x, y, z, u] cs) : X4 fun c d e f => A5 (cs = [c, d, e, f]) (VRel pv μ h x c) (VRel pv μ h y d) (VRel pv μ h z e) (VRel pv μ h u f) := by
  obtain ⟨c, ds, rfl, a, q⟩ := r.iCons; obtain ⟨d, e, f, rfl, b, b', b''⟩ := q.i3; exact ⟨c, d, e, f, rfl, a, b, b', b''⟩
section
variable {p : Value -> Prop} {q : List Value -> Prop}
theorem VRel.eNone (r : VRel pv μ h .none c) (k : p .none) : p c := by cases r.iNone; exact k
theorem VRel.eBool {b : Bool} (r : VRel pv μ h (.bool b) c) (k : p (.bool b)) : p c := by cases r.iBool; exact k
theorem VRel.eInt {i : Int} (r : VRel pv μ h (.int i) c) (k : ∀ t, p (.int i t)) : p c := by obtain ⟨t, rfl⟩ := r.iInt; exact k t
theorem VRel.eStr {s : String} (r : VRel pv μ h (.str s) c) (k : ∀ t, p (.str (S s) t)) : p c := by obtain ⟨t, rfl⟩ := r.iStr; exact k t
theorem VRel.eTup (r : VRel pv μ h (.tup xs) c) (k : ∀ a cs, IsTup h a cs.toArray -> Off pv μ a -> VRels pv μ h xs cs -> p (.ref a)) : p c := by obtain ⟨a, cs, rfl, h1, h2, h3⟩ := r.iTup; exact k a cs h1 h2 h3
theorem VRel.eLst (r : VRel pv μ h (.lst xs) c) (k : ∀ a cs, h.IsList a cs.toArray -> Off pv μ a -> VRels pv μ h xs cs -> p (.ref a)) : p c := by obtain ⟨a, cs, rfl, h1, h2, h3⟩ := r.iLst; exact k a cs h1 h2 h3
theorem VRel.eObj {i : Nat} (r : VRel pv μ h (.obj i) c) (k : ∀ a, μ[i]? = some a -> p (.ref a)) : p c := by obtain ⟨a, rfl, h1⟩ := r.iObj; exact k a h1
theorem VRel.eIns {C i : Nat} (r : VRel pv μ h (.ins C i) c) (k : ∀ x dx, μ[i]? = some dx -> h.get? x = some (instObj C dx) -> Off pv μ x -> p (.ref x)) : p c := by obtain ⟨x, dx, rfl, h1, h2, h3⟩ := r.iIns; exact k x dx h1 h2 h3
theorem VRels.eNil (r : VRels pv μ h [] cs) (k : q []) : q cs := by cases r.iNil; exact k
theorem VRels.eCons (r : VRels pv μ h (x :: xs) cs) (k : ∀ c ds, VRel pv μ h x c -> VRels pv μ h xs ds -> q (c :: ds)) : q cs := by obtain ⟨c, ds, rfl, a, b⟩ := r.iCons; exact k c ds a b
theorem VRels.e1 (r : VRels pv μ h [x] cs) (k : ∀ c, VRel pv μ h x c -> q [c]) : q cs := by obtain ⟨c, rfl, a⟩ := r.i1; exact k c a
theorem VRels.e2 (r : VRels pv μ h [x, y] cs) (k : ∀ c d, VRel pv μ h x c -> VRel pv μ h y d -> q [c, d]) : q cs := by obtain ⟨c, d, rfl, a, b⟩ := r.i2; exact k c d a b
theorem VRels.e3 (r : VRels pv μ h [x, y, z] cs) (k : ∀ c d e, VRel pv μ h x c -> VRel pv μ h y d -> VRel pv μ h z e -> q [c, d, e]) : q cs := by obtain ⟨c, d, e, rfl, a, b, g⟩ := r.i3; exact k c d e a b g
end
end

theorem VRels.all {pv μ pv' μ' : List Addr} {h h' : Heap} (f : ∀ {v : AV} {c : Value}, VRel pv μ h v c -> VRel pv' μ' h' v c) {vs : List AV} : ∀ {cs : List Value}, VRels pv μ h vs cs -> VRels pv' μ' h' vs cs := by
  induction vs with
  | nil => intro cs r; apply r.eNil; exact .nil
  | cons v vs ih => intro cs r; apply r.eCons; intro c ds a b; exact .cons (f a) (ih b)
theorem VRel.kp {pv own μ μ' : List Addr} {h h' : Heap} (G : Kp own μ h μ' h') (W : SepOk pv own h) {v : AV} {c : Value} (r : VRel pv μ h v c) : VRel pv μ' h' v c := by
  refine VRel.rec (motive_1 := fun v c V => VRel pv μ' h' v c) (motive_2 := fun v c V => VRels pv μ' h' v c) .none .bool .int .str (fun t n V q => ?_) (fun t n V q => ?_) (fun e => .obj (G.at e)) (fun e t n => .ins (G.at e) (G.keep _ _ t n.1 (W.inst n.2 t)) ⟨G.off' t n.1, n.2⟩) .nil (fun V V a b => .cons a b) r
  · have w := W.tup n.2 t
    obtain ⟨o, ho, hr⟩ := t
    exact .tup ⟨o, G.keep _ o ho n.1 w, hr⟩ ⟨G.off' ho n.1, n.2⟩ q
  · have w := W.list n.2 t
    obtain ⟨o, ho, hr⟩ := t
    exact .lst ⟨o, G.keep _ o ho n.1 w, hr⟩ ⟨G.off' ho n.1, n.2⟩ q
theorem VRels.kp {pv own μ μ' : List Addr} {h h' : Heap} (G : Kp own μ h μ' h') (W : SepOk pv own h) {vs : List AV} {cs : List Value} (r : VRels pv μ h vs cs) : VRels pv μ' h' vs cs := r.all fun a => a.kp G W

theorem VRel.grow {pv own μ μ' : List Addr} {h h' : Heap} (G : Grow own μ h μ' h') (W : OwnOk own h) {v : AV} {c : Value} (r : VRel pv μ h v c) : VRel pv μ' h' v c := r.kp G.kp W.sep
theorem VRels.grow {pv own μ μ' : List Addr} {h h' : Heap} (G : Grow own μ h μ' h') (W : OwnOk own h) {v : List AV} {c : List Value} (r : VRels pv μ h v c) : VRels pv μ' h' v c := r.kp G.kp W.sep
theorem VRels.length {pv μ : List Addr} {h : Heap} {vs : List AV} : ∀ {cs : List Value}, VRels pv μ h vs cs -> vs.length = cs.length := by
  induction vs with
  | nil => intro cs r; apply r.eNil; rfl
  | cons v vs ih => intro cs r; apply r.eCons; intro c ds a b; exact congrArg (· + 1) (ih b)
theorem VRels.append {pv μ : List Addr} {h : Heap} {vs us : List AV} : ∀ {cs ds : List Value}, VRels pv μ h vs cs -> VRels pv μ h us ds -> VRels pv μ h (vs ++ us) (cs ++ ds) := by
  induction vs with
  | nil => intro cs _ r q; apply r.eNil; exact q
  | cons v vs ih => intro cs _ r q; apply r.eCons; intro c ds a b; exact .cons a (ih b q)
theorem VRels.get {pv μ : List Addr} {h : Heap} {vs : List AV} : ∀ {cs : List Value}, VRels pv μ h vs cs -> ∀ {k : Nat} {v : AV}, vs[k]? = some v -> ∃ c, cs[k]? = some c ∧ VRel pv μ h v c := by
  induction vs with
  | nil => intro cs r k v e; cases e
  | cons v vs ih =>
    intro cs r k u e
    apply r.eCons; intro c ds a b
    cases k with
    | zero => cases e; exact ⟨c, rfl, a⟩
    | succ k => exact ih b (k := k) e
theorem VRels.take {pv μ : List Addr} {h : Heap} {vs : List AV} : ∀ {cs : List Value}, VRels pv μ h vs cs -> ∀ k, VRels pv μ h (vs.take k) (cs.take k) := by
  induction vs with
  | nil => intro cs r k; apply r.eNil; cases k <;> exact .nil
  | cons v vs ih =>
    intro cs r k
    apply r.eCons; intro c ds a b
    cases k with
    | zero => exact .nil
    | succ k => exact .cons a (ih b k)
theorem VRels.drop {pv μ : List Addr} {h : Heap} {vs : List AV} : ∀ {cs : List Value}, VRels pv μ h vs cs -> ∀ k, VRels pv μ h (vs.drop k) (cs.drop k) := by
  induction vs with
  | nil => intro cs r k; apply r.eNil; cases k <;> exact .nil
  | cons v vs ih =>
    intro cs r k
    cases k with
    | zero => exact r
    | succ k => apply r.eCons; intro c ds a b; exact ih b k
theorem VRels.set {pv μ : List Addr} {h : Heap} {vs : List AV} : ∀ {cs : List Value}, VRels pv μ h vs cs -> ∀ k {v c}, VRel pv μ h v c -> VRels pv μ h (vs.set k v) (cs.set k c) := by
  induction vs with
  | nil => intro cs r k _ _ _; apply r.eNil; exact .nil
  | cons v vs ih =>
    intro cs r k _ _ x
    apply r.eCons; intro c ds a b
    cases k with
    | zero => exact .cons x b
    | succ k => exact .cons a (ih b k x)

-- more private addresses, that are new; or less
theorem VRel.prv {pv pv' μ : List Addr} {h : Heap} (s : ∀ a ∈ pv', a ∈ pv ∨ h.get? a = Option.none) {v : AV} {c : Value} (r : VRel pv μ h v c) : VRel pv' μ h v c := by
  have k : ∀ {a o}, h.get? a = some o -> Off pv μ a -> Off pv' μ a := fun ho n => ⟨n.1, fun q => (s _ q).elim n.2 fun z => by rw [ho] at z; cases z⟩
  exact VRel.rec (motive_1 := fun v c V => VRel pv' μ h v c) (motive_2 := fun v c V => VRels pv' μ h v c) .none .bool .int .str (fun t n V q => .tup t (t.elim fun V x => k x.1 n) q) (fun t n V q => .lst t (t.elim fun V x => k x.1 n) q) .obj (fun e t n => .ins e t (k t n)) .nil (fun V V a b => .cons a b) r
theorem VRels.prv {pv pv' μ : List Addr} {h : Heap} (s : ∀ a ∈ pv', a ∈ pv ∨ h.get? a = Option.none) {vs : List AV} {cs : List Value} (r : VRels pv μ h vs cs) : VRels pv' μ h vs cs := r.all fun a => a.prv s

section
variable (prog : Program) (w : World)

inductive KVs {K K' : Type} (f : K -> K') (pv μ : List Addr) (h : Heap) : List (K × AV) -> List (K' × Value) -> Prop
  | nil : KVs f pv μ h [] []
  | cons {k : K} {v : AV} {c : Value} {r : List (K × AV)} {r' : List (K' × Value)} : VRel pv μ h v c -> KVs f pv μ h r r' -> KVs f pv μ h ((k, v) :: r) ((f k, c) :: r')

theorem KVs.kp {K K' : Type} {f : K -> K'} {pv own μ μ' : List Addr} {h h' : Heap} (G : Kp own μ h μ' h') (W : SepOk pv own h) {l : List (K × AV)} {l' : List (K' × Value)} (r : KVs f pv μ h l l') : KVs f pv μ' h' l l' := by
  induction r with
  | nil => exact .nil
  | cons a _ ih => exact .cons (a.kp G W) ih
theorem KVs.grow {K K' : Type} {f : K -> K'} {pv own μ μ' : List Addr} {h h' : Heap} (G : Grow own μ h μ' h') (W : OwnOk own h) {l : List (K × AV)} {l' : List (K' × Value)} (r : KVs f pv μ h l l') : KVs f pv μ' h' l l' := r.kp G.kp W.sep
theorem KVs.prv {K K' : Type} {f : K -> K'} {pv pv' μ : List Addr} {h : Heap} (s : ∀ a ∈ pv', a ∈ pv ∨ h.get? a = Option.none) {l : List (K × AV)} {l' : List (K' × Value)} (r : KVs f pv μ h l l') : KVs f pv' μ h l l' := by
  induction r with
  | nil => exact .nil
  | cons a _ ih => exact .cons (a.prv s) ih
end
end
section
inductive TKey where
  | num (s p q : Int)
  | oth (op : String) (args : List Int) (s d : Int)
  deriving DecidableEq

theorem S_inj {x y : String} (h : S x = S y) : x = y := by
  have e : (Str.ofString x).cps = (Str.ofString y).cps := by rw [show Str.ofString x = Str.ofString y from h]
  rw [Str.ofString_eq_byList] at e
  unfold Str.ofStringByList at e
  have e2 : x.toList.map Char.toNat = y.toList.map Char.toNat := by simpa using e
  have e3 : x.toList = y.toList := List.map_inj_right (fun a b hab => Char.toNat_inj.mp hab) |>.mp e2
  exact String.toList_inj.mp e3

section
variable {prog : Program} {w : World}
noncomputable def TIs (prog : Program) (w : World) (h : Heap) : TKey -> Addr -> Prop
  | .num s p q, a => X4 fun t e u v => A3 (IsTup h a #[.str (S "num") t, .ref e, .int s u, .ref v]) (IsTupleKey (intKind prog w) h [] e) (IsTupleKey (intKind prog w) h [p, q] v)
  | .oth op args s d, a => op ≠ "num" ∧ X4 fun t e u v => IsTup h a #[.str (S op) t, .ref e, .int s u, .int d v] ∧ IsTupleKey (intKind prog w) h args e

noncomputable def tHash (prog : Program) (w : World) : TKey -> Int
  | .num s p q => reduceHash (Builtin.Tuple.tupleHashOf [hashStr w (S "num"), tupleKeyHash (intKind prog w) [], hashInt s, tupleKeyHash (intKind prog w) [p, q]])
  | .oth op args s d => reduceHash (Builtin.Tuple.tupleHashOf [hashStr w (S op), tupleKeyHash (intKind prog w) args, hashInt s, hashInt d])
noncomputable def tDraws : TKey -> Nat
  | .num _ _ _ => 7
  | .oth _ args _ _ => args.length + 5

theorem IsTup.det {h : Heap} {a : Addr} {x y : Array Value} (hx : IsTup h a x) (hy : IsTup h a y) : x = y := by
  obtain ⟨o, ho, _, n, hd⟩ := hx
  obtain ⟨o', ho', _, n', hd'⟩ := hy
  obtain rfl : o = o' := Option.some.inj (ho.symm.trans ho')
  rw [hd] at hd'
  injection hd'

theorem TIs.inj {h : Heap} {a : Addr} {x y : TKey} (hx : TIs prog w h x a) (hy : TIs prog w h y a) : x = y := by
  cases x with
  | num s p q =>
    obtain ⟨t, e, u, v, i, k1, k2⟩ := hx
    cases y with
    | num s' p' q' =>
      obtain ⟨t', e', u', v', i', k1', k2'⟩ := hy
      have := IsTup.det i i'
      simp only [Array.mk.injEq, List.cons.injEq, Value.str.injEq, Value.ref.injEq, Value.int.injEq, and_true, true_and] at this
      obtain ⟨_, rfl, ⟨rfl, _⟩, rfl⟩ := this
      have := k2.inj k2'
      simp only [List.cons.injEq, and_true] at this
      obtain ⟨rfl, rfl⟩ := this
      rfl
    | oth op args s' d =>
      obtain ⟨_, t', e', u', v', i', _⟩ := hy
      have := IsTup.det i i'
      simp at this
  | oth op args s d =>
    obtain ⟨n, t, e, u, v, i, k1⟩ := hx
    cases y with
    | num s' p' q' =>
      obtain ⟨t', e', u', v', i', _, _⟩ := hy
      have := IsTup.det i i'
      simp at this
    | oth op' args' s' d' =>
      obtain ⟨n', t', e', u', v', i', k1'⟩ := hy
      have := IsTup.det i i'
      simp only [Array.mk.injEq, List.cons.injEq, Value.str.injEq, Value.ref.injEq, Value.int.injEq, and_true, true_and] at this
      obtain ⟨⟨ho, _⟩, rfl, ⟨rfl, _⟩, rfl, _⟩ := this
      rw [S_inj ho, k1.inj k1']

theorem IsTup.keepsD {h h' : Heap} {a d : Addr} {o : Obj} {es ep} {x : Array Value} (t : IsTup h a x) (ho : h.get? d = some o) (hd : o.data = .dict es ep) (hs : Heap.SameBut d h h') : IsTup h' a x := by
  obtain ⟨o', ho', c, n, hd'⟩ := t
  have hne : a ≠ d := by
    rintro rfl
    obtain rfl : o' = o := Option.some.inj (ho'.symm.trans ho)
    rw [hd] at hd'; exact nomatch hd'
  exact ⟨o', (hs.2 a hne).trans ho', c, n, hd'⟩

theorem TIs.keeps {h h' : Heap} {k : TKey} {a d : Addr} {o : Obj} {es ep} (x : TIs prog w h k a) (ho : h.get? d = some o) (hd : o.data = .dict es ep) (hs : Heap.SameBut d h h') : TIs prog w h' k a := by
  cases k with
  | num s p q =>
    obtain ⟨t, e, u, v, i, k1, k2⟩ := x
    exact ⟨t, e, u, v, IsTup.keepsD i ho hd hs, k1.keeps ho hd hs, k2.keeps ho hd hs⟩
  | oth op args s d' =>
    obtain ⟨n, t, e, u, v, i, k1⟩ := x
    exact ⟨n, t, e, u, v, IsTup.keepsD i ho hd hs, k1.keeps ho hd hs⟩

variable {A : Around} {E : Value -> Shared -> Prop} {s : Shared}

theorem isTup_typeIs {a : Addr} {x : Array Value} (t : IsTup s.heap a x) : s.TypeIs (.ref a) "tuple" := let ⟨o, ho, hc, _⟩ := t; ⟨o, ho, hc⟩

theorem quietT {ks : List Int} {a : Addr} {n : Nat} {Q : Bool -> Shared -> Prop} (hk : IsTupleKey (intKind prog w) s.heap ks a) (h : Q true s) : wpAny (model prog w) A (eqIsQuiet (n + 1) (.ref a)) Q E s := by
  have hT := hk.typeIs
  obtain ⟨o, items, m, ho, _, hd, hi⟩ := hk
  unfold eqIsQuiet
  refine wpAny_bind (wpAny_specialOf hT F.slot_tuple_eq.lookup ?_)
  show wpAny _ _ (isInstance (.ref a) (.type "tuple") >>= _) _ _ s
  refine wpAny_bind (wpAny_isInstance hT isSubtype_tuple_tuple ?_)
  simp only [Bool.not_true, Bool.false_eq_true, if_false]
  refine wpAny_bind (wpAny_seqItems ho hd ?_)
  refine wpAny_bind ?_
  show wpAny _ _ (forIn items _ _) _ _ s
  rw [← Array.forIn_toList]
  refine wpAny_forIn_list _ (fun rest r s' => r.1 = none ∧ s' = s ∧ ∀ v ∈ rest, carriedByValue v = true) _ ?_ ?_ _ _ ⟨rfl, rfl, hi.byValue⟩
  · rintro v rest r s' ⟨hr, rfl, hall⟩
    rw [eqIsQuiet_byValue _ (hall v List.mem_cons_self)]
    refine wpAny_bind (wpAny_pure ?_)
    simp only [Bool.not_true, Bool.false_eq_true, if_false]
    exact wpAny_pure ⟨rfl, rfl, fun u hu' => hall u (List.mem_cons_of_mem _ hu')⟩
  · rintro ⟨r1, r2⟩ s' ⟨hr, rfl, _⟩
    simp only at hr
    subst hr
    exact wpAny_pure h

inductive KItem (prog : Program) (w : World) (h : Heap) : Value -> Prop
  | str (x : Str) (t : Tok) : KItem prog w h (.str x t)
  | int (i : Int) (t : Tok) : KItem prog w h (.int i t)
  | tup {ks : List Int} {a : Addr} : IsTupleKey (intKind prog w) h ks a -> KItem prog w h (.ref a)

theorem quietI {v : Value} {n : Nat} {Q : Bool -> Shared -> Prop} (hv : KItem prog w s.heap v) (h : Q true s) : wpAny (model prog w) A (eqIsQuiet (n + 1) v) Q E s := by
  cases hv with
  | str x t => rw [eqIsQuiet_byValue _ rfl]; exact wpAny_pure h
  | int i t => rw [eqIsQuiet_byValue _ rfl]; exact wpAny_pure h
  | tup k => exact quietT k h

theorem quietK {a : Addr} {its : Array Value} {Q : Bool -> Shared -> Prop} (ht : IsTup s.heap a its) (hi : ∀ v ∈ its.toList, KItem prog w s.heap v) (h : Q true s) : wpAny (model prog w) A (eqIsQuiet 8 (.ref a)) Q E s := by
  have hT := isTup_typeIs ht
  obtain ⟨o, ho, _, m, hd⟩ := ht
  unfold eqIsQuiet
  refine wpAny_bind (wpAny_specialOf hT F.slot_tuple_eq.lookup ?_)
  show wpAny _ _ (isInstance (.ref a) (.type "tuple") >>= _) _ _ s
  refine wpAny_bind (wpAny_isInstance hT isSubtype_tuple_tuple ?_)
  simp only [Bool.not_true, Bool.false_eq_true, if_false]
  refine wpAny_bind (wpAny_seqItems ho hd ?_)
  refine wpAny_bind ?_
  show wpAny _ _ (forIn its _ _) _ _ s
  rw [← Array.forIn_toList]
  refine wpAny_forIn_list _ (fun rest r s' => r.1 = none ∧ s' = s ∧ ∀ v ∈ rest, KItem prog w s.heap v) _ ?_ ?_ _ _ ⟨rfl, rfl, hi⟩
  · rintro v rest r s' ⟨hr, rfl, hall⟩
    refine wpAny_bind (quietI (hall v List.mem_cons_self) ?_)
    simp only [Bool.not_true, Bool.false_eq_true, if_false]
    exact wpAny_pure ⟨rfl, rfl, fun u hu' => hall u (List.mem_cons_of_mem _ hu')⟩
  · rintro ⟨r1, r2⟩ s' ⟨hr, rfl, _⟩
    simp only at hr
    subst hr
    exact wpAny_pure h

theorem TIs.quiet {k : TKey} {a : Addr} {Q : Bool -> Shared -> Prop} (x : TIs prog w s.heap k a) (h : Q true s) : wpAny (model prog w) A (eqIsQuiet 8 (.ref a)) Q E s := by
  cases k with
  | num s' p q =>
    obtain ⟨t, e, u, v, i, k1, k2⟩ := x
    refine quietK (prog := prog) (w := w) i (fun y hy => ?_) h
    simp only [List.mem_cons, List.not_mem_nil, or_false] at hy
    rcases hy with rfl | rfl | rfl | rfl
    · exact .str _ _
    · exact .tup k1
    · exact .int _ _
    · exact .tup k2
  | oth op args s' d =>
    obtain ⟨n, t, e, u, v, i, k1⟩ := x
    refine quietK (prog := prog) (w := w) i (fun y hy => ?_) h
    simp only [List.mem_cons, List.not_mem_nil, or_false] at hy
    rcases hy with rfl | rfl | rfl | rfl
    · exact .str _ _
    · exact .tup k1
    · exact .int _ _
    · exact .int _ _

theorem hash4 {a : Addr} {v1 v2 v3 v4 : Value} {h1 h2 h3 h4 : Int} {d1 d2 d3 d4 : Nat} {Q : Int -> Shared -> Prop} (hu : A.units < cLine) (ht : IsTup s.heap a #[v1, v2, v3, v4])
    (r1 : ∀ (A' : Around) (E' : Value -> Shared -> Prop) (s' : Shared) (Q' : Int -> Shared -> Prop), A'.units ≤ A.units + 4 -> s'.heap = s.heap -> Q' h1 { s' with toks := s'.toks + d1 } -> wpAny (model prog w) A' (pyHash v1) Q' E' s')
    (r2 : ∀ (A' : Around) (E' : Value -> Shared -> Prop) (s' : Shared) (Q' : Int -> Shared -> Prop), A'.units ≤ A.units + 4 -> s'.heap = s.heap -> Q' h2 { s' with toks := s'.toks + d2 } -> wpAny (model prog w) A' (pyHash v2) Q' E' s')
    (r3 : ∀ (A' : Around) (E' : Value -> Shared -> Prop) (s' : Shared) (Q' : Int -> Shared -> Prop), A'.units ≤ A.units + 4 -> s'.heap = s.heap -> Q' h3 { s' with toks := s'.toks + d3 } -> wpAny (model prog w) A' (pyHash v3) Q' E' s')
    (r4 : ∀ (A' : Around) (E' : Value -> Shared -> Prop) (s' : Shared) (Q' : Int -> Shared -> Prop), A'.units ≤ A.units + 4 -> s'.heap = s.heap -> Q' h4 { s' with toks := s'.toks + d4 } -> wpAny (model prog w) A' (pyHash v4) Q' E' s')
    (h : Q (reduceHash (Builtin.Tuple.tupleHashOf [h1, h2, h3, h4])) { s with toks := s.toks + (d1 + d2 + d3 + d4 + 1) }) : wpAny (model prog w) A (pyHash (.ref a)) Q E s := by
  have hT := isTup_typeIs ht
  obtain ⟨o, ho, _, n, hd⟩ := ht
  unfold pyHash
  refine wpAny_bind (wpAny_cRoomFor_or (.inr hu) ?_)
  refine wpAny_bind (wpAny_specialOf hT F.slot_tuple_hash.lookup ?_)
  show wpAny _ _ (if (some (Value.builtin "tuple.__hash__") == some Value.none) = true then _ else _) Q E s
  rw [if_neg (by rw [beq_builtin_none]; exact Bool.false_ne_true)]
  refine wpAny_bind (wpAny_specialOf hT F.slot_tuple_hash.lookup ?_)
  show wpAny _ _ (callSpecialIfBoundUnlessNone? (.ref a) "__hash__" _ >>= _) Q E s
  refine wpAny_bind (wpAny_callSpecialIfBoundUnlessNone?_slot hT F.slot_tuple_hash (wpAny_call_entry F.slot_tuple_hash hT F.entry_tuple_hash ?_ (F.args_tuple_hash_1 _)))
  show wpAny _ _ (Builtin.Tuple.tupleItemsOf (.ref a) >>= _) _ _ s
  refine wpAny_bind (wpAny_tupleItemsOf ho hd ?_)
  refine wpAny_bind ?_
  rw [← Array.forIn_toList]
  show wpAny _ _ (forIn [v1, v2, v3, v4] _ _) _ _ s
  simp only [List.forIn_cons, List.forIn_nil]
  refine wpAny_bind (wpAny_bind (r1 _ _ _ _ (by simp) rfl ?_))
  refine wpAny_pure ?_
  dsimp only
  refine wpAny_bind (wpAny_bind (r2 _ _ _ _ (by simp) rfl ?_))
  refine wpAny_pure ?_
  dsimp only
  refine wpAny_bind (wpAny_bind (r3 _ _ _ _ (by simp) rfl ?_))
  refine wpAny_pure ?_
  dsimp only
  refine wpAny_bind (wpAny_bind (r4 _ _ _ _ (by simp) rfl ?_))
  refine wpAny_pure ?_
  dsimp only
  refine wpAny_pure ?_
  show wpAny _ _ (retInt (Builtin.Tuple.tupleHashOf [h1, h2, h3, h4])) _ _ _
  refine wpAny_ret_mkInt ?_
  show wpAny _ _ (if (decide (-(2 : Int) ^ 63 ≤ Builtin.Tuple.tupleHashOf [h1, h2, h3, h4]) && decide (Builtin.Tuple.tupleHashOf [h1, h2, h3, h4] < 2 ^ 63)) = true then _ else _) Q E _
  unfold reduceHash at h
  have et : s.toks + d1 + d2 + d3 + d4 + 1 = s.toks + (d1 + d2 + d3 + d4 + 1) := by omega
  by_cases hr : (decide (-(2 : Int) ^ 63 ≤ Builtin.Tuple.tupleHashOf [h1, h2, h3, h4]) && decide (Builtin.Tuple.tupleHashOf [h1, h2, h3, h4] < 2 ^ 63)) = true
  · rw [if_pos hr]
    rw [if_pos hr] at h
    exact wpAny_pure (by dsimp only; rw [et]; exact h)
  · rw [if_neg hr]
    rw [if_neg hr] at h
    exact wpAny_bind (wpAny_rule (wpAny_pure (by dsimp only; rw [et]; exact h)))

theorem IsTupleKey.atH {h h' : Heap} {ks : List Int} {a : Addr} (x : IsTupleKey (intKind prog w) h ks a) (e : h' = h) : IsTupleKey (intKind prog w) h' ks a := e ▸ x

theorem TIs.pyHash {k : TKey} {a : Addr} {Q : Int -> Shared -> Prop} (hu : A.units + 8 < cLine) (x : TIs prog w s.heap k a) (h : Q (tHash prog w k) { s with toks := s.toks + tDraws k }) : wpAny (model prog w) A (PySem.pyHash (.ref a)) Q E s := by
  cases k with
  | num s' p q =>
    obtain ⟨t, e, u, v, i, k1, k2⟩ := x
    refine hash4 (d1 := 1) (d2 := 1) (d3 := 1) (d4 := 3) (by omega) i (fun A' E' s' Q' hA he hq => wpAny_pyHash_str hq)
      (fun A' E' s' Q' hA he hq => wpAny_pyHash_tuple (by omega) (IsTupleKey.atH k1 he) hq) (fun A' E' s' Q' hA he hq => wpAny_pyHash_int hq)
      (fun A' E' s' Q' hA he hq => wpAny_pyHash_tuple (by omega) (IsTupleKey.atH k2 he) hq) h
  | oth op args s' d =>
    obtain ⟨n, t, e, u, v, i, k1⟩ := x
    refine hash4 (d1 := 1) (d2 := args.length + 1) (d3 := 1) (d4 := 1) (by omega) i (fun A' E' s' Q' hA he hq => wpAny_pyHash_str hq)
      (fun A' E' s' Q' hA he hq => wpAny_pyHash_tuple (by omega) (IsTupleKey.atH k1 he) hq) (fun A' E' s' Q' hA he hq => wpAny_pyHash_int hq)
      (fun A' E' s' Q' hA he hq => wpAny_pyHash_int hq) ?_
    rw [show 1 + (args.length + 1) + 1 + 1 + 1 = args.length + 5 by omega]
    exact h

def ECmp (prog : Program) (w : World) (h : Heap) (U : Nat) (x y : Value) (b : Bool) : Prop :=
  ∀ (A' : Around) (E' : Value -> Shared -> Prop) (s' : Shared) (Q' : Bool -> Shared -> Prop), A'.units ≤ U -> s'.heap = h -> Q' b s' -> wpAny (model prog w) A' (PySem.eqBool x y) Q' E' s'

theorem eq4 {a b : Addr} {x1 x2 x3 x4 y1 y2 y3 y4 : Value} {b1 b2 b3 b4 : Bool} {P : Fin -> Shared -> Prop} (hx : IsTup s.heap a #[x1, x2, x3, x4]) (hy : IsTup s.heap b #[y1, y2, y3, y4])
    (r1 : ECmp prog w s.heap A.units x1 y1 b1) (r2 : b1 = true -> ECmp prog w s.heap A.units x2 y2 b2) (r3 : b1 = true -> ECmp prog w s.heap A.units x3 y3 b3) (r4 : b1 = true -> ECmp prog w s.heap A.units x4 y4 b4)
    (h : P (.done (.ret (.bool (b1 && b2 && b3 && b4)))) s) : wpAny (model prog w) A (Builtin.«tuple.__eq__» ⟨[.ref a, .ref b], []⟩) P E s := by
  have hTb := isTup_typeIs hy
  obtain ⟨oa, hoa, _, na, hda⟩ := hx
  obtain ⟨ob, hob, _, nb, hdb⟩ := hy
  show wpAny _ _ (isInstance (.ref b) (.type "tuple") >>= _) _ _ s
  refine wpAny_bind (wpAny_isInstance hTb isSubtype_tuple_tuple ?_)
  simp only [Bool.not_true, Bool.false_eq_true, if_false]
  refine wpAny_bind (wpAny_tupleItemsOf hoa hda ?_)
  refine wpAny_bind (wpAny_tupleItemsOf hob hdb ?_)
  refine wpAny_bind ?_
  show wpAny _ _ (forIn [(x1, y1), (x2, y2), (x3, y3), (x4, y4)] _ _) _ _ s
  simp only [List.forIn_cons, List.forIn_nil]
  refine wpAny_bind (wpAny_bind (r1 _ _ _ _ (Nat.le_refl _) rfl ?_))
  cases b1 with
  | false =>
    simp only [Bool.not_false, if_true]
    exact wpAny_bind (wpAny_pure (wpAny_pure (wpAny_pure (wpAny_pure h))))
  | true =>
  simp only [Bool.not_true, Bool.false_eq_true, if_false]
  refine wpAny_pure (wpAny_bind (wpAny_bind (r2 rfl _ _ _ _ (Nat.le_refl _) rfl ?_)))
  cases b2 with
  | false =>
    simp only [Bool.not_false, if_true]
    exact wpAny_bind (wpAny_pure (wpAny_pure (wpAny_pure (wpAny_pure h))))
  | true =>
  simp only [Bool.not_true, Bool.false_eq_true, if_false]
  refine wpAny_pure (wpAny_bind (wpAny_bind (r3 rfl _ _ _ _ (Nat.le_refl _) rfl ?_)))
  cases b3 with
  | false =>
    simp only [Bool.not_false, if_true]
    exact wpAny_bind (wpAny_pure (wpAny_pure (wpAny_pure (wpAny_pure h))))
  | true =>
  simp only [Bool.not_true, Bool.false_eq_true, if_false]
  refine wpAny_pure (wpAny_bind (wpAny_bind (r4 rfl _ _ _ _ (Nat.le_refl _) rfl ?_)))
  cases b4 with
  | false =>
    simp only [Bool.not_false, if_true]
    exact wpAny_bind (wpAny_pure (wpAny_pure (wpAny_pure (wpAny_pure h))))
  | true =>
  simp only [Bool.not_true, Bool.false_eq_true, if_false]
  exact wpAny_pure (wpAny_pure (wpAny_pure h))

theorem ecmp_str {h : Heap} {U : Nat} {x y : Str} {t u : Tok} : ECmp prog w h U (.str x t) (.str y u) (decide (x = y)) := fun V V V V V V q =>
  (PySem.strKind prog w).eqBool (a := x) (b := y) (by simp [PySem.strKind, Value.isStrOf]) (by simp [PySem.strKind, Value.isStrOf]) q
theorem ecmp_int {h : Heap} {U : Nat} {x y : Int} {t u : Tok} : ECmp prog w h U (.int x t) (.int y u) (decide (x = y)) := fun V V V V V V q =>
  (intKind prog w).eqBool (a := x) (b := y) (by simp [intKind, Value.isInt]) (by simp [intKind, Value.isInt]) q
theorem ecmp_tup {h : Heap} {U : Nat} {x y : List Int} {a b : Addr} (hU : U < cLine) (hx : IsTupleKey (intKind prog w) h x a) (hy : IsTupleKey (intKind prog w) h y b) : ECmp prog w h U (.ref a) (.ref b) (decide (x = y)) :=
  fun V V V V hA e q => wpAny_eqBool_tuple (Nat.lt_of_le_of_lt hA hU) (IsTupleKey.atH hx e) (IsTupleKey.atH hy e) q

theorem TIs.eqTree {x y : TKey} {a b : Addr} {P : Fin -> Shared -> Prop} (hu : A.units < cLine) (hx : TIs prog w s.heap x a) (hy : TIs prog w s.heap y b) (h : P (.done (.ret (.bool (decide (x = y))))) s) :
    wpAny (model prog w) A (Builtin.«tuple.__eq__» ⟨[.ref a, .ref b], []⟩) P E s := by
  cases x with
  | num s1 p q =>
    obtain ⟨t, e, u, v, i, k1, k2⟩ := hx
    cases y with
    | num s2 p' q' =>
      obtain ⟨t', e', u', v', i', k1', k2'⟩ := hy
      refine eq4 i i' ecmp_str (fun V => ecmp_tup hu k1 k1') (fun V => ecmp_int) (fun V => ecmp_tup hu k2 k2') ?_
      rw [show (decide (S "num" = S "num") && decide (([] : List Int) = []) && decide (s1 = s2) && decide ([p, q] = [p', q'])) = decide (TKey.num s1 p q = TKey.num s2 p' q') by
        simp only [decide_true, Bool.true_and, List.cons.injEq, and_true, TKey.num.injEq, Bool.decide_and]]
      exact h
    | oth op args s2 d =>
      obtain ⟨n, t', e', u', v', i', k1'⟩ := hy
      have hne : ¬ S "num" = S op := fun q => n (S_inj q).symm
      refine eq4 (b2 := true) (b3 := true) (b4 := true) i i' ecmp_str (fun q => ?_) (fun q => ?_) (fun q => ?_) ?_
      · simp [hne] at q
      · simp [hne] at q
      · simp [hne] at q
      · rw [show (decide (S "num" = S op) && true && true && true) = decide (TKey.num s1 p q = TKey.oth op args s2 d) by simp [hne]]
        exact h
  | oth op args s1 d =>
    obtain ⟨n, t, e, u, v, i, k1⟩ := hx
    cases y with
    | num s2 p' q' =>
      obtain ⟨t', e', u', v', i', k1', k2'⟩ := hy
      have hne : ¬ S op = S "num" := fun q => n (S_inj q)
      refine eq4 (b2 := true) (b3 := true) (b4 := true) i i' ecmp_str (fun q => ?_) (fun q => ?_) (fun q => ?_) ?_
      · simp [hne] at q
      · simp [hne] at q
      · simp [hne] at q
      · rw [show (decide (S op = S "num") && true && true && true) = decide (TKey.oth op args s1 d = TKey.num s2 p' q') by simp [hne]]
        exact h
    | oth op' args' s2 d' =>
      obtain ⟨n', t', e', u', v', i', k1'⟩ := hy
      refine eq4 i i' ecmp_str (fun V => ecmp_tup hu k1 k1') (fun V => ecmp_int) (fun V => ecmp_int) ?_
      rw [show (decide (S op = S op') && decide (args = args') && decide (s1 = s2) && decide (d = d')) = decide (TKey.oth op args s1 d = TKey.oth op' args' s2 d') by
        have : (S op = S op') ↔ op = op' := ⟨S_inj, fun q => by rw [q]⟩
        simp only [this, TKey.oth.injEq, Bool.decide_and, Bool.and_assoc]]
      exact h

theorem TIs.typeIs {x : TKey} {a : Addr} (hx : TIs prog w s.heap x a) : s.TypeIs (.ref a) "tuple" := by
  cases x with
  | num s1 p q => obtain ⟨t, e, u, v, i, k1, k2⟩ := hx; exact isTup_typeIs i
  | oth op args s1 d => obtain ⟨n, t, e, u, v, i, k1⟩ := hx; exact isTup_typeIs i

theorem TIs.eqBool {x y : TKey} {a b : Addr} {Q : Bool -> Shared -> Prop} (hu : A.units + 8 < cLine) (hx : TIs prog w s.heap x a) (hy : TIs prog w s.heap y b) (h : Q (decide (x = y)) s) :
    wpAny (model prog w) A (PySem.eqBool (.ref a) (.ref b)) Q E s := by
  unfold PySem.eqBool
  refine wpAny_holding ?_
  show wpAny _ _ (if (Value.ref a == Value.ref b) = true then _ else _) Q E s
  by_cases hab : (Value.ref a == Value.ref b) = true
  · rw [if_pos hab]
    have e : a = b := by have := eq_of_beq hab; injection this
    subst e
    obtain rfl := hx.inj hy
    exact wpAny_bind (wpAny_rule (wpAny_pure (by simpa using h)))
  · rw [if_neg hab]
    exact wpAny_bind (wpAny_richCompare_same_room (op := .Eq) hx.typeIs hy.typeIs F.slot_tuple_eq
      (wpAny_call_entry F.slot_tuple_eq hx.typeIs F.entry_tuple_eq (TIs.eqTree (by simp only [Around.in1_units]; omega) hx hy ⟨_, rfl, (fun e => nomatch e), wpAny_truthy_bool h⟩) (F.args_tuple_eq_2 _ _)) (by omega))

noncomputable def tKind (prog : Program) (w : World) : HeapKind prog w TKey where
  is := TIs prog w
  hash := tHash prog w
  draws := tDraws
  room := fun A => A.units + 8 < cLine
  inj := fun hx hy => hx.inj hy
  keeps := fun x ho hd hs => x.keeps ho hd hs
  pyHash := fun hu hk h => hk.pyHash hu h
  eqBool := fun hu hx hy h => TIs.eqBool hu hx hy h
  quiet := fun hk h => hk.quiet h
end
end
section
noncomputable def fput (x : String) (v : AV) : List (String × AV) -> List (String × AV)
  | [] => [(x, v)]
  | (y, u) :: r => if y = x then (y, v) :: r else (y, u) :: fput x v r

inductive FRel (pv μ : List Addr) (h : Heap) : List (String × AV) -> List DictEntry -> Prop
  | nil : FRel pv μ h [] []
  | cons {x : String} {v : AV} {t : Tok} {hs : Int} {c : Value} {fs : List (String × AV)} {es : List DictEntry} : VRel pv μ h v c -> FRel pv μ h fs es -> FRel pv μ h ((x, v) :: fs) (⟨hs, .str (S x) t, c⟩ :: es)

theorem FRel.kp {pv own μ μ' : List Addr} {h h' : Heap} (G : Kp own μ h μ' h') (W : SepOk pv own h) {l : List (String × AV)} {l' : List DictEntry} (r : FRel pv μ h l l') : FRel pv μ' h' l l' := by
  induction r with
  | nil => exact .nil
  | cons a _ ih => exact .cons (a.kp G W) ih
theorem FRel.grow {pv own μ μ' : List Addr} {h h' : Heap} (G : Grow own μ h μ' h') (W : OwnOk own h) {l : List (String × AV)} {l' : List DictEntry} (r : FRel pv μ h l l') : FRel pv μ' h' l l' := r.kp G.kp W.sep

theorem isStr_S {x y : String} {t : Tok} : (Value.str (S x) t).isStr (S y) = decide (x = y) := by
  show (S x == S y) = decide (x = y)
  by_cases e : x = y
  · subst e; simp
  · rw [decide_eq_false e]
    exact beq_eq_false_iff_ne.mpr fun q => e (S_inj q)

theorem FRel.noRef {pv μ : List Addr} {h : Heap} {l : List (String × AV)} {l' : List DictEntry} (r : FRel pv μ h l l') : l'.any (·.refKey) = false := by
  induction r with
  | nil => rfl
  | cons _ _ ih => rw [List.any_cons, ih]; rfl
theorem FRel.get {pv μ : List Addr} {h : Heap} {x : String} {v : AV} {l : List (String × AV)} {l' : List DictEntry} (r : FRel pv μ h l l') : l.lookup x = some v -> ∃ c, getL (S x) l' = some (some c) ∧ VRel pv μ h v c := by
  induction r with
  | nil => intro e; exact no e
  | @cons y u t hs c fs es r rs ih =>
    intro e
    unfold getL
    rw [List.find?_cons, isStr_S]
    rw [List.lookup_cons] at e
    by_cases q : y = x
    · subst q
      rw [beq_self_eq_true] at e
      cases e
      rw [decide_eq_true rfl]
      exact ⟨c, rfl, r⟩
    · rw [decide_eq_false q]
      rw [show (x == y) = false from beq_eq_false_iff_ne.mpr (Ne.symm q)] at e
      obtain ⟨c', h1, h2⟩ := ih e
      unfold getL at h1
      refine ⟨c', ?_, h2⟩
      dsimp only
      cases hf : List.find? (fun x_1 => x_1.key.isStr (S x)) es with
      | some en => rw [hf] at h1; exact h1
      | none => rw [hf] at h1; dsimp only at h1; split at h1 <;> cases h1
theorem FRel.miss {pv μ : List Addr} {h : Heap} {x : String} : ∀ {l : List (String × AV)} {l' : List DictEntry}, FRel pv μ h l l' -> l.lookup x = none -> getL (S x) l' = some none := by
  intro l l' R e
  have hf : List.find? (fun x_1 => x_1.key.isStr (S x)) l' = none := by
    induction R with
    | nil => rfl
    | @cons y u t hs c fs es r rs ih =>
      rw [List.lookup_cons] at e
      cases hb : x == y with
      | true => rw [hb] at e; cases e
      | false =>
        rw [hb] at e
        rw [List.find?_cons, isStr_S, decide_eq_false (fun q => by rw [q] at hb; simp at hb)]
        exact ih e
  unfold getL
  rw [hf, R.noRef]
  rfl

theorem FRel.put {pv μ : List Addr} {h : Heap} {x : String} {v : AV} {c : Value} {hsh : Int} {t : Tok} (hv : VRel pv μ h v c) {l : List (String × AV)} {l' : List DictEntry} (r : FRel pv μ h l l') : FRel pv μ h (fput x v l) (putL (S x) hsh (.str (S x) t) c l') := by
  induction r with
  | nil => exact .cons hv .nil
  | @cons y u t hs c fs es r rs ih =>
    unfold fput putL
    rw [isStr_S]
    by_cases q : y = x
    · subst q
      rw [if_pos rfl, if_pos (decide_eq_true rfl)]
      exact .cons hv rs
    · rw [if_neg q, if_neg (by rw [decide_eq_false q]; exact Bool.false_ne_true)]
      exact .cons r ih
theorem FRel.length {pv μ : List Addr} {h : Heap} {l : List (String × AV)} {l' : List DictEntry} (r : FRel pv μ h l l') : l.length = l'.length := by
  induction r with
  | nil => rfl
  | cons _ _ ih => exact congrArg (· + 1) ih

inductive TVs (pv μ : List Addr) (h : Heap) : List (TKey × AV) -> List (TKey × Addr × Value) -> Prop
  | nil : TVs pv μ h [] []
  | cons {k : TKey} {v : AV} {c : Value} {a : Addr} {r : List (TKey × AV)} {r' : List (TKey × Addr × Value)} : VRel pv μ h v c -> TVs pv μ h r r' -> TVs pv μ h ((k, v) :: r) ((k, a, c) :: r')
theorem TVs.kp {pv own μ μ' : List Addr} {h h' : Heap} (G : Kp own μ h μ' h') (W : SepOk pv own h) {l : List (TKey × AV)} {l' : List (TKey × Addr × Value)} (r : TVs pv μ h l l') : TVs pv μ' h' l l' := by
  induction r with
  | nil => exact .nil
  | cons a _ ih => exact .cons (a.kp G W) ih

inductive AObj where
  | sd (kvs : List (String × AV))
  | id (kvs : List (Int × AV))
  | td (kvs : List (TKey × AV))
  | lst (xs : List AV)
  | fld (fs : List (String × AV))
  /-- what no value knows -/
  | any
  /-- this one must not change now -/
  | frz (o : AObj)
  deriving Inhabited
noncomputable def thaw : AObj -> AObj
  | .frz o => thaw o
  | o => o
noncomputable def look (σ : List AObj) (i : Nat) : Option AObj := (σ[i]?).map thaw

section
variable (prog : Program) (w : World)

def TOut (pv μ : List Addr) (h : Heap) (a : Addr) : Prop := Off pv μ a ∧ ∀ vs, IsTup h a vs -> ∀ x, Value.ref x ∈ vs.toList -> Off pv μ x
noncomputable def ORel (pv μ : List Addr) (h : Heap) : AObj -> Addr -> Prop
  | .sd kvs, a => ∃ l, h.DictOf (PySem.strKind prog w) a l ∧ KVs S pv μ h kvs l
  | .id kvs, a => ∃ l, h.DictOf (intKind prog w) a l ∧ KVs (fun k => k) pv μ h kvs l
  | .td kvs, a => ∃ l, h.DictOfH (tKind prog w) a l ∧ TVs pv μ h kvs l ∧ ∀ x ∈ l, TOut pv μ h x.2.1
  | .lst xs, a => ∃ (cs : List Value) (n : Nat), h.get? a = some (listOf cs.toArray n) ∧ VRels pv μ h xs cs
  | .fld fs, a => ∃ es n, h.get? a = some (dictOf es n) ∧ FRel pv μ h fs es
  | .any, _ => True
  | .frz o, a => ORel pv μ h o a
theorem ORel.thaw {prog : Program} {w : World} {pv μ : List Addr} {h : Heap} {a : Addr} : ∀ {o : AObj}, ORel prog w pv μ h o a -> ORel prog w pv μ h (thaw o) a
  | .sd _, r => r
  | .id _, r => r
  | .td _, r => r
  | .lst _, r => r
  | .fld _, r => r
  | .any, r => r
  | .frz o, r => ORel.thaw (o := o) r

variable {prog w}
theorem tup_keeps {pv own μ μ' : List Addr} {h h' : Heap} (G : Kp own μ h μ' h') (W : SepOk pv own h) {a : Addr} {x : Array Value} (n : Off pv μ a) (t : IsTup h a x) : IsTup h' a x := by
  have w' := W.tup n.2 t
  obtain ⟨o, ho, hc, hr⟩ := t
  exact ⟨o, G.keep a o ho n.1 w', hc, hr⟩
theorem tk_keeps {pv own μ μ' : List Addr} {h h' : Heap} (G : Kp own μ h μ' h') (W : SepOk pv own h) {ks : List Int} {a : Addr} (n : Off pv μ a) (t : IsTupleKey (intKind prog w) h ks a) : IsTupleKey (intKind prog w) h' ks a := by
  obtain ⟨o, its, m, ho, hc, hd, hi⟩ := t
  have w' : a ∉ own := W.tup n.2 ⟨o, ho, hc, m, hd⟩
  exact ⟨o, its, m, G.keep a o ho n.1 w', hc, hd, hi⟩
theorem tis_keeps {pv own μ μ' : List Addr} {h h' : Heap} (G : Kp own μ h μ' h') (W : SepOk pv own h) {k : TKey} {a : Addr} (n : TOut pv μ h a) (t : TIs prog w h k a) : TIs prog w h' k a := by
  cases k with
  | num s p q => obtain ⟨t, e, u, v, i, k1, k2⟩ := t; exact ⟨t, e, u, v, tup_keeps G W n.1 i, tk_keeps G W (n.2 _ i e (by simp)) k1, tk_keeps G W (n.2 _ i v (by simp)) k2⟩
  | oth op args s d => obtain ⟨m, t, e, u, v, i, k1⟩ := t; exact ⟨m, t, e, u, v, tup_keeps G W n.1 i, tk_keeps G W (n.2 _ i e (by simp)) k1⟩
theorem tout_keeps {pv own μ μ' : List Addr} {h h' : Heap} (G : Kp own μ h μ' h') (W : SepOk pv own h) {k : TKey} {a : Addr} (n : TOut pv μ h a) (t : TIs prog w h k a) : TOut pv μ' h' a := by
  have key : ∀ {x : Array Value}, IsTup h a x -> (∀ y, Value.ref y ∈ x.toList -> ∃ o, h.get? y = some o) -> TOut pv μ' h' a := fun {x} i hy => by
    obtain ⟨o, ho, _⟩ := id i
    refine ⟨⟨G.off' ho n.1.1, n.1.2⟩, fun vs i' y hy' => ?_⟩
    have := IsTup.det (tup_keeps G W n.1 i) i'
    subst this
    obtain ⟨oy, ey⟩ := hy y hy'
    exact ⟨G.off' ey (n.2 _ i y hy').1, (n.2 _ i y hy').2⟩
  cases k with
  | num s p q =>
    obtain ⟨t, e, u, v, i, ⟨o1, _, _, e1, _⟩, ⟨o2, _, _, e2, _⟩⟩ := t
    refine key i fun y hy => ?_
    simp at hy
    rcases hy with rfl | rfl
    · exact ⟨o1, e1⟩
    · exact ⟨o2, e2⟩
  | oth op args s d =>
    obtain ⟨m, t, e, u, v, i, ⟨o1, _, _, e1, _⟩⟩ := t
    refine key i fun y hy => ?_
    simp at hy
    subst hy
    exact ⟨o1, e1⟩

theorem ORel.kp {pv own μ μ' : List Addr} {h h' : Heap} (G : Kp own μ h μ' h') (W : SepOk pv own h) {a : Addr} (e : ∀ o, h.get? a = some o -> h'.get? a = some o) {o : AObj} (r : ORel prog w pv μ h o a) : ORel prog w pv μ' h' o a := by
  induction o with
  | sd => obtain ⟨l, ⟨o, es, ep, ho, r⟩, k⟩ := r; exact ⟨l, ⟨o, es, ep, e o ho, r⟩, k.kp G W⟩
  | id => obtain ⟨l, ⟨o, es, ep, ho, r⟩, k⟩ := r; exact ⟨l, ⟨o, es, ep, e o ho, r⟩, k.kp G W⟩
  | td => obtain ⟨l, ⟨o, es, ep, ho, r1, r2, r3, r4, r5⟩, k, f⟩ := r; exact ⟨l, ⟨o, es, ep, e o ho, r1, r2, r3, fun x hx => tis_keeps G W (f x hx) (r4 x hx), r5⟩, k.kp G W, fun x hx => tout_keeps G W (f x hx) (r4 x hx)⟩
  | lst => obtain ⟨cs, n, ho, k⟩ := r; exact ⟨cs, n, e _ ho, k.kp G W⟩
  | fld => obtain ⟨es, n, ho, k⟩ := r; exact ⟨es, n, e _ ho, k.kp G W⟩
  | any => exact trivial
  | frz o ih => exact ih r
theorem ORel.grow {pv own μ μ' : List Addr} {h h' : Heap} (G : Grow own μ h μ' h') (W : OwnOk own h) {a : Addr} (e : ∀ o, h.get? a = some o -> h'.get? a = some o) {o : AObj} (r : ORel prog w pv μ h o a) : ORel prog w pv μ' h' o a := r.kp G.kp W.sep e
end
theorem FRel.prv {pv pv' μ : List Addr} {h : Heap} (s : ∀ a ∈ pv', a ∈ pv ∨ h.get? a = none) {l : List (String × AV)} {l' : List DictEntry} (r : FRel pv μ h l l') : FRel pv' μ h l l' := by
  induction r with
  | nil => exact .nil
  | cons a _ ih => exact .cons (a.prv s) ih
theorem TVs.prv {pv pv' μ : List Addr} {h : Heap} (s : ∀ a ∈ pv', a ∈ pv ∨ h.get? a = none) {l : List (TKey × AV)} {l' : List (TKey × Addr × Value)} (r : TVs pv μ h l l') : TVs pv' μ h l l' := by
  induction r with
  | nil => exact .nil
  | cons a _ ih => exact .cons (a.prv s) ih
theorem Off.prv {pv pv' μ : List Addr} {h : Heap} {a : Addr} {o : Obj} (s : ∀ a ∈ pv', a ∈ pv ∨ h.get? a = none) (e : h.get? a = some o) (n : Off pv μ a) : Off pv' μ a := ⟨n.1, fun q => by
  rcases s a q with z | z
  · exact n.2 z
  · rw [e] at z; cases z⟩
theorem TOut.prv {prog : Program} {w : World} {pv pv' μ : List Addr} {h : Heap} {k : TKey} {a : Addr} (s : ∀ a ∈ pv', a ∈ pv ∨ h.get? a = none) (t : TIs prog w h k a) (n : TOut pv μ h a) : TOut pv' μ h a := by
  have key : ∀ {x : Array Value}, IsTup h a x -> (∀ y, Value.ref y ∈ x.toList -> ∃ o, h.get? y = some o) -> TOut pv' μ h a := fun {x} i hy => by
    obtain ⟨o, ho, _⟩ := id i
    refine ⟨n.1.prv s ho, fun vs i' y hy' => ?_⟩
    have := IsTup.det i i'
    subst this
    obtain ⟨oy, ey⟩ := hy y hy'
    exact (n.2 _ i y hy').prv s ey
  cases k with
  | num s' p q =>
    obtain ⟨t, e, u, v, i, ⟨o1, _, _, e1, _⟩, ⟨o2, _, _, e2, _⟩⟩ := t
    refine key i fun y hy => ?_
    simp at hy
    rcases hy with rfl | rfl
    · exact ⟨o1, e1⟩
    · exact ⟨o2, e2⟩
  | oth op args s' d =>
    obtain ⟨m, t, e, u, v, i, ⟨o1, _, _, e1, _⟩⟩ := t
    refine key i fun y hy => ?_
    simp at hy
    subst hy
    exact ⟨o1, e1⟩
theorem ORel.prv {prog : Program} {w : World} {pv pv' μ : List Addr} {h : Heap} {a : Addr} (s : ∀ a ∈ pv', a ∈ pv ∨ h.get? a = none) {o : AObj} (r : ORel prog w pv μ h o a) : ORel prog w pv' μ h o a := by
  induction o with
  | sd => obtain ⟨l, d, k⟩ := r; exact ⟨l, d, k.prv s⟩
  | id => obtain ⟨l, d, k⟩ := r; exact ⟨l, d, k.prv s⟩
  | td => obtain ⟨l, ⟨o, es, ep, ho, r1, r2, r3, r4, r5⟩, k, f⟩ := r; exact ⟨l, ⟨o, es, ep, ho, r1, r2, r3, r4, r5⟩, k.prv s, fun x hx => (f x hx).prv s (r4 x hx)⟩
  | lst => obtain ⟨cs, n, ho, k⟩ := r; exact ⟨cs, n, ho, k.prv s⟩
  | fld => obtain ⟨es, n, ho, k⟩ := r; exact ⟨es, n, ho, k.prv s⟩
  | any => exact trivial
  | frz o ih => exact ih r
theorem isL {h : Heap} {a : Addr} {cs : Array Value} {n : Nat} (e : h.get? a = some (listOf cs n)) : h.IsList a cs := ⟨_, e, rfl, n, rfl⟩
structure HB where
  hp : Heap
  held : Nat -> Option AObj
  /-- private addresses -/
  prv : List Addr
  /-- what is new lies above -/
  lo : Nat
  lo_ok : sysModules < lo
noncomputable abbrev HB.get? (x : HB) (a : Addr) : Option Obj := x.hp.get? a
structure St (prog : Program) (w : World) (hO : HB) (μ : List Addr) (σ : List AObj) (h : Heap) : Prop where
  len : μ.length = σ.length
  nodup : μ.Nodup
  rel : ∀ (i : Nat) (a : Addr) (o : AObj), μ[i]? = some a -> σ[i]? = some o -> ORel prog w hO.prv μ h o a
  base : ∀ b o, hO.get? b = some o -> h.get? b = some o
  new : ∀ (i : Nat) (a : Addr), μ[i]? = some a -> hO.get? a = none ∨ (∃ o, σ[i]? = some (.frz o)) ∨ σ[i]? = some .any
  ms : hO.lo ≤ h.objs.size
  nm : ∀ a ∈ μ, hO.lo ≤ a
  lt : ∀ a ∈ μ, a < h.objs.size
  held : ∀ (i : Nat) (o : AObj), hO.held i = some o -> σ[i]? = some o ∧ (o = .any ∨ ∃ x, o = .frz x)
  prv : ∀ a ∈ hO.prv, a ∉ μ ∧ hO.get? a = none ∧ a < h.objs.size ∧ hO.lo ≤ a

section
variable {prog : Program} {w : World} {hO : HB} {h h' : Heap} {μ μ' own : List Addr} {σ : List AObj}
theorem St.more (X : St prog w hO μ σ h) (hs : h.objs.size ≤ h'.objs.size) (k : ∀ b o, h.get? b = some o -> h'.get? b = some o) : St prog w hO μ σ h' :=
  have G : Grow [] μ h μ h' := ⟨⟨[], by simp, fun V q => (nomatch q)⟩, hs, fun b o e V V => k b o e⟩
  ⟨X.len, X.nodup, fun i a o h1 h2 => (X.rel i a o h1 h2).grow G (OwnOk.nil h) (k a), fun b o e => k b o (X.base b o e), X.new, Nat.le_trans X.ms hs, X.nm, fun a ha => Nat.lt_of_lt_of_le (X.lt a ha) hs, X.held, fun a ha => let q := X.prv a ha; ⟨q.1, q.2.1, Nat.lt_of_lt_of_le q.2.2.1 hs, q.2.2.2⟩⟩
theorem St.atOwn (X : St prog w hO μ σ h) (W : OwnOk own h) (hs : h.objs.size ≤ h'.objs.size) (off : ∀ a ∈ own, a ∉ μ ∧ hO.get? a = none) (k : ∀ b o, b ∉ own -> h.get? b = some o -> h'.get? b = some o) : St prog w hO μ σ h' :=
  have G : Grow own μ h μ h' := ⟨⟨[], by simp, fun V q => (nomatch q)⟩, hs, fun b o e V n => k b o n e⟩
  ⟨X.len, X.nodup, fun i a o h1 h2 => (X.rel i a o h1 h2).grow G W fun x hx => k a x (fun q => (off a q).1 (List.mem_of_getElem? h1)) hx,
    fun b o e => k b o (fun q => by rw [(off b q).2] at e; exact no e) (X.base b o e), X.new, Nat.le_trans X.ms hs, X.nm, fun a ha => Nat.lt_of_lt_of_le (X.lt a ha) hs, X.held, fun a ha => let q := X.prv a ha; ⟨q.1, q.2.1, Nat.lt_of_lt_of_le q.2.2.1 hs, q.2.2.2⟩⟩
theorem List.nodup_snoc {α : Type} {l : List α} {a : α} (h : l.Nodup) (n : a ∉ l) : (l ++ [a]).Nodup := by
  rw [List.nodup_append]
  exact ⟨h, by simp, fun x hx y hy => by simp at hy; subst hy; rintro rfl; exact n hx⟩
theorem get_size (h : Heap) {a : Addr} (q : h.objs.size ≤ a) : h.get? a = none := by
  cases e : h.get? a with
  | none => rfl
  | some o => exact absurd (Heap.lt_size e) (Nat.not_lt.mpr q)
theorem St.adopt (X : St prog w hO μ σ h) {a : Addr} {o : AObj} (G : Grow [] μ h (μ ++ [a]) h') (k : ∀ b x, h.get? b = some x -> h'.get? b = some x) (ha : h.objs.size ≤ a) (hl : a < h'.objs.size) (R : ORel prog w hO.prv (μ ++ [a]) h' o a) : St prog w hO (μ ++ [a]) (σ ++ [o]) h' := by
  have nm : a ∉ μ := fun q => Nat.lt_irrefl _ (Nat.lt_of_lt_of_le (X.lt a q) ha)
  refine ⟨by simp [X.len], List.nodup_snoc X.nodup nm, fun i b o' h1 h2 => ?_, fun b o e => k b o (X.base b o e), fun i b hb => ?_, Nat.le_trans X.ms G.size, fun q hq => ?_, fun b hb => ?_, fun i x e => ?_, fun b hb => ?_⟩
  · by_cases q : i < μ.length
    · rw [List.getElem?_append_left q] at h1
      rw [List.getElem?_append_left (X.len ▸ q)] at h2
      exact (X.rel i b o' h1 h2).grow G (OwnOk.nil h) fun x hx => k _ _ hx
    · have lt := (List.getElem?_eq_some_iff.mp h1).1
      rw [List.length_append, List.length_singleton] at lt
      obtain rfl : i = μ.length := by omega
      rw [List.getElem?_concat_length] at h1
      rw [X.len, List.getElem?_concat_length] at h2
      cases h1; cases h2
      exact R
  · by_cases q : i < μ.length
    · rw [List.getElem?_append_left q] at hb
      rcases X.new i b hb with q' | ⟨o', q'⟩ | q'
      · exact .inl q'
      · exact .inr (.inl ⟨o', by rw [List.getElem?_append_left (X.len ▸ q)]; exact q'⟩)
      · exact .inr (.inr (by rw [List.getElem?_append_left (X.len ▸ q)]; exact q'))
    · have lt := (List.getElem?_eq_some_iff.mp hb).1
      rw [List.length_append, List.length_singleton] at lt
      obtain rfl : i = μ.length := by omega
      rw [List.getElem?_concat_length] at hb
      cases hb
      refine .inl ?_
      cases e : hO.get? a with
      | none => rfl
      | some o => exact absurd (Heap.lt_size (X.base _ o e)) (Nat.not_lt.mpr ha)
  · rcases List.mem_append.mp hq with z | z
    · exact X.nm q z
    · rw [List.mem_singleton.mp z]; exact Nat.le_trans X.ms ha
  · rcases List.mem_append.mp hb with q | q
    · exact Nat.lt_of_lt_of_le (X.lt b q) G.size
    · simp at q; subst q; exact hl
  · obtain ⟨e1, e2⟩ := X.held i x e
    exact ⟨by rw [List.getElem?_append_left (List.getElem?_eq_some_iff.mp e1).1]; exact e1, e2⟩
  · obtain ⟨q1, q2, q3, q4⟩ := X.prv b hb
    refine ⟨fun z => ?_, q2, Nat.lt_of_lt_of_le q3 G.size, q4⟩
    rcases List.mem_append.mp z with z | z
    · exact q1 z
    · rw [List.mem_singleton.mp z] at q3; exact Nat.not_lt.mpr ha q3
theorem grow_alloc {μ : List Addr} {h : Heap} (o : Obj) : Grow [] μ h (μ ++ [h.objs.size]) (h.push o) :=
  ⟨⟨[h.objs.size], rfl, fun a ha => by simp at ha; subst ha; exact Nat.le_refl _⟩, by rw [Heap.size_push]; exact Nat.le_succ _, fun b x e V V => Heap.get?_push_of_some _ e⟩
theorem St.alloc (X : St prog w hO μ σ h) {ob : Obj} {o : AObj} (hf : ob.isFreed = false) (R : ORel prog w hO.prv (μ ++ [h.objs.size]) (h.push ob) o h.objs.size) : St prog w hO (μ ++ [h.objs.size]) (σ ++ [o]) (h.push ob) :=
  X.adopt (grow_alloc ob) (fun V V e => Heap.get?_push_of_some _ e) (Nat.le_refl _) (by rw [Heap.size_push]; exact Nat.lt_succ_self _) R
theorem grow_set {μ : List Addr} {h h' : Heap} {a : Addr} (ha : a ∈ μ) (hs : Heap.SameBut a h h') : Grow [] μ h μ h' :=
  ⟨⟨[], by simp, fun V q => (nomatch q)⟩, by rw [hs.1]; exact Nat.le_refl _, fun b x e n V => (hs.2 b fun q => n (q ▸ ha)).trans e⟩
theorem St.free (X : St prog w hO μ σ h) {i : Nat} {a : Addr} {o : AObj} (hi : μ[i]? = some a) (ho : σ[i]? = some o) (hf : ∀ x, o ≠ .frz x) (hy : o ≠ .any := by intro q; cases q) : hO.get? a = none ∧ hO.held i = none := by
  have hh : hO.held i = none := by
    cases e : hO.held i with
    | none => rfl
    | some x =>
      obtain ⟨e1, e2⟩ := X.held i x e
      rw [ho] at e1
      cases e1
      rcases e2 with q | ⟨x, q⟩
      · exact absurd q hy
      · exact absurd q (hf x)
  refine ⟨?_, hh⟩
  rcases X.new i a hi with q | ⟨x, q⟩ | q
  · exact q
  · rw [ho] at q; cases q; exact absurd rfl (hf x)
  · rw [ho] at q; cases q; exact absurd rfl hy
theorem St.prvs (X : St prog w hO μ σ h) (wr : List Addr) (hw : ∀ a ∈ wr, a ∈ hO.prv) (hs : h.objs.size ≤ h'.objs.size) (k : ∀ b o, b ∉ wr -> h.get? b = some o -> h'.get? b = some o) : St prog w hO μ σ h' := by
  have G : Kp wr μ h μ h' := ⟨⟨[], by simp, fun V q => (nomatch q)⟩, fun b o e V n => k b o n e⟩
  exact ⟨X.len, X.nodup, fun i a o h1 h2 => (X.rel i a o h1 h2).kp G (SepOk.prv hw) fun x hx => k a x (fun q => (X.prv a (hw a q)).1 (List.mem_of_getElem? h1)) hx,
    fun b o e => k b o (fun q => by rw [(X.prv b (hw b q)).2.1] at e; exact no e) (X.base b o e), X.new, Nat.le_trans X.ms hs, X.nm, fun a ha => Nat.lt_of_lt_of_le (X.lt a ha) hs, X.held, fun a ha => let q := X.prv a ha; ⟨q.1, q.2.1, Nat.lt_of_lt_of_le q.2.2.1 hs, q.2.2.2⟩⟩
noncomputable def HB.withPrv (hO : HB) (l : List Addr) : HB := { hO with prv := l }
theorem St.hide (X : St prog w hO μ σ h) {l : List Addr} (hl : ∀ a ∈ l, h.objs.size ≤ a) (hs : h.objs.size ≤ h'.objs.size) (hl' : ∀ a ∈ l, a < h'.objs.size) (k : ∀ b o, h.get? b = some o -> h'.get? b = some o) : St prog w (hO.withPrv (hO.prv ++ l)) μ σ h' := by
  have X' := X.more hs k
  have s : ∀ a ∈ hO.prv ++ l, a ∈ hO.prv ∨ h.get? a = none := fun a ha => by
    rcases List.mem_append.mp ha with q | q
    · exact .inl q
    · exact .inr (get_size h (hl a q))
  have G : Grow [] μ h μ h' := ⟨⟨[], by simp, fun V q => (nomatch q)⟩, hs, fun b o e V V => k b o e⟩
  refine ⟨X'.len, X'.nodup, fun i a o h1 h2 => ((X.rel i a o h1 h2).prv s).grow G (OwnOk.nil h) (k a), X'.base, X'.new, X'.ms, X'.nm, X'.lt, X'.held, fun a ha => ?_⟩
  rcases List.mem_append.mp ha with q | q
  · exact X'.prv a q
  · refine ⟨fun z => Nat.not_lt.mpr (hl a q) (X.lt a z), ?_, hl' a q, Nat.le_trans X.ms (hl a q)⟩
    · cases e : hO.get? a with
      | none => exact e
      | some o => exact absurd (Heap.lt_size (X.base _ o e)) (Nat.not_lt.mpr (hl a q))
theorem St.show_ {l : List Addr} (X : St prog w (hO.withPrv l) μ σ h) (s : ∀ a ∈ hO.prv, a ∈ l) : St prog w hO μ σ h :=
  ⟨X.len, X.nodup, fun i a o h1 h2 => (X.rel i a o h1 h2).prv fun a ha => .inl (s a ha), X.base, X.new, X.ms, X.nm, X.lt, X.held, fun a ha => X.prv a (s a ha)⟩
theorem St.set (X : St prog w hO μ σ h) {i : Nat} {a : Addr} {o : AObj} (hi : μ[i]? = some a) (hn : hO.get? a = none ∧ hO.held i = none) (hs : Heap.SameBut a h h') (R : ORel prog w hO.prv μ h' o a) : St prog w hO μ (σ.set i o) h' := by
  have G : Grow [] μ h μ h' := grow_set (List.mem_of_getElem? hi) hs
  refine ⟨by simp [X.len], X.nodup, fun j b o' h1 h2 => ?_, fun b x e => (hs.2 b fun q => by subst q; rw [hn.1] at e; exact no e).trans (X.base b x e), fun j b h1 => ?_, Nat.le_trans X.ms G.size, X.nm, fun a ha => Nat.lt_of_lt_of_le (X.lt a ha) G.size, fun j x e => ?_, fun a ha => let q := X.prv a ha; ⟨q.1, q.2.1, Nat.lt_of_lt_of_le q.2.2.1 G.size, q.2.2.2⟩⟩
  rotate_left
  · by_cases q : i = j
    · subst q
      rw [hi] at h1
      cases h1
      exact .inl hn.1
    · rcases X.new j b h1 with q' | ⟨o', q'⟩ | q'
      · exact .inl q'
      · exact .inr (.inl ⟨o', by rw [List.getElem?_set_ne q]; exact q'⟩)
      · exact .inr (.inr (by rw [List.getElem?_set_ne q]; exact q'))
  · obtain ⟨e1, e2⟩ := X.held j x e
    have q : i ≠ j := by rintro rfl; rw [hn.2] at e; exact no e
    exact ⟨by rw [List.getElem?_set_ne q]; exact e1, e2⟩
  by_cases q : i = j
  · subst q
    rw [hi] at h1
    cases h1
    have lt : i < σ.length := by rw [← X.len]; exact (List.getElem?_eq_some_iff.mp hi).1
    rw [List.getElem?_set_self lt] at h2
    cases h2
    exact R
  · rw [List.getElem?_set_ne q] at h2
    have ne : b ≠ a := by
      rintro rfl
      have l1 := (List.getElem?_eq_some_iff.mp hi).1
      exact q ((List.getElem?_inj l1 X.nodup).mp (hi.trans h1.symm))
    exact (X.rel j b o' h1 h2).grow G (OwnOk.nil h) fun x hx => (hs.2 b ne).trans hx
end
end
section
noncomputable abbrev Rho := String -> Option AV
noncomputable def Rho.set (ρ : Rho) (x : String) (v : AV) : Rho := fun y => if y = x then some v else ρ y

structure EP where
  L : Addr
  cl : List (Str × Addr)
  q : Str
  fn : Option Addr
  cd : Value
  fr : Option Addr
noncomputable abbrev EP.env (x : EP) (sc : Scope) : Env := { scope := sc, locals := x.L, globals := mainGlobals, cells := x.cl, qual := x.q, func := x.fn, code := x.cd, frame := x.fr, builtins := builtinsNs }

structure Base (hO : HB) (K : Frag) (mg mb : Str -> Option Value) : Prop where
  g : hO.hp.Ns mainGlobals mg
  b : hO.hp.Ns builtinsNs mb
  bi : ∀ x, x ≠ ("__name__" : Str) -> mb x = bootBuiltins x
  lim : hO.hp.NoLimit
  k : K.In hO.hp
  low : ∀ a o, K.lookup a = some o -> a < hO.lo

def Room (n : Nat) (A : Around) : Prop := A.handled = none ∧ A.depth + n < recursionLimit ∧ A.units + 40 * n + 100 < cLine
theorem Room.mono {n m : Nat} {A : Around} (r : Room n A) (h : m ≤ n) : Room m A := ⟨r.1, by have := r.2.1; omega, by have := r.2.2; omega⟩

def OwnsC (env : Env) (own : List Addr) : Prop := ∀ x, env.kindOf (S x) = some .cell -> ∃ ca, env.cells.lookup (S x) = some ca ∧ ca ∈ own
def OwnsOn (env : Env) (own : List Addr) (xs : List String) : Prop := ∀ x ∈ xs, env.kindOf (S x) = some .cell -> ∃ ca, env.cells.lookup (S x) = some ca ∧ ca ∈ own
theorem OwnsC.on {env : Env} {own : List Addr} (O : OwnsC env own) (xs : List String) : OwnsOn env own xs := fun x V h => O x h
structure FrOk (hO : HB) (h : Heap) (env : Env) (own μ : List Addr) (ρ : Rho) : Prop where
  ns : ∃ m, h.Ns env.locals m ∧ ∀ x v, ρ x = some v -> env.kindOf (S x) = some .local -> ∃ c, m (S x) = some c ∧ VRel hO.prv μ h v c
  cell : ∀ x v, ρ x = some v -> env.kindOf (S x) = some .cell ∨ env.kindOf (S x) = some .free -> X2 fun ca c => A3 (env.cells.lookup (S x) = some ca) (h.IsCell ca (some c)) (VRel hO.prv μ h v c)
  ownL : env.locals ∈ own
  data : OwnOk own h
  off : ∀ a ∈ own, a ∉ μ ∧ hO.get? a = none
  coff : ∀ x ca, env.cells.lookup (S x) = some ca -> ca ∉ μ ∧ ca < h.objs.size
  offp : ∀ a ∈ own, a ∉ hO.prv
  coffp : ∀ x ca, env.cells.lookup (S x) = some ca -> ca ∉ hO.prv
  cok : ∀ x ca, env.cells.lookup (S x) = some ca -> ∃ v₀, h.IsCell ca v₀
  inj : ∀ x y ca, env.cells.lookup (S x) = some ca -> env.cells.lookup (S y) = some ca -> x = y
  has : ∀ y : Str, env.kindOf y = some .cell ∨ env.kindOf y = some .free -> (env.cells.lookup y).isSome = true

theorem OwnOk.lt {own : List Addr} {h : Heap} (W : OwnOk own h) {a : Addr} (q : a ∈ own) : a < h.objs.size := by
  obtain ⟨o, e, _⟩ := W.has a q
  exact Heap.lt_size e

theorem FrOk.grow {hO : HB} {h h' : Heap} {env : Env} {own μ μ' : List Addr} {ρ : Rho} (F : FrOk hO h env own μ ρ) (G : Grow [] μ h μ' h') : FrOk hO h' env own μ' ρ := by
  have W := OwnOk.nil h
  obtain ⟨m, ⟨o, es, ep, ho, r⟩, hm⟩ := F.ns
  have offL := F.off _ F.ownL
  refine ⟨⟨m, ⟨o, es, ep, G.keep _ o ho offL.1 (by simp), r⟩, fun x v e k => ?_⟩, fun x v e k => ?_, F.ownL, ⟨fun a ha => ?_⟩, fun a ha => ?_, fun x ca e => ?_, F.offp, F.coffp, fun x ca e => ?_, F.inj, F.has⟩
  · obtain ⟨c, h1, h2⟩ := hm x v e k
    exact ⟨c, h1, h2.grow G W⟩
  · obtain ⟨ca, c, h1, ⟨oc, hoc, hd⟩, h3⟩ := F.cell x v e k
    exact ⟨ca, c, h1, ⟨oc, G.keep _ oc hoc (F.coff x ca h1).1 (by simp), hd⟩, h3.grow G W⟩
  · have o1 := F.off a ha
    obtain ⟨o2, e2, r2⟩ := F.data.has a ha
    exact ⟨o2, G.keep a o2 e2 o1.1 (by simp), r2⟩
  · have o1 := F.off a ha
    obtain ⟨o2, e2, _⟩ := F.data.has a ha
    exact ⟨G.off' e2 o1.1, o1.2⟩
  · have c1 := F.coff x ca e
    exact ⟨G.off c1.2 c1.1, Nat.lt_of_lt_of_le c1.2 G.size⟩
  · obtain ⟨v₀, oc, hoc, hd⟩ := F.cok x ca e
    exact ⟨v₀, oc, G.keep _ oc hoc (F.coff x ca e).1 (by simp), hd⟩

theorem grow_own {h h' : Heap} {own μ : List Addr} {a : Addr} (ha : a ∈ own) (hs : Heap.SameBut a h h') : Grow own μ h μ h' :=
  ⟨⟨[], by simp, fun V q => (nomatch q)⟩, by rw [hs.1]; exact Nat.le_refl _, fun b o e V n => (hs.2 b fun q => n (q ▸ ha)).trans e⟩
theorem St.own {prog : Program} {w : World} {hO : HB} {h h' : Heap} {own μ : List Addr} {σ : List AObj} {a : Addr} (X : St prog w hO μ σ h) (W : OwnOk own h) (off : ∀ a ∈ own, a ∉ μ ∧ hO.get? a = none) (ha : a ∈ own) (hs : Heap.SameBut a h h') : St prog w hO μ σ h' :=
  X.atOwn W (by rw [hs.1]; exact Nat.le_refl _) off fun b o n e => (hs.2 b fun q => n (q ▸ ha)).trans e

section
variable {prog : Program} {w : World} {hO : HB} {A : Around} {E : Value -> Shared -> Prop} {s : Shared} {env : Env} {own μ : List Addr} {ρ : Rho} {σ : List AObj} {x : String} {v : AV} {c : Value}
theorem store_local {Q : Unit -> Shared -> Prop} (hk : env.scope.kind = .function) (hl : env.kindOf (S x) = some .local) (F : FrOk hO s.heap env own μ ρ) (X : St prog w hO μ σ s.heap) (hv : VRel hO.prv μ s.heap v c)
    (h : ∀ h' t', Grow own μ s.heap μ h' -> St prog w hO μ σ h' -> FrOk hO h' env own μ (ρ.set x v) -> Q () { s with heap := h', toks := t' }) : wpAny (model prog w) A (storeName env (S x) c) Q E s := by
  obtain ⟨m, hn, hm⟩ := F.ns
  refine wpAny_storeName_local hl hn (fun h' hn' hs' => ?_) (by rw [hk]; rfl)
  have G := grow_own (μ := μ) F.ownL hs'
  refine h h' _ G (X.own F.data F.off F.ownL hs') ⟨⟨_, hn', fun y u e k => ?_⟩, fun y u e k => ?_, F.ownL, ⟨fun a ha => ?_⟩, F.off, fun y ca e => ?_, F.offp, F.coffp, fun y ca e => ?_, F.inj, F.has⟩
  · unfold Rho.set at e
    by_cases q : y = x
    · subst q
      rw [if_pos rfl] at e
      cases e
      exact ⟨c, if_pos rfl, hv.grow G F.data⟩
    · rw [if_neg q] at e
      obtain ⟨c', h1, h2⟩ := hm y u e k
      exact ⟨c', by rw [if_neg (fun z => q (S_inj z))]; exact h1, h2.grow G F.data⟩
  · have q : y ≠ x := by rintro rfl; rw [hl] at k; rcases k with k | k <;> cases k
    unfold Rho.set at e
    rw [if_neg q] at e
    obtain ⟨ca, c', h1, ⟨oc, hoc, hd⟩, h3⟩ := F.cell y u e k
    have ne : ca ≠ env.locals := by
      rintro rfl
      obtain ⟨oL, es, ep, hoL, hdL, _⟩ := hn
      rw [hoc] at hoL; cases hoL
      rw [hd] at hdL; cases hdL
    exact ⟨ca, c', h1, ⟨oc, (hs'.2 ca ne).trans hoc, hd⟩, h3.grow G F.data⟩
  · by_cases q : a = env.locals
    · subst q
      obtain ⟨oL, es, ep, hoL, hdL, _⟩ := hn'
      exact ⟨oL, hoL, .inl ⟨es, ep, hdL⟩⟩
    · obtain ⟨o2, e2, r2⟩ := F.data.has a ha
      exact ⟨o2, (hs'.2 a q).trans e2, r2⟩
  · exact ⟨(F.coff y ca e).1, Nat.lt_of_lt_of_le (F.coff y ca e).2 G.size⟩
  · obtain ⟨v₀, oc, hoc, hd⟩ := F.cok y ca e
    have ne : ca ≠ env.locals := by
      rintro rfl
      obtain ⟨oL, es, ep, hoL, hdL, _⟩ := hn
      rw [hoc] at hoL; cases hoL
      rw [hd] at hdL; cases hdL
    exact ⟨v₀, oc, (hs'.2 ca ne).trans hoc, hd⟩

theorem store_cell {Q : Unit -> Shared -> Prop} (hk : env.scope.kind = .function) (hl : env.kindOf (S x) = some .cell) (O : ∃ ca, env.cells.lookup (S x) = some ca ∧ ca ∈ own) (F : FrOk hO s.heap env own μ ρ) (X : St prog w hO μ σ s.heap) (hv : VRel hO.prv μ s.heap v c)
    (h : ∀ h' t', Grow own μ s.heap μ h' -> St prog w hO μ σ h' -> FrOk hO h' env own μ (ρ.set x v) -> Q () { s with heap := h', toks := t' }) : wpAny (model prog w) A (storeName env (S x) c) Q E s := by
  obtain ⟨m, hn, hm⟩ := F.ns
  obtain ⟨cx, hcx, hown⟩ := O
  obtain ⟨v₀, hcell⟩ := F.cok x cx hcx
  refine wpAny_storeName_cell hk hl hcx hcell (fun h' hc' hs' => ?_)
  have G := grow_own (μ := μ) hown hs'
  have neL : env.locals ≠ cx := by
    rintro rfl
    obtain ⟨oL, es, ep, hoL, hdL, _⟩ := hn
    obtain ⟨oc, hoc, hd⟩ := hcell
    rw [hoc] at hoL; cases hoL
    rw [hd] at hdL; cases hdL
  refine h h' _ G (X.own F.data F.off hown hs') ⟨⟨m, hn.sameBut hs' neL, fun y u e k => ?_⟩, fun y u e k => ?_, F.ownL, ⟨fun a ha => ?_⟩, F.off, fun y ca e => ?_, F.offp, F.coffp, fun y ca e => ?_, F.inj, F.has⟩
  · have q : y ≠ x := by rintro rfl; rw [hl] at k; cases k
    unfold Rho.set at e
    rw [if_neg q] at e
    obtain ⟨c', h1, h2⟩ := hm y u e k
    exact ⟨c', h1, h2.grow G F.data⟩
  · unfold Rho.set at e
    by_cases q : y = x
    · subst q
      rw [if_pos rfl] at e
      cases e
      exact ⟨cx, c, hcx, hc', hv.grow G F.data⟩
    · rw [if_neg q] at e
      obtain ⟨ca, c', h1, h2, h3⟩ := F.cell y u e k
      have ne : ca ≠ cx := by
        rintro rfl
        exact q (F.inj y x ca h1 hcx)
      exact ⟨ca, c', h1, h2.sameBut hs' ne, h3.grow G F.data⟩
  · by_cases q : a = cx
    · subst q
      obtain ⟨oc, hoc, hd⟩ := hc'
      exact ⟨oc, hoc, .inr (.inl ⟨_, hd⟩)⟩
    · obtain ⟨o2, e2, r2⟩ := F.data.has a ha
      exact ⟨o2, (hs'.2 a q).trans e2, r2⟩
  · exact ⟨(F.coff y ca e).1, Nat.lt_of_lt_of_le (F.coff y ca e).2 G.size⟩
  · by_cases q : y = x
    · subst q
      rw [hcx] at e
      cases e
      exact ⟨_, hc'⟩
    · obtain ⟨v₁, h3⟩ := F.cok y ca e
      have ne : ca ≠ cx := by
        rintro rfl
        exact q (F.inj y x ca e hcx)
      exact ⟨v₁, h3.sameBut hs' ne⟩
end

section
variable (prog : Program) (w : World) (hO : HB)

noncomputable abbrev Den := Rho -> List AObj -> Option (AV × List AObj)
noncomputable abbrev DenC := Rho -> List AObj -> Option (Bool × List AObj)
inductive AFlow where
  | next
  | ret (v : AV)
noncomputable abbrev DenS := Rho -> List AObj -> Option (AFlow × Rho × List AObj)

noncomputable abbrev Post (s : Shared) (μ : List Addr) (v : AV) (σ' : List AObj) (Q : Value -> Shared -> Prop) : Prop :=
  ∀ h' t' μ' c, Grow [] μ s.heap μ' h' -> St prog w hO μ' σ' h' -> VRel hO.prv μ' h' v c -> Q c { s with heap := h', toks := t' }
noncomputable abbrev PostC (s : Shared) (μ : List Addr) (b : Bool) (σ' : List AObj) (Q : Bool -> Shared -> Prop) : Prop :=
  ∀ h' t' μ', Grow [] μ s.heap μ' h' -> St prog w hO μ' σ' h' -> Q b { s with heap := h', toks := t' }
noncomputable abbrev PostU (s : Shared) (μ : List Addr) (σ' : List AObj) (Q : Unit -> Shared -> Prop) : Prop :=
  ∀ h' t' μ', Grow [] μ s.heap μ' h' -> St prog w hO μ' σ' h' -> Q () { s with heap := h', toks := t' }

noncomputable abbrev PostS (own : List Addr) (env : Env) (s : Shared) (μ : List Addr) (f : AFlow) (ρ' : Rho) (σ' : List AObj) (Q : Flow -> Shared -> Prop) : Prop :=
  ∀ h' t' μ', Grow own μ s.heap μ' h' -> St prog w hO μ' σ' h' -> FrOk hO h' env own μ' ρ' -> (match f with | .next => Q .next { s with heap := h', toks := t' } | .ret v => ∀ c, VRel hO.prv μ' h' v c -> Q (.ret c) { s with heap := h', toks := t' })
variable {prog w hO} in
theorem Post.of {s : Shared} {μ : List Addr} {v a : AV} {σ' b : List AObj} {Q : Value -> Shared -> Prop} (P : Post prog w hO s μ v σ' Q) (e : some (a, b) = some (v, σ')) : Post prog w hO s μ a b Q := by cases e; exact P
variable {prog w hO} in
theorem PostC.of {s : Shared} {μ : List Addr} {v a : Bool} {σ' b : List AObj} {Q : Bool -> Shared -> Prop} (P : PostC prog w hO s μ v σ' Q) (e : some (a, b) = some (v, σ')) : PostC prog w hO s μ a b Q := by cases e; exact P
variable {prog w hO} in
theorem PostU.of {s : Shared} {μ : List Addr} {σ' b : List AObj} {Q : Unit -> Shared -> Prop} (P : PostU prog w hO s μ σ' Q) (e : some b = some σ') : PostU prog w hO s μ b Q := by cases e; exact P
variable {prog w hO} in
theorem PostS.of {own : List Addr} {env : Env} {s : Shared} {μ : List Addr} {f g : AFlow} {ρ' r : Rho} {σ' b : List AObj} {Q : Flow -> Shared -> Prop} (P : PostS prog w hO own env s μ f ρ' σ' Q) (e : some (g, r, b) = some (f, ρ', σ')) : PostS prog w hO own env s μ g r b Q := by cases e; exact P

def SndE (n : Nat) (sc : Scope) (e : Expr) (d : Den) : Prop :=
  ∀ (A : Around) (ρ : Rho) (σ : List AObj) (v : AV) (σ' : List AObj) (x : EP) (s : Shared) (own μ : List Addr) (Q : Value -> Shared -> Prop) (E : Value -> Shared -> Prop), Room n A -> d ρ σ = some (v, σ') ->
    FrOk hO s.heap (x.env sc) own μ ρ -> St prog w hO μ σ s.heap -> Post prog w hO s μ v σ' Q -> wpAny (model prog w) A (eval e (x.env sc)) Q E s
def SndC (n : Nat) (sc : Scope) (e : Expr) (d : DenC) : Prop :=
  ∀ (A : Around) (ρ : Rho) (σ : List AObj) (b : Bool) (σ' : List AObj) (x : EP) (s : Shared) (own μ : List Addr) (Q : Bool -> Shared -> Prop) (E : Value -> Shared -> Prop), Room n A -> d ρ σ = some (b, σ') ->
    FrOk hO s.heap (x.env sc) own μ ρ -> St prog w hO μ σ s.heap -> PostC prog w hO s μ b σ' Q -> wpAny (model prog w) A (isTrue e (x.env sc) (eval e (x.env sc))) Q E s
def Snd1 (n : Nat) (t : Value -> Sem Value) (f : AV -> List AObj -> Option (AV × List AObj)) : Prop :=
  ∀ (A : Around) (a : AV) (ca : Value) (σ : List AObj) (v : AV) (σ' : List AObj) (s : Shared) (μ : List Addr) (Q : Value -> Shared -> Prop) (E : Value -> Shared -> Prop), Room n A -> f a σ = some (v, σ') ->
    VRel hO.prv μ s.heap a ca -> St prog w hO μ σ s.heap -> Post prog w hO s μ v σ' Q -> wpAny (model prog w) A (t ca) Q E s
def Snd2 (n : Nat) (t : Value -> Value -> Sem Value) (f : AV -> AV -> List AObj -> Option (AV × List AObj)) : Prop :=
  ∀ (A : Around) (a b : AV) (ca cb : Value) (σ : List AObj) (v : AV) (σ' : List AObj) (s : Shared) (μ : List Addr) (Q : Value -> Shared -> Prop) (E : Value -> Shared -> Prop), Room n A -> f a b σ = some (v, σ') ->
    VRel hO.prv μ s.heap a ca -> VRel hO.prv μ s.heap b cb -> St prog w hO μ σ s.heap -> Post prog w hO s μ v σ' Q -> wpAny (model prog w) A (t ca cb) Q E s
def SndS (n : Nat) (sc : Scope) (st : Stmt) (d : DenS) : Prop :=
  ∀ (A : Around) (ρ : Rho) (σ : List AObj) (f : AFlow) (ρ' : Rho) (σ' : List AObj) (x : EP) (s : Shared) (own μ : List Addr) (Q : Flow -> Shared -> Prop) (E : Value -> Shared -> Prop), Room n A -> OwnsC (x.env sc) own -> d ρ σ = some (f, ρ', σ') ->
    FrOk hO s.heap (x.env sc) own μ ρ -> St prog w hO μ σ s.heap ->
    PostS prog w hO own (x.env sc) s μ f ρ' σ' Q ->
    wpAny (model prog w) A (exec st (x.env sc)) Q E s
end
end
section
section den
noncomputable def dK (v : AV) : Den := fun V σ => some (v, σ)
noncomputable def dLoc (x : String) : Den := fun ρ σ => (ρ x).map fun v => (v, σ)
noncomputable def d1 (f : AV -> List AObj -> Option (AV × List AObj)) (d : Den) : Den := fun ρ σ => (d ρ σ).bind fun p => f p.1 p.2
noncomputable def d2 (f : AV -> AV -> List AObj -> Option (AV × List AObj)) (d e : Den) : Den := fun ρ σ => (d ρ σ).bind fun p => (e ρ p.2).bind fun q => f p.1 q.1 q.2
noncomputable abbrev DenL := Rho -> List AObj -> Option (List AV × List AObj)
noncomputable def dNil : DenL := fun V σ => some ([], σ)
noncomputable def dCons (d : Den) (ds : DenL) : DenL := fun ρ σ => (d ρ σ).bind fun p => (ds ρ p.2).bind fun q => some (p.1 :: q.1, q.2)
noncomputable def dTup (ds : DenL) : Den := fun ρ σ => (ds ρ σ).bind fun p => some (.tup p.1, p.2)
noncomputable def dLst (ds : DenL) : Den := fun ρ σ => (ds ρ σ).bind fun p => some (.lst p.1, p.2)
noncomputable def dLstM (ds : DenL) : Den := fun ρ σ => (ds ρ σ).bind fun p => some (.obj p.2.length, p.2 ++ [.lst p.1])
noncomputable def dIf (c : DenC) (d e : Den) : Den := fun ρ σ => (c ρ σ).bind fun p => match p.1 with | true => d ρ p.2 | false => e ρ p.2
noncomputable def cVal (d : Den) : DenC := fun ρ σ => (d ρ σ).bind fun p => match p.1 with | .bool b => some (b, p.2) | _ => none
noncomputable def cNot (c : DenC) : DenC := fun ρ σ => (c ρ σ).bind fun p => some (!p.1, p.2)
noncomputable def cTrue : DenC := fun V σ => some (true, σ)
noncomputable def cFalse : DenC := fun V σ => some (false, σ)
noncomputable def cAnd (c e : DenC) : DenC := fun ρ σ => (c ρ σ).bind fun p => match p.1 with | true => e ρ p.2 | false => some (false, p.2)
noncomputable def cOr (c e : DenC) : DenC := fun ρ σ => (c ρ σ).bind fun p => match p.1 with | true => some (true, p.2) | false => e ρ p.2
noncomputable def dAnd (d e : Den) : Den := fun ρ σ => (d ρ σ).bind fun p => match p.1 with | .bool true => e ρ p.2 | .bool false => some (.bool false, p.2) | _ => none
noncomputable def dOr (d e : Den) : Den := fun ρ σ => (d ρ σ).bind fun p => match p.1 with | .bool true => some (.bool true, p.2) | .bool false => e ρ p.2 | _ => none
end den

section
variable {prog : Program} {w : World} {hO : HB} {n : Nat} {sc : Scope}

theorem bind_of {α β : Type} {o : Option α} {f : α -> Option β} {b : β} (h : o.bind f = some b) : ∃ a, o = some a ∧ f a = some b := Option.bind_eq_some_iff.mp h
theorem bind1 {α β : Type} {o : Option α} {f : α -> Option β} {r : β} {G : Prop} (e : o.bind f = some r) (k : ∀ a, o = some a -> f a = some r -> G) : G := by
  obtain ⟨a, h, q⟩ := bind_of e
  exact k a h q
theorem bind2 {α α' β : Type} {o : Option (α × α')} {f : α × α' -> Option β} {r : β} {G : Prop} (e : o.bind f = some r) (k : ∀ a b, o = some (a, b) -> f (a, b) = some r -> G) : G := bind1 e fun a => k a.1 a.2
theorem bind3 {α α' α'' β : Type} {o : Option (α × α' × α'')} {f : α × α' × α'' -> Option β} {r : β} {G : Prop} (e : o.bind f = some r) (k : ∀ a b c, o = some (a, b, c) -> f (a, b, c) = some r -> G) : G := bind1 e fun a => k a.1 a.2.1 a.2.2

theorem sndE_int {i : Int} {k : Nat} {pos : Pos} : SndE prog w hO n sc (.Constant (.int i) k pos) (dK (.int i)) := by
  intro A ρ σ v σ' x s own μ Q E R e F X P
  have P := P.of e
  exact wpAny_Constant_int (P _ _ μ _ (.refl _ _ _) X (.int _ _))
theorem sndE_str {y : String} {k : Nat} {pos : Pos} : SndE prog w hO n sc (.Constant (.str (Str.ofString y)) k pos) (dK (.str y)) := by
  intro A ρ σ v σ' x s own μ Q E R e F X P
  have P := P.of e
  exact Constant_str (P _ _ μ _ (.refl _ _ _) X (.str _ _))
theorem sndE_bool {b : Bool} {k : Nat} {pos : Pos} : SndE prog w hO n sc (.Constant (.bool b) k pos) (dK (.bool b)) := by
  intro A ρ σ v σ' x s own μ Q E R e F X P
  have P := P.of e
  exact wpAny_Constant_bool (P s.heap s.toks μ _ (.refl _ _ _) X (.bool _))
theorem sndE_none {k : Nat} {pos : Pos} : SndE prog w hO n sc (.Constant .none k pos) (dK .none) := by
  intro A ρ σ v σ' x s own μ Q E R e F X P
  have P := P.of e
  exact wpAny_Constant_none (P s.heap s.toks μ _ (.refl _ _ _) X .none)

theorem loc_of {x : String} {ρ : Rho} {σ σ' : List AObj} {v : AV} (e : dLoc x ρ σ = some (v, σ')) : ρ x = some v ∧ σ = σ' := by
  unfold dLoc at e
  cases h : ρ x with
  | none => rw [h] at e; exact no e
  | some u => rw [h] at e; cases e; exact ⟨rfl, rfl⟩

theorem sndE_loc {y : String} {pos : Pos} (hk : sc.kind = .function) (hl : sc.names.lookup (Str.ofString y) = some .local) (hd : (Str.ofString y == ("__debug__" : Str)) = false) : SndE prog w hO n sc (.Name (Str.ofString y) pos) (dLoc y) := by
  intro A ρ σ v σ' x s own μ Q E R e F X P
  obtain ⟨ey, rfl⟩ := loc_of e
  obtain ⟨m, hn, hm⟩ := F.ns
  obtain ⟨c, h1, h2⟩ := hm y v ey hl
  exact wpAny_Name (wpAny_loadName_local hk hl hn h1 (P s.heap s.toks μ _ (.refl _ _ _) X h2)) hd
theorem sndE_cell {y : String} {pos : Pos} (hk : sc.kind = .function) (hl : sc.names.lookup (Str.ofString y) = some .cell) (hd : (Str.ofString y == ("__debug__" : Str)) = false) : SndE prog w hO n sc (.Name (Str.ofString y) pos) (dLoc y) := by
  intro A ρ σ v σ' x s own μ Q E R e F X P
  obtain ⟨ey, rfl⟩ := loc_of e
  obtain ⟨ca, c, h1, h2, h3⟩ := F.cell y v ey (.inl hl)
  exact wpAny_Name (wpAny_loadName_cell hk hl h1 h2 (P s.heap s.toks μ _ (.refl _ _ _) X h3)) hd
theorem sndE_glob {mg mb : Str -> Option Value} {K : Frag} {y : String} {c : Value} {v : AV} {pos : Pos} (B : Base hO K mg mb) (hk : sc.kind = .function) (hl : sc.names.lookup (Str.ofString y) = some .globalImplicit)
    (hd : (Str.ofString y == ("__debug__" : Str)) = false) (hc : mg (Str.ofString y) = some c) (hv : ∀ μ σ h, St prog w hO μ σ h -> VRel hO.prv μ h v c) : SndE prog w hO n sc (.Name (Str.ofString y) pos) (dK v) := by
  intro A ρ σ v σ' x s own μ Q E R e F X P
  have P := P.of e
  exact Calls.Name_function_global hk hl (Calls.loadGlobal_global (env := x.env sc) (B.g.keeps X.base) hc (P s.heap s.toks μ _ (.refl _ _ _) X (hv μ _ _ X))) hd

theorem Post.step {s : Shared} {μ : List Addr} {v : AV} {σ' : List AObj} {Q : Value -> Shared -> Prop} (P : Post prog w hO s μ v σ' Q) {h : Heap} {t : Nat} {μ₁ : List Addr} (G : Grow [] μ s.heap μ₁ h) : Post prog w hO { s with heap := h, toks := t } μ₁ v σ' Q :=
  fun h' t' μ' c G' X' r => P h' t' μ' c (G.trans G') X' r
theorem PostC.step {s : Shared} {μ : List Addr} {v : Bool} {σ' : List AObj} {Q : Bool -> Shared -> Prop} (P : PostC prog w hO s μ v σ' Q) {h : Heap} {t : Nat} {μ₁ : List Addr} (G : Grow [] μ s.heap μ₁ h) : PostC prog w hO { s with heap := h, toks := t } μ₁ v σ' Q :=
  fun h' t' μ' G' X' => P h' t' μ' (G.trans G') X'

theorem sndE_bin {l r : Expr} {op : Operator} {pos : Pos} {dl dr : Den} {f} (hl : SndE prog w hO n sc l dl) (hr : SndE prog w hO n sc r dr) (ho : Snd2 prog w hO n (binaryOp op) f) : SndE prog w hO n sc (.BinOp l op r pos) (d2 f dl dr) := by
  intro A ρ σ v σ' x s own μ Q E R e F X P
  refine bind2 e fun a σ1 e1 e => ?_
  refine bind2 e fun b σ2 e2 e => ?_
  refine wpAny_BinOp (hl _ _ _ _ _ x s own μ _ _ R e1 F X fun h1 t1 μ1 ca G1 X1 r1 => ?_)
  refine hr _ _ _ _ _ x _ own μ1 _ _ R e2 (F.grow G1) X1 fun h2 t2 μ2 cb G2 X2 r2 => ?_
  exact ho _ _ _ _ _ _ _ _ _ μ2 _ _ R e (r1.grow G2 (.nil _)) r2 X2 ((P.step G1).step G2)
theorem sndE_cmp {l r : Expr} {op : CmpOp} {pos : Pos} {dl dr : Den} {f} (hl : SndE prog w hO n sc l dl) (hr : SndE prog w hO n sc r dr) (ho : Snd2 prog w hO n (compareOp op) f) (hb : behindInMarks op r = false) : SndE prog w hO n sc (.Compare l [op] [r] pos) (d2 f dl dr) := by
  intro A ρ σ v σ' x s own μ Q E R e F X P
  refine bind2 e fun a σ1 e1 e => ?_
  refine bind2 e fun b σ2 e2 e => ?_
  refine wpAny_Compare1 (hl _ _ _ _ _ x s own μ _ _ R e1 F X fun h1 t1 μ1 ca G1 X1 r1 => ?_) hb
  refine hr _ _ _ _ _ x _ own μ1 _ _ R e2 (F.grow G1) X1 fun h2 t2 μ2 cb G2 X2 r2 => ?_
  exact ho _ _ _ _ _ _ _ _ _ μ2 _ _ R e (r1.grow G2 (.nil _)) r2 X2 ((P.step G1).step G2)
theorem sndC_cmp {l r : Expr} {op : CmpOp} {pos : Pos} {dl dr : Den} {f} (hl : SndE prog w hO n sc l dl) (hr : SndE prog w hO n sc r dr) (ho : Snd2 prog w hO n (compareOp op) f) (hb : behindInMarks op r = false) : SndC prog w hO n sc (.Compare l [op] [r] pos) (cVal (d2 f dl dr)) := by
  intro A ρ σ v σ' x s own μ Q E R e F X P
  refine bind2 e fun u σ0 e0 e => ?_
  refine bind2 e0 fun a σ1 e1 e0 => ?_
  refine bind2 e0 fun b σ2 e2 e0 => ?_
  cases u <;> try cases e
  refine wpAny_isTrue_Compare1 (hl _ _ _ _ _ x s own μ _ _ R e1 F X fun h1 t1 μ1 ca G1 X1 r1 => ?_) hb
  refine hr _ _ _ _ _ x _ own μ1 _ _ R e2 (F.grow G1) X1 fun h2 t2 μ2 cb G2 X2 r2 => ?_
  refine ho _ _ _ _ _ _ _ _ _ μ2 _ _ R e0 (r1.grow G2 (.nil _)) r2 X2 fun h3 t3 μ3 cc G3 X3 r3 => ?_
  apply r3.eBool
  exact wpAny_truthy_bool (P _ _ _ ((G1.trans G2).trans G3) X3)
theorem sndE_un {e : Expr} {op : UnaryOp} {pos : Pos} {d : Den} {f} (he : SndE prog w hO n sc e d) (ho : Snd1 prog w hO n (unaryOp op) f) : SndE prog w hO n sc (.UnaryOp op e pos) (d1 f d) := by
  intro A ρ σ v σ' x s own μ Q E R e F X P
  refine bind2 e fun a σ1 e1 e => ?_
  refine wpAny_UnaryOp (he _ _ _ _ _ x s own μ _ _ R e1 F X fun h1 t1 μ1 ca G1 X1 r1 => ?_)
  exact ho _ _ _ _ _ _ _ μ1 _ _ R e r1 X1 (P.step G1)
theorem sndC_val {e : Expr} {d : Den} (he : SndE prog w hO n sc e d) (hp : ∀ (env : Env) (whole : Sem Value), PySem.isTrue e env whole = (do let v ← whole; standAt (Expr.pos e); holding [v] (truthy v))) : SndC prog w hO n sc e (cVal d) := by
  intro A ρ σ b σ' x s own μ Q E R e F X P
  refine bind2 e fun u σ0 e0 e => ?_
  cases u <;> try cases e
  refine isTrue_plain (he _ _ _ _ _ x s own μ _ _ R e0 F X fun h1 t1 μ1 ca G1 X1 r1 => ?_) (hp _ _)
  apply r1.eBool
  exact wpAny_truthy_bool (P _ _ _ G1 X1)
theorem sndC_not {e : Expr} {pos : Pos} {c : DenC} (he : SndC prog w hO n sc e c) : SndC prog w hO n sc (.UnaryOp .Not e pos) (cNot c) := by
  intro A ρ σ b σ' x s own μ Q E R e F X P
  refine bind2 e fun u σ0 e0 e => ?_
  have P := P.of e
  exact isTrue_not (he _ _ _ _ _ x s own μ _ _ R e0 F X fun h1 t1 μ1 G1 X1 => P _ _ _ G1 X1)
theorem sndC_and {e : Expr} {r : List Expr} {pos : Pos} {c cr : DenC} (he : SndC prog w hO n sc e c) (hr : SndC prog w hO n sc (.BoolOp .And r pos) cr) : SndC prog w hO n sc (.BoolOp .And (e :: r) pos) (cAnd c cr) := by
  intro A ρ σ b σ' x s own μ Q E R e F X P
  refine bind2 e fun u σ0 e0 e => ?_
  refine isTrue_and (he _ _ _ _ _ x s own μ _ _ R e0 F X fun h1 t1 μ1 G1 X1 => ?_)
  cases u with
  | true =>
    rw [if_pos rfl]
    exact hr _ _ _ _ _ x _ own μ1 _ _ R e (F.grow G1) X1 (P.step G1)
  | false => have P := P.of e; rw [if_neg Bool.false_ne_true]; exact P _ _ _ G1 X1
theorem sndC_or {e : Expr} {r : List Expr} {pos : Pos} {c cr : DenC} (he : SndC prog w hO n sc e c) (hr : SndC prog w hO n sc (.BoolOp .Or r pos) cr) : SndC prog w hO n sc (.BoolOp .Or (e :: r) pos) (cOr c cr) := by
  intro A ρ σ b σ' x s own μ Q E R e F X P
  refine bind2 e fun u σ0 e0 e => ?_
  refine isTrue_or (he _ _ _ _ _ x s own μ _ _ R e0 F X fun h1 t1 μ1 G1 X1 => ?_)
  cases u with
  | true => have P := P.of e; rw [if_pos rfl]; exact P _ _ _ G1 X1
  | false =>
    rw [if_neg Bool.false_ne_true]
    exact hr _ _ _ _ _ x _ own μ1 _ _ R e (F.grow G1) X1 (P.step G1)
theorem sndC_and0 {pos : Pos} : SndC prog w hO n sc (.BoolOp .And [] pos) cTrue := by
  intro A ρ σ b σ' x s own μ Q E R e F X P
  have P := P.of e
  exact isTrue_and_nil (P s.heap s.toks μ (.refl _ _ _) X)
theorem sndC_or0 {pos : Pos} : SndC prog w hO n sc (.BoolOp .Or [] pos) cFalse := by
  intro A ρ σ b σ' x s own μ Q E R e F X P
  have P := P.of e
  exact isTrue_or_nil (P s.heap s.toks μ (.refl _ _ _) X)
set_option tactic.hygienic true in
theorem sndE_and {e e2 : Expr} {r : List Expr} {pos : Pos} {c cr : Den} (he : SndE prog w hO n sc e c) (hr : SndE prog w hO n sc (.BoolOp .And (e2 :: r) pos) cr) : SndE prog w hO n sc (.BoolOp .And (e :: e2 :: r) pos) (dAnd c cr) := by
  intro A ρ σ b σ' x s own μ Q E R e F X P
  refine bind2 e fun u σ0 e0 e => ?_
  refine BoolOp_and (he _ _ _ _ _ x s own μ _ _ R e0 F X fun h1 t1 μ1 ca G1 X1 r1 => ?_)
  cases u <;> try exact no e
  rename_i bb
  apply r1.eBool
  refine wpAny_truthy_bool ?_
  cases bb with
  | true => rw [if_pos rfl]; exact hr _ _ _ _ _ x _ own μ1 _ _ R e (F.grow G1) X1 (P.step G1)
  | false => have P := P.of e; rw [if_neg Bool.false_ne_true]; exact P _ _ _ _ G1 X1 (.bool _)
set_option tactic.hygienic true in
theorem sndE_or {e e2 : Expr} {r : List Expr} {pos : Pos} {c cr : Den} (he : SndE prog w hO n sc e c) (hr : SndE prog w hO n sc (.BoolOp .Or (e2 :: r) pos) cr) : SndE prog w hO n sc (.BoolOp .Or (e :: e2 :: r) pos) (dOr c cr) := by
  intro A ρ σ b σ' x s own μ Q E R e F X P
  refine bind2 e fun u σ0 e0 e => ?_
  refine BoolOp_or (he _ _ _ _ _ x s own μ _ _ R e0 F X fun h1 t1 μ1 ca G1 X1 r1 => ?_)
  cases u <;> try exact no e
  rename_i bb
  apply r1.eBool
  refine wpAny_truthy_bool ?_
  cases bb with
  | true => cases e; rw [if_pos rfl]; exact P _ _ _ _ G1 X1 (.bool _)
  | false => rw [if_neg Bool.false_ne_true]; exact hr _ _ _ _ _ x _ own μ1 _ _ R e (F.grow G1) X1 (P.step G1)
theorem sndE_bool1 {op : BoolOp} {e : Expr} {pos : Pos} {d : Den} (he : SndE prog w hO n sc e d) : SndE prog w hO n sc (.BoolOp op [e] pos) d := by
  intro A ρ σ b σ' x s own μ Q E R e F X P
  exact BoolOp_one (he _ _ _ _ _ x s own μ _ _ R e F X P)
theorem sndE_if {t a b : Expr} {pos : Pos} {c : DenC} {da db : Den} (ht : SndC prog w hO n sc t c) (ha : SndE prog w hO n sc a da) (hb : SndE prog w hO n sc b db) : SndE prog w hO n sc (.IfExp t a b pos) (dIf c da db) := by
  intro A ρ σ v σ' x s own μ Q E R e F X P
  refine bind2 e fun u σ0 e0 e => ?_
  refine wpAny_IfExp (ht _ _ _ _ _ x s own μ _ _ R e0 F X fun h1 t1 μ1 G1 X1 => ?_)
  cases u with
  | true => rw [if_pos rfl]; exact ha _ _ _ _ _ x _ own μ1 _ _ R e (F.grow G1) X1 (P.step G1)
  | false => rw [if_neg Bool.false_ne_true]; exact hb _ _ _ _ _ x _ own μ1 _ _ R e (F.grow G1) X1 (P.step G1)

def SndL (prog : Program) (w : World) (hO : HB) (n : Nat) (sc : Scope) (es : List Expr) (d : DenL) : Prop :=
  ∀ (A : Around) (ρ : Rho) (σ : List AObj) (vs : List AV) (σ' : List AObj) (x : EP) (s : Shared) (own μ : List Addr) (pos : Pos) (Q : List Value -> Shared -> Prop) (E : Value -> Shared -> Prop), Room n A -> d ρ σ = some (vs, σ') ->
    FrOk hO s.heap (x.env sc) own μ ρ -> St prog w hO μ σ s.heap -> (∀ h' t' μ' cs, Grow [] μ s.heap μ' h' -> St prog w hO μ' σ' h' -> VRels hO.prv μ' h' vs cs -> Q cs { s with heap := h', toks := t' }) ->
    wpAny (model prog w) A (spliced (backTo pos (starEach es (x.env sc)))) Q E s
theorem sndL_nil : SndL prog w hO n sc [] dNil := by
  intro A ρ σ vs σ' x s own μ pos Q E R e F X P
  cases e
  exact Calls.spliced_nil (P s.heap s.toks μ [] (.refl _ _ _) X .nil)
theorem sndL_cons {e : Expr} {es : List Expr} {d : Den} {ds : DenL} (he : SndE prog w hO n sc e d) (hs : SndL prog w hO n sc es ds) (hst : ∀ env, starEach (e :: es) env = (false, eval e env) :: starEach es env) : SndL prog w hO n sc (e :: es) (dCons d ds) := by
  intro A ρ σ vs σ' x s own μ pos Q E R e F X P
  refine bind2 e fun a σ1 e1 e => ?_
  refine bind2 e fun as σ2 e2 e => ?_
  cases e
  rw [hst]
  refine Calls.spliced_cons (he _ _ _ _ _ x s own μ _ _ R e1 F X fun h1 t1 μ1 ca G1 X1 r1 => ?_)
  refine hs _ _ _ _ _ x _ own μ1 pos _ _ R e2 (F.grow G1) X1 fun h2 t2 μ2 cs G2 X2 r2 => ?_
  exact P _ _ _ _ (G1.trans G2) X2 (.cons (r1.grow G2 (.nil _)) r2)

theorem Grow.push {own μ μ' : List Addr} {h h' : Heap} (G : Grow own μ h μ' h') (o : Obj) : Grow own μ h μ' (h'.push o) :=
  ⟨G.pre, by rw [Heap.size_push]; exact Nat.le_succ_of_le G.size, fun b x e n m => Heap.get?_push_of_some _ (G.keep b x e n m)⟩
theorem grow_push {μ : List Addr} {h : Heap} (o : Obj) : Grow [] μ h μ (h.push o) := (Grow.refl [] μ h).push o
theorem St.push {σ : List AObj} {μ : List Addr} {h : Heap} (X : St prog w hO μ σ h) (o : Obj) : St prog w hO μ σ (h.push o) :=
  X.more (by rw [Heap.size_push]; exact Nat.le_succ _) fun b x e => Heap.get?_push_of_some _ e
theorem St.fresh {σ : List AObj} {μ : List Addr} {h : Heap} (X : St prog w hO μ σ h) : Off hO.prv μ h.objs.size := ⟨fun q => Nat.lt_irrefl _ (X.lt _ q), fun q => Nat.lt_irrefl _ (X.prv _ q).2.2.1⟩

theorem sndE_tup {es : List Expr} {k : Nat} {pos : Pos} {ds : DenL} (hs : SndL prog w hO n sc es ds) (hz : es.length ≤ 1000) (hlen : ∀ ρ σ vs σ', ds ρ σ = some (vs, σ') -> vs.length = es.length) : SndE prog w hO n sc (.Tuple es k pos) (dTup ds) := by
  intro A ρ σ v σ' x s own μ Q E R e F X P
  refine bind2 e fun as σ1 e1 e => ?_
  have P := P.of e
  refine Tuple_ (hs _ _ _ _ _ x s own μ pos _ _ R e1 F X fun h1 t1 μ1 cs G1 X1 r1 => ?_)
  have lc : cs.length ≤ sizeLine := by rw [← r1.length, hlen _ _ _ _ e1]; exact Nat.le_trans hz (by decide)
  refine wpAny_newObj_type ?_ (by show cs.toArray.size ≤ sizeLine; rw [List.size_toArray]; exact lc)
  refine P _ t1 μ1 _ (G1.push _) (X1.push _) (.tup ⟨_, Heap.get?_push_size _ rfl, rfl, 0, rfl⟩ X1.fresh (r1.grow (grow_push _) (.nil _)))
theorem sndE_lst {es : List Expr} {pos : Pos} {ds : DenL} (hs : SndL prog w hO n sc es ds) (hz : es.length ≤ 1000) (hlen : ∀ ρ σ vs σ', ds ρ σ = some (vs, σ') -> vs.length = es.length) : SndE prog w hO n sc (.List es pos) (dLst ds) := by
  intro A ρ σ v σ' x s own μ Q E R e F X P
  refine bind2 e fun as σ1 e1 e => ?_
  have P := P.of e
  refine List_ (hs _ _ _ _ _ x s own μ pos _ _ R e1 F X fun h1 t1 μ1 cs G1 X1 r1 => ?_)
  have lc : cs.length ≤ sizeLine := by rw [← r1.length, hlen _ _ _ _ e1]; exact Nat.le_trans hz (by decide)
  refine wpAny_newObj_type ?_ (by show cs.toArray.size ≤ sizeLine; rw [List.size_toArray]; exact lc)
  refine P _ t1 μ1 _ (G1.push _) (X1.push _) (.lst ⟨_, Heap.get?_push_size _ rfl, rfl, 0, rfl⟩ X1.fresh (r1.grow (grow_push _) (.nil _)))
theorem sndE_lstM {es : List Expr} {pos : Pos} {ds : DenL} (hs : SndL prog w hO n sc es ds) (hz : es.length ≤ 1000) (hlen : ∀ ρ σ vs σ', ds ρ σ = some (vs, σ') -> vs.length = es.length) : SndE prog w hO n sc (.List es pos) (dLstM ds) := by
  intro A ρ σ v σ' x s own μ Q E R e F X P
  refine bind2 e fun as σ1 e1 e => ?_
  have P := P.of e
  refine List_ (hs _ _ _ _ _ x s own μ pos _ _ R e1 F X fun h1 t1 μ1 cs G1 X1 r1 => ?_)
  have lc : cs.length ≤ sizeLine := by rw [← r1.length, hlen _ _ _ _ e1]; exact Nat.le_trans hz (by decide)
  refine wpAny_newObj_type ?_ (by show cs.toArray.size ≤ sizeLine; rw [List.size_toArray]; exact lc)
  refine P _ t1 (μ1 ++ [h1.objs.size]) _ (G1.trans (grow_alloc _)) (X1.alloc rfl ⟨cs, 0, Heap.get?_push_size _ rfl, r1.grow (grow_alloc _) (.nil _)⟩) (.obj ?_)
  rw [← X1.len]
  exact List.getElem?_concat_length
end
end
section
noncomputable def small (a : Int) : Bool := decide (-(2 ^ 64) < a) && decide (a < 2 ^ 64)
noncomputable def oAdd (a b : AV) (σ : List AObj) : Option (AV × List AObj) := match a, b with
  | .int x, .int y => some (.int (x + y), σ)
  | .lst x, .lst y => if x.length + y.length ≤ 1000 then some (.lst (x ++ y), σ) else none
  | _, _ => none
noncomputable def oSub (a b : AV) (σ : List AObj) : Option (AV × List AObj) := match a, b with
  | .int x, .int y => some (.int (x - y), σ)
  | .bool x, .bool y => some (.int (b2i x - b2i y), σ)
  | _, _ => none
noncomputable def oMul (a b : AV) (σ : List AObj) : Option (AV × List AObj) := match a, b with
  | .int x, .int y => if small x then some (.int (x * y), σ) else none
  | _, _ => none
noncomputable def oDiv (a b : AV) (σ : List AObj) : Option (AV × List AObj) := match a, b with
  | .int x, .int y => if small y && y != 0 then some (.int (Int.fdiv x y), σ) else none
  | _, _ => none
noncomputable def oMod (a b : AV) (σ : List AObj) : Option (AV × List AObj) := match a, b with
  | .int x, .int y => if y != 0 then some (.int (Int.fmod x y), σ) else none
  | _, _ => none
noncomputable def oShr (a b : AV) (σ : List AObj) : Option (AV × List AObj) := match a, b with
  | .int x, .int y => if 0 ≤ x ∧ x < 2 ^ 64 ∧ y = 65536 then some (.int 0, σ) else none
  | _, _ => none
noncomputable def oNeg (a : AV) (σ : List AObj) : Option (AV × List AObj) := match a with
  | .int x => some (.int (-x), σ)
  | _ => none
noncomputable def oLt (a b : AV) (σ : List AObj) : Option (AV × List AObj) := match a, b with
  | .int x, .int y => some (.bool (decide (x < y)), σ)
  | _, _ => none
noncomputable def oLe (a b : AV) (σ : List AObj) : Option (AV × List AObj) := match a, b with
  | .int x, .int y => some (.bool (decide (x ≤ y)), σ)
  | _, _ => none
noncomputable def oGt (a b : AV) (σ : List AObj) : Option (AV × List AObj) := match a, b with
  | .int x, .int y => some (.bool (decide (y < x)), σ)
  | _, _ => none
noncomputable def isNone : AV -> Bool
  | .none => true
  | _ => false
noncomputable def oIs (a b : AV) (σ : List AObj) : Option (AV × List AObj) := match b with
  | .none => some (.bool (isNone a), σ)
  | _ => none
noncomputable def oIsNot (a b : AV) (σ : List AObj) : Option (AV × List AObj) := match b with
  | .none => some (.bool (!isNone a), σ)
  | _ => none

section
variable {prog : Program} {w : World} {hO : HB} {n : Nat} {sc : Scope}
theorem int_is {prog : Program} {w : World} {i : Int} {t : Nat} : (intKind prog w).is i (.int i t) = true := by simp [intKind, Value.isInt]
theorem int2 {pv μ : List Addr} {h : Heap} {a b : AV} {ca cb : Value} (f : Int -> Int -> Option (AV × List AObj)) {r : AV × List AObj} (e : (match a, b with | .int x, .int y => f x y | _, _ => none) = some r) (ra : VRel pv μ h a ca) (rb : VRel pv μ h b cb) : ∃ x y t u, a = .int x ∧ b = .int y ∧ ca = .int x t ∧ cb = .int y u ∧ f x y = some r := by
  cases a <;> try exact no e
  cases b <;> try exact no e
  apply ra.eInt; intro t
  apply rb.eInt; intro u
  exact ⟨_, _, t, u, rfl, rfl, rfl, rfl, e⟩

theorem s_sub : Snd2 prog w hO n (binaryOp .Sub) oSub := by
  intro A a b ca cb σ v σ' s μ Q E R e ra rb X P
  cases a <;> try exact no e
  · cases b <;> try cases e
    apply ra.eBool; apply rb.eBool
    exact sub_bool (P _ _ μ _ (.refl _ _ _) X (.int _ _))
  · cases b <;> try cases e
    apply ra.eInt; intro t
    apply rb.eInt; intro u
    exact sub_int' (P _ _ μ _ (.refl _ _ _) X (.int _ _))
theorem s_mul : Snd2 prog w hO n (binaryOp .Mult) oMul := by
  intro A a b ca cb σ v σ' s μ Q E R e ra rb X P
  obtain ⟨x, y, t, u, rfl, rfl, rfl, rfl, e⟩ := int2 _ e ra rb
  split at e
  · rename_i hs
    have P := P.of e
    simp only [small, Bool.and_eq_true, decide_eq_true_eq] at hs
    exact PySem.P.mul_int (P _ _ μ _ (.refl _ _ _) X (.int _ _)) (.of_left (intBits_le_64 hs.1 hs.2))
  · exact no e
theorem noPylong {x y : Int} (h1 : -(2 ^ 64) < y) (h2 : y < 2 ^ 64) : Builtin.divisionGoesByPylong x y = false := by
  unfold Builtin.divisionGoesByPylong
  have : (if (y == 0) = true then 0 else y.natAbs.log2 / 30 + 1) ≤ 300 := by
    split
    · omega
    · have hy : y.natAbs < 2 ^ 64 := by omega
      by_cases z : y.natAbs = 0
      · rw [z]; decide
      · have := (Nat.log2_lt z).mpr hy
        omega
  simp only [gt_iff_lt, Bool.and_eq_false_iff, decide_eq_false_iff_not]
  exact .inl (by omega)
theorem s_div : Snd2 prog w hO n (binaryOp .FloorDiv) oDiv := by
  intro A a b ca cb σ v σ' s μ Q E R e ra rb X P
  obtain ⟨x, y, t, u, rfl, rfl, rfl, rfl, e⟩ := int2 _ e ra rb
  split at e
  · rename_i hs
    have P := P.of e
    simp only [small, Bool.and_eq_true, decide_eq_true_eq, bne_iff_ne, ne_eq] at hs
    exact floordiv_int hs.2 (P _ _ μ _ (.refl _ _ _) X (.int _ _)) (.inl (noPylong hs.1.1 hs.1.2))
  · exact no e
theorem s_mod : Snd2 prog w hO n (binaryOp .Mod) oMod := by
  intro A a b ca cb σ v σ' s μ Q E R e ra rb X P
  obtain ⟨x, y, t, u, rfl, rfl, rfl, rfl, e⟩ := int2 _ e ra rb
  split at e
  · rename_i hs
    have P := P.of e
    exact mod_int' (bne_iff_ne.mp hs) (P _ _ μ _ (.refl _ _ _) X (.int _ _))
  · exact no e
theorem pow64 (k : Nat) (hk : 64 ≤ k) : (2 : Int) ^ 64 ≤ 2 ^ k := by
  have q : (2 : Nat) ^ 64 ≤ 2 ^ k := Nat.pow_le_pow_right (by decide) hk
  exact_mod_cast q
theorem s_shr : Snd2 prog w hO n (binaryOp .RShift) oShr := by
  intro A a b ca cb σ v σ' s μ Q E R e ra rb X P
  obtain ⟨x, y, t, u, rfl, rfl, rfl, rfl, e⟩ := int2 _ e ra rb
  split at e
  · rename_i hs
    have P := P.of e
    obtain ⟨h1, h2, rfl⟩ := hs
    refine rshift_int (by decide) ?_
    have z : x.fdiv (2 ^ (65536 : Int).toNat) = 0 := by
      rw [Int.fdiv_eq_ediv_of_nonneg _ (by exact Int.le_of_lt (Int.pow_pos (by decide)))]
      refine Int.ediv_eq_zero_of_lt h1 (Int.lt_of_lt_of_le h2 ?_)
      exact pow64 _ (by decide)
    rw [z]
    exact P _ _ μ _ (.refl _ _ _) X (.int _ _)
  · exact no e
theorem s_neg : Snd1 prog w hO n (unaryOp .USub) oNeg := by
  intro A a ca σ v σ' s μ Q E R e ra X P
  cases a <;> try cases e
  apply ra.eInt; intro t
  exact PySem.P.neg_int (P _ _ μ _ (.refl _ _ _) X (.int _ _))
theorem s_lt : Snd2 prog w hO n (compareOp .Lt) oLt := by
  intro A a b ca cb σ v σ' s μ Q E R e ra rb X P
  obtain ⟨x, y, t, u, rfl, rfl, rfl, rfl, e⟩ := int2 _ e ra rb
  have P := P.of e
  exact lt_int (P s.heap s.toks μ _ (.refl _ _ _) X (.bool _))
theorem s_gt : Snd2 prog w hO n (compareOp .Gt) oGt := by
  intro A a b ca cb σ v σ' s μ Q E R e ra rb X P
  obtain ⟨x, y, t, u, rfl, rfl, rfl, rfl, e⟩ := int2 _ e ra rb
  cases e
  exact PySem.P.gt_int (P s.heap s.toks μ _ (.refl _ _ _) X (.bool _))
theorem s_is : Snd2 prog w hO n (compareOp .Is) oIs := by
  intro A a b ca cb σ v σ' s μ Q E R e ra rb X P
  cases b <;> try cases e
  apply rb.eNone
  cases ra with
  | none => exact wpAny_is_self rfl (P s.heap s.toks μ _ (.refl _ _ _) X (.bool _))
  | _ => exact wpAny_is_other rfl (by intro q; cases q) (P s.heap s.toks μ _ (.refl _ _ _) X (.bool _))
theorem s_isNot : Snd2 prog w hO n (compareOp .IsNot) oIsNot := by
  intro A a b ca cb σ v σ' s μ Q E R e ra rb X P
  cases b <;> try cases e
  apply rb.eNone
  cases ra with
  | none => exact wpAny_isNot_self rfl (P s.heap s.toks μ _ (.refl _ _ _) X (.bool _))
  | _ => exact wpAny_isNot_other rfl (by intro q; cases q) (P s.heap s.toks μ _ (.refl _ _ _) X (.bool _))
set_option tactic.hygienic true in
theorem s_add : Snd2 prog w hO n (binaryOp .Add) oAdd := by
  intro A a b ca cb σ v σ' s μ Q E R e ra rb X P
  cases a <;> try exact no e
  · cases b <;> try cases e
    apply ra.eInt; intro t
    apply rb.eInt; intro u
    exact add_int (P _ _ μ _ (.refl _ _ _) X (.int _ _))
  · rename_i xs
    cases b <;> try exact no e
    rename_i ys
    apply ra.eLst; intro al vs hl na rs
    apply rb.eLst; intro bl ws hb nb rs2
    dsimp only [oAdd] at e
    split at e
    · rename_i hz
      have P := P.of e
      obtain ⟨⟨cls, dd, data, sl⟩, ho, hc, k, hd⟩ := id hl
      obtain ⟨⟨cls2, dd2, data2, sl2⟩, ho2, hc2, k2, hd2⟩ := id hb
      simp only at hc hd hc2 hd2
      subst hc hd hc2 hd2
      have ee : vs.toArray ++ ws.toArray = (vs ++ ws).toArray := by simp
      have hz' : vs.length + ws.length ≤ sizeLine := by rw [← rs.length, ← rs2.length]; exact Nat.le_trans hz (by decide)
      refine concat_meets ⟨_, ho, rfl⟩ ⟨_, ho2, rfl⟩ noFill_list_add seq_list_add PySem.F.slot_list_add PySem.F.entry_list_add (PySem.F.args_list_add_2 _ _) (list_addW al bl vs.toArray ws.toArray k k2 dd dd2 sl sl2 (by simpa using hz')) ⟨ho, ho2, ?_⟩
      rw [ee]
      exact P _ s.toks μ _ (grow_push _) (X.push _) (.lst ⟨_, Heap.get?_push_size _ rfl, rfl, 0, rfl⟩ X.fresh ((rs.append rs2).grow (grow_push _) (.nil _)))
    · exact no e
end
end
section
mutual
noncomputable def pd : AV -> PyData
  | .none => .none
  | .bool b => .bool b
  | .int i => .int i
  | .str s => .str (S s)
  | .tup xs => .tuple (pds xs)
  | .lst xs => .list (pds xs)
  | .obj _ => .none
  | .ins _ _ => .none
noncomputable def pds : List AV -> List PyData
  | [] => []
  | x :: xs => pd x :: pds xs
end
mutual
noncomputable def isData : AV -> Bool
  | .obj _ => false
  | .ins _ _ => false
  | .tup xs => isDatas xs
  | .lst xs => isDatas xs
  | _ => true
noncomputable def isDatas : List AV -> Bool
  | [] => true
  | x :: xs => isData x && isDatas xs
end
theorem VRel.reads {pv μ : List Addr} {h : Heap} {v : AV} {c : Value} (r : VRel pv μ h v c) : isData v = true -> ∃ as, Reads h c (pd v) as := by
  refine VRel.rec (motive_1 := fun v c V => isData v = true -> ∃ as, Reads h c (pd v) as) (motive_2 := fun v c V => isDatas v = true -> ∃ as, ReadsAll h c (pds v) as) (fun V => ⟨_, .none⟩) (fun b V => ⟨_, .bool b⟩) (fun i t V => ⟨_, .int i t⟩) (fun V t V => ⟨_, .str _ t⟩) (fun t V V ih e => ?_) (fun t V V ih e => ?_) (fun V e => nomatch e) (fun V V V e => nomatch e) (fun V => ⟨_, .nil⟩) (fun V V i j e => ?_) r
  · obtain ⟨o, ho, hc, m, hd⟩ := t
    unfold isData at e
    obtain ⟨as, q⟩ := ih e
    unfold pd
    exact ⟨as, .tuple ho hc hd q⟩
  · obtain ⟨o, ho, hc, m, hd⟩ := t
    unfold isData at e
    obtain ⟨as, q⟩ := ih e
    unfold pd
    exact ⟨_, .list ho hc hd q⟩
  · unfold isDatas at e
    obtain ⟨e1, e2⟩ := Bool.and_eq_true_iff.mp e
    obtain ⟨as, q⟩ := i e1
    obtain ⟨bs, q'⟩ := j e2
    unfold pds
    exact ⟨_, .cons q q'⟩
theorem VRels.reads {pv μ : List Addr} {h : Heap} {vs : List AV} : ∀ {cs : List Value}, VRels pv μ h vs cs -> isDatas vs = true -> ∃ as, ReadsAll h cs (pds vs) as := by
  induction vs with
  | nil => intro cs r _; apply r.eNil; exact ⟨_, .nil⟩
  | cons v vs ih =>
    intro cs r e
    apply r.eCons; intro c ds a b
    unfold isDatas at e
    obtain ⟨e1, e2⟩ := Bool.and_eq_true_iff.mp e
    obtain ⟨as, q⟩ := a.reads e1
    obtain ⟨bs, q'⟩ := ih b e2
    unfold pds
    exact ⟨_, .cons q q'⟩
noncomputable def okD (a : AV) : Bool := isData a && (pd a).canLay0 && decide ((pd a).depth ≤ 64)
theorem okD_sh {a : AV} (h : okD a = true) : isData a = true ∧ SeqAt.shaped (pd a) = true := by
  unfold okD at h
  simp only [Bool.and_eq_true] at h
  exact ⟨h.1.1, by unfold SeqAt.shaped; rw [h.1.2, h.2]; rfl⟩

noncomputable def oEq (a b : AV) (σ : List AObj) : Option (AV × List AObj) := match a, b with
  | .int x, .int y => some (.bool (x == y), σ)
  | .str x, .str y => some (.bool (decide (x = y)), σ)
  | .bool x, .bool y => some (.bool (x == y), σ)
  | .int _, _ => none
  | .str _, _ => none
  | .bool _, _ => none
  | a, b => if okD a && okD b then some (.bool (PyData.eqv (pd a) (pd b)), σ) else none
noncomputable def oNe (a b : AV) (σ : List AObj) : Option (AV × List AObj) := match a, b with
  | .int x, .int y => some (.bool (x != y), σ)
  | .str x, .str y => some (.bool (!decide (x = y)), σ)
  | .bool x, .bool y => some (.bool (x != y), σ)
  | .int _, _ => none
  | .str _, _ => none
  | .bool _, _ => none
  | a, b => if okD a && okD b then some (.bool (!PyData.eqv (pd a) (pd b)), σ) else none

noncomputable def kvHas {K : Type} [DecidableEq K] (k : K) : List (K × AV) -> Bool
  | [] => false
  | p :: r => decide (p.1 = k) || kvHas k r
noncomputable def kvGet {K : Type} [DecidableEq K] (k : K) : List (K × AV) -> Option AV
  | [] => none
  | p :: r => if p.1 = k then some p.2 else kvGet k r
noncomputable def kvMap {K : Type} [DecidableEq K] (k : K) (v : AV) : List (K × AV) -> List (K × AV)
  | [] => []
  | p :: r => (if p.1 = k then (p.1, v) else p) :: kvMap k v r
noncomputable def kvPut {K : Type} [DecidableEq K] (k : K) (v : AV) (l : List (K × AV)) : List (K × AV) := if kvHas k l then kvMap k v l else l ++ [(k, v)]

noncomputable def inV (a b : AV) (σ : List AObj) : Option Bool := match b with
  | .tup xs => if okD a && okD (.tup xs) then some ((pds xs).any fun y => PyData.eqv y (pd a)) else none
  | .lst xs => if okD a && okD (.lst xs) then some ((pds xs).any fun y => PyData.eqv y (pd a)) else none
  | .obj d => match look σ d with
    | some (.id kvs) => match a with
      | .int i => some (kvHas i kvs)
      | _ => none
    | some (.lst xs) => if okD a && okD (.lst xs) then some ((pds xs).any fun y => PyData.eqv y (pd a)) else none
    | _ => none
  | _ => none
noncomputable def oIn (a b : AV) (σ : List AObj) : Option (AV × List AObj) := (inV a b σ).map fun x => (.bool x, σ)
noncomputable def oNotIn (a b : AV) (σ : List AObj) : Option (AV × List AObj) := (inV a b σ).map fun x => (.bool (!x), σ)

section
variable {prog : Program} {w : World} {hO : HB} {n : Nat} {sc : Scope}

theorem S_beq {x y : String} : (S x == S y) = decide (x = y) := by
  by_cases e : x = y
  · subst e; simp
  · rw [decide_eq_false e]
    exact beq_eq_false_iff_ne.mpr fun q => e (S_inj q)
theorem eq_strD {A : Around} {E : Value -> Shared -> Prop} {s : Shared} {x y : String} {t u : Tok} {Q : Value -> Shared -> Prop} (h : Q (.bool (decide (x = y))) s) : wpAny (model prog w) A (compareOp .Eq (.str (S x) t) (.str (S y) u)) Q E s :=
  eq_str (by rw [S_beq]; exact h)
theorem ne_strD {A : Around} {E : Value -> Shared -> Prop} {s : Shared} {x y : String} {t u : Tok} {Q : Value -> Shared -> Prop} (h : Q (.bool (!decide (x = y))) s) : wpAny (model prog w) A (compareOp .NotEq (.str (S x) t) (.str (S y) u)) Q E s :=
  ne_str (by unfold bne; rw [S_beq]; exact h)

theorem s_eq : Snd2 prog w hO n (compareOp .Eq) oEq := by
  intro A a b ca cb σ v σ' s μ Q E R e ra rb X P
  have hu : A.units + 64 < cLine := by have := R.2.2; omega
  have gen : ∀ {a b : AV} {ca cb : Value}, VRel hO.prv μ s.heap a ca -> VRel hO.prv μ s.heap b cb -> (if okD a && okD b then some (AV.bool (PyData.eqv (pd a) (pd b)), σ) else none) = some (v, σ') -> Post prog w hO s μ v σ' Q -> wpAny (model prog w) A (compareOp .Eq ca cb) Q E s := by
    intro a b ca cb ra rb e P
    split at e
    · rename_i hs
      have P := P.of e
      obtain ⟨h1, h2⟩ := Bool.and_eq_true_iff.mp hs
      obtain ⟨i1, j1⟩ := okD_sh h1
      obtain ⟨i2, j2⟩ := okD_sh h2
      obtain ⟨as, q1⟩ := ra.reads i1
      obtain ⟨bs, q2⟩ := rb.reads i2
      exact eq_dataH q1 q2 j1 j2 hu (P s.heap s.toks μ _ (.refl _ _ _) X (.bool _))
    · exact no e
  cases a with
  | int i =>
    cases b <;> try cases e
    apply ra.eInt; intro t
    apply rb.eInt; intro u
    exact eq_int (P s.heap s.toks μ _ (.refl _ _ _) X (.bool _))
  | str i =>
    cases b <;> try cases e
    apply ra.eStr; intro t
    apply rb.eStr; intro u
    exact eq_strD (P s.heap s.toks μ _ (.refl _ _ _) X (.bool _))
  | bool i =>
    cases b <;> try cases e
    apply ra.eBool
    apply rb.eBool
    exact eq_bool (P s.heap s.toks μ _ (.refl _ _ _) X (.bool _))
  | none => exact gen ra rb e P
  | tup => exact gen ra rb e P
  | lst => exact gen ra rb e P
  | obj => exact gen ra rb e P
  | ins => exact gen ra rb e P
theorem s_ne : Snd2 prog w hO n (compareOp .NotEq) oNe := by
  intro A a b ca cb σ v σ' s μ Q E R e ra rb X P
  have hu : A.units + 64 < cLine := by have := R.2.2; omega
  have gen : ∀ {a b : AV} {ca cb : Value}, VRel hO.prv μ s.heap a ca -> VRel hO.prv μ s.heap b cb -> (if okD a && okD b then some (AV.bool (!PyData.eqv (pd a) (pd b)), σ) else none) = some (v, σ') -> Post prog w hO s μ v σ' Q -> wpAny (model prog w) A (compareOp .NotEq ca cb) Q E s := by
    intro a b ca cb ra rb e P
    split at e
    · rename_i hs
      have P := P.of e
      obtain ⟨h1, h2⟩ := Bool.and_eq_true_iff.mp hs
      obtain ⟨i1, j1⟩ := okD_sh h1
      obtain ⟨i2, j2⟩ := okD_sh h2
      obtain ⟨as, q1⟩ := ra.reads i1
      obtain ⟨bs, q2⟩ := rb.reads i2
      exact ne_dataH q1 q2 j1 j2 hu (P s.heap s.toks μ _ (.refl _ _ _) X (.bool _))
    · exact no e
  cases a with
  | int i =>
    cases b <;> try cases e
    apply ra.eInt; intro t
    apply rb.eInt; intro u
    exact PySem.P.ne_int (P s.heap s.toks μ _ (.refl _ _ _) X (.bool _))
  | str i =>
    cases b <;> try cases e
    apply ra.eStr; intro t
    apply rb.eStr; intro u
    exact ne_strD (P s.heap s.toks μ _ (.refl _ _ _) X (.bool _))
  | bool i =>
    cases b <;> try cases e
    apply ra.eBool
    apply rb.eBool
    exact ne_bool (P s.heap s.toks μ _ (.refl _ _ _) X (.bool _))
  | none => exact gen ra rb e P
  | tup => exact gen ra rb e P
  | lst => exact gen ra rb e P
  | obj => exact gen ra rb e P
  | ins => exact gen ra rb e P
theorem KVs.valueAt {K K' : Type} [DecidableEq K] [DecidableEq K'] {f : K -> K'} (hf : ∀ x y, f x = f y -> x = y) {μ : List Addr} {h : Heap} {k : K} {l : List (K × AV)} {l' : List (K' × Value)} (r : KVs f hO.prv μ h l l') :
    (∀ v, kvGet k l = some v -> ∃ c, PySem.valueAt l' (f k) = some c ∧ VRel hO.prv μ h v c) ∧ (kvGet k l = none -> PySem.valueAt l' (f k) = none) := by
  induction r with
  | nil => exact ⟨fun v e => (by exact no e), fun V => rfl⟩
  | @cons k' u c r r' x xs ih =>
    unfold kvGet PySem.valueAt
    unfold PySem.valueAt at ih
    rw [List.find?_cons]
    by_cases q : k' = k
    · subst q
      simp only [if_true, decide_true]
      exact ⟨fun v e => by cases e; exact ⟨c, rfl, x⟩, fun e => by cases e⟩
    · have q' : ¬ f k' = f k := fun z => q (hf _ _ z)
      simp only [q, q', if_false, decide_false]
      exact ih
theorem kvHas_get {K : Type} [DecidableEq K] {k : K} : ∀ {l : List (K × AV)}, kvHas k l = (kvGet k l).isSome
  | [] => rfl
  | p :: r => by
    unfold kvHas kvGet
    by_cases q : p.1 = k
    · simp [q]
    · simp [q, kvHas_get (l := r)]
theorem KVs.isSome {K K' : Type} [DecidableEq K] [DecidableEq K'] {f : K -> K'} (hf : ∀ x y, f x = f y -> x = y) {μ : List Addr} {h : Heap} {k : K} {l : List (K × AV)} {l' : List (K' × Value)} (x : KVs f hO.prv μ h l l') :
    (PySem.valueAt l' (f k)).isSome = kvHas k l := by
  obtain ⟨i1, i2⟩ := x.valueAt hf (k := k)
  rw [kvHas_get]
  cases e : kvGet k l with
  | none => rw [i2 e]; rfl
  | some v => obtain ⟨c, h1, _⟩ := i1 v e; rw [h1]; rfl

theorem St.look {μ : List Addr} {σ : List AObj} {h : Heap} (X : St prog w hO μ σ h) {i : Nat} {a : Addr} {o : AObj} (e : μ[i]? = some a) (e' : look σ i = some o) : ORel prog w hO.prv μ h o a := by
  unfold Mine.look at e'
  obtain ⟨o', h1, rfl⟩ := Option.map_eq_some_iff.mp e'
  exact (X.rel i a o' e h1).thaw
theorem St.at {μ : List Addr} {σ : List AObj} {h : Heap} (X : St prog w hO μ σ h) {i : Nat} {a : Addr} {o : AObj} (e : μ[i]? = some a) (e' : σ[i]? = some o) : ORel prog w hO.prv μ h o a := X.rel i a o e e'
theorem St.ne_mod {μ : List Addr} {σ : List AObj} {h : Heap} (X : St prog w hO μ σ h) {i : Nat} {a : Addr} (hi : μ[i]? = some a) : (a == sysModules) = false :=
  beq_eq_false_iff_ne.mpr fun q => Nat.lt_irrefl _ (Nat.lt_of_lt_of_le hO.lo_ok (q ▸ X.nm _ (List.mem_of_getElem? hi)))
theorem s_inGen {A : Around} {E : Value -> Shared -> Prop} {s : Shared} {μ : List Addr} {σ : List AObj} {a b : AV} {ca cb : Value} {r : Bool} (R : Room n A) (e : inV a b σ = some r) (ra : VRel hO.prv μ s.heap a ca) (rb : VRel hO.prv μ s.heap b cb) (X : St prog w hO μ σ s.heap) :
    (∀ Q : Value -> Shared -> Prop, (∀ t, Q (.bool r) { s with toks := t }) -> wpAny (model prog w) A (compareOp .In ca cb) Q E s) ∧ (∀ Q : Value -> Shared -> Prop, (∀ t, Q (.bool (!r)) { s with toks := t }) -> wpAny (model prog w) A (compareOp .NotIn ca cb) Q E s) := by
  have hu : A.units + 65 < cLine := by have := R.2.2; omega
  have genL : ∀ {xs : List AV}, (isDatas xs = true -> ∃ as, Reads s.heap cb (.list (pds xs)) as) -> (if okD a && okD (.lst xs) then some ((pds xs).any fun y => PyData.eqv y (pd a)) else none) = some r ->
      (∀ Q : Value -> Shared -> Prop, (∀ t, Q (.bool r) { s with toks := t }) -> wpAny (model prog w) A (compareOp .In ca cb) Q E s) ∧ (∀ Q : Value -> Shared -> Prop, (∀ t, Q (.bool (!r)) { s with toks := t }) -> wpAny (model prog w) A (compareOp .NotIn ca cb) Q E s) := by
    intro xs rb e
    split at e
    · rename_i hs
      cases e
      obtain ⟨h1, h2⟩ := Bool.and_eq_true_iff.mp hs
      obtain ⟨i1, j1⟩ := okD_sh h1
      obtain ⟨i2, j2⟩ := okD_sh h2
      obtain ⟨as, q1⟩ := ra.reads i1
      unfold isData at i2
      obtain ⟨bs, q2⟩ := rb i2
      unfold pd at j2
      have c2 := SeqAt.canLay_of_shaped j2
      exact ⟨fun Q hq => SeqAt.in_list_reads q2 q1 c2 (SeqAt.canLay_of_shaped j1) (room_in_shaped j1 hu) (hq s.toks), fun Q hq => SeqAt.notIn_list_reads q2 q1 c2 (SeqAt.canLay_of_shaped j1) (room_in_shaped j1 hu) (hq s.toks)⟩
    · exact no e
  unfold inV at e
  cases b with
  | tup xs =>
    dsimp only at e
    split at e
    · rename_i hs
      cases e
      obtain ⟨h1, h2⟩ := Bool.and_eq_true_iff.mp hs
      obtain ⟨i1, j1⟩ := okD_sh h1
      obtain ⟨i2, j2⟩ := okD_sh h2
      obtain ⟨as, q1⟩ := ra.reads i1
      obtain ⟨bs, q2⟩ := rb.reads i2
      unfold pd at q2 j2
      have c2 := SeqAt.canLay_of_shaped j2
      exact ⟨fun Q hq => SeqAt.in_tuple_reads q2 q1 c2 (SeqAt.canLay_of_shaped j1) (room_in_shaped j1 hu) (hq s.toks), fun Q hq => SeqAt.notIn_tuple_reads q2 q1 c2 (SeqAt.canLay_of_shaped j1) (room_in_shaped j1 hu) (hq s.toks)⟩
    · exact no e
  | lst xs =>
    refine genL (fun q => ?_) e
    have := rb.reads (by unfold isData; exact q)
    unfold pd at this
    exact this
  | obj d =>
    obtain ⟨ad, rfl, hd⟩ := rb.iObj
    dsimp only at e
    cases ho : look σ d with
    | none => rw [ho] at e; exact no e
    | some ob =>
      rw [ho] at e
      cases ob with
      | id kvs =>
        cases a with
        | int i =>
          apply ra.eInt; intro t
          cases e
          obtain ⟨l, D, kv⟩ := X.look hd ho
          have eS := kv.isSome (fun V V z => z) (k := i)
          refine ⟨fun Q hq => ?_, fun Q hq => ?_⟩
          · refine wpAny_in_of (knd := intKind prog w) (k := i) int_is (X.ne_mod hd) D.mapOf ?_
            rw [eS]
            exact hq _
          · refine wpAny_notIn_of (knd := intKind prog w) (k := i) int_is (X.ne_mod hd) D.mapOf ?_
            rw [eS]
            exact hq _
        | _ => exact no e
      | lst xs =>
        refine genL (fun q => ?_) e
        obtain ⟨cs, m1, ho1, rs⟩ := X.look hd ho
        obtain ⟨as, q'⟩ := rs.reads q
        exact ⟨_, .list ho1 rfl rfl (by simpa using q')⟩
      | sd _ => exact no e
      | td _ => exact no e
      | fld _ => exact no e
      | frz _ => exact no e
      | any => exact no e
  | _ => exact no e
theorem s_in : Snd2 prog w hO n (compareOp .In) oIn := by
  intro A a b ca cb σ v σ' s μ Q E R e ra rb X P
  unfold oIn at e
  cases h : inV a b σ with
  | none => rw [h] at e; exact no e
  | some r => rw [h] at e; have P := P.of e; exact (s_inGen R h ra rb X).1 Q fun t => P s.heap t μ _ (.refl _ _ _) X (.bool _)
theorem s_notIn : Snd2 prog w hO n (compareOp .NotIn) oNotIn := by
  intro A a b ca cb σ v σ' s μ Q E R e ra rb X P
  unfold oNotIn at e
  cases h : inV a b σ with
  | none => rw [h] at e; exact no e
  | some r => rw [h] at e; have P := P.of e; exact (s_inGen R h ra rb X).2 Q fun t => P s.heap t μ _ (.refl _ _ _) X (.bool _)
end
end
section
noncomputable def lstOf (v : AV) (σ : List AObj) : Option (List AV) := match v with
  | .lst xs => some xs
  | .obj i => match look σ i with
    | some (.lst xs) => some xs
    | _ => none
  | _ => none
noncomputable def idx (xs : List AV) (i : Int) : Option AV := if -(2 ^ 63) ≤ i ∧ i < 2 ^ 63 then (seqIndex? i xs.length).bind (xs[·]?) else none
noncomputable def getV (a k : AV) (σ : List AObj) : Option AV := match k with
  | .int i => match a with
    | .tup xs => idx xs i
    | .lst xs => idx xs i
    | .obj d => match look σ d with
      | some (.lst xs) => idx xs i
      | some (.id kvs) => kvGet i kvs
      | _ => none
    | _ => none
  | .str x => match a with
    | .obj d => match look σ d with
      | some (.sd kvs) => kvGet x kvs
      | _ => none
    | _ => none
  | _ => none
noncomputable def oGet (a k : AV) (σ : List AObj) : Option (AV × List AObj) := (getV a k σ).map fun v => (v, σ)
noncomputable def oTo (a k : AV) (σ : List AObj) : Option (AV × List AObj) := match k with
  | .int i => if 0 ≤ i then (lstOf a σ).bind fun xs => if xs.length ≤ 1000 then some (.lst (xs.take i.toNat), σ) else none else none
  | _ => none
noncomputable def oFrom (a k : AV) (σ : List AObj) : Option (AV × List AObj) := match k with
  | .int i => if 0 ≤ i then (lstOf a σ).bind fun xs => if xs.length ≤ 1000 then some (.lst (xs.drop i.toNat), σ) else none else none
  | _ => none

section
variable {prog : Program} {w : World} {hO : HB} {n : Nat} {sc : Scope}

theorem lst_of {a : AV} {ca : Value} {σ : List AObj} {μ : List Addr} {h : Heap} {xs : List AV} (X : St prog w hO μ σ h) (r : VRel hO.prv μ h a ca) (e : lstOf a σ = some xs) : X2 fun l cs => A3 (ca = .ref l) (h.IsList l cs.toArray) (VRels hO.prv μ h xs cs) := by
  unfold lstOf at e
  cases a with
  | lst => cases e; apply r.eLst; intro l cs t _ rs; exact ⟨_, _, rfl, t, rs⟩
  | obj d =>
    dsimp only at e
    split at e
    · rename_i ho
      cases e
      apply r.eObj; intro ad hd
      obtain ⟨cs, n, hl, rs⟩ := X.look hd ho
      exact ⟨_, cs, rfl, isL hl, rs⟩
    · exact no e
  | _ => exact no e

theorem get_lst {A : Around} {E : Value -> Shared -> Prop} {s : Shared} {μ : List Addr} {l : Addr} {cs : List Value} {xs : List AV} {i : Int} {t : Tok} {v : AV} {Q : Value -> Shared -> Prop} (hl : s.heap.IsList l cs.toArray) (rs : VRels hO.prv μ s.heap xs cs) (e : idx xs i = some v)
    (h : ∀ c, VRel hO.prv μ s.heap v c -> Q c s) : wpAny (model prog w) A (getItem (.ref l) (.int i t)) Q E s := by
  unfold idx at e
  split at e
  · rename_i hb
    refine bind1 e fun j hj hx => ?_
    obtain ⟨c, hc, rc⟩ := rs.get hx
    by_cases h0 : i < 0
    · exact kde_getNeg hl h0 hb.1 (by rw [← rs.length]; exact hj) hc (h c rc)
    · refine wpAny_getItem_list hl (by omega) hb.2 ?_ (h c rc)
      unfold seqIndex? at hj
      rw [if_neg h0] at hj
      simp only at hj
      split at hj
      · cases hj; simpa using hc
      · cases hj
  · exact no e
theorem get_any {A : Around} {E : Value -> Shared -> Prop} {s : Shared} {μ : List Addr} {σ : List AObj} {a k v : AV} {ca ck : Value} {Q : Value -> Shared -> Prop} (X : St prog w hO μ σ s.heap) (ra : VRel hO.prv μ s.heap a ca) (rk : VRel hO.prv μ s.heap k ck) (e : getV a k σ = some v)
    (h : ∀ c t', VRel hO.prv μ s.heap v c -> Q c { s with toks := t' }) : (∃ T id, s.TypeIs ca T ∧ typeLookup (.type T) "__getitem__" = pure (some (.builtin id))) ∧ wpAny (model prog w) A (getItem ca ck) Q E s := by
  unfold getV at e
  cases k with
  | int i =>
    apply rk.eInt; intro t
    cases a with
    | tup xs =>
      apply ra.eTup; intro l cs a1 _ a3
      refine ⟨⟨_, _, a1.typeIs, slot_tuple_getitem.lookup⟩, ?_⟩
      dsimp only at e
      unfold idx at e
      split at e
      · rename_i hb
        refine bind1 e fun j hj hx => ?_
        obtain ⟨c, hc, rc⟩ := a3.get hx
        exact getItem_tuple a1 hb.1 hb.2 (by rw [List.size_toArray, ← a3.length]; exact hj) (by simpa using hc) (h c _ rc)
      · exact no e
    | lst =>
      apply ra.eLst; intro l cs a1 _ a3
      exact ⟨⟨_, _, a1.typeIs, slot_list_getitem.lookup⟩, get_lst a1 a3 e fun c rc => h c _ rc⟩
    | obj d =>
      apply ra.eObj; intro ad hd
      dsimp only at e
      split at e
      · rename_i ho
        obtain ⟨cs, n, hl0, rs⟩ := X.look hd ho
        have hl := isL hl0
        exact ⟨⟨_, _, hl.typeIs, slot_list_getitem.lookup⟩, get_lst hl rs e fun c rc => h c _ rc⟩
      · rename_i ho
        obtain ⟨l, D, kv⟩ := X.look hd ho
        obtain ⟨c, h1, rc⟩ := (kv.valueAt (fun V V z => z) (k := i)).1 v e
        exact ⟨⟨_, _, D.mapOf.typeIs, slot_dict_getitem.lookup⟩, wpAny_getItem_of (knd := intKind prog w) (k := i) int_is D.mapOf h1 (h c _ rc)⟩
      · exact no e
    | _ => exact no e
  | str x =>
    apply rk.eStr; intro t
    cases a with
    | obj d =>
      apply ra.eObj; intro ad hd
      dsimp only at e
      split at e
      · rename_i ho
        obtain ⟨l, D, kv⟩ := X.look hd ho
        obtain ⟨c, h1, rc⟩ := (kv.valueAt (fun V V z => S_inj z) (k := x)).1 v e
        exact ⟨⟨_, _, D.mapOf.typeIs, slot_dict_getitem.lookup⟩, wpAny_getItem_of (knd := PySem.strKind prog w) (k := S x) (strKind_is prog w (S x) t) D.mapOf h1 (h c _ rc)⟩
      · exact no e
    | _ => exact no e
  | _ => exact no e
theorem s_get {value slice : Expr} (hs : ∀ o i, subscripted slice false o i = operate [o, i] (getItem o i)) : Snd2 prog w hO n (subscriptTail value slice) oGet := by
  intro A a b ca cb σ v σ' s μ Q E R e ra rb X P
  unfold oGet at e
  cases ev : getV a b σ with
  | none => rw [ev] at e; exact no e
  | some u =>
    rw [ev] at e
    have P := P.of e
    obtain ⟨⟨T, id, hT, hl⟩, hg⟩ := get_any (E := E) (A := A) X ra rb ev (fun c t' rc => P s.heap t' μ c (.refl _ _ _) X rc)
    cases a with
    | tup => obtain ⟨l, cs, rfl, _⟩ := ra.iTup; exact tail_any hT hl hg (hs _ _)
    | lst => obtain ⟨l, cs, rfl, _⟩ := ra.iLst; exact tail_any hT hl hg (hs _ _)
    | obj => obtain ⟨l, rfl, _⟩ := ra.iObj; exact tail_any hT hl hg (hs _ _)
    | _ => unfold getV at ev; cases b <;> exact no ev
theorem sndE_sub {value slice : Expr} {pos : Pos} {dv dk : Den} (hv : SndE prog w hO n sc value dv) (hk : SndE prog w hO n sc slice dk) (hs : ∀ o i, subscripted slice false o i = operate [o, i] (getItem o i)) : SndE prog w hO n sc (.Subscript value slice pos) (d2 oGet dv dk) := by
  intro A ρ σ v σ' x s own μ Q E R e F X P
  refine bind2 e fun a σ1 e1 e => ?_
  refine bind2 e fun b σ2 e2 e => ?_
  refine Subscript_ (hv _ _ _ _ _ x s own μ _ _ R e1 F X fun h1 t1 μ1 ca G1 X1 r1 => ?_)
  refine hk _ _ _ _ _ x _ own μ1 _ _ R e2 (F.grow G1) X1 fun h2 t2 μ2 cb G2 X2 r2 => ?_
  exact s_get hs _ _ _ _ _ _ _ _ _ μ2 _ _ R e (r1.grow G2 (.nil _)) r2 X2 ((P.step G1).step G2)
theorem tail_slice {A : Around} {E : Value -> Shared -> Prop} {s : Shared} {value slice : Expr} {l : Addr} {cs : List Value} {vl vu : Value} {lo hi : Option Int} {Q : Value -> Shared -> Prop} (hl : s.heap.IsList l cs.toArray) (pl : IsPart vl lo) (pu : IsPart vu hi) (hz : cs.length ≤ 1000)
    (hs : ∀ o i, subscripted slice false o i = operate [i, o] (getItem o i))
    (h : Q (.ref (s.heap.objs.size + 1)) { s with heap := (s.heap.push { cls := .type "slice", data := .fields #[vl, vu, .none] }).push { cls := .type "list", data := .seq (slicePick cs.toArray lo hi none) } }) :
    wpAny (model prog w) A (subscriptTail value slice (.ref l) (.ref s.heap.objs.size)) Q E { s with heap := s.heap.push { cls := .type "slice", data := .fields #[vl, vu, .none] } } := by
  refine tail_any (Heap.IsList.typeIs (s := { s with heap := s.heap.push { cls := .type "slice", data := .fields #[vl, vu, .none] } }) (hl.push _)) list_getitem_lookup
    (wpAny_getItem_list_slice (hl.push _) (Heap.IsSliceOf.new ..) pl pu .none (by simp) ?_ ?_) (hs _ _)
  · show Q (.ref (s.heap.push _).objs.size) _
    rw [Heap.size_push]
    exact h
  · rw [List.size_toArray]; exact Nat.le_trans hz (by decide)
theorem sndE_to {value u : Expr} {p pos : Pos} {dv du : Den} (hv : SndE prog w hO n sc value dv) (hu : SndE prog w hO n sc u du) : SndE prog w hO n sc (.Subscript value (.Slice none (some u) none p) pos) (d2 oTo dv du) := by
  intro A ρ σ v σ' x s own μ Q E R e F X P
  refine bind2 e fun a σ1 e1 e => ?_
  refine bind2 e fun b σ2 e2 e => ?_
  refine Subscript_ (hv _ _ _ _ _ x s own μ _ _ R e1 F X fun h1 t1 μ1 ca G1 X1 r1 => ?_)
  refine wpAny_Slice (evalPart_none_step (evalPart_some_step (hu _ _ _ _ _ x _ own μ1 _ _ R e2 (F.grow G1) X1 fun h2 t2 μ2 cb G2 X2 r2 => evalPart_none_step ?_)))
  have r1' := r1.grow G2 (.nil _)
  unfold oTo at e
  cases b with
  | int i =>
    apply r2.eInt; intro t
    dsimp only at e
    split at e
    · rename_i h0
      refine bind1 e fun xs exs e => ?_
      split at e
      · rename_i hz
        have P := P.of e
        obtain ⟨l, cs, rfl, hl, rs⟩ := lst_of X2 r1' exs
        refine tail_slice (s := { s with heap := h2, toks := t2 }) hl .none (.int i t) (by rw [← rs.length]; exact hz) (fun V V => rfl) ?_
        obtain ⟨j, rfl⟩ := Int.eq_ofNat_of_zero_le h0
        rw [slicePick_upto']
        have X3 := (X2.push { cls := .type "slice", data := .fields #[.none, .int j t, .none] })
        have G3 := (G1.trans G2).push { cls := .type "slice", data := .fields #[.none, .int j t, .none] }
        have e1 : (h2.push { cls := .type "slice", data := .fields #[.none, .int j t, .none] }).objs.size = h2.objs.size + 1 := Heap.size_push _ _
        refine P _ t2 μ2 _ (G3.push _) (X3.push _) (.lst ⟨_, by rw [← e1]; exact Heap.get?_push_size _ rfl, rfl, 0, rfl⟩ (e1 ▸ X3.fresh) ?_)
        exact (rs.take j).grow ((grow_push _).push _) (.nil _)
      · exact no e
    · exact no e
  | _ => exact no e
theorem sndE_from {value u : Expr} {p pos : Pos} {dv du : Den} (hv : SndE prog w hO n sc value dv) (hu : SndE prog w hO n sc u du) : SndE prog w hO n sc (.Subscript value (.Slice (some u) none none p) pos) (d2 oFrom dv du) := by
  intro A ρ σ v σ' x s own μ Q E R e F X P
  refine bind2 e fun a σ1 e1 e => ?_
  refine bind2 e fun b σ2 e2 e => ?_
  refine Subscript_ (hv _ _ _ _ _ x s own μ _ _ R e1 F X fun h1 t1 μ1 ca G1 X1 r1 => ?_)
  refine wpAny_Slice (evalPart_some_step (hu _ _ _ _ _ x _ own μ1 _ _ R e2 (F.grow G1) X1 fun h2 t2 μ2 cb G2 X2 r2 => evalPart_none_step (evalPart_none_step ?_)))
  have r1' := r1.grow G2 (.nil _)
  unfold oFrom at e
  cases b with
  | int i =>
    apply r2.eInt; intro t
    dsimp only at e
    split at e
    · rename_i h0
      refine bind1 e fun xs exs e => ?_
      split at e
      · rename_i hz
        have P := P.of e
        obtain ⟨l, cs, rfl, hl, rs⟩ := lst_of X2 r1' exs
        refine tail_slice (s := { s with heap := h2, toks := t2 }) hl (.int i t) .none (by rw [← rs.length]; exact hz) (fun V V => rfl) ?_
        obtain ⟨j, rfl⟩ := Int.eq_ofNat_of_zero_le h0
        rw [slicePick_from']
        have X3 := (X2.push { cls := .type "slice", data := .fields #[.int j t, .none, .none] })
        have G3 := (G1.trans G2).push { cls := .type "slice", data := .fields #[.int j t, .none, .none] }
        have e1 : (h2.push { cls := .type "slice", data := .fields #[.int j t, .none, .none] }).objs.size = h2.objs.size + 1 := Heap.size_push _ _
        refine P _ t2 μ2 _ (G3.push _) (X3.push _) (.lst ⟨_, by rw [← e1]; exact Heap.get?_push_size _ rfl, rfl, 0, rfl⟩ (e1 ▸ X3.fresh) ?_)
        exact (rs.drop j).grow ((grow_push _).push _) (.nil _)
      · exact no e
    · exact no e
  | _ => exact no e
end
end
section
noncomputable def oAttr (C : Addr) (x : String) (a : AV) (σ : List AObj) : Option (AV × List AObj) := match a with
  | .ins C' i => if C' = C then match look σ i with
    | some (.fld fs) => (fs.lookup x).map fun v => (v, σ)
    | _ => none
    else none
  | _ => none
noncomputable def oSetAttr (C : Addr) (x : String) (v a : AV) (σ : List AObj) : Option (List AObj) := match a with
  | .ins C' i => if C' = C then match σ[i]? with
    | some (.fld fs) => if fs.length ≤ 100 then some (σ.set i (.fld (fput x v fs))) else none
    | _ => none
    else none
  | _ => none

noncomputable def getOk (K : Frag) (C : Addr) (x : Str) : Bool := hasDictIn K C && findIn K (.ref C) "__getattribute__" == some (some (.builtin "object.__getattribute__")) && (findIn K (.ref C) x).any fun a => noGet K a
noncomputable def setOk (K : Frag) (C : Addr) (x : Str) : Bool := hasDictIn K C && findIn K (.ref C) "__setattr__" == some (some (.builtin "object.__setattr__")) && plainOver K C && takerIn K C x == some none

section
variable {prog : Program} {w : World} {hO : HB} {n : Nat} {sc : Scope}

theorem inst_of {μ : List Addr} {σ : List AObj} {h : Heap} {C x dx : Addr} {i : Nat} {fs : List (String × AV)} (X : St prog w hO μ σ h) (hi : μ[i]? = some dx) (hx : h.get? x = some (instObj C dx)) (ho : look σ i = some (.fld fs)) :
    X2 fun es m => A3 (PySem.W.InstAt h x (instObj C dx) C (some (dictOf es m))) (FRel hO.prv μ h fs es) (h.get? dx = some (dictOf es m)) := by
  obtain ⟨es, m, he, fr⟩ := X.look hi ho
  exact ⟨es, m, ⟨hx, rfl, rfl, he⟩, fr, he⟩
theorem VRel.handed {μ : List Addr} {h : Heap} {v : AV} {c : Value} (r : VRel hO.prv μ h v c) : handedIn c = true := by cases r <;> rfl
theorem Base.kin {mg mb : Str -> Option Value} {K : Frag} {μ : List Addr} {σ : List AObj} {h : Heap} (B : Base hO K mg mb) (X : St prog w hO μ σ h) : K.In h := fun a o e => X.base a o (B.k a o e)

set_option tactic.hygienic true in
theorem s_attr {mg mb : Str -> Option Value} {K : Frag} {C : Addr} {y : String} {expr : Bool} (B : Base hO K mg mb) (hk : getOk K C (S y) = true) : Snd1 prog w hO n (fun o => getAttr o (S y) expr) (oAttr C y) := by
  intro A a ca σ v σ' s μ Q E R e ra X P
  simp only [getOk, Bool.and_eq_true, beq_iff_eq] at hk
  obtain ⟨⟨hd, hga⟩, hf⟩ := hk
  unfold oAttr at e
  cases a with
  | ins C' i =>
    apply ra.eIns; intro x dx hi hx hn
    dsimp only at e
    split at e
    · rename_i hC
      subst hC
      split at e
      · rename_i fs ho
        · cases hl : fs.lookup y with
          | none => rw [hl] at e; exact no e
          | some u =>
            rw [hl] at e
            have P := P.of e
            obtain ⟨es, m, I, fr, he⟩ := inst_of X hi hx ho
            obtain ⟨c, h1, rc⟩ := fr.get hl
            cases hfi : findIn K (.ref C') (S y) with
            | none => rw [hfi] at hf; cases hf
            | some attr =>
              rw [hfi] at hf
              exact get_value (B.kin X) I hga (findObj_own hd hfi hf (by rw [lookIn_dict]; exact h1)) rc.handed (P s.heap _ μ c (.refl _ _ _) X rc)
      · exact no e
    · exact no e
  | _ => exact no e

theorem nsSet_own {A : Around} {E : Value -> Shared -> Prop} {s : Shared} {dx : Addr} {es : List DictEntry} {m : Nat} {name : Str} {v : Value} {Q : Unit -> Shared -> Prop} (D : s.heap.get? dx = some (dictOf es m)) (hr : es.any (·.refKey) = false)
    (h : ∀ h', h'.get? dx = some (dictOf (putL name (PyData.keyHash w.params name) (.str name s.toks) v es) (putN name es m)) -> Heap.SameBut dx s.heap h' -> Q () { s with heap := h', toks := s.toks + 1 }) :
    wpAny (model prog w) A (nsSet dx name v) Q E s := by
  unfold nsSet
  refine wpAny_bind (wpAny_bind (wpAny_askSetting (wpAny_pure (wpAny_bind (wpAny_mkText (wpAny_bind (wpAny_loadPart D ?_)))))))
  dsimp only
  rw [aRefKeyMayBeTheName_at, ← Array.any_toList, ← Array.any_toList]
  show wpAny _ _ (if (!es.any (·.key.isStr name) && es.any (·.refKey)) = true then _ else _) _ _ _
  rw [hr, Bool.and_false]
  refine wpAny_updatePart D (h _ ?_ (Heap.SameBut.update ..))
  have q := putName_dict name (PyData.keyHash w.params name) (.str name s.toks) v es m
  rw [Heap.get?_update_self _ D]
  · exact congrArg some q
  · show (Obj.putName name (PyData.keyHash w.params name) (.str name s.toks) v (dictOf es m)).isFreed = false
    rw [q]; rfl

theorem putL_length (name : Str) (hsh : Int) (key v : Value) : ∀ es : List DictEntry, (putL name hsh key v es).length ≤ es.length + 1
  | [] => by simp [putL]
  | e :: r => by
    unfold putL
    split
    · simp
    · have := putL_length name hsh key v r
      simp only [List.length_cons]; omega

set_option tactic.hygienic true in
theorem s_setAttr {mg mb : Str -> Option Value} {K : Frag} {C : Addr} {y : String} (B : Base hO K mg mb) (hk : setOk K C (S y) = true) {A : Around} {E : Value -> Shared -> Prop} {s : Shared} {μ : List Addr} {σ σ' : List AObj} {a v : AV} {ca cv : Value} {Q : Unit -> Shared -> Prop} (e : oSetAttr C y v a σ = some σ')
    (ra : VRel hO.prv μ s.heap a ca) (rv : VRel hO.prv μ s.heap v cv) (X : St prog w hO μ σ s.heap) (P : PostU prog w hO s μ σ' Q) : wpAny (model prog w) A (setAttr ca (S y) cv) Q E s := by
  simp only [setOk, Bool.and_eq_true, beq_iff_eq] at hk
  obtain ⟨⟨⟨hd, hsa⟩, hp⟩, ht⟩ := hk
  unfold oSetAttr at e
  cases a with
  | ins C' i =>
    apply ra.eIns; intro x dx hi hx hn
    dsimp only at e
    split at e
    · rename_i hC
      subst hC
      split at e
      · rename_i fs ho
        · split at e
          · rename_i hz
            have P := P.of e
            have hfree := X.free hi ho (by intro _ q; cases q)
            obtain ⟨es, m, I, fr, he⟩ := inst_of X hi hx (by unfold look; rw [ho]; rfl)
            refine set_plain (B.kin X) I hsa (osa_open (s := { s with toks := s.toks + 1 }) (B.kin X) I hp ht fun b => ?_)
            obtain ⟨cd, hc, hd'⟩ := any_some hd
            refine wpAny_bind (wpAny_pure (wpAny_bind (wpAny_bind (wpAny_loadPart hx (wpAny_bind (Looks.here (s := { s with toks := s.toks + 1 }) (looks_clsIn (B.kin X) hc) ?_))))))
            rw [hd']
            refine wpAny_pure (a := some dx) (wpAny_bind (wpAny_pure (wpAny_bind (nsSet_own (s := { s with toks := s.toks + 1 }) he fr.noRef fun h' he' hs' => ?_))))
            have lz := putL_length (S y) (PyData.keyHash w.params (S y)) (.str (S y) (s.toks + 1)) cv es
            have lf := fr.length
            refine wpAny_bind (wpAny_lookBehind he' (pastItsLine_dict (by rw [List.size_toArray, sizeLine_eq]; exact Nat.le_trans lz (by omega))) (wpAny_pure ?_))
            have G : Grow [] μ s.heap μ h' := grow_set (List.mem_of_getElem? hi) hs'
            exact P h' _ μ G (X.set hi hfree hs' ⟨_, _, he', (fr.grow G (.nil _)).put (rv.grow G (.nil _))⟩)
          · exact no e
      · exact no e
    · exact no e
  | _ => exact no e
theorem sndE_attr {mg mb : Str -> Option Value} {K : Frag} {C : Addr} {y : String} {value : Expr} {pos : Pos} {d : Den} (B : Base hO K mg mb) (hv : SndE prog w hO n sc value d) (hk : getOk K C (S y) = true)
    (he : ∀ env, eval (.Attribute value (Str.ofString y) pos) env = (do
      let o ← eval value env
      standAt pos.atName
      let r ← holding [o] (getAttr o (Str.ofString y) true)
      letTemporaryGo value o r
      pure r)) : SndE prog w hO n sc (.Attribute value (Str.ofString y) pos) (d1 (oAttr C y) d) := by
  intro A ρ σ v σ' x s own μ Q E R e F X P
  refine bind2 e fun a σ1 e1 e => ?_
  refine Attribute_any_ (hv _ _ _ _ _ x s own μ _ _ R e1 F X fun h1 t1 μ1 ca G1 X1 r1 => ?_) (he _)
  exact s_attr B hk _ _ _ _ _ _ _ μ1 _ _ R e r1 X1 (P.step G1)
end
end
section
section den
noncomputable def dsFail : DenS := fun V V => none
noncomputable def dsNil : DenS := fun ρ σ => some (.next, ρ, σ)
noncomputable def dsSeq (a b : DenS) : DenS := fun ρ σ => (a ρ σ).bind fun p => match p.1 with | .next => b p.2.1 p.2.2 | .ret v => some (.ret v, p.2)
noncomputable def dsIf (c : DenC) (a b : DenS) : DenS := fun ρ σ => (c ρ σ).bind fun p => match p.1 with | true => a ρ p.2 | false => b ρ p.2
noncomputable def dsRet (d : Den) : DenS := fun ρ σ => (d ρ σ).bind fun p => some (.ret p.1, ρ, p.2)
noncomputable def dsExpr (d : Den) : DenS := fun ρ σ => (d ρ σ).bind fun p => some (.next, ρ, p.2)
noncomputable def dsSet (x : String) (d : Den) : DenS := fun ρ σ => (d ρ σ).bind fun p => some (.next, ρ.set x p.1, p.2)
noncomputable def bindRho : List String -> List AV -> Rho -> Option Rho
  | [], [], ρ => some ρ
  | x :: xs, v :: vs, ρ => bindRho xs vs (ρ.set x v)
  | _, _, _ => none
noncomputable def dsTup (xs : List String) (d : Den) : DenS := fun ρ σ => (d ρ σ).bind fun p => match p.1 with | .tup vs => (bindRho xs vs ρ).bind fun ρ' => some (.next, ρ', p.2) | _ => none
noncomputable def dsTupR (xs : List String) (d : Den) : DenS := fun ρ σ => (d ρ σ).bind fun p => match p.1 with | .tup vs => (bindRho xs.reverse vs.reverse ρ).bind fun ρ' => some (.next, ρ', p.2) | _ => none
noncomputable def dsAttr (C : Addr) (y : String) (d o : Den) : DenS := fun ρ σ => (d ρ σ).bind fun p => (o ρ p.2).bind fun q => (oSetAttr C y p.1 q.1 q.2).bind fun σ' => some (.next, ρ, σ')
end den

section
variable {prog : Program} {w : World} {hO : HB} {n : Nat} {sc : Scope}

def SndB (prog : Program) (w : World) (hO : HB) (n : Nat) (sc : Scope) (st : List Stmt) (d : DenS) : Prop :=
  ∀ (A : Around) (ρ : Rho) (σ : List AObj) (f : AFlow) (ρ' : Rho) (σ' : List AObj) (x : EP) (s : Shared) (own μ : List Addr) (Q : Flow -> Shared -> Prop) (E : Value -> Shared -> Prop), Room n A -> OwnsC (x.env sc) own -> d ρ σ = some (f, ρ', σ') ->
    FrOk hO s.heap (x.env sc) own μ ρ -> St prog w hO μ σ s.heap ->
    PostS prog w hO own (x.env sc) s μ f ρ' σ' Q ->
    wpAny (model prog w) A (execs st (x.env sc)) Q E s

theorem sndS_fail {st : Stmt} : SndS prog w hO n sc st dsFail := by
  intro A ρ σ f ρ' σ' x s own μ Q E R O e
  cases e
theorem sndB_nil : SndB prog w hO n sc [] dsNil := by
  intro A ρ σ f ρ' σ' x s own μ Q E R O e F X P
  have P := P.of e
  exact wpAny_execs_nil (P _ _ μ (.refl _ _ _) X F)
theorem sndB_cons {st : Stmt} {r : List Stmt} {a b : DenS} (ha : SndS prog w hO n sc st a) (hb : SndB prog w hO n sc r b) : SndB prog w hO n sc (st :: r) (dsSeq a b) := by
  intro A ρ σ f ρ' σ' x s own μ Q E R O e F X P
  refine bind3 e fun f1 ρ1 σ1 e1 e => ?_
  refine wpAny_execs_cons (ha _ _ _ _ _ _ x s own μ _ _ R O e1 F X fun h1 t1 μ1 G1 X1 F1 => ?_)
  cases f1 with
  | next => exact hb _ _ _ _ _ _ x _ own μ1 _ _ R O e F1 X1 fun h2 t2 μ2 G2 X2 F2 => P h2 t2 μ2 (G1.trans G2) X2 F2
  | ret v => have P := P.of e; exact fun c rc => P h1 t1 μ1 G1 X1 F1 c rc
theorem sndS_if {t : Expr} {a b : List Stmt} {pos : Pos} {c : DenC} {da db : DenS} (ht : SndC prog w hO n sc t c) (ha : SndB prog w hO n sc a da) (hb : SndB prog w hO n sc b db) : SndS prog w hO n sc (.If t a b pos) (dsIf c da db) := by
  intro A ρ σ f ρ' σ' x s own μ Q E R O e F X P
  refine bind2 e fun u σ0 e0 e => ?_
  refine wpAny_If (ht _ _ _ _ _ x s own μ _ _ R e0 F X fun h1 t1 μ1 G1 X1 => ?_)
  have up : ∀ {μ' h'}, Grow own μ1 h1 μ' h' -> Grow own μ s.heap μ' h' := fun G => (G1.mono fun V q => (nomatch q)).trans G
  cases u with
  | true => rw [if_pos rfl]; exact ha _ _ _ _ _ _ x _ own μ1 _ _ R O e (F.grow G1) X1 fun h2 t2 μ2 G2 X2 F2 => P h2 t2 μ2 (up G2) X2 F2
  | false => rw [if_neg Bool.false_ne_true]; exact hb _ _ _ _ _ _ x _ own μ1 _ _ R O e (F.grow G1) X1 fun h2 t2 μ2 G2 X2 F2 => P h2 t2 μ2 (up G2) X2 F2
theorem Grow.up {own μ μ' : List Addr} {h h' : Heap} (G : Grow [] μ h μ' h') : Grow own μ h μ' h' := G.mono fun V q => (nomatch q)
theorem sndS_ret {e : Expr} {pos : Pos} {d : Den} (he : SndE prog w hO n sc e d) : SndS prog w hO n sc (.Return (some e) pos) (dsRet d) := by
  intro A ρ σ f ρ' σ' x s own μ Q E R O e F X P
  refine bind2 e fun u σ0 e0 e => ?_
  have P := P.of e
  exact wpAny_Return_some (he _ _ _ _ _ x s own μ _ _ R e0 F X fun h1 t1 μ1 c G1 X1 r1 => P h1 t1 μ1 G1.up X1 (F.grow G1) c r1)
theorem sndS_expr {e : Expr} {pos : Pos} {d : Den} (he : SndE prog w hO n sc e d) (hi : sc.kind = .function) (hs : ∀ env, swapsWith e none pos.line env = pure false) : SndS prog w hO n sc (.Expr e pos) (dsExpr d) := by
  intro A ρ σ f ρ' σ' x s own μ Q E R O e F X P
  refine bind2 e fun u σ0 e0 e => ?_
  have P := P.of e
  refine wpAny_Expr_any (he _ _ _ _ _ x s own μ _ _ R e0 F X fun h1 t1 μ1 c G1 X1 r1 => P h1 t1 μ1 G1.up X1 (F.grow G1)) ?_ (hs _)
  unfold interactive
  simp [hi]

noncomputable def kindOk (sc : Scope) (x : String) : Bool := match sc.names.lookup (S x) with | some .local => true | some .cell => true | _ => false
theorem store_any {A : Around} {E : Value -> Shared -> Prop} {s : Shared} {env : Env} {own μ : List Addr} {ρ : Rho} {σ : List AObj} {x : String} {v : AV} {c : Value} {Q : Unit -> Shared -> Prop} (hk : env.scope.kind = .function) (hl : kindOk env.scope x = true) (O : OwnsOn env own [x]) (F : FrOk hO s.heap env own μ ρ) (X : St prog w hO μ σ s.heap) (hv : VRel hO.prv μ s.heap v c)
    (h : ∀ h' t', Grow own μ s.heap μ h' -> St prog w hO μ σ h' -> FrOk hO h' env own μ (ρ.set x v) -> Q () { s with heap := h', toks := t' }) : wpAny (model prog w) A (storeName env (S x) c) Q E s := by
  unfold kindOk at hl
  split at hl
  · rename_i q; exact store_local hk q F X hv h
  · rename_i q; exact store_cell hk q (O x List.mem_cons_self q) F X hv h
  · cases hl
theorem OwnsOn.sub {env : Env} {own : List Addr} {xs ys : List String} (O : OwnsOn env own xs) (h : ∀ y ∈ ys, y ∈ xs) : OwnsOn env own ys := fun y hy => O y (h y hy)
theorem sndS_set {y : String} {pos' pos : Pos} {value : Expr} {d : Den} (hv : SndE prog w hO n sc value d) (hk : sc.kind = .function) (hl : kindOk sc y = true) (hs : ∀ env, swapsWith value (some (.Name (Str.ofString y) pos')) pos.line env = pure false) : SndS prog w hO n sc (.Assign [.Name (Str.ofString y) pos'] value pos) (dsSet y d) := by
  intro A ρ σ f ρ' σ' x s own μ Q E R O e F X P
  refine bind2 e fun u σ0 e0 e => ?_
  cases e
  refine wpAny_Assign_Name (hv _ _ _ _ _ x s own μ _ _ R e0 F X fun h1 t1 μ1 c G1 X1 r1 => ?_) (hs _)
  exact store_any (env := x.env sc) hk hl (O.on _) (F.grow G1) X1 r1 fun h2 t2 G2 X2 F2 => P h2 t2 μ1 (G1.up.trans G2) X2 F2

inductive Names : List Expr -> List String -> Prop
  | nil : Names [] []
  | cons {x : String} {pos : Pos} {es : List Expr} {xs : List String} : Names es xs -> Names (.Name (Str.ofString x) pos :: es) (x :: xs)
theorem Names.each {env : Env} {es : List Expr} {xs : List String} (N : Names es xs) : (assignEach es env).findIdx? (·.1) = none ∧ (assignEach es env).length = xs.length := by
  induction N with
  | nil => exact ⟨rfl, rfl⟩
  | @cons x pos es xs r ih =>
    have e : assignEach (.Name (Str.ofString x) pos :: es) env = (false, assign (.Name (Str.ofString x) pos) env) :: assignEach es env := rfl
    rw [e]
    refine ⟨?_, congrArg (· + 1) ih.2⟩
    rw [List.findIdx?_cons]
    simp [ih.1]
theorem assign_names {A : Around} {E : Value -> Shared -> Prop} {env : Env} {own : List Addr} {σ : List AObj} {μ : List Addr} (hk : env.scope.kind = .function) {es : List Expr} {xs : List String} (N : Names es xs) : ∀ {s : Shared} {ρ ρ' : Rho} {vs : List AV} {cs : List Value} {Q : Unit -> Shared -> Prop} (O : OwnsOn env own xs) (hl : xs.all (kindOk env.scope) = true) (e : bindRho xs vs ρ = some ρ') (F : FrOk hO s.heap env own μ ρ) (X : St prog w hO μ σ s.heap) (hv : VRels hO.prv μ s.heap vs cs)
    (h : ∀ h' t', Grow own μ s.heap μ h' -> St prog w hO μ σ h' -> FrOk hO h' env own μ ρ' -> Q () { s with heap := h', toks := t' }), wpAny (model prog w) A (assignInOrder ((assignEach es env).map (·.2)) cs) Q E s := by
  induction N with
  | nil =>
    intro s ρ ρ' vs cs Q O hl e F X hv h
    cases vs with
    | cons => exact no e
    | nil =>
      apply hv.eNil
      cases e
      exact assignInOrder_nil (h s.heap s.toks (.refl _ _ _) X F)
  | @cons y pos es xs r ih =>
    intro s ρ ρ' vs cs Q O hl e F X hv h
    cases vs with
    | nil => exact no e
    | cons v vs =>
      apply hv.eCons; intro c cs r1 rs
      rw [List.all_cons, Bool.and_eq_true] at hl
      have e0 : assignEach (.Name (Str.ofString y) pos :: es) env = (false, assign (.Name (Str.ofString y) pos) env) :: assignEach es env := rfl
      rw [e0]
      refine assignInOrder_cons (assign_Name (store_any hk hl.1 (O.sub fun z hz => by rw [List.mem_singleton.mp hz]; exact .head _) F X r1 fun h1 t1 G1 X1 F1 => ?_))
      exact ih (O.sub fun y hy => List.mem_cons_of_mem _ hy) hl.2 e F1 X1 (rs.grow G1 F.data) fun h2 t2 G2 X2 F2 => h h2 t2 (G1.trans G2) X2 F2
theorem bind_names {A : Around} {E : Value -> Shared -> Prop} {env : Env} {own : List Addr} {σ : List AObj} {μ : List Addr} (hk : env.scope.kind = .function) {xs : List String} : ∀ {s : Shared} {ρ ρ' : Rho} {vs : List AV} {cs : List Value} {Q : Unit -> Shared -> Prop} (O : OwnsOn env own xs) (hl : xs.all (kindOk env.scope) = true) (e : bindRho xs vs ρ = some ρ') (F : FrOk hO s.heap env own μ ρ) (X : St prog w hO μ σ s.heap) (hv : VRels hO.prv μ s.heap vs cs)
    (h : ∀ h' t', Grow own μ s.heap μ h' -> St prog w hO μ σ h' -> FrOk hO h' env own μ ρ' -> Q () { s with heap := h', toks := t' }), wpAny (model prog w) A (assignInOrder ((xs.map S).map fun n => bindName env n) cs) Q E s := by
  induction xs with
  | nil =>
    intro s ρ ρ' vs cs Q O hl e F X hv h
    cases vs with
    | cons => exact no e
    | nil =>
      apply hv.eNil
      cases e
      exact assignInOrder_nil (h s.heap s.toks (.refl _ _ _) X F)
  | cons y xs ih =>
    intro s ρ ρ' vs cs Q O hl e F X hv h
    cases vs with
    | nil => exact no e
    | cons v vs =>
      apply hv.eCons; intro c cs r1 rs
      rw [List.all_cons, Bool.and_eq_true] at hl
      refine assignInOrder_cons (wpAny_bindName (store_any hk hl.1 (O.sub fun z hz => by rw [List.mem_singleton.mp hz]; exact .head _) F X r1 fun h1 t1 G1 X1 F1 => ?_))
      exact ih (O.sub fun y hy => List.mem_cons_of_mem _ hy) hl.2 e F1 X1 (rs.grow G1 F.data) fun h2 t2 G2 X2 F2 => h h2 t2 (G1.trans G2) X2 F2
theorem bindRho_len {xs : List String} : ∀ {vs : List AV} {ρ ρ' : Rho}, bindRho xs vs ρ = some ρ' -> vs.length = xs.length := by
  induction xs with
  | nil => intro vs _ _ e; cases vs with | nil => rfl | cons => cases e
  | cons x xs ih => intro vs _ _ e; cases vs with | nil => cases e | cons v vs => exact congrArg (· + 1) (ih e)
theorem VRels.reverse {μ : List Addr} {h : Heap} {vs : List AV} : ∀ {cs : List Value}, VRels hO.prv μ h vs cs -> VRels hO.prv μ h vs.reverse cs.reverse := by
  induction vs with
  | nil => intro cs r; apply r.eNil; exact .nil
  | cons v vs ih => intro cs r; apply r.eCons; intro c ds a b; rw [List.reverse_cons, List.reverse_cons]; exact (ih b).append (.cons a .nil)
theorem grow_ext {own μ : List Addr} {h h' : Heap} (hs : h.objs.size ≤ h'.objs.size) (he : Heap.ExtBut h.objs.size h h') : Grow own μ h μ h' :=
  have k : ∀ b o, h.get? b = some o -> h'.get? b = some o := fun b o e => he b o (Nat.ne_of_lt (Heap.lt_size e)) e
  ⟨⟨[], by simp, fun V q => (nomatch q)⟩, hs, fun b o e V V => k b o e⟩
theorem St.ext {μ : List Addr} {σ : List AObj} {h h' : Heap} (X : St prog w hO μ σ h) (hs : h.objs.size ≤ h'.objs.size) (he : Heap.ExtBut h.objs.size h h') : St prog w hO μ σ h' :=
  X.more hs fun b o e => he b o (Nat.ne_of_lt (Heap.lt_size e)) e
theorem unpackS {A : Around} {E : Value -> Shared -> Prop} {s : Shared} {t : Addr} {items : Array Value} {Q : List Value -> Shared -> Prop} (hh : A.handled = none) (ht : IsTup s.heap t items)
    (hQ : ∀ h', s.heap.objs.size ≤ h'.objs.size -> Heap.ExtBut s.heap.objs.size s.heap h' -> Q items.toList { s with heap := h' }) : wpAny (model prog w) A (unpackItems (.ref t) items.size none) Q E s :=
  with_size (unpackItems_tuple hh ht fun h' he hs => hQ h' hs he)
theorem assign_tup {A : Around} {E : Value -> Shared -> Prop} {env : Env} {own : List Addr} {σ : List AObj} {μ : List Addr} {es : List Expr} {xs : List String} {k : Nat} {pos : Pos} {s : Shared} {ρ ρ' : Rho} {vs : List AV} {c : Value} {Q : Unit -> Shared -> Prop} (hh : A.handled = none) (hk : env.scope.kind = .function) (O : OwnsOn env own xs) (N : Names es xs) (hl : xs.all (kindOk env.scope) = true) (e : bindRho xs vs ρ = some ρ') (F : FrOk hO s.heap env own μ ρ) (X : St prog w hO μ σ s.heap) (hv : VRel hO.prv μ s.heap (.tup vs) c)
    (h : ∀ h' t', Grow own μ s.heap μ h' -> St prog w hO μ σ h' -> FrOk hO h' env own μ ρ' -> Q () { s with heap := h', toks := t' }) : wpAny (model prog w) A (assign (.Tuple es k pos) env c) Q E s := by
  apply hv.eTup; intro _ cs t m rs
  · have ne := N.each (env := env)
    rw [assign_Tuple]
    refine wpAny_bind (wpAny_standAt ?_)
    unfold unpack
    rw [show (assignEach es env).length = _ from (by rw [ne.2, List.size_toArray, ← rs.length]; exact (bindRho_len e).symm : (assignEach es env).length = (List.toArray _).size), ne.1]
    refine wpAny_bind (wpAny_holding (unpackS hh t fun h1 hs he => ?_))
    have G := grow_ext (own := []) (μ := μ) hs he
    exact assign_names hk N (s := { s with heap := h1 }) O hl e (F.grow G) (X.ext hs he) (by simpa using rs.grow G (.nil _)) fun h2 t2 G2 X2 F2 => h h2 t2 (G.up.trans G2) X2 F2
theorem sndS_tup {es : List Expr} {xs : List String} {k : Nat} {tpos pos : Pos} {value : Expr} {d : Den} (N : Names es xs) (hv : SndE prog w hO n sc value d) (hk : sc.kind = .function) (hl : xs.all (kindOk sc) = true) (hs : ∀ env, swapsWithSole [.Tuple es k tpos] value pos.line env = pure false)
    (hw : ∀ x : EP, swappedStores [.Tuple es k tpos] value (x.env sc) = pure none) : SndS prog w hO n sc (.Assign [.Tuple es k tpos] value pos) (dsTup xs d) := by
  intro A ρ σ f ρ' σ' x s own μ Q E R O e F X P
  refine bind2 e fun u σ0 e0 e => ?_
  refine Assign_Tuple (hv _ _ _ _ _ x s own μ _ _ R e0 F X fun h1 t1 μ1 c G1 X1 r1 => ?_) (hs _) (hw x)
  cases u <;> try exact no e
  refine bind1 e fun ρ1 e1 e => ?_
  cases e
  exact assign_tup (env := x.env sc) R.1 hk (O.on _) N hl e1 (F.grow G1) X1 r1 fun h2 t2 G2 X2 F2 => P h2 t2 μ1 (G1.up.trans G2) X2 F2
theorem sndS_tupR {es : List Expr} {xs : List String} {k : Nat} {tpos pos : Pos} {value : Expr} {d : Den} (hv : SndE prog w hO n sc value d) (hk : sc.kind = .function) (hl : xs.reverse.all (kindOk sc) = true) (hs : ∀ env, swapsWithSole [.Tuple es k tpos] value pos.line env = pure false)
    (hw : ∀ x : EP, swappedStores [.Tuple es k tpos] value (x.env sc) = pure (some (xs.map S))) : SndS prog w hO n sc (.Assign [.Tuple es k tpos] value pos) (dsTupR xs d) := by
  intro A ρ σ f ρ' σ' x s own μ Q E R O e F X P
  refine bind2 e fun u σ0 e0 e => ?_
  refine Assign_Tuple_swapped (names := xs.map S) (hv _ _ _ _ _ x s own μ _ _ R e0 F X fun h1 t1 μ1 c G1 X1 r1 => ?_) (hs _) (hw x)
  cases u <;> try exact no e
  refine bind1 e fun ρ1 e1 e => ?_
  have P := P.of e
  apply r1.eTup; intro a cs t m rs
  · have hl2 := bindRho_len e1
    rw [List.length_reverse, List.length_reverse] at hl2
    rw [show (xs.map S).length = cs.toArray.size by rw [List.size_toArray, ← rs.length, hl2, List.length_map]]
    refine unpackS R.1 t fun h2 hsz he => ?_
    have G := grow_ext (own := []) (μ := μ1) hsz he
    rw [← List.map_reverse]
    refine bind_names (env := x.env sc) hk (s := { s with heap := h2, toks := t1 }) (O.on _) hl e1 ((F.grow G1).grow G) (X1.ext hsz he) (by simpa using (rs.grow G (.nil _)).reverse) fun h3 t3 G3 X3 F3 => ?_
    exact P h3 t3 μ1 ((G1.up.trans G.up).trans G3) X3 F3
theorem sndS_attr {mg mb : Str -> Option Value} {K : Frag} {C : Addr} {y : String} {o value : Expr} {pos' pos : Pos} {d do_ : Den} (B : Base hO K mg mb) (hv : SndE prog w hO n sc value d) (ho : SndE prog w hO n sc o do_) (hk : setOk K C (S y) = true)
    (hs : ∀ env, swapsWith value (some (.Attribute o (Str.ofString y) pos')) pos.line env = pure false) : SndS prog w hO n sc (.Assign [.Attribute o (Str.ofString y) pos'] value pos) (dsAttr C y d do_) := by
  intro A ρ σ f ρ' σ' x s own μ Q E R O e F X P
  refine bind2 e fun u σ0 e0 e => ?_
  refine bind2 e fun a σ1 e1 e => ?_
  refine bind1 e fun σ2 e2 e => ?_
  have P := P.of e
  refine plainObj_wpAny_Assign_Attribute (hv _ _ _ _ _ x s own μ _ _ R e0 F X fun h1 t1 μ1 cv G1 X1 r1 => ?_) (hs _)
  refine ho _ _ _ _ _ x _ own μ1 _ _ R e1 (F.grow G1) X1 fun h2 t2 μ2 ca G2 X2 r2 => ?_
  exact s_setAttr B hk e2 r2 (r1.grow G2 (.nil _)) X2 fun h3 t3 μ3 G3 X3 => P h3 t3 μ3 ((G1.trans G2).trans G3).up X3 (((F.grow G1).grow G2).grow G3)
end
end
section
section den
noncomputable def intsOf : List AV -> Option (List Int)
  | [] => some []
  | .int i :: r => (intsOf r).map (i :: ·)
  | _ => none
noncomputable def key4 (a b c d : AV) : Option TKey := match a, b, c with
  | .str op, .tup args, .int s => match d with
    | .int d => if op = "num" then none else (intsOf args).map fun l => .oth op l s d
    | .tup [.int p, .int q] => if op = "num" then (match args with
      | [] => some (.num s p q)
      | _ => none) else none
    | _ => none
  | _, _, _ => none
noncomputable def keyOf (v : AV) : Option TKey := match v with
  | .tup [a, b, c, d] => key4 a b c d
  | _ => none
noncomputable def oSetItem (a k v : AV) (σ : List AObj) : Option (List AObj) := match a with
  | .obj d => match σ[d]? with
    | some (.sd kvs) => match k with
      | .str x => if kvs.length ≤ 1000 then some (σ.set d (.sd (kvPut x v kvs))) else none
      | _ => none
    | some (.id kvs) => match k with
      | .int x => if kvs.length ≤ 1000 then some (σ.set d (.id (kvPut x v kvs))) else none
      | _ => none
    | some (.td kvs) => (keyOf k).bind fun x => if kvs.length ≤ 1000 then some (σ.set d (.td (kvPut x v kvs))) else none
    | some (.lst xs) => match k with
      | .int i => if 0 ≤ i ∧ i < xs.length ∧ i < 2 ^ 63 then some (σ.set d (.lst (xs.set i.toNat v))) else none
      | _ => none
    | _ => none
  | _ => none
noncomputable def dsItem (d o i : Den) : DenS := fun ρ σ => (d ρ σ).bind fun p => (o ρ p.2).bind fun q => (i ρ q.2).bind fun r => (oSetItem q.1 r.1 p.1 r.2).bind fun σ' => some (.next, ρ, σ')
noncomputable def getOr (a k z : AV) (σ : List AObj) : Option AV := match a with
  | .obj d => match look σ d with
    | some (.sd kvs) => match k with
      | .str x => some ((kvGet x kvs).getD z)
      | _ => none
    | some (.id kvs) => match k with
      | .int x => some ((kvGet x kvs).getD z)
      | _ => none
    | some (.td kvs) => (keyOf k).bind fun x => some ((kvGet x kvs).getD z)
    | _ => none
  | _ => none
noncomputable def oGetOr (vs : List AV) (σ : List AObj) : Option (AV × List AObj) := match vs with
  | [a, k, z] => (getOr a k z σ).map fun v => (v, σ)
  | _ => none
noncomputable def kvDel {K : Type} [DecidableEq K] (k : K) (l : List (K × AV)) : List (K × AV) := l.filter fun p => decide (p.1 ≠ k)
noncomputable def oPop (vs : List AV) (σ : List AObj) : Option (AV × List AObj) := match vs with
  | [.obj d, .int x] => match σ[d]? with
    | some (.id kvs) => if kvs.length ≤ 1000 then (kvGet x kvs).map fun v => (v, σ.set d (.id (kvDel x kvs))) else none
    | _ => none
  | _ => none
noncomputable def oAppend (vs : List AV) (σ : List AObj) : Option (AV × List AObj) := match vs with
  | [.obj d, v] => match σ[d]? with
    | some (.lst xs) => if xs.length ≤ 1000 then some (.none, σ.set d (.lst (xs ++ [v]))) else none
    | _ => none
  | _ => none
noncomputable def isDictV (a : AV) (σ : List AObj) : Bool := match a with
  | .obj d => match look σ d with
    | some (.sd _) => true
    | some (.id _) => true
    | some (.td _) => true
    | _ => false
  | _ => false
noncomputable def isListV (a : AV) (σ : List AObj) : Bool := match a with
  | .obj d => match look σ d with
    | some (.lst _) => true
    | _ => false
  | _ => false
noncomputable def dMeth (g : AV -> List AObj -> Bool) (f : List AV -> List AObj -> Option (AV × List AObj)) (d : Den) (ds : DenL) : Den := fun ρ σ => (d ρ σ).bind fun p => if g p.1 p.2 = true then (ds ρ p.2).bind fun q => f (p.1 :: q.1) q.2 else none
noncomputable def dEmpty (o : AObj) : Den := fun V σ => some (.obj σ.length, σ ++ [o])
noncomputable def mergeKV {K : Type} [DecidableEq K] (l : List (K × AV)) (r : List (K × AV)) : List (K × AV) := r.foldl (fun acc kv => kvPut kv.1 kv.2 acc) l
noncomputable def dDictS (ks : List String) (ds : DenL) : Den := fun ρ σ => (ds ρ (σ ++ [.sd []])).bind fun p => match p.2[σ.length]? with
  | some (.sd []) => if p.1.length = ks.length then some (.obj σ.length, p.2.set σ.length (.sd (mergeKV [] (ks.zip p.1)))) else none
  | _ => none
noncomputable def dDictI (dk dv : Den) : Den := fun ρ σ => (dk ρ (σ ++ [.id []])).bind fun p => (dv ρ p.2).bind fun q => match p.1, q.2[σ.length]? with
  | .int i, some (.id []) => some (.obj σ.length, q.2.set σ.length (.id [(i, q.1)]))
  | _, _ => none
end den

section
variable {prog : Program} {w : World} {hO : HB} {n : Nat} {sc : Scope}

theorem kvHas_any {K : Type} [DecidableEq K] {k : K} : ∀ {l : List (K × AV)}, kvHas k l = l.any fun kv => decide (kv.1 = k)
  | [] => rfl
  | p :: r => by rw [List.any_cons, ← kvHas_any]; rfl
theorem KVs.any {K K' : Type} [DecidableEq K] [DecidableEq K'] {f : K -> K'} (hf : ∀ x y, f x = f y -> x = y) {μ : List Addr} {h : Heap} {k : K} {l : List (K × AV)} {l' : List (K' × Value)} (r : KVs f hO.prv μ h l l') : (l'.any fun kv => decide (kv.1 = f k)) = kvHas k l := by
  induction r with
  | nil => rfl
  | @cons k' u c r r' x xs ih =>
    rw [List.any_cons, ih]
    exact congrArg (· || _) (decide_eq_decide.mpr ⟨hf _ _, congrArg f⟩)
theorem KVs.length {K K' : Type} {f : K -> K'} {μ : List Addr} {h : Heap} {l : List (K × AV)} {l' : List (K' × Value)} (r : KVs f hO.prv μ h l l') : l.length = l'.length := by
  induction r with
  | nil => rfl
  | cons _ _ ih => exact congrArg (· + 1) ih
theorem KVs.append {K K' : Type} {f : K -> K'} {μ : List Addr} {h : Heap} {l m : List (K × AV)} {l' m' : List (K' × Value)} (r : KVs f hO.prv μ h l l') (q : KVs f hO.prv μ h m m') : KVs f hO.prv μ h (l ++ m) (l' ++ m') := by
  induction r with
  | nil => exact q
  | cons a _ ih => exact .cons a ih
theorem KVs.map {K K' : Type} [DecidableEq K] [DecidableEq K'] {f : K -> K'} (hf : ∀ x y, f x = f y -> x = y) {μ : List Addr} {h : Heap} {k : K} {v : AV} {c : Value} (hv : VRel hO.prv μ h v c) {l : List (K × AV)} {l' : List (K' × Value)} (r : KVs f hO.prv μ h l l') : KVs f hO.prv μ h (kvMap k v l) (l'.map fun kv => if kv.1 = f k then (kv.1, c) else kv) := by
  induction r with
  | nil => exact .nil
  | @cons k' u c r r' x xs ih =>
    unfold kvMap
    rw [List.map_cons]
    by_cases q : k' = k
    · subst q
      simp only [if_true]
      exact .cons hv ih
    · have q' : ¬ f k' = f k := fun z => q (hf _ _ z)
      simp only [q, q', if_false]
      exact .cons x ih
theorem KVs.put {K K' : Type} [DecidableEq K] [DecidableEq K'] {f : K -> K'} (hf : ∀ x y, f x = f y -> x = y) {μ : List Addr} {h : Heap} {k : K} {v : AV} {c : Value} (hv : VRel hO.prv μ h v c) {l : List (K × AV)} {l' : List (K' × Value)} (r : KVs f hO.prv μ h l l') : KVs f hO.prv μ h (kvPut k v l) (stored l' (f k) c) := by
  unfold kvPut stored
  rw [KVs.any hf r]
  split
  · exact KVs.map hf hv r
  · exact r.append (.cons hv .nil)
theorem KVs.del {K K' : Type} [DecidableEq K] [DecidableEq K'] {f : K -> K'} (hf : ∀ x y, f x = f y -> x = y) {μ : List Addr} {h : Heap} {k : K} {l : List (K × AV)} {l' : List (K' × Value)} (r : KVs f hO.prv μ h l l') : KVs f hO.prv μ h (kvDel k l) (without l' (f k)) := by
  induction r with
  | nil => exact .nil
  | @cons k' u c r r' x xs ih =>
    unfold kvDel without at ih ⊢
    by_cases q : k' = k
    · subst q; simpa using ih
    · have q' : ¬ f k' = f k := fun z => q (hf _ _ z)
      simp only [List.filter_cons, ne_eq, q, q', not_false_eq_true, decide_true, if_true]
      exact .cons x ih

theorem TVs.atKey {μ : List Addr} {h : Heap} {k : TKey} {l : List (TKey × AV)} {l' : List (TKey × Addr × Value)} (r : TVs hO.prv μ h l l') : (∀ v, kvGet k l = some v -> ∃ p, atKey l' k = some p ∧ VRel hO.prv μ h v p.2) ∧ (kvGet k l = none -> atKey l' k = none) := by
  induction r with
  | nil => exact ⟨fun v e => (by exact no e), fun V => rfl⟩
  | @cons k' v c a r r' x xs ih =>
    unfold kvGet PySem.atKey
    unfold PySem.atKey at ih
    rw [List.find?_cons]
    by_cases q : k' = k
    · simp only [q, if_true, decide_true]
      exact ⟨fun v e => by cases e; exact ⟨_, rfl, x⟩, fun e => by cases e⟩
    · simp only [q, if_false, decide_false]
      exact ih
theorem TVs.grow {own μ μ' : List Addr} {h h' : Heap} (G : Grow own μ h μ' h') (W : OwnOk own h) {l : List (TKey × AV)} {l' : List (TKey × Addr × Value)} (r : TVs hO.prv μ h l l') : TVs hO.prv μ' h' l l' := r.kp G.kp W.sep
theorem TVs.length {μ : List Addr} {h : Heap} {l : List (TKey × AV)} {l' : List (TKey × Addr × Value)} (r : TVs hO.prv μ h l l') : l.length = l'.length := by
  induction r with
  | nil => rfl
  | cons _ _ ih => exact congrArg (· + 1) ih
theorem TVs.append {μ : List Addr} {h : Heap} {l m : List (TKey × AV)} {l' m' : List (TKey × Addr × Value)} (r : TVs hO.prv μ h l l') (q : TVs hO.prv μ h m m') : TVs hO.prv μ h (l ++ m) (l' ++ m') := by
  induction r with
  | nil => exact q
  | cons a _ ih => exact .cons a ih
theorem TVs.map {μ : List Addr} {h : Heap} {k : TKey} {v : AV} {c : Value} (hv : VRel hO.prv μ h v c) {l : List (TKey × AV)} {l' : List (TKey × Addr × Value)} (r : TVs hO.prv μ h l l') : TVs hO.prv μ h (kvMap k v l) (l'.map (putAt k c)) := by
  induction r with
  | nil => exact .nil
  | @cons k' _ _ _ _ _ x xs ih =>
    unfold kvMap
    rw [List.map_cons]
    unfold putAt
    by_cases q : k' = k
    · simp only [q, if_true]
      exact .cons hv ih
    · simp only [q, if_false]
      exact .cons x ih
theorem TVs.put {μ : List Addr} {h : Heap} {k : TKey} {a : Addr} {v : AV} {c : Value} (hv : VRel hO.prv μ h v c) {l : List (TKey × AV)} {l' : List (TKey × Addr × Value)} (r : TVs hO.prv μ h l l') : TVs hO.prv μ h (kvPut k v l) (storedH l' k a c) := by
  obtain ⟨i1, i2⟩ := r.atKey (k := k)
  unfold kvPut storedH
  rw [kvHas_get]
  cases e : kvGet k l with
  | none => rw [i2 e]; simp only [Option.isSome_none, Bool.false_eq_true, if_false]; exact r.append (.cons hv .nil)
  | some u => obtain ⟨p, h1, _⟩ := i1 u e; rw [h1]; simp only [Option.isSome_some, if_true]; exact r.map hv

theorem ints_of {μ : List Addr} {h : Heap} {xs : List AV} : ∀ {cs : List Value} {l : List Int}, VRels hO.prv μ h xs cs -> intsOf xs = some l -> ItemsAre (intKind prog w) l cs := by
  induction xs with
  | nil => intro cs l r e; apply r.eNil; cases e; exact .nil
  | cons x xs ih =>
    intro cs l r e
    apply r.eCons; intro c ds a b
    cases x <;> try exact no e
    apply a.eInt; intro t
    obtain ⟨l', e1, rfl⟩ := Option.map_eq_some_iff.mp e
    exact .cons int_is (ih b e1)
theorem isTup_key {μ : List Addr} {h : Heap} {a : Addr} {xs : List AV} {cs : List Value} {l : List Int} (t : IsTup h a cs.toArray) (rs : VRels hO.prv μ h xs cs) (e : intsOf xs = some l) : IsTupleKey (intKind prog w) h l a := by
  obtain ⟨o, ho, hc, m, hd⟩ := t
  exact ⟨o, _, m, ho, hc, hd, by simpa using ints_of rs e⟩
theorem key_shape {v : AV} {k : TKey} (e : keyOf v = some k) : (∃ op args s d l, v = .tup [.str op, .tup args, .int s, .int d] ∧ op ≠ "num" ∧ intsOf args = some l ∧ k = .oth op l s d) ∨ (∃ s p q, v = .tup [.str "num", .tup [], .int s, .tup [.int p, .int q]] ∧ k = .num s p q) := by
  cases v with
  | tup l =>
    rcases l with _ | ⟨a, _ | ⟨b, _ | ⟨c, _ | ⟨d, _ | ⟨x, r⟩⟩⟩⟩⟩
    · exact no e
    · exact no e
    · exact no e
    · exact no e
    · cases a with
      | str op => cases b with
        | tup args => cases c with
          | int s => cases d with
            | int d =>
              have e : (if op = "num" then none else (intsOf args).map fun l => TKey.oth op l s d) = some k := e
              by_cases hn : op = "num"
              · rw [if_pos hn] at e; exact no e
              · rw [if_neg hn] at e
                obtain ⟨l, e1, rfl⟩ := Option.map_eq_some_iff.mp e
                exact .inl ⟨_, _, _, _, l, rfl, hn, e1, rfl⟩
            | tup l => cases l with
              | nil => exact no e
              | cons p t => cases p with
                | int p => cases t with
                  | nil => exact no e
                  | cons q t => cases q with
                    | int q => cases t with
                      | nil =>
                        by_cases hn : op = "num"
                        · subst hn
                          cases args with
                          | nil => cases e; exact .inr ⟨_, _, _, rfl, rfl⟩
                          | cons => exact no e
                        · have e : (if op = "num" then (match args with | [] => some (TKey.num s p q) | _ => none) else none) = some k := e
                          rw [if_neg hn] at e; exact no e
                      | cons => exact no e
                    | _ => exact no e
                | _ => exact no e
            | _ => exact no e
          | _ => exact no e
        | _ => exact no e
      | _ => exact no e
    · exact no e
  | _ => exact no e
theorem key_of {μ : List Addr} {h : Heap} {v : AV} {c : Value} {k : TKey} (r : VRel hO.prv μ h v c) (e : keyOf v = some k) : ∃ a, A3 (c = .ref a) (TIs prog w h k a) (TOut hO.prv μ h a) := by
  rcases key_shape e with ⟨op, args, s, d, l, rfl, hn, e1, rfl⟩ | ⟨s, p, q, rfl, rfl⟩
  · apply r.eTup; intro a cs t m rs
    obtain ⟨c1, c2, c3, c4, rfl, r1, r2, r3, r4⟩ := rs.i4
    obtain ⟨t1, rfl⟩ := r1.iStr
    obtain ⟨a2, cs2, rfl, t2, m2, rs2⟩ := r2.iTup
    obtain ⟨t3, rfl⟩ := r3.iInt
    obtain ⟨t4, rfl⟩ := r4.iInt
    exact ⟨a, rfl, ⟨hn, _, _, _, _, t, isTup_key t2 rs2 e1⟩, m, fun vs i x hx => by have := IsTup.det t i; subst this; simp at hx; subst hx; exact m2⟩
  · apply r.eTup; intro a cs t m rs
    obtain ⟨c1, c2, c3, c4, rfl, r1, r2, r3, r4⟩ := rs.i4
    obtain ⟨t1, rfl⟩ := r1.iStr
    obtain ⟨a2, cs2, rfl, t2, m2, rs2⟩ := r2.iTup
    obtain ⟨t3, rfl⟩ := r3.iInt
    obtain ⟨a4, cs4, rfl, t4, m4, rs4⟩ := r4.iTup
    exact ⟨a, rfl, ⟨_, _, _, _, t, isTup_key t2 rs2 rfl, isTup_key t4 rs4 rfl⟩, m, fun vs i x hx => by have := IsTup.det t i; subst this; simp at hx; rcases hx with rfl | rfl; exact m2; exact m4⟩

theorem storedH_at {l : List (TKey × Addr × Value)} {k : TKey} {a : Addr} {v : Value} {x : TKey × Addr × Value} (h : x ∈ storedH l k a v) : x.2.1 = a ∨ ∃ y ∈ l, x.2.1 = y.2.1 := by
  unfold storedH at h
  split at h
  · obtain ⟨y, hy, rfl⟩ := List.mem_map.mp h
    refine .inr ⟨y, hy, ?_⟩
    unfold putAt
    split <;> rfl
  · rcases List.mem_append.mp h with q | q
    · exact .inr ⟨x, q, rfl⟩
    · simp at q; subst q; exact .inl rfl
theorem room_t {A : Around} (R : Room n A) : (tKind prog w).room A.in1 := by
  have := R.2.2
  show A.units + 1 + 8 < cLine
  omega
set_option tactic.hygienic true in
theorem s_setItem {A : Around} {E : Value -> Shared -> Prop} {s : Shared} {μ : List Addr} {σ σ' : List AObj} {a k v : AV} {ca ck cv : Value} {Q : Unit -> Shared -> Prop} (R : Room n A) (e : oSetItem a k v σ = some σ') (ra : VRel hO.prv μ s.heap a ca) (rk : VRel hO.prv μ s.heap k ck) (rv : VRel hO.prv μ s.heap v cv) (X : St prog w hO μ σ s.heap)
    (P : PostU prog w hO s μ σ' Q) : wpAny (model prog w) A (setItem ca ck cv) Q E s := by
  unfold oSetItem at e
  cases a with
  | obj d =>
    apply ra.eObj; intro ad hd
    dsimp only at e
    cases ho : σ[d]? with
    | none => rw [ho] at e; exact no e
    | some ob =>
      rw [ho] at e
      have mo := List.mem_of_getElem? hd
      have ht := X.at hd ho
      cases ob with
      | sd kvs =>
        have hfree := X.free hd ho (by intro _ q; cases q)
        cases k <;> try exact no e
        rename_i x
        apply rk.eStr; intro t
        dsimp only at e
        split at e
        · rename_i hz
          have P := P.of e
          obtain ⟨l, D, kv⟩ := ht
          refine wpAny_setItem_pairs (knd := PySem.strKind prog w) (k := S x) (strKind_is prog w (S x) t) D (fun h' hm hs => ?_) (by rw [← kv.length]; exact Nat.le_trans hz (by decide))
          have G := grow_set mo hs
          exact P h' _ μ G (X.set hd hfree hs ⟨_, hm, KVs.put (fun V V z => S_inj z) (rv.grow G (.nil _)) (kv.grow G (.nil _))⟩)
        · exact no e
      | id kvs =>
        have hfree := X.free hd ho (by intro _ q; cases q)
        cases k <;> try exact no e
        rename_i x
        apply rk.eInt; intro t
        dsimp only at e
        split at e
        · rename_i hz
          have P := P.of e
          obtain ⟨l, D, kv⟩ := ht
          refine wpAny_setItem_pairs (knd := intKind prog w) (k := x) int_is D (fun h' hm hs => ?_) (by rw [← kv.length]; exact Nat.le_trans hz (by decide))
          have G := grow_set mo hs
          exact P h' _ μ G (X.set hd hfree hs ⟨_, hm, KVs.put (f := fun k => k) (fun V V z => z) (rv.grow G (.nil _)) (kv.grow G (.nil _))⟩)
        · exact no e
      | td kvs =>
        have hfree := X.free hd ho (by intro _ q; cases q)
        refine bind1 e fun key ek e => ?_
        split at e
        · rename_i hz
          have P := P.of e
          obtain ⟨l, D, kv, ko⟩ := ht
          obtain ⟨a, rfl, tk, tko⟩ := key_of rk ek
          refine wpAny_setItem_heap (knd := tKind prog w) (k := key) (room_t R) tk D (fun h' hm hs => ?_) (by rw [← kv.length]; exact Nat.le_trans hz (by decide))
          have G := grow_set mo hs
          refine P h' _ μ G (X.set hd hfree hs ⟨_, hm, TVs.put (rv.grow G (.nil _)) (kv.grow G (.nil _)), fun x hx => ?_⟩)
          rcases storedH_at hx with q | ⟨y, hy, q⟩
          · rw [q]; exact tout_keeps G.kp (OwnOk.nil _).sep tko tk
          · rw [q]
            obtain ⟨_, _, _, _, _, _, _, hks, _⟩ := D
            exact tout_keeps G.kp (OwnOk.nil _).sep (ko y hy) (hks y hy)
        · exact no e
      | lst xs =>
        have hfree := X.free hd ho (by intro _ q; cases q)
        cases k <;> try exact no e
        rename_i i
        apply rk.eInt; intro t
        dsimp only at e
        split at e
        · rename_i hz
          have P := P.of e
          obtain ⟨cs, m, hl, rs⟩ := ht
          refine ki_setAt hl hz.1 hz.2.2 (by rw [List.size_toArray, ← rs.length]; exact hz.2.1) ?_
          have hs := Heap.SameBut.update s.heap ad (Obj.mapSeq (·.setIfInBounds i.toNat cv))
          have hox := PySem.IsL.update hl (·.setIfInBounds i.toNat cv)
          have e1 : cs.toArray.setIfInBounds i.toNat cv = (cs.set i.toNat cv).toArray := by simp
          rw [e1] at hox
          have G := grow_set mo hs
          exact P _ s.toks μ G (X.set hd hfree hs ⟨_, _, hox, (rs.grow G (.nil _)).set _ (rv.grow G (.nil _))⟩)
        · exact no e
      | fld fs => exact no e
      | any => exact no e
      | frz o => exact no e
  | _ => exact no e
theorem sndS_item {o i value : Expr} {pos' pos : Pos} {d do_ di : Den} (hv : SndE prog w hO n sc value d) (ho : SndE prog w hO n sc o do_) (hi : SndE prog w hO n sc i di) (hs : ∀ env, swapsWith value (some (.Subscript o i pos')) pos.line env = pure false) :
    SndS prog w hO n sc (.Assign [.Subscript o i pos'] value pos) (dsItem d do_ di) := by
  intro A ρ σ f ρ' σ' x s own μ Q E R O e F X P
  refine bind2 e fun u σ0 e0 e => ?_
  refine bind2 e fun a σ1 e1 e => ?_
  refine bind2 e fun k σ2 e2 e => ?_
  refine bind1 e fun σ3 e3 e => ?_
  have P := P.of e
  refine wpAny_Assign_Subscript (hv _ _ _ _ _ x s own μ _ _ R e0 F X fun h1 t1 μ1 cv G1 X1 r1 => ?_) (hs _)
  refine ho _ _ _ _ _ x _ own μ1 _ _ R e1 (F.grow G1) X1 fun h2 t2 μ2 ca G2 X2 r2 => ?_
  refine hi _ _ _ _ _ x _ own μ2 _ _ R e2 ((F.grow G1).grow G2) X2 fun h3 t3 μ3 ck G3 X3 r3 => ?_
  exact s_setItem R e3 (r2.grow G3 (.nil _)) r3 ((r1.grow G2 (.nil _)).grow G3 (.nil _)) X3 fun h4 t4 μ4 G4 X4 => P h4 t4 μ4 (((G1.trans G2).trans G3).trans G4).up X4 ((((F.grow G1).grow G2).grow G3).grow G4)

def SndF (prog : Program) (w : World) (hO : HB) (n : Nat) (fv : Value) (f : List AV -> List AObj -> Option (AV × List AObj)) : Prop :=
  ∀ (A : Around) (vs : List AV) (cs : List Value) (σ : List AObj) (v : AV) (σ' : List AObj) (s : Shared) (μ : List Addr) (Q : Value -> Shared -> Prop) (E : Value -> Shared -> Prop), Room n A -> f vs σ = some (v, σ') ->
    VRels hO.prv μ s.heap vs cs -> St prog w hO μ σ s.heap -> Post prog w hO s μ v σ' Q -> wpAny (model prog w) A (call fv cs) Q E s
def SndM (prog : Program) (w : World) (hO : HB) (name : Str) (id : String) (g : AV -> List AObj -> Bool) : Prop :=
  ∀ (A : Around) (a : AV) (ca : Value) (σ : List AObj) (s : Shared) (μ : List Addr) (pl : Sem Bool) (Q : Value × List Value -> Shared -> Prop) (E : Value -> Shared -> Prop), g a σ = true -> VRel hO.prv μ s.heap a ca -> St prog w hO μ σ s.heap -> Q (.builtin id, [ca]) s -> wpAny (model prog w) A (getMethod ca name pl) Q E s
theorem sndE_meth {o e : Expr} {rest : List Expr} {name : Str} {apos pos : Pos} {id : String} {g f} {d : Den} {ds : DenL} {pl : Env -> Sem Bool} (ho : SndE prog w hO n sc o d) (ha : SndL prog w hO n sc (e :: rest) ds) (hm : SndM prog w hO name id g) (hf : SndF prog w hO n (.builtin id) f)
    (he : ∀ env, starEach (e :: rest) env = (false, eval e env) :: starEach rest env) (hp : ∀ env, (backTo pos (starEach rest env)).any (·.1) = false)
    (hx : ∀ env, eval (.Call (.Attribute o name apos) (e :: rest) [] pos) env = (do
      let ov ← eval o env
      standAt apos.atName
      let (f, first) ← holding [ov] (getMethod ov name (pl env))
      callWith pos f first (backTo pos (starEach (e :: rest) env)) [])) :
    SndE prog w hO n sc (.Call (.Attribute o name apos) (e :: rest) [] pos) (dMeth g f d ds) := by
  intro A ρ σ v σ' x s own μ Q E R e F X P
  refine bind2 e fun a σ1 e1 e => ?_
  dsimp only at e
  split at e
  · rename_i hg
    refine bind2 e fun vs σ2 e2 e => ?_
    refine MethodCall_ (ho _ _ _ _ _ x s own μ _ _ R e1 F X fun h1 t1 μ1 ca G1 X1 r1 => ?_) (hx _)
    refine hm _ _ _ _ _ μ1 _ _ _ hg r1 X1 ?_
    refine callWith_method1 ?_ (he _) (hp _)
    refine ha _ _ _ _ _ x _ own μ1 pos _ _ R e2 (F.grow G1) X1 fun h2 t2 μ2 cs G2 X2 r2 => ?_
    exact hf _ (a :: vs) (ca :: cs) _ _ _ _ μ2 _ _ R e (.cons (r1.grow G2 (.nil _)) r2) X2 ((P.step G1).step G2)
  · exact no e
theorem dict_meth {name : Str} {id : String} (slot : Slot "dict" name id) (hty : typeOf (.builtin id) = pure (.type "method_descriptor")) : SndM prog w hO name id isDictV := by
  intro A a ca σ s μ pl Q E hg ra X h
  unfold isDictV at hg
  cases a with
  | obj d =>
    obtain ⟨ad, rfl, hd⟩ := ra.iObj
    dsimp only at hg
    cases ho : look σ d with
    | none => rw [ho] at hg; cases hg
    | some ob =>
      rw [ho] at hg
      have ht := X.look hd ho
      have fin : ∀ o, s.heap.get? ad = some o -> o.ExactDict -> wpAny (model prog w) A (getMethod (.ref ad) name pl) Q E s := fun o e x =>
        getMethod_builtin (T := "dict") ⟨o, e, x.1⟩ PySem.F.plainAttrs_dict slot hty (fun b q => by cases q; exact ⟨o, e, x.2.1⟩) h
      cases ob with
      | sd kvs => obtain ⟨l, ⟨o, es, ep, e, x, _⟩, _⟩ := ht; exact fin o e x
      | id kvs => obtain ⟨l, ⟨o, es, ep, e, x, _⟩, _⟩ := ht; exact fin o e x
      | td kvs => obtain ⟨l, ⟨o, es, ep, e, x, _⟩, _⟩ := ht; exact fin o e x
      | _ => cases hg
  | _ => cases hg
theorem list_meth {name : Str} {id : String} (slot : Slot "list" name id) (hty : typeOf (.builtin id) = pure (.type "method_descriptor")) : SndM prog w hO name id isListV := by
  intro A a ca σ s μ pl Q E hg ra X h
  unfold isListV at hg
  cases a with
  | obj d =>
    obtain ⟨ad, rfl, hd⟩ := ra.iObj
    dsimp only at hg
    cases ho : look σ d with
    | none => rw [ho] at hg; cases hg
    | some ob =>
      rw [ho] at hg
      have ht := X.look hd ho
      cases ob with
      | lst xs =>
        obtain ⟨cs, m, e, _⟩ := ht
        exact getMethod_builtin (T := "list") ⟨_, e, rfl⟩ PySem.F.plainAttrs_list slot hty (fun b q => by cases q; exact ⟨_, e, rfl⟩) h
      | _ => cases hg
  | _ => cases hg
theorem m_get : SndM prog w hO "get" "dict.get" isDictV := dict_meth PySem.F.slot_dict_get PySem.F.type_dict_get
theorem m_pop : SndM prog w hO "pop" "dict.pop" isDictV := dict_meth PySem.F.slot_dict_pop PySem.F.type_dict_pop
theorem m_append : SndM prog w hO "append" "list.append" isListV := list_meth PySem.F.slot_list_append PySem.F.type_list_append
theorem sh_append {vs : List AV} {σ : List AObj} {r : AV × List AObj} (e : oAppend vs σ = some r) : ∃ d v, vs = [.obj d, v] := by
  cases vs with
  | nil => exact no e
  | cons a t => cases a with
    | obj d => cases t with
      | nil => exact no e
      | cons v t => cases t with
        | nil => exact ⟨_, _, rfl⟩
        | cons => exact no e
    | _ => exact no e
set_option tactic.hygienic true in
theorem f_append : SndF prog w hO n (.builtin "list.append") oAppend := by
  intro A vs cs σ v σ' s μ Q E R e rs X P
  obtain ⟨d, v, rfl⟩ := sh_append e
  unfold oAppend at e
  dsimp only at e
  apply rs.e2; intro c1 c2 r1 r2
  apply r1.eObj; intro ad hd
  · cases ho : σ[d]? with
    | none => rw [ho] at e; exact no e
    | some ob =>
      rw [ho] at e
      cases ob with
      | lst xs =>
        have hfree := X.free hd ho (by intro _ q; cases q)
        dsimp only at e
        split at e
        · rename_i hz
          have P := P.of e
          obtain ⟨cs, m, hl, rs⟩ := X.at hd ho
          refine append_at hl (fun h' hs hl' => ?_) (by rw [List.size_toArray, ← rs.length]; exact Nat.le_trans hz (by decide))
          rw [List.push_toArray] at hl'
          have G := grow_set (List.mem_of_getElem? hd) hs
          exact P _ s.toks μ _ G (X.set hd hfree hs ⟨_, _, hl', (rs.grow G (.nil _)).append (.cons (r2.grow G (.nil _)) .nil)⟩) .none
        · exact no e
      | _ => exact no e
theorem sh_get {vs : List AV} {σ : List AObj} {r : AV × List AObj} (e : oGetOr vs σ = some r) : ∃ a k z, vs = [a, k, z] := by
  rcases vs with _ | ⟨a, _ | ⟨b, _ | ⟨c, _ | ⟨d, r⟩⟩⟩⟩
  · exact no e
  · exact no e
  · exact no e
  · exact ⟨_, _, _, rfl⟩
  · exact no e
set_option tactic.hygienic true in
theorem f_get : SndF prog w hO n (.builtin "dict.get") oGetOr := by
  intro A vs cs σ v σ' s μ Q E R e rs X P
  obtain ⟨a, k, z, rfl⟩ := sh_get e
  unfold oGetOr at e
  dsimp only at e
  apply rs.e3; intro c1 c2 c3 r1 r2 r3
  cases ev : getOr a k z σ with
  | none => rw [ev] at e; exact no e
  | some u =>
    rw [ev] at e
    have P := P.of e
    unfold getOr at ev
    cases a with
    | obj d =>
      apply r1.eObj; intro ad hd
      have hm := X.ne_mod hd
      dsimp only at ev
      cases ho : look σ d with
      | none => rw [ho] at ev; exact no ev
      | some ob =>
        rw [ho] at ev
        have ht := X.look hd ho
        cases ob with
        | sd kvs =>
          cases k <;> try cases ev
          rename_i x
          apply r2.eStr; intro t
          obtain ⟨l, D, kv⟩ := ht
          obtain ⟨i1, i2⟩ := kv.valueAt (fun V V z => S_inj z) (k := x)
          refine call_meetsIn PySem.F.slot_dict_get D.mapOf.typeIs PySem.F.entry_dict_get (PySem.F.args_dict_get_3 _ _ _) (meets_dict_get_default (PySem.strKind prog w) ad (strKind_is prog w (S x) t) hm _) ⟨_, D.mapOf, ?_⟩
          cases eg : kvGet x kvs with
          | none => rw [eg] at P; rw [i2 eg]; exact P s.heap _ μ _ (.refl _ _ _) X r3
          | some y => rw [eg] at P; obtain ⟨c, h1, rc⟩ := i1 y eg; rw [h1]; exact P s.heap _ μ _ (.refl _ _ _) X rc
        | id kvs =>
          cases k <;> try cases ev
          rename_i x
          apply r2.eInt; intro t
          obtain ⟨l, D, kv⟩ := ht
          obtain ⟨i1, i2⟩ := kv.valueAt (fun V V z => z) (k := x)
          refine call_meetsIn PySem.F.slot_dict_get D.mapOf.typeIs PySem.F.entry_dict_get (PySem.F.args_dict_get_3 _ _ _) (meets_dict_get_default (intKind prog w) ad (k := x) int_is hm _) ⟨_, D.mapOf, ?_⟩
          cases eg : kvGet x kvs with
          | none => rw [eg] at P; rw [i2 eg]; exact P s.heap _ μ _ (.refl _ _ _) X r3
          | some y => rw [eg] at P; obtain ⟨c, h1, rc⟩ := i1 y eg; rw [h1]; exact P s.heap _ μ _ (.refl _ _ _) X rc
        | td kvs =>
          refine bind1 ev fun key ek ev => ?_
          cases ev
          obtain ⟨l, D, kv, ko⟩ := ht
          obtain ⟨b, rfl, tk, tko⟩ := key_of r2 ek
          obtain ⟨i1, i2⟩ := kv.atKey (k := key)
          refine call_meetsIn PySem.F.slot_dict_get D.typeIs PySem.F.entry_dict_get (PySem.F.args_dict_get_3 _ _ _) (meetsH_dict_get_default (tKind prog w) ad b hm _) ⟨room_t R, key, l, tk, D, ?_⟩
          cases eg : kvGet key kvs with
          | none => rw [eg] at P; rw [i2 eg]; exact P s.heap _ μ _ (.refl _ _ _) X r3
          | some y => rw [eg] at P; obtain ⟨c, h1, rc⟩ := i1 y eg; rw [h1]; exact P s.heap _ μ _ (.refl _ _ _) X rc
        | _ => exact no ev
    | _ => exact no ev
theorem sh_pop {vs : List AV} {σ : List AObj} {r : AV × List AObj} (e : oPop vs σ = some r) : ∃ d x, vs = [.obj d, .int x] := by
  cases vs with
  | nil => exact no e
  | cons a t => cases a with
    | obj d => cases t with
      | nil => exact no e
      | cons v t => cases v with
        | int x => cases t with
          | nil => exact ⟨_, _, rfl⟩
          | cons => exact no e
        | _ => exact no e
    | _ => exact no e
set_option tactic.hygienic true in
theorem f_pop : SndF prog w hO n (.builtin "dict.pop") oPop := by
  intro A vs cs σ v σ' s μ Q E R e rs X P
  obtain ⟨d, x, rfl⟩ := sh_pop e
  unfold oPop at e
  dsimp only at e
  apply rs.e2; intro c1 c2 r1 r2
  apply r2.eInt; intro t
  apply r1.eObj; intro ad hd
  · cases ho : σ[d]? with
    | none => rw [ho] at e; exact no e
    | some ob =>
      rw [ho] at e
      cases ob with
      | id kvs =>
        have hfree := X.free hd ho (by intro _ q; cases q)
        dsimp only at e
        split at e
        · rename_i hz
          obtain ⟨l, D, kv⟩ := X.at hd ho
          obtain ⟨i1, i2⟩ := kv.valueAt (fun V V z => z) (k := x)
          cases eg : kvGet x kvs with
          | none => rw [eg] at e; exact no e
          | some y =>
            rw [eg] at e
            have P := P.of e
            obtain ⟨c, h1, rc⟩ := i1 _ eg
            refine call_meetsIn PySem.F.slot_dict_pop D.mapOf.typeIs PySem.F.entry_dict_pop (PySem.F.args_dict_pop_2 _ _) (meets_dict_pop_there (knd := intKind prog w) (d := ad) (k := x) (key := .int x t) int_is [] (.inl rfl) rfl) ⟨l, c, D, by rw [← kv.length]; exact Nat.le_trans hz (by decide), h1, fun h' hm hs => ?_⟩
            have G := grow_set (List.mem_of_getElem? hd) hs
            exact P h' _ μ _ G (X.set hd hfree hs ⟨_, hm, KVs.del (f := fun k => k) (fun V V z => z) (kv.grow G (.nil _))⟩) (rc.grow G (.nil _))
        · exact no e
      | _ => exact no e
theorem sndE_empty {pos : Pos} {o : AObj} (h : o = .sd [] ∨ o = .id [] ∨ o = .td []) : SndE prog w hO n sc (.Dict [] [] pos) (dEmpty o) := by
  intro A ρ σ v σ' x s own μ Q E R e F X P
  have P := P.of e
  refine wpAny_Dict_empty (P _ s.toks (μ ++ [s.heap.objs.size]) _ (grow_alloc _) (X.alloc rfl ?_) (.obj (by rw [← X.len]; exact List.getElem?_concat_length)))
  rcases h with rfl | rfl | rfl
  · exact ⟨[], Heap.DictOf.new _, .nil⟩
  · exact ⟨[], Heap.DictOf.new _, .nil⟩
  · exact ⟨[], Heap.DictOfH.new _, .nil, fun x hx => (nomatch hx)⟩
end
end
section
noncomputable abbrev DF := List AV -> List AObj -> Option (AV × List AObj)
noncomputable def rho0 : Rho := fun V => none
noncomputable def dFun (ps : List String) (d : DenS) : DF := fun vs σ => (bindRho ps vs rho0).bind fun ρ => (d ρ σ).bind fun p => match p.1 with | .next => some (.none, p.2.2) | .ret v => some (v, p.2.2)

section
variable {prog : Program} {w : World} {hO : HB} {n : Nat} {sc : Scope}

theorem cells_acc {x : Str} : ∀ (names : List (Str × NameKind)) (b : Nat) (acc : List (Str × Addr)), (acc.lookup x).isSome = true -> ((cellsFrom b names acc).lookup x).isSome = true
  | [], _, _, h => h
  | (y, k) :: r, b, acc, h => by
    unfold cellsFrom
    split
    · refine cells_acc r _ _ ?_
      rw [List.lookup_cons]
      cases x == y with
      | true => rfl
      | false => exact h
    · exact cells_acc r _ _ h
theorem cells_has {x : Str} : ∀ (names : List (Str × NameKind)) (b : Nat) (acc : List (Str × Addr)), names.lookup x = some .cell -> ((cellsFrom b names acc).lookup x).isSome = true
  | [], _, _, h => by simp at h
  | (y, k) :: r, b, acc, h => by
    rw [List.lookup_cons] at h
    unfold cellsFrom
    cases q : x == y with
    | true =>
      rw [q] at h
      cases h
      rw [if_pos (by rfl)]
      exact cells_acc r _ _ (by rw [List.lookup_cons, q]; rfl)
    | false =>
      rw [q] at h
      split
      · exact cells_has r _ _ h
      · exact cells_has r _ _ h

theorem binds_ok {μ : List Addr} {h : Heap} {kf : Str -> Option NameKind} {ps : List String} : ∀ {vs : List AV} {cs : List Value} {ρ ρ' : Rho} {m cm : Str -> Option Value}, bindRho ps vs ρ = some ρ' -> VRels hO.prv μ h vs cs ->
    (∀ x v, ρ x = some v -> kf (S x) = some .local -> ∃ c, m (S x) = some c ∧ VRel hO.prv μ h v c) -> (∀ x v, ρ x = some v -> kf (S x) ≠ some .local -> ∃ c, cm (S x) = some c ∧ VRel hO.prv μ h v c) ->
    (∀ x v, ρ' x = some v -> kf (S x) = some .local -> ∃ c, bindL kf ((ps.map S).zip cs) m (S x) = some c ∧ VRel hO.prv μ h v c) ∧ (∀ x v, ρ' x = some v -> kf (S x) ≠ some .local -> ∃ c, bindC kf ((ps.map S).zip cs) cm (S x) = some c ∧ VRel hO.prv μ h v c) := by
  induction ps with
  | nil =>
    intro vs cs ρ ρ' m cm e rs h1 h2
    cases vs with
    | nil => apply rs.eNil; cases e; exact ⟨h1, h2⟩
    | cons => exact no e
  | cons y ps ih =>
    intro vs cs ρ ρ' m cm e rs h1 h2
    cases vs with
    | nil => exact no e
    | cons u vs =>
    apply rs.eCons; intro c cs r rs'
    rw [List.map_cons, List.zip_cons_cons]
    unfold bindL bindC
    refine ih e rs' (fun x v ex k => ?_) (fun x v ex k => ?_)
    · unfold Rho.set at ex
      by_cases q : x = y
      · subst q
        rw [if_pos rfl] at ex
        cases ex
        rw [if_pos k]
        exact ⟨c, if_pos rfl, r⟩
      · rw [if_neg q] at ex
        obtain ⟨c', a, b⟩ := h1 x v ex k
        refine ⟨c', ?_, b⟩
        split
        · dsimp only; rw [if_neg (fun z => q (S_inj z))]; exact a
        · exact a
    · unfold Rho.set at ex
      by_cases q : x = y
      · subst q
        rw [if_pos rfl] at ex
        cases ex
        rw [if_neg k]
        exact ⟨c, if_pos rfl, r⟩
      · rw [if_neg q] at ex
        obtain ⟨c', a, b⟩ := h2 x v ex k
        refine ⟨c', ?_, b⟩
        split
        · exact a
        · dsimp only; rw [if_neg (fun z => q (S_inj z))]; exact a

structure FnOk (K : Frag) (a : Addr) (fd : FuncData) (ps : List String) : Prop where
  at_ : ∃ o, K.lookup a = some o ∧ o.data = .func fd
  code : ∃ c o vs t, fd.code = .ref c ∧ K.lookup c = some o ∧ o.data = .fields vs ∧ vs[1]? = some (.str fd.qualname t)
  glob : fd.globals = mainGlobals
  blt : fd.builtins = builtinsNs
  clo : fd.closure = []
  bind : ∀ cs : List Value, cs.length = ps.length -> bindArgs fd ⟨cs, []⟩ = pure ((ps.map S).zip cs)
  par : ps.all (kindOk fd.scope) = true
  free : (fd.scope.names.all fun p => p.2 != .free) = true
  co : fd.scope.isCoroutine = false
  gen : fd.scope.isGenerator = false
  kind : fd.scope.kind = .function
noncomputable def AllN : Nat -> (List Value -> Prop) -> Prop
  | 0, P => P []
  | n + 1, P => ∀ c, AllN n fun l => P (c :: l)
theorem allN {n : Nat} : ∀ {P : List Value -> Prop}, AllN n P -> ∀ cs : List Value, cs.length = n -> P cs := by
  induction n with
  | zero => intro P h cs e; cases cs with | nil => exact h | cons => cases e
  | succ n ih => intro P h cs e; cases cs with | nil => cases e | cons c cs => exact ih (h c) cs (Nat.succ.inj e)
theorem mkOk {K : Frag} {a c : Addr} {fd : FuncData} {ps : List String} (o oc : Obj) {vs : Array Value} {t : Nat} (bind : AllN ps.length fun cs => bindArgs fd ⟨cs, []⟩ = pure ((ps.map S).zip cs)) (hd : o.data = .func fd := by rfl) (hc : fd.code = .ref c := by rfl) (hv : oc.data = .fields vs := by rfl) (hq : vs[1]? = some (.str fd.qualname t) := by rfl) (h1 : (K.lookup a, K.lookup c, fd.globals, fd.builtins, fd.closure, fd.scope.kind) = (some o, some oc, mainGlobals, builtinsNs, [], .function) := by kernel_rfl)
    (h2 : (ps.all (kindOk fd.scope), fd.scope.names.all fun p => p.2 != .free, fd.scope.isCoroutine, fd.scope.isGenerator) = (true, true, false, false) := by kernel_rfl) : FnOk K a fd ps := by
  simp only [Prod.mk.injEq] at h1 h2
  exact ⟨⟨o, h1.1, hd⟩, ⟨c, oc, vs, t, hc, h1.2.1, hv, hq⟩, h1.2.2.1, h1.2.2.2.1, h1.2.2.2.2.1, allN bind, h2.1, h2.2.1, h2.2.2.1, h2.2.2.2, h1.2.2.2.2.2⟩

theorem lookup_all {α : Type} {p : Str × α -> Bool} : ∀ {l : List (Str × α)} {x : Str} {k : α}, l.all p = true -> l.lookup x = some k -> ∃ y, p (y, k) = true
  | (y, k') :: r, x, k, h, e => by
    rw [List.all_cons, Bool.and_eq_true] at h
    rw [List.lookup_cons] at e
    cases q : x == y with
    | true => rw [q] at e; cases e; exact ⟨y, h.1⟩
    | false => rw [q] at e; exact lookup_all h.2 e

theorem zip_mem {ps : List String} {p : String -> Bool} (hp : ps.all p = true) : ∀ {cs : List Value} {x : Str × Value}, x ∈ (ps.map S).zip cs -> ∃ y, x.1 = S y ∧ p y = true := by
  intro cs x hx
  have := (List.of_mem_zip hx).1
  obtain ⟨y, hy, e⟩ := List.mem_map.mp this
  exact ⟨y, e.symm, List.all_eq_true.mp hp y hy⟩

def SndFc (prog : Program) (w : World) (hO : HB) (n : Nat) (fv : Value) (f : DF) : Prop :=
  ∀ (A : Around) (vs : List AV) (cs : List Value) (σ : List AObj) (v : AV) (σ' : List AObj) (s : Shared) (μ : List Addr) (R : Result -> Shared -> Prop), Room n A -> f vs σ = some (v, σ') ->
    VRels hO.prv μ s.heap vs cs -> St prog w hO μ σ s.heap -> Post prog w hO s μ v σ' (fun c s' => R (.ok (.ret c)) s') -> codeAny (model prog w) A (.call fv ⟨cs, []⟩) R s
theorem SndFc.f {fv : Value} {f : DF} (h : SndFc prog w hO n fv f) : SndF prog w hO n fv f := by
  intro A vs cs σ v σ' s μ Q E R e rs X P
  exact wpAny_call (h A vs cs σ v σ' s μ _ R e rs X P)

theorem snd_fun {mg mb : Str -> Option Value} {K : Frag} (B : Base hO K mg mb) {a : Addr} {fd : FuncData} {body : List Stmt} {ps : List String} {d : DenS} (H : FnOk K a fd ps) (hbody : fd.body = .stmts body) (hB : SndB prog w hO n fd.scope body d) : SndFc prog w hO (n + 1) (.ref a) (dFun ps d) := by
  intro A vs cs σ v σ' s μ RR R e rs X P
  refine bind1 e fun ρ e1 e => ?_
  refine bind3 e fun f ρ' σ1 e2 e => ?_
  obtain ⟨o, ho, hd⟩ := H.at_
  obtain ⟨cc, oc, vc, tc, c1, c2, c3, c4⟩ := H.code
  have hl := bindRho_len e1
  have KI := B.kin X
  have hlim : s.heap.NoLimit := B.lim.keeps X.base
  have R1 := R
  refine (codeAny_call_cells (binds := (ps.map S).zip cs) (by have := R.2.1; omega) (KI _ _ ho) hd hlim ⟨cc, oc, vc, tc, c1, KI _ _ c2, c3, c4⟩ hbody (H.bind cs (by rw [← rs.length, hl])) H.clo (fun x hx => ?_) (fun s₁ I => ?_) H.co H.gen H.kind)
  · obtain ⟨y, ey, ky⟩ := zip_mem H.par hx
    rw [ey]
    unfold kindOk at ky
    split at ky
    · rename_i q; exact .inl q
    · rename_i q; exact .inr ⟨q, cells_has _ _ _ q⟩
    · cases ky
  · obtain ⟨h1, t1, rfl⟩ := I.toInCall.same
    have eE : callEnvC fd s.heap.objs.size a = ({ L := s.heap.objs.size, cl := cellsFrom (s.heap.objs.size + 1) fd.scope.names [], q := fd.qualname ++ ".<locals>.", fn := some a, cd := fd.code, fr := some s.heap.objs.size } : EP).env fd.scope := by
      unfold callEnvC
      rw [H.glob, H.blt]
      unfold newEnv
      rfl
    rw [eE] at I ⊢
    generalize hx : ({ L := s.heap.objs.size, cl := cellsFrom (s.heap.objs.size + 1) fd.scope.names [], q := fd.qualname ++ ".<locals>.", fn := some a, cd := fd.code, fr := some s.heap.objs.size } : EP) = x at I ⊢
    have xL : x.L = s.heap.objs.size := by rw [← hx]
    have xc : x.cl = cellsFrom (s.heap.objs.size + 1) fd.scope.names [] := by rw [← hx]
    clear hx eE
    have hsz : s.heap.objs.size ≤ h1.objs.size := Nat.le_of_lt (Nat.lt_of_le_of_lt I.toInCall.fresh I.toInCall.ns.lt)
    have X1 : St prog w hO μ σ h1 := X.more hsz I.toInCall.keep
    have G1 : Grow [] μ s.heap μ h1 := ⟨⟨[], by simp, fun V q => (nomatch q)⟩, hsz, fun b o e V V => I.toInCall.keep b o e⟩
    have rs1 := rs.grow G1 (.nil _)
    obtain ⟨b1, b2⟩ := binds_ok (kf := (x.env fd.scope).kindOf) (m := fun V => none) (cm := fun V => none) e1 rs1 (fun V V q => by cases q) (fun V V q => by cases q)
    have nofree : ∀ y, fd.scope.names.lookup y ≠ some .free := fun y q => by
      obtain ⟨z, hz⟩ := lookup_all H.free q
      simp at hz
    have low : ∀ {ca : Addr}, s.heap.objs.size ≤ ca -> s.heap.get? ca = none := fun q => by
      cases ez : s.heap.get? _ with
      | none => rfl
      | some o => exact absurd (Heap.lt_size ez) (Nat.not_lt.mpr q)
    have offm : ∀ {ca : Addr}, s.heap.objs.size ≤ ca -> ca ∉ μ := fun q z => absurd (X.lt _ z) (Nat.not_lt.mpr q)
    have offp : ∀ {ca : Addr}, s.heap.objs.size ≤ ca -> ca ∉ hO.prv := fun q z => absurd (X.prv _ z).2.2.1 (Nat.not_lt.mpr q)
    have off0 : ∀ {ca : Addr}, s.heap.objs.size ≤ ca -> hO.get? ca = none := fun {ca} q => by
      cases ez : hO.get? ca with
      | none => rfl
      | some o => have := X.base _ _ ez; rw [low q] at this; cases this
    have cge : ∀ {y ca}, x.cl.lookup y = some ca -> s.heap.objs.size ≤ ca := fun q => by
      have := I.above _ _ (mem_of_lookup q)
      rw [show (x.env fd.scope).locals = s.heap.objs.size from xL] at this
      exact Nat.le_of_lt this
    let own : List Addr := x.L :: x.cl.filterMap fun p => x.cl.lookup p.1
    have ownc : ∀ b ∈ x.cl.filterMap (fun p => x.cl.lookup p.1), ∃ y, x.cl.lookup y = some b := fun b hb => by
      obtain ⟨p, _, e⟩ := List.mem_filterMap.mp hb
      exact ⟨_, e⟩
    have ownge : ∀ b ∈ own, s.heap.objs.size ≤ b := fun b hb => by
      rcases List.mem_cons.mp hb with rfl | hb
      · exact Nat.le_of_eq xL.symm
      · obtain ⟨y, hy⟩ := ownc b hb
        exact cge hy
    have OC : OwnsC (x.env fd.scope) own := fun y ky => by
      have hs := cells_has (x := S y) fd.scope.names (s.heap.objs.size + 1) [] ky
      obtain ⟨ca, hca⟩ := Option.isSome_iff_exists.mp hs
      rw [← xc] at hca
      exact ⟨ca, hca, List.mem_cons_of_mem _ (List.mem_filterMap.mpr ⟨_, mem_of_lookup hca, hca⟩)⟩
    have F1 : FrOk hO h1 (x.env fd.scope) own μ ρ := by
      refine ⟨⟨_, I.toInCall.ns, b1⟩, fun y u ey ky => ?_, List.mem_cons_self, ⟨fun b hb => ?_⟩, fun b hb => ⟨offm (ownge b hb), off0 (ownge b hb)⟩, fun y ca ey => ?_, fun b hb => offp (ownge b hb), fun y ca ey => offp (cge ey), fun y ca ky => ?_, fun y z ca ey ez => ?_, fun y ky => ?_⟩
      · rcases ky with ky | ky
        · have hs := cells_has (x := S y) fd.scope.names (s.heap.objs.size + 1) [] ky
          obtain ⟨ca, hca⟩ := Option.isSome_iff_exists.mp hs
          rw [← xc] at hca
          obtain ⟨c, h2, r2⟩ := b2 y u ey (by rw [ky]; intro q; cases q)
          have := I.cell _ _ hca
          rw [h2] at this
          exact ⟨ca, c, hca, this, r2⟩
        · exact absurd ky (nofree _)
      · rcases List.mem_cons.mp hb with rfl | hb
        · obtain ⟨o, es, ep, e, hd, _⟩ := I.toInCall.ns
          exact ⟨o, e, .inl ⟨es, ep, hd⟩⟩
        · obtain ⟨y, hy⟩ := ownc b hb
          obtain ⟨oo, e, hd⟩ := I.cell _ _ hy
          exact ⟨oo, e, .inr (.inl ⟨_, hd⟩)⟩
      · obtain ⟨oo, e, hd⟩ := I.cell _ _ ey
        exact ⟨offm (cge ey), Heap.lt_size e⟩
      · exact ⟨_, I.cell _ _ ky⟩
      · exact S_inj (name_of_addr I.apart (mem_of_lookup ey) (mem_of_lookup ez))
      · rcases ky with ky | ky
        · have hs := cells_has (x := y) fd.scope.names (s.heap.objs.size + 1) [] ky
          rw [← xc] at hs
          exact hs
        · exact absurd ky (nofree _)
    refine hB _ _ _ _ _ _ x _ own μ _ _ ⟨R.1, ?_, ?_⟩ OC e2 F1 X1 fun h2 t2 μ2 G2 X2 F2 => ?_
    · have := R.2.1; show A.depth + 1 + n < recursionLimit; omega
    · have := R.2.2; show A.units + 3 + 40 * n + 100 < cLine; omega
    · have G : Grow [] μ s.heap μ2 h2 := (G1.up.trans G2).shrink fun b hb => .inr (low (ownge b hb))
      cases f with
      | next => have P := P.of e; exact P h2 t2 μ2 _ G X2 .none
      | ret u => have P := P.of e; exact fun c rc => P h2 t2 μ2 c G X2 rc
end
end
section
section den
noncomputable def oAbs (vs : List AV) (σ : List AObj) : Option (AV × List AObj) := match vs with
  | [.int i] => some (.int (if i < 0 then -i else i), σ)
  | _ => none
noncomputable def lenV (v : AV) (σ : List AObj) : Option Nat := match v with
  | .tup xs => some xs.length
  | .lst xs => some xs.length
  | .obj d => match look σ d with
    | some (.lst xs) => some xs.length
    | some (.id kvs) => some kvs.length
    | some (.sd kvs) => some kvs.length
    | _ => none
  | _ => none
noncomputable def oLen (vs : List AV) (σ : List AObj) : Option (AV × List AObj) := match vs with
  | [v] => (lenV v σ).bind fun n => if n ≤ 1000 then some (.int n, σ) else none
  | _ => none
noncomputable def oList (vs : List AV) (σ : List AObj) : Option (AV × List AObj) := match vs with
  | [.tup xs] => if xs.length ≤ 1000 then some (.lst xs, σ) else none
  | [.lst xs] => if xs.length ≤ 1000 then some (.lst xs, σ) else none
  | _ => none
noncomputable def oTuple (vs : List AV) (σ : List AObj) : Option (AV × List AObj) := match vs with
  | [.lst xs] => if xs.length ≤ 1000 then some (.tup xs, σ) else none
  | [.tup xs] => some (.tup xs, σ)
  | _ => none
noncomputable def ins1 (x : Int) : List Int -> List Int
  | [] => [x]
  | y :: r => if x ≤ y then x :: y :: r else y :: ins1 x r
noncomputable def isort : List Int -> List Int
  | [] => []
  | x :: r => ins1 x (isort r)
noncomputable def keysOf (v : AV) (σ : List AObj) : Option (List Int) := match v with
  | .lst xs => intsOf xs
  | .obj d => match look σ d with
    | some (.id kvs) => some (kvs.map (·.1))
    | _ => none
  | _ => none
noncomputable def oSorted (vs : List AV) (σ : List AObj) : Option (AV × List AObj) := match vs with
  | [v] => (keysOf v σ).bind fun l => if l.length < 64 then some (.lst ((isort l).map .int), σ) else none
  | _ => none
noncomputable def maxI : Int -> List Int -> Int
  | m, [] => m
  | m, x :: r => maxI (if m < x then x else m) r
noncomputable def oMax (vs : List AV) (σ : List AObj) : Option (AV × List AObj) := match vs with
  | [.obj d] => match look σ d with
    | some (.id ((k, _) :: kvs)) => some (.int (maxI k (kvs.map (·.1))), σ)
    | _ => none
  | _ => none
noncomputable def isT (T : String) (v : AV) : Option Bool := match v with
  | .int _ => if T = "int" then some true else if T = "bool" then some false else if T = "tuple" then some false else none
  | .bool _ => if T = "int" then some true else if T = "bool" then some true else if T = "tuple" then some false else none
  | .tup _ => if T = "tuple" then some true else none
  | .lst _ => if T = "tuple" then some false else none
  | _ => none
noncomputable def dIsT (T : String) (d : Den) : Den := fun ρ σ => (d ρ σ).bind fun p => (isT T p.1).map fun b => (.bool b, p.2)
noncomputable def dCall (f : DF) (ds : DenL) : Den := fun ρ σ => (ds ρ σ).bind fun p => f p.1 p.2
end den

theorem ins1_perm (x : Int) : ∀ l, (ins1 x l).Perm (x :: l)
  | [] => .refl _
  | y :: r => by
    unfold ins1
    split
    · exact .refl _
    · exact ((ins1_perm x r).cons y).trans (.swap x y r)
theorem isort_perm : ∀ l, (isort l).Perm l
  | [] => .refl _
  | x :: r => (ins1_perm x (isort r)).trans ((isort_perm r).cons x)
theorem ins1_sorted (x : Int) : ∀ l : List Int, l.Pairwise (· ≤ ·) -> (ins1 x l).Pairwise (· ≤ ·)
  | [], _ => List.pairwise_singleton _ _
  | y :: r, h => by
    obtain ⟨h1, h2⟩ := List.pairwise_cons.mp h
    unfold ins1
    split
    · rename_i q
      refine List.pairwise_cons.mpr ⟨fun z hz => ?_, h⟩
      rcases List.mem_cons.mp hz with rfl | hz
      · exact q
      · exact Int.le_trans q (h1 z hz)
    · rename_i q
      refine List.pairwise_cons.mpr ⟨fun z hz => ?_, ins1_sorted x r h2⟩
      rcases List.mem_cons.mp ((ins1_perm x r).mem_iff.mp hz) with rfl | hz
      · omega
      · exact h1 z hz
theorem isort_sorted : ∀ l, (isort l).Pairwise (· ≤ ·)
  | [] => .nil
  | x :: r => ins1_sorted x _ (isort_sorted r)
theorem sort_unique {l m : List Int} (hp : l.Perm m) (h1 : l.Pairwise (· ≤ ·)) (h2 : m.Pairwise (· ≤ ·)) : l = m :=
  hp.eq_of_pairwise (fun a b V V x y => Int.le_antisymm x y) h1 h2
theorem maxI_mem : ∀ (m : Int) (l : List Int), maxI m l ∈ m :: l
  | m, [] => by simp [maxI]
  | m, x :: r => by
    have := maxI_mem (if m < x then x else m) r
    unfold maxI
    rcases List.mem_cons.mp this with h | h
    · rw [h]; split <;> simp
    · exact List.mem_cons_of_mem _ (List.mem_cons_of_mem _ h)
theorem maxI_ge : ∀ (m : Int) (l : List Int), ∀ x ∈ m :: l, x ≤ maxI m l
  | m, [], x, h => by simp at h; subst h; exact Int.le_refl _
  | m, y :: r, x, h => by
    unfold maxI
    have ih := maxI_ge (if m < y then y else m) r
    have h0 := ih _ List.mem_cons_self
    rcases List.mem_cons.mp h with rfl | h
    · refine Int.le_trans ?_ h0; split <;> omega
    · rcases List.mem_cons.mp h with rfl | h
      · refine Int.le_trans ?_ h0; split <;> omega
      · exact ih x (List.mem_cons_of_mem _ h)

section
variable {prog : Program} {w : World} {hO : HB} {n : Nat} {sc : Scope}

theorem grow_keep {μ : List Addr} {h h' : Heap} (hs : h.objs.size ≤ h'.objs.size) (k : ∀ b o, h.get? b = some o -> h'.get? b = some o) : Grow [] μ h μ h' :=
  ⟨⟨[], by simp, fun V q => (nomatch q)⟩, hs, fun b o e V V => k b o e⟩
theorem St.off_ge {μ : List Addr} {σ : List AObj} {h : Heap} (X : St prog w hO μ σ h) {a : Addr} (q : h.objs.size ≤ a) : Off hO.prv μ a := ⟨fun z => Nat.not_lt.mpr q (X.lt a z), fun z => Nat.not_lt.mpr q (X.prv a z).2.2.1⟩
theorem sh_abs {vs : List AV} {σ : List AObj} {r : AV × List AObj} (e : oAbs vs σ = some r) : ∃ i, vs = [.int i] := by
  cases vs with
  | nil => exact no e
  | cons a t => cases a with
    | int x => cases t with
      | nil => exact ⟨_, rfl⟩
      | cons => exact no e
    | _ => exact no e
theorem f_abs : SndF prog w hO n (.builtin "abs") oAbs := by
  intro A vs cs σ v σ' s μ Q E R e rs X P
  obtain ⟨i, rfl⟩ := sh_abs e
  unfold oAbs at e
  dsimp only at e
  apply rs.e1; intro c1 r1
  apply r1.eInt; intro t
  have P := P.of e
  exact call_abs_int fun u tk => P _ tk μ _ (.refl _ _ _) X (.int _ u)
set_option tactic.hygienic true in
theorem f_len : SndF prog w hO n (.builtin "len") oLen := by
  intro A vs cs σ v σ' s μ Q E R e rs X P
  unfold oLen at e
  split at e
  · rename_i v
    apply rs.e1; intro c1 r1
    refine bind1 e fun k ek e => ?_
    split at e
    · rename_i hz
      have P := P.of e
      have hz' : ((k : Nat) : Int) < 2 ^ 63 := by omega
      have fin : ∀ {m : Nat}, k = m -> ∀ t, Q (.int (m : Nat) t) { s with toks := s.toks + 1 + 1 } := fun {m} q t => by
        subst q; exact P s.heap _ μ _ (.refl _ _ _) X (.int _ _)
      unfold lenV at ek
      cases v with
      | tup => cases ek; apply r1.eTup; intro _ _ a1 a2 a3; exact len_tuple a1 (by rw [List.size_toArray, ← a3.length]; exact hz') (fin (by rw [List.size_toArray, ← a3.length]) _)
      | lst => cases ek; apply r1.eLst; intro _ _ a1 a2 a3; exact call_len_list a1 (by rw [List.size_toArray, ← a3.length]; exact hz') (fin (by rw [List.size_toArray, ← a3.length]) _)
      | obj d =>
        apply r1.eObj; intro ad hd
        dsimp only at ek
        split at ek
        · rename_i ho
          cases ek
          obtain ⟨cs, m, hl, rs⟩ := X.look hd ho
          exact call_len_list (isL hl) (by rw [List.size_toArray, ← rs.length]; exact hz') (fin (by rw [List.size_toArray, ← rs.length]) _)
        · rename_i ho
          cases ek
          obtain ⟨l, D, kv⟩ := X.look hd ho
          exact call_len_dict (X.ne_mod hd) D (by rw [← kv.length]; exact hz') (fin kv.length _)
        · rename_i ho
          cases ek
          obtain ⟨l, D, kv⟩ := X.look hd ho
          exact call_len_dict (X.ne_mod hd) D (by rw [← kv.length]; exact hz') (fin kv.length _)
        · exact no ek
      | _ => exact no ek
    · exact no e
  · exact no e
theorem sh_list {vs : List AV} {σ : List AObj} {r : AV × List AObj} (e : oList vs σ = some r) : (∃ x, vs = [.tup x]) ∨ ∃ x, vs = [.lst x] := by
  cases vs with
  | nil => exact no e
  | cons a t => cases a with
    | lst x => cases t with
      | nil => exact .inr ⟨_, rfl⟩
      | cons => exact no e
    | tup x => cases t with
      | nil => exact .inl ⟨_, rfl⟩
      | cons => exact no e
    | _ => exact no e
theorem f_list : SndF prog w hO n (.type "list") oList := by
  intro A vs cs σ v σ' s μ Q E R e rs X P
  have gen : ∀ {T : String} {it : Addr} {o : Obj} {xs : List AV} {cs : List Value} {m : Nat}, (T = "list" ∨ T = "tuple") -> s.heap.get? it = some o -> o.cls = .type T -> o.data = .seq cs.toArray m -> VRels hO.prv μ s.heap xs cs -> xs.length ≤ 1000 -> v = .lst xs -> σ = σ' -> wpAny (model prog w) A (call (.type "list") [.ref it]) Q E s := by
    intro T it o xs cs m hT ho hc hd rs hz e1 e2
    subst e1 e2
    refine call_list_seq it hT ho hc hd (fun h' c' hk hL => ?_) (by rw [List.size_toArray, ← rs.length]; exact Nat.le_trans hz (by decide))
    have hsz := Nat.le_of_lt (Heap.lt_size hL)
    have G := grow_keep (μ := μ) hsz hk
    exact P h' s.toks μ _ G (X.more hsz hk) (.lst ⟨_, hL, rfl, _, rfl⟩ X.fresh (rs.grow G (.nil _)))
  rcases sh_list e with ⟨x, rfl⟩ | ⟨x, rfl⟩
  · unfold oList at e
    dsimp only at e
    apply rs.e1; intro c1 r1
    split at e
    · rename_i hz
      cases e
      apply r1.eTup; intro _ _ a1 a2 a3
      · obtain ⟨o, ho, hc, m, hd⟩ := a1
        exact gen (.inr rfl) ho hc hd a3 hz rfl rfl
    · exact no e
  · unfold oList at e
    dsimp only at e
    apply rs.e1; intro c1 r1
    split at e
    · rename_i hz
      cases e
      apply r1.eLst; intro _ _ a1 a2 a3
      · obtain ⟨o, ho, hc, m, hd⟩ := a1
        exact gen (.inl rfl) ho hc hd a3 hz rfl rfl
    · exact no e
theorem sh_tuple {vs : List AV} {σ : List AObj} {r : AV × List AObj} (e : oTuple vs σ = some r) : (∃ x, vs = [.lst x]) ∨ ∃ x, vs = [.tup x] := by
  cases vs with
  | nil => exact no e
  | cons a t => cases a with
    | lst x => cases t with
      | nil => exact .inl ⟨_, rfl⟩
      | cons => exact no e
    | tup x => cases t with
      | nil => exact .inr ⟨_, rfl⟩
      | cons => exact no e
    | _ => exact no e
theorem f_tuple : SndF prog w hO n (.type "tuple") oTuple := by
  intro A vs cs σ v σ' s μ Q E R e rs X P
  rcases sh_tuple e with ⟨x, rfl⟩ | ⟨x, rfl⟩
  · unfold oTuple at e
    dsimp only at e
    apply rs.e1; intro c1 r1
    split at e
    · rename_i hz
      have P := P.of e
      apply r1.eLst; intro al cl a1 a2 a3
      · refine with_dead (call_tuple_list a1 (fun h' hk hdd => ?_) (by rw [List.size_toArray, ← a3.length]; exact Nat.le_trans hz (by decide)))
        have hdd : Dead s.heap (h'.push { cls := .type "tuple", data := .seq cl.toArray }) := hdd
        have hsz : s.heap.objs.size ≤ h'.objs.size := by
          refine Nat.not_lt.mp fun q => ?_
          have alive : (h'.push { cls := .type "tuple", data := .seq cl.toArray }).get? h'.objs.size = some { cls := .type "tuple", data := .seq cl.toArray } := Heap.get?_push_size _ rfl
          cases e : s.heap.get? h'.objs.size with
          | none => rw [hdd.2 _ q e] at alive; cases alive
          | some o => exact absurd (Heap.lt_size (hk _ _ e)) (Nat.lt_irrefl _)
        have G := (grow_keep (μ := μ) hsz hk).push { cls := .type "tuple", data := .seq cl.toArray }
        have X' := X.more hsz hk
        exact P _ s.toks μ _ G (X'.push _) (.tup ⟨_, Heap.get?_push_size _ rfl, rfl, 0, rfl⟩ X'.fresh (a3.grow G (.nil _)))
    · exact no e
  · unfold oTuple at e
    dsimp only at e
    apply rs.e1; intro c1 r1
    have P := P.of e
    apply r1.eTup; intro _ _ a1 a2 a3
    exact call_tuple_tup a1 (P s.heap s.toks μ _ (.refl _ _ _) X (.tup a1 a2 a3))
theorem intsAre_of {μ : List Addr} {h : Heap} {xs : List AV} : ∀ {cs : List Value} {l : List Int}, VRels hO.prv μ h xs cs -> intsOf xs = some l -> IntsAre cs l := by
  induction xs with
  | nil => intro cs l r e; apply r.eNil; cases e; exact .nil
  | cons x xs ih =>
    intro cs l r e
    apply r.eCons; intro c ds a b
    cases x <;> try exact no e
    apply a.eInt; intro t
    obtain ⟨l', e1, rfl⟩ := Option.map_eq_some_iff.mp e
    exact .cons _ t (ih b e1)
theorem vrels_ints {μ : List Addr} {h : Heap} {cs : List Value} {l : List Int} (r : IntsAre cs l) : VRels hO.prv μ h (l.map .int) cs := by
  induction r with
  | nil => exact .nil
  | cons n t _ ih => exact .cons (.int n t) ih
theorem KVs.keys {μ : List Addr} {h : Heap} {l : List (Int × AV)} {l' : List (Int × Value)} (r : KVs (fun k => k) hO.prv μ h l l') : l'.map (·.1) = l.map (·.1) := by
  induction r with
  | nil => rfl
  | cons _ _ ih => exact congrArg (_ :: ·) ih
theorem IntsAre.ofKeys {prog : Program} {w : World} {cs : List Value} : ∀ {m : List (Int × Value)}, cs.length = m.length -> (∀ (j : Nat) (v : Value), cs[j]? = some v -> ∃ k x, m[j]? = some (k, x) ∧ (intKind prog w).is k v = true) -> IntsAre cs (m.map (·.1)) := by
  induction cs with
  | nil => intro m hm _; cases m with | nil => exact .nil | cons => cases hm
  | cons c cs ih =>
    intro m hm hv
    cases m with
    | nil => cases hm
    | cons p m =>
      obtain ⟨k, x, h1, h2⟩ := hv 0 c rfl
      cases h1
      obtain ⟨t, rfl⟩ := Value.isInt_shape h2
      exact .cons k t (ih (Nat.succ.inj hm) fun j v e => hv (j + 1) v e)
set_option tactic.hygienic true in
theorem f_sorted : SndF prog w hO n (.builtin "sorted") oSorted := by
  intro A vs cs σ v σ' s μ Q E R e rs X P
  unfold oSorted at e
  split at e
  · rename_i v
    apply rs.e1; intro c1 r1
    refine bind1 e fun l el e => ?_
    split at e
    · rename_i hz
      have P := P.of e
      unfold keysOf at el
      cases v with
      | lst xl =>
        apply r1.eLst; intro al cl a1 a2 a3
        have hi := intsAre_of a3 el
        have hlen := IntsAre.length hi
        refine sorted_ints a1 hi (by omega) fun out ns' a1 a2 a3 => ?_
        obtain ⟨e, he⟩ := sortedAll_at s.heap cl out
        have k : ∀ b o, s.heap.get? b = some o -> (sortedAll s.heap cl out).get? b = some o := fun V V => sortedAll_old
        have hns : ns' = isort l := sort_unique (a2.trans (isort_perm l).symm) a3 (isort_sorted l)
        subst hns
        have hsz : s.heap.objs.size ≤ (sortedAll s.heap cl out).objs.size := Nat.le_of_lt (Nat.lt_of_succ_lt (Heap.lt_size he))
        have G := grow_keep (μ := μ) hsz k
        refine P _ s.toks μ _ G (X.more hsz k) (.lst (cs := out.toList) ⟨_, he, rfl, e, by simp⟩ (X.off_ge (Nat.le_succ _)) (vrels_ints a1))
      | obj d =>
        apply r1.eObj; intro ad hd
        dsimp only at el
        cases ho : look σ d with
        | none => rw [ho] at el; exact no el
        | some ob =>
          rw [ho] at el
          have ht := X.look hd ho
          cases ob with
          | id kvs =>
            cases el
            obtain ⟨l', D, kv⟩ := ht
            have hln := kv.length
            rw [List.length_map] at hz
            obtain ⟨ep, hat⟩ := D.dictAt
            have K := kdl_dict (prog := prog) (w := w) (knd := intKind prog w) (kvs := l') (ep := ep) (X.ne_mod hd)
            refine call_function_entry kind_sorted plain_sorted entry_sorted (args_sorted1 _) ?_
            unfold Builtin.«sorted»
            refine wpAny_bind (m := checkCount "sorted" 1 1 _) (wpAny_pure ?_)
            refine wpAny_bind (with_size (kdu_collect (A := A.in1) K R.1 hat (by rw [← hln]; exact Nat.le_trans (Nat.le_of_lt hz) (by decide)) fun h' tk acc hk hacc hsz => ?_))
            have hsz : s.heap.objs.size ≤ h'.objs.size := hsz
            have hl2 : acc.toList.length = l'.length := by rw [Array.length_toList]; exact hacc.1
            refine wpAny_bind (wpAny_newList ?_ (by rw [hl2, ← hln]; exact Nat.le_trans (Nat.le_of_lt hz) (by decide)))
            have hI : IntsAre acc.toList (kvs.map (·.1)) := by
              rw [← kv.keys]
              exact IntsAre.ofKeys hl2 fun j v e => hacc.2 j v (by rw [← Array.getElem?_toList]; exact e)
            have hoL : (h'.push { cls := .type "list", data := .seq acc.toList.toArray }).get? h'.objs.size = some (seqObj "list" acc.toList.toArray 0) := Heap.get?_push_size _ rfl
            refine wpAny_bind (wpAny_holding (wpAny_call_entry slot_list_sort ⟨_, hoL, rfl⟩ entry_list_sort (list_sort_tree hoL hI (by rw [hl2, ← hln]; exact hz) fun out ns' a1 a2 a3 => ⟨_, rfl, ?_⟩) (args_list_sort _)))
            refine wpAny_pure ⟨_, rfl, ?_⟩
            obtain ⟨e, he⟩ := sortedHeap_at (vs := acc.toList) (out := out) hoL
            have k : ∀ b o, s.heap.get? b = some o -> (sortedHeap (h'.push { cls := .type "list", data := .seq acc.toList.toArray }) h'.objs.size acc.toList out).get? b = some o := fun b o eb => by
              have e1 := hk b o eb
              have lt := Heap.lt_size e1
              rw [sortedHeap_old (Nat.ne_of_lt lt) (by rw [size_push']; exact Nat.lt_succ_of_lt lt)]
              exact Heap.get?_push_of_some _ e1
            have hns : ns' = isort (kvs.map (·.1)) := sort_unique (a2.trans (isort_perm _).symm) a3 (isort_sorted _)
            subst hns
            have hsz2 := Nat.le_trans hsz (Nat.le_of_lt (Heap.lt_size he))
            have G := grow_keep (μ := μ) hsz2 k
            refine P _ tk μ _ G (X.more hsz2 k) (.lst (cs := out.toList) ⟨_, he, rfl, e, by simp⟩ (X.off_ge hsz) (vrels_ints a1))
          | _ => exact no el
      | _ => exact no el
    · exact no e
  · exact no e
theorem sh_max {vs : List AV} {σ : List AObj} {r : AV × List AObj} (e : oMax vs σ = some r) : ∃ d, vs = [.obj d] := by
  cases vs with
  | nil => exact no e
  | cons a t => cases a with
    | obj x => cases t with
      | nil => exact ⟨_, rfl⟩
      | cons => exact no e
    | _ => exact no e
set_option tactic.hygienic true in
theorem f_max : SndF prog w hO n (.builtin "max") oMax := by
  intro A vs cs σ v σ' s μ Q E R e rs X P
  obtain ⟨d, rfl⟩ := sh_max e
  unfold oMax at e
  dsimp only at e
  apply rs.e1; intro c1 r1
  apply r1.eObj; intro ad hd
  · cases ho : look σ d with
    | none => rw [ho] at e; exact no e
    | some ob =>
      rw [ho] at e
      cases ob with
      | id kvs =>
        cases kvs with
        | nil => exact no e
        | cons p kvs =>
          have P := P.of e
          obtain ⟨l', D, kv⟩ := X.look hd ho
          have keys := kv.keys
          have hmem : ∀ z ∈ l'.map (·.1), z ∈ p.1 :: kvs.map (·.1) := fun z hz => by rw [keys] at hz; simpa using hz
          have hln := kv.length
          obtain ⟨ep, hat⟩ := D.dictAt
          have K := kdl_dict (prog := prog) (w := w) (knd := intKind prog w) (kvs := l') (ep := ep) (X.ne_mod hd)
          let val : Nat -> Int := fun i => ((l'.map (·.1))[i]?).getD 0
          have hval : ∀ (i : Nat) (v : Value), (∃ k x, l'[i]? = some (k, x) ∧ (intKind prog w).is k v = true) -> ∃ t : Tok, v = Value.int (val i) t := by
            rintro i v ⟨k, x, h1, h2⟩
            obtain ⟨t, rfl⟩ := Value.isInt_shape h2
            exact ⟨t, by simp [val, h1]⟩
          refine with_size (call_max_walkS ?_)
          obtain ⟨oI, Stt, hit, W, st⟩ := K.iter A.in1 s R.1 hat
          refine hit _ _ ⟨s.heap.objs.size, _, _, _, l'.length, _, _, _, rfl, W.toS, st, fun b hb => ?_, by rw [← hln]; simp, CmpOf.ints_gt val hval, fun v s' hP hm hsz => ?_⟩
          · show b < (s.heap.push oI).objs.size
            rw [size_push']
            rcases List.mem_cons.mp hb with e | hb
            · rw [e]; exact Nat.lt_succ_self _
            · rw [List.mem_singleton.mp hb]; exact Nat.lt_succ_of_lt (K.there _ hat).2
          · have hk : ∀ b o, s.heap.get? b = some o -> s'.heap.get? b = some o := fun b o e =>
              hm.heap b o (fun hI => absurd (Heap.lt_size e) (by rw [List.mem_singleton.mp hI]; exact Nat.lt_irrefl _)) (Heap.get?_push_of_some _ e)
            rw [Moved.eq_with hm] at hsz ⊢
            obtain ⟨t, rfl⟩ := hval _ v hP
            obtain ⟨b1, b2⟩ := argBest_gt val (l'.length - 1)
            have lpos : 0 < l'.length := by rw [← hln]; simp
            have hM : val (argBest (fun i j => decide (val i > val j)) (l'.length - 1)) = maxI p.1 (kvs.map (·.1)) := by
              refine Int.le_antisymm (maxI_ge _ _ _ ?_) ?_
              · have lt : argBest (fun i j => decide (val i > val j)) (l'.length - 1) < (l'.map (·.1)).length := by rw [List.length_map]; omega
                have e1 : val (argBest (fun i j => decide (val i > val j)) (l'.length - 1)) = (l'.map (·.1))[argBest (fun i j => decide (val i > val j)) (l'.length - 1)] := by
                  show ((l'.map (·.1))[_]?).getD 0 = _
                  rw [List.getElem?_eq_getElem lt]; rfl
                rw [e1]
                exact hmem _ (List.getElem_mem lt)
              · have hm2 := maxI_mem p.1 (kvs.map (·.1))
                have hm3 : maxI p.1 (kvs.map (·.1)) ∈ l'.map (·.1) := by rw [keys]; simpa using hm2
                obtain ⟨j, hj, ej⟩ := List.mem_iff_getElem.mp hm3
                have e1 : val j = maxI p.1 (kvs.map (·.1)) := by
                  show ((l'.map (·.1))[j]?).getD 0 = _
                  rw [List.getElem?_eq_getElem hj, ej]; rfl
                rw [← e1]
                exact b2 j (by rw [List.length_map] at hj; omega)
            rw [hM]
            have hsz : s.heap.objs.size ≤ s'.heap.objs.size := hsz
            have G := grow_keep (μ := μ) hsz hk
            exact P s'.heap s'.toks μ _ G (X.more hsz hk) (.int _ t)
      | _ => exact no e
end
end
section
noncomputable def nameB (sc : Scope) (k : NameKind) (y : Str) : Bool := sc.kind == .function && sc.names.lookup y == some k && !(y == ("__debug__" : Str))
theorem nameB_of {sc : Scope} {k : NameKind} {y : Str} (h : nameB sc k y = true) : sc.kind = .function ∧ sc.names.lookup y = some k ∧ (y == ("__debug__" : Str)) = false := by
  simp only [nameB, Bool.and_eq_true, beq_iff_eq, Bool.not_eq_true'] at h
  exact ⟨h.1.1, h.1.2, h.2⟩
noncomputable def globIn (K : Frag) (x : Str) : Option (Option Value) := (K.lookup mainGlobals).bind (lookIn x)

noncomputable def dNew (C : Addr) (f : DF) : DF := fun vs σ => (f (.ins C σ.length :: vs) (σ ++ [.fld []])).bind fun p => match p.1 with | .none => some (.ins C σ.length, p.2) | _ => none
noncomputable def ownOk (C : Addr) (name : String) (a : AV) (σ : List AObj) : Bool := match a with
  | .ins C' i => decide (C' = C) && match look σ i with
    | some (.fld fs) => (fs.lookup name).isNone
    | _ => false
  | _ => false

section
variable {prog : Program} {w : World} {hO : HB} {n : Nat} {sc : Scope} {mg mb : Str -> Option Value} {K : Frag}

set_option tactic.hygienic true in
theorem Base.mg_of (B : Base hO K mg mb) {x : Str} {r : Option Value} (e : globIn K x = some r) : mg x = r := by
  refine bind1 e fun o h1 h2 => ?_
  obtain ⟨o', es, ep, ho, hd, hk, hm⟩ := B.g
  have := B.k _ _ h1
  rw [ho] at this
  cases this
  unfold lookIn at h2
  rw [hd] at h2
  rw [← hm]
  show (es.find? fun e => e.key.isStr x).map (·.val) = r
  rw [← Array.find?_toList]
  dsimp only at h2
  split at h2
  · rename_i en he
    cases h2
    rw [he]; rfl
  · rename_i he
    split at h2
    · exact no h2
    · cases h2; rw [he]; rfl
theorem name_glob (B : Base hO K mg mb) {A : Around} {E : Value -> Shared -> Prop} {s : Shared} {x : EP} {μ : List Addr} {σ : List AObj} {y : String} {pos : Pos} {c : Value} {Q : Value -> Shared -> Prop} (hn : nameB sc .globalImplicit (S y) = true) (hc : globIn K (S y) = some (some c)) (X : St prog w hO μ σ s.heap)
    (h : Q c s) : wpAny (model prog w) A (eval (.Name (Str.ofString y) pos) (x.env sc)) Q E s := by
  obtain ⟨h1, h2, h3⟩ := nameB_of hn
  exact Calls.Name_function_global h1 h2 (Calls.loadGlobal_global (env := x.env sc) (B.g.keeps X.base) (B.mg_of hc) h) h3
theorem name_blt (B : Base hO K mg mb) {A : Around} {E : Value -> Shared -> Prop} {s : Shared} {x : EP} {μ : List Addr} {σ : List AObj} {y : String} {pos : Pos} {c : Value} {Q : Value -> Shared -> Prop} (hn : nameB sc .globalImplicit (S y) = true) (hg : globIn K (S y) = some none) (hb : bootBuiltins (S y) = some c) (hm : S y ≠ ("__name__" : Str)) (X : St prog w hO μ σ s.heap)
    (h : Q c s) : wpAny (model prog w) A (eval (.Name (Str.ofString y) pos) (x.env sc)) Q E s := by
  obtain ⟨h1, h2, h3⟩ := nameB_of hn
  exact Calls.Name_function_global h1 h2 (Calls.loadGlobal_builtin (env := x.env sc) (B.g.keeps X.base) (B.mg_of hg) (B.b.keeps X.base) ((B.bi _ hm).trans hb) h) h3

noncomputable abbrev CallShape (func : Expr) (args : List Expr) (pos : Pos) : Prop := ∀ env, eval (.Call func args [] pos) env = (do callWith pos (← eval func env) [] (backTo pos (starEach args env)) (backToKw pos (keywordEach [] env)))

theorem sndE_call (B : Base hO K mg mb) {y : String} {p pos : Pos} {e : Expr} {rest : List Expr} {a : Addr} {f : DF} {ds : DenL} (hn : nameB sc .globalImplicit (S y) = true) (hc : globIn K (S y) = some (some (.ref a))) (hk : keepIn K (.ref a) = true) (ha : SndL prog w hO n sc (e :: rest) ds) (hf : SndF prog w hO n (.ref a) f)
    (he : ∀ env, starEach (e :: rest) env = (false, eval e env) :: starEach rest env) (hp : ∀ env, (backTo pos (starEach rest env)).any (·.1) = false) (hx : CallShape (.Name (Str.ofString y) p) (e :: rest) pos) :
    SndE prog w hO n sc (.Call (.Name (Str.ofString y) p) (e :: rest) [] pos) (dCall f ds) := by
  intro A ρ σ v σ' x s own μ Q E R ed F X P
  refine bind2 ed fun vs σ1 e1 e2 => ?_
  refine Call_ (name_glob B hn hc X ?_) (hx _)
  refine callWith_K (K := K) (first := []) (B.kin X) hk ?_ (he _) (hp _)
  refine ha _ _ _ _ _ x s own μ pos _ _ R e1 F X fun h1 t1 μ1 cs G1 X1 r1 => ⟨B.kin X1, ?_⟩
  exact hf _ _ _ _ _ _ _ μ1 _ _ R e2 r1 X1 (P.step G1)
theorem sndE_call0 (B : Base hO K mg mb) {y : String} {p pos : Pos} {a : Addr} {f : DF} (hn : nameB sc .globalImplicit (S y) = true) (hc : globIn K (S y) = some (some (.ref a))) (hk : keepIn K (.ref a) = true) (hf : SndF prog w hO n (.ref a) f) (hx : CallShape (.Name (Str.ofString y) p) [] pos) :
    SndE prog w hO n sc (.Call (.Name (Str.ofString y) p) [] [] pos) (dCall f dNil) := by
  intro A ρ σ v σ' x s own μ Q E R ed F X P
  refine bind2 ed fun vs σ1 e1 e2 => ?_
  cases e1
  refine Call_ (name_glob B hn hc X ?_) (hx _)
  refine callWith_K0 (K := K) (first := []) (B.kin X) hk ?_
  exact hf _ _ _ _ _ _ _ μ _ _ R e2 .nil X P
theorem sndE_bcall (B : Base hO K mg mb) {y id : String} {p pos : Pos} {e : Expr} {rest : List Expr} {f : DF} {ds : DenL} (hn : nameB sc .globalImplicit (S y) = true) (hg : globIn K (S y) = some none) (hb : bootBuiltins (S y) = some (.builtin id)) (hm : S y ≠ ("__name__" : Str)) (ha : SndL prog w hO n sc (e :: rest) ds) (hf : SndF prog w hO n (.builtin id) f)
    (he : ∀ env, starEach (e :: rest) env = (false, eval e env) :: starEach rest env) (hp : ∀ env, (backTo pos (starEach rest env)).any (·.1) = false) (hx : CallShape (.Name (Str.ofString y) p) (e :: rest) pos) :
    SndE prog w hO n sc (.Call (.Name (Str.ofString y) p) (e :: rest) [] pos) (dCall f ds) := by
  intro A ρ σ v σ' x s own μ Q E R ed F X P
  refine bind2 ed fun vs σ1 e1 e2 => ?_
  refine Call_ (name_blt B hn hg hb hm X ?_) (hx _)
  refine callWith_builtin1 ?_ (he _) (hp _)
  refine ha _ _ _ _ _ x s own μ pos _ _ R e1 F X fun h1 t1 μ1 cs G1 X1 r1 => ?_
  exact hf _ _ _ _ _ _ _ μ1 _ _ R e2 r1 X1 (P.step G1)
theorem sndE_tcall (B : Base hO K mg mb) {y T : String} {p pos : Pos} {e : Expr} {rest : List Expr} {f : DF} {ds : DenL} (hn : nameB sc .globalImplicit (S y) = true) (hg : globIn K (S y) = some none) (hb : bootBuiltins (S y) = some (.type T)) (hm : S y ≠ ("__name__" : Str)) (ha : SndL prog w hO n sc (e :: rest) ds) (hf : SndF prog w hO n (.type T) f)
    (he : ∀ env, starEach (e :: rest) env = (false, eval e env) :: starEach rest env) (hp : ∀ env, (backTo pos (starEach rest env)).any (·.1) = false) (hx : CallShape (.Name (Str.ofString y) p) (e :: rest) pos) :
    SndE prog w hO n sc (.Call (.Name (Str.ofString y) p) (e :: rest) [] pos) (dCall f ds) := by
  intro A ρ σ v σ' x s own μ Q E R ed F X P
  refine bind2 ed fun vs σ1 e1 e2 => ?_
  refine Call_ (name_blt B hn hg hb hm X ?_) (hx _)
  refine PyProof.Rows.callWith_type1 ?_ (he _) (hp _)
  refine ha _ _ _ _ _ x s own μ pos _ _ R e1 F X fun h1 t1 μ1 cs G1 X1 r1 => ?_
  exact hf _ _ _ _ _ _ _ μ1 _ _ R e2 r1 X1 (P.step G1)

theorem ty_int : typeOf (.type "int") = pure (.type "type") := by kernel_rfl
theorem ty_bool : typeOf (.type "bool") = pure (.type "type") := by kernel_rfl
theorem ty_tuple : typeOf (.type "tuple") = pure (.type "type") := by kernel_rfl
theorem su_ib : isSubtype (.type "int") (.type "bool") = pure false := by rw [isSubtype_type]; kernel_rfl
theorem su_it : isSubtype (.type "int") (.type "tuple") = pure false := by rw [isSubtype_type]; kernel_rfl
theorem su_bt : isSubtype (.type "bool") (.type "tuple") = pure false := by rw [isSubtype_type]; kernel_rfl
theorem su_bi : isSubtype (.type "bool") (.type "int") = pure true := by rw [isSubtype_type]; kernel_rfl
theorem su_ii : isSubtype (.type "int") (.type "int") = pure true := by rw [isSubtype_type]; kernel_rfl
theorem su_bb : isSubtype (.type "bool") (.type "bool") = pure true := by rw [isSubtype_type]; kernel_rfl
theorem su_tt : isSubtype (.type "tuple") (.type "tuple") = pure true := by rw [isSubtype_type]; kernel_rfl
theorem su_lt : isSubtype (.type "list") (.type "tuple") = pure false := by rw [isSubtype_type]; kernel_rfl
theorem call_isT {A : Around} {E : Value -> Shared -> Prop} {s : Shared} {μ : List Addr} {T : String} {v : AV} {c : Value} {b : Bool} {Q : Value -> Shared -> Prop} (r : VRel hO.prv μ s.heap v c) (e : isT T v = some b) (h : ∀ t, Q (.bool b) { s with toks := t }) : wpAny (model prog w) A (call (.builtin "isinstance") [c, .type T]) Q E s := by
  unfold isT at e
  cases v with
  | int i =>
    apply r.eInt; intro t
    dsimp only at e
    split at e
    · rename_i q; subst q; cases e; exact call_isinstance (isinstance_true ty_int su_ii) ⟨typeIs_int s i t, h _⟩
    · split at e
      · rename_i q; subst q; cases e; exact call_isinstance (isinstance_false_int (by decide) ty_bool su_ib) (h _)
      · split at e
        · rename_i q; subst q; cases e; exact call_isinstance (isinstance_false_int (by decide) ty_tuple su_it) (h _)
        · exact no e
  | bool i =>
    apply r.eBool
    dsimp only at e
    split at e
    · rename_i q; subst q; cases e; exact call_isinstance (isinstance_true (Tx := "bool") ty_int su_bi) ⟨PySem.typeIs_bool s i, h _⟩
    · split at e
      · rename_i q; subst q; cases e; exact call_isinstance (isinstance_true (Tx := "bool") ty_bool su_bb) ⟨PySem.typeIs_bool s i, h _⟩
      · split at e
        · rename_i q; subst q; cases e; exact call_isinstance (isinstance_false_bool (by decide) ty_tuple su_bt) (h _)
        · exact no e
  | tup =>
    apply r.eTup; intro _ _ a1 a2 a3
    dsimp only at e
    split at e
    · rename_i q; subst q; cases e; exact call_isinstance (isinstance_true (Tx := "tuple") ty_tuple su_tt) ⟨a1.typeIs, h _⟩
    · exact no e
  | lst =>
    apply r.eLst; intro _ _ a1 a2 a3
    dsimp only at e
    split at e
    · rename_i q; subst q; cases e
      obtain ⟨o, ho, hc, _⟩ := a1
      exact call_isinstance (isinstance_false_list (by decide) ty_tuple su_lt) ⟨⟨o, ho, hc⟩, h _⟩
    · exact no e
  | _ => exact no e
theorem sndE_isT (B : Base hO K mg mb) {T : String} {p p2 pos : Pos} {e : Expr} {d : Den} (hn : nameB sc .globalImplicit (S "isinstance") = true) (hg : globIn K (S "isinstance") = some none) (hn2 : nameB sc .globalImplicit (S T) = true) (hg2 : globIn K (S T) = some none) (hb : bootBuiltins (S "isinstance") = some (.builtin "isinstance")) (hb2 : bootBuiltins (S T) = some (.type T)) (hm : S "isinstance" ≠ ("__name__" : Str)) (hm2 : S T ≠ ("__name__" : Str))
    (hd : SndE prog w hO n sc e d) (he : ∀ env, starEach [e, .Name (Str.ofString T) p2] env = (false, eval e env) :: starEach [.Name (Str.ofString T) p2] env) (hx : CallShape (.Name (Str.ofString "isinstance") p) [e, .Name (Str.ofString T) p2] pos) :
    SndE prog w hO n sc (.Call (.Name (Str.ofString "isinstance") p) [e, .Name (Str.ofString T) p2] [] pos) (dIsT T d) := by
  intro A ρ σ v σ' x s own μ Q E R ed F X P
  refine bind2 ed fun a σ1 e1 e2 => ?_
  obtain ⟨b, e3, e4⟩ := Option.map_eq_some_iff.mp e2
  cases e4
  refine Call_ (name_blt B hn hg hb hm X ?_) (hx _)
  refine callWith_builtin1 ?_ (he _) rfl
  rw [he]
  refine Calls.spliced_cons (hd _ _ _ _ _ x s own μ _ _ R e1 F X fun h1 t1 μ1 ca G1 X1 r1 => ?_)
  refine Calls.spliced_cons (name_blt B (s := { s with heap := h1, toks := t1 }) hn2 hg2 hb2 hm2 X1 (Calls.spliced_nil ?_))
  exact call_isT (s := { s with heap := h1, toks := t1 }) r1 e3 fun t => P h1 t μ1 _ G1 X1 (.bool _)

theorem own_get (B : Base hO K mg mb) {C f : Addr} {name : String} {A : Around} {E : Value -> Shared -> Prop} {s : Shared} {μ : List Addr} {σ : List AObj} {a : AV} {ca : Value} {pl : Sem Bool} {Q : Value × List Value -> Shared -> Prop} (hga : findIn K (.ref C) "__getattribute__" = some (some (.builtin "object.__getattribute__"))) (hk : findIn K (.ref C) "__getattr__" = some none) (hf : findIn K (.ref C) (S name) = some (some (.ref f))) (ht : typeIn K (.ref f) = some (.type "function"))
    (hg : ownOk C name a σ = true) (ra : VRel hO.prv μ s.heap a ca) (X : St prog w hO μ σ s.heap) (h : Q (.ref f, [ca]) s) : wpAny (model prog w) A (getMethod ca (S name) pl) Q E s := by
  unfold ownOk at hg
  cases a with
  | ins C' i =>
    obtain ⟨x, dx, rfl, hi, hx, hn⟩ := ra.iIns
    simp only [Bool.and_eq_true, decide_eq_true_eq] at hg
    obtain ⟨rfl, hg⟩ := hg
    cases ho : look σ i with
    | none => rw [ho] at hg; cases hg
    | some ob =>
      rw [ho] at hg
      cases ob with
      | fld fs =>
        obtain ⟨es, m, I, fr, he⟩ := inst_of X hi hx ho
        refine method_fn (B.kin X) I hga hk hf ht ?_ h
        unfold shadowIn
        dsimp only
        rw [lookIn_dict, fr.miss (Option.isNone_iff_eq_none.mp hg)]
        rfl
      | _ => cases hg
  | _ => cases hg
noncomputable def methB (K : Frag) (C f : Addr) (name : Str) : Bool := findIn K (.ref C) "__getattribute__" == some (some (.builtin "object.__getattribute__")) && findIn K (.ref C) "__getattr__" == some none && findIn K (.ref C) name == some (some (.ref f)) && typeIn K (.ref f) == some (.type "function") && keepIn K (.ref f)
theorem sndE_own (B : Base hO K mg mb) {C f : Addr} {name : String} {o e : Expr} {rest : List Expr} {apos pos : Pos} {g : DF} {d : Den} {ds : DenL} {pl : Env -> Sem Bool} (hm : methB K C f (S name) = true) (ho : SndE prog w hO n sc o d) (ha : SndL prog w hO n sc (e :: rest) ds) (hf : SndF prog w hO n (.ref f) g)
    (he : ∀ env, starEach (e :: rest) env = (false, eval e env) :: starEach rest env) (hp : ∀ env, (backTo pos (starEach rest env)).any (·.1) = false)
    (hx : ∀ env, eval (.Call (.Attribute o (Str.ofString name) apos) (e :: rest) [] pos) env = (do
      let ov ← eval o env
      standAt apos.atName
      let (f, first) ← holding [ov] (getMethod ov (Str.ofString name) (pl env))
      callWith pos f first (backTo pos (starEach (e :: rest) env)) [])) :
    SndE prog w hO n sc (.Call (.Attribute o (Str.ofString name) apos) (e :: rest) [] pos) (dMeth (ownOk C name) g d ds) := by
  intro A ρ σ v σ' x s own μ Q E R ed F X P
  simp only [methB, Bool.and_eq_true, beq_iff_eq] at hm
  obtain ⟨⟨⟨⟨hga, hgk⟩, hfi⟩, hty⟩, hkeep⟩ := hm
  refine bind2 ed fun a σ1 e1 ed => ?_
  dsimp only at ed
  split at ed
  · rename_i hg
    refine bind2 ed fun vs σ2 e2 ed => ?_
    refine MethodCall_ (ho _ _ _ _ _ x s own μ _ _ R e1 F X fun h1 t1 μ1 ca G1 X1 r1 => ?_) (hx _)
    refine own_get B hga hgk hfi hty hg r1 X1 ?_
    refine callWith_K (K := K) (B.kin X1) hkeep ?_ (he _) (hp _)
    refine ha _ _ _ _ _ x _ own μ1 pos _ _ R e2 (F.grow G1) X1 fun h2 t2 μ2 cs G2 X2 r2 => ⟨B.kin X2, ?_⟩
    exact hf _ (a :: vs) (ca :: cs) _ _ _ _ μ2 _ _ R ed (.cons (r1.grow G2 (.nil _)) r2) X2 ((P.step G1).step G2)
  · exact no ed
theorem sndE_own0 (B : Base hO K mg mb) {C f : Addr} {name : String} {o : Expr} {apos pos : Pos} {g : DF} {d : Den} {pl : Env -> Sem Bool} (hm : methB K C f (S name) = true) (ho : SndE prog w hO n sc o d) (hf : SndF prog w hO n (.ref f) g)
    (hx : ∀ env, eval (.Call (.Attribute o (Str.ofString name) apos) [] [] pos) env = (do
      let ov ← eval o env
      standAt apos.atName
      let (f, first) ← holding [ov] (getMethod ov (Str.ofString name) (pl env))
      callWith pos f first (backTo pos (starEach [] env)) [])) :
    SndE prog w hO n sc (.Call (.Attribute o (Str.ofString name) apos) [] [] pos) (dMeth (ownOk C name) g d dNil) := by
  intro A ρ σ v σ' x s own μ Q E R ed F X P
  simp only [methB, Bool.and_eq_true, beq_iff_eq] at hm
  obtain ⟨⟨⟨⟨hga, hgk⟩, hfi⟩, hty⟩, hkeep⟩ := hm
  refine bind2 ed fun a σ1 e1 ed => ?_
  dsimp only at ed
  split at ed
  · rename_i hg
    refine bind2 ed fun vs σ2 e2 ed => ?_
    cases e2
    refine MethodCall_ (ho _ _ _ _ _ x s own μ _ _ R e1 F X fun h1 t1 μ1 ca G1 X1 r1 => ?_) (hx _)
    refine own_get B hga hgk hfi hty hg r1 X1 ?_
    refine callWith_K0 (K := K) (B.kin X1) hkeep ?_
    exact hf _ [a] [ca] _ _ _ _ μ1 _ _ R ed (.cons r1 .nil) X1 (P.step G1)
  · exact no ed
theorem snd_new (B : Base hO K mg mb) {C fI : Addr} {f : DF} (hm : makesIn K C = true) (hi : findIn K (.ref C) "__init__" = some (some (.ref fI))) (hty : typeIn K (.ref fI) = some (.type "function")) (hf : SndFc prog w hO n (.ref fI) f) : SndFc prog w hO (n + 1) (.ref C) (dNew C f) := by
  intro A vs cs σ v σ' s μ RR R ed rs X P
  refine bind2 ed fun u σ1 e1 ed => ?_
  obtain ⟨hh, g, d, t, os⟩ := s
  have KI := B.kin X
  refine (make_core (makes_of KI hm) (looks_findIn KI hi) (fun self => bind_fn KI self hty) (.inl rfl) ?_)
  have X1 := X.alloc (ob := emptyDict) (o := .fld []) rfl ⟨[], 0, Heap.get?_push_size _ rfl, .nil⟩
  have X2 := X1.push (instObj C hh.objs.size)
  have G2 : Grow [] μ hh (μ ++ [hh.objs.size]) ((hh.push emptyDict).push (instObj C hh.objs.size)) := (grow_alloc _).push _
  have sz : (hh.push emptyDict).objs.size = hh.objs.size + 1 := Heap.size_push _ _
  have hx : ((hh.push emptyDict).push (instObj C hh.objs.size)).get? (hh.objs.size + 1) = some (instObj C hh.objs.size) := by rw [← sz]; exact Heap.get?_push_size _ rfl
  have hself : VRel hO.prv (μ ++ [hh.objs.size]) ((hh.push emptyDict).push (instObj C hh.objs.size)) (.ins C σ.length) (.ref (hh.objs.size + 1)) :=
    .ins (by rw [← X.len]; exact List.getElem?_concat_length) hx (by rw [← sz]; exact X1.fresh)
  have R' : Room n (A.under (.builtin "type.__call__" ⟨.ref C :: cs, []⟩)) := by
    have w0 : (Code.builtin "type.__call__" ⟨.ref C :: cs, []⟩).weight = 1 := by first | rfl | kernel_rfl
    have u0 : (Code.builtin "type.__call__" ⟨.ref C :: cs, []⟩).cUnits = 1 := by first | rfl | kernel_rfl
    refine ⟨R.1, ?_, ?_⟩
    · have := R.2.1
      show A.depth + _ + n < recursionLimit
      omega
    · have := R.2.2
      show A.units + _ + 40 * n + 100 < cLine
      omega
  refine hf _ (.ins C σ.length :: vs) (.ref (hh.objs.size + 1) :: cs) _ _ _ ⟨(hh.push emptyDict).push (instObj C hh.objs.size), g, d, t, os⟩ (μ ++ [hh.objs.size]) _ R' e1 (.cons hself (rs.grow G2 (.nil _))) X2 fun h3 t3 μ3 c G3 X3 r3 => ?_
  cases u <;> try cases ed
  apply r3.eNone
  exact ⟨rfl, P h3 t3 μ3 _ (G2.trans G3) X3 (hself.grow G3 (.nil _))⟩
end
end
section
noncomputable def restrict (h : Heap) (P : Addr -> Bool) : Heap := { h with objs := h.objs.mapIdx fun i o => if P i then o else { o with data := .freed } }
theorem restrict_get (h : Heap) (P : Addr -> Bool) (a : Addr) : (restrict h P).get? a = if P a then h.get? a else none := by
  unfold restrict Heap.get?
  simp only [Array.getElem?_mapIdx]
  cases e : h.objs[a]? with
  | none => simp
  | some o =>
    simp only [Option.map_some]
    cases hp : P a with
    | true => simp
    | false => simp

noncomputable def baseAt (hO : HB) (h : Heap) (σ : List AObj) (hs : List (Nat × Addr)) : HB :=
  { hp := restrict h fun a => (hO.get? a).isSome || (hs.map (·.2)).contains a, held := fun i => if (hs.map (·.1)).contains i then σ[i]? else hO.held i, prv := hO.prv, lo := hO.lo, lo_ok := hO.lo_ok }

section
variable {prog : Program} {w : World} {hO h₁ : HB} {h h₂ : Heap} {μ₀ : List Addr} {σ₁ : List AObj} {n : Nat} {sc : Scope} {mg mb : Str -> Option Value} {K : Frag} {μ own : List Addr} {hs : List (Nat × Addr)} {σ : List AObj} {env : Env} {ρ : Rho}

theorem baseAt_sub (hb : ∀ b o, hO.get? b = some o -> h.get? b = some o) : ∀ b o, hO.get? b = some o -> (baseAt hO h σ hs).get? b = some o := fun b o e => by
  unfold baseAt HB.get?
  dsimp only
  rw [restrict_get, show hO.hp.get? b = some o from e]
  simp [hb b o e]
theorem baseAt_in {p : Nat × Addr} (hp : p ∈ hs) : (baseAt hO h σ hs).get? p.2 = h.get? p.2 := by
  unfold baseAt HB.get?
  dsimp only
  rw [restrict_get, if_pos]
  simp only [Bool.or_eq_true, List.contains_iff_mem]
  exact .inr (List.mem_map.mpr ⟨p, hp, rfl⟩)
theorem baseAt_le : ∀ b o, (baseAt hO h σ hs).get? b = some o -> h.get? b = some o := fun b o e => by
  unfold baseAt HB.get? at e
  dsimp only at e
  rw [restrict_get] at e
  split at e
  · exact e
  · exact no e
theorem baseAt_none {b : Addr} (h1 : hO.get? b = none) (h2 : b ∉ hs.map (·.2)) : (baseAt hO h σ hs).get? b = none := by
  unfold baseAt HB.get?
  dsimp only
  rw [restrict_get, show hO.hp.get? b = none from h1, if_neg]
  simp only [Option.isSome_none, Bool.false_or, List.contains_iff_mem]
  exact h2
theorem baseAt_held {p : Nat × Addr} (hp : p ∈ hs) : (baseAt hO h σ hs).held p.1 = σ[p.1]? := by
  unfold baseAt
  dsimp only
  rw [if_pos]
  simp only [List.contains_iff_mem]
  exact List.mem_map.mpr ⟨p, hp, rfl⟩
theorem baseAt_held' {i : Nat} {o : AObj} (hh : ∀ i o, hO.held i = some o -> σ[i]? = some o) (e : (baseAt hO h σ hs).held i = some o) : σ[i]? = some o := by
  unfold baseAt at e
  dsimp only at e
  split at e
  · exact e
  · exact hh i o e

theorem Base.up (B : Base hO K mg mb) (hb : ∀ b o, hO.get? b = some o -> h₁.get? b = some o) (hl : h₁.lo = hO.lo := by rfl) : Base h₁ K mg mb :=
  ⟨B.g.keeps hb, B.b.keeps hb, B.bi, B.lim.keeps hb, fun a o e => hb a o (B.k a o e), fun a o e => hl ▸ B.low a o e⟩
def HeldAll (μ : List Addr) (σ : List AObj) (hs : List (Nat × Addr)) : Prop := ∀ p ∈ hs, μ[p.1]? = some p.2 ∧ ∃ o, σ[p.1]? = some o ∧ (o = .any ∨ ∃ x, o = .frz x)
theorem St.down (X : St prog w (baseAt hO h σ hs) μ σ₁ h₂) (Y : St prog w hO μ₀ σ h) (hH : HeldAll μ₀ σ hs) : St prog w hO μ σ₁ h₂ :=
  have hb := baseAt_sub (σ := σ) (hs := hs) Y.base
  ⟨X.len, X.nodup, X.rel, fun b o e => X.base b o (hb b o e), fun i a e => by
    rcases X.new i a e with q | q
    · refine .inl ?_
      cases e2 : hO.get? a with
      | none => rfl
      | some o => rw [hb a o e2] at q; cases q
    · exact .inr q, X.ms, X.nm, X.lt, fun i o e => by
    refine X.held i o ?_
    unfold baseAt
    dsimp only
    split
    · exact (Y.held i o e).1
    · exact e, fun a ha => let q := Y.prv a ha; let q' := X.prv a ha; ⟨q'.1, q.2.1, q'.2.2⟩⟩
theorem St.up (X : St prog w hO μ σ h) (hH : HeldAll μ σ hs) : St prog w (baseAt hO h σ hs) μ σ h :=
  ⟨X.len, X.nodup, X.rel, baseAt_le, fun i a e => by
    by_cases q : a ∈ hs.map (·.2)
    · obtain ⟨p, hp, rfl⟩ := List.mem_map.mp q
      obtain ⟨hj, o, hjo, ho⟩ := hH p hp
      have : i = p.1 := (List.getElem?_inj (List.getElem?_eq_some_iff.mp e).1 X.nodup).mp (e.trans hj.symm)
      subst this
      rcases ho with rfl | ⟨x, rfl⟩
      · exact .inr (.inr hjo)
      · exact .inr (.inl ⟨x, hjo⟩)
    · rcases X.new i a e with q' | q'
      · exact .inl (baseAt_none q' q)
      · exact .inr q', X.ms, X.nm, X.lt, fun i o e => by
    refine ⟨baseAt_held' (fun i o e => (X.held i o e).1) e, ?_⟩
    unfold baseAt at e
    dsimp only at e
    split at e
    · rename_i q
      simp only [List.contains_iff_mem] at q
      obtain ⟨p, hp, rfl⟩ := List.mem_map.mp q
      obtain ⟨_, o', ho', h3⟩ := hH p hp
      rw [ho'] at e
      cases e
      exact h3
    · exact (X.held i o e).2, fun a ha => let q := X.prv a ha; ⟨q.1, baseAt_none q.2.1 fun z => by
      obtain ⟨p, hp, rfl⟩ := List.mem_map.mp z
      exact q.1 (List.mem_of_getElem? (hH p hp).1), q.2.2⟩⟩
theorem FrOk.down (F : FrOk (baseAt hO h σ hs) h₂ env own μ ρ) (hb : ∀ b o, hO.get? b = some o -> h.get? b = some o) : FrOk hO h₂ env own μ ρ :=
  ⟨F.ns, F.cell, F.ownL, F.data, fun a ha => ⟨(F.off a ha).1, by
    cases e2 : hO.get? a with
    | none => rfl
    | some o => have := (F.off a ha).2; rw [baseAt_sub hb a o e2] at this; cases this⟩, F.coff, F.offp, F.coffp, F.cok, F.inj, F.has⟩
theorem FrOk.up (F : FrOk hO h env own μ ρ) (hH : HeldAll μ σ hs) : FrOk (baseAt hO h σ hs) h env own μ ρ :=
  ⟨F.ns, F.cell, F.ownL, F.data, fun a ha => ⟨(F.off a ha).1, baseAt_none (F.off a ha).2 fun q => by
    obtain ⟨p, hp, rfl⟩ := List.mem_map.mp q
    exact (F.off _ ha).1 (List.mem_of_getElem? (hH p hp).1)⟩, F.coff, F.offp, F.coffp, F.cok, F.inj, F.has⟩

def FrzAll (μ : List Addr) (σ : List AObj) (lz : List (Nat × Addr)) : Prop := ∀ p ∈ lz, μ[p.1]? = some p.2 ∧ ∃ x, σ[p.1]? = some (.frz x)
def SeqAll (pv μ : List Addr) (h : Heap) (lk : List Addr) : Prop := ∀ a ∈ lk, Off pv μ a ∧ ∃ o its m, h.get? a = some o ∧ o.data = .seq its m

structure Wk (prog : Program) (w : World) (A : Around) (target : Expr) (I : Addr) (lw : List Addr) (lz : List (Nat × Addr)) (lk : List Addr) (xs bs : List AV) (cs : List Value) (T : Nat -> Heap -> Prop) : Prop where
  item : ∀ (hO : HB) (i : Nat) (x : AV) (s : Shared) (μ : List Addr) (σ : List AObj) (Q : Value -> Shared -> Prop) (E : Value -> Shared -> Prop), T i s.heap -> xs[i]? = some x -> VRels hO.prv μ s.heap bs cs -> St prog w hO μ σ s.heap -> (∀ a ∈ lw, a ∈ hO.prv) ->
    (∀ v h' t', Kp lw μ s.heap μ h' -> s.heap.objs.size ≤ h'.objs.size -> St prog w hO μ σ h' -> T (i + 1) h' -> VRel hO.prv μ h' x v -> Q v { s with heap := h', toks := t' }) ->
    wpAny (model prog w) A (pyNext (.ref I)) (fun r s₁ => match r with | none => False | some v => wpAny (model prog w) A (letOwnedTupleGo target (.ref I) v) (fun V s₂ => Q v s₂) E s₁) E s
  done : ∀ (hO : HB) (s : Shared) (μ : List Addr) (σ : List AObj) (Q : Option Value -> Shared -> Prop) (E : Value -> Shared -> Prop), T xs.length s.heap -> St prog w hO μ σ s.heap -> (∀ a ∈ lw, a ∈ hO.prv) ->
    (∀ h' t', Kp lw μ s.heap μ h' -> s.heap.objs.size ≤ h'.objs.size -> St prog w hO μ σ h' -> Q none { s with heap := h', toks := t' }) -> wpAny (model prog w) A (pyNext (.ref I)) Q E s
  frame : ∀ i h h', T i h -> (∀ b, (b ∈ lw ∨ b ∈ lz.map (·.2) ∨ b ∈ lk) -> ∀ o, h.get? b = some o -> h'.get? b = some o) -> T i h'
  self : ∀ (s : Shared) (Q : Value -> Shared -> Prop) (E : Value -> Shared -> Prop), T 0 s.heap -> Q (.ref I) s -> wpAny (model prog w) A (pyIter (.ref I)) Q E s

theorem FrOk.prvs (F : FrOk hO h env own μ ρ) {wr : List Addr} (hw : ∀ a ∈ wr, a ∈ hO.prv) (G : Kp wr μ h μ h₂) (hs : h.objs.size ≤ h₂.objs.size) : FrOk hO h₂ env own μ ρ := by
  have W : SepOk hO.prv wr h := SepOk.prv hw
  have ne : ∀ {a}, a ∈ own -> a ∉ wr := fun q e => F.offp _ q (hw _ e)
  obtain ⟨m, ⟨o, es, ep, ho, r⟩, hm⟩ := F.ns
  refine ⟨⟨m, ⟨o, es, ep, G.keep _ o ho (F.off _ F.ownL).1 (ne F.ownL), r⟩, fun x v e q => ?_⟩, fun x v e q => ?_, F.ownL, ⟨fun a ha => ?_⟩, F.off, fun x ca e => ?_, F.offp, F.coffp, fun x ca e => ?_, F.inj, F.has⟩
  · obtain ⟨c, h1, h2⟩ := hm x v e q
    exact ⟨c, h1, h2.kp G W⟩
  · obtain ⟨ca, c, h1, ⟨oc, hoc, hd⟩, h3⟩ := F.cell x v e q
    exact ⟨ca, c, h1, ⟨oc, G.keep _ oc hoc (F.coff x ca h1).1 (fun z => F.coffp x ca h1 (hw _ z)), hd⟩, h3.kp G W⟩
  · obtain ⟨o2, e2, r2⟩ := F.data.has a ha
    exact ⟨o2, G.keep a o2 e2 (F.off a ha).1 (ne ha), r2⟩
  · exact ⟨(F.coff x ca e).1, Nat.lt_of_lt_of_le (F.coff x ca e).2 hs⟩
  · obtain ⟨v₀, oc, hoc, hd⟩ := F.cok x ca e
    exact ⟨v₀, oc, G.keep _ oc hoc (F.coff x ca e).1 (fun z => F.coffp x ca e (hw _ z)), hd⟩
theorem FrOk.hide (F : FrOk hO h env own μ ρ) {l : List Addr} (hl : ∀ a ∈ l, h.objs.size ≤ a) : FrOk (hO.withPrv (hO.prv ++ l)) h env own μ ρ := by
  have s : ∀ a ∈ hO.prv ++ l, a ∈ hO.prv ∨ h.get? a = none := fun a ha => by
    rcases List.mem_append.mp ha with q | q
    · exact .inl q
    · exact .inr (get_size h (hl a q))
  obtain ⟨m, hn, hm⟩ := F.ns
  refine ⟨⟨m, hn, fun x v e q => ?_⟩, fun x v e q => ?_, F.ownL, F.data, F.off, F.coff, fun a ha q => ?_, fun x ca e q => ?_, F.cok, F.inj, F.has⟩
  · obtain ⟨c, h1, h2⟩ := hm x v e q
    exact ⟨c, h1, h2.prv s⟩
  · obtain ⟨ca, c, h1, h2, h3⟩ := F.cell x v e q
    exact ⟨ca, c, h1, h2, h3.prv s⟩
  · rcases List.mem_append.mp q with z | z
    · exact F.offp a ha z
    · exact Nat.not_lt.mpr (hl a z) (F.data.lt ha)
  · rcases List.mem_append.mp q with z | z
    · exact F.coffp x ca e z
    · exact Nat.not_lt.mpr (hl _ z) (F.coff x ca e).2
theorem FrOk.show_ {l : List Addr} (F : FrOk (hO.withPrv l) h env own μ ρ) (s : ∀ a ∈ hO.prv, a ∈ l) : FrOk hO h env own μ ρ := by
  have s' : ∀ a ∈ hO.prv, a ∈ l ∨ h.get? a = none := fun a ha => .inl (s a ha)
  obtain ⟨m, hn, hm⟩ := F.ns
  refine ⟨⟨m, hn, fun x v e q => ?_⟩, fun x v e q => ?_, F.ownL, F.data, F.off, F.coff, fun a ha q => F.offp a ha (s a q), fun x ca e q => F.coffp x ca e (s _ q), F.cok, F.inj, F.has⟩
  · obtain ⟨c, h1, h2⟩ := hm x v e q
    exact ⟨c, h1, h2.prv s'⟩
  · obtain ⟨ca, c, h1, h2, h3⟩ := F.cell x v e q
    exact ⟨ca, c, h1, h2, h3.prv s'⟩

def Tgt (prog : Program) (w : World) (sc : Scope) (lo : Bool) (target : Expr) (bind : AV -> Rho -> Option Rho) : Prop :=
  ∀ (h₁ : HB) (A : Around) (E : Value -> Shared -> Prop) (s : Shared) (x : EP) (own μ : List Addr) (σ : List AObj) (ρ ρ' : Rho) (v : AV) (c : Value) (Q : Unit -> Shared -> Prop), A.handled = none -> (OwnsC (x.env sc) own ∨ lo = true) -> bind v ρ = some ρ' -> FrOk h₁ s.heap (x.env sc) own μ ρ -> St prog w h₁ μ σ s.heap -> VRel h₁.prv μ s.heap v c ->
    (∀ h' t', Grow own μ s.heap μ h' -> St prog w h₁ μ σ h' -> FrOk h₁ h' (x.env sc) own μ ρ' -> Q () { s with heap := h', toks := t' }) -> wpAny (model prog w) A (assign target (x.env sc) c) Q E s
noncomputable def bindN (x : String) : AV -> Rho -> Option Rho := fun v ρ => some (ρ.set x v)
noncomputable def bindT (xs : List String) : AV -> Rho -> Option Rho := fun v ρ => match v with | .tup vs => bindRho xs vs ρ | _ => none
noncomputable def kindLoc (sc : Scope) (x : String) : Bool := match sc.names.lookup (S x) with | some .local => true | _ => false
theorem kindLoc.ok {x : String} (h : kindLoc sc x = true) : kindOk sc x = true := by
  unfold kindLoc at h; unfold kindOk
  split at h
  · rename_i q; rw [q]
  · cases h
theorem ownsOn_loc {sc : Scope} {x : EP} {xs : List String} (h : xs.all (kindLoc sc) = true) : OwnsOn (x.env sc) own xs := fun y hy q => by
  have := List.all_eq_true.mp h y hy
  unfold kindLoc at this
  rw [show sc.names.lookup (S y) = some .cell from q] at this
  cases this
theorem tgt_name {y : String} {pos : Pos} (hk : sc.kind = .function) (hl : kindLoc sc y = true) : Tgt prog w sc true (.Name (Str.ofString y) pos) (bindN y) := by
  intro h₁ A E s x own μ σ ρ ρ' v c Q hh O e F X r P
  cases e
  exact assign_Name (store_any (env := x.env sc) hk (kindLoc.ok hl) (ownsOn_loc (by simp [hl])) F X r P)
theorem tgt_tup {es : List Expr} {xs : List String} {k : Nat} {pos : Pos} (N : Names es xs) (hk : sc.kind = .function) (hl : xs.all (kindLoc sc) = true) : Tgt prog w sc true (.Tuple es k pos) (bindT xs) := by
  intro h₁ A E s x own μ σ ρ ρ' v c Q hh O e F X r P
  unfold bindT at e
  cases v <;> try exact no e
  exact assign_tup (env := x.env sc) hh hk (ownsOn_loc hl) N (List.all_eq_true.mpr fun y hy => kindLoc.ok (List.all_eq_true.mp hl y hy)) e F X r P

noncomputable def forL (bind : AV -> Rho -> Option Rho) (body : DenS) : List AV -> DenS
  | [], ρ, σ => some (.next, ρ, σ)
  | x :: xs, ρ, σ => (bind x ρ).bind fun ρ1 => (body ρ1 σ).bind fun p => match p.1 with | .next => forL bind body xs p.2.1 p.2.2 | .ret v => some (.ret v, p.2)

theorem SeqAll.grow {pv own μ μ' : List Addr} {h h' : Heap} {lk : List Addr} (S : SeqAll pv μ h lk) (G : Kp own μ h μ' h') (W : SepOk pv own h) : SeqAll pv μ' h' lk := fun a ha => by
  obtain ⟨n, o, its, m, e, hd⟩ := S a ha
  have no : a ∉ own := fun q => by
    rcases W.no n.2 q e with ⟨_, _, z⟩ | ⟨_, z⟩ | ⟨_, z⟩ <;> rw [hd] at z <;> cases z
  exact ⟨⟨G.off' e n.1, n.2⟩, o, its, m, G.keep a o e n.1 no, hd⟩
theorem FrzAll.held {lz : List (Nat × Addr)} (h2 : FrzAll μ σ lz) : HeldAll μ σ lz := fun p q => by
  obtain ⟨e, x, e2⟩ := h2 p q
  exact ⟨e, _, e2, .inr ⟨x, rfl⟩⟩
theorem kp_own {wr own' : List Addr} {h₃ : Heap} (k : Kp wr μ h μ h₃) (hs : h.objs.size ≤ h₃.objs.size) : Grow (wr ++ own') μ h μ h₃ :=
  ⟨k.pre, hs, fun b o e n m => k.keep b o e n fun q => m (List.mem_append_left _ q)⟩

theorem Wk.turn {A : Around} {target : Expr} {I : Addr} {lw : List Addr} {lz : List (Nat × Addr)} {lk : List Addr} {xs bs : List AV} {cs : List Value} {T : Nat -> Heap -> Prop} (W : Wk prog w A target I lw lz lk xs bs cs T) {i : Nat} {y : AV} {s : Shared} {QQ : Unit -> Shared -> Prop} {EE E : Value -> Shared -> Prop} {NN : Shared -> Prop}
    (t : T i s.heap) (e : xs[i]? = some y) (v : VRels hO.prv μ s.heap bs cs) (X : St prog w hO μ σ s.heap) (h1 : ∀ a ∈ lw, a ∈ hO.prv)
    (h : ∀ v h' t', Kp lw μ s.heap μ h' -> s.heap.objs.size ≤ h'.objs.size -> St prog w hO μ σ h' -> T (i + 1) h' -> VRel hO.prv μ h' y v -> wpAny (model prog w) A (assign target env v) QQ EE { s with heap := h', toks := t' }) :
    wpAny (model prog w) A (pyNext (.ref I)) (fun r s₁ => match r with | none => NN s₁ | some v => wpAny (model prog w) A (letOwnedTupleGo target (.ref I) v) (fun V s₂ => wpAny (model prog w) A (assign target env v) QQ EE s₂) E s₁) E s :=
  wpAny_mono (W.item hO i y s μ σ (fun v s₂ => wpAny (model prog w) A (assign target env v) QQ EE s₂) E t e v X h1 h) (fun r s₁ z => match r, z with | none, z => z.elim | some _, z => z) fun V V z => z
theorem loop {A : Around} {target : Expr} {body : List Stmt} {I : Addr} {lw : List Addr} {lz : List (Nat × Addr)} {lk : List Addr} {xs bs : List AV} {cs : List Value} {T : Nat -> Heap -> Prop} {bind : AV -> Rho -> Option Rho} {d : DenS} {x : EP} {s : Shared} {f : AFlow} {ρ' : Rho} {σ' : List AObj} {R : Result -> Shared -> Prop} {lo : Bool}
    (B : Base hO K mg mb) (Rm : Room n A) (O : OwnsC (x.env sc) own) (W : Wk prog w A target I lw lz lk xs bs cs T) (hT : Tgt prog w sc lo target bind) (hB : ∀ h₁, Base h₁ K mg mb -> SndB prog w h₁ n sc body d)
    (e : forL bind d xs ρ σ = some (f, ρ', σ')) (F : FrOk hO s.heap (x.env sc) own μ ρ) (X : St prog w hO μ σ s.heap) (hw : ∀ a ∈ lw, a ∈ hO.prv) (hz : FrzAll μ σ lz) (hk : SeqAll hO.prv μ s.heap lk) (hv : VRels hO.prv μ s.heap bs cs) (hT0 : T 0 s.heap)
    (P : ∀ h' t' μ', Grow (lw ++ own) μ s.heap μ' h' -> St prog w hO μ' σ' h' -> FrOk hO h' (x.env sc) own μ' ρ' -> FrzAll μ' σ' lz -> (match f with | .next => R (.ok .next) { s with heap := h', toks := t' } | .ret v => ∀ c, VRel hO.prv μ' h' v c -> R (.ok (.ret c)) { s with heap := h', toks := t' })) :
    codeAny (model prog w) A (.forLoop target (.ref I) body [] (x.env sc)) R s := by
  have upo : ∀ {μ1 μ2 h1 h2}, Grow own μ1 h1 μ2 h2 -> Grow (lw ++ own) μ1 h1 μ2 h2 := fun G => G.mono fun a ha => List.mem_append_right _ ha
  refine codeAny_forLoop_any (fun k s' => X6 fun h t μ1 ρ1 σ1 i => A11 (s' = { s with heap := h, toks := t }) (k = xs.length + 1 - i) (i ≤ xs.length) (Grow (lw ++ own) μ s.heap μ1 h) (St prog w hO μ1 σ1 h) (FrOk hO h (x.env sc) own μ1 ρ1) (T i h) (forL bind d (xs.drop i) ρ1 σ1 = some (f, ρ', σ')) (FrzAll μ1 σ1 lz) (SeqAll hO.prv μ1 h lk) (VRels hO.prv μ1 h bs cs)) ?_ (xs.length + 1) ⟨s.heap, s.toks, μ, ρ, σ, 0, rfl, rfl, Nat.zero_le _, .refl _ _ _, X, F, hT0, e, hz, hk, hv⟩
  rintro k s' ⟨h, t, μ1, ρ1, σ1, i, rfl, rfl, hi, G, X1, F1, hTi, e1, hz1, hk1, hv1⟩
  by_cases lt : i < xs.length
  · rw [List.drop_eq_getElem_cons lt] at e1
    refine bind1 e1 fun ρ2 eb e2 => ?_
    refine bind3 e2 fun f3 ρ3 σ3 ed e3 => ?_
    refine W.turn (s := { s with heap := h, toks := t }) (y := xs[i]) hTi (List.getElem?_eq_getElem lt) hv1 X1 hw fun v h2 t2 G2 hs2 X2 hT2 rv => ?_
    have hH := hz1.held
    have X2' := X2.up hH
    have F2 := F1.prvs hw G2 hs2
    have F2' := F2.up (σ := σ1) hH
    have sub := baseAt_sub (hO := hO) (h := h2) (σ := σ1) (hs := lz) X2.base
    refine hT _ A _ { s with heap := h2, toks := t2 } x own μ1 σ1 ρ1 ρ2 _ v _ Rm.1 (.inl O) eb F2' X2' rv fun h3 t3 G3 X3 F3 => ?_
    refine hB _ (B.up sub) A ρ2 σ1 f3 ρ3 σ3 x _ own μ1 _ _ Rm O ed F3 X3 fun h4 t4 μ4 G4 X4 F4 => ?_
    have G34 : Grow own μ1 h2 μ4 h4 := G3.trans G4
    have X4' := X4.down X2 hH
    have F4' := F4.down X2.base
    have up : Grow (lw ++ own) μ s.heap μ4 h4 := (G.trans (kp_own G2 hs2)).trans (upo G34)
    have heldEq : ∀ p ∈ lz, σ3[p.1]? = σ1[p.1]? := fun p hp => by
      obtain ⟨_, o, ho, _⟩ := hH p hp
      have := (X4.held p.1 o (by rw [baseAt_held hp, ho])).1
      rw [this, ho]
    have keepH : ∀ p ∈ lz, ∀ o, h2.get? p.2 = some o -> h4.get? p.2 = some o := fun p hp o e => X4.base _ _ (by rw [baseAt_in hp]; exact e)
    have hz4 : FrzAll μ4 σ3 lz := fun p hp => ⟨G34.at (hz1 p hp).1, by rw [heldEq p hp]; exact (hz1 p hp).2⟩
    have hk2 := hk1.grow G2 (SepOk.prv hw)
    have hk4 := hk2.grow G34.kp F2.data.sep
    cases f3 with
    | ret v' =>
      cases e3
      intro c rc
      exact P h4 t4 μ4 up X4' F4' hz4 c rc
    | next =>
      refine ⟨xs.length + 1 - (i + 1), by omega, h4, t4, μ4, ρ3, σ3, i + 1, rfl, rfl, lt, up, X4', F4', W.frame _ _ _ hT2 fun b hb o eo => ?_, e3, hz4, hk4, (hv1.kp G2 (SepOk.prv hw)).grow G34 F2.data⟩
      rcases hb with hb | hb | hb
      · exact G34.keep b o eo (X2.prv b (hw b hb)).1 fun q => F2.offp b q (hw b hb)
      · obtain ⟨p, hp, rfl⟩ := List.mem_map.mp hb
        exact keepH p hp o eo
      · obtain ⟨nb, o', its, m, e', hd⟩ := hk2 b hb
        have no : b ∉ own := fun q => by
          rcases F2.data.no q e' with ⟨_, _, z⟩ | ⟨_, z⟩ | ⟨_, z⟩ <;> rw [hd] at z <;> cases z
        exact G34.keep b o eo nb.1 no
  · have hin : i = xs.length := by omega
    subst hin
    rw [List.drop_length] at e1
    cases e1
    refine W.done hO _ μ1 _ _ _ hTi X1 hw fun h2 t2 G2 hs2 X2 => ?_
    exact wpAny_execs_nil (P h2 t2 μ1 (G.trans (kp_own G2 hs2)) X2 (F1.prvs hw G2 hs2) hz1)
end
end
section
section
variable {prog : Program} {w : World} {hO h₁ : HB} {h : Heap} {n : Nat} {sc : Scope} {mg mb : Str -> Option Value} {K : Frag} {μ own : List Addr} {hs : List (Nat × Addr)} {σ : List AObj} {env : Env} {ρ : Rho}

noncomputable def pairIts : List String := ["enumerate", "zip", "dict_itemiterator", "dict_reverseitemiterator", "odict_iterator", "itertools.zip_longest", "itertools.pairwise"]
theorem letGo_skip {A : Around} {E : Value -> Shared -> Prop} {s : Shared} {target : Expr} {I : Addr} {o : Obj} {k : String} {v : Value} {Q : Unit -> Shared -> Prop} (ho : s.heap.get? I = some o) (hc : o.cls = .type k) (hk : pairIts.contains k = false) (h : Q () s) : wpAny (model prog w) A (letOwnedTupleGo target (.ref I) v) Q E s := by
  have key : ∀ a : Addr, wpAny (model prog w) A (do
      let o ← load I
      match o.cls, o.data with
      | .type n, .fields vs =>
        if pairIts.contains n && vs[0]? == some (rawInt a) then
          rule "for.unpacks-the-owned-tuple"
          updateField I 0 .none
      | _, _ => pure ()) Q E s := fun a => by
    refine wpAny_bind (wpAny_load ho ?_)
    rw [hc]
    cases o.data <;> first
      | exact wpAny_pure h
      | (show wpAny _ _ (if (pairIts.contains k && _) = true then _ else _) _ _ _
         rw [hk, Bool.false_and, if_neg Bool.false_ne_true]
         exact wpAny_pure h)
  unfold letOwnedTupleGo
  cases target <;> first
    | exact wpAny_pure h
    | (cases v <;> first
        | exact wpAny_pure h
        | exact key _)

theorem Wk.of_walks {A : Around} {target : Expr} {I : Addr} {fp : List Addr} {N : Nat} {lz : List (Nat × Addr)} {lk : List Addr} {xs : List AV} {cs : List Value} {P : Nat -> Value -> Prop} {T : Nat -> Heap -> Prop} (W : Walks prog w A I fp [I] N P T) (hn : xs.length = N)
    (hc : ∀ i h, T i h -> ∃ o c, h.get? I = some o ∧ o.cls = .type c ∧ pairIts.contains c = false) (hP : ∀ i v x (pv μ : List Addr) (h : Heap), P i v -> xs[i]? = some x -> VRels pv μ h xs cs -> VRel pv μ h x v) (hf : ∀ b ∈ fp, b = I ∨ b ∈ lz.map (·.2) ∨ b ∈ lk) : Wk prog w A target I [I] lz lk xs xs cs T where
  item := fun hO i x s μ σ Q E t e v X h1 hQ => by
    have li : i < N := by rw [← hn]; exact (List.getElem?_eq_some_iff.mp e).1
    refine with_size (W.item i s _ E li t fun v' h' tk hp ht hk hsz => ?_)
    have G : Kp [I] μ s.heap μ h' := ⟨⟨[], by simp, fun V q => (nomatch q)⟩, fun b o e V n => hk b o n e⟩
    have X' := X.prvs [I] h1 hsz hk
    obtain ⟨o, c, ho, hoc, hcc⟩ := hc _ _ ht
    exact letGo_skip (s := { s with heap := h', toks := tk }) ho hoc hcc (hQ v' h' tk G hsz X' ht (hP i v' x _ μ h' hp e (v.kp G (SepOk.prv h1))))
  done := fun hO s μ σ Q E t X h1 hQ => by
    refine with_size (W.done s _ E (hn ▸ t) fun h' tk hk hsz => ?_)
    exact hQ h' tk ⟨⟨[], by simp, fun V q => (nomatch q)⟩, fun b o e V n => hk b o n e⟩ hsz (X.prvs [I] h1 hsz hk)
  frame := fun i h h' t hk => W.frame i h h' t fun b hb o e => hk b (by
    rcases hf b hb with q | q | q
    · exact .inl (by simp [q])
    · exact .inr (.inl q)
    · exact .inr (.inr q)) o e
  self := fun s Q E t h => W.self 0 s Q E t h

noncomputable abbrev DenI := Rho -> List AObj -> Option (List AV × Option Nat × List AObj)
noncomputable def unfrz (z : Option Nat) (σ : List AObj) : Option (List AObj) := match z with
  | none => some σ
  | some j => match σ[j]? with
    | some (.frz o) => some (σ.set j o)
    | _ => none
noncomputable def iSeq (d : Den) : DenI := fun ρ σ => (d ρ σ).bind fun p => match p.1 with
  | .lst xs => if xs.length ≤ 1000 then some (xs, none, p.2) else none
  | .tup xs => if xs.length ≤ 1000 then some (xs, none, p.2) else none
  | _ => none
noncomputable def iDict (d : Den) : DenI := fun ρ σ => (d ρ σ).bind fun p => match p.1 with
  | .obj j => match p.2[j]? with
    | some (.id kvs) => if kvs.length ≤ 1000 then some (kvs.map fun q => .int q.1, some j, p.2.set j (.frz (.id kvs))) else none
    | _ => none
  | _ => none

def ZOk (hO : HB) (z : Option Nat) (lz : List (Nat × Addr)) : Prop := match z with
  | none => lz = []
  | some j => ∃ a, lz = [(j, a)] ∧ hO.get? a = none ∧ hO.held j = none

def SndI (prog : Program) (w : World) (n : Nat) (sc : Scope) (hO : HB) (tt : Bool) (iter : Expr) (dI : DenI) : Prop :=
  ∀ (target : Expr) (A : Around) (ρ : Rho) (σ : List AObj) (xs : List AV) (z : Option Nat) (σ1 : List AObj) (x : EP) (s : Shared) (own μ : List Addr) (Q : Value -> Shared -> Prop) (E : Value -> Shared -> Prop), (tt = true -> ∃ es k pos, target = .Tuple es k pos) -> Room n A -> dI ρ σ = some (xs, z, σ1) -> FrOk hO s.heap (x.env sc) own μ ρ -> St prog w hO μ σ s.heap ->
    (∀ h' t' μ1 I lw lz lk bs cs T, Grow [] μ s.heap μ1 h' -> (∀ a ∈ lw, s.heap.get? a = none) -> St prog w (hO.withPrv (hO.prv ++ lw)) μ1 σ1 h' -> FrOk (hO.withPrv (hO.prv ++ lw)) h' (x.env sc) own μ1 ρ -> Wk prog w A target I lw lz lk xs bs cs T -> T 0 h' -> FrzAll μ1 σ1 lz -> ZOk hO z lz -> SeqAll (hO.prv ++ lw) μ1 h' lk -> VRels (hO.prv ++ lw) μ1 h' bs cs -> Q (.ref I) { s with heap := h', toks := t' }) ->
    wpAny (model prog w) A (eval iter (x.env sc)) (fun v s₁ => wpAny (model prog w) A (pyIter v) Q E s₁) E s

theorem base_none (X : St prog w hO μ σ h) {a : Addr} (q : h.objs.size ≤ a) : hO.get? a = none := by
  cases e : hO.get? a with
  | none => rfl
  | some o => exact absurd (Heap.lt_size (X.base _ o e)) (Nat.not_lt.mpr q)
theorem grow_new {h h₃ : Heap} (hs : h.objs.size ≤ h₃.objs.size) (k : ∀ b o, h.get? b = some o -> h₃.get? b = some o) : Grow [] μ h μ h₃ := ⟨⟨[], by simp, fun V q => (nomatch q)⟩, hs, fun b o e V V => k b o e⟩
theorem none_of_grow {own' μ' : List Addr} {h h₃ : Heap} (G : Grow own' μ h μ' h₃) {a : Addr} (q : h₃.objs.size ≤ a) : h.get? a = none := get_size h (Nat.le_trans G.size q)
theorem hide1 (X : St prog w hO μ σ h) (F : FrOk hO h env own μ ρ) (o : Obj) : St prog w (hO.withPrv (hO.prv ++ [h.objs.size])) μ σ (h.push o) ∧ FrOk (hO.withPrv (hO.prv ++ [h.objs.size])) (h.push o) env own μ ρ := by
  have hl : ∀ a ∈ [h.objs.size], h.objs.size ≤ a := fun a ha => by simp at ha; subst ha; exact Nat.le_refl _
  have k : ∀ b x, h.get? b = some x -> (h.push o).get? b = some x := fun b x e => Heap.get?_push_of_some _ e
  have hs : h.objs.size ≤ (h.push o).objs.size := by rw [Heap.size_push]; exact Nat.le_succ _
  exact ⟨X.hide hl hs (fun a ha => by simp at ha; subst ha; rw [Heap.size_push]; exact Nat.lt_succ_self _) k, (F.hide hl).grow (grow_new hs k)⟩
theorem new1 {l : List Addr} {h : Heap} : ∀ a ∈ l ++ [h.objs.size], a ∈ l ∨ h.get? a = none := fun a ha => by
  rcases List.mem_append.mp ha with q | q
  · exact .inl q
  · rw [List.mem_singleton.mp q]; exact .inr (get_size h (Nat.le_refl _))

theorem sndI_seq {iter : Expr} {d : Den} (hd : SndE prog w hO n sc iter d) : SndI prog w n sc hO false iter (iSeq d) := by
  intro target A ρ σ xs z σ1 x s own μ Q E _ R e F X P
  refine bind2 e fun v σ2 e1 e => ?_
  refine hd _ _ _ _ _ x s own μ _ _ R e1 F X fun h1 t1 μ1 c G1 X1 r1 => ?_
  have F1 := F.grow G1
  cases v <;> try exact no e
  · rename_i ys
    apply r1.eTup; intro a cs t m rs
    · dsimp only at e
      split at e <;> cases e
      have lt : a < h1.objs.size := by obtain ⟨o, ho, _⟩ := t; exact Heap.lt_size ho
      refine wpAny_pyIter_tuple t ?_
      obtain ⟨X2, F2⟩ := hide1 X1 F1 { cls := .type "tuple_iterator", data := .fields #[.ref a, .int 0 0] }
      have k : ∀ b x, h1.get? b = some x -> (h1.push { cls := .type "tuple_iterator", data := .fields #[.ref a, .int 0 0] }).get? b = some x := fun b x e => Heap.get?_push_of_some _ e
      have t2 : Heap.IsTuple (h1.push { cls := .type "tuple_iterator", data := .fields #[.ref a, .int 0 0] }) a cs.toArray := by obtain ⟨o, ho, hr⟩ := t; exact ⟨o, k _ _ ho, hr⟩
      obtain ⟨o, ho, hc, kk, hd⟩ := id t2
      obtain ⟨o1, ho1, _⟩ := id t
      refine P _ t1 μ1 h1.objs.size [h1.objs.size] [] [a] _ cs _ (G1.push _) (fun b hb => ?_) X2 F2 (Wk.of_walks (Walks.tuple R.1 h1.objs.size a (Nat.ne_of_lt lt) cs.toArray) (by rw [List.size_toArray, rs.length]) (fun i h t => ?_) (fun i v x pv μ h hp hx hv => ?_) (fun b hb => ?_)) ⟨⟨_, Heap.get?_push_size _ rfl, rfl, rfl⟩, t2⟩ (fun p hp => (nomatch hp)) rfl (fun b hb => ?_) ((rs.prv new1).grow (grow_push _) (.nil _))
      · rw [List.mem_singleton.mp hb]; exact none_of_grow G1 (Nat.le_refl _)
      · obtain ⟨⟨o, e, c, _⟩, _⟩ := t; exact ⟨o, _, e, c, by decide⟩
      · obtain ⟨c, hc, rc⟩ := hv.get hx
        have hp' : cs[i]? = some v := by simpa using hp
        rw [hc] at hp'
        cases hp'
        exact rc
      · exact (List.mem_cons.mp hb).imp id .inr
      · obtain rfl := List.mem_singleton.mp hb; exact ⟨m.prv new1 ho1, o, _, kk, ho, hd⟩
  · rename_i ys
    apply r1.eLst; intro a cs t m rs
    · dsimp only at e
      split at e <;> cases e
      have lt : a < h1.objs.size := by obtain ⟨o, ho, _⟩ := t; exact Heap.lt_size ho
      refine wpAny_pyIter_list t ?_
      obtain ⟨X2, F2⟩ := hide1 X1 F1 { cls := .type "list_iterator", data := .fields #[.ref a, .int 0 0] }
      have t2 : Heap.IsList (h1.push { cls := .type "list_iterator", data := .fields #[.ref a, .int 0 0] }) a cs.toArray := t.push _
      obtain ⟨o, ho, hc, kk, hd⟩ := id t2
      obtain ⟨o1, ho1, _⟩ := id t
      refine P _ t1 μ1 h1.objs.size [h1.objs.size] [] [a] _ cs _ (G1.push _) (fun b hb => ?_) X2 F2 (Wk.of_walks (Walks.list R.1 h1.objs.size a (Nat.ne_of_lt lt) cs.toArray) (by rw [List.size_toArray, rs.length]) (fun i h t => ?_) (fun i v x pv μ h hp hx hv => ?_) (fun b hb => ?_)) ⟨⟨_, Heap.get?_push_size _ rfl, rfl, rfl⟩, t2⟩ (fun p hp => (nomatch hp)) rfl (fun b hb => ?_) ((rs.prv new1).grow (grow_push _) (.nil _))
      · rw [List.mem_singleton.mp hb]; exact none_of_grow G1 (Nat.le_refl _)
      · obtain ⟨⟨o, e, c, _⟩, _⟩ := t; exact ⟨o, _, e, c, by decide⟩
      · obtain ⟨c, hc, rc⟩ := hv.get hx
        have hp' : cs[i]? = some v := by simpa using hp
        rw [hc] at hp'
        cases hp'
        exact rc
      · exact (List.mem_cons.mp hb).imp id .inr
      · obtain rfl := List.mem_singleton.mp hb; exact ⟨m.prv new1 ho1, o, _, kk, ho, hd⟩
end
end
section
noncomputable def iRange (d : Den) : DenI := fun ρ σ => (d ρ σ).bind fun p => match p.1 with
  | .int k => if 0 ≤ k ∧ k ≤ 1000 then some ((List.range k.toNat).map fun i => .int (i : Nat), none, p.2) else none
  | _ => none
noncomputable def dsFor (dI : DenI) (bind : AV -> Rho -> Option Rho) (body : DenS) : DenS := fun ρ σ => (dI ρ σ).bind fun q => (forL bind body q.1 ρ q.2.2).bind fun r => (unfrz q.2.1 r.2.2).bind fun σ' => some (r.1, r.2.1, σ')
noncomputable def whileN (c : DenC) (b : DenS) : Nat -> DenS
  | 0, _, _ => none
  | k + 1, ρ, σ => (c ρ σ).bind fun p => match p.1 with
    | false => some (.next, ρ, p.2)
    | true => (b ρ p.2).bind fun q => match q.1 with
      | .next => whileN c b k q.2.1 q.2.2
      | .ret v => some (.ret v, q.2)
noncomputable def dsWhile (fuel : Rho -> Nat) (c : DenC) (b : DenS) : DenS := fun ρ σ => whileN c b (fuel ρ) ρ σ

section
variable {prog : Program} {w : World} {hO h₁ : HB} {h : Heap} {n : Nat} {sc : Scope} {mg mb : Str -> Option Value} {K : Frag} {μ own : List Addr} {hs : List (Nat × Addr)} {σ : List AObj} {env : Env} {ρ : Rho}

theorem vrels_kvs {pv μ : List Addr} {h : Heap} : ∀ kvs : List (Int × AV), VRels pv μ h (kvs.map fun q => .int q.1) (kvs.map fun q => .int q.1 0)
  | [] => .nil
  | q :: r => .cons (.int _ _) (vrels_kvs r)
theorem vrels_nats {pv μ : List Addr} {h : Heap} : ∀ l : List Nat, VRels pv μ h (l.map fun i => .int (i : Nat)) (l.map fun i => .int (i : Nat) 0)
  | [] => .nil
  | q :: r => .cons (.int _ _) (vrels_nats r)
set_option tactic.hygienic true in
theorem sndI_dict {iter : Expr} {d : Den} (hd : SndE prog w hO n sc iter d) : SndI prog w n sc hO false iter (iDict d) := by
  intro target A ρ σ xs z σ1 x s own μ Q E _ R e F X P
  refine bind2 e fun v σ2 e1 e => ?_
  refine hd _ _ _ _ _ x s own μ _ _ R e1 F X fun h1 t1 μ1 c G1 X1 r1 => ?_
  cases v <;> try exact no e
  rename_i j
  apply r1.eObj; intro a hj
  · dsimp only at e
    cases ho : σ2[j]? with
    | none => rw [ho] at e; exact no e
    | some ob =>
      rw [ho] at e
      cases ob with
      | id kvs =>
        dsimp only at e
        split at e
        · rename_i hz
          cases e
          have hfree := X1.free hj ho (by intro _ q; cases q)
          obtain ⟨l, D, kv⟩ := id (X1.at hj ho)
          obtain ⟨ep, hat⟩ := D.dictAt
          have lt : a < h1.objs.size := X1.lt _ (List.mem_of_getElem? hj)
          have Xf := X1.set (o := .frz (.id kvs)) hj hfree (Heap.SameBut.refl a h1) (X1.at (o := .id kvs) hj ho)
          refine wpAny_pyIter_dict (X1.ne_mod hj) hat ?_
          obtain ⟨X2, F2⟩ := hide1 Xf (F.grow G1) { cls := .type "dict_keyiterator", data := .fields #[.ref a, .int 0 0, .int l.length 0, .int ep 0] }
          have t2 := hat.at' (h' := h1.push { cls := .type "dict_keyiterator", data := .fields #[.ref a, .int 0 0, .int l.length 0, .int ep 0] }) fun o e => Heap.get?_push_of_some _ e
          have hln := kv.length
          have keys := kv.keys
          refine P _ t1 μ1 h1.objs.size [h1.objs.size] [(j, a)] [] _ (kvs.map fun q => .int q.1 0) _ (G1.push _) (fun b hb => ?_) X2 F2 (Wk.of_walks (Walks.dictKeys (knd := intKind prog w) R.1 h1.objs.size a (Nat.ne_of_lt lt) l ep) (by rw [List.length_map, hln]) (fun i h t => ?_) (fun i v x pv μ h hp hx hv => ?_) (fun b hb => ?_)) ⟨⟨_, Heap.get?_push_size _ rfl, rfl, rfl⟩, t2⟩ (fun p hp => ?_) ⟨a, rfl, hfree⟩ (fun b hb => (nomatch hb)) ?_
          · rw [List.mem_singleton.mp hb]; exact none_of_grow G1 (Nat.le_refl _)
          · obtain ⟨⟨o, e, c, _⟩, _⟩ := t; exact ⟨o, _, e, c, by decide⟩
          · obtain ⟨k, y, h1, h2⟩ := hp
            obtain ⟨t, rfl⟩ := Value.isInt_shape h2
            rw [List.getElem?_map] at hx
            have ek : (l.map (·.1))[i]? = some k := by rw [List.getElem?_map, h1]; rfl
            rw [keys, List.getElem?_map] at ek
            cases eq : kvs[i]? with
            | none => rw [eq] at hx; cases hx
            | some q =>
              rw [eq] at hx ek
              cases hx
              cases ek
              exact .int _ t
          · simp at hb; rcases hb with rfl | rfl <;> simp
          · obtain rfl := List.mem_singleton.mp hp
            have lj := (List.getElem?_eq_some_iff.mp ho).1
            exact ⟨hj, .id kvs, List.getElem?_set_self lj⟩
          · exact vrels_kvs kvs
        · exact no e
      | _ => exact no e
set_option tactic.hygienic true in
theorem sndI_range (B : Base hO K mg mb) {p pos : Pos} {e : Expr} {d : Den} (hn : nameB sc .globalImplicit (S "range") = true) (hg : globIn K (S "range") = some none) (hb : bootBuiltins (S "range") = some (.type "range")) (hm : S "range" ≠ ("__name__" : Str)) (hd : SndE prog w hO n sc e d)
    (he : ∀ env, starEach [e] env = (false, eval e env) :: starEach [] env) (hx : CallShape (.Name (Str.ofString "range") p) [e] pos) : SndI prog w n sc hO false (.Call (.Name (Str.ofString "range") p) [e] [] pos) (iRange d) := by
  intro target A ρ σ xs z σ1 x s own μ Q E _ R ed F X P
  refine bind2 ed fun v σ2 e1 ed => ?_
  refine Call_ (name_blt B hn hg hb hm X ?_) (hx _)
  refine PyProof.Rows.callWith_type1 ?_ (he _) rfl
  rw [he]
  refine Calls.spliced_cons (hd _ _ _ _ _ x s own μ _ _ R e1 F X fun h1 t1 μ1 c G1 X1 r1 => Calls.spliced_nil ?_)
  cases v <;> try exact no ed
  rename_i k
  apply r1.eInt; intro t
  dsimp only at ed
  split at ed
  · rename_i hk
    cases ed
    refine call_range_1 ?_
    have hsz : (h1.push { cls := .type "range", data := .fields #[.int 0 t1, .int k t, .int 1 (t1 + 1)] }).objs.size = h1.objs.size + 1 := Heap.size_push _ _
    have hr := IsRange.new h1 0 k 1 t1 t (t1 + 1)
    have hrs : Builtin.Range.rangeSize 0 k 1 = k := by rw [rangeSize_one]; split <;> omega
    refine wpAny_pyIter_range (s := { s with heap := h1.push { cls := .type "range", data := .fields #[.int 0 t1, .int k t, .int 1 (t1 + 1)] }, toks := t1 + 1 + 1 }) hr (by unfold Builtin.Range.small Builtin.Range.rangeFitsLong; rw [hrs]; simp; omega) ?_
    rw [hrs]
    have X1' := X1.push { cls := .type "range", data := .fields #[.int 0 t1, .int k t, .int 1 (t1 + 1)] }
    have G1' := G1.push { cls := .type "range", data := .fields #[.int 0 t1, .int k t, .int 1 (t1 + 1)] }
    obtain ⟨X2, F2⟩ := hide1 X1' (F.grow G1') { cls := .type "range_iterator", data := .fields #[rawInt 0, rawInt k, rawInt 1] }
    obtain ⟨m, rfl⟩ := Int.eq_ofNat_of_zero_le hk.1
    refine P _ _ μ1 (h1.push { cls := .type "range", data := .fields #[.int 0 t1, .int m t, .int 1 (t1 + 1)] }).objs.size [(h1.push { cls := .type "range", data := .fields #[.int 0 t1, .int m t, .int 1 (t1 + 1)] }).objs.size] [] [] _ ((List.range m).map fun i => .int (i : Nat) 0) _ (G1'.push _) (fun b hb => ?_) X2 F2 (Wk.of_walks (Walks.range R.1 _ 0 1 m) (by simp) (fun i h t => ?_) (fun i v x pv μ h hp hx hv => ?_) (fun b hb => ?_)) ?_ (fun p hp => (nomatch hp)) rfl (fun b hb => (nomatch hb)) ?_
    · rw [List.mem_singleton.mp hb]; exact none_of_grow G1' (Nat.le_refl _)
    · exact ⟨_, _, t, rfl, by decide⟩
    · obtain ⟨t, rfl⟩ := hp
      rw [List.getElem?_map] at hx
      have : i < m := by
        rcases Nat.lt_or_ge i m with q | q
        · exact q
        · rw [List.getElem?_eq_none (by simpa using q)] at hx; cases hx
      simp [this] at hx
      subst hx
      have e : (0 : Int) + (i : Int) * 1 = (i : Int) := by omega
      rw [e]
      exact .int _ t
    · exact .inl (List.mem_singleton.mp hb)
    · show IsRangeIter _ _ _ _ _
      have e1 : (0 : Int) + ((0 : Nat) : Int) * 1 = 0 := by omega
      have e2 : (m : Int) - ((0 : Nat) : Int) = m := by omega
      rw [e1, e2]
      exact Heap.get?_push_size _ rfl
    · simp only [Int.toNat_natCast]
      exact vrels_nats _
  · exact no ed

theorem St.thaws {z : Option Nat} {lz : List (Nat × Addr)} {σ' : List AObj} (X : St prog w hO μ σ h) (hz : FrzAll μ σ lz) (Z : ZOk hO z lz) (e : unfrz z σ = some σ') : St prog w hO μ σ' h := by
  unfold unfrz at e
  cases z with
  | none => cases e; exact X
  | some j =>
    obtain ⟨a, rfl, hn⟩ := Z
    obtain ⟨hj, y, hy⟩ := hz (j, a) List.mem_cons_self
    have hy : σ[j]? = some (.frz y) := hy
    dsimp only at e
    rw [hy] at e
    cases e
    exact X.set hj hn (Heap.SameBut.refl a h) (X.at (o := .frz y) hj hy)
theorem Base.withPrv (B : Base hO K mg mb) (l : List Addr) : Base (hO.withPrv l) K mg mb := ⟨B.g, B.b, B.bi, B.lim, B.k, B.low⟩
theorem sndS_for (B : Base hO K mg mb) {target iter : Expr} {body : List Stmt} {pos : Pos} {dI : DenI} {bind : AV -> Rho -> Option Rho} {d : DenS} {tt : Bool} (hi : SndI prog w n sc hO tt iter dI) (ht : tt = true -> ∃ es k pos, target = .Tuple es k pos) {lo : Bool} (hT : Tgt prog w sc lo target bind) (hB : ∀ h₁, Base h₁ K mg mb -> SndB prog w h₁ n sc body d) (hf : ∀ env x, foldedSetIterable iter env x = pure x) :
    SndS prog w hO n sc (.For target iter body [] pos) (dsFor dI bind d) := by
  intro A ρ σ f ρ' σ' x s own μ Q E R O e F X P
  refine bind3 e fun xs z σ1 e1 e => ?_
  refine bind3 e fun f2 ρ2 σ2 e2 e => ?_
  refine bind1 e fun σ3 e3 e => ?_
  have P := P.of e
  refine wpAny_For (hi target _ _ _ _ _ _ x s own μ _ _ ht R e1 F X fun h1 t1 μ1 I lw lz lk bs cs T G1 hnew X1 F1 W hT0 hz Z hk hv => ?_) (hf _)
  refine loop (B.withPrv _) R O W hT hB e2 F1 X1 (fun a ha => List.mem_append_right _ ha) hz hk hv hT0 fun h2 t2 μ2 G2 X2 F2 hz2 => ?_
  have sub : ∀ a ∈ hO.prv, a ∈ hO.prv ++ lw := fun a ha => List.mem_append_left _ ha
  have X3 := (X2.show_ sub).thaws hz2 Z e3
  have G : Grow own μ s.heap μ2 h2 := (G1.up.trans G2).shrink fun a ha => by
    rcases List.mem_append.mp ha with q | q
    · exact .inr (hnew a q)
    · exact .inl q
  have := P h2 t2 μ2 G X3 (F2.show_ sub)
  cases f2 with
  | next => exact this
  | ret v => exact fun c rc => this c (rc.prv fun a ha => .inl (sub a ha))
theorem sndS_while {test : Expr} {body : List Stmt} {pos : Pos} {fuel : Rho -> Nat} {c : DenC} {b : DenS} (hc : SndC prog w hO n sc test c) (hb : SndB prog w hO n sc body b) : SndS prog w hO n sc (.While test body [] pos) (dsWhile fuel c b) := by
  intro A ρ σ f ρ' σ' x s own μ Q E R O e F X P
  refine wpAny_While ?_
  unfold dsWhile at e
  refine codeAny_whileLoop (fun k s' => X5 fun h t μ1 ρ1 σ1 => A5 (s' = { s with heap := h, toks := t }) (Grow own μ s.heap μ1 h) (St prog w hO μ1 σ1 h) (FrOk hO h (x.env sc) own μ1 ρ1) (whileN c b k ρ1 σ1 = some (f, ρ', σ'))) ?_ (fuel ρ) ⟨s.heap, s.toks, μ, ρ, σ, rfl, .refl _ _ _, X, F, e⟩
  rintro k s' ⟨h, t, μ1, ρ1, σ1, rfl, G, X1, F1, e1⟩
  cases k with
  | zero => exact no e1
  | succ k =>
    refine bind2 e1 fun u σ2 ec e2 => ?_
    refine hc _ _ _ _ _ x { s with heap := h, toks := t } own μ1 _ _ R ec F1 X1 fun h2 t2 μ2 G2 X2 => ?_
    cases u with
    | false =>
      have P := P.of e2
      rw [if_neg Bool.false_ne_true]
      exact wpAny_execs_nil (P h2 t2 μ2 (G.trans G2.up) X2 (F1.grow G2))
    | true =>
      refine bind3 e2 fun f3 ρ3 σ3 eb e3 => ?_
      rw [if_pos rfl]
      refine hb _ _ _ _ _ _ x _ own μ2 _ _ R O eb (F1.grow G2) X2 fun h3 t3 μ3 G3 X3 F3 => ?_
      have up := (G.trans G2.up).trans G3
      cases f3 with
      | next => exact ⟨k, Nat.lt_succ_self k, h3, t3, μ3, ρ3, σ3, rfl, up, X3, F3, e3⟩
      | ret v => have P := P.of e3; exact fun c rc => P h3 t3 μ3 up X3 F3 c rc
end
end
section
noncomputable def iZip (d e : Den) : DenI := fun ρ σ => (d ρ σ).bind fun p => (e ρ p.2).bind fun q => match p.1 with
  | .lst xs => match q.1 with
    | .lst ys => some (List.zipWith (fun a b => .tup [a, b]) xs ys, none, q.2)
    | .obj j => match q.2[j]? with
      | some (.lst ys) => some (List.zipWith (fun a b => .tup [a, b]) xs ys, some j, q.2.set j (.frz (.lst ys)))
      | _ => none
    | _ => none
  | _ => none

section
variable {prog : Program} {w : World} {hO h₁ : HB} {h h' : Heap} {n : Nat} {sc : Scope} {mg mb : Str -> Option Value} {K : Frag} {μ own : List Addr} {hs : List (Nat × Addr)} {σ : List AObj} {env : Env} {ρ : Rho}

theorem zip_at {xs ys : List AV} {i : Nat} {x : AV} (h : (List.zipWith (fun a b => AV.tup [a, b]) xs ys)[i]? = some x) : X2 fun a b => A3 (xs[i]? = some a) (ys[i]? = some b) (x = .tup [a, b]) := by
  rw [List.getElem?_zipWith] at h
  cases h1 : xs[i]? with
  | none => rw [h1] at h; exact no h
  | some a =>
    cases h2 : ys[i]? with
    | none => rw [h1, h2] at h; exact no h
    | some b => rw [h1, h2] at h; cases h; exact ⟨a, b, rfl, rfl, rfl⟩

theorem wk_zip {A : Around} (hh : A.handled = none) {es : List Expr} {k : Nat} {pos : Pos} {z TI TO i1 i2 l1 l2 : Addr} (D : ZipApart z TI TO i1 i2 l1 l2) {xs ys : List AV} {c1 c2 : List Value} {lw : List Addr} {lz : List (Nat × Addr)} {lk : List Addr} (e1 : xs.length = c1.length) (e2 : ys.length = c2.length) (hwl : ∀ q ∈ [z, TO, i1, i2], q ∈ lw) (hl : TI ∈ lw) (hf1 : l1 ∈ lk) (hf2 : l2 ∈ lz.map (·.2) ∨ l2 ∈ lk) :
    Wk prog w A (.Tuple es k pos) z lw lz lk (List.zipWith (fun a b => .tup [a, b]) xs ys) (xs ++ ys) (c1 ++ c2)
      (fun i h => IsZip h z TI TO .none ∧ IsPair h TI (.ref i1) (.ref i2) ∧ (∃ a b, IsPair h TO a b) ∧ h.IsListIter i1 l1 i ∧ h.IsListIter i2 l2 i ∧ h.IsList l1 c1.toArray ∧ h.IsList l2 c2.toArray) where
  item := fun hO i x s μ σ Q E t e v X h1 hQ => by
    have W := WalksT.zip2 (prog := prog) (w := w) (A := A) hh z TI TO i1 i2 l1 l2 D c1.toArray c2.toArray
    obtain ⟨a, b, ha, hb, rfl⟩ := zip_at e
    have la := (List.getElem?_eq_some_iff.mp ha).1
    have lb := (List.getElem?_eq_some_iff.mp hb).1
    have hw : ∀ q ∈ [z, TO, i1, i2], q ∈ hO.prv := fun q hq => h1 q (hwl q hq)
    refine with_size (W.item i s _ E (by rw [List.size_toArray, List.size_toArray]; omega) t fun T vals h' tk hP hT hIT hM hk hsz => ?_)
    have kp1 : Kp lw μ s.heap μ h' := ⟨⟨[], by simp, fun V q => (nomatch q)⟩, fun b o e V n => hk b o (fun q => n (hwl b q)) e⟩
    have X1 := X.prvs _ hw hsz hk
    refine with_size (W.go es k pos i T { s with heap := h', toks := tk } _ E hM fun h'' ht hk2 hsz2 => ?_)
    have hsz2 : h'.objs.size ≤ h''.objs.size := hsz2
    have X2 := X1.prvs _ hw hsz2 hk2
    have kp2 : Kp lw μ s.heap μ h'' := ⟨⟨[], by simp, fun V q => (nomatch q)⟩, fun b o e m n => hk2 b o (fun q => n (hwl b q)) (kp1.keep b o e m n)⟩
    refine hQ (.ref T) h'' tk kp2 (Nat.le_trans hsz hsz2) X2 ht ?_
    obtain ⟨cx, cy, hx, hy, rfl⟩ := hP
    obtain ⟨o, ho, hr⟩ := hIT
    have hx : c1[i]? = some cx := by simpa using hx
    have hy : c2[i]? = some cy := by simpa using hy
    have hv := v.kp kp2 (SepOk.prv h1)
    have va : VRel hO.prv μ h'' a cx := by
      obtain ⟨c, hc, rc⟩ := hv.get (k := i) (v := a) (by rw [List.getElem?_append_left la]; exact ha)
      rw [List.getElem?_append_left (by omega), hx] at hc
      cases hc
      exact rc
    have vb : VRel hO.prv μ h'' b cy := by
      obtain ⟨c, hc, rc⟩ := hv.get (k := xs.length + i) (v := b) (by rw [List.getElem?_append_right (by omega), Nat.add_sub_cancel_left]; exact hb)
      rw [List.getElem?_append_right (by omega), show xs.length + i - c1.length = i by omega, hy] at hc
      cases hc
      exact rc
    exact .tup (cs := [cx, cy]) ⟨o, hk2 T o (W.apart i T h' hM) ho, hr⟩ (X.off_ge hT) (.cons va (.cons vb .nil))
  done := fun hO s μ σ Q E t X h1 hQ => by
    have W := WalksT.zip2 (prog := prog) (w := w) (A := A) hh z TI TO i1 i2 l1 l2 D c1.toArray c2.toArray
    rw [List.length_zipWith, e1, e2] at t
    refine with_size (W.done s _ E (by rw [List.size_toArray, List.size_toArray]; exact t) fun h' tk hk hsz => ?_)
    exact hQ h' tk ⟨⟨[], by simp, fun V q => (nomatch q)⟩, fun b o e V n => hk b o (fun q => n (hwl b q)) e⟩ hsz (X.prvs _ (fun q hq => h1 q (hwl q hq)) hsz hk)
  frame := fun i h h' t hk => by
    have W := WalksT.zip2 (prog := prog) (w := w) (A := A) hh z TI TO i1 i2 l1 l2 D c1.toArray c2.toArray
    refine W.frame i h h' t fun b hb o e => hk b ?_ o e
    rcases List.mem_cons.mp hb with rfl | hb
    · exact .inl (hwl _ (.head _))
    rcases List.mem_cons.mp hb with rfl | hb
    · exact .inl hl
    rcases List.mem_cons.mp hb with rfl | hb
    · exact .inl (hwl _ (.tail _ (.head _)))
    rcases List.mem_cons.mp hb with rfl | hb
    · exact .inl (hwl _ (.tail _ (.tail _ (.head _))))
    rcases List.mem_cons.mp hb with rfl | hb
    · exact .inl (hwl _ (.tail _ (.tail _ (.tail _ (.head _)))))
    rcases List.mem_cons.mp hb with rfl | hb
    · exact .inr (.inr hf1)
    rw [List.mem_singleton.mp hb]
    exact .inr hf2
  self := fun s Q E t h => by
    have W := WalksT.zip2 (prog := prog) (w := w) (A := A) hh z TI TO i1 i2 l1 l2 D c1.toArray c2.toArray
    exact W.self 0 s Q E t h

noncomputable def five (n : Nat) : List Addr := List.range' n 5
theorem five_ge {n : Nat} {a : Nat} (h : a ∈ five n) : n ≤ a ∧ a < n + 5 := List.mem_range'_1.mp h
theorem five_in {n k : Nat} (h : k < 5) : n + k ∈ five n := List.mem_range'_1.mpr ⟨Nat.le_add_right _ _, Nat.add_lt_add_left h _⟩
theorem zipApart {n l1 l2 : Nat} (h1 : l1 < n) (h2 : l2 < n) : ZipApart (n + 4) (n + 2) (n + 3) n (n + 1) l1 l2 := by
  constructor <;> (intro q; have q' : (_ : Nat) = _ := q; omega)
set_option tactic.hygienic true in
theorem sndI_zip (B : Base hO K mg mb) {p pos : Pos} {e1 e2 : Expr} {d1 d2 : Den} (hn : nameB sc .globalImplicit (S "zip") = true) (hg : globIn K (S "zip") = some none) (hb : bootBuiltins (S "zip") = some (.type "zip")) (hm : S "zip" ≠ ("__name__" : Str)) (hd1 : SndE prog w hO n sc e1 d1) (hd2 : SndE prog w hO n sc e2 d2)
    (he : ∀ env, starEach [e1, e2] env = (false, eval e1 env) :: starEach [e2] env) (he2 : ∀ env, starEach [e2] env = (false, eval e2 env) :: starEach [] env) (hp : ∀ env, (backTo pos (starEach [e2] env)).any (·.1) = false) (hx : CallShape (.Name (Str.ofString "zip") p) [e1, e2] pos) : SndI prog w n sc hO true (.Call (.Name (Str.ofString "zip") p) [e1, e2] [] pos) (iZip d1 d2) := by
  intro target A ρ σ xs z σ1 x s own μ Q E htt R ed F X P
  obtain ⟨es, kk, tpos, rfl⟩ := htt rfl
  refine bind2 ed fun v1 σ2 ev1 ed => ?_
  refine bind2 ed fun v2 σ3 ev2 ed => ?_
  refine Call_ (name_blt B hn hg hb hm X ?_) (hx _)
  refine PyProof.Rows.callWith_type1 ?_ (he _) (hp _)
  rw [he]
  refine Calls.spliced_cons (hd1 _ _ _ _ _ x s own μ _ _ R ev1 F X fun h1 t1 μ1 ca G1 X1 r1 => ?_)
  rw [he2]
  refine Calls.spliced_cons (hd2 _ _ _ _ _ x _ own μ1 _ _ R ev2 (F.grow G1) X1 fun h2 t2 μ2 cb G2 X2 r2 => Calls.spliced_nil ?_)
  have r1' := r1.grow G2 (.nil _)
  cases v1 <;> try exact no ed
  rename_i ys1 _
  apply r1'.eLst; intro l1 c1 tl1 m1 rs1
  have lt1 : l1 < h2.objs.size := by obtain ⟨o, ho, _⟩ := tl1; exact Heap.lt_size ho
  have main : ∀ {l2 : Addr} {ys : List AV} {c2 : List Value} {σ3' : List AObj} {zz : Option Nat} {lz : List (Nat × Addr)} {lk : List Addr}, h2.IsList l2 c2.toArray -> VRels hO.prv μ2 h2 ys c2 -> l2 < h2.objs.size -> St prog w hO μ2 σ3' h2 -> FrzAll μ2 σ3' lz -> ZOk hO zz lz -> SeqAll hO.prv μ2 h2 lk -> l1 ∈ lk -> (l2 ∈ lz.map (·.2) ∨ l2 ∈ lk) ->
      xs = List.zipWith (fun a b => .tup [a, b]) ys1 ys -> z = zz -> σ1 = σ3' -> wpAny (model prog w) A (call (.type "zip") [.ref l1, .ref l2]) (fun v s₁ => wpAny (model prog w) A (pyIter v) Q E s₁) E { s with heap := h2, toks := t2 } := by
    intro l2 ys c2 σ3' zz lz lk hl2 rs2 lt2 X3 hz Z hk hf1 hf2 q1 q2 q3
    subst q1 q2 q3
    refine call_zip_2 (s := { s with heap := h2, toks := t2 }) tl1 hl2 fun h' hz' hTI hTO hi1 hi2 hsz hkk => ?_
    have hsz : h'.objs.size = h2.objs.size + 5 := hsz
    refine wpAny_pyIter_zip hz' ?_
    have hkk : ∀ c o, h2.get? c = some o -> h'.get? c = some o := hkk
    have hl5 : ∀ a ∈ (five h2.objs.size), h2.objs.size ≤ a ∧ a < h2.objs.size + 5 := fun a => five_ge
    have hs5 : h2.objs.size ≤ h'.objs.size := by rw [hsz]; exact Nat.le_add_right _ _
    have G3 : Grow [] μ2 h2 μ2 h' := grow_new hs5 hkk
    have X4 := X3.hide (l := (five h2.objs.size)) (fun a ha => (hl5 a ha).1) hs5 (fun a ha => by rw [hsz]; exact (hl5 a ha).2) hkk
    have F4 := (((F.grow G1).grow G2).hide (l := (five h2.objs.size)) (fun a ha => (hl5 a ha).1)).grow G3
    have new5 : ∀ a ∈ hO.prv ++ (five h2.objs.size), a ∈ hO.prv ∨ h2.get? a = none := fun a ha => by
      rcases List.mem_append.mp ha with q | q
      · exact .inl q
      · exact .inr (get_size h2 (hl5 a q).1)
    have D := zipApart lt1 lt2
    refine P h' t2 μ2 (h2.objs.size + 4) (five h2.objs.size) lz lk (ys1 ++ ys) (c1 ++ c2) _ ((G1.trans G2).trans G3) (fun a ha => none_of_grow (G1.trans G2) (hl5 a ha).1) X4 F4 (wk_zip R.1 D rs1.length rs2.length (List.forall_mem_cons.mpr ⟨five_in (by decide), List.forall_mem_cons.mpr ⟨five_in (by decide), List.forall_mem_cons.mpr ⟨five_in (k := 0) (by decide), List.forall_mem_cons.mpr ⟨five_in (by decide), fun V q => nomatch q⟩⟩⟩⟩) (five_in (by decide)) hf1 hf2) ⟨hz', hTI, ⟨_, _, hTO⟩, hi1, hi2, by obtain ⟨o, ho, r⟩ := tl1; exact ⟨o, hkk _ _ ho, r⟩, by obtain ⟨o, ho, r⟩ := hl2; exact ⟨o, hkk _ _ ho, r⟩⟩ hz Z (fun b hb => ?_) (((rs1.append rs2).prv new5).grow G3 (.nil _))
    · obtain ⟨q1, o, its, mm, q2, q3⟩ := hk b hb
      exact ⟨q1.prv new5 q2, o, its, mm, hkk _ _ q2, q3⟩
  cases v2 <;> try cases ed
  · rename_i ys
    apply r2.eLst; intro l2 c2 tl2 m2 rs2
    · obtain ⟨o1, ho1, _, k1, hd1'⟩ := id tl1
      obtain ⟨o2, ho2, _, k2, hd2'⟩ := id tl2
      refine main (zz := none) (lz := []) (lk := [l1, l2]) tl2 rs2 (Heap.lt_size ho2) X2 (fun p hp => (nomatch hp)) rfl (List.forall_mem_cons.mpr ⟨⟨m1, o1, _, k1, ho1, hd1'⟩, List.forall_mem_cons.mpr ⟨⟨m2, o2, _, k2, ho2, hd2'⟩, fun V q => nomatch q⟩⟩) (.head _) (.inr (.tail _ (.head _))) rfl rfl rfl
  · rename_i j
    apply r2.eObj; intro a hj
    · dsimp only at ed
      cases ho : σ3[j]? with
      | none => rw [ho] at ed; exact no ed
      | some ob =>
        rw [ho] at ed
        cases ob with
        | lst ys =>
          cases ed
          have hfree := X2.free hj ho (by intro _ q; cases q)
          obtain ⟨c2, k2, hl2, rs2⟩ := id (X2.at hj ho)
          have Xf := X2.set (o := .frz (.lst ys)) hj hfree (Heap.SameBut.refl a h2) (X2.at (o := .lst ys) hj ho)
          obtain ⟨o1, ho1, _, k1, hd1'⟩ := id tl1
          have lj := (List.getElem?_eq_some_iff.mp ho).1
          refine main (zz := some j) (lz := [(j, a)]) (lk := [l1]) (isL hl2) rs2 (Heap.lt_size hl2) Xf (fun p hp => ?_) ⟨a, rfl, hfree⟩ (fun b hb => ?_) (.head _) (.inl (.head _)) rfl rfl rfl
          · obtain rfl := List.mem_singleton.mp hp
            exact ⟨hj, .lst ys, List.getElem?_set_self lj⟩
          · obtain rfl := List.mem_singleton.mp hb; exact ⟨m1, o1, _, k1, ho1, hd1'⟩
        | _ => exact no ed
end
end
section
section
variable {prog : Program} {w : World} {A : Around} {s : Shared}
theorem comp_loop {R : Result -> Shared -> Prop} {elt target iter : Expr} {ifs : List Expr} {scope : Scope} {pos : Pos} {it acc : Value} {env : Env} (I : Nat -> Shared -> Prop)
    (turn : ∀ n s, I n s -> wpAny (model prog w) A (pyNext it) (fun r s₁ => match r with
      | none => R (.ok .next) s₁
      | some v => wpAny (model prog w) A (letOwnedTupleGo target it v) (fun V s₂ => wpAny (model prog w) A (assign target env v) (fun V s₃ =>
          wpAny (model prog w) A (forIn ifs true fun c r => if r = true then do let ok ← isTrue c env (eval c env); pure (ForInStep.yield ok) else pure (ForInStep.yield r)) (fun ok s₄ =>
            if ok = true then wpAny (model prog w) A (eval elt env) (fun x s₅ =>
              wpAny (model prog w) A (call (.builtin "list.append") [acc, x]) (fun V s₆ => ∃ m, m < n ∧ I m s₆) (notedBy (model prog w) A env fun e s' => R (.error e) s') s₅) (notedBy (model prog w) A env fun e s' => R (.error e) s') s₄
            else ∃ m, m < n ∧ I m s₄) (notedBy (model prog w) A env fun e s' => R (.error e) s') s₃) (notedBy (model prog w) A env fun e s' => R (.error e) s') s₂) (notedBy (model prog w) A env fun e s' => R (.error e) s') s₁) (notedBy (model prog w) A env fun e s' => R (.error e) s') s)
    (n : Nat) (h : I n s) : codeAny (model prog w) A (.compLoop (.ListComp elt [⟨target, iter, ifs, 0⟩] scope pos) 0 it acc env) R s := by
  refine codeAny_loop rfl I (fun n s hI => ?_) n h
  show wpAny _ A ((compTurn (.ListComp elt [⟨target, iter, ifs, 0⟩] scope pos) 0 it acc env).onRaise (fun x => do noteFrame x env; theTreesLotGoes x)) _ _ s
  refine wpAny_noted ?_
  rw [compTurn_list]
  refine wpAny_bind (wpAny_standAt (wpAny_bind (wpAny_mono (turn n s hI) (fun r s₁ h₁ => ?_) fun V V z => z)))
  cases r with
  | none => exact wpAny_pure h₁
  | some v =>
    refine wpAny_bind (wpAny_mono h₁ (fun V s₂ h₂ => wpAny_bind (wpAny_mono h₂ (fun V s₃ h₃ => wpAny_bind (wpAny_mono h₃ (fun ok s₄ h₄ => ?_) fun V V z => z)) fun V V z => z)) fun V V z => z)
    cases ok with
    | false => exact wpAny_pure ⟨rfl, h₄⟩
    | true => exact wpAny_bind (wpAny_bind (wpAny_mono h₄ (fun x s₅ h₅ => wpAny_bind (wpAny_mono h₅ (fun V s₆ h₆ => wpAny_pure (wpAny_pure ⟨rfl, h₆⟩)) fun V V z => z)) fun V V z => z))
end

section
variable {prog : Program} {w : World} {hO : HB} {n : Nat} {sc : Scope}
def SndT (prog : Program) (w : World) (hO : HB) (n : Nat) (sc : Scope) (ifs : List Expr) (c : DenC) : Prop :=
  ∀ (A : Around) (ρ : Rho) (σ : List AObj) (b : Bool) (σ' : List AObj) (x : EP) (s : Shared) (own μ : List Addr) (Q : Bool -> Shared -> Prop) (E : Value -> Shared -> Prop), Room n A -> c ρ σ = some (b, σ') ->
    FrOk hO s.heap (x.env sc) own μ ρ -> St prog w hO μ σ s.heap -> PostC prog w hO s μ b σ' Q ->
    wpAny (model prog w) A (forIn ifs true fun c r => if r = true then do let ok ← isTrue c (x.env sc) (eval c (x.env sc)); pure (ForInStep.yield ok) else pure (ForInStep.yield r)) Q E s
theorem sndT_nil : SndT prog w hO n sc [] cTrue := by
  intro A ρ σ b σ' x s own μ Q E R e F X P
  cases e
  rw [List.forIn_nil]
  exact wpAny_pure (P s.heap s.toks μ (.refl _ _ _) X)
theorem sndT_one {e : Expr} {c : DenC} (he : SndC prog w hO n sc e c) : SndT prog w hO n sc [e] c := by
  intro A ρ σ b σ' x s own μ Q E R ec F X P
  rw [List.forIn_cons, if_pos rfl]
  refine wpAny_bind (wpAny_bind (he _ _ _ _ _ x s own μ _ _ R ec F X fun h1 t1 μ1 G1 X1 => wpAny_pure ?_))
  dsimp only
  rw [List.forIn_nil]
  exact wpAny_pure (P _ _ _ G1 X1)
end
end
section
theorem comp_env {M : Model} {A : Around} {E : Value -> Shared -> Prop} {s : Shared} {scope : Scope} {globals : Addr} {cl : List (Str × Addr)} {qual : Str} {outer : Env} {Q : Env -> Shared -> Prop}
    (h : Q (newEnv scope s.heap.objs.size globals (cellsFrom (s.heap.objs.size + 1) scope.names cl) qual none .none (some outer) builtinsNs) { s with heap := pushCells (s.heap.push { cls := .type "dict", data := .dict #[] }) scope.names }) :
    wpAny M A (newFunctionEnv scope globals cl [] qual none .none (some outer)) Q E s := by
  simp only [newFunctionEnv, Option.isSome_some, if_true]
  refine wpAny_bind (wpAny_alloc ?_)
  refine wpAny_bind (wpAny_layCells _ (fun name kind cells => by cases hkc : kind == NameKind.cell <;> simp [hkc]) _ _ _ _ ?_)
  rw [show ({ s with heap := s.heap.push { cls := .type "dict", data := .dict #[] } } : Shared).heap.objs.size = s.heap.objs.size + 1 from Heap.size_push ..]
  exact wpAny_pure h
noncomputable def closeL (cells : List (Str × Addr)) : List (Str × NameKind) -> List (Str × Addr) -> List (Str × Addr)
  | [], acc => acc
  | (y, k) :: r, acc => if k == .free then closeL cells r ((y, (cells.lookup y).getD 0) :: acc) else closeL cells r acc
theorem closure_eq {env : Env} (f : Str × NameKind -> List (Str × Addr) -> Sem (ForInStep (List (Str × Addr)))) (hf : ∀ y k cs, f (y, k) cs = if k == NameKind.free then (do let a ← cellOf env y; pure (.yield ((y, a) :: cs))) else pure (.yield cs)) :
    ∀ (names : List (Str × NameKind)) (acc : List (Str × Addr)), (∀ p ∈ names, p.2 = .free -> (env.cells.lookup p.1).isSome = true) -> forIn names acc f = pure (closeL env.cells names acc)
  | [], acc, _ => by rw [List.forIn_nil]; rfl
  | (y, k) :: r, acc, h => by
    rw [List.forIn_cons, hf]
    unfold closeL
    split
    · rename_i q
      obtain ⟨a, ha⟩ := Option.isSome_iff_exists.mp (h (y, k) List.mem_cons_self (by simpa using q))
      have e : cellOf env y = pure a := by unfold cellOf; rw [ha]
      rw [e, ha]
      simp only [pure_bind, Option.getD_some]
      exact closure_eq f hf r _ fun p hp => h p (List.mem_cons_of_mem _ hp)
    · simp only [pure_bind]
      exact closure_eq f hf r _ fun p hp => h p (List.mem_cons_of_mem _ hp)
theorem closure_for {env : Env} {scope : Scope} (h : ∀ p ∈ scope.names, p.2 = .free -> (env.cells.lookup p.1).isSome = true) : closureFor scope env = pure (closeL env.cells scope.names []) := by
  unfold closureFor
  dsimp only
  rw [closure_eq (env := env) _ (fun y k cs => by cases q : k == NameKind.free <;> simp [q]) _ _ h]
  rfl
end
section
noncomputable def rl (scope sc : Scope) : Scope := { scope with names := scope.names.map fun (n, k) => if (k == .free && sc.kind == .function && sc.names.lookup n == some .cell) then (n, .cell) else (n, k) }
noncomputable def capt (scope : Scope) (ρ : Rho) : Rho := fun y => if scope.names.lookup (S y) = some .free then ρ y else none
noncomputable def compOk (scope sc : Scope) : Bool := scope.kind == .function && sc.kind == .function && (scope.names.all fun p => p.2 == .local || p.2 == .cell || p.2 == .globalImplicit || (p.2 == .free && (sc.names.lookup p.1 == some .cell || sc.names.lookup p.1 == some .free))) && decide ((scope.names.map (·.1)).Nodup)

theorem rl_lookup (scope sc : Scope) (hk : sc.kind = .function) : ∀ (names : List (Str × NameKind)) (y : Str), (names.map fun (n, k) => if (k == NameKind.free && sc.kind == .function && sc.names.lookup n == some .cell) then (n, NameKind.cell) else (n, k)).lookup y =
    (names.lookup y).map fun k => if (k == NameKind.free && sc.names.lookup y == some .cell) then NameKind.cell else k
  | [], y => rfl
  | (n, k) :: r, y => by
    have ih := rl_lookup scope sc hk r y
    rw [List.map_cons]
    by_cases hc : (k == NameKind.free && sc.kind == .function && sc.names.lookup n == some .cell) = true
    · simp only [hc, if_true]
      simp only [List.lookup_cons]
      cases q : y == n with
      | true =>
        have q' := beq_iff_eq.mp q
        subst q'
        have hc' : (k == NameKind.free && sc.names.lookup y == some .cell) = true := by
          simp only [Bool.and_eq_true] at hc ⊢
          exact ⟨hc.1.1, hc.2⟩
        simp only [Option.map_some, hc', if_true]
      | false => exact ih
    · simp only [hc, if_false, Bool.false_eq_true]
      simp only [List.lookup_cons]
      cases q : y == n with
      | true =>
        have q' := beq_iff_eq.mp q
        subst q'
        have hc' : ¬ ((k == NameKind.free && sc.names.lookup y == some .cell) = true) := fun z => hc (by simp only [Bool.and_eq_true] at z ⊢; exact ⟨⟨z.1, by simp [hk]⟩, z.2⟩)
        simp only [Option.map_some, hc', if_false, Bool.false_eq_true]
      | false => exact ih
theorem closeL_some {cells : List (Str × Addr)} : ∀ (names : List (Str × NameKind)) (acc : List (Str × Addr)) {y : Str} {a : Addr}, (closeL cells names acc).lookup y = some a -> acc.lookup y = some a ∨ ((y, NameKind.free) ∈ names ∧ a = (cells.lookup y).getD 0)
  | [], acc, y, a, h => .inl h
  | (n, k) :: r, acc, y, a, h => by
    unfold closeL at h
    split at h
    · rename_i hk
      have hk : k = .free := by simpa using hk
      subst hk
      rcases closeL_some r _ h with q | ⟨q1, q2⟩
      · rw [List.lookup_cons] at q
        cases e : y == n with
        | true =>
          rw [e] at q
          have e' := beq_iff_eq.mp e
          subst e'
          cases q
          exact .inr ⟨List.mem_cons_self, rfl⟩
        | false => rw [e] at q; exact .inl q
      · exact .inr ⟨List.mem_cons_of_mem _ q1, q2⟩
    · rcases closeL_some r _ h with q | ⟨q1, q2⟩
      · exact .inl q
      · exact .inr ⟨List.mem_cons_of_mem _ q1, q2⟩
theorem closeL_acc {cells : List (Str × Addr)} : ∀ (names : List (Str × NameKind)) (acc : List (Str × Addr)) {y : Str}, (acc.lookup y).isSome = true -> ((closeL cells names acc).lookup y).isSome = true
  | [], _, _, h => h
  | (n, k) :: r, acc, y, h => by
    unfold closeL
    split
    · refine closeL_acc r _ ?_
      rw [List.lookup_cons]
      cases y == n with
      | true => rfl
      | false => exact h
    · exact closeL_acc r _ h
theorem closeL_has {cells : List (Str × Addr)} : ∀ (names : List (Str × NameKind)) (acc : List (Str × Addr)) {y : Str}, (y, NameKind.free) ∈ names -> ((closeL cells names acc).lookup y).isSome = true
  | (n, k) :: r, acc, y, h => by
    unfold closeL
    rcases List.mem_cons.mp h with q | q
    · cases q
      rw [if_pos (by rfl)]
      exact closeL_acc r _ (by rw [List.lookup_cons]; simp)
    · split
      · exact closeL_has r _ q
      · exact closeL_has r _ q
theorem cells_app : ∀ (names : List (Str × NameKind)) (b : Nat) (acc : List (Str × Addr)), cellsFrom b names acc = cellsFrom b names [] ++ acc
  | [], b, acc => rfl
  | (n, k) :: r, b, acc => by
    unfold cellsFrom
    split
    · rw [cells_app r _ ((n, b) :: acc), cells_app r _ [(n, b)]]; simp
    · exact cells_app r b acc
theorem cells_mem : ∀ (names : List (Str × NameKind)) (b : Nat) {y : Str} {a : Addr}, (y, a) ∈ cellsFrom b names [] -> (y, NameKind.cell) ∈ names ∧ b ≤ a
  | [], b, y, a, h => by cases h
  | (n, k) :: r, b, y, a, h => by
    unfold cellsFrom at h
    split at h
    · rename_i hk
      have hk : k = .cell := by simpa using hk
      subst hk
      rw [cells_app] at h
      rcases List.mem_append.mp h with q | q
      · obtain ⟨h1, h2⟩ := cells_mem r _ q
        exact ⟨List.mem_cons_of_mem _ h1, Nat.le_of_succ_le h2⟩
      · simp at q
        obtain ⟨rfl, rfl⟩ := q
        exact ⟨List.mem_cons_self, Nat.le_refl _⟩
    · obtain ⟨h1, h2⟩ := cells_mem r _ h
      exact ⟨List.mem_cons_of_mem _ h1, h2⟩
theorem lookup_app {α : Type} : ∀ (l m : List (Str × α)) (y : Str), (l ++ m).lookup y = (l.lookup y).or (m.lookup y)
  | [], m, y => by simp
  | (n, a) :: r, m, y => by
    rw [List.cons_append, List.lookup_cons, List.lookup_cons]
    cases y == n with
    | true => rfl
    | false => exact lookup_app r m y
end
section
section
variable {prog : Program} {w : World} {hO : HB} {h : Heap} {n : Nat} {sc scope : Scope} {own μ : List Addr} {σ : List AObj} {ρ : Rho}

noncomputable def compEP (scope : Scope) (h : Heap) (x : EP) : EP := { L := h.objs.size, cl := cellsFrom (h.objs.size + 1) scope.names (closeL x.cl scope.names []), q := x.q, fn := none, cd := x.cd, fr := x.fr }
noncomputable def compHeap (scope : Scope) (h : Heap) : Heap := pushCells (h.push { cls := .type "dict", data := .dict #[] }) scope.names
noncomputable def compOwn (scope : Scope) (h : Heap) : List Addr := h.objs.size :: (cellsFrom (h.objs.size + 1) scope.names []).map (·.2)

theorem compOk_of (ok : compOk scope sc = true) : scope.kind = .function ∧ sc.kind = .function ∧ (∀ p ∈ scope.names, p.2 = .free -> sc.names.lookup p.1 = some .cell ∨ sc.names.lookup p.1 = some .free) ∧ (scope.names.map (·.1)).Nodup := by
  simp only [compOk, Bool.and_eq_true, beq_iff_eq, decide_eq_true_eq] at ok
  obtain ⟨⟨⟨h1, h2⟩, h3⟩, h4⟩ := ok
  refine ⟨h1, h2, fun p hp hf => ?_, h4⟩
  have := List.all_eq_true.mp h3 p hp
  rw [hf] at this
  simpa using this
theorem nodup_lookup {α : Type} : ∀ {l : List (Str × α)} {y : Str} {k : α}, (l.map (·.1)).Nodup -> (y, k) ∈ l -> l.lookup y = some k
  | (n, a) :: r, y, k, hn, h => by
    rw [List.map_cons, List.nodup_cons] at hn
    rw [List.lookup_cons]
    rcases List.mem_cons.mp h with q | q
    · cases q; simp
    · cases e : y == n with
      | true =>
        have e' := beq_iff_eq.mp e
        subst e'
        exact absurd (List.mem_map.mpr ⟨_, q, rfl⟩) hn.1
      | false => exact nodup_lookup hn.2 q
theorem pushCells_size : ∀ (names : List (Str × NameKind)) (h : Heap), h.objs.size ≤ (pushCells h names).objs.size
  | [], h => Nat.le_refl _
  | (_, k) :: r, h => by
    unfold pushCells
    split
    · exact Nat.le_trans (by rw [Heap.size_push]; exact Nat.le_succ _) (pushCells_size r _)
    · exact pushCells_size r h
theorem comp_keeps (h : Heap) : ∀ b o, h.get? b = some o -> (compHeap scope h).get? b = some o := fun b o e => pushCells_keeps _ _ b o (Heap.get?_push_of_some _ e)
theorem comp_size (h : Heap) : h.objs.size < (compHeap scope h).objs.size := by
  have := pushCells_size scope.names (h.push { cls := .type "dict", data := .dict #[] })
  rw [Heap.size_push] at this
  exact this
theorem comp_cellsOk (h : Heap) : CellsOk (compHeap scope h) (h.objs.size + 1) (cellsFrom (h.objs.size + 1) scope.names []) := by
  have ok := cellsFrom_ok scope.names (h.push { cls := .type "dict", data := .dict #[] }) (h.objs.size + 1) [] ⟨fun V V hm => (nomatch hm), List.Pairwise.nil⟩ (by rw [Heap.size_push]; exact Nat.le_refl _)
  rw [Heap.size_push] at ok
  exact ok
theorem comp_lookup {x : EP} {h : Heap} {y : Str} {ca : Addr} (e : (compEP scope h x).cl.lookup y = some ca) : (∃ z, (z, ca) ∈ cellsFrom (h.objs.size + 1) scope.names [] ∧ z = y) ∨ ((y, NameKind.free) ∈ scope.names ∧ ca = (x.cl.lookup y).getD 0) := by
  have e : (cellsFrom (h.objs.size + 1) scope.names (closeL x.cl scope.names [])).lookup y = some ca := e
  rw [cells_app, lookup_app] at e
  cases q : (cellsFrom (h.objs.size + 1) scope.names []).lookup y with
  | some a => rw [q] at e; cases e; exact .inl ⟨y, mem_of_lookup q, rfl⟩
  | none =>
    rw [q] at e
    rcases closeL_some _ _ e with z | z
    · cases z
    · exact .inr z
theorem comp_free {x : EP} {h : Heap} {y : Str} (ok : compOk scope sc = true) (hy : (y, NameKind.free) ∈ scope.names) (hx : (x.cl.lookup y).isSome = true) : (compEP scope h x).cl.lookup y = x.cl.lookup y := by
  obtain ⟨ca, hca⟩ := Option.isSome_iff_exists.mp hx
  show (cellsFrom (h.objs.size + 1) scope.names (closeL x.cl scope.names [])).lookup y = _
  rw [cells_app, lookup_app]
  have none_ : (cellsFrom (h.objs.size + 1) scope.names []).lookup y = none := by
    cases q : (cellsFrom (h.objs.size + 1) scope.names []).lookup y with
    | none => rfl
    | some a =>
      have h1 := nodup_lookup (compOk_of ok).2.2.2 (cells_mem _ _ (mem_of_lookup q)).1
      have h2 := nodup_lookup (compOk_of ok).2.2.2 hy
      rw [h1] at h2
      cases h2
  rw [none_]
  have := closeL_has (cells := x.cl) scope.names [] hy
  obtain ⟨a, ha⟩ := Option.isSome_iff_exists.mp this
  rcases closeL_some _ _ ha with z | ⟨_, z⟩
  · cases z
  · rw [hca] at z
    rw [ha, hca, z]
    rfl
end
end
section
section
variable {prog : Program} {w : World} {hO : HB} {h : Heap} {n : Nat} {sc scope : Scope} {own μ : List Addr} {σ : List AObj} {ρ : Rho}

theorem comp_own {a : Addr} (q : a ∈ compOwn scope h) : h.objs.size ≤ a := by
  rcases List.mem_cons.mp q with q | q
  · rw [q]; exact Nat.le_refl _
  · obtain ⟨⟨y, b⟩, hp, rfl⟩ := List.mem_map.mp q
    exact Nat.le_of_succ_le (cells_mem _ _ hp).2
theorem rl_kindOf {x : EP} {y : Str} (hk : sc.kind = .function) : (x.env (rl scope sc)).kindOf y = (scope.names.lookup y).map fun k => if (k == NameKind.free && sc.names.lookup y == some .cell) then NameKind.cell else k := rl_lookup scope sc hk scope.names y
theorem comp_closed {x : EP} (ok : compOk scope sc = true) (F : FrOk hO h (x.env sc) own μ ρ) : ∀ p ∈ scope.names, p.2 = .free -> (x.cl.lookup p.1).isSome = true := fun p hp hf => by
  have := (compOk_of ok).2.2.1 p hp hf
  exact F.has p.1 this
theorem mem_of_look {α : Type} : ∀ {l : List (Str × α)} {y : Str} {k : α}, l.lookup y = some k -> (y, k) ∈ l
  | (n, a) :: r, y, k, h => by
    rw [List.lookup_cons] at h
    cases e : y == n with
    | true => rw [e] at h; cases h; rw [beq_iff_eq.mp e]; exact List.mem_cons_self
    | false => rw [e] at h; exact List.mem_cons_of_mem _ (mem_of_look h)
theorem pair_inj {l : List (Str × Addr)} (p : l.Pairwise fun x y => x.2 ≠ y.2) {y z : Str} {a : Addr} (h1 : (y, a) ∈ l) (h2 : (z, a) ∈ l) : y = z := by
  induction l with
  | nil => cases h1
  | cons b r ih =>
    obtain ⟨pb, pr⟩ := List.pairwise_cons.mp p
    rcases List.mem_cons.mp h1 with q1 | q1
    · rcases List.mem_cons.mp h2 with q2 | q2
      · rw [← q1] at q2; cases q2; rfl
      · exact absurd (by rw [← q1]) (pb _ q2)
    · rcases List.mem_cons.mp h2 with q2 | q2
      · exact absurd (by rw [← q2]) (pb _ q1)
      · exact ih pr q1 q2
theorem comp_frame {x : EP} (ok : compOk scope sc = true) (F : FrOk hO h (x.env sc) own μ ρ) (X : St prog w hO μ σ h) : FrOk hO (compHeap scope h) ((compEP scope h x).env (rl scope sc)) (compOwn scope h) μ (capt scope ρ) := by
  obtain ⟨hk1, hk2, hfree, hnd⟩ := compOk_of ok
  have G : Grow [] μ h μ (compHeap scope h) := grow_new (Nat.le_of_lt (comp_size h)) (comp_keeps h)
  have cok := comp_cellsOk (scope := scope) h
  have offm : ∀ a, h.objs.size ≤ a -> a ∉ μ := fun a ha q => Nat.not_lt.mpr ha (X.lt a q)
  have offb : ∀ a, h.objs.size ≤ a -> hO.get? a = none := fun a ha => base_none X ha
  have offp : ∀ a, h.objs.size ≤ a -> a ∉ hO.prv := fun a ha q => Nat.not_lt.mpr ha (X.prv a q).2.2.1
  have hcl := comp_closed ok F
  have frees : ∀ {y : Str} {ca : Addr}, (y, NameKind.free) ∈ scope.names -> ca = (x.cl.lookup y).getD 0 -> x.cl.lookup y = some ca := fun {y ca} hy e => by
    obtain ⟨b, hb⟩ := Option.isSome_iff_exists.mp (hcl _ hy rfl)
    have hb : x.cl.lookup y = some b := hb
    rw [hb] at e ⊢; rw [e]; rfl
  have hN := Heap.Ns.new h (.type "dict")
  refine ⟨⟨_, hN.keeps (pushCells_keeps _ _), fun y v e k => ?_⟩, fun y v e k => ?_, List.mem_cons_self, ⟨fun a ha => ?_⟩, fun a ha => ⟨offm a (comp_own ha), offb a (comp_own ha)⟩, fun y ca e => ?_, fun a ha => offp a (comp_own ha), fun y ca e => ?_, fun y ca e => ?_, fun y z ca e1 e2 => ?_, fun y e => ?_⟩
  · exfalso
    rw [rl_kindOf hk2] at k
    unfold capt at e
    split at e
    · rename_i q
      rw [q] at k
      simp only [Option.map_some] at k
      split at k <;> cases k
    · cases e
  · unfold capt at e
    split at e
    · rename_i q
      have hy := mem_of_look q
      obtain ⟨ca, c, h1, ⟨oc, hoc, hd⟩, h3⟩ := F.cell y v e (hfree _ hy rfl)
      refine ⟨ca, c, (comp_free ok hy (hcl _ hy rfl)).trans h1, ⟨oc, comp_keeps h _ _ hoc, hd⟩, h3.grow G (.nil _)⟩
    · cases e
  · rcases List.mem_cons.mp ha with q | q
    · subst q
      obtain ⟨o, es, ep, ho, hd, _⟩ := hN.keeps (pushCells_keeps scope.names _)
      exact ⟨o, ho, .inl ⟨es, ep, hd⟩⟩
    · obtain ⟨⟨y, b⟩, hp, rfl⟩ := List.mem_map.mp q
      obtain ⟨⟨oc, hoc, hd⟩, _⟩ := cok.empty _ _ hp
      exact ⟨oc, hoc, .inr (.inl ⟨_, hd⟩)⟩
  · rcases comp_lookup e with ⟨z, hz, _⟩ | ⟨hy, e2⟩
    · obtain ⟨⟨oc, hoc, hd⟩, hle⟩ := cok.empty _ _ hz
      exact ⟨offm ca (Nat.le_of_succ_le hle), Heap.lt_size hoc⟩
    · have := F.coff y ca (frees hy e2)
      exact ⟨this.1, Nat.lt_trans this.2 (comp_size h)⟩
  · rcases comp_lookup e with ⟨z, hz, _⟩ | ⟨hy, e2⟩
    · exact offp ca (Nat.le_of_succ_le (cok.empty _ _ hz).2)
    · exact F.coffp y ca (frees hy e2)
  · rcases comp_lookup e with ⟨z, hz, _⟩ | ⟨hy, e2⟩
    · exact ⟨_, (cok.empty _ _ hz).1⟩
    · obtain ⟨v₀, oc, hoc, hd⟩ := F.cok y ca (frees hy e2)
      exact ⟨v₀, oc, comp_keeps h _ _ hoc, hd⟩
  · rcases comp_lookup e1 with ⟨z1, hz1, r1⟩ | ⟨hy1, r1⟩
    · rcases comp_lookup e2 with ⟨z2, hz2, r2⟩ | ⟨hy2, r2⟩
      · have := pair_inj cok.apart hz1 hz2
        exact S_inj (r1.symm.trans (this.trans r2))
      · exact absurd (F.coff z ca (frees hy2 r2)).2 (Nat.not_lt.mpr (Nat.le_of_succ_le (cok.empty _ _ hz1).2))
    · rcases comp_lookup e2 with ⟨z2, hz2, r2⟩ | ⟨hy2, r2⟩
      · exact absurd (F.coff y ca (frees hy1 r1)).2 (Nat.not_lt.mpr (Nat.le_of_succ_le (cok.empty _ _ hz2).2))
      · exact F.inj y z ca (frees hy1 r1) (frees hy2 r2)
  · rw [rl_kindOf hk2] at e
    show ((cellsFrom (h.objs.size + 1) scope.names (closeL x.cl scope.names [])).lookup y).isSome = true
    cases q : scope.names.lookup y with
    | none => rw [q] at e; rcases e with e | e <;> cases e
    | some k =>
      cases k with
      | cell => exact cellsFrom_some _ _ _ (.inl q)
      | free => exact cellsFrom_some _ _ _ (.inr (closeL_has _ _ (mem_of_look q)))
      | _ => rw [q] at e; rcases e with e | e <;> (simp at e)
noncomputable def kindB (scope : Scope) (x : String) : Bool := match scope.names.lookup (S x) with | some .local => true | some .cell => true | _ => false
theorem comp_ownsOn {x : EP} (hk : sc.kind = .function) {xs : List String} (hl : xs.all (kindB scope) = true) : OwnsOn ((compEP scope h x).env (rl scope sc)) (compOwn scope h) xs := fun y hy q => by
  have := List.all_eq_true.mp hl y hy
  unfold kindB at this
  have q : ((compEP scope h x).env (rl scope sc)).kindOf (S y) = some .cell := q
  rw [rl_kindOf hk] at q
  show ∃ ca, (cellsFrom (h.objs.size + 1) scope.names (closeL x.cl scope.names [])).lookup (S y) = some ca ∧ ca ∈ compOwn scope h
  split at this
  · rename_i e; rw [e] at q; simp at q
  · rename_i e
    have h1 := cellsFrom_some (x := S y) scope.names (h.objs.size + 1) [] (.inl e)
    obtain ⟨ca, hca⟩ := Option.isSome_iff_exists.mp h1
    refine ⟨ca, ?_, List.mem_cons_of_mem _ (List.mem_map.mpr ⟨_, mem_of_look hca, rfl⟩)⟩
    rw [cells_app, lookup_app, hca]
    rfl
  · cases this
set_option tactic.hygienic true in
theorem capt_bound {y : String} (hl : kindB scope y = true) : capt scope ρ y = none := by
  unfold kindB at hl; unfold capt
  split at hl <;> rename_i e <;> first | (rw [e]; simp) | cases hl
end
end
section
noncomputable def compN (bind : AV -> Rho -> Option Rho) (c : DenC) (d : Den) (ρ : Rho) : List AV -> List AObj -> Option (List AV × List AObj)
  | [], σ => some ([], σ)
  | v :: vs, σ => (bind v ρ).bind fun ρ1 => (c ρ1 σ).bind fun p => match p.1 with
    | true => (d ρ1 p.2).bind fun q => (compN bind c d ρ vs q.2).bind fun r => some (q.1 :: r.1, r.2)
    | false => compN bind c d ρ vs p.2
def TgtC (prog : Program) (w : World) (sc : Scope) (target : Expr) (xs : List String) (bind : AV -> Rho -> Option Rho) : Prop :=
  ∀ (h₁ : HB) (A : Around) (E : Value -> Shared -> Prop) (s : Shared) (x : EP) (own μ : List Addr) (σ : List AObj) (ρ ρ' : Rho) (v : AV) (c : Value) (Q : Unit -> Shared -> Prop), A.handled = none -> OwnsOn (x.env sc) own xs -> bind v ρ = some ρ' -> FrOk h₁ s.heap (x.env sc) own μ ρ -> St prog w h₁ μ σ s.heap -> VRel h₁.prv μ s.heap v c ->
    (∀ h' t', Grow own μ s.heap μ h' -> St prog w h₁ μ σ h' -> FrOk h₁ h' (x.env sc) own μ ρ' -> Q () { s with heap := h', toks := t' }) -> wpAny (model prog w) A (assign target (x.env sc) c) Q E s
def BindOn (xs : List String) (bind : AV -> Rho -> Option Rho) : Prop := ∀ v ρ ρ', bind v ρ = some ρ' -> ∀ y, y ∉ xs -> ρ' y = ρ y

section
variable {prog : Program} {w : World} {hO h₁ : HB} {h h₂ : Heap} {n : Nat} {sc scope : Scope} {mg mb : Str -> Option Value} {K : Frag} {μ own : List Addr} {σ : List AObj} {env : Env} {ρ : Rho}
theorem tgtC_name {y : String} {pos : Pos} (hk : sc.kind = .function) (hl : kindOk sc y = true) : TgtC prog w sc (.Name (Str.ofString y) pos) [y] (bindN y) := by
  intro h₁ A E s x own μ σ ρ ρ' v c Q hh O e F X r P
  cases e
  exact assign_Name (store_any (env := x.env sc) hk hl O F X r P)
theorem tgtC_tup {es : List Expr} {xs : List String} {k : Nat} {pos : Pos} (N : Names es xs) (hk : sc.kind = .function) (hl : xs.all (kindOk sc) = true) : TgtC prog w sc (.Tuple es k pos) xs (bindT xs) := by
  intro h₁ A E s x own μ σ ρ ρ' v c Q hh O e F X r P
  unfold bindT at e
  cases v <;> try cases e
  exact assign_tup (env := x.env sc) hh hk O N hl e F X r P
theorem bindOn_name {y : String} : BindOn [y] (bindN y) := by
  intro v ρ ρ' e z hz
  cases e
  unfold Rho.set
  rw [if_neg fun q => hz (by rw [q]; exact List.mem_cons_self)]
theorem bindRho_on : ∀ {xs : List String} {vs : List AV} {ρ ρ' : Rho}, bindRho xs vs ρ = some ρ' -> ∀ z, z ∉ xs -> ρ' z = ρ z
  | [], [], ρ, ρ', e, z, _ => by cases e; rfl
  | x :: xs, v :: vs, ρ, ρ', e, z, hz => by
    have := bindRho_on (xs := xs) e z fun q => hz (List.mem_cons_of_mem _ q)
    rw [this]
    unfold Rho.set
    rw [if_neg fun q => hz (by rw [q]; exact List.mem_cons_self)]
  | [], _ :: _, _, _, e, _, _ => by exact no e
  | _ :: _, [], _, _, e, _, _ => by exact no e
theorem bindOn_tup {xs : List String} : BindOn xs (bindT xs) := by
  intro v ρ ρ' e z hz
  unfold bindT at e
  cases v <;> try exact no e
  exact bindRho_on e z hz
theorem FrOk.weak {ρ' : Rho} (F : FrOk hO h env own μ ρ) (hs : ∀ y v, ρ' y = some v -> ρ y = some v) : FrOk hO h env own μ ρ' := by
  obtain ⟨m, hn, hm⟩ := F.ns
  exact ⟨⟨m, hn, fun x v e => hm x v (hs x v e)⟩, fun x v e => F.cell x v (hs x v e), F.ownL, F.data, F.off, F.coff, F.offp, F.coffp, F.cok, F.inj, F.has⟩
theorem list_at {h h' : Heap} {a : Addr} {cs : Array Value} (l : h.IsList a cs) (k : ∀ o, h.get? a = some o -> h'.get? a = some o) : h'.IsList a cs := by
  obtain ⟨o, ho, r⟩ := l; exact ⟨o, k o ho, r⟩

theorem comp_walk {A : Around} {elt target iter : Expr} {ifs : List Expr} {pos : Pos} {I D : Addr} {lw : List Addr} {lz : List (Nat × Addr)} {lk : List Addr} {xs bs zs : List AV} {cs : List Value} {T : Nat -> Heap -> Prop} {bind : AV -> Rho -> Option Rho} {ts : List String} {c : DenC} {d : Den} {x : EP} {s : Shared} {σ' : List AObj} {R : Result -> Shared -> Prop}
    (B : Base hO K mg mb) (Rm : Room n A) (W : Wk prog w A target I lw lz lk xs bs cs T) (hT : TgtC prog w sc target ts bind) (hbo : BindOn ts bind) (hρ : ∀ y ∈ ts, ρ y = none) (hc : ∀ h₁, Base h₁ K mg mb -> SndT prog w h₁ n sc ifs c) (hd : ∀ h₁, Base h₁ K mg mb -> SndE prog w h₁ n sc elt d) (O : OwnsOn (x.env sc) own ts)
    (e : compN bind c d ρ xs σ = some (zs, σ')) (hx : xs.length ≤ 1000) (F : FrOk hO s.heap (x.env sc) own μ ρ) (X : St prog w hO μ σ s.heap) (hw : ∀ a ∈ lw, a ∈ hO.prv) (hD : D ∈ hO.prv) (hDw : D ∉ lw) (hz : FrzAll μ σ lz) (hk : SeqAll hO.prv μ s.heap lk) (hv : VRels hO.prv μ s.heap bs cs) (hT0 : T 0 s.heap) (hDl : s.heap.IsList D #[])
    (P : ∀ h' t' μ' cs', Grow (D :: lw ++ own) μ s.heap μ' h' -> St prog w hO μ' σ' h' -> FrOk hO h' (x.env sc) own μ' ρ -> FrzAll μ' σ' lz -> h'.IsList D cs'.toArray -> VRels hO.prv μ' h' zs cs' -> R (.ok .next) { s with heap := h', toks := t' }) :
    codeAny (model prog w) A (.compLoop (.ListComp elt [⟨target, iter, ifs, 0⟩] scope pos) 0 (.ref I) (.ref D) (x.env sc)) R s := by
  have upo : ∀ {μ1 μ2 h1 h2}, Grow own μ1 h1 μ2 h2 -> Grow (D :: lw ++ own) μ1 h1 μ2 h2 := fun G => G.mono fun a ha => List.mem_append_right _ ha
  have upw : ∀ {μ1 h1 h2}, Kp lw μ1 h1 μ1 h2 -> h1.objs.size ≤ h2.objs.size -> Grow (D :: lw ++ own) μ1 h1 μ1 h2 := fun k hs => ⟨k.pre, hs, fun b o e n m => k.keep b o e n fun q => m (List.mem_append_left _ (List.mem_cons_of_mem _ q))⟩
  have up0 : ∀ {μ1 μ2 h1 h2}, Grow [] μ1 h1 μ2 h2 -> Grow (D :: lw ++ own) μ1 h1 μ2 h2 := fun G => G.mono fun a ha => (nomatch ha)
  refine comp_loop (fun k s' => X8 fun h t μ1 σ1 i ys ds rs => A15 (s' = { s with heap := h, toks := t }) (k = xs.length + 1 - i) (i ≤ xs.length) (Grow (D :: lw ++ own) μ s.heap μ1 h) (St prog w hO μ1 σ1 h) (FrOk hO h (x.env sc) own μ1 ρ) (T i h) (compN bind c d ρ (xs.drop i) σ1 = some (rs, σ')) (ys ++ rs = zs) (ys.length ≤ i) (FrzAll μ1 σ1 lz) (SeqAll hO.prv μ1 h lk) (VRels hO.prv μ1 h bs cs) (h.IsList D ds.toArray) (VRels hO.prv μ1 h ys ds)) ?_ (xs.length + 1) ⟨s.heap, s.toks, μ, σ, 0, [], [], zs, rfl, rfl, Nat.zero_le _, .refl _ _ _, X, F, hT0, e, rfl, Nat.le_refl _, hz, hk, hv, hDl, .nil⟩
  rintro k s' ⟨h, t, μ1, σ1, i, ys, ds, rs, rfl, rfl, hi, G, X1, F1, hTi, e1, hys, hyl, hz1, hk1, hv1, hD1, hr1⟩
  by_cases lt : i < xs.length
  · rw [List.drop_eq_getElem_cons lt] at e1
    refine bind1 e1 fun ρ2 eb e2 => ?_
    refine bind2 e2 fun b σ2 ec e3 => ?_
    refine W.turn (s := { s with heap := h, toks := t }) (y := xs[i]) hTi (List.getElem?_eq_getElem lt) hv1 X1 hw fun v h2 t2 G2 hs2 X2 hT2 rv => ?_
    have hH := hz1.held
    have X2' := X2.up hH
    have F2 := F1.prvs hw G2 hs2
    have F2' := F2.up (σ := σ1) hH
    have sub := baseAt_sub (hO := hO) (h := h2) (σ := σ1) (hs := lz) X2.base
    have hDm2 : D ∉ μ1 := (X2.prv D hD).1
    have hD2 : h2.IsList D ds.toArray := list_at hD1 fun o eo => G2.keep D o eo hDm2 hDw
    have hr2 := hr1.kp G2 (SepOk.prv hw)
    have hk2 := hk1.grow G2 (SepOk.prv hw)
    have hv2 := hv1.kp G2 (SepOk.prv hw)
    refine hT _ A _ { s with heap := h2, toks := t2 } x own μ1 σ1 ρ ρ2 _ v _ Rm.1 O eb F2' X2' rv fun h3 t3 G3 X3 F3 => ?_
    have W3 := F2.data
    refine hc _ (B.up sub) A ρ2 σ1 b σ2 x { s with heap := h3, toks := t3 } own μ1 _ _ Rm ec F3 X3 fun h4 t4 μ4 G4 X4 => ?_
    have F4 := F3.grow G4
    have G34 : Grow own μ1 h2 μ4 h4 := G3.trans G4.up
    have back : FrOk hO h4 (x.env sc) own μ4 ρ := (F4.down X2.base).weak fun y v ev => by
      rw [hbo _ _ _ eb y fun q => by rw [hρ y q] at ev; cases ev]; exact ev
    have heldEq : ∀ {σ5 μ5 h5}, St prog w (baseAt hO h2 σ1 lz) μ5 σ5 h5 -> ∀ p ∈ lz, σ5[p.1]? = σ1[p.1]? := fun {σ5 μ5 h5} X5 p hp => by
      obtain ⟨_, o, ho, _⟩ := hH p hp
      have := (X5.held p.1 o (by rw [baseAt_held hp, ho])).1
      rw [this, ho]
    have keepH : ∀ {σ5 μ5 h5}, St prog w (baseAt hO h2 σ1 lz) μ5 σ5 h5 -> ∀ p ∈ lz, ∀ o, h2.get? p.2 = some o -> h5.get? p.2 = some o := fun {σ5 μ5 h5} X5 p hp o e => X5.base _ _ (by rw [baseAt_in hp]; exact e)
    have keepT : ∀ {σ5 μ5 h5}, St prog w (baseAt hO h2 σ1 lz) μ5 σ5 h5 -> Grow own μ1 h2 μ5 h5 -> T (i + 1) h5 := fun {σ5 μ5 h5} X5 G5 => W.frame _ _ _ hT2 fun b hb o eo => by
      rcases hb with hb | hb | hb
      · exact G5.keep b o eo (X2.prv b (hw b hb)).1 fun q => F2.offp b q (hw b hb)
      · obtain ⟨p, hp, rfl⟩ := List.mem_map.mp hb
        exact keepH X5 p hp o eo
      · obtain ⟨nb, o', its, m, e', hd'⟩ := hk2 b hb
        have no : b ∉ own := fun q => by
          rcases F2.data.no q e' with ⟨_, _, z⟩ | ⟨_, z⟩ | ⟨_, z⟩ <;> rw [hd'] at z <;> cases z
        exact G5.keep b o eo nb.1 no
    have keepD : ∀ {μ5 h5}, Grow own μ1 h2 μ5 h5 -> h5.IsList D ds.toArray := fun {μ5 h5} G5 => list_at hD2 fun o eo => G5.keep D o eo hDm2 fun q => F2.offp D q hD
    cases b with
    | false =>
      rw [if_neg Bool.false_ne_true]
      exact ⟨xs.length + 1 - (i + 1), by omega, h4, t4, μ4, σ2, i + 1, ys, ds, rs, rfl, rfl, lt, (G.trans (upw G2 hs2)).trans (upo G34), X4.down X2 hH, back, keepT X4 G34, e3, hys, Nat.le_succ_of_le hyl,
        fun p hp => ⟨G34.at (hz1 p hp).1, by rw [heldEq X4 p hp]; exact (hz1 p hp).2⟩, hk2.grow G34.kp F2.data.sep, hv2.grow G34 F2.data, keepD G34, hr2.grow G34 F2.data⟩
    | true =>
      refine bind2 e3 fun u σ3 ed e4 => ?_
      refine bind2 e4 fun us σ4 en e5 => ?_
      cases e5
      rw [if_pos rfl]
      refine hd _ (B.up sub) A ρ2 σ2 u σ3 x { s with heap := h4, toks := t4 } own μ4 _ _ Rm ed F4 X4 fun h5 t5 μ5 cu G5 X5 ru => ?_
      have G25 : Grow own μ1 h2 μ5 h5 := G34.trans G5.up
      have X5' := X5.down X2 hH
      have hD5 := keepD G25
      have hDm5 : D ∉ μ5 := (X5.prv D hD).1
      refine wpAny_list_append (s := { s with heap := h5, toks := t5 }) hD5 (fun h6 hl6 hs6 => ?_) ?_
      · have hl6 : h6.IsList D (ds ++ [cu]).toArray := by rw [List.push_toArray] at hl6; exact hl6
        have hsz6 : h5.objs.size ≤ h6.objs.size := by rw [hs6.1]; exact Nat.le_refl _
        have hw1 : ∀ a ∈ [D], a ∈ hO.prv := fun a ha => by rw [List.mem_singleton.mp ha]; exact hD
        have kp6 : ∀ b o, b ∉ [D] -> h5.get? b = some o -> h6.get? b = some o := fun b o nb eb => (hs6.2 b fun q => nb (by rw [q]; exact List.mem_cons_self)).trans eb
        have K6 : Kp [D] μ5 h5 μ5 h6 := ⟨⟨[], by simp, fun V q => (nomatch q)⟩, fun b o e V n => kp6 b o n e⟩
        have X6 := X5'.prvs [D] hw1 hsz6 kp6
        have back5 : FrOk hO h5 (x.env sc) own μ5 ρ := back.grow G5
        have F6 := back5.prvs hw1 K6 hsz6
        have S6 : SepOk hO.prv [D] h5 := SepOk.prv hw1
        have ru' : VRel hO.prv μ5 h5 u cu := ru
        refine ⟨xs.length + 1 - (i + 1), by omega, h6, t5, μ5, σ3, i + 1, ys ++ [u], ds ++ [cu], us, rfl, rfl, lt, (((G.trans (upw G2 hs2)).trans (upo G25))).trans ⟨K6.pre, hsz6, fun b o e n m => K6.keep b o e n fun q => m (by rw [List.mem_singleton.mp q]; exact List.mem_append_left _ List.mem_cons_self)⟩, X6, F6, ?_, en, by rw [← hys]; simp, by simp; omega,
          fun p hp => ⟨G25.at (hz1 p hp).1, by rw [heldEq X5 p hp]; exact (hz1 p hp).2⟩, (hk2.grow G25.kp F2.data.sep).grow K6 S6, (hv2.grow G25 F2.data).kp K6 S6, hl6, ((hr2.grow G25 F2.data).append (.cons ru' .nil)).kp K6 S6⟩
        refine W.frame _ _ _ (keepT X5 G25) fun b hb o eo => kp6 b o (fun q => ?_) eo
        have qD := List.mem_singleton.mp q
        subst qD
        rcases hb with hb | hb | hb
        · exact hDw hb
        · obtain ⟨p, hp, rfl⟩ := List.mem_map.mp hb
          exact hDm2 (List.mem_of_getElem? (hz1 p hp).1)
        · exact (hk2 b hb).1.2 hD
      · rw [List.size_toArray, ← hr1.length]; unfold sizeLine; omega
  · have hin : i = xs.length := by omega
    subst hin
    rw [List.drop_length] at e1
    cases e1
    refine W.done hO _ μ1 _ _ _ hTi X1 hw fun h2 t2 G2 hs2 X2 => ?_
    have hDm2 : D ∉ μ1 := (X2.prv D hD).1
    rw [List.append_nil] at hys
    subst hys
    exact P h2 t2 μ1 ds (G.trans (upw G2 hs2)) X2 (F1.prvs hw G2 hs2) hz1 (list_at hD1 fun o eo => G2.keep D o eo hDm2 hDw) (hr1.kp G2 (SepOk.prv hw))
end
end
section
noncomputable def captL (fs : List String) (ρ : Rho) : Rho := fun y => if fs.contains y then ρ y else none
noncomputable def freeAll (scope : Scope) (fs : List String) : Bool := fs.all fun y => scope.names.lookup (S y) == some .free
theorem captL_sub {scope : Scope} {fs : List String} (h : freeAll scope fs = true) {ρ : Rho} {y : String} {v : AV} (e : captL fs ρ y = some v) : capt scope ρ y = some v := by
  unfold captL at e
  split at e
  · rename_i q
    have := List.all_eq_true.mp h y (by simpa using q)
    unfold capt
    rw [if_pos (by simpa using this)]
    exact e
  · cases e
noncomputable def dComp (fs : List String) (dI : DenI) (bind : AV -> Rho -> Option Rho) (c : DenC) (d : Den) : Den := fun ρ σ => (dI ρ σ).bind fun q => if q.1.length ≤ 1000 then (compN bind c d (captL fs ρ) q.1 q.2.2).bind fun r => (unfrz q.2.1 r.2).bind fun σ' => some (.lst r.1, σ') else none

section
variable {prog : Program} {w : World} {hO h₁ : HB} {h h₂ : Heap} {n : Nat} {sc scope : Scope} {mg mb : Str -> Option Value} {K : Frag} {μ own : List Addr} {σ : List AObj} {env : Env} {ρ : Rho}

theorem SeqAll.prv {pv pv' : List Addr} {lk : List Addr} (S : SeqAll pv μ h lk) (s : ∀ a ∈ pv', a ∈ pv ∨ h.get? a = none) : SeqAll pv' μ h lk := fun a ha => by
  obtain ⟨n, o, its, m, e, hd⟩ := S a ha
  exact ⟨n.prv s e, o, its, m, e, hd⟩

theorem comp_core {A : Around} {elt target iter : Expr} {ifs : List Expr} {pos p0 : Pos} {tt : Bool} {dI : DenI} {bind : AV -> Rho -> Option Rho} {ts : List String} {c : DenC} {d : Den} {x : EP} {s : Shared} {v : AV} {σ' : List AObj} {E : Value -> Shared -> Prop} {use : Option (Value -> Sem Unit)} {Q : Value -> Shared -> Prop}
    (B : Base hO K mg mb) (hi : SndI prog w n sc hO tt iter dI) (htt : tt = true -> ∃ es k pos, target = .Tuple es k pos) (ok : compOk scope sc = true) {fs : List String} (hfs : freeAll scope fs = true) (hT : TgtC prog w (rl scope sc) target ts bind) (hbo : BindOn ts bind) (hts : ts.all (kindB scope) = true)
    (hc : ∀ h₁, Base h₁ K mg mb -> SndT prog w h₁ n (rl scope sc) ifs c) (hd : ∀ h₁, Base h₁ K mg mb -> SndE prog w h₁ n (rl scope sc) elt d) (hf : ∀ env x, foldedSetIterable iter env x = pure x)
    (Rm : Room n A) (e : dComp fs dI bind c d ρ σ = some (v, σ')) (F : FrOk hO s.heap (x.env sc) own μ ρ) (X : St prog w hO μ σ s.heap)
    (P : ∀ h' t' μ' D C m, Grow [] μ s.heap μ' h' -> St prog w hO μ' σ' h' -> VRel hO.prv μ' h' v (.ref D) -> s.heap.objs.size ≤ C -> h'.Ns C m -> C ∉ μ' -> compPost (model prog w) A E use Q (.ref D) C (.ok .next) { s with heap := h', toks := t' }) :
    wpAny (model prog w) A (comprehension (.ListComp elt [⟨target, iter, ifs, 0⟩] scope pos) scope (x.env sc) p0 (newList []) false (eval iter (x.env sc)) use) Q E s := by
  refine bind3 e fun xs z σ1 e1 e => ?_
  dsimp only at e
  split at e
  rotate_left
  · exact no e
  rename_i hlen
  refine bind2 e fun zs σ2 e2 e => ?_
  refine bind1 e fun σ3 e3 e => ?_
  cases e
  obtain ⟨hk1, hk2, hfree, hnd⟩ := compOk_of ok
  refine wpAny_comprehension_free rfl (hf _) (closure_for (comp_closed ok F)) hk1 (fun p hp hl => nodup_lookup hnd (by rw [← hl]; exact hp)) ?_
  refine hi target _ _ _ _ _ _ x s own μ _ _ htt Rm e1 F X fun h1 t1 μ1 I lw lz lk bs cs T G1 hnew X1 F1 W hT0 hz Z hk hv => ?_
  refine wpAny_newObj_type (s := { s with heap := h1, toks := t1 }) ?_ (by show 0 ≤ sizeLine; exact Nat.zero_le _)
  obtain ⟨X2, F2⟩ := hide1 X1 F1 { cls := .type "list", dict := none, data := .seq ([] : List Value).toArray }
  have G2 : Grow [] μ1 h1 μ1 (h1.push { cls := .type "list", dict := none, data := .seq ([] : List Value).toArray }) := grow_push _
  have k2 : ∀ b o, h1.get? b = some o -> (h1.push { cls := .type "list", dict := none, data := .seq ([] : List Value).toArray }).get? b = some o := fun b o eo => Heap.get?_push_of_some _ eo
  have hDl : (h1.push { cls := .type "list", dict := none, data := .seq ([] : List Value).toArray }).IsList h1.objs.size #[] := ⟨_, Heap.get?_push_size _ rfl, rfl, _, rfl⟩
  have sz2 : (h1.push { cls := .type "list", dict := none, data := .seq ([] : List Value).toArray }).objs.size = h1.objs.size + 1 := Heap.size_push _ _
  generalize hH2 : h1.push { cls := .type "list", dict := none, data := .seq ([] : List Value).toArray } = H2 at X2 F2 G2 k2 hDl sz2 ⊢
  refine comp_env ?_
  have G3 : Grow [] μ1 H2 μ1 (compHeap scope H2) := grow_new (Nat.le_of_lt (comp_size H2)) (comp_keeps H2)
  have X3 := X2.more (Nat.le_of_lt (comp_size (scope := scope) H2)) (comp_keeps H2)
  have F3 := comp_frame ok F2 X2
  have k3 : ∀ b o, h1.get? b = some o -> (compHeap scope H2).get? b = some o := fun b o eo => comp_keeps H2 b o (k2 b o eo)
  have hT3 : T 0 (compHeap scope H2) := W.frame _ _ _ hT0 fun b V o eo => k3 b o eo
  have hlw : ∀ a ∈ lw, a < h1.objs.size := fun a ha => (X1.prv a (List.mem_append_right _ ha)).2.2.1
  show codeAny (model prog w) A (.compStart (.ListComp elt [⟨target, iter, ifs, 0⟩] scope pos) 0 (.ref I) (.ref h1.objs.size) ((compEP scope H2 x).env (rl scope sc))) (compPost (model prog w) A E use Q (.ref h1.objs.size) H2.objs.size) { s with heap := compHeap scope H2, toks := t1 }
  have walk : codeAny (model prog w) A (.compLoop (.ListComp elt [⟨target, iter, ifs, 0⟩] scope pos) 0 (.ref I) (.ref h1.objs.size) ((compEP scope H2 x).env (rl scope sc))) (compPost (model prog w) A E use Q (.ref h1.objs.size) H2.objs.size) { s with heap := compHeap scope H2, toks := t1 } := by
    refine comp_walk (hO := (hO.withPrv (hO.prv ++ lw)).withPrv ((hO.withPrv (hO.prv ++ lw)).prv ++ [h1.objs.size])) (s := { s with heap := compHeap scope H2, toks := t1 }) ((B.withPrv _).withPrv _) Rm W hT hbo (fun y hy => by
      cases q : captL fs ρ y with
      | none => rfl
      | some u => have := captL_sub hfs q; rw [capt_bound (List.all_eq_true.mp hts y hy)] at this; cases this) hc hd (comp_ownsOn hk2 hts) e2 hlen (F3.weak fun y v q => captL_sub hfs q) X3 (fun a ha => List.mem_append_left _ (List.mem_append_right _ ha)) (List.mem_append_right _ List.mem_cons_self) (fun q => Nat.lt_irrefl _ (hlw _ q)) hz ?_ ?_ hT3 (list_at hDl fun o eo => comp_keeps H2 _ o eo) fun h5 t5 μ5 ds G5 X5 F5 hz5 hD5 hr5 => ?_
    · exact ((hk.prv new1).grow G2.kp (SepOk.prv (by intro a ha; cases ha))).grow G3.kp (SepOk.prv (by intro a ha; cases ha)) |> fun q => q
    · exact ((hv.prv new1).grow G2 (.nil _)).grow G3 (.nil _)
    · have sub1 : ∀ a ∈ hO.prv ++ lw, a ∈ (hO.prv ++ lw) ++ [h1.objs.size] := fun a ha => List.mem_append_left _ ha
      have sub0 : ∀ a ∈ hO.prv, a ∈ hO.prv ++ lw := fun a ha => List.mem_append_left _ ha
      have X6 : St prog w hO μ5 σ' h5 := ((X5.show_ (hO := hO.withPrv (hO.prv ++ lw)) sub1).show_ sub0).thaws hz5 Z e3
      have Ge : Grow [] μ s.heap μ5 h5 := (((G1.trans G2).trans G3).mono (own' := h1.objs.size :: lw ++ compOwn scope H2) (fun a ha => (nomatch ha))).trans G5 |>.shrink fun a ha => by
        right
        rcases List.mem_append.mp ha with q | q
        · rcases List.mem_cons.mp q with q | q
          · rw [q]; exact none_of_grow G1 (Nat.le_refl _)
          · exact hnew a q
        · exact none_of_grow (G1.trans G2) (comp_own q)
      obtain ⟨m, hn, _⟩ := F5.ns
      have hDm : h1.objs.size ∉ μ5 := (X5.prv _ (List.mem_append_right _ List.mem_cons_self)).1
      have hr6 : VRels hO.prv μ5 h5 zs ds := hr5.prv fun a ha => .inl (sub1 a (sub0 a ha))
      have hDp : h1.objs.size ∉ hO.prv := fun q => Nat.lt_irrefl _ (X1.prv _ (sub0 _ q)).2.2.1
      refine P h5 t5 μ5 h1.objs.size H2.objs.size m Ge X6 (.lst hD5 ⟨hDm, hDp⟩ hr6) (Nat.le_trans G1.size G2.size) hn ?_
      exact (F5.off _ F5.ownL).1
  exact codeAny_compStart_list walk (W.self _ _ _ hT3 walk)

theorem St.tab {C : Addr} {m : Str -> Option Value} {h' : Heap} (X : St prog w hO μ σ h) (hn : h.Ns C m) (nm : C ∉ μ) (nb : hO.get? C = none) (hs : Heap.SameBut C h h') : St prog w hO μ σ h' := by
  obtain ⟨o, es, ep, ho, hd, _⟩ := hn
  exact X.own (own := [C]) ⟨fun a ha => by rw [List.mem_singleton.mp ha]; exact ⟨o, ho, .inl ⟨es, ep, hd⟩⟩⟩ (fun a ha => by rw [List.mem_singleton.mp ha]; exact ⟨nm, nb⟩) List.mem_cons_self hs
theorem tab_own {C : Addr} {m : Str -> Option Value} (hn : h.Ns C m) : OwnOk [C] h := by
  obtain ⟨o, es, ep, ho, hd, _⟩ := hn
  exact ⟨fun a ha => by rw [List.mem_singleton.mp ha]; exact ⟨o, ho, .inl ⟨es, ep, hd⟩⟩⟩

theorem sndE_comp {elt target iter : Expr} {ifs : List Expr} {pos : Pos} {tt : Bool} {dI : DenI} {bind : AV -> Rho -> Option Rho} {ts : List String} {c : DenC} {d : Den}
    (B : Base hO K mg mb) (hi : SndI prog w n sc hO tt iter dI) (htt : tt = true -> ∃ es k pos, target = .Tuple es k pos) (ok : compOk scope sc = true) {fs : List String} (hfs : freeAll scope fs = true) (hT : TgtC prog w (rl scope sc) target ts bind) (hbo : BindOn ts bind) (hts : ts.all (kindB scope) = true)
    (hc : ∀ h₁, Base h₁ K mg mb -> SndT prog w h₁ n (rl scope sc) ifs c) (hd : ∀ h₁, Base h₁ K mg mb -> SndE prog w h₁ n (rl scope sc) elt d) (hf : ∀ env x, foldedSetIterable iter env x = pure x) :
    SndE prog w hO n sc (.ListComp elt [⟨target, iter, ifs, 0⟩] scope pos) (dComp fs dI bind c d) := by
  intro A ρ σ v σ' x s own μ Q E R e F X P
  rw [eval_ListComp]
  refine comp_core B hi htt ok hfs hT hbo hts hc hd hf R e F X fun h1 t1 μ1 D C m G1 X1 r1 hC hn nm => ?_
  have nb := base_none X hC
  refine ⟨m, hn, fun h' hs => P h' t1 μ1 _ ((G1.mono (own' := [C]) (fun a ha => (nomatch ha))).trans (grow_own List.mem_cons_self hs) |>.shrink fun a ha => by rw [List.mem_singleton.mp ha]; exact .inr (get_size _ hC)) (X1.tab hn nm nb hs) (r1.grow (grow_own (own := [C]) (μ := μ1) List.mem_cons_self hs) (tab_own hn))⟩

theorem FrOk.tab {C : Addr} {m : Str -> Option Value} {h' : Heap} (F : FrOk hO h env own μ ρ) (hn : h.Ns C m) (nm : C ∉ μ) (no : C ∉ own) (nc : ∀ y ca, env.cells.lookup (S y) = some ca -> ca ≠ C) (hs : Heap.SameBut C h h') : FrOk hO h' env own μ ρ := by
  have G : Grow [C] μ h μ h' := grow_own List.mem_cons_self hs
  have W := tab_own hn
  have ne : ∀ {a}, a ∈ own -> a ∉ [C] := fun q e => no (List.mem_singleton.mp e ▸ q)
  obtain ⟨m, ⟨o, es, ep, ho, r⟩, hm⟩ := F.ns
  refine ⟨⟨m, ⟨o, es, ep, G.keep _ o ho (F.off _ F.ownL).1 (ne F.ownL), r⟩, fun x v e q => ?_⟩, fun x v e q => ?_, F.ownL, ⟨fun a ha => ?_⟩, F.off, fun x ca e => ?_, F.offp, F.coffp, fun x ca e => ?_, F.inj, F.has⟩
  · obtain ⟨c, h1, h2⟩ := hm x v e q
    exact ⟨c, h1, h2.grow G W⟩
  · obtain ⟨ca, c, h1, ⟨oc, hoc, hd⟩, h3⟩ := F.cell x v e q
    exact ⟨ca, c, h1, ⟨oc, (hs.2 ca (nc x ca h1)).trans hoc, hd⟩, h3.grow G W⟩
  · obtain ⟨o2, e2, r2⟩ := F.data.has a ha
    exact ⟨o2, G.keep a o2 e2 (F.off a ha).1 (ne ha), r2⟩
  · exact ⟨(F.coff x ca e).1, Nat.lt_of_lt_of_le (F.coff x ca e).2 G.size⟩
  · obtain ⟨v₀, oc, hoc, hd⟩ := F.cok x ca e
    exact ⟨v₀, oc, (hs.2 ca (nc x ca e)).trans hoc, hd⟩

theorem sndS_comp {elt target iter : Expr} {ifs : List Expr} {y : String} {pos py spos : Pos} {tt : Bool} {dI : DenI} {bind : AV -> Rho -> Option Rho} {ts : List String} {c : DenC} {d : Den}
    (B : Base hO K mg mb) (hi : SndI prog w n sc hO tt iter dI) (htt : tt = true -> ∃ es k pos, target = .Tuple es k pos) (ok : compOk scope sc = true) {fs : List String} (hfs : freeAll scope fs = true) (hT : TgtC prog w (rl scope sc) target ts bind) (hbo : BindOn ts bind) (hts : ts.all (kindB scope) = true)
    (hc : ∀ h₁, Base h₁ K mg mb -> SndT prog w h₁ n (rl scope sc) ifs c) (hd : ∀ h₁, Base h₁ K mg mb -> SndE prog w h₁ n (rl scope sc) elt d) (hf : ∀ env x, foldedSetIterable iter env x = pure x)
    (hk : sc.kind = .function) (hl : kindOk sc y = true) (hsw : ∀ x : EP, swapsWith (.ListComp elt [⟨target, iter, ifs, 0⟩] scope pos) (some (.Name (Str.ofString y) py)) spos.line (x.env sc) = pure true) :
    SndS prog w hO n sc (.Assign [.Name (Str.ofString y) py] (.ListComp elt [⟨target, iter, ifs, 0⟩] scope pos) spos) (dsSet y (dComp fs dI bind c d)) := by
  intro A ρ σ f ρ' σ' x s own μ Q E R O e F X P
  refine bind2 e fun u σ0 e0 e => ?_
  have P := P.of e
  rw [exec_Assign_Name_used _ _ _ _ (hsw x)]
  refine wpAny_bind (wpAny_standAt (wpAny_bind ?_))
  show wpAny _ A (do let _ ← comprehension (.ListComp elt [⟨target, iter, ifs, 0⟩] scope pos) scope (x.env sc) _ (newList []) false (eval iter (x.env sc)) (some (assign (.Name (Str.ofString y) py) (x.env sc)))) _ _ s
  refine wpAny_bind ?_
  refine comp_core B hi htt ok hfs hT hbo hts hc hd hf R e0 F X fun h1 t1 μ1 D C m G1 X1 r1 hC hn nm => ?_
  have nb := base_none X hC
  have F1 := F.grow G1
  have no : C ∉ own := fun q => Nat.not_lt.mpr hC (F.data.lt q)
  have nc : ∀ z ca, (x.env sc).cells.lookup (S z) = some ca -> ca ≠ C := fun z ca q e => Nat.not_lt.mpr hC (e ▸ (F.coff z ca q).2)
  show wpAny _ A (assign (.Name (Str.ofString y) py) (x.env sc) (.ref D)) _ _ _
  refine assign_Name (store_any (env := x.env sc) (s := { s with heap := h1, toks := t1 }) hk hl (O.on _) F1 X1 r1 fun h2 t2 G2 X2 F2 => ?_)
  have hn2 : h2.Ns C m := by
    obtain ⟨o, es, ep, ho, r⟩ := hn
    exact ⟨o, es, ep, G2.keep C o ho nm no, r⟩
  refine ⟨m, hn2, fun h' hs => wpAny_pure (wpAny_pure ?_)⟩
  exact P h' t2 μ1 (((G1.up.trans G2).mono (own' := C :: own) (fun a ha => List.mem_cons_of_mem _ ha)).trans (grow_own List.mem_cons_self hs) |>.shrink fun a ha => by
    rcases List.mem_cons.mp ha with q | q
    · rw [q]; exact .inr (get_size _ hC)
    · exact .inl q) (X2.tab hn2 nm nb hs) (F2.tab hn2 nm no nc hs)
end
end
section
noncomputable def oNot (a : AV) (σ : List AObj) : Option (AV × List AObj) := match a with
  | .bool b => some (.bool (!b), σ)
  | _ => none
noncomputable def cChain (f g : AV -> AV -> List AObj -> Option (AV × List AObj)) (a b c : Den) : DenC := fun ρ σ => (a ρ σ).bind fun p => (b ρ p.2).bind fun q => (f p.1 q.1 q.2).bind fun r => match r.1 with
  | .bool true => (c ρ r.2).bind fun u => (g q.1 u.1 u.2).bind fun v => match v.1 with | .bool y => some (y, v.2) | _ => none
  | .bool false => some (false, r.2)
  | _ => none
noncomputable def iStr (d : Den) : DenI := fun ρ σ => (d ρ σ).bind fun p => match p.1 with
  | .str s => if (S s).cps.all (· < 128) = true then some (s.toList.map fun c => .str (String.singleton c), none, p.2) else none
  | _ => none

section
variable {prog : Program} {w : World} {hO h₁ : HB} {h : Heap} {n : Nat} {sc : Scope} {mg mb : Str -> Option Value} {K : Frag} {μ own : List Addr} {σ : List AObj} {env : Env} {ρ : Rho}

set_option tactic.hygienic true in
theorem s_not : Snd1 prog w hO n (unaryOp .Not) oNot := by
  intro A a ca σ v σ' s μ Q E R e ra X P
  cases ra <;> try cases e
  rename_i b
  unfold unaryOp
  refine wpAny_holding ?_
  show wpAny _ _ (do let b ← truthy (.bool b); pure (Value.bool (!b))) _ _ _
  exact wpAny_bind (wpAny_truthy_bool (wpAny_pure (P _ _ μ _ (.refl _ _ _) X (.bool _))))
set_option tactic.hygienic true in
theorem sndC_chain {l r₁ r₂ : Expr} {op op' : CmpOp} {pos : Pos} {f g} {a b c : Den} (ha : SndE prog w hO n sc l a) (hb : SndE prog w hO n sc r₁ b) (hc : SndE prog w hO n sc r₂ c) (hf : Snd2 prog w hO n (compareOp op) f) (hg : Snd2 prog w hO n (compareOp op') g) (hm : lastMarks [op, op'] [r₁, r₂] = false) :
    SndC prog w hO n sc (.Compare l [op, op'] [r₁, r₂] pos) (cChain f g a b c) := by
  intro A ρ σ u σ' x s own μ Q E R e F X P
  refine bind2 e fun p1 σ1 e1 e => ?_
  refine bind2 e fun p2 σ2 e2 e => ?_
  refine bind2 e fun p3 σ3 e3 e => ?_
  refine isTrue_chain (ha _ _ _ _ _ x s own μ _ _ R e1 F X fun h1 t1 μ1 c1 G1 X1 r1 => ?_) hm
  refine test_link (hb _ _ _ _ _ x _ own μ1 _ _ R e2 (F.grow G1) X1 fun h2 t2 μ2 c2 G2 X2 r2 => ?_)
  refine hf _ _ _ _ _ _ _ _ _ μ2 _ _ R e3 (r1.grow G2 (.nil _)) r2 X2 fun h3 t3 μ3 c3 G3 X3 r3 => ?_
  cases p3 <;> try exact no e
  rename_i bb
  apply r3.eBool
  refine wpAny_truthy_bool ?_
  cases bb with
  | false => have P := P.of e; exact P _ _ _ ((G1.trans G2).trans G3) X3
  | true =>
    rw [if_pos rfl]
    dsimp only at e
    refine bind2 e fun p4 σ4 e4 e => ?_
    refine bind2 e fun p5 σ5 e5 e => ?_
    refine test_last (hc _ _ _ _ _ x _ own μ3 _ _ R e4 (((F.grow G1).grow G2).grow G3) X3 fun h4 t4 μ4 c4 G4 X4 r4 => ?_)
    refine hg _ _ _ _ _ _ _ _ _ μ4 _ _ R e5 ((r2.grow G3 (.nil _)).grow G4 (.nil _)) r4 X4 fun h5 t5 μ5 c5 G5 X5 r5 => ?_
    cases p5 <;> try cases e
    apply r5.eBool
    exact wpAny_truthy_bool (P _ _ _ ((((G1.trans G2).trans G3).trans G4).trans G5) X5)

theorem ofString_one (c : Char) : Str.ofString (String.singleton c) = ⟨#[c.toNat]⟩ := by
  rw [Str.ofString_eq_toList]; simp
set_option tactic.hygienic true in
theorem sndI_str {iter : Expr} {d : Den} (hd : SndE prog w hO n sc iter d) : SndI prog w n sc hO false iter (iStr d) := by
  intro target A ρ σ xs z σ1 x s own μ Q E _ R e F X P
  refine bind2 e fun v σ2 e1 e => ?_
  refine hd _ _ _ _ _ x s own μ _ _ R e1 F X fun h1 t1 μ1 c G1 X1 r1 => ?_
  have F1 := F.grow G1
  cases v <;> try exact no e
  rename_i y
  apply r1.eStr; intro t
  · dsimp only at e
    split at e
    rotate_left
    · exact no e
    rename_i ha
    cases e
    refine wpAny_pyIter_ascii (s := { s with heap := h1, toks := t1 }) ha ?_
    obtain ⟨X2, F2⟩ := hide1 X1 F1 { cls := .type "str_ascii_iterator", data := .fields #[.str (S y) t, .int 0 0] }
    have cps : (S y).cps = (y.toList.map Char.toNat).toArray := by unfold S; rw [Str.ofString_eq_toList]
    have vr : ∀ {pv μ h} (l : List Char), VRels pv μ h (l.map fun c => AV.str (String.singleton c)) (l.map fun c => Value.str (S (String.singleton c)) 0) := fun {pv μ h} l => by
      induction l with
      | nil => exact .nil
      | cons c r ih => exact .cons (.str _ _) ih
    refine P _ t1 μ1 h1.objs.size [h1.objs.size] [] [] _ (y.toList.map fun c => .str (S (String.singleton c)) 0) _ (G1.push _) (fun b hb => ?_) X2 F2 (Wk.of_walks (Walks.strAscii R.1 h1.objs.size (S y) t) (by rw [cps]; simp) (fun i h st => ?_) (fun i v x pv μ h hp hx hv => ?_) (fun b hb => ?_)) ⟨_, Heap.get?_push_size _ rfl, rfl, rfl⟩ (fun p hp => (nomatch hp)) rfl (fun b hb => (nomatch hb)) (vr _)
    · rw [List.mem_singleton.mp hb]; exact none_of_grow G1 (Nat.le_refl _)
    · obtain ⟨o, e, c, _⟩ := st; exact ⟨o, _, e, c, by decide⟩
    · obtain ⟨c, u, hc, rfl⟩ := hp
      rw [cps] at hc
      rw [List.getElem?_map] at hx
      have hc : (y.toList.map Char.toNat)[i]? = some c := by simpa using hc
      rw [List.getElem?_map] at hc
      cases eq : y.toList[i]? with
      | none => rw [eq] at hx; cases hx
      | some ch =>
        rw [eq] at hx hc
        cases hx
        cases hc
        rw [← ofString_one]
        exact .str _ _
    · exact .inl (List.mem_singleton.mp hb)

def SndP (prog : Program) (w : World) (hO : HB) (n : Nat) (sc : Scope) (keys : List (Option Expr)) (values : List Expr) (ks : List String) (ds : DenL) : Prop :=
  ∀ (A : Around) (ρ : Rho) (σ : List AObj) (vs : List AV) (σ' : List AObj) (x : EP) (s : Shared) (own μ : List Addr) (pos : Pos) (Q : List (Value × Value) -> Shared -> Prop) (E : Value -> Shared -> Prop), Room n A -> ds ρ σ = some (vs, σ') ->
    FrOk hO s.heap (x.env sc) own μ ρ -> St prog w hO μ σ s.heap -> (∀ h' t' μ' cs kvs, Grow [] μ s.heap μ' h' -> St prog w hO μ' σ' h' -> Carries (PySem.strKind prog w) cs kvs -> vs.length = ks.length -> KVs S hO.prv μ' h' (ks.zip vs) kvs -> Q cs { s with heap := h', toks := t' }) ->
    wpAny (model prog w) A (evalPairs (pairTrees keys values (x.env sc) pos)) Q E s
theorem sndP_nil : SndP prog w hO n sc [] [] [] dNil := by
  intro A ρ σ vs σ' x s own μ pos Q E R e F X P
  cases e
  exact pairTrees_nil_walk (P s.heap s.toks μ [] [] (.refl _ _ _) X trivial rfl .nil)
theorem sndP_cons {y : String} {k : Nat} {kpos : Pos} {v : Expr} {keys : List (Option Expr)} {values : List Expr} {ks : List String} {d : Den} {ds : DenL} (hv : SndE prog w hO n sc v d) (hs : SndP prog w hO n sc keys values ks ds) : SndP prog w hO n sc (some (.Constant (.str (Str.ofString y)) k kpos) :: keys) (v :: values) (y :: ks) (dCons d ds) := by
  intro A ρ σ vs σ' x s own μ pos Q E R e F X P
  refine bind2 e fun u σ1 e1 e => ?_
  refine bind2 e fun us σ2 e2 e => ?_
  cases e
  refine pairTrees_cons_walk ?_
  refine (sndE_str (hO := hO) (n := n) (sc := sc)) _ ρ σ _ σ x s own μ _ _ R rfl F X fun h1 t1 μ1 c1 G1 X1 r1 => ?_
  refine hv _ _ _ _ _ x { s with heap := h1, toks := t1 } own μ1 _ _ R e1 (F.grow G1) X1 fun h2 t2 μ2 c2 G2 X2 r2 => ?_
  refine hs _ _ _ _ _ x { s with heap := h2, toks := t2 } own μ2 pos _ _ R e2 ((F.grow G1).grow G2) X2 fun h3 t3 μ3 cs kvs G3 X3 C hlen kv => ?_
  apply r1.eStr; intro t
  exact P h3 t3 μ3 _ ((S y, c2) :: kvs) ((G1.trans G2).trans G3) X3 ⟨strKind_is prog w (S y) _, rfl, C⟩ (by simp [hlen]) (.cons (r2.grow G3 (.nil _)) kv)
theorem merged_kvs {μ : List Addr} {h : Heap} {f : String -> Str} (hf : ∀ x y, f x = f y -> x = y) {m : List (String × AV)} {m' : List (Str × Value)} (r : KVs f hO.prv μ h m m') : ∀ {l : List (String × AV)} {l' : List (Str × Value)}, KVs f hO.prv μ h l l' -> KVs f hO.prv μ h (mergeKV l m) (merged l' m') := by
  induction r with
  | nil => exact id
  | cons rv _ ih => exact fun a => ih (KVs.put hf rv a)
theorem sndE_dictS {keys : List (Option Expr)} {values : List Expr} {pos : Pos} {ks : List String} {ds : DenL} (hp : SndP prog w hO n sc keys values ks ds) (hall : keys.all (·.isSome) = true) (hl : keys.length = values.length) (h0 : keys ≠ []) (hlen : keys.length ≤ 15) :
    SndE prog w hO n sc (.Dict keys values pos) (dDictS ks ds) := by
  intro A ρ σ v σ' x s own μ Q E R e F X P
  refine bind2 e fun vs σ1 e1 e => ?_
  have X1 := X.alloc (ob := { cls := .type "dict", data := .dict #[] }) (o := .sd []) rfl ⟨[], Heap.DictOf.new _, .nil⟩
  refine wpAny_Dict_walk (knd := PySem.strKind prog w) hall hl h0 hlen ?_
  have G0 : Grow [] μ s.heap (μ ++ [s.heap.objs.size]) (s.heap.push { cls := .type "dict", data := .dict #[] }) := grow_alloc _
  refine hp _ _ _ _ _ x { s with heap := s.heap.push { cls := .type "dict", data := .dict #[] } } own (μ ++ [s.heap.objs.size]) pos _ _ R e1 (F.grow G0) X1 fun h1 t1 μ1 cs kvs G1 X2 C hln kv => ?_
  dsimp only at e
  cases ho : σ1[σ.length]? with
  | none => rw [ho] at e; exact no e
  | some ob =>
    rw [ho] at e
    cases ob with
    | sd l0 =>
      cases l0 with
      | cons => exact no e
      | nil =>
        dsimp only at e
        rw [if_pos hln] at e
        have P := P.of e
        have hi : μ1[σ.length]? = some s.heap.objs.size := G1.at (by rw [← X.len]; exact List.getElem?_concat_length)
        obtain ⟨l, D, kl⟩ := X2.at hi ho
        cases kl
        have hfree := X2.free hi ho (by intro _ q; cases q)
        refine ⟨kvs, C, D, fun h' D' hs => ?_⟩
        have G2 := grow_set (List.mem_of_getElem? hi) hs
        have kv' := kv.grow G2 (.nil _)
        exact P h' _ μ1 _ ((G0.trans G1).trans G2) (X2.set hi hfree hs ⟨_, D', merged_kvs (fun V V z => S_inj z) kv' .nil⟩) (.obj hi)
    | _ => exact no e
theorem sndE_dictI {k v : Expr} {pos : Pos} {dk dv : Den} (hk : SndE prog w hO n sc k dk) (hv : SndE prog w hO n sc v dv) :
    SndE prog w hO n sc (.Dict [some k] [v] pos) (dDictI dk dv) := by
  intro A ρ σ u σ' x s own μ Q E R e F X P
  refine bind2 e fun a σ1 e1 e => ?_
  refine bind2 e fun b σ2 e2 e => ?_
  have X1 := X.alloc (ob := { cls := .type "dict", data := .dict #[] }) (o := .id []) rfl ⟨[], Heap.DictOf.new _, .nil⟩
  refine wpAny_Dict_walk (knd := intKind prog w) rfl rfl (by simp) (by simp) ?_
  have G0 : Grow [] μ s.heap (μ ++ [s.heap.objs.size]) (s.heap.push { cls := .type "dict", data := .dict #[] }) := grow_alloc _
  refine pairTrees_cons_walk ?_
  refine hk _ _ _ _ _ x { s with heap := s.heap.push { cls := .type "dict", data := .dict #[] } } own (μ ++ [s.heap.objs.size]) _ _ R e1 (F.grow G0) X1 fun h1 t1 μ1 c1 G1 X2 r1 => ?_
  refine hv _ _ _ _ _ x { s with heap := h1, toks := t1 } own μ1 _ _ R e2 ((F.grow G0).grow G1) X2 fun h2 t2 μ2 c2 G2 X3 r2 => pairTrees_nil_walk ?_
  cases a <;> try exact no e
  rename_i i _
  apply r1.eInt; intro tk
  dsimp only at e
  cases ho : σ2[σ.length]? with
  | none => rw [ho] at e; exact no e
  | some ob =>
    rw [ho] at e
    cases ob with
    | id l0 =>
      cases l0 with
      | cons => exact no e
      | nil =>
        have P := P.of e
        have hi : μ2[σ.length]? = some s.heap.objs.size := (G1.trans G2).at (by rw [← X.len]; exact List.getElem?_concat_length)
        obtain ⟨l, D, kl⟩ := X3.at hi ho
        cases kl
        have hfree := X3.free hi ho (by intro _ q; cases q)
        refine ⟨[(i, c2)], ⟨by simp [intKind, Value.isInt], rfl, trivial⟩, D, fun h' D' hs => ?_⟩
        have G3 := grow_set (List.mem_of_getElem? hi) hs
        exact P h' _ μ2 _ (((G0.trans G1).trans G2).trans G3) (X3.set hi hfree hs ⟨_, D', .cons (r2.grow G3 (.nil _)) .nil⟩) (.obj hi)
    | _ => exact no e
end
end
section
section
variable {prog : Program} {w : World} {hO h₁ : HB} {h : Heap} {n m : Nat} {sc : Scope} {mg mb : Str -> Option Value} {K : Frag} {μ own : List Addr} {σ : List AObj} {env : Env} {ρ : Rho}

theorem SndFc.mono {fv : Value} {f : DF} (H : SndFc prog w hO n fv f) (hn : n ≤ m) : SndFc prog w hO m fv f := fun A vs cs σ v σ' s μ R r => H A vs cs σ v σ' s μ R (r.mono hn)
theorem SndFc.up {fv : Value} {f : DF} (H : SndFc prog w hO n fv f) (hn : Nat.ble n m = true) : SndF prog w hO m fv f := (H.mono (Nat.le_of_ble_eq_true hn)).f
noncomputable def varB (sc : Scope) (y : Str) : Bool := sc.kind == .function && (sc.names.lookup y == some .local || sc.names.lookup y == some .cell || sc.names.lookup y == some .free) && !(y == ("__debug__" : Str)) && !(y == ("__classdict__" : Str))
theorem sndE_free {y : String} {pos : Pos} (hcd : (Str.ofString y == ("__classdict__" : Str)) = false) (hk : sc.kind = .function) (hl : sc.names.lookup (Str.ofString y) = some .free) (hd : (Str.ofString y == ("__debug__" : Str)) = false) : SndE prog w hO n sc (.Name (Str.ofString y) pos) (dLoc y) := by
  intro A ρ σ v σ' x s own μ Q E R e F X P
  obtain ⟨ey, rfl⟩ := loc_of e
  obtain ⟨ca, c, h1, h2, h3⟩ := F.cell y v ey (.inr hl)
  exact wpAny_Name (wpAny_loadName_free hk hl h1 h2 (P s.heap s.toks μ _ (.refl _ _ _) X h3) hcd) hd
theorem sndE_var {y : String} {pos : Pos} (hv : varB sc (S y) = true) : SndE prog w hO n sc (.Name (Str.ofString y) pos) (dLoc y) := by
  simp only [varB, Bool.and_eq_true, Bool.or_eq_true, beq_iff_eq, Bool.not_eq_true'] at hv
  obtain ⟨⟨⟨h1, h2⟩, h3⟩, h4⟩ := hv
  rcases h2 with (h2 | h2) | h2
  · exact sndE_loc h1 h2 h3
  · exact sndE_cell h1 h2 h3
  · exact sndE_free h4 h1 h2 h3

def KV (K : Frag) (v : AV) (c : Value) : Prop := ∀ (hO : HB) (mg mb : Str -> Option Value) (prog : Program) (w : World) (μ : List Addr) (σ : List AObj) (h : Heap), Base hO K mg mb -> St prog w hO μ σ h -> VRel hO.prv μ h v c
def KVL (K : Frag) (vs : List AV) (cs : List Value) : Prop := ∀ (hO : HB) (mg mb : Str -> Option Value) (prog : Program) (w : World) (μ : List Addr) (σ : List AObj) (h : Heap), Base hO K mg mb -> St prog w hO μ σ h -> VRels hO.prv μ h vs cs
theorem kv_nil : KVL K [] [] := fun V V V V V V V V V V => .nil
theorem kv_cons {v : AV} {c : Value} {vs : List AV} {cs : List Value} (a : KV K v c) (b : KVL K vs cs) : KVL K (v :: vs) (c :: cs) := fun hO mg mb p w μ σ h B X => .cons (a hO mg mb p w μ σ h B X) (b hO mg mb p w μ σ h B X)
theorem kv_int {i : Int} {t : Tok} : KV K (.int i) (.int i t) := fun V V V V V V V V V V => .int _ _
theorem kv_bool {b : Bool} : KV K (.bool b) (.bool b) := fun V V V V V V V V V V => .bool _
theorem kv_off (B : Base hO K mg mb) (X : St prog w hO μ σ h) {a : Addr} {o : Obj} (e : K.lookup a = some o) : Off hO.prv μ a :=
  ⟨fun q => Nat.lt_irrefl _ (Nat.lt_of_lt_of_le (B.low a o e) (X.nm a q)), fun q => Nat.lt_irrefl _ (Nat.lt_of_lt_of_le (B.low a o e) (X.prv a q).2.2.2)⟩
theorem kv_tup {a : Addr} {vs : List AV} {cs : List Value} {n : Nat} {d : Option Addr} {sl : Array (Option Value)} (e : K.lookup a = some ⟨.type "tuple", d, .seq cs.toArray n, sl⟩) (r : KVL K vs cs) : KV K (.tup vs) (.ref a) := fun hO mg mb p w μ σ h B X =>
  .tup ⟨_, B.kin X _ _ e, rfl, n, rfl⟩ (kv_off B X e) (r hO mg mb p w μ σ h B X)
theorem kv_lst {a : Addr} {vs : List AV} {cs : List Value} {n : Nat} {d : Option Addr} {sl : Array (Option Value)} (e : K.lookup a = some ⟨.type "list", d, .seq cs.toArray n, sl⟩) (r : KVL K vs cs) : KV K (.lst vs) (.ref a) := fun hO mg mb p w μ σ h B X =>
  .lst ⟨_, B.kin X _ _ e, rfl, n, rfl⟩ (kv_off B X e) (r hO mg mb p w μ σ h B X)
theorem sndE_const (B : Base hO K mg mb) {y : String} {c : Value} {v : AV} {pos : Pos} (hn : nameB sc .globalImplicit (S y) = true) (hc : globIn K (S y) = some (some c)) (hv : KV K v c) : SndE prog w hO n sc (.Name (Str.ofString y) pos) (dK v) := by
  obtain ⟨h1, h2, h3⟩ := nameB_of hn
  exact sndE_glob B h1 h2 h3 (B.mg_of hc) fun μ σ h X => hv hO mg mb prog w μ σ h B X
end
section
variable {prog : Program} {w : World} {hO : HB} {n : Nat} {sc : Scope}
def LenL (ds : DenL) (k : Nat) : Prop := ∀ ρ σ vs σ', ds ρ σ = some (vs, σ') -> vs.length = k
theorem len_nil : LenL dNil 0 := fun ρ σ vs σ' e => by cases e; rfl
theorem len_cons {d : Den} {ds : DenL} {k : Nat} (h : LenL ds k) : LenL (dCons d ds) (k + 1) := fun ρ σ vs σ' e => by
  refine bind2 e fun v σ1 e1 e => ?_
  refine bind2 e fun us σ2 e2 e => ?_
  cases e
  rw [List.length_cons, h _ _ _ _ e2]
theorem sndE_Tup {es : List Expr} {k m : Nat} {pos : Pos} {ds : DenL} (hs : SndL prog w hO n sc es ds) (hl : LenL ds m) (hm : es.length = m) (hz : Nat.ble m 1000 = true) : SndE prog w hO n sc (.Tuple es k pos) (dTup ds) :=
  sndE_tup hs (hm ▸ Nat.le_of_ble_eq_true hz) (hm ▸ hl)
theorem sndE_Lst {es : List Expr} {m : Nat} {pos : Pos} {ds : DenL} (hs : SndL prog w hO n sc es ds) (hl : LenL ds m) (hm : es.length = m) (hz : Nat.ble m 1000 = true) : SndE prog w hO n sc (.List es pos) (dLst ds) :=
  sndE_lst hs (hm ▸ Nat.le_of_ble_eq_true hz) (hm ▸ hl)
theorem sndE_LstM {es : List Expr} {m : Nat} {pos : Pos} {ds : DenL} (hs : SndL prog w hO n sc es ds) (hl : LenL ds m) (hm : es.length = m) (hz : Nat.ble m 1000 = true) : SndE prog w hO n sc (.List es pos) (dLstM ds) :=
  sndE_lstM hs (hm ▸ Nat.le_of_ble_eq_true hz) (hm ▸ hl)
end
noncomputable def plainE : Expr -> Bool
  | .Starred _ _ => false
  | _ => true
theorem star_plain {e : Expr} {es : List Expr} (h : plainE e = true) : ∀ env, starEach (e :: es) env = (false, eval e env) :: starEach es env := fun env => by
  cases e <;> first | rfl | cases h
theorem back_any {pos : Pos} {l : List (Bool × Sem Value)} : (backTo pos l).any (·.1) = l.any (·.1) := by
  unfold backTo
  rw [List.any_map]
  rfl
theorem any_plain {pos : Pos} : ∀ {es : List Expr} (h : es.all plainE = true), ∀ env, (backTo pos (starEach es env)).any (·.1) = false := fun {es} h env => by
  rw [back_any]
  induction es with
  | nil => rfl
  | cons e r ih =>
    rw [List.all_cons, Bool.and_eq_true] at h
    rw [star_plain h.1, List.any_cons, ih h.2]
    rfl
theorem name_shape {y : Str} {p pos : Pos} {args : List Expr} : CallShape (.Name y p) args pos := fun env => rfl
end
section
theorem pfst {α β : Type _} {a b : α × β} (h : a = b) : a.1 = b.1 := congrArg (·.1) h
theorem psnd {α β : Type _} {a b : α × β} (h : a = b) : a.2 = b.2 := congrArg (·.2) h
structure TE (prog : Program) (w : World) (hO : HB) (n : Nat) (sc : Scope) (e : Expr) (d : Den) : Prop where
  o : SndE prog w hO n sc e d
structure TC (prog : Program) (w : World) (hO : HB) (n : Nat) (sc : Scope) (e : Expr) (d : DenC) : Prop where
  o : SndC prog w hO n sc e d
structure TS (prog : Program) (w : World) (hO : HB) (n : Nat) (sc : Scope) (st : Stmt) (d : DenS) : Prop where
  o : SndS prog w hO n sc st d
structure TB (prog : Program) (w : World) (hO : HB) (n : Nat) (sc : Scope) (st : List Stmt) (d : DenS) : Prop where
  o : SndB prog w hO n sc st d
structure TL (prog : Program) (w : World) (hO : HB) (n : Nat) (sc : Scope) (es : List Expr) (d : DenL) : Prop where
  o : SndL prog w hO n sc es d
structure TT (prog : Program) (w : World) (hO : HB) (n : Nat) (sc : Scope) (ifs : List Expr) (c : DenC) : Prop where
  o : SndT prog w hO n sc ifs c
structure TI (prog : Program) (w : World) (n : Nat) (sc : Scope) (hO : HB) (tt : Bool) (iter : Expr) (dI : DenI) : Prop where
  o : SndI prog w n sc hO tt iter dI
structure TP (prog : Program) (w : World) (hO : HB) (n : Nat) (sc : Scope) (keys : List (Option Expr)) (values : List Expr) (ks : List String) (ds : DenL) : Prop where
  o : SndP prog w hO n sc keys values ks ds
section
variable {prog : Program} {w : World} {hO h₁ : HB} {h : Heap} {n m : Nat} {sc scope : Scope} {mg mb : Str -> Option Value} {K : Frag} {μ own : List Addr} {σ : List AObj} {env : Env} {ρ : Rho}
theorem tEv {y : String} {pos : Pos} (hcc : varB sc (S y) = true := by kernel_rfl) : TE prog w hO n sc (.Name (Str.ofString y) pos) (dLoc y) := ⟨sndE_var hcc⟩
theorem tE_const (B : Base hO K mg mb) {y : String} {c : Value} {v : AV} {pos : Pos} (hv : KV K v c) (hcc : (nameB sc .globalImplicit (S y), globIn K (S y)) = (true, some (some c)) := by kernel_rfl) : TE prog w hO n sc (.Name (Str.ofString y) pos) (dK v) := ⟨sndE_const B (pfst hcc) (psnd hcc) hv⟩
theorem tEt {es : List Expr} {k : Nat} {pos : Pos} {ds : DenL} (hs : TL prog w hO n sc es ds) (hl : LenL ds es.length := by repeat first | exact len_nil | apply len_cons) (hz : Nat.ble es.length 1000 = true := by rfl) : TE prog w hO n sc (.Tuple es k pos) (dTup ds) := ⟨sndE_Tup hs.o hl rfl hz⟩
theorem tE_Lst {es : List Expr} {pos : Pos} {ds : DenL} (hs : TL prog w hO n sc es ds) (hl : LenL ds es.length := by repeat first | exact len_nil | apply len_cons) (hz : Nat.ble es.length 1000 = true := by rfl) : TE prog w hO n sc (.List es pos) (dLst ds) := ⟨sndE_Lst hs.o hl rfl hz⟩
theorem tE_LstM {es : List Expr} {pos : Pos} {ds : DenL} (hs : TL prog w hO n sc es ds) (hl : LenL ds es.length := by repeat first | exact len_nil | apply len_cons) (hz : Nat.ble es.length 1000 = true := by rfl) : TE prog w hO n sc (.List es pos) (dLstM ds) := ⟨sndE_LstM hs.o hl rfl hz⟩
theorem tE_empty {pos : Pos} {o : AObj} (h : o = .sd [] ∨ o = .id [] ∨ o = .td []) : TE prog w hO n sc (.Dict [] [] pos) (dEmpty o) := ⟨sndE_empty h⟩
theorem tE_dictS {keys : List (Option Expr)} {values : List Expr} {pos : Pos} {ks : List String} {ds : DenL} (hp : TP prog w hO n sc keys values ks ds) (hall : keys.all (·.isSome) = true) (hl : keys.length = values.length) (h0 : keys ≠ []) (hlen : keys.length ≤ 15) : TE prog w hO n sc (.Dict keys values pos) (dDictS ks ds) := ⟨sndE_dictS hp.o hall hl h0 hlen⟩
theorem tE_dictI {k v : Expr} {pos : Pos} {dk dv : Den} (hk : TE prog w hO n sc k dk) (hv : TE prog w hO n sc v dv) : TE prog w hO n sc (.Dict [some k] [v] pos) (dDictI dk dv) := ⟨sndE_dictI hk.o hv.o⟩
theorem tP_nil  : TP prog w hO n sc [] [] [] dNil := ⟨sndP_nil ⟩
theorem tP_cons {y : String} {k : Nat} {kpos : Pos} {v : Expr} {keys : List (Option Expr)} {values : List Expr} {ks : List String} {d : Den} {ds : DenL} (hv : TE prog w hO n sc v d) (hs : TP prog w hO n sc keys values ks ds) : TP prog w hO n sc (some (.Constant (.str (Str.ofString y)) k kpos) :: keys) (v :: values) (y :: ks) (dCons d ds) := ⟨sndP_cons hv.o hs.o⟩
theorem tEb {l r : Expr} {op : Operator} {pos : Pos} {dl dr : Den} {f} (hl : TE prog w hO n sc l dl) (hr : TE prog w hO n sc r dr) (ho : Snd2 prog w hO n (binaryOp op) f) : TE prog w hO n sc (.BinOp l op r pos) (d2 f dl dr) := ⟨sndE_bin hl.o hr.o ho⟩
theorem tE_un {e : Expr} {op : UnaryOp} {pos : Pos} {d : Den} {f} (he : TE prog w hO n sc e d) (ho : Snd1 prog w hO n (unaryOp op) f) : TE prog w hO n sc (.UnaryOp op e pos) (d1 f d) := ⟨sndE_un he.o ho⟩
theorem tE_cmp {l r : Expr} {op : CmpOp} {pos : Pos} {dl dr : Den} {f} (hl : TE prog w hO n sc l dl) (hr : TE prog w hO n sc r dr) (ho : Snd2 prog w hO n (compareOp op) f) (hcc : behindInMarks op r = false := by kernel_rfl) : TE prog w hO n sc (.Compare l [op] [r] pos) (d2 f dl dr) := ⟨sndE_cmp hl.o hr.o ho hcc⟩
theorem tE_bool1 {op : BoolOp} {e : Expr} {pos : Pos} {d : Den} (he : TE prog w hO n sc e d) : TE prog w hO n sc (.BoolOp op [e] pos) d := ⟨sndE_bool1 he.o⟩
theorem tE_and {e e2 : Expr} {r : List Expr} {pos : Pos} {c cr : Den} (he : TE prog w hO n sc e c) (hr : TE prog w hO n sc (.BoolOp .And (e2 :: r) pos) cr) : TE prog w hO n sc (.BoolOp .And (e :: e2 :: r) pos) (dAnd c cr) := ⟨sndE_and he.o hr.o⟩
theorem tE_or {e e2 : Expr} {r : List Expr} {pos : Pos} {c cr : Den} (he : TE prog w hO n sc e c) (hr : TE prog w hO n sc (.BoolOp .Or (e2 :: r) pos) cr) : TE prog w hO n sc (.BoolOp .Or (e :: e2 :: r) pos) (dOr c cr) := ⟨sndE_or he.o hr.o⟩
theorem tE_if {t a b : Expr} {pos : Pos} {c : DenC} {da db : Den} (ht : TC prog w hO n sc t c) (ha : TE prog w hO n sc a da) (hb : TE prog w hO n sc b db) : TE prog w hO n sc (.IfExp t a b pos) (dIf c da db) := ⟨sndE_if ht.o ha.o hb.o⟩
theorem tE_from {value u : Expr} {p pos : Pos} {dv du : Den} (hv : TE prog w hO n sc value dv) (hu : TE prog w hO n sc u du) : TE prog w hO n sc (.Subscript value (.Slice (some u) none none p) pos) (d2 oFrom dv du) := ⟨sndE_from hv.o hu.o⟩
theorem tE_to {value u : Expr} {p pos : Pos} {dv du : Den} (hv : TE prog w hO n sc value dv) (hu : TE prog w hO n sc u du) : TE prog w hO n sc (.Subscript value (.Slice none (some u) none p) pos) (d2 oTo dv du) := ⟨sndE_to hv.o hu.o⟩
theorem tEs {value slice : Expr} {pos : Pos} {dv dk : Den} (hv : TE prog w hO n sc value dv) (hk : TE prog w hO n sc slice dk) (hs : ∀ o i, subscripted slice false o i = operate [o, i] (getItem o i) := by intros; rfl) : TE prog w hO n sc (.Subscript value slice pos) (d2 oGet dv dk) := ⟨sndE_sub hv.o hk.o hs⟩
theorem tEa {mg mb : Str -> Option Value} {K : Frag} {C : Addr} {y : String} {value : Expr} {pos : Pos} {d : Den} (B : Base hO K mg mb) (hv : TE prog w hO n sc value d) (he : ∀ env, eval (.Attribute value (Str.ofString y) pos) env = (do
      let o ← eval value env
      standAt pos.atName
      let r ← holding [o] (getAttr o (Str.ofString y) true)
      letTemporaryGo value o r
      pure r) := by intros; rfl) (hcc : getOk K C (S y) = true := by kernel_rfl) : TE prog w hO n sc (.Attribute value (Str.ofString y) pos) (d1 (oAttr C y) d) := ⟨sndE_attr B hv.o hcc he⟩
theorem tE_comp {elt target iter : Expr} {ifs : List Expr} {pos : Pos} {tt : Bool} {dI : DenI} {bind : AV -> Rho -> Option Rho} {ts : List String} {c : DenC} {d : Den} (B : Base hO K mg mb) (hi : TI prog w n sc hO tt iter dI) (htt : tt = true -> ∃ es k pos, target = .Tuple es k pos) {fs : List String} (hT : TgtC prog w (rl scope sc) target ts bind) (hbo : BindOn ts bind) (hc : ∀ h₁, Base h₁ K mg mb -> TT prog w h₁ n (rl scope sc) ifs c) (hd : ∀ h₁, Base h₁ K mg mb -> TE prog w h₁ n (rl scope sc) elt d) (hf : ∀ env x, foldedSetIterable iter env x = pure x := by intros; rfl) (hcc : (compOk scope sc, freeAll scope fs, ts.all (kindB scope)) = (true, true, true) := by kernel_rfl) : TE prog w hO n sc (.ListComp elt [⟨target, iter, ifs, 0⟩] scope pos) (dComp fs dI bind c d) := ⟨sndE_comp B hi.o htt (pfst hcc) (pfst (psnd hcc)) hT hbo (psnd (psnd hcc)) (fun h B => (hc h B).o) (fun h B => (hd h B).o) hf⟩
theorem tE_isT (B : Base hO K mg mb) {T : String} {p p2 pos : Pos} {e : Expr} {d : Den} (hd : TE prog w hO n sc e d) (hcc : (nameB sc .globalImplicit (S "isinstance"), globIn K (S "isinstance"), nameB sc .globalImplicit (S T), globIn K (S T), bootBuiltins (S "isinstance"), bootBuiltins (S T), decide (S "isinstance" = ("__name__" : Str)), decide (S T = ("__name__" : Str)), plainE e) = (true, some none, true, some none, some (.builtin "isinstance"), some (.type T), false, false, true) := by kernel_rfl) : TE prog w hO n sc (.Call (.Name (Str.ofString "isinstance") p) [e, .Name (Str.ofString T) p2] [] pos) (dIsT T d) := ⟨sndE_isT B (pfst hcc) (pfst (psnd hcc)) (pfst (psnd (psnd hcc))) (pfst (psnd (psnd (psnd hcc)))) (pfst (psnd (psnd (psnd (psnd hcc))))) (pfst (psnd (psnd (psnd (psnd (psnd hcc)))))) (of_decide_eq_false (pfst (psnd (psnd (psnd (psnd (psnd (psnd hcc)))))))) (of_decide_eq_false (pfst (psnd (psnd (psnd (psnd (psnd (psnd (psnd hcc))))))))) hd.o (star_plain (psnd (psnd (psnd (psnd (psnd (psnd (psnd (psnd hcc))))))))) name_shape⟩
theorem tE_bcall (B : Base hO K mg mb) {y id : String} {p pos : Pos} {e : Expr} {rest : List Expr} {f : DF} {ds : DenL} (ha : TL prog w hO n sc (e :: rest) ds) (hf : SndF prog w hO n (.builtin id) f) (hcc : (nameB sc .globalImplicit (S y), globIn K (S y), bootBuiltins (S y), decide (S y = ("__name__" : Str)), plainE e, (rest : List Expr).all plainE) = (true, some none, some (.builtin id), false, true, true) := by kernel_rfl) : TE prog w hO n sc (.Call (.Name (Str.ofString y) p) (e :: rest) [] pos) (dCall f ds) := ⟨sndE_bcall B (pfst hcc) (pfst (psnd hcc)) (pfst (psnd (psnd hcc))) (of_decide_eq_false (pfst (psnd (psnd (psnd hcc))))) ha.o hf (star_plain (pfst (psnd (psnd (psnd (psnd hcc)))))) (any_plain (psnd (psnd (psnd (psnd (psnd hcc)))))) name_shape⟩
theorem tE_tcall (B : Base hO K mg mb) {y T : String} {p pos : Pos} {e : Expr} {rest : List Expr} {f : DF} {ds : DenL} (ha : TL prog w hO n sc (e :: rest) ds) (hf : SndF prog w hO n (.type T) f) (hcc : (nameB sc .globalImplicit (S y), globIn K (S y), bootBuiltins (S y), decide (S y = ("__name__" : Str)), plainE e, (rest : List Expr).all plainE) = (true, some none, some (.type T), false, true, true) := by kernel_rfl) : TE prog w hO n sc (.Call (.Name (Str.ofString y) p) (e :: rest) [] pos) (dCall f ds) := ⟨sndE_tcall B (pfst hcc) (pfst (psnd hcc)) (pfst (psnd (psnd hcc))) (of_decide_eq_false (pfst (psnd (psnd (psnd hcc))))) ha.o hf (star_plain (pfst (psnd (psnd (psnd (psnd hcc)))))) (any_plain (psnd (psnd (psnd (psnd (psnd hcc)))))) name_shape⟩
theorem tEc (B : Base hO K mg mb) {y : String} {p pos : Pos} {e : Expr} {rest : List Expr} {a : Addr} {f : DF} {ds : DenL} (ha : TL prog w hO n sc (e :: rest) ds) (hf : SndF prog w hO n (.ref a) f) (hcc : (nameB sc .globalImplicit (S y), globIn K (S y), keepIn K (.ref a), plainE e, (rest : List Expr).all plainE) = (true, some (some (.ref a)), true, true, true) := by kernel_rfl) : TE prog w hO n sc (.Call (.Name (Str.ofString y) p) (e :: rest) [] pos) (dCall f ds) := ⟨sndE_call B (pfst hcc) (pfst (psnd hcc)) (pfst (psnd (psnd hcc))) ha.o hf (star_plain (pfst (psnd (psnd (psnd hcc))))) (any_plain (psnd (psnd (psnd (psnd hcc))))) name_shape⟩
theorem tE_call0 (B : Base hO K mg mb) {y : String} {p pos : Pos} {a : Addr} {f : DF} (hf : SndF prog w hO n (.ref a) f) (hcc : (nameB sc .globalImplicit (S y), globIn K (S y), keepIn K (.ref a)) = (true, some (some (.ref a)), true) := by kernel_rfl) : TE prog w hO n sc (.Call (.Name (Str.ofString y) p) [] [] pos) (dCall f dNil) := ⟨sndE_call0 B (pfst hcc) (pfst (psnd hcc)) (psnd (psnd hcc)) hf name_shape⟩
theorem tE_meth {o e : Expr} {rest : List Expr} {name : Str} {apos pos : Pos} {id : String} {g f} {d : Den} {ds : DenL} {pl : Env -> Sem Bool} (ho : TE prog w hO n sc o d) (ha : TL prog w hO n sc (e :: rest) ds) (hm : SndM prog w hO name id g) (hf : SndF prog w hO n (.builtin id) f) (hx : ∀ env, eval (.Call (.Attribute o name apos) (e :: rest) [] pos) env = (do
      let ov ← eval o env
      standAt apos.atName
      let (f, first) ← holding [ov] (getMethod ov name (pl env))
      callWith pos f first (backTo pos (starEach (e :: rest) env)) []) := by intros; rfl) (hcc : (plainE e, (rest : List Expr).all plainE) = (true, true) := by kernel_rfl) : TE prog w hO n sc (.Call (.Attribute o name apos) (e :: rest) [] pos) (dMeth g f d ds) := ⟨sndE_meth ho.o ha.o hm hf (star_plain (pfst hcc)) (any_plain (psnd hcc)) hx⟩
theorem tE_own (B : Base hO K mg mb) {C f : Addr} {name : String} {o e : Expr} {rest : List Expr} {apos pos : Pos} {g : DF} {d : Den} {ds : DenL} {pl : Env -> Sem Bool} (ho : TE prog w hO n sc o d) (ha : TL prog w hO n sc (e :: rest) ds) (hf : SndF prog w hO n (.ref f) g) (hx : ∀ env, eval (.Call (.Attribute o (Str.ofString name) apos) (e :: rest) [] pos) env = (do
      let ov ← eval o env
      standAt apos.atName
      let (f, first) ← holding [ov] (getMethod ov (Str.ofString name) (pl env))
      callWith pos f first (backTo pos (starEach (e :: rest) env)) []) := by intros; rfl) (hcc : (methB K C f (S name), plainE e, (rest : List Expr).all plainE) = (true, true, true) := by kernel_rfl) : TE prog w hO n sc (.Call (.Attribute o (Str.ofString name) apos) (e :: rest) [] pos) (dMeth (ownOk C name) g d ds) := ⟨sndE_own B (pfst hcc) ho.o ha.o hf (star_plain (pfst (psnd hcc))) (any_plain (psnd (psnd hcc))) hx⟩
theorem tE_own0 (B : Base hO K mg mb) {C f : Addr} {name : String} {o : Expr} {apos pos : Pos} {g : DF} {d : Den} {pl : Env -> Sem Bool} (ho : TE prog w hO n sc o d) (hf : SndF prog w hO n (.ref f) g) (hx : ∀ env, eval (.Call (.Attribute o (Str.ofString name) apos) [] [] pos) env = (do
      let ov ← eval o env
      standAt apos.atName
      let (f, first) ← holding [ov] (getMethod ov (Str.ofString name) (pl env))
      callWith pos f first (backTo pos (starEach [] env)) []) := by intros; rfl) (hcc : methB K C f (S name) = true := by kernel_rfl) : TE prog w hO n sc (.Call (.Attribute o (Str.ofString name) apos) [] [] pos) (dMeth (ownOk C name) g d dNil) := ⟨sndE_own0 B hcc ho.o hf hx⟩
theorem tEi {i : Int} {k : Nat} {pos : Pos} : TE prog w hO n sc (.Constant (.int i) k pos) (dK (.int i)) := ⟨sndE_int ⟩
theorem tE_str {y : String} {k : Nat} {pos : Pos} : TE prog w hO n sc (.Constant (.str (Str.ofString y)) k pos) (dK (.str y)) := ⟨sndE_str ⟩
theorem tE_bool {b : Bool} {k : Nat} {pos : Pos} : TE prog w hO n sc (.Constant (.bool b) k pos) (dK (.bool b)) := ⟨sndE_bool ⟩
theorem tE_none {k : Nat} {pos : Pos} : TE prog w hO n sc (.Constant .none k pos) (dK .none) := ⟨sndE_none ⟩
theorem tC_cmp {l r : Expr} {op : CmpOp} {pos : Pos} {dl dr : Den} {f} (hl : TE prog w hO n sc l dl) (hr : TE prog w hO n sc r dr) (ho : Snd2 prog w hO n (compareOp op) f) (hcc : behindInMarks op r = false := by kernel_rfl) : TC prog w hO n sc (.Compare l [op] [r] pos) (cVal (d2 f dl dr)) := ⟨sndC_cmp hl.o hr.o ho hcc⟩
theorem tC_chain {l r₁ r₂ : Expr} {op op' : CmpOp} {pos : Pos} {f g} {a b c : Den} (ha : TE prog w hO n sc l a) (hb : TE prog w hO n sc r₁ b) (hc : TE prog w hO n sc r₂ c) (hf : Snd2 prog w hO n (compareOp op) f) (hg : Snd2 prog w hO n (compareOp op') g) (hcc : lastMarks [op, op'] [r₁, r₂] = false := by kernel_rfl) : TC prog w hO n sc (.Compare l [op, op'] [r₁, r₂] pos) (cChain f g a b c) := ⟨sndC_chain ha.o hb.o hc.o hf hg hcc⟩
theorem tC_not {e : Expr} {pos : Pos} {c : DenC} (he : TC prog w hO n sc e c) : TC prog w hO n sc (.UnaryOp .Not e pos) (cNot c) := ⟨sndC_not he.o⟩
theorem tC_and {e : Expr} {r : List Expr} {pos : Pos} {c cr : DenC} (he : TC prog w hO n sc e c) (hr : TC prog w hO n sc (.BoolOp .And r pos) cr) : TC prog w hO n sc (.BoolOp .And (e :: r) pos) (cAnd c cr) := ⟨sndC_and he.o hr.o⟩
theorem tC_or {e : Expr} {r : List Expr} {pos : Pos} {c cr : DenC} (he : TC prog w hO n sc e c) (hr : TC prog w hO n sc (.BoolOp .Or r pos) cr) : TC prog w hO n sc (.BoolOp .Or (e :: r) pos) (cOr c cr) := ⟨sndC_or he.o hr.o⟩
theorem tC_and0 {pos : Pos} : TC prog w hO n sc (.BoolOp .And [] pos) cTrue := ⟨sndC_and0 ⟩
theorem tC_or0 {pos : Pos} : TC prog w hO n sc (.BoolOp .Or [] pos) cFalse := ⟨sndC_or0 ⟩
theorem tC_val {e : Expr} {d : Den} (he : TE prog w hO n sc e d) (hp : ∀ (env : Env) (whole : Sem Value), PySem.isTrue e env whole = (do let v ← whole; standAt (Expr.pos e); holding [v] (truthy v)) := by intros; rfl) : TC prog w hO n sc e (cVal d) := ⟨sndC_val he.o hp⟩
theorem tI_range (B : Base hO K mg mb) {p pos : Pos} {e : Expr} {d : Den} (hd : TE prog w hO n sc e d) (hcc : (nameB sc .globalImplicit (S "range"), globIn K (S "range"), bootBuiltins (S "range"), decide (S "range" = ("__name__" : Str)), plainE e) = (true, some none, some (.type "range"), false, true) := by kernel_rfl) : TI prog w n sc hO false (.Call (.Name (Str.ofString "range") p) [e] [] pos) (iRange d) := ⟨sndI_range B (pfst hcc) (pfst (psnd hcc)) (pfst (psnd (psnd hcc))) (of_decide_eq_false (pfst (psnd (psnd (psnd hcc))))) hd.o (star_plain (psnd (psnd (psnd (psnd hcc))))) name_shape⟩
theorem tI_zip (B : Base hO K mg mb) {p pos : Pos} {e1 e2 : Expr} {d1 d2 : Den} (hd1 : TE prog w hO n sc e1 d1) (hd2 : TE prog w hO n sc e2 d2) (hcc : (nameB sc .globalImplicit (S "zip"), globIn K (S "zip"), bootBuiltins (S "zip"), decide (S "zip" = ("__name__" : Str)), plainE e1, plainE e2, ([e2] : List Expr).all plainE) = (true, some none, some (.type "zip"), false, true, true, true) := by kernel_rfl) : TI prog w n sc hO true (.Call (.Name (Str.ofString "zip") p) [e1, e2] [] pos) (iZip d1 d2) := ⟨sndI_zip B (pfst hcc) (pfst (psnd hcc)) (pfst (psnd (psnd hcc))) (of_decide_eq_false (pfst (psnd (psnd (psnd hcc))))) hd1.o hd2.o (star_plain (pfst (psnd (psnd (psnd (psnd hcc)))))) (star_plain (pfst (psnd (psnd (psnd (psnd (psnd hcc))))))) (any_plain (psnd (psnd (psnd (psnd (psnd (psnd hcc))))))) name_shape⟩
theorem tI_seq {iter : Expr} {d : Den} (hd : TE prog w hO n sc iter d) : TI prog w n sc hO false iter (iSeq d) := ⟨sndI_seq hd.o⟩
theorem tI_dict {iter : Expr} {d : Den} (hd : TE prog w hO n sc iter d) : TI prog w n sc hO false iter (iDict d) := ⟨sndI_dict hd.o⟩
theorem tI_str {iter : Expr} {d : Den} (hd : TE prog w hO n sc iter d) : TI prog w n sc hO false iter (iStr d) := ⟨sndI_str hd.o⟩
theorem tT_nil  : TT prog w hO n sc [] cTrue := ⟨sndT_nil ⟩
theorem tT_one {e : Expr} {c : DenC} (he : TC prog w hO n sc e c) : TT prog w hO n sc [e] c := ⟨sndT_one he.o⟩
theorem tLn  : TL prog w hO n sc [] dNil := ⟨sndL_nil ⟩
theorem tLc {e : Expr} {es : List Expr} {d : Den} {ds : DenL} (he : TE prog w hO n sc e d) (hs : TL prog w hO n sc es ds) (hcc : plainE e = true := by kernel_rfl) : TL prog w hO n sc (e :: es) (dCons d ds) := ⟨sndL_cons he.o hs.o (star_plain hcc)⟩
theorem tBn  : TB prog w hO n sc [] dsNil := ⟨sndB_nil ⟩
theorem tBc {st : Stmt} {r : List Stmt} {a b : DenS} (ha : TS prog w hO n sc st a) (hb : TB prog w hO n sc r b) : TB prog w hO n sc (st :: r) (dsSeq a b) := ⟨sndB_cons ha.o hb.o⟩
theorem tS_fail {st : Stmt} : TS prog w hO n sc st dsFail := ⟨sndS_fail ⟩
theorem tS_if {t : Expr} {a b : List Stmt} {pos : Pos} {c : DenC} {da db : DenS} (ht : TC prog w hO n sc t c) (ha : TB prog w hO n sc a da) (hb : TB prog w hO n sc b db) : TS prog w hO n sc (.If t a b pos) (dsIf c da db) := ⟨sndS_if ht.o ha.o hb.o⟩
theorem tSr {e : Expr} {pos : Pos} {d : Den} (he : TE prog w hO n sc e d) : TS prog w hO n sc (.Return (some e) pos) (dsRet d) := ⟨sndS_ret he.o⟩
theorem tS_expr {e : Expr} {pos : Pos} {d : Den} (he : TE prog w hO n sc e d) (hs : ∀ env, swapsWith e none pos.line env = pure false := by intros; rfl) (hcc : sc.kind = .function := by kernel_rfl) : TS prog w hO n sc (.Expr e pos) (dsExpr d) := ⟨sndS_expr he.o hcc hs⟩
theorem tS_while {test : Expr} {body : List Stmt} {pos : Pos} {fuel : Rho -> Nat} {c : DenC} {b : DenS} (hc : TC prog w hO n sc test c) (hb : TB prog w hO n sc body b) : TS prog w hO n sc (.While test body [] pos) (dsWhile fuel c b) := ⟨sndS_while hc.o hb.o⟩
theorem tS_for (B : Base hO K mg mb) {target iter : Expr} {body : List Stmt} {pos : Pos} {dI : DenI} {bind : AV -> Rho -> Option Rho} {d : DenS} {tt : Bool} (hi : TI prog w n sc hO tt iter dI) (ht : tt = true -> ∃ es k pos, target = .Tuple es k pos) {lo : Bool} (hT : Tgt prog w sc lo target bind) (hB : ∀ h₁, Base h₁ K mg mb -> TB prog w h₁ n sc body d) (hf : ∀ env x, foldedSetIterable iter env x = pure x := by intros; rfl) : TS prog w hO n sc (.For target iter body [] pos) (dsFor dI bind d) := ⟨sndS_for B hi.o ht hT (fun h B => (hB h B).o) hf⟩
theorem tS_set {y : String} {pos' pos : Pos} {value : Expr} {d : Den} (hv : TE prog w hO n sc value d) (hs : ∀ env, swapsWith value (some (.Name (Str.ofString y) pos')) pos.line env = pure false := by intros; rfl) (hcc : (sc.kind, kindOk sc y) = (.function, true) := by kernel_rfl) : TS prog w hO n sc (.Assign [.Name (Str.ofString y) pos'] value pos) (dsSet y d) := ⟨sndS_set hv.o (pfst hcc) (psnd hcc) hs⟩
theorem tS_comp {elt target iter : Expr} {ifs : List Expr} {y : String} {pos py spos : Pos} {tt : Bool} {dI : DenI} {bind : AV -> Rho -> Option Rho} {ts : List String} {c : DenC} {d : Den} (B : Base hO K mg mb) (hi : TI prog w n sc hO tt iter dI) (htt : tt = true -> ∃ es k pos, target = .Tuple es k pos) {fs : List String} (hT : TgtC prog w (rl scope sc) target ts bind) (hbo : BindOn ts bind) (hc : ∀ h₁, Base h₁ K mg mb -> TT prog w h₁ n (rl scope sc) ifs c) (hd : ∀ h₁, Base h₁ K mg mb -> TE prog w h₁ n (rl scope sc) elt d) (hf : ∀ env x, foldedSetIterable iter env x = pure x := by intros; rfl) (hsw : ∀ x : EP, swapsWith (.ListComp elt [⟨target, iter, ifs, 0⟩] scope pos) (some (.Name (Str.ofString y) py)) spos.line (x.env sc) = pure true := by exact fun V => by kernel_rfl) (hcc : (compOk scope sc, freeAll scope fs, ts.all (kindB scope), sc.kind, kindOk sc y) = (true, true, true, .function, true) := by kernel_rfl) : TS prog w hO n sc (.Assign [.Name (Str.ofString y) py] (.ListComp elt [⟨target, iter, ifs, 0⟩] scope pos) spos) (dsSet y (dComp fs dI bind c d)) := ⟨sndS_comp B hi.o htt (pfst hcc) (pfst (psnd hcc)) hT hbo (pfst (psnd (psnd hcc))) (fun h B => (hc h B).o) (fun h B => (hd h B).o) hf (pfst (psnd (psnd (psnd hcc)))) (psnd (psnd (psnd (psnd hcc)))) hsw⟩
theorem tS_attr {mg mb : Str -> Option Value} {K : Frag} {C : Addr} {y : String} {o value : Expr} {pos' pos : Pos} {d do_ : Den} (B : Base hO K mg mb) (hv : TE prog w hO n sc value d) (ho : TE prog w hO n sc o do_) (hs : ∀ env, swapsWith value (some (.Attribute o (Str.ofString y) pos')) pos.line env = pure false := by intros; rfl) (hcc : setOk K C (S y) = true := by kernel_rfl) : TS prog w hO n sc (.Assign [.Attribute o (Str.ofString y) pos'] value pos) (dsAttr C y d do_) := ⟨sndS_attr B hv.o ho.o hcc hs⟩
theorem tS_item {o i value : Expr} {pos' pos : Pos} {d do_ di : Den} (hv : TE prog w hO n sc value d) (ho : TE prog w hO n sc o do_) (hi : TE prog w hO n sc i di) (hs : ∀ env, swapsWith value (some (.Subscript o i pos')) pos.line env = pure false := by intros; rfl) : TS prog w hO n sc (.Assign [.Subscript o i pos'] value pos) (dsItem d do_ di) := ⟨sndS_item hv.o ho.o hi.o hs⟩
theorem tS_tup {es : List Expr} {xs : List String} {k : Nat} {tpos pos : Pos} {value : Expr} {d : Den} (N : Names es xs) (hv : TE prog w hO n sc value d) (hs : ∀ env, swapsWithSole [.Tuple es k tpos] value pos.line env = pure false := by intros; rfl) (hw : ∀ x : EP, swappedStores [.Tuple es k tpos] value (x.env sc) = pure none := by exact fun V => by kernel_rfl) (hcc : (sc.kind, xs.all (kindOk sc)) = (.function, true) := by kernel_rfl) : TS prog w hO n sc (.Assign [.Tuple es k tpos] value pos) (dsTup xs d) := ⟨sndS_tup N hv.o (pfst hcc) (psnd hcc) hs hw⟩
theorem tS_tupR {es : List Expr} {xs : List String} {k : Nat} {tpos pos : Pos} {value : Expr} {d : Den} (hv : TE prog w hO n sc value d) (hs : ∀ env, swapsWithSole [.Tuple es k tpos] value pos.line env = pure false := by intros; rfl) (hw : ∀ x : EP, swappedStores [.Tuple es k tpos] value (x.env sc) = pure (some (xs.map S)) := by exact fun V => by kernel_rfl) (hcc : (sc.kind, xs.reverse.all (kindOk sc)) = (.function, true) := by kernel_rfl) : TS prog w hO n sc (.Assign [.Tuple es k tpos] value pos) (dsTupR xs d) := ⟨sndS_tupR hv.o (pfst hcc) (psnd hcc) hs hw⟩
theorem t_fun {P : Params} (B : Base hO K mg mb) {a : Addr} {fd : FuncData} {body : List Stmt} {ps : List String} {d : DenS} (H : FnOk K a fd ps) (hbody : fd.body = .stmts body) (hB : TB prog w hO n fd.scope body d) : SndFc prog w hO (n + 1) (.ref a) (dFun ps d) := snd_fun B H hbody hB.o
end
end
section
noncomputable abbrev pw : Program := PySem.Challenge.pw_qz0031_01
noncomputable def nth : List Stmt -> Nat -> Stmt
  | [], _ => .Pass ⟨0, 0, 0, 0⟩
  | st :: _, 0 => st
  | _ :: r, i + 1 => nth r i
noncomputable def bodyOf : Stmt -> List Stmt
  | .FunctionDef _ _ b _ _ _ _ _ _ _ => b
  | .ClassDef _ _ _ b _ _ _ _ _ _ _ => b
  | _ => []
noncomputable def argsOf : Stmt -> Arguments
  | .FunctionDef _ a _ _ _ _ _ _ _ _ => a
  | _ => { posonlyargs := [], args := [], vararg := none, kwonlyargs := [], kw_defaults := [], kwarg := none, defaults := [] }
noncomputable def scopeOf : Stmt -> Scope
  | .FunctionDef _ _ _ _ _ _ s _ _ _ => s
  | _ => { kind := .function, names := [], isGenerator := false, isCoroutine := false, more := [] }
noncomputable def hS (P : Params) (x : String) : Int := if (S x).cps.isEmpty then 0 else reduceHash (P.strHash (S x).cps)
noncomputable def mkO (c : String) (d : Data) : Obj := { cls := .type c, dict := none, data := d, slots := #[] }
noncomputable def mkF (n q : String) (s : Stmt) (m : String) (t : Nat) (c : Addr) : FuncData := { name := S n, qualname := S q, params := argsOf s, body := .stmts (bodyOf s), scope := scopeOf s, globals := 3, closure := [], defaults := .none, kwdefaults := .none, doc := .none, pyModule := .str (S m) t, annotations := none, code := .ref c, closureTuple := .none, builtins := 0 }
noncomputable def mkC (n q : String) (t : Nat) (l a : Int) (b c : Addr) (v u : Value) (d : Addr) (e : Nat) : Obj := mkO "code" (.fields #[.str (S n) t, .str (S q) (t + 1), .str (S "/claim/cut.py") (t + 2), .int l 0, .int a 0, .int 0 0, .int 0 0, .int 3 0, .ref b, .bool true, .int 181 0, .ref c, .none, v, u, .ref d, .int e 0, .int l 0, .str (S "/claim/cut.py") (e + 1)])
noncomputable def en (P : Params) (x : String) (t : Nat) (v : Value) : DictEntry := ⟨hS P x, .str (S x) t, v⟩
noncomputable def mb1 (i : Nat) : Stmt := nth pw.main.body i
noncomputable def mb2 (i j : Nat) : Stmt := nth (bodyOf (nth pw.main.body i)) j
noncomputable def fd_95 := mkF "gcd_of" "gcd_of" (mb1 6) "minismt.ratios" 280 94
noncomputable def fd_102 := mkF "gcd_all" "gcd_all" (mb1 7) "minismt.ratios" 280 101
noncomputable def fd_109 := mkF "lcm_of" "lcm_of" (mb1 8) "minismt.ratios" 280 108
noncomputable def fd_116 := mkF "ratio" "ratio" (mb1 9) "minismt.ratios" 280 115
noncomputable def fd_123 := mkF "add" "add" (mb1 10) "minismt.ratios" 280 122
noncomputable def fd_130 := mkF "neg" "neg" (mb1 11) "minismt.ratios" 280 129
noncomputable def fd_137 := mkF "mul" "mul" (mb1 12) "minismt.ratios" 280 136
noncomputable def fd_144 := mkF "compare" "compare" (mb1 13) "minismt.ratios" 280 143
noncomputable def fd_151 := mkF "floor_of" "floor_of" (mb1 14) "minismt.ratios" 280 150
noncomputable def fd_158 := mkF "ceil_of" "ceil_of" (mb1 15) "minismt.ratios" 280 157
noncomputable def fd_165 := mkF "is_whole" "is_whole" (mb1 16) "minismt.ratios" 280 164
noncomputable def fd_172 := mkF "common_bottom" "common_bottom" (mb1 17) "minismt.ratios" 280 171
noncomputable def fd_186 := mkF "__init__" "Bank.__init__" (mb2 23 0) "minismt.terms" 379 185
noncomputable def fd_214 := mkF "is_number_sort" "Bank.is_number_sort" (mb2 23 4) "minismt.terms" 379 213
noncomputable def fd_228 := mkF "declare_fun" "Bank.declare_fun" (mb2 23 6) "minismt.terms" 379 227
noncomputable def fd_242 := mkF "fresh_const" "Bank.fresh_const" (mb2 23 8) "minismt.terms" 379 241
noncomputable def fd_277 := mkF "op" "Bank.op" (mb2 23 13) "minismt.terms" 379 276
noncomputable def fd_284 := mkF "args" "Bank.args" (mb2 23 14) "minismt.terms" 379 283
noncomputable def fd_291 := mkF "sort" "Bank.sort" (mb2 23 15) "minismt.terms" 379 290
noncomputable def fd_298 := mkF "data" "Bank.data" (mb2 23 16) "minismt.terms" 379 297
noncomputable def fd_319 := mkF "make" "Bank.make" (mb2 23 19) "minismt.terms" 379 318
noncomputable def fd_340 := mkF "want" "Bank.want" (mb2 23 22) "minismt.terms" 379 339
noncomputable def fd_347 := mkF "want_all" "Bank.want_all" (mb2 23 23) "minismt.terms" 379 346
noncomputable def fd_499 := mkF "want_small" "want_small" (mb1 25) "minismt.terms" 379 498
noncomputable def fd_513 := mkF "num" "NumberBank.num" (mb2 26 0) "minismt.terms" 379 512
noncomputable def fd_520 := mkF "want_number" "NumberBank.want_number" (mb2 26 1) "minismt.terms" 379 519
noncomputable def fd_527 := mkF "plus" "NumberBank.plus" (mb2 26 2) "minismt.terms" 379 526
noncomputable def fd_534 := mkF "times_num" "NumberBank.times_num" (mb2 26 3) "minismt.terms" 379 533
noncomputable def fd_569 := mkF "le" "NumberBank.le" (mb2 26 8) "minismt.terms" 379 568
noncomputable def fd_576 := mkF "lt" "NumberBank.lt" (mb2 26 9) "minismt.terms" 379 575
noncomputable def fd_604 : FuncData := { name := S "__init__", qualname := S "TermBank.__init__", params := argsOf (nth (bodyOf (nth pw.main.body 27)) 0), body := .stmts (bodyOf (nth (bodyOf (nth pw.main.body 27)) 0)), scope := scopeOf (nth (bodyOf (nth pw.main.body 27)) 0), globals := 3, closure := [(S "__class__", 592)], defaults := .none, kwdefaults := .none, doc := .none, pyModule := (.str (S "minismt.terms") 379), annotations := none, code := (.ref 603), closureTuple := (.ref 597), builtins := 0 }
noncomputable def fd_716 := mkF "is_number" "is_number" (mb1 31) "minismt.judges" 1085 715
noncomputable def fd_723 := mkF "is_tuple_of" "is_tuple_of" (mb1 32) "minismt.judges" 1085 722
noncomputable def fd_730 := mkF "is_ratio" "is_ratio" (mb1 33) "minismt.judges" 1085 729
noncomputable def fd_737 := mkF "is_above_nought" "is_above_nought" (mb1 34) "minismt.judges" 1085 736
noncomputable def fd_751 := mkF "__init__" "Row.__init__" (mb2 35 0) "minismt.judges" 1085 750
noncomputable def fd_772 := mkF "__init__" "RowSum.__init__" (mb2 36 0) "minismt.judges" 1085 771
noncomputable def fd_779 := mkF "put" "RowSum.put" (mb2 36 1) "minismt.judges" 1085 778
noncomputable def fd_784 := mkF "left" "RowSum.left" (mb2 36 2) "minismt.judges" 1085 783
noncomputable def fd_791 := mkF "is_clash" "RowSum.is_clash" (mb2 36 3) "minismt.judges" 1085 790
noncomputable def fd_812 := mkF "__init__" "RowJudge.__init__" (mb2 37 0) "minismt.judges" 1085 811
noncomputable def fd_819 := mkF "linear" "RowJudge.linear" (mb2 37 1) "minismt.judges" 1085 818
noncomputable def fd_826 := mkF "row_of" "RowJudge.row_of" (mb2 37 2) "minismt.judges" 1085 825
noncomputable def fd_831 := mkF "normal_row" "RowJudge.normal_row" (mb2 37 3) "minismt.judges" 1085 830
noncomputable def fd_838 := mkF "sum_of" "RowJudge.sum_of" (mb2 37 4) "minismt.judges" 1085 837
noncomputable def fd_880 := mkF "_law_weights" "_law_weights" (mb1 39) "law_qz0031_01" 1325 879
noncomputable def fd_895 := mkF "_law_draw" "_law_draw" (mb1 41) "law_qz0031_01" 1325 894
noncomputable def fd_902 := mkF "_law_common" "_law_common" (mb1 42) "law_qz0031_01" 1325 901
noncomputable def fd_909 := mkF "_law_ratio" "_law_ratio" (mb1 43) "law_qz0031_01" 1325 908
noncomputable def fd_914 := mkF "_law_side" "_law_side" (mb1 44) "law_qz0031_01" 1325 913
noncomputable def fd_919 := mkF "_law_say" "_law_say" (mb1 45) "law_qz0031_01" 1325 918
noncomputable def fd_924 := mkF "_law_normal" "_law_normal" (mb1 46) "law_qz0031_01" 1325 923
noncomputable def fd_931 := mkF "_law_is_weight" "_law_is_weight" (mb1 47) "law_qz0031_01" 1325 930
noncomputable def fd_938 := mkF "_law_due" "_law_due" (mb1 48) "law_qz0031_01" 1325 937
noncomputable def fd_943 := mkF "_law_is_right" "_law_is_right" (mb1 49) "law_qz0031_01" 1325 942
noncomputable def fd_948 := mkF "_law_drawn" "_law_drawn" (mb1 50) "law_qz0031_01" 1325 947
noncomputable def fd_953 := mkF "law" "law" (mb1 51) "law_qz0031_01" 1325 952
noncomputable def ob_2 (P : Params) : Obj := { cls := .none, dict := none, data := .dict #[en P "type.__subclasses__.Exception.0" 230 (.int (47) 0), en P "type.__subclasses__.Exception.n" 231 (.int (1) 0)] 2, slots := #[] }
noncomputable def ob_3 (P : Params) : Obj := mkO "dict" (.dict #[en P "__name__" 165 (.str (S "law_qz0031_01") 1325), en P "__doc__" 166 .none, en P "__package__" 167 .none, en P "__loader__" 168 (.builtin "__main__.__loader__#opaque"), en P "__spec__" 169 .none, en P "__annotations__" 170 (.ref 6), en P "__builtins__" 171 (.ref 4), en P "__file__" 173 (.str (S "/claim/cut.py") 172), en P "__cached__" 174 .none, en P "_wall" 193 (.ref 21), en P "SmtError" 233 (.ref 47), en P "SortFault" 256 (.ref 67), en P "LimitFault" 279 (.ref 86), en P "gcd_of" 289 (.ref 95), en P "gcd_all" 298 (.ref 102), en P "lcm_of" 306 (.ref 109), en P "ratio" 315 (.ref 116), en P "add" 323 (.ref 123), en P "neg" 330 (.ref 130), en P "mul" 338 (.ref 137), en P "compare" 348 (.ref 144), en P "floor_of" 355 (.ref 151), en P "ceil_of" 362 (.ref 158), en P "is_whole" 369 (.ref 165), en P "common_bottom" 378 (.ref 172), en P "BOOL" 382 (.int (0) 381), en P "INT" 384 (.int (1) 383), en P "REAL" 386 (.int (2) 385), en P "MOST_BITS" 390 (.int (65536) 389), en P "Bank" 675 (.ref 385), en P "BoolBank" 808 (.ref 490), en P "want_small" 815 (.ref 499), en P "NumberBank" 929 (.ref 586), en P "TermBank" 1084 (.ref 705), en P "ZERO" 1089 (.ref 708), en P "ONE" 1092 (.ref 709), en P "is_number" 1099 (.ref 716), en P "is_tuple_of" 1107 (.ref 723), en P "is_ratio" 1114 (.ref 730), en P "is_above_nought" 1121 (.ref 737), en P "Row" 1154 (.ref 754), en P "RowSum" 1208 (.ref 794), en P "RowJudge" 1324 (.ref 869), en P "_law_weights" 1332 (.ref 880), en P "_law_bent" 1351 (.ref 888), en P "_law_draw" 1360 (.ref 895), en P "_law_common" 1368 (.ref 902), en P "_law_ratio" 1377 (.ref 909), en P "_law_side" 1383 (.ref 914), en P "_law_say" 1389 (.ref 919), en P "_law_normal" 1395 (.ref 924), en P "_law_is_weight" 1402 (.ref 931), en P "_law_due" 1420 (.ref 938), en P "_law_is_right" 1426 (.ref 943), en P "_law_drawn" 1432 (.ref 948), en P "law" 1438 (.ref 953)] 56)
noncomputable def ob_94 (P : Params) : Obj := mkC "gcd_of" "gcd_of" 282 22 2 89 90 (.ref 91) (.ref 92) 93 287
noncomputable def ob_95 (P : Params) : Obj := mkO "function" (.func fd_95)
noncomputable def ob_101 (P : Params) : Obj := mkC "gcd_all" "gcd_all" 290 27 1 96 97 (.ref 98) (.ref 99) 100 296
noncomputable def ob_102 (P : Params) : Obj := mkO "function" (.func fd_102)
noncomputable def ob_108 (P : Params) : Obj := mkC "lcm_of" "lcm_of" 299 34 2 103 104 (.ref 105) (.ref 106) 107 304
noncomputable def ob_109 (P : Params) : Obj := mkO "function" (.func fd_109)
noncomputable def ob_115 (P : Params) : Obj := mkC "ratio" "ratio" 307 36 2 110 111 (.ref 112) (.ref 113) 114 313
noncomputable def ob_116 (P : Params) : Obj := mkO "function" (.func fd_116)
noncomputable def ob_122 (P : Params) : Obj := mkC "add" "add" 316 43 2 117 118 (.ref 119) (.ref 120) 121 321
noncomputable def ob_123 (P : Params) : Obj := mkO "function" (.func fd_123)
noncomputable def ob_129 (P : Params) : Obj := mkC "neg" "neg" 324 47 1 124 125 (.ref 126) (.ref 127) 128 328
noncomputable def ob_130 (P : Params) : Obj := mkO "function" (.func fd_130)
noncomputable def ob_136 (P : Params) : Obj := mkC "mul" "mul" 331 49 2 131 132 (.ref 133) (.ref 134) 135 336
noncomputable def ob_137 (P : Params) : Obj := mkO "function" (.func fd_137)
noncomputable def ob_143 (P : Params) : Obj := mkC "compare" "compare" 339 53 2 138 139 (.ref 140) (.ref 141) 142 346
noncomputable def ob_144 (P : Params) : Obj := mkO "function" (.func fd_144)
noncomputable def ob_150 (P : Params) : Obj := mkC "floor_of" "floor_of" 349 56 1 145 146 (.ref 147) (.ref 148) 149 353
noncomputable def ob_151 (P : Params) : Obj := mkO "function" (.func fd_151)
noncomputable def ob_157 (P : Params) : Obj := mkC "ceil_of" "ceil_of" 356 58 1 152 153 (.ref 154) (.ref 155) 156 360
noncomputable def ob_158 (P : Params) : Obj := mkO "function" (.func fd_158)
noncomputable def ob_164 (P : Params) : Obj := mkC "is_whole" "is_whole" 363 60 1 159 160 (.ref 161) (.ref 162) 163 367
noncomputable def ob_165 (P : Params) : Obj := mkO "function" (.func fd_165)
noncomputable def ob_171 (P : Params) : Obj := mkC "common_bottom" "common_bottom" 370 62 1 166 167 (.ref 168) (.ref 169) 170 376
noncomputable def ob_172 (P : Params) : Obj := mkO "function" (.func fd_172)
noncomputable def ob_185 (P : Params) : Obj := mkC "__init__" "Bank.__init__" 403 74 1 180 181 (.ref 182) (.ref 183) 184 407
noncomputable def ob_186 (P : Params) : Obj := mkO "function" (.func fd_186)
noncomputable def ob_213 (P : Params) : Obj := mkC "is_number_sort" "Bank.is_number_sort" 434 98 2 208 209 (.ref 210) (.ref 211) 212 439
noncomputable def ob_214 (P : Params) : Obj := mkO "function" (.func fd_214)
noncomputable def ob_227 (P : Params) : Obj := mkC "declare_fun" "Bank.declare_fun" 450 104 4 222 223 (.ref 224) (.ref 225) 226 457
noncomputable def ob_228 (P : Params) : Obj := mkO "function" (.func fd_228)
noncomputable def ob_241 (P : Params) : Obj := mkC "fresh_const" "Bank.fresh_const" 470 113 3 236 237 (.ref 238) (.ref 239) 240 476
noncomputable def ob_242 (P : Params) : Obj := mkO "function" (.func fd_242)
noncomputable def ob_276 (P : Params) : Obj := mkC "op" "Bank.op" 510 128 2 271 272 (.ref 273) (.ref 274) 275 515
noncomputable def ob_277 (P : Params) : Obj := mkO "function" (.func fd_277)
noncomputable def ob_283 (P : Params) : Obj := mkC "args" "Bank.args" 518 131 2 278 279 (.ref 280) (.ref 281) 282 523
noncomputable def ob_284 (P : Params) : Obj := mkO "function" (.func fd_284)
noncomputable def ob_290 (P : Params) : Obj := mkC "sort" "Bank.sort" 526 134 2 285 286 (.ref 287) (.ref 288) 289 531
noncomputable def ob_291 (P : Params) : Obj := mkO "function" (.func fd_291)
noncomputable def ob_297 (P : Params) : Obj := mkC "data" "Bank.data" 534 137 2 292 293 (.ref 294) (.ref 295) 296 539
noncomputable def ob_298 (P : Params) : Obj := mkO "function" (.func fd_298)
noncomputable def ob_318 (P : Params) : Obj := mkC "make" "Bank.make" 557 146 5 313 314 (.ref 315) (.ref 316) 317 567
noncomputable def ob_319 (P : Params) : Obj := mkO "function" (.func fd_319)
noncomputable def ob_339 (P : Params) : Obj := mkC "want" "Bank.want" 589 164 4 334 335 (.ref 336) (.ref 337) 338 596
noncomputable def ob_340 (P : Params) : Obj := mkO "function" (.func fd_340)
noncomputable def ob_346 (P : Params) : Obj := mkC "want_all" "Bank.want_all" 599 168 4 341 342 (.ref 343) (.ref 344) 345 607
noncomputable def ob_347 (P : Params) : Obj := mkO "function" (.func fd_347)
noncomputable def ob_384 (P : Params) : Obj := mkO "dict" (.dict #[en P "__module__" 398 (.str (S "minismt.terms") 379), en P "__firstlineno__" 402 (.int (72) 401), en P "__init__" 409 (.ref 186), en P "sort_name" 417 (.ref 193), en P "declare_sort" 425 (.ref 200), en P "width_of" 433 (.ref 207), en P "is_number_sort" 441 (.ref 214), en P "is_free_sort" 449 (.ref 221), en P "declare_fun" 459 (.ref 228), en P "fresh_fun" 469 (.ref 235), en P "fresh_const" 478 (.ref 242), en P "fun_name" 486 (.ref 249), en P "fun_arg_sorts" 494 (.ref 256), en P "fun_result" 502 (.ref 263), en P "fun_count" 509 (.ref 270), en P "op" 517 (.ref 277), en P "args" 525 (.ref 284), en P "sort" 533 (.ref 291), en P "data" 541 (.ref 298), en P "width" 549 (.ref 305), en P "size" 556 (.ref 312), en P "make" 569 (.ref 319), en P "find_made" 580 (.ref 326), en P "is_value" 588 (.ref 333), en P "want" 598 (.ref 340), en P "want_all" 609 (.ref 347), en P "true_term" 616 (.ref 354), en P "false_term" 623 (.ref 361), en P "bool_term" 631 (.ref 368), en P "parts" 639 (.ref 375), en P "parts_of_all" 654 (.ref 382), en P "__static_attributes__" 668 (.ref 383), en P "__dict__" 670 (.ref 386), en P "__weakref__" 672 (.ref 387), en P "__doc__" 673 .none] 4)
noncomputable def ob_385 (P : Params) : Obj := { cls := (.type "type"), dict := none, data := .cls { name := S "Bank", bases := [(.type "object")], mro := [(.ref 385), (.type "object")], ns := 384, qualname := S "Bank", hasDict := true, slotNames := [], subclasses := [(.ref 490)], abstract := false, collection := none, hasDel := false }, slots := #[none, none, (some (.str (S "Bank") 391)), (some (.str (S "Bank") 399)), (some (.builtin "object.__new__")), (some (.bool true))] }
noncomputable def ob_489 (P : Params) : Obj := mkO "dict" (.dict #[en P "__module__" 683 (.str (S "minismt.terms") 379), en P "__firstlineno__" 687 (.int (201) 686), en P "not_of" 695 (.ref 403), en P "and_of" 703 (.ref 410), en P "or_of" 711 (.ref 417), en P "xor_of" 720 (.ref 424), en P "implies_of" 729 (.ref 431), en P "iff" 738 (.ref 438), en P "eq" 747 (.ref 445), en P "distinct" 755 (.ref 452), en P "ite" 765 (.ref 459), en P "app" 777 (.ref 466), en P "folded" 786 (.ref 473), en P "with_args" 795 (.ref 480), en P "replaced" 804 (.ref 487), en P "__static_attributes__" 805 (.ref 488), en P "__doc__" 806 .none] 2)
noncomputable def ob_490 (P : Params) : Obj := { cls := (.type "type"), dict := none, data := .cls { name := S "BoolBank", bases := [(.ref 385)], mro := [(.ref 490), (.ref 385), (.type "object")], ns := 489, qualname := S "BoolBank", hasDict := true, slotNames := [], subclasses := [(.ref 586)], abstract := false, collection := none, hasDel := false }, slots := #[(some (.ref 390)), none, (some (.str (S "BoolBank") 676)), (some (.str (S "BoolBank") 684)), (some (.builtin "object.__new__")), (some (.bool true))] }
noncomputable def ob_498 (P : Params) : Obj := mkC "want_small" "want_small" 809 246 1 493 494 (.ref 495) (.ref 496) 497 813
noncomputable def ob_499 (P : Params) : Obj := mkO "function" (.func fd_499)
noncomputable def ob_512 (P : Params) : Obj := mkC "num" "NumberBank.num" 828 251 3 507 508 (.ref 509) (.ref 510) 511 834
noncomputable def ob_513 (P : Params) : Obj := mkO "function" (.func fd_513)
noncomputable def ob_519 (P : Params) : Obj := mkC "want_number" "NumberBank.want_number" 837 259 3 514 515 (.ref 516) (.ref 517) 518 843
noncomputable def ob_520 (P : Params) : Obj := mkO "function" (.func fd_520)
noncomputable def ob_526 (P : Params) : Obj := mkC "plus" "NumberBank.plus" 846 263 2 521 522 (.ref 523) (.ref 524) 525 851
noncomputable def ob_527 (P : Params) : Obj := mkO "function" (.func fd_527)
noncomputable def ob_533 (P : Params) : Obj := mkC "times_num" "NumberBank.times_num" 854 270 3 528 529 (.ref 530) (.ref 531) 532 861
noncomputable def ob_534 (P : Params) : Obj := mkO "function" (.func fd_534)
noncomputable def ob_568 (P : Params) : Obj := mkC "le" "NumberBank.le" 899 295 3 563 564 (.ref 565) (.ref 566) 567 905
noncomputable def ob_569 (P : Params) : Obj := mkO "function" (.func fd_569)
noncomputable def ob_575 (P : Params) : Obj := mkC "lt" "NumberBank.lt" 908 300 3 570 571 (.ref 572) (.ref 573) 574 914
noncomputable def ob_576 (P : Params) : Obj := mkO "function" (.func fd_576)
noncomputable def ob_585 (P : Params) : Obj := mkO "dict" (.dict #[en P "__module__" 823 (.str (S "minismt.terms") 379), en P "__firstlineno__" 827 (.int (249) 826), en P "num" 836 (.ref 513), en P "want_number" 845 (.ref 520), en P "plus" 853 (.ref 527), en P "times_num" 863 (.ref 534), en P "times" 872 (.ref 541), en P "over_num" 881 (.ref 548), en P "negative" 889 (.ref 555), en P "minus" 898 (.ref 562), en P "le" 907 (.ref 569), en P "lt" 916 (.ref 576), en P "with_args" 925 (.ref 583), en P "__static_attributes__" 926 (.ref 584), en P "__doc__" 927 .none] 2)
noncomputable def ob_586 (P : Params) : Obj := { cls := (.type "type"), dict := none, data := .cls { name := S "NumberBank", bases := [(.ref 490)], mro := [(.ref 586), (.ref 490), (.ref 385), (.type "object")], ns := 585, qualname := S "NumberBank", hasDict := true, slotNames := [], subclasses := [(.ref 705)], abstract := false, collection := none, hasDel := false }, slots := #[(some (.ref 500)), none, (some (.str (S "NumberBank") 816)), (some (.str (S "NumberBank") 824)), (some (.builtin "object.__new__")), (some (.bool true))] }
noncomputable def ob_592 (P : Params) : Obj := mkO "cell" (.cell (some (.ref 705)))
noncomputable def ob_603 (P : Params) : Obj := mkC "__init__" "TermBank.__init__" 942 309 1 598 599 (.ref 600) (.ref 601) 602 947
noncomputable def ob_604 (P : Params) : Obj := mkO "function" (.func fd_604)
noncomputable def ob_704 (P : Params) : Obj := mkO "dict" (.dict #[en P "__module__" 937 (.str (S "minismt.terms") 379), en P "__firstlineno__" 941 (.int (307) 940), en P "__init__" 949 (.ref 604), en P "bv_sort" 957 (.ref 611), en P "find_bv_sort" 965 (.ref 618), en P "want_bits" 974 (.ref 625), en P "bv_num" 983 (.ref 632), en P "bv_one" 992 (.ref 639), en P "bv_two" 1002 (.ref 646), en P "concat" 1011 (.ref 653), en P "extract" 1021 (.ref 660), en P "zero_extend" 1030 (.ref 667), en P "sign_extend" 1039 (.ref 674), en P "want_place" 1049 (.ref 681), en P "bit" 1058 (.ref 688), en P "carry" 1068 (.ref 695), en P "below" 1078 (.ref 702), en P "__static_attributes__" 1080 (.ref 703), en P "__doc__" 1082 .none] 3)
noncomputable def ob_705 (P : Params) : Obj := { cls := (.type "type"), dict := none, data := .cls { name := S "TermBank", bases := [(.ref 586)], mro := [(.ref 705), (.ref 586), (.ref 490), (.ref 385), (.type "object")], ns := 704, qualname := S "TermBank", hasDict := true, slotNames := [], subclasses := [], abstract := false, collection := none, hasDel := false }, slots := #[(some (.ref 589)), none, (some (.str (S "TermBank") 930)), (some (.str (S "TermBank") 938)), (some (.builtin "object.__new__")), (some (.bool true))] }
noncomputable def ob_708 (P : Params) : Obj := mkO "tuple" (.seq #[(.int (0) 1087), (.int (1) 1088)] 0)
noncomputable def ob_709 (P : Params) : Obj := mkO "tuple" (.seq #[(.int (1) 1090), (.int (1) 1091)] 0)
noncomputable def ob_715 (P : Params) : Obj := mkC "is_number" "is_number" 1093 365 1 710 711 (.ref 712) (.ref 713) 714 1097
noncomputable def ob_716 (P : Params) : Obj := mkO "function" (.func fd_716)
noncomputable def ob_722 (P : Params) : Obj := mkC "is_tuple_of" "is_tuple_of" 1100 367 2 717 718 (.ref 719) (.ref 720) 721 1105
noncomputable def ob_723 (P : Params) : Obj := mkO "function" (.func fd_723)
noncomputable def ob_729 (P : Params) : Obj := mkC "is_ratio" "is_ratio" 1108 369 1 724 725 (.ref 726) (.ref 727) 728 1112
noncomputable def ob_730 (P : Params) : Obj := mkO "function" (.func fd_730)
noncomputable def ob_736 (P : Params) : Obj := mkC "is_above_nought" "is_above_nought" 1115 373 1 731 732 (.ref 733) (.ref 734) 735 1119
noncomputable def ob_737 (P : Params) : Obj := mkO "function" (.func fd_737)
noncomputable def ob_750 (P : Params) : Obj := mkC "__init__" "Row.__init__" 1134 377 4 745 746 (.ref 747) (.ref 748) 749 1141
noncomputable def ob_751 (P : Params) : Obj := mkO "function" (.func fd_751)
noncomputable def ob_753 (P : Params) : Obj := mkO "dict" (.dict #[en P "__module__" 1129 (.str (S "minismt.judges") 1085), en P "__firstlineno__" 1133 (.int (375) 1132), en P "__init__" 1143 (.ref 751), en P "__static_attributes__" 1147 (.ref 752), en P "__dict__" 1149 (.ref 755), en P "__weakref__" 1151 (.ref 756), en P "__doc__" 1152 .none] 4)
noncomputable def ob_754 (P : Params) : Obj := { cls := (.type "type"), dict := none, data := .cls { name := S "Row", bases := [(.type "object")], mro := [(.ref 754), (.type "object")], ns := 753, qualname := S "Row", hasDict := true, slotNames := [], subclasses := [], abstract := false, collection := none, hasDel := false }, slots := #[none, none, (some (.str (S "Row") 1122)), (some (.str (S "Row") 1130)), (some (.builtin "object.__new__")), (some (.bool true))] }
noncomputable def ob_771 (P : Params) : Obj := mkC "__init__" "RowSum.__init__" 1167 383 1 766 767 (.ref 768) (.ref 769) 770 1171
noncomputable def ob_772 (P : Params) : Obj := mkO "function" (.func fd_772)
noncomputable def ob_778 (P : Params) : Obj := mkC "put" "RowSum.put" 1174 388 3 773 774 (.ref 775) (.ref 776) 777 1181
noncomputable def ob_779 (P : Params) : Obj := mkO "function" (.func fd_779)
noncomputable def ob_783 (P : Params) : Obj := mkC "left" "RowSum.left" 1184 395 1 780 781 .none .none 782 1187
noncomputable def ob_784 (P : Params) : Obj := mkO "function" (.func fd_784)
noncomputable def ob_790 (P : Params) : Obj := mkC "is_clash" "RowSum.is_clash" 1190 398 1 785 786 (.ref 787) (.ref 788) 789 1195
noncomputable def ob_791 (P : Params) : Obj := mkO "function" (.func fd_791)
noncomputable def ob_793 (P : Params) : Obj := mkO "dict" (.dict #[en P "__module__" 1162 (.str (S "minismt.judges") 1085), en P "__firstlineno__" 1166 (.int (381) 1165), en P "__init__" 1173 (.ref 772), en P "put" 1183 (.ref 779), en P "left" 1189 (.ref 784), en P "is_clash" 1197 (.ref 791), en P "__static_attributes__" 1201 (.ref 792), en P "__dict__" 1203 (.ref 795), en P "__weakref__" 1205 (.ref 796), en P "__doc__" 1206 .none] 4)
noncomputable def ob_794 (P : Params) : Obj := { cls := (.type "type"), dict := none, data := .cls { name := S "RowSum", bases := [(.type "object")], mro := [(.ref 794), (.type "object")], ns := 793, qualname := S "RowSum", hasDict := true, slotNames := [], subclasses := [], abstract := false, collection := none, hasDel := false }, slots := #[none, none, (some (.str (S "RowSum") 1155)), (some (.str (S "RowSum") 1163)), (some (.builtin "object.__new__")), (some (.bool true))] }
noncomputable def ob_811 (P : Params) : Obj := mkC "__init__" "RowJudge.__init__" 1221 405 2 806 807 (.ref 808) (.ref 809) 810 1226
noncomputable def ob_812 (P : Params) : Obj := mkO "function" (.func fd_812)
noncomputable def ob_818 (P : Params) : Obj := mkC "linear" "RowJudge.linear" 1229 408 2 813 814 (.ref 815) (.ref 816) 817 1242
noncomputable def ob_819 (P : Params) : Obj := mkO "function" (.func fd_819)
noncomputable def ob_825 (P : Params) : Obj := mkC "row_of" "RowJudge.row_of" 1245 425 2 820 821 (.ref 822) (.ref 823) 824 1259
noncomputable def ob_826 (P : Params) : Obj := mkO "function" (.func fd_826)
noncomputable def ob_830 (P : Params) : Obj := mkC "normal_row" "RowJudge.normal_row" 1262 439 4 827 828 .none .none 829 1265
noncomputable def ob_831 (P : Params) : Obj := mkO "function" (.func fd_831)
noncomputable def ob_837 (P : Params) : Obj := mkC "sum_of" "RowJudge.sum_of" 1268 455 3 832 833 (.ref 834) (.ref 835) 836 1278
noncomputable def ob_838 (P : Params) : Obj := mkO "function" (.func fd_838)
noncomputable def ob_868 (P : Params) : Obj := mkO "dict" (.dict #[en P "__module__" 1216 (.str (S "minismt.judges") 1085), en P "__firstlineno__" 1220 (.int (403) 1219), en P "__init__" 1228 (.ref 812), en P "linear" 1244 (.ref 819), en P "row_of" 1261 (.ref 826), en P "normal_row" 1267 (.ref 831), en P "sum_of" 1280 (.ref 838), en P "farkas_fault" 1289 (.ref 845), en P "whole_divisor" 1297 (.ref 852), en P "divide_fault" 1306 (.ref 859), en P "cut_fault" 1315 (.ref 866), en P "__static_attributes__" 1317 (.ref 867), en P "__dict__" 1319 (.ref 870), en P "__weakref__" 1321 (.ref 871), en P "__doc__" 1322 .none] 4)
noncomputable def ob_869 (P : Params) : Obj := { cls := (.type "type"), dict := none, data := .cls { name := S "RowJudge", bases := [(.type "object")], mro := [(.ref 869), (.type "object")], ns := 868, qualname := S "RowJudge", hasDict := true, slotNames := [], subclasses := [], abstract := false, collection := none, hasDel := false }, slots := #[none, none, (some (.str (S "RowJudge") 1209)), (some (.str (S "RowJudge") 1217)), (some (.builtin "object.__new__")), (some (.bool true))] }
noncomputable def ob_879 (P : Params) : Obj := mkC "_law_weights" "_law_weights" 1327 483 0 874 875 (.ref 876) (.ref 877) 878 1330
noncomputable def ob_880 (P : Params) : Obj := mkO "function" (.func fd_880)
noncomputable def ob_881 (P : Params) : Obj := mkO "tuple" (.seq #[(.int (0) 1333), (.int (1) 1334)] 0)
noncomputable def ob_882 (P : Params) : Obj := mkO "tuple" (.seq #[(.int (-1) 1336), (.int (2) 1337)] 0)
noncomputable def ob_883 (P : Params) : Obj := mkO "tuple" (.seq #[(.int (2) 1338), (.int (4) 1339)] 0)
noncomputable def ob_884 (P : Params) : Obj := mkO "tuple" (.seq #[(.int (1) 1340), (.int (0) 1341)] 0)
noncomputable def ob_885 (P : Params) : Obj := mkO "tuple" (.seq #[(.int (1) 1342), (.int (-1) 1344)] 0)
noncomputable def ob_886 (P : Params) : Obj := mkO "tuple" (.seq #[(.int (1) 1346), (.int (1) 1347), (.int (1) 1348)] 0)
noncomputable def ob_887 (P : Params) : Obj := mkO "list" (.seq #[(.int (1) 1349), (.int (1) 1350)] 0)
noncomputable def ob_888 (P : Params) : Obj := mkO "list" (.seq #[(.ref 881), (.ref 882), (.ref 883), (.ref 884), (.ref 885), (.int (1) 1345), (.ref 886), (.bool true), (.ref 887)] 0)
noncomputable def ob_894 (P : Params) : Obj := mkC "_law_draw" "_law_draw" 1352 486 2 889 890 (.ref 891) (.ref 892) 893 1358
noncomputable def ob_895 (P : Params) : Obj := mkO "function" (.func fd_895)
noncomputable def ob_901 (P : Params) : Obj := mkC "_law_common" "_law_common" 1361 492 2 896 897 (.ref 898) (.ref 899) 900 1366
noncomputable def ob_902 (P : Params) : Obj := mkO "function" (.func fd_902)
noncomputable def ob_908 (P : Params) : Obj := mkC "_law_ratio" "_law_ratio" 1369 497 2 903 904 (.ref 905) (.ref 906) 907 1375
noncomputable def ob_909 (P : Params) : Obj := mkO "function" (.func fd_909)
noncomputable def ob_913 (P : Params) : Obj := mkC "_law_side" "_law_side" 1378 500 4 910 911 .none .none 912 1381
noncomputable def ob_914 (P : Params) : Obj := mkO "function" (.func fd_914)
noncomputable def ob_918 (P : Params) : Obj := mkC "_law_say" "_law_say" 1384 503 2 915 916 .none .none 917 1387
noncomputable def ob_919 (P : Params) : Obj := mkO "function" (.func fd_919)
noncomputable def ob_923 (P : Params) : Obj := mkC "_law_normal" "_law_normal" 1390 517 4 920 921 .none .none 922 1393
noncomputable def ob_924 (P : Params) : Obj := mkO "function" (.func fd_924)
noncomputable def ob_930 (P : Params) : Obj := mkC "_law_is_weight" "_law_is_weight" 1396 525 1 925 926 (.ref 927) (.ref 928) 929 1400
noncomputable def ob_931 (P : Params) : Obj := mkO "function" (.func fd_931)
noncomputable def ob_937 (P : Params) : Obj := mkC "_law_due" "_law_due" 1403 529 2 932 933 (.ref 934) (.ref 935) 936 1418
noncomputable def ob_938 (P : Params) : Obj := mkO "function" (.func fd_938)
noncomputable def ob_942 (P : Params) : Obj := mkC "_law_is_right" "_law_is_right" 1421 544 3 939 940 .none .none 941 1424
noncomputable def ob_943 (P : Params) : Obj := mkO "function" (.func fd_943)
noncomputable def ob_947 (P : Params) : Obj := mkC "_law_drawn" "_law_drawn" 1427 554 2 944 945 .none .none 946 1430
noncomputable def ob_948 (P : Params) : Obj := mkO "function" (.func fd_948)
noncomputable def ob_952 (P : Params) : Obj := mkC "law" "law" 1433 559 1 949 950 .none .none 951 1436
noncomputable def ob_953 (P : Params) : Obj := mkO "function" (.func fd_953)
noncomputable def K0 (P : Params) : Frag := [(2, ob_2 P), (3, ob_3 P), (94, ob_94 P), (95, ob_95 P), (101, ob_101 P), (102, ob_102 P), (108, ob_108 P), (109, ob_109 P), (115, ob_115 P), (116, ob_116 P), (122, ob_122 P), (123, ob_123 P), (129, ob_129 P), (130, ob_130 P), (136, ob_136 P), (137, ob_137 P), (143, ob_143 P), (144, ob_144 P), (150, ob_150 P), (151, ob_151 P), (157, ob_157 P), (158, ob_158 P), (164, ob_164 P), (165, ob_165 P), (171, ob_171 P), (172, ob_172 P), (185, ob_185 P), (186, ob_186 P), (213, ob_213 P), (214, ob_214 P), (227, ob_227 P), (228, ob_228 P), (241, ob_241 P), (242, ob_242 P), (276, ob_276 P), (277, ob_277 P), (283, ob_283 P), (284, ob_284 P), (290, ob_290 P), (291, ob_291 P), (297, ob_297 P), (298, ob_298 P), (318, ob_318 P), (319, ob_319 P), (339, ob_339 P), (340, ob_340 P), (346, ob_346 P), (347, ob_347 P), (384, ob_384 P), (385, ob_385 P), (489, ob_489 P), (490, ob_490 P), (498, ob_498 P), (499, ob_499 P), (512, ob_512 P), (513, ob_513 P), (519, ob_519 P), (520, ob_520 P), (526, ob_526 P), (527, ob_527 P), (533, ob_533 P), (534, ob_534 P), (568, ob_568 P), (569, ob_569 P), (575, ob_575 P), (576, ob_576 P), (585, ob_585 P), (586, ob_586 P), (592, ob_592 P), (603, ob_603 P), (604, ob_604 P), (704, ob_704 P), (705, ob_705 P), (708, ob_708 P), (709, ob_709 P), (715, ob_715 P), (716, ob_716 P), (722, ob_722 P), (723, ob_723 P), (729, ob_729 P), (730, ob_730 P), (736, ob_736 P), (737, ob_737 P), (750, ob_750 P), (751, ob_751 P), (753, ob_753 P), (754, ob_754 P), (771, ob_771 P), (772, ob_772 P), (778, ob_778 P), (779, ob_779 P), (783, ob_783 P), (784, ob_784 P), (790, ob_790 P), (791, ob_791 P), (793, ob_793 P), (794, ob_794 P), (811, ob_811 P), (812, ob_812 P), (818, ob_818 P), (819, ob_819 P), (825, ob_825 P), (826, ob_826 P), (830, ob_830 P), (831, ob_831 P), (837, ob_837 P), (838, ob_838 P), (868, ob_868 P), (869, ob_869 P), (879, ob_879 P), (880, ob_880 P), (881, ob_881 P), (882, ob_882 P), (883, ob_883 P), (884, ob_884 P), (885, ob_885 P), (886, ob_886 P), (887, ob_887 P), (888, ob_888 P), (894, ob_894 P), (895, ob_895 P), (901, ob_901 P), (902, ob_902 P), (908, ob_908 P), (909, ob_909 P), (913, ob_913 P), (914, ob_914 P), (918, ob_918 P), (919, ob_919 P), (923, ob_923 P), (924, ob_924 P), (930, ob_930 P), (931, ob_931 P), (937, ob_937 P), (938, ob_938 P), (942, ob_942 P), (943, ob_943 P), (947, ob_947 P), (948, ob_948 P), (952, ob_952 P), (953, ob_953 P)]
noncomputable def asK : List Addr := [2, 3, 94, 95, 101, 102, 108, 109, 115, 116, 122, 123, 129, 130, 136, 137, 143, 144, 150, 151, 157, 158, 164, 165, 171, 172, 185, 186, 213, 214, 227, 228, 241, 242, 276, 277, 283, 284, 290, 291, 297, 298, 318, 319, 339, 340, 346, 347, 384, 385, 489, 490, 498, 499, 512, 513, 519, 520, 526, 527, 533, 534, 568, 569, 575, 576, 585, 586, 592, 603, 604, 704, 705, 708, 709, 715, 716, 722, 723, 729, 730, 736, 737, 750, 751, 753, 754, 771, 772, 778, 779, 783, 784, 790, 791, 793, 794, 811, 812, 818, 819, 825, 826, 830, 831, 837, 838, 868, 869, 879, 880, 881, 882, 883, 884, 885, 886, 887, 888, 894, 895, 901, 902, 908, 909, 913, 914, 918, 919, 923, 924, 930, 931, 937, 938, 942, 943, 947, 948, 952, 953]
end
section
noncomputable def fuelB : Rho -> Nat := fun ρ => match ρ "b" with | some (.int b) => b.natAbs + 1 | _ => 0
noncomputable def fuelT : Rho -> Nat := fun ρ => match ρ "t" with | some (.int t) => t.natAbs + 2 | _ => 0
noncomputable abbrev vZERO : AV := .tup [.int 0, .int 1]
noncomputable abbrev vONE : AV := .tup [.int 1, .int 1]
noncomputable def g_ZERO : Den := dK vZERO
noncomputable def g_ONE : Den := dK vONE
noncomputable def g_BOOL : Den := dK (.int 0)
noncomputable def g_INT : Den := dK (.int 1)
noncomputable def g_REAL : Den := dK (.int 2)
noncomputable def g_MOST_BITS : Den := dK (.int 65536)
noncomputable abbrev vBent : AV := .lst [.tup [.int 0, .int 1], .tup [.int (-1), .int 2], .tup [.int 2, .int 4], .tup [.int 1, .int 0], .tup [.int 1, .int (-1)], .int 1, .tup [.int 1, .int 1, .int 1], .bool true, .lst [.int 1, .int 1]]
noncomputable def g__law_bent : Den := dK vBent
theorem kv_ZERO {P : Params} : KV (K0 P) vZERO (.ref 708) := (kv_tup (cs := [(.int (0) 1087), (.int (1) 1088)]) (n := 0) (d := none) (sl := #[]) (by kernel_rfl) (kv_cons (kv_int (i := 0) (t := 1087)) (kv_cons (kv_int (i := 1) (t := 1088)) kv_nil)))
theorem kv_ONE {P : Params} : KV (K0 P) vONE (.ref 709) := (kv_tup (cs := [(.int (1) 1090), (.int (1) 1091)]) (n := 0) (d := none) (sl := #[]) (by kernel_rfl) (kv_cons (kv_int (i := 1) (t := 1090)) (kv_cons (kv_int (i := 1) (t := 1091)) kv_nil)))
theorem kv_BOOL {P : Params} : KV (K0 P) (.int 0) (.int (0) 381) := (kv_int (i := 0) (t := 381))
theorem kv_INT {P : Params} : KV (K0 P) (.int 1) (.int (1) 383) := (kv_int (i := 1) (t := 383))
theorem kv_REAL {P : Params} : KV (K0 P) (.int 2) (.int (2) 385) := (kv_int (i := 2) (t := 385))
theorem kv_MOST_BITS {P : Params} : KV (K0 P) (.int 65536) (.int (65536) 389) := (kv_int (i := 65536) (t := 389))
theorem kv__law_bent {P : Params} : KV (K0 P) vBent (.ref 888) := (kv_lst (cs := [(.ref 881), (.ref 882), (.ref 883), (.ref 884), (.ref 885), (.int (1) 1345), (.ref 886), (.bool true), (.ref 887)]) (n := 0) (d := none) (sl := #[]) (by kernel_rfl) (kv_cons (kv_tup (cs := [(.int (0) 1333), (.int (1) 1334)]) (n := 0) (d := none) (sl := #[]) (by kernel_rfl) (kv_cons (kv_int (i := 0) (t := 1333)) (kv_cons (kv_int (i := 1) (t := 1334)) kv_nil))) (kv_cons (kv_tup (cs := [(.int (-1) 1336), (.int (2) 1337)]) (n := 0) (d := none) (sl := #[]) (by kernel_rfl) (kv_cons (kv_int (i := -1) (t := 1336)) (kv_cons (kv_int (i := 2) (t := 1337)) kv_nil))) (kv_cons (kv_tup (cs := [(.int (2) 1338), (.int (4) 1339)]) (n := 0) (d := none) (sl := #[]) (by kernel_rfl) (kv_cons (kv_int (i := 2) (t := 1338)) (kv_cons (kv_int (i := 4) (t := 1339)) kv_nil))) (kv_cons (kv_tup (cs := [(.int (1) 1340), (.int (0) 1341)]) (n := 0) (d := none) (sl := #[]) (by kernel_rfl) (kv_cons (kv_int (i := 1) (t := 1340)) (kv_cons (kv_int (i := 0) (t := 1341)) kv_nil))) (kv_cons (kv_tup (cs := [(.int (1) 1342), (.int (-1) 1344)]) (n := 0) (d := none) (sl := #[]) (by kernel_rfl) (kv_cons (kv_int (i := 1) (t := 1342)) (kv_cons (kv_int (i := -1) (t := 1344)) kv_nil))) (kv_cons (kv_int (i := 1) (t := 1345)) (kv_cons (kv_tup (cs := [(.int (1) 1346), (.int (1) 1347), (.int (1) 1348)]) (n := 0) (d := none) (sl := #[]) (by kernel_rfl) (kv_cons (kv_int (i := 1) (t := 1346)) (kv_cons (kv_int (i := 1) (t := 1347)) (kv_cons (kv_int (i := 1) (t := 1348)) kv_nil)))) (kv_cons kv_bool (kv_cons (kv_lst (cs := [(.int (1) 1349), (.int (1) 1350)]) (n := 0) (d := none) (sl := #[]) (by kernel_rfl) (kv_cons (kv_int (i := 1) (t := 1349)) (kv_cons (kv_int (i := 1) (t := 1350)) kv_nil))) kv_nil))))))))))
end
section
section
variable {prog : Program} {w : World} {hO : HB} {mg mb : Str -> Option Value}
noncomputable def wc_gcd_of1 : DenC := (cVal (d2 oNe (dLoc "b") (dK (.int 0))))
noncomputable def wb_gcd_of1 : DenS := (dsSeq (dsTupR ["a", "b"] (dTup (dCons (dLoc "b") (dCons (d2 oMod (dLoc "a") (dLoc "b")) dNil)))) dsNil)
noncomputable def b_gcd_of : DenS := (dsSeq (dsTupR ["a", "b"] (dTup (dCons (dCall oAbs (dCons (dLoc "a") dNil)) (dCons (dCall oAbs (dCons (dLoc "b") dNil)) dNil)))) (dsSeq (dsWhile fuelB wc_gcd_of1 wb_gcd_of1) (dsSeq (dsRet (dLoc "a")) dsNil)))
noncomputable def d_gcd_of : DF := dFun ["a", "b"] b_gcd_of
theorem ok_gcd_of (P : Params) : FnOk (K0 P) 95 fd_95 ["a", "b"] := mkOk (ob_95 P) (ob_94 P) fun V V => by show _ = _; kernel_rfl
theorem s_d_gcd_of {P : Params} (B : Base hO (K0 P) mg mb) : SndFc prog w hO 1 (.ref 95) d_gcd_of := by
  unfold d_gcd_of b_gcd_of
  refine t_fun (P := P) (n := 0) B (ok_gcd_of P) rfl ?_
  exact (tBc (tS_tupR (tEt (tLc (tE_bcall B (tLc tEv tLn) f_abs) (tLc (tE_bcall B (tLc tEv tLn) f_abs) tLn)))) (tBc (tS_while (tC_cmp tEv tEi s_ne) (tBc (tS_tupR (tEt (tLc tEv (tLc (tEb tEv tEv s_mod) tLn)))) tBn)) (tBc (tSr tEv) tBn)))
noncomputable def fb_gcd_all1 : DenS := (dsSeq (dsSet "found" (dCall d_gcd_of (dCons (dLoc "found") (dCons (dLoc "one") dNil)))) (dsSeq (dsIf (cVal (d2 oEq (dLoc "found") (dK (.int 1)))) (dsSeq (dsRet (dK (.int 1))) dsNil) dsNil) dsNil))
noncomputable def b_gcd_all : DenS := (dsSeq (dsSet "found" (dK (.int 0))) (dsSeq (dsFor (iSeq (dLoc "numbers")) (bindN "one") fb_gcd_all1) (dsSeq (dsRet (dLoc "found")) dsNil)))
noncomputable def d_gcd_all : DF := dFun ["numbers"] b_gcd_all
theorem ok_gcd_all (P : Params) : FnOk (K0 P) 102 fd_102 ["numbers"] := mkOk (ob_102 P) (ob_101 P) fun V => by show _ = _; kernel_rfl
theorem s_d_gcd_all {P : Params} (B : Base hO (K0 P) mg mb) : SndFc prog w hO 2 (.ref 102) d_gcd_all := by
  unfold d_gcd_all b_gcd_all
  refine t_fun (P := P) (n := 1) B (ok_gcd_all P) rfl ?_
  exact (tBc (tS_set tEi) (tBc (tS_for B (tI_seq tEv) (fun q => nomatch q) (tgt_name rfl (by kernel_rfl)) fun V B1 => (tBc (tS_set (tEc B1 (tLc tEv (tLc tEv tLn)) ((s_d_gcd_of B1).up rfl))) (tBc (tS_if (tC_cmp tEv tEi s_eq) (tBc (tSr tEi) tBn) tBn) tBn))) (tBc (tSr tEv) tBn)))
noncomputable def b_lcm_of : DenS := (dsSeq (dsRet (d2 oMul (d2 oDiv (dCall oAbs (dCons (dLoc "a") dNil)) (dCall d_gcd_of (dCons (dLoc "a") (dCons (dLoc "b") dNil)))) (dCall oAbs (dCons (dLoc "b") dNil)))) dsNil)
noncomputable def d_lcm_of : DF := dFun ["a", "b"] b_lcm_of
theorem ok_lcm_of (P : Params) : FnOk (K0 P) 109 fd_109 ["a", "b"] := mkOk (ob_109 P) (ob_108 P) fun V V => by show _ = _; kernel_rfl
theorem s_d_lcm_of {P : Params} (B : Base hO (K0 P) mg mb) : SndFc prog w hO 2 (.ref 109) d_lcm_of := by
  unfold d_lcm_of b_lcm_of
  refine t_fun (P := P) (n := 1) B (ok_lcm_of P) rfl ?_
  exact (tBc (tSr (tEb (tEb (tE_bcall B (tLc tEv tLn) f_abs) (tEc B (tLc tEv (tLc tEv tLn)) ((s_d_gcd_of B).up rfl)) s_div) (tE_bcall B (tLc tEv tLn) f_abs) s_mul)) tBn)
noncomputable def b_ratio : DenS := (dsSeq (dsIf (cVal (d2 oEq (dLoc "bottom") (dK (.int 0)))) (dsSeq dsFail dsNil) dsNil) (dsSeq (dsSet "common" (dCall d_gcd_of (dCons (dLoc "top") (dCons (dLoc "bottom") dNil)))) (dsSeq (dsIf (cVal (d2 oLt (dLoc "bottom") (dK (.int 0)))) (dsSeq (dsSet "common" (d1 oNeg (dLoc "common"))) dsNil) dsNil) (dsSeq (dsRet (dTup (dCons (d2 oDiv (dLoc "top") (dLoc "common")) (dCons (d2 oDiv (dLoc "bottom") (dLoc "common")) dNil)))) dsNil))))
noncomputable def d_ratio : DF := dFun ["top", "bottom"] b_ratio
theorem ok_ratio (P : Params) : FnOk (K0 P) 116 fd_116 ["top", "bottom"] := mkOk (ob_116 P) (ob_115 P) fun V V => by show _ = _; kernel_rfl
theorem s_d_ratio {P : Params} (B : Base hO (K0 P) mg mb) : SndFc prog w hO 2 (.ref 116) d_ratio := by
  unfold d_ratio b_ratio
  refine t_fun (P := P) (n := 1) B (ok_ratio P) rfl ?_
  exact (tBc (tS_if (tC_cmp tEv tEi s_eq) (tBc tS_fail tBn) tBn) (tBc (tS_set (tEc B (tLc tEv (tLc tEv tLn)) ((s_d_gcd_of B).up rfl))) (tBc (tS_if (tC_cmp tEv tEi s_lt) (tBc (tS_set (tE_un tEv s_neg)) tBn) tBn) (tBc (tSr (tEt (tLc (tEb tEv tEv s_div) (tLc (tEb tEv tEv s_div) tLn)))) tBn))))
noncomputable def b_add : DenS := (dsSeq (dsIf (cChain oEq oEq (d2 oGet (dLoc "a") (dK (.int 1))) (d2 oGet (dLoc "b") (dK (.int 1))) (dK (.int 1))) (dsSeq (dsRet (dTup (dCons (d2 oAdd (d2 oGet (dLoc "a") (dK (.int 0))) (d2 oGet (dLoc "b") (dK (.int 0)))) (dCons (dK (.int 1)) dNil)))) dsNil) dsNil) (dsSeq (dsRet (dCall d_ratio (dCons (d2 oAdd (d2 oMul (d2 oGet (dLoc "a") (dK (.int 0))) (d2 oGet (dLoc "b") (dK (.int 1)))) (d2 oMul (d2 oGet (dLoc "b") (dK (.int 0))) (d2 oGet (dLoc "a") (dK (.int 1))))) (dCons (d2 oMul (d2 oGet (dLoc "a") (dK (.int 1))) (d2 oGet (dLoc "b") (dK (.int 1)))) dNil)))) dsNil))
noncomputable def d_add : DF := dFun ["a", "b"] b_add
theorem ok_add (P : Params) : FnOk (K0 P) 123 fd_123 ["a", "b"] := mkOk (ob_123 P) (ob_122 P) fun V V => by show _ = _; kernel_rfl
theorem s_d_add {P : Params} (B : Base hO (K0 P) mg mb) : SndFc prog w hO 3 (.ref 123) d_add := by
  unfold d_add b_add
  refine t_fun (P := P) (n := 2) B (ok_add P) rfl ?_
  exact (tBc (tS_if (tC_chain (tEs tEv tEi) (tEs tEv tEi) tEi s_eq s_eq) (tBc (tSr (tEt (tLc (tEb (tEs tEv tEi) (tEs tEv tEi) s_add) (tLc tEi tLn)))) tBn) tBn) (tBc (tSr (tEc B (tLc (tEb (tEb (tEs tEv tEi) (tEs tEv tEi) s_mul) (tEb (tEs tEv tEi) (tEs tEv tEi) s_mul) s_add) (tLc (tEb (tEs tEv tEi) (tEs tEv tEi) s_mul) tLn)) ((s_d_ratio B).up rfl))) tBn))
noncomputable def b_neg : DenS := (dsSeq (dsRet (dTup (dCons (d1 oNeg (d2 oGet (dLoc "a") (dK (.int 0)))) (dCons (d2 oGet (dLoc "a") (dK (.int 1))) dNil)))) dsNil)
noncomputable def d_neg : DF := dFun ["a"] b_neg
theorem ok_neg (P : Params) : FnOk (K0 P) 130 fd_130 ["a"] := mkOk (ob_130 P) (ob_129 P) fun V => by show _ = _; kernel_rfl
theorem s_d_neg {P : Params} (B : Base hO (K0 P) mg mb) : SndFc prog w hO 1 (.ref 130) d_neg := by
  unfold d_neg b_neg
  refine t_fun (P := P) (n := 0) B (ok_neg P) rfl ?_
  exact (tBc (tSr (tEt (tLc (tE_un (tEs tEv tEi) s_neg) (tLc (tEs tEv tEi) tLn)))) tBn)
noncomputable def b_mul : DenS := (dsSeq (dsIf (cChain oEq oEq (d2 oGet (dLoc "a") (dK (.int 1))) (d2 oGet (dLoc "b") (dK (.int 1))) (dK (.int 1))) (dsSeq (dsRet (dTup (dCons (d2 oMul (d2 oGet (dLoc "a") (dK (.int 0))) (d2 oGet (dLoc "b") (dK (.int 0)))) (dCons (dK (.int 1)) dNil)))) dsNil) dsNil) (dsSeq (dsRet (dCall d_ratio (dCons (d2 oMul (d2 oGet (dLoc "a") (dK (.int 0))) (d2 oGet (dLoc "b") (dK (.int 0)))) (dCons (d2 oMul (d2 oGet (dLoc "a") (dK (.int 1))) (d2 oGet (dLoc "b") (dK (.int 1)))) dNil)))) dsNil))
noncomputable def d_mul : DF := dFun ["a", "b"] b_mul
theorem ok_mul (P : Params) : FnOk (K0 P) 137 fd_137 ["a", "b"] := mkOk (ob_137 P) (ob_136 P) fun V V => by show _ = _; kernel_rfl
theorem s_d_mul {P : Params} (B : Base hO (K0 P) mg mb) : SndFc prog w hO 3 (.ref 137) d_mul := by
  unfold d_mul b_mul
  refine t_fun (P := P) (n := 2) B (ok_mul P) rfl ?_
  exact (tBc (tS_if (tC_chain (tEs tEv tEi) (tEs tEv tEi) tEi s_eq s_eq) (tBc (tSr (tEt (tLc (tEb (tEs tEv tEi) (tEs tEv tEi) s_mul) (tLc tEi tLn)))) tBn) tBn) (tBc (tSr (tEc B (tLc (tEb (tEs tEv tEi) (tEs tEv tEi) s_mul) (tLc (tEb (tEs tEv tEi) (tEs tEv tEi) s_mul) tLn)) ((s_d_ratio B).up rfl))) tBn))
noncomputable def b_compare : DenS := (dsSeq (dsTupR ["left", "right"] (dTup (dCons (d2 oMul (d2 oGet (dLoc "a") (dK (.int 0))) (d2 oGet (dLoc "b") (dK (.int 1)))) (dCons (d2 oMul (d2 oGet (dLoc "b") (dK (.int 0))) (d2 oGet (dLoc "a") (dK (.int 1)))) dNil)))) (dsSeq (dsRet (d2 oSub (d2 oGt (dLoc "left") (dLoc "right")) (d2 oLt (dLoc "left") (dLoc "right")))) dsNil))
noncomputable def d_compare : DF := dFun ["a", "b"] b_compare
theorem ok_compare (P : Params) : FnOk (K0 P) 144 fd_144 ["a", "b"] := mkOk (ob_144 P) (ob_143 P) fun V V => by show _ = _; kernel_rfl
theorem s_d_compare {P : Params} (B : Base hO (K0 P) mg mb) : SndFc prog w hO 1 (.ref 144) d_compare := by
  unfold d_compare b_compare
  refine t_fun (P := P) (n := 0) B (ok_compare P) rfl ?_
  exact (tBc (tS_tupR (tEt (tLc (tEb (tEs tEv tEi) (tEs tEv tEi) s_mul) (tLc (tEb (tEs tEv tEi) (tEs tEv tEi) s_mul) tLn)))) (tBc (tSr (tEb (tE_cmp tEv tEv s_gt) (tE_cmp tEv tEv s_lt) s_sub)) tBn))
noncomputable def b_floor_of : DenS := (dsSeq (dsRet (d2 oDiv (d2 oGet (dLoc "a") (dK (.int 0))) (d2 oGet (dLoc "a") (dK (.int 1))))) dsNil)
noncomputable def d_floor_of : DF := dFun ["a"] b_floor_of
theorem ok_floor_of (P : Params) : FnOk (K0 P) 151 fd_151 ["a"] := mkOk (ob_151 P) (ob_150 P) fun V => by show _ = _; kernel_rfl
theorem s_d_floor_of {P : Params} (B : Base hO (K0 P) mg mb) : SndFc prog w hO 1 (.ref 151) d_floor_of := by
  unfold d_floor_of b_floor_of
  refine t_fun (P := P) (n := 0) B (ok_floor_of P) rfl ?_
  exact (tBc (tSr (tEb (tEs tEv tEi) (tEs tEv tEi) s_div)) tBn)
noncomputable def b_ceil_of : DenS := (dsSeq (dsRet (d1 oNeg (d2 oDiv (d1 oNeg (d2 oGet (dLoc "a") (dK (.int 0)))) (d2 oGet (dLoc "a") (dK (.int 1)))))) dsNil)
noncomputable def d_ceil_of : DF := dFun ["a"] b_ceil_of
theorem ok_ceil_of (P : Params) : FnOk (K0 P) 158 fd_158 ["a"] := mkOk (ob_158 P) (ob_157 P) fun V => by show _ = _; kernel_rfl
theorem s_d_ceil_of {P : Params} (B : Base hO (K0 P) mg mb) : SndFc prog w hO 1 (.ref 158) d_ceil_of := by
  unfold d_ceil_of b_ceil_of
  refine t_fun (P := P) (n := 0) B (ok_ceil_of P) rfl ?_
  exact (tBc (tSr (tE_un (tEb (tE_un (tEs tEv tEi) s_neg) (tEs tEv tEi) s_div) s_neg)) tBn)
noncomputable def b_is_whole : DenS := (dsSeq (dsRet (d2 oEq (d2 oGet (dLoc "a") (dK (.int 1))) (dK (.int 1)))) dsNil)
noncomputable def d_is_whole : DF := dFun ["a"] b_is_whole
theorem ok_is_whole (P : Params) : FnOk (K0 P) 165 fd_165 ["a"] := mkOk (ob_165 P) (ob_164 P) fun V => by show _ = _; kernel_rfl
theorem s_d_is_whole {P : Params} (B : Base hO (K0 P) mg mb) : SndFc prog w hO 1 (.ref 165) d_is_whole := by
  unfold d_is_whole b_is_whole
  refine t_fun (P := P) (n := 0) B (ok_is_whole P) rfl ?_
  exact (tBc (tSr (tE_cmp (tEs tEv tEi) tEi s_eq)) tBn)
noncomputable def fb_common_bottom1 : DenS := (dsSeq (dsSet "found" (dCall d_lcm_of (dCons (dLoc "found") (dCons (d2 oGet (dLoc "one") (dK (.int 1))) dNil)))) dsNil)
noncomputable def b_common_bottom : DenS := (dsSeq (dsSet "found" (dK (.int 1))) (dsSeq (dsFor (iSeq (dLoc "ratios")) (bindN "one") fb_common_bottom1) (dsSeq (dsRet (dLoc "found")) dsNil)))
noncomputable def d_common_bottom : DF := dFun ["ratios"] b_common_bottom
theorem ok_common_bottom (P : Params) : FnOk (K0 P) 172 fd_172 ["ratios"] := mkOk (ob_172 P) (ob_171 P) fun V => by show _ = _; kernel_rfl
theorem s_d_common_bottom {P : Params} (B : Base hO (K0 P) mg mb) : SndFc prog w hO 3 (.ref 172) d_common_bottom := by
  unfold d_common_bottom b_common_bottom
  refine t_fun (P := P) (n := 2) B (ok_common_bottom P) rfl ?_
  exact (tBc (tS_set tEi) (tBc (tS_for B (tI_seq tEv) (fun q => nomatch q) (tgt_name rfl (by kernel_rfl)) fun V B1 => (tBc (tS_set (tEc B1 (tLc tEv (tLc (tEs tEv tEi) tLn)) ((s_d_lcm_of B1).up rfl))) tBn)) (tBc (tSr tEv) tBn)))
noncomputable def b_want_small : DenS := (dsSeq (dsIf (cOr (cVal (d2 oGt (d2 oShr (dCall oAbs (dCons (d2 oGet (dLoc "value") (dK (.int 0))) dNil)) g_MOST_BITS) (dK (.int 0)))) (cOr (cVal (d2 oGt (d2 oShr (d2 oGet (dLoc "value") (dK (.int 1))) g_MOST_BITS) (dK (.int 0)))) cFalse)) (dsSeq dsFail dsNil) dsNil) dsNil)
noncomputable def d_want_small : DF := dFun ["value"] b_want_small
theorem ok_want_small (P : Params) : FnOk (K0 P) 499 fd_499 ["value"] := mkOk (ob_499 P) (ob_498 P) fun V => by show _ = _; kernel_rfl
theorem s_d_want_small {P : Params} (B : Base hO (K0 P) mg mb) : SndFc prog w hO 1 (.ref 499) d_want_small := by
  unfold d_want_small b_want_small
  refine t_fun (P := P) (n := 0) B (ok_want_small P) rfl ?_
  exact (tBc (tS_if (tC_or (tC_cmp (tEb (tE_bcall B (tLc (tEs tEv tEi) tLn) f_abs) (tE_const B kv_MOST_BITS) s_shr) tEi s_gt) (tC_or (tC_cmp (tEb (tEs tEv tEi) (tE_const B kv_MOST_BITS) s_shr) tEi s_gt) tC_or0)) (tBc tS_fail tBn) tBn) tBn)
noncomputable def b_is_number : DenS := (dsSeq (dsRet (dAnd (dIsT "int" (dLoc "thing")) (d1 oNot (dIsT "bool" (dLoc "thing"))))) dsNil)
noncomputable def d_is_number : DF := dFun ["thing"] b_is_number
theorem ok_is_number (P : Params) : FnOk (K0 P) 716 fd_716 ["thing"] := mkOk (ob_716 P) (ob_715 P) fun V => by show _ = _; kernel_rfl
theorem s_d_is_number {P : Params} (B : Base hO (K0 P) mg mb) : SndFc prog w hO 1 (.ref 716) d_is_number := by
  unfold d_is_number b_is_number
  refine t_fun (P := P) (n := 0) B (ok_is_number P) rfl ?_
  exact (tBc (tSr (tE_and (tE_isT B tEv) (tE_bool1 (tE_un (tE_isT B tEv) s_not)))) tBn)
noncomputable def b_is_tuple_of : DenS := (dsSeq (dsRet (dAnd (dIsT "tuple" (dLoc "thing")) (d2 oEq (dCall oLen (dCons (dLoc "thing") dNil)) (dLoc "many")))) dsNil)
noncomputable def d_is_tuple_of : DF := dFun ["thing", "many"] b_is_tuple_of
theorem ok_is_tuple_of (P : Params) : FnOk (K0 P) 723 fd_723 ["thing", "many"] := mkOk (ob_723 P) (ob_722 P) fun V V => by show _ = _; kernel_rfl
theorem s_d_is_tuple_of {P : Params} (B : Base hO (K0 P) mg mb) : SndFc prog w hO 1 (.ref 723) d_is_tuple_of := by
  unfold d_is_tuple_of b_is_tuple_of
  refine t_fun (P := P) (n := 0) B (ok_is_tuple_of P) rfl ?_
  exact (tBc (tSr (tE_and (tE_isT B tEv) (tE_bool1 (tE_cmp (tE_bcall B (tLc tEv tLn) f_len) tEv s_eq)))) tBn)
noncomputable def b_is_ratio : DenS := (dsSeq (dsIf (cOr (cNot (cVal (dCall d_is_tuple_of (dCons (dLoc "thing") (dCons (dK (.int 2)) dNil))))) (cOr (cNot (cVal (dCall d_is_number (dCons (d2 oGet (dLoc "thing") (dK (.int 0))) dNil)))) (cOr (cNot (cVal (dCall d_is_number (dCons (d2 oGet (dLoc "thing") (dK (.int 1))) dNil)))) cFalse))) (dsSeq (dsRet (dK (.bool false))) dsNil) dsNil) (dsSeq (dsRet (dAnd (d2 oGt (d2 oGet (dLoc "thing") (dK (.int 1))) (dK (.int 0))) (d2 oEq (dCall d_ratio (dCons (d2 oGet (dLoc "thing") (dK (.int 0))) (dCons (d2 oGet (dLoc "thing") (dK (.int 1))) dNil))) (dLoc "thing")))) dsNil))
noncomputable def d_is_ratio : DF := dFun ["thing"] b_is_ratio
theorem ok_is_ratio (P : Params) : FnOk (K0 P) 730 fd_730 ["thing"] := mkOk (ob_730 P) (ob_729 P) fun V => by show _ = _; kernel_rfl
theorem s_d_is_ratio {P : Params} (B : Base hO (K0 P) mg mb) : SndFc prog w hO 3 (.ref 730) d_is_ratio := by
  unfold d_is_ratio b_is_ratio
  refine t_fun (P := P) (n := 2) B (ok_is_ratio P) rfl ?_
  exact (tBc (tS_if (tC_or (tC_not (tC_val (tEc B (tLc tEv (tLc tEi tLn)) ((s_d_is_tuple_of B).up rfl)))) (tC_or (tC_not (tC_val (tEc B (tLc (tEs tEv tEi) tLn) ((s_d_is_number B).up rfl)))) (tC_or (tC_not (tC_val (tEc B (tLc (tEs tEv tEi) tLn) ((s_d_is_number B).up rfl)))) tC_or0))) (tBc (tSr tE_bool) tBn) tBn) (tBc (tSr (tE_and (tE_cmp (tEs tEv tEi) tEi s_gt) (tE_bool1 (tE_cmp (tEc B (tLc (tEs tEv tEi) (tLc (tEs tEv tEi) tLn)) ((s_d_ratio B).up rfl)) tEv s_eq)))) tBn))
noncomputable def b_is_above_nought : DenS := (dsSeq (dsRet (dAnd (dCall d_is_ratio (dCons (dLoc "thing") dNil)) (d2 oGt (d2 oGet (dLoc "thing") (dK (.int 0))) (dK (.int 0))))) dsNil)
noncomputable def d_is_above_nought : DF := dFun ["thing"] b_is_above_nought
theorem ok_is_above_nought (P : Params) : FnOk (K0 P) 737 fd_737 ["thing"] := mkOk (ob_737 P) (ob_736 P) fun V => by show _ = _; kernel_rfl
theorem s_d_is_above_nought {P : Params} (B : Base hO (K0 P) mg mb) : SndFc prog w hO 4 (.ref 737) d_is_above_nought := by
  unfold d_is_above_nought b_is_above_nought
  refine t_fun (P := P) (n := 3) B (ok_is_above_nought P) rfl ?_
  exact (tBc (tSr (tE_and (tEc B (tLc tEv tLn) ((s_d_is_ratio B).up rfl)) (tE_bool1 (tE_cmp (tEs tEv tEi) tEi s_gt)))) tBn)
end
end
section
section
variable {prog : Program} {w : World} {hO : HB} {mg mb : Str -> Option Value}
noncomputable def b_Bankis_number_sort : DenS := (dsSeq (dsRet (dOr (d2 oEq (dLoc "s") g_INT) (d2 oEq (dLoc "s") g_REAL))) dsNil)
noncomputable def d_Bankis_number_sort : DF := dFun ["self", "s"] b_Bankis_number_sort
theorem ok_Bankis_number_sort (P : Params) : FnOk (K0 P) 214 fd_214 ["self", "s"] := mkOk (ob_214 P) (ob_213 P) fun V V => by show _ = _; kernel_rfl
theorem s_d_Bankis_number_sort {P : Params} (B : Base hO (K0 P) mg mb) : SndFc prog w hO 1 (.ref 214) d_Bankis_number_sort := by
  unfold d_Bankis_number_sort b_Bankis_number_sort
  refine t_fun (P := P) (n := 0) B (ok_Bankis_number_sort P) rfl ?_
  exact (tBc (tSr (tE_or (tE_cmp tEv (tE_const B kv_INT) s_eq) (tE_bool1 (tE_cmp tEv (tE_const B kv_REAL) s_eq)))) tBn)
noncomputable def b_Bankdeclare_fun : DenS := (dsSeq (dsExpr (dMeth isListV oAppend (d1 (oAttr 705 "fun_names") (dLoc "self")) (dCons (dLoc "name") dNil))) (dsSeq (dsExpr (dMeth isListV oAppend (d1 (oAttr 705 "fun_args") (dLoc "self")) (dCons (dCall oTuple (dCons (dLoc "arg_sorts") dNil)) dNil))) (dsSeq (dsExpr (dMeth isListV oAppend (d1 (oAttr 705 "fun_results") (dLoc "self")) (dCons (dLoc "result") dNil))) (dsSeq (dsRet (d2 oSub (dCall oLen (dCons (d1 (oAttr 705 "fun_names") (dLoc "self")) dNil)) (dK (.int 1)))) dsNil))))
noncomputable def d_Bankdeclare_fun : DF := dFun ["self", "name", "arg_sorts", "result"] b_Bankdeclare_fun
theorem ok_Bankdeclare_fun (P : Params) : FnOk (K0 P) 228 fd_228 ["self", "name", "arg_sorts", "result"] := mkOk (ob_228 P) (ob_227 P) fun V V V V => by show _ = _; kernel_rfl
theorem s_d_Bankdeclare_fun {P : Params} (B : Base hO (K0 P) mg mb) : SndFc prog w hO 1 (.ref 228) d_Bankdeclare_fun := by
  unfold d_Bankdeclare_fun b_Bankdeclare_fun
  refine t_fun (P := P) (n := 0) B (ok_Bankdeclare_fun P) rfl ?_
  exact (tBc (tS_expr (tE_meth (tEa B tEv) (tLc tEv tLn) m_append f_append)) (tBc (tS_expr (tE_meth (tEa B tEv) (tLc (tE_tcall B (tLc tEv tLn) f_tuple) tLn) m_append f_append)) (tBc (tS_expr (tE_meth (tEa B tEv) (tLc tEv tLn) m_append f_append)) (tBc (tSr (tEb (tE_bcall B (tLc (tEa B tEv) tLn) f_len) tEi s_sub)) tBn))))
noncomputable def b_Bankop : DenS := (dsSeq (dsRet (d2 oGet (d1 (oAttr 705 "term_ops") (dLoc "self")) (dLoc "t"))) dsNil)
noncomputable def d_Bankop : DF := dFun ["self", "t"] b_Bankop
theorem ok_Bankop (P : Params) : FnOk (K0 P) 277 fd_277 ["self", "t"] := mkOk (ob_277 P) (ob_276 P) fun V V => by show _ = _; kernel_rfl
theorem s_d_Bankop {P : Params} (B : Base hO (K0 P) mg mb) : SndFc prog w hO 1 (.ref 277) d_Bankop := by
  unfold d_Bankop b_Bankop
  refine t_fun (P := P) (n := 0) B (ok_Bankop P) rfl ?_
  exact (tBc (tSr (tEs (tEa B tEv) tEv)) tBn)
noncomputable def b_Bankargs : DenS := (dsSeq (dsRet (d2 oGet (d1 (oAttr 705 "term_args") (dLoc "self")) (dLoc "t"))) dsNil)
noncomputable def d_Bankargs : DF := dFun ["self", "t"] b_Bankargs
theorem ok_Bankargs (P : Params) : FnOk (K0 P) 284 fd_284 ["self", "t"] := mkOk (ob_284 P) (ob_283 P) fun V V => by show _ = _; kernel_rfl
theorem s_d_Bankargs {P : Params} (B : Base hO (K0 P) mg mb) : SndFc prog w hO 1 (.ref 284) d_Bankargs := by
  unfold d_Bankargs b_Bankargs
  refine t_fun (P := P) (n := 0) B (ok_Bankargs P) rfl ?_
  exact (tBc (tSr (tEs (tEa B tEv) tEv)) tBn)
noncomputable def b_Banksort : DenS := (dsSeq (dsRet (d2 oGet (d1 (oAttr 705 "term_sorts") (dLoc "self")) (dLoc "t"))) dsNil)
noncomputable def d_Banksort : DF := dFun ["self", "t"] b_Banksort
theorem ok_Banksort (P : Params) : FnOk (K0 P) 291 fd_291 ["self", "t"] := mkOk (ob_291 P) (ob_290 P) fun V V => by show _ = _; kernel_rfl
theorem s_d_Banksort {P : Params} (B : Base hO (K0 P) mg mb) : SndFc prog w hO 1 (.ref 291) d_Banksort := by
  unfold d_Banksort b_Banksort
  refine t_fun (P := P) (n := 0) B (ok_Banksort P) rfl ?_
  exact (tBc (tSr (tEs (tEa B tEv) tEv)) tBn)
noncomputable def b_Bankdata : DenS := (dsSeq (dsRet (d2 oGet (d1 (oAttr 705 "term_datas") (dLoc "self")) (dLoc "t"))) dsNil)
noncomputable def d_Bankdata : DF := dFun ["self", "t"] b_Bankdata
theorem ok_Bankdata (P : Params) : FnOk (K0 P) 298 fd_298 ["self", "t"] := mkOk (ob_298 P) (ob_297 P) fun V V => by show _ = _; kernel_rfl
theorem s_d_Bankdata {P : Params} (B : Base hO (K0 P) mg mb) : SndFc prog w hO 1 (.ref 298) d_Bankdata := by
  unfold d_Bankdata b_Bankdata
  refine t_fun (P := P) (n := 0) B (ok_Bankdata P) rfl ?_
  exact (tBc (tSr (tEs (tEa B tEv) tEv)) tBn)
noncomputable def b_Bankmake : DenS := (dsSeq (dsSet "key" (dTup (dCons (dLoc "op") (dCons (dLoc "args") (dCons (dLoc "sort") (dCons (dLoc "data") dNil)))))) (dsSeq (dsSet "found" (dMeth isDictV oGetOr (d1 (oAttr 705 "numbers") (dLoc "self")) (dCons (dLoc "key") (dCons (dK (.int 0)) dNil)))) (dsSeq (dsIf (cVal (d2 oEq (dLoc "found") (dK (.int 0)))) (dsSeq (dsSet "found" (dCall oLen (dCons (d1 (oAttr 705 "term_ops") (dLoc "self")) dNil))) (dsSeq (dsExpr (dMeth isListV oAppend (d1 (oAttr 705 "term_ops") (dLoc "self")) (dCons (dLoc "op") dNil))) (dsSeq (dsExpr (dMeth isListV oAppend (d1 (oAttr 705 "term_args") (dLoc "self")) (dCons (dLoc "args") dNil))) (dsSeq (dsExpr (dMeth isListV oAppend (d1 (oAttr 705 "term_sorts") (dLoc "self")) (dCons (dLoc "sort") dNil))) (dsSeq (dsExpr (dMeth isListV oAppend (d1 (oAttr 705 "term_datas") (dLoc "self")) (dCons (dLoc "data") dNil))) (dsSeq (dsItem (dLoc "found") (d1 (oAttr 705 "numbers") (dLoc "self")) (dLoc "key")) dsNil)))))) dsNil) (dsSeq (dsRet (dLoc "found")) dsNil))))
noncomputable def d_Bankmake : DF := dFun ["self", "op", "args", "sort", "data"] b_Bankmake
theorem ok_Bankmake (P : Params) : FnOk (K0 P) 319 fd_319 ["self", "op", "args", "sort", "data"] := mkOk (ob_319 P) (ob_318 P) fun V V V V V => by show _ = _; kernel_rfl
theorem s_d_Bankmake {P : Params} (B : Base hO (K0 P) mg mb) : SndFc prog w hO 1 (.ref 319) d_Bankmake := by
  unfold d_Bankmake b_Bankmake
  refine t_fun (P := P) (n := 0) B (ok_Bankmake P) rfl ?_
  exact (tBc (tS_set (tEt (tLc tEv (tLc tEv (tLc tEv (tLc tEv tLn)))))) (tBc (tS_set (tE_meth (tEa B tEv) (tLc tEv (tLc tEi tLn)) m_get f_get)) (tBc (tS_if (tC_cmp tEv tEi s_eq) (tBc (tS_set (tE_bcall B (tLc (tEa B tEv) tLn) f_len)) (tBc (tS_expr (tE_meth (tEa B tEv) (tLc tEv tLn) m_append f_append)) (tBc (tS_expr (tE_meth (tEa B tEv) (tLc tEv tLn) m_append f_append)) (tBc (tS_expr (tE_meth (tEa B tEv) (tLc tEv tLn) m_append f_append)) (tBc (tS_expr (tE_meth (tEa B tEv) (tLc tEv tLn) m_append f_append)) (tBc (tS_item tEv (tEa B tEv) tEv) tBn)))))) tBn) (tBc (tSr tEv) tBn))))
noncomputable def b_Bankfresh_const : DenS := (dsSeq (dsRet (dMeth (ownOk 705 "make") d_Bankmake (dLoc "self") (dCons (dK (.str "app")) (dCons (dTup dNil) (dCons (dLoc "s") (dCons (dMeth (ownOk 705 "declare_fun") d_Bankdeclare_fun (dLoc "self") (dCons (dLoc "name") (dCons (dTup dNil) (dCons (dLoc "s") dNil)))) dNil)))))) dsNil)
noncomputable def d_Bankfresh_const : DF := dFun ["self", "name", "s"] b_Bankfresh_const
theorem ok_Bankfresh_const (P : Params) : FnOk (K0 P) 242 fd_242 ["self", "name", "s"] := mkOk (ob_242 P) (ob_241 P) fun V V V => by show _ = _; kernel_rfl
theorem s_d_Bankfresh_const {P : Params} (B : Base hO (K0 P) mg mb) : SndFc prog w hO 2 (.ref 242) d_Bankfresh_const := by
  unfold d_Bankfresh_const b_Bankfresh_const
  refine t_fun (P := P) (n := 1) B (ok_Bankfresh_const P) rfl ?_
  exact (tBc (tSr (tE_own B tEv (tLc tE_str (tLc (tEt tLn) (tLc tEv (tLc (tE_own B tEv (tLc tEv (tLc (tEt tLn) (tLc tEv tLn))) ((s_d_Bankdeclare_fun B).up rfl)) tLn)))) ((s_d_Bankmake B).up rfl))) tBn)
noncomputable def b_Bankwant : DenS := (dsSeq (dsIf (cVal (d2 oNe (d2 oGet (d1 (oAttr 705 "term_sorts") (dLoc "self")) (dLoc "t")) (dLoc "s"))) (dsSeq dsFail dsNil) dsNil) dsNil)
noncomputable def d_Bankwant : DF := dFun ["self", "t", "s", "where"] b_Bankwant
theorem ok_Bankwant (P : Params) : FnOk (K0 P) 340 fd_340 ["self", "t", "s", "where"] := mkOk (ob_340 P) (ob_339 P) fun V V V V => by show _ = _; kernel_rfl
theorem s_d_Bankwant {P : Params} (B : Base hO (K0 P) mg mb) : SndFc prog w hO 1 (.ref 340) d_Bankwant := by
  unfold d_Bankwant b_Bankwant
  refine t_fun (P := P) (n := 0) B (ok_Bankwant P) rfl ?_
  exact (tBc (tS_if (tC_cmp (tEs (tEa B tEv) tEv) tEv s_ne) (tBc tS_fail tBn) tBn) tBn)
noncomputable def fb_Bankwant_all1 : DenS := (dsSeq (dsExpr (dMeth (ownOk 705 "want") d_Bankwant (dLoc "self") (dCons (dLoc "t") (dCons (dLoc "s") (dCons (dLoc "where") dNil))))) dsNil)
noncomputable def b_Bankwant_all : DenS := (dsSeq (dsFor (iSeq (dLoc "some")) (bindN "t") fb_Bankwant_all1) dsNil)
noncomputable def d_Bankwant_all : DF := dFun ["self", "some", "s", "where"] b_Bankwant_all
theorem ok_Bankwant_all (P : Params) : FnOk (K0 P) 347 fd_347 ["self", "some", "s", "where"] := mkOk (ob_347 P) (ob_346 P) fun V V V V => by show _ = _; kernel_rfl
theorem s_d_Bankwant_all {P : Params} (B : Base hO (K0 P) mg mb) : SndFc prog w hO 2 (.ref 347) d_Bankwant_all := by
  unfold d_Bankwant_all b_Bankwant_all
  refine t_fun (P := P) (n := 1) B (ok_Bankwant_all P) rfl ?_
  exact (tBc (tS_for B (tI_seq tEv) (fun q => nomatch q) (tgt_name rfl (by kernel_rfl)) fun V B1 => (tBc (tS_expr (tE_own B1 tEv (tLc tEv (tLc tEv (tLc tEv tLn))) ((s_d_Bankwant B1).up rfl))) tBn)) tBn)
noncomputable def b_Bank_init : DenS := (dsSeq (dsAttr 705 "sort_names" (dLst (dCons (dK (.str "Bool")) (dCons (dK (.str "Int")) (dCons (dK (.str "Real")) dNil)))) (dLoc "self")) (dsSeq (dsAttr 705 "sort_widths" (dLst (dCons (dK (.int 0)) (dCons (dK (.int 0)) (dCons (dK (.int 0)) dNil)))) (dLoc "self")) (dsSeq (dsAttr 705 "fun_names" (dLstM dNil) (dLoc "self")) (dsSeq (dsAttr 705 "fun_args" (dLstM dNil) (dLoc "self")) (dsSeq (dsAttr 705 "fun_results" (dLstM dNil) (dLoc "self")) (dsSeq (dsAttr 705 "fresh_count" (dK (.int 0)) (dLoc "self")) (dsSeq (dsAttr 705 "term_ops" (dLstM (dCons (dK (.str "")) dNil)) (dLoc "self")) (dsSeq (dsAttr 705 "term_args" (dLstM (dCons (dTup dNil) dNil)) (dLoc "self")) (dsSeq (dsAttr 705 "term_sorts" (dLstM (dCons g_BOOL dNil)) (dLoc "self")) (dsSeq (dsAttr 705 "term_datas" (dLstM (dCons (dK (.int 0)) dNil)) (dLoc "self")) (dsSeq (dsAttr 705 "numbers" (dEmpty (.td [])) (dLoc "self")) (dsSeq (dsAttr 705 "true_number" (dMeth (ownOk 705 "make") d_Bankmake (dLoc "self") (dCons (dK (.str "true")) (dCons (dTup dNil) (dCons g_BOOL (dCons (dK (.int 0)) dNil))))) (dLoc "self")) (dsSeq (dsAttr 705 "false_number" (dMeth (ownOk 705 "make") d_Bankmake (dLoc "self") (dCons (dK (.str "false")) (dCons (dTup dNil) (dCons g_BOOL (dCons (dK (.int 0)) dNil))))) (dLoc "self")) dsNil)))))))))))))
noncomputable def d_Bank_init : DF := dFun ["self"] b_Bank_init
theorem ok_Bank_init (P : Params) : FnOk (K0 P) 186 fd_186 ["self"] := mkOk (ob_186 P) (ob_185 P) fun V => by show _ = _; kernel_rfl
theorem s_d_Bank_init {P : Params} (B : Base hO (K0 P) mg mb) : SndFc prog w hO 2 (.ref 186) d_Bank_init := by
  unfold d_Bank_init b_Bank_init
  refine t_fun (P := P) (n := 1) B (ok_Bank_init P) rfl ?_
  exact (tBc (tS_attr B (tE_Lst (tLc tE_str (tLc tE_str (tLc tE_str tLn)))) tEv) (tBc (tS_attr B (tE_Lst (tLc tEi (tLc tEi (tLc tEi tLn)))) tEv) (tBc (tS_attr B (tE_LstM tLn) tEv) (tBc (tS_attr B (tE_LstM tLn) tEv) (tBc (tS_attr B (tE_LstM tLn) tEv) (tBc (tS_attr B tEi tEv) (tBc (tS_attr B (tE_LstM (tLc tE_str tLn)) tEv) (tBc (tS_attr B (tE_LstM (tLc (tEt tLn) tLn)) tEv) (tBc (tS_attr B (tE_LstM (tLc (tE_const B kv_BOOL) tLn)) tEv) (tBc (tS_attr B (tE_LstM (tLc tEi tLn)) tEv) (tBc (tS_attr B (tE_empty (.inr (.inr rfl))) tEv) (tBc (tS_attr B (tE_own B tEv (tLc tE_str (tLc (tEt tLn) (tLc (tE_const B kv_BOOL) (tLc tEi tLn)))) ((s_d_Bankmake B).up rfl)) tEv) (tBc (tS_attr B (tE_own B tEv (tLc tE_str (tLc (tEt tLn) (tLc (tE_const B kv_BOOL) (tLc tEi tLn)))) ((s_d_Bankmake B).up rfl)) tEv) tBn)))))))))))))
noncomputable def b_NumberBanknum : DenS := (dsSeq (dsIf (cNot (cVal (dMeth (ownOk 705 "is_number_sort") d_Bankis_number_sort (dLoc "self") (dCons (dLoc "s") dNil)))) (dsSeq dsFail dsNil) dsNil) (dsSeq (dsIf (cAnd (cVal (d2 oEq (dLoc "s") g_INT)) (cAnd (cNot (cVal (dCall d_is_whole (dCons (dLoc "value") dNil)))) cTrue)) (dsSeq dsFail dsNil) dsNil) (dsSeq (dsExpr (dCall d_want_small (dCons (dLoc "value") dNil))) (dsSeq (dsRet (dMeth (ownOk 705 "make") d_Bankmake (dLoc "self") (dCons (dK (.str "num")) (dCons (dTup dNil) (dCons (dLoc "s") (dCons (dLoc "value") dNil)))))) dsNil))))
noncomputable def d_NumberBanknum : DF := dFun ["self", "value", "s"] b_NumberBanknum
theorem ok_NumberBanknum (P : Params) : FnOk (K0 P) 513 fd_513 ["self", "value", "s"] := mkOk (ob_513 P) (ob_512 P) fun V V V => by show _ = _; kernel_rfl
theorem s_d_NumberBanknum {P : Params} (B : Base hO (K0 P) mg mb) : SndFc prog w hO 2 (.ref 513) d_NumberBanknum := by
  unfold d_NumberBanknum b_NumberBanknum
  refine t_fun (P := P) (n := 1) B (ok_NumberBanknum P) rfl ?_
  exact (tBc (tS_if (tC_not (tC_val (tE_own B tEv (tLc tEv tLn) ((s_d_Bankis_number_sort B).up rfl)))) (tBc tS_fail tBn) tBn) (tBc (tS_if (tC_and (tC_cmp tEv (tE_const B kv_INT) s_eq) (tC_and (tC_not (tC_val (tEc B (tLc tEv tLn) ((s_d_is_whole B).up rfl)))) tC_and0)) (tBc tS_fail tBn) tBn) (tBc (tS_expr (tEc B (tLc tEv tLn) ((s_d_want_small B).up rfl))) (tBc (tSr (tE_own B tEv (tLc tE_str (tLc (tEt tLn) (tLc tEv (tLc tEv tLn)))) ((s_d_Bankmake B).up rfl))) tBn))))
noncomputable def b_NumberBankwant_number : DenS := (dsSeq (dsIf (cNot (cVal (dMeth (ownOk 705 "is_number_sort") d_Bankis_number_sort (dLoc "self") (dCons (d2 oGet (d1 (oAttr 705 "term_sorts") (dLoc "self")) (dLoc "t")) dNil)))) (dsSeq dsFail dsNil) dsNil) dsNil)
noncomputable def d_NumberBankwant_number : DF := dFun ["self", "t", "where"] b_NumberBankwant_number
theorem ok_NumberBankwant_number (P : Params) : FnOk (K0 P) 520 fd_520 ["self", "t", "where"] := mkOk (ob_520 P) (ob_519 P) fun V V V => by show _ = _; kernel_rfl
theorem s_d_NumberBankwant_number {P : Params} (B : Base hO (K0 P) mg mb) : SndFc prog w hO 2 (.ref 520) d_NumberBankwant_number := by
  unfold d_NumberBankwant_number b_NumberBankwant_number
  refine t_fun (P := P) (n := 1) B (ok_NumberBankwant_number P) rfl ?_
  exact (tBc (tS_if (tC_not (tC_val (tE_own B tEv (tLc (tEs (tEa B tEv) tEv) tLn) ((s_d_Bankis_number_sort B).up rfl)))) (tBc tS_fail tBn) tBn) tBn)
noncomputable def b_NumberBankplus : DenS := (dsSeq (dsIf (cVal (d2 oEq (dCall oLen (dCons (dLoc "some") dNil)) (dK (.int 0)))) (dsSeq dsFail dsNil) dsNil) (dsSeq (dsExpr (dMeth (ownOk 705 "want_number") d_NumberBankwant_number (dLoc "self") (dCons (d2 oGet (dLoc "some") (dK (.int 0))) (dCons (dK (.str "+")) dNil)))) (dsSeq (dsExpr (dMeth (ownOk 705 "want_all") d_Bankwant_all (dLoc "self") (dCons (dLoc "some") (dCons (d2 oGet (d1 (oAttr 705 "term_sorts") (dLoc "self")) (d2 oGet (dLoc "some") (dK (.int 0)))) (dCons (dK (.str "+")) dNil))))) (dsSeq (dsRet (dIf (cVal (d2 oEq (dCall oLen (dCons (dLoc "some") dNil)) (dK (.int 1)))) (d2 oGet (dLoc "some") (dK (.int 0))) (dMeth (ownOk 705 "make") d_Bankmake (dLoc "self") (dCons (dK (.str "+")) (dCons (dCall oTuple (dCons (dLoc "some") dNil)) (dCons (d2 oGet (d1 (oAttr 705 "term_sorts") (dLoc "self")) (d2 oGet (dLoc "some") (dK (.int 0)))) (dCons (dK (.int 0)) dNil))))))) dsNil))))
noncomputable def d_NumberBankplus : DF := dFun ["self", "some"] b_NumberBankplus
theorem ok_NumberBankplus (P : Params) : FnOk (K0 P) 527 fd_527 ["self", "some"] := mkOk (ob_527 P) (ob_526 P) fun V V => by show _ = _; kernel_rfl
theorem s_d_NumberBankplus {P : Params} (B : Base hO (K0 P) mg mb) : SndFc prog w hO 3 (.ref 527) d_NumberBankplus := by
  unfold d_NumberBankplus b_NumberBankplus
  refine t_fun (P := P) (n := 2) B (ok_NumberBankplus P) rfl ?_
  exact (tBc (tS_if (tC_cmp (tE_bcall B (tLc tEv tLn) f_len) tEi s_eq) (tBc tS_fail tBn) tBn) (tBc (tS_expr (tE_own B tEv (tLc (tEs tEv tEi) (tLc tE_str tLn)) ((s_d_NumberBankwant_number B).up rfl))) (tBc (tS_expr (tE_own B tEv (tLc tEv (tLc (tEs (tEa B tEv) (tEs tEv tEi)) (tLc tE_str tLn))) ((s_d_Bankwant_all B).up rfl))) (tBc (tSr (tE_if (tC_cmp (tE_bcall B (tLc tEv tLn) f_len) tEi s_eq) (tEs tEv tEi) (tE_own B tEv (tLc tE_str (tLc (tE_tcall B (tLc tEv tLn) f_tuple) (tLc (tEs (tEa B tEv) (tEs tEv tEi)) (tLc tEi tLn)))) ((s_d_Bankmake B).up rfl)))) tBn))))
noncomputable def b_NumberBanktimes_num : DenS := (dsSeq (dsExpr (dMeth (ownOk 705 "want_number") d_NumberBankwant_number (dLoc "self") (dCons (dLoc "t") (dCons (dK (.str "*")) dNil)))) (dsSeq (dsSet "s" (d2 oGet (d1 (oAttr 705 "term_sorts") (dLoc "self")) (dLoc "t"))) (dsSeq (dsIf (cVal (d2 oEq (d2 oGet (d1 (oAttr 705 "term_ops") (dLoc "self")) (dLoc "t")) (dK (.str "num")))) (dsSeq (dsRet (dMeth (ownOk 705 "num") d_NumberBanknum (dLoc "self") (dCons (dCall d_mul (dCons (dLoc "value") (dCons (d2 oGet (d1 (oAttr 705 "term_datas") (dLoc "self")) (dLoc "t")) dNil))) (dCons (dLoc "s") dNil)))) dsNil) dsNil) (dsSeq (dsRet (dIf (cVal (d2 oEq (dLoc "value") (dTup (dCons (dK (.int 1)) (dCons (dK (.int 1)) dNil))))) (dLoc "t") (dMeth (ownOk 705 "make") d_Bankmake (dLoc "self") (dCons (dK (.str "*")) (dCons (dTup (dCons (dMeth (ownOk 705 "num") d_NumberBanknum (dLoc "self") (dCons (dLoc "value") (dCons (dLoc "s") dNil))) (dCons (dLoc "t") dNil))) (dCons (dLoc "s") (dCons (dK (.int 0)) dNil))))))) dsNil))))
noncomputable def d_NumberBanktimes_num : DF := dFun ["self", "value", "t"] b_NumberBanktimes_num
theorem ok_NumberBanktimes_num (P : Params) : FnOk (K0 P) 534 fd_534 ["self", "value", "t"] := mkOk (ob_534 P) (ob_533 P) fun V V V => by show _ = _; kernel_rfl
theorem s_d_NumberBanktimes_num {P : Params} (B : Base hO (K0 P) mg mb) : SndFc prog w hO 4 (.ref 534) d_NumberBanktimes_num := by
  unfold d_NumberBanktimes_num b_NumberBanktimes_num
  refine t_fun (P := P) (n := 3) B (ok_NumberBanktimes_num P) rfl ?_
  exact (tBc (tS_expr (tE_own B tEv (tLc tEv (tLc tE_str tLn)) ((s_d_NumberBankwant_number B).up rfl))) (tBc (tS_set (tEs (tEa B tEv) tEv)) (tBc (tS_if (tC_cmp (tEs (tEa B tEv) tEv) tE_str s_eq) (tBc (tSr (tE_own B tEv (tLc (tEc B (tLc tEv (tLc (tEs (tEa B tEv) tEv) tLn)) ((s_d_mul B).up rfl)) (tLc tEv tLn)) ((s_d_NumberBanknum B).up rfl))) tBn) tBn) (tBc (tSr (tE_if (tC_cmp tEv (tEt (tLc tEi (tLc tEi tLn))) s_eq) tEv (tE_own B tEv (tLc tE_str (tLc (tEt (tLc (tE_own B tEv (tLc tEv (tLc tEv tLn)) ((s_d_NumberBanknum B).up rfl)) (tLc tEv tLn))) (tLc tEv (tLc tEi tLn)))) ((s_d_Bankmake B).up rfl)))) tBn))))
noncomputable def b_NumberBankle : DenS := (dsSeq (dsExpr (dMeth (ownOk 705 "want_number") d_NumberBankwant_number (dLoc "self") (dCons (dLoc "a") (dCons (dK (.str "<=")) dNil)))) (dsSeq (dsExpr (dMeth (ownOk 705 "want") d_Bankwant (dLoc "self") (dCons (dLoc "b") (dCons (d2 oGet (d1 (oAttr 705 "term_sorts") (dLoc "self")) (dLoc "a")) (dCons (dK (.str "<=")) dNil))))) (dsSeq (dsRet (dMeth (ownOk 705 "make") d_Bankmake (dLoc "self") (dCons (dK (.str "<=")) (dCons (dTup (dCons (dLoc "a") (dCons (dLoc "b") dNil))) (dCons g_BOOL (dCons (dK (.int 0)) dNil)))))) dsNil)))
noncomputable def d_NumberBankle : DF := dFun ["self", "a", "b"] b_NumberBankle
theorem ok_NumberBankle (P : Params) : FnOk (K0 P) 569 fd_569 ["self", "a", "b"] := mkOk (ob_569 P) (ob_568 P) fun V V V => by show _ = _; kernel_rfl
theorem s_d_NumberBankle {P : Params} (B : Base hO (K0 P) mg mb) : SndFc prog w hO 3 (.ref 569) d_NumberBankle := by
  unfold d_NumberBankle b_NumberBankle
  refine t_fun (P := P) (n := 2) B (ok_NumberBankle P) rfl ?_
  exact (tBc (tS_expr (tE_own B tEv (tLc tEv (tLc tE_str tLn)) ((s_d_NumberBankwant_number B).up rfl))) (tBc (tS_expr (tE_own B tEv (tLc tEv (tLc (tEs (tEa B tEv) tEv) (tLc tE_str tLn))) ((s_d_Bankwant B).up rfl))) (tBc (tSr (tE_own B tEv (tLc tE_str (tLc (tEt (tLc tEv (tLc tEv tLn))) (tLc (tE_const B kv_BOOL) (tLc tEi tLn)))) ((s_d_Bankmake B).up rfl))) tBn)))
noncomputable def b_NumberBanklt : DenS := (dsSeq (dsExpr (dMeth (ownOk 705 "want_number") d_NumberBankwant_number (dLoc "self") (dCons (dLoc "a") (dCons (dK (.str "<")) dNil)))) (dsSeq (dsExpr (dMeth (ownOk 705 "want") d_Bankwant (dLoc "self") (dCons (dLoc "b") (dCons (d2 oGet (d1 (oAttr 705 "term_sorts") (dLoc "self")) (dLoc "a")) (dCons (dK (.str "<")) dNil))))) (dsSeq (dsRet (dMeth (ownOk 705 "make") d_Bankmake (dLoc "self") (dCons (dK (.str "<")) (dCons (dTup (dCons (dLoc "a") (dCons (dLoc "b") dNil))) (dCons g_BOOL (dCons (dK (.int 0)) dNil)))))) dsNil)))
noncomputable def d_NumberBanklt : DF := dFun ["self", "a", "b"] b_NumberBanklt
theorem ok_NumberBanklt (P : Params) : FnOk (K0 P) 576 fd_576 ["self", "a", "b"] := mkOk (ob_576 P) (ob_575 P) fun V V V => by show _ = _; kernel_rfl
theorem s_d_NumberBanklt {P : Params} (B : Base hO (K0 P) mg mb) : SndFc prog w hO 3 (.ref 576) d_NumberBanklt := by
  unfold d_NumberBanklt b_NumberBanklt
  refine t_fun (P := P) (n := 2) B (ok_NumberBanklt P) rfl ?_
  exact (tBc (tS_expr (tE_own B tEv (tLc tEv (tLc tE_str tLn)) ((s_d_NumberBankwant_number B).up rfl))) (tBc (tS_expr (tE_own B tEv (tLc tEv (tLc (tEs (tEa B tEv) tEv) (tLc tE_str tLn))) ((s_d_Bankwant B).up rfl))) (tBc (tSr (tE_own B tEv (tLc tE_str (tLc (tEt (tLc tEv (tLc tEv tLn))) (tLc (tE_const B kv_BOOL) (tLc tEi tLn)))) ((s_d_Bankmake B).up rfl))) tBn)))
end
end
section
section
variable {prog : Program} {w : World} {hO : HB} {mg mb : Str -> Option Value}
noncomputable def b_Row_init : DenS := (dsSeq (dsAttr 754 "parts" (dLoc "parts") (dLoc "self")) (dsSeq (dsAttr 754 "bound" (dLoc "bound") (dLoc "self")) (dsSeq (dsAttr 754 "is_strict" (dLoc "is_strict") (dLoc "self")) dsNil)))
noncomputable def d_Row_init : DF := dFun ["self", "parts", "bound", "is_strict"] b_Row_init
theorem ok_Row_init (P : Params) : FnOk (K0 P) 751 fd_751 ["self", "parts", "bound", "is_strict"] := mkOk (ob_751 P) (ob_750 P) fun V V V V => by show _ = _; kernel_rfl
theorem s_d_Row_init {P : Params} (B : Base hO (K0 P) mg mb) : SndFc prog w hO 1 (.ref 751) d_Row_init := by
  unfold d_Row_init b_Row_init
  refine t_fun (P := P) (n := 0) B (ok_Row_init P) rfl ?_
  exact (tBc (tS_attr B tEv tEv) (tBc (tS_attr B tEv tEv) (tBc (tS_attr B tEv tEv) tBn)))
noncomputable def n_Row : DF := dNew 754 d_Row_init
theorem s_n_Row {P : Params} (B : Base hO (K0 P) mg mb) : SndFc prog w hO 2 (.ref 754) n_Row := snd_new B (by kernel_rfl) (by kernel_rfl) (by kernel_rfl) (s_d_Row_init B)
noncomputable def b_RowSum_init : DenS := (dsSeq (dsAttr 794 "parts" (dEmpty (.id [])) (dLoc "self")) (dsSeq (dsAttr 794 "bound" g_ZERO (dLoc "self")) (dsSeq (dsAttr 794 "is_strict" (dK (.bool false)) (dLoc "self")) dsNil)))
noncomputable def d_RowSum_init : DF := dFun ["self"] b_RowSum_init
theorem ok_RowSum_init (P : Params) : FnOk (K0 P) 772 fd_772 ["self"] := mkOk (ob_772 P) (ob_771 P) fun V => by show _ = _; kernel_rfl
theorem s_d_RowSum_init {P : Params} (B : Base hO (K0 P) mg mb) : SndFc prog w hO 1 (.ref 772) d_RowSum_init := by
  unfold d_RowSum_init b_RowSum_init
  refine t_fun (P := P) (n := 0) B (ok_RowSum_init P) rfl ?_
  exact (tBc (tS_attr B (tE_empty (.inr (.inl rfl))) tEv) (tBc (tS_attr B (tE_const B kv_ZERO) tEv) (tBc (tS_attr B tE_bool tEv) tBn)))
noncomputable def n_RowSum : DF := dNew 794 d_RowSum_init
theorem s_n_RowSum {P : Params} (B : Base hO (K0 P) mg mb) : SndFc prog w hO 2 (.ref 794) n_RowSum := snd_new B (by kernel_rfl) (by kernel_rfl) (by kernel_rfl) (s_d_RowSum_init B)
noncomputable def fb_RowSumput1 : DenS := (dsSeq (dsItem (dCall d_add (dCons (dMeth isDictV oGetOr (d1 (oAttr 794 "parts") (dLoc "self")) (dCons (dLoc "unknown") (dCons g_ZERO dNil))) (dCons (dCall d_mul (dCons (dLoc "weight") (dCons (dTup (dCons (d2 oGet (d1 (oAttr 754 "parts") (dLoc "row")) (dLoc "unknown")) (dCons (dK (.int 1)) dNil))) dNil))) dNil))) (d1 (oAttr 794 "parts") (dLoc "self")) (dLoc "unknown")) dsNil)
noncomputable def pu1 : DenS := (dsFor (iDict (d1 (oAttr 754 "parts") (dLoc "row"))) (bindN "unknown") fb_RowSumput1)
noncomputable def pu2 : DenS := (dsAttr 794 "bound" (dCall d_add (dCons (d1 (oAttr 794 "bound") (dLoc "self")) (dCons (dCall d_mul (dCons (dLoc "weight") (dCons (d1 (oAttr 754 "bound") (dLoc "row")) dNil))) dNil))) (dLoc "self"))
noncomputable def pu3 : DenS := (dsIf (cVal (d1 (oAttr 754 "is_strict") (dLoc "row"))) (dsSeq (dsAttr 794 "is_strict" (dK (.bool true)) (dLoc "self")) dsNil) dsNil)
noncomputable def b_RowSumput : DenS := dsSeq pu1 (dsSeq pu2 (dsSeq pu3 dsNil))
noncomputable def d_RowSumput : DF := dFun ["self", "row", "weight"] b_RowSumput
theorem ok_RowSumput (P : Params) : FnOk (K0 P) 779 fd_779 ["self", "row", "weight"] := mkOk (ob_779 P) (ob_778 P) fun V V V => by show _ = _; kernel_rfl
theorem s_d_RowSumput {P : Params} (B : Base hO (K0 P) mg mb) : SndFc prog w hO 4 (.ref 779) d_RowSumput := by
  unfold d_RowSumput b_RowSumput pu1 pu2 pu3
  refine t_fun (P := P) (n := 3) B (ok_RowSumput P) rfl ?_
  exact (tBc (tS_for B (tI_dict (tEa B tEv)) (fun q => nomatch q) (tgt_name rfl (by kernel_rfl)) fun V B1 => (tBc (tS_item (tEc B1 (tLc (tE_meth (tEa B1 tEv) (tLc tEv (tLc (tE_const B1 kv_ZERO) tLn)) m_get f_get) (tLc (tEc B1 (tLc tEv (tLc (tEt (tLc (tEs (tEa B1 tEv) tEv) (tLc tEi tLn))) tLn)) ((s_d_mul B1).up rfl)) tLn)) ((s_d_add B1).up rfl)) (tEa B1 tEv) tEv) tBn)) (tBc (tS_attr B (tEc B (tLc (tEa B tEv) (tLc (tEc B (tLc tEv (tLc (tEa B tEv) tLn)) ((s_d_mul B).up rfl)) tLn)) ((s_d_add B).up rfl)) tEv) (tBc (tS_if (tC_val (tEa B tEv)) (tBc (tS_attr B tE_bool tEv) tBn) tBn) tBn)))
noncomputable def ce_RowSumleft1 : Den := (dLoc "unknown")
noncomputable def cc_RowSumleft1 : DenC := (cVal (d2 oNe (d2 oGet (d2 oGet (d1 (oAttr 794 "parts") (dLoc "self")) (dLoc "unknown")) (dK (.int 0))) (dK (.int 0))))
noncomputable def b_RowSumleft : DenS := (dsSeq (dsRet (dComp ["self"] (iSeq (dCall oSorted (dCons (d1 (oAttr 794 "parts") (dLoc "self")) dNil))) (bindN "unknown") cc_RowSumleft1 ce_RowSumleft1)) dsNil)
noncomputable def d_RowSumleft : DF := dFun ["self"] b_RowSumleft
theorem ok_RowSumleft (P : Params) : FnOk (K0 P) 784 fd_784 ["self"] := mkOk (ob_784 P) (ob_783 P) fun V => by show _ = _; kernel_rfl
theorem s_d_RowSumleft {P : Params} (B : Base hO (K0 P) mg mb) : SndFc prog w hO 1 (.ref 784) d_RowSumleft := by
  unfold d_RowSumleft b_RowSumleft
  refine t_fun (P := P) (n := 0) B (ok_RowSumleft P) rfl ?_
  exact (tBc (tSr (tE_comp B (tI_seq (tE_bcall B (tLc (tEa B tEv) tLn) f_sorted)) (fun q => nomatch q) (tgtC_name rfl (by kernel_rfl)) bindOn_name (fun V B1 => (tT_one (tC_cmp (tEs (tEs (tEa B1 tEv) tEv) tEi) tEi s_ne))) (fun V B1 => tEv))) tBn)
noncomputable def rc1 : DenS := (dsIf (cVal (d2 oGt (dCall oLen (dCons (dMeth (ownOk 794 "left") d_RowSumleft (dLoc "self") dNil) dNil)) (dK (.int 0)))) (dsSeq (dsRet (dK (.bool false))) dsNil) dsNil)
noncomputable def rc2 : DenS := (dsSet "side" (dCall d_compare (dCons g_ZERO (dCons (d1 (oAttr 794 "bound") (dLoc "self")) dNil))))
noncomputable def rc3 : DenS := (dsRet (dOr (d2 oGt (dLoc "side") (dK (.int 0))) (dAnd (d2 oEq (dLoc "side") (dK (.int 0))) (d1 (oAttr 794 "is_strict") (dLoc "self")))))
noncomputable def b_RowSumis_clash : DenS := dsSeq rc1 (dsSeq rc2 (dsSeq rc3 dsNil))
noncomputable def d_RowSumis_clash : DF := dFun ["self"] b_RowSumis_clash
theorem ok_RowSumis_clash (P : Params) : FnOk (K0 P) 791 fd_791 ["self"] := mkOk (ob_791 P) (ob_790 P) fun V => by show _ = _; kernel_rfl
theorem s_d_RowSumis_clash {P : Params} (B : Base hO (K0 P) mg mb) : SndFc prog w hO 2 (.ref 791) d_RowSumis_clash := by
  unfold d_RowSumis_clash b_RowSumis_clash rc1 rc2 rc3
  refine t_fun (P := P) (n := 1) B (ok_RowSumis_clash P) rfl ?_
  exact (tBc (tS_if (tC_cmp (tE_bcall B (tLc (tE_own0 B tEv ((s_d_RowSumleft B).up rfl)) tLn) f_len) tEi s_gt) (tBc (tSr tE_bool) tBn) tBn) (tBc (tS_set (tEc B (tLc (tE_const B kv_ZERO) (tLc (tEa B tEv) tLn)) ((s_d_compare B).up rfl))) (tBc (tSr (tE_or (tE_cmp tEv tEi s_gt) (tE_bool1 (tE_and (tE_cmp tEv tEi s_eq) (tE_bool1 (tEa B tEv)))))) tBn)))
noncomputable def b_RowJudge_init : DenS := (dsSeq (dsAttr 869 "bank" (dLoc "bank") (dLoc "self")) dsNil)
noncomputable def d_RowJudge_init : DF := dFun ["self", "bank"] b_RowJudge_init
theorem ok_RowJudge_init (P : Params) : FnOk (K0 P) 812 fd_812 ["self", "bank"] := mkOk (ob_812 P) (ob_811 P) fun V V => by show _ = _; kernel_rfl
theorem s_d_RowJudge_init {P : Params} (B : Base hO (K0 P) mg mb) : SndFc prog w hO 1 (.ref 812) d_RowJudge_init := by
  unfold d_RowJudge_init b_RowJudge_init
  refine t_fun (P := P) (n := 0) B (ok_RowJudge_init P) rfl ?_
  exact (tBc (tS_attr B tEv tEv) tBn)
noncomputable def n_RowJudge : DF := dNew 869 d_RowJudge_init
theorem s_n_RowJudge {P : Params} (B : Base hO (K0 P) mg mb) : SndFc prog w hO 2 (.ref 869) n_RowJudge := snd_new B (by kernel_rfl) (by kernel_rfl) (by kernel_rfl) (s_d_RowJudge_init B)
noncomputable def fb_RowJudgelinear1 : DenS := (dsSeq (dsItem (dCall d_add (dCons (dMeth isDictV oGetOr (dLoc "due") (dCons (dLoc "part") (dCons g_ZERO dNil))) (dCons (dLoc "factor") dNil))) (dLoc "due") (dLoc "part")) dsNil)
noncomputable def wc_RowJudgelinear1 : DenC := (cVal (d2 oGt (dCall oLen (dCons (dLoc "due") dNil)) (dK (.int 0))))
noncomputable def wb_RowJudgelinear1 : DenS := (dsSeq (dsSet "u" (dCall oMax (dCons (dLoc "due") dNil))) (dsSeq (dsSet "factor" (dMeth isDictV oPop (dLoc "due") (dCons (dLoc "u") dNil))) (dsSeq (dsTupR ["op", "some"] (dTup (dCons (dMeth (ownOk 705 "op") d_Bankop (d1 (oAttr 869 "bank") (dLoc "self")) (dCons (dLoc "u") dNil)) (dCons (dMeth (ownOk 705 "args") d_Bankargs (d1 (oAttr 869 "bank") (dLoc "self")) (dCons (dLoc "u") dNil)) dNil)))) (dsSeq (dsIf (cVal (d2 oEq (dLoc "op") (dK (.str "num")))) (dsSeq (dsSet "constant" (dCall d_add (dCons (dLoc "constant") (dCons (dCall d_mul (dCons (dLoc "factor") (dCons (dMeth (ownOk 705 "data") d_Bankdata (d1 (oAttr 869 "bank") (dLoc "self")) (dCons (dLoc "u") dNil)) dNil))) dNil)))) dsNil) (dsSeq (dsIf (cVal (d2 oEq (dLoc "op") (dK (.str "+")))) (dsSeq (dsFor (iSeq (dLoc "some")) (bindN "part") fb_RowJudgelinear1) dsNil) (dsSeq (dsIf (cAnd (cVal (d2 oEq (dLoc "op") (dK (.str "*")))) (cAnd (cVal (d2 oEq (dMeth (ownOk 705 "op") d_Bankop (d1 (oAttr 869 "bank") (dLoc "self")) (dCons (d2 oGet (dLoc "some") (dK (.int 0))) dNil)) (dK (.str "num")))) cTrue)) (dsSeq (dsItem (dCall d_add (dCons (dMeth isDictV oGetOr (dLoc "due") (dCons (d2 oGet (dLoc "some") (dK (.int 1))) (dCons g_ZERO dNil))) (dCons (dCall d_mul (dCons (dLoc "factor") (dCons (dMeth (ownOk 705 "data") d_Bankdata (d1 (oAttr 869 "bank") (dLoc "self")) (dCons (d2 oGet (dLoc "some") (dK (.int 0))) dNil)) dNil))) dNil))) (dLoc "due") (d2 oGet (dLoc "some") (dK (.int 1)))) dsNil) (dsSeq (dsItem (dLoc "factor") (dLoc "parts") (dLoc "u")) dsNil)) dsNil)) dsNil)) dsNil))))
noncomputable def b_RowJudgelinear : DenS := (dsSeq (dsTupR ["parts", "constant", "due"] (dTup (dCons (dEmpty (.id [])) (dCons g_ZERO (dCons (dDictI (dLoc "t") g_ONE) dNil))))) (dsSeq (dsWhile fuelT wc_RowJudgelinear1 wb_RowJudgelinear1) (dsSeq (dsRet (dTup (dCons (dLoc "parts") (dCons (dLoc "constant") dNil)))) dsNil)))
noncomputable def d_RowJudgelinear : DF := dFun ["self", "t"] b_RowJudgelinear
theorem ok_RowJudgelinear (P : Params) : FnOk (K0 P) 819 fd_819 ["self", "t"] := mkOk (ob_819 P) (ob_818 P) fun V V => by show _ = _; kernel_rfl
theorem s_d_RowJudgelinear {P : Params} (B : Base hO (K0 P) mg mb) : SndFc prog w hO 4 (.ref 819) d_RowJudgelinear := by
  unfold d_RowJudgelinear b_RowJudgelinear
  refine t_fun (P := P) (n := 3) B (ok_RowJudgelinear P) rfl ?_
  exact (tBc (tS_tupR (tEt (tLc (tE_empty (.inr (.inl rfl))) (tLc (tE_const B kv_ZERO) (tLc (tE_dictI tEv (tE_const B kv_ONE)) tLn))))) (tBc (tS_while (tC_cmp (tE_bcall B (tLc tEv tLn) f_len) tEi s_gt) (tBc (tS_set (tE_bcall B (tLc tEv tLn) f_max)) (tBc (tS_set (tE_meth tEv (tLc tEv tLn) m_pop f_pop)) (tBc (tS_tupR (tEt (tLc (tE_own B (tEa B tEv) (tLc tEv tLn) ((s_d_Bankop B).up rfl)) (tLc (tE_own B (tEa B tEv) (tLc tEv tLn) ((s_d_Bankargs B).up rfl)) tLn)))) (tBc (tS_if (tC_cmp tEv tE_str s_eq) (tBc (tS_set (tEc B (tLc tEv (tLc (tEc B (tLc tEv (tLc (tE_own B (tEa B tEv) (tLc tEv tLn) ((s_d_Bankdata B).up rfl)) tLn)) ((s_d_mul B).up rfl)) tLn)) ((s_d_add B).up rfl))) tBn) (tBc (tS_if (tC_cmp tEv tE_str s_eq) (tBc (tS_for B (tI_seq tEv) (fun q => nomatch q) (tgt_name rfl (by kernel_rfl)) fun V B1 => (tBc (tS_item (tEc B1 (tLc (tE_meth tEv (tLc tEv (tLc (tE_const B1 kv_ZERO) tLn)) m_get f_get) (tLc tEv tLn)) ((s_d_add B1).up rfl)) tEv tEv) tBn)) tBn) (tBc (tS_if (tC_and (tC_cmp tEv tE_str s_eq) (tC_and (tC_cmp (tE_own B (tEa B tEv) (tLc (tEs tEv tEi) tLn) ((s_d_Bankop B).up rfl)) tE_str s_eq) tC_and0)) (tBc (tS_item (tEc B (tLc (tE_meth tEv (tLc (tEs tEv tEi) (tLc (tE_const B kv_ZERO) tLn)) m_get f_get) (tLc (tEc B (tLc tEv (tLc (tE_own B (tEa B tEv) (tLc (tEs tEv tEi) tLn) ((s_d_Bankdata B).up rfl)) tLn)) ((s_d_mul B).up rfl)) tLn)) ((s_d_add B).up rfl)) tEv (tEs tEv tEi)) tBn) (tBc (tS_item tEv tEv tEv) tBn)) tBn)) tBn)) tBn))))) (tBc (tSr (tEt (tLc tEv (tLc tEv tLn)))) tBn)))
noncomputable def ce_RowJudgenormal_row1 : Den := (dLoc "unknown")
noncomputable def cc_RowJudgenormal_row1 : DenC := (cVal (d2 oNe (dMeth (ownOk 705 "sort") d_Banksort (d1 (oAttr 869 "bank") (dLoc "self")) (dCons (dLoc "unknown") dNil)) g_INT))
noncomputable def fb_RowJudgenormal_row1 : DenS := (dsSeq (dsItem (d2 oDiv (dLoc "number") (dLoc "divisor")) (dLoc "found") (dLoc "unknown")) dsNil)
noncomputable def ce_RowJudgenormal_row2 : Den := (d2 oGet (dCall d_mul (dCons (d2 oGet (dLoc "parts") (dLoc "unknown")) (dCons (dTup (dCons (dLoc "bottom") (dCons (dK (.int 1)) dNil))) dNil))) (dK (.int 0)))
noncomputable def ce_RowJudgenormal_row3 : Den := (d2 oGet (dLoc "parts") (dLoc "unknown"))
noncomputable def ce_RowJudgenormal_row4 : Den := (dLoc "unknown")
noncomputable def cc_RowJudgenormal_row2 : DenC := (cVal (d2 oNe (d2 oGet (d2 oGet (dLoc "parts") (dLoc "unknown")) (dK (.int 0))) (dK (.int 0))))
noncomputable def b_RowJudgenormal_row : DenS := (dsSeq (dsSet "unknowns" (dComp ["parts"] (iSeq (dCall oSorted (dCons (dLoc "parts") dNil))) (bindN "unknown") cc_RowJudgenormal_row2 ce_RowJudgenormal_row4)) (dsSeq (dsIf (cVal (d2 oEq (dCall oLen (dCons (dLoc "unknowns") dNil)) (dK (.int 0)))) (dsSeq (dsRet (dCall n_Row (dCons (dEmpty (.id [])) (dCons (dLoc "bound") (dCons (dLoc "is_strict") dNil))))) dsNil) dsNil) (dsSeq (dsSet "bottom" (dCall d_common_bottom (dCons (dComp ["parts"] (iSeq (dLoc "unknowns")) (bindN "unknown") cTrue ce_RowJudgenormal_row3) dNil))) (dsSeq (dsSet "wholes" (dComp ["bottom", "parts"] (iSeq (dLoc "unknowns")) (bindN "unknown") cTrue ce_RowJudgenormal_row2)) (dsSeq (dsSet "divisor" (dCall d_gcd_all (dCons (dLoc "wholes") dNil))) (dsSeq (dsSet "found" (dEmpty (.id []))) (dsSeq (dsFor (iZip (dLoc "unknowns") (dLoc "wholes")) (bindT ["unknown", "number"]) fb_RowJudgenormal_row1) (dsSeq (dsSet "bound" (dCall d_mul (dCons (dLoc "bound") (dCons (dCall d_ratio (dCons (dLoc "bottom") (dCons (dLoc "divisor") dNil))) dNil)))) (dsSeq (dsIf (cVal (d2 oEq (dComp ["self"] (iSeq (dLoc "unknowns")) (bindN "unknown") cc_RowJudgenormal_row1 ce_RowJudgenormal_row1) (dLst dNil))) (dsSeq (dsSet "most" (dIf (cVal (dLoc "is_strict")) (d2 oSub (dCall d_ceil_of (dCons (dLoc "bound") dNil)) (dK (.int 1))) (dCall d_floor_of (dCons (dLoc "bound") dNil)))) (dsSeq (dsRet (dCall n_Row (dCons (dLoc "found") (dCons (dTup (dCons (dLoc "most") (dCons (dK (.int 1)) dNil))) (dCons (dK (.bool false)) dNil))))) dsNil)) dsNil) (dsSeq (dsRet (dCall n_Row (dCons (dLoc "found") (dCons (dLoc "bound") (dCons (dLoc "is_strict") dNil))))) dsNil))))))))))
noncomputable def d_RowJudgenormal_row : DF := dFun ["self", "parts", "bound", "is_strict"] b_RowJudgenormal_row
theorem ok_RowJudgenormal_row (P : Params) : FnOk (K0 P) 831 fd_831 ["self", "parts", "bound", "is_strict"] := mkOk (ob_831 P) (ob_830 P) fun V V V V => by show _ = _; kernel_rfl
theorem s_d_RowJudgenormal_row {P : Params} (B : Base hO (K0 P) mg mb) : SndFc prog w hO 4 (.ref 831) d_RowJudgenormal_row := by
  unfold d_RowJudgenormal_row b_RowJudgenormal_row
  refine t_fun (P := P) (n := 3) B (ok_RowJudgenormal_row P) rfl ?_
  exact (tBc (tS_comp B (tI_seq (tE_bcall B (tLc tEv tLn) f_sorted)) (fun q => nomatch q) (tgtC_name rfl (by kernel_rfl)) bindOn_name (fun V B1 => (tT_one (tC_cmp (tEs (tEs tEv tEv) tEi) tEi s_ne))) (fun V B1 => tEv)) (tBc (tS_if (tC_cmp (tE_bcall B (tLc tEv tLn) f_len) tEi s_eq) (tBc (tSr (tEc B (tLc (tE_empty (.inr (.inl rfl))) (tLc tEv (tLc tEv tLn))) ((s_n_Row B).up rfl))) tBn) tBn) (tBc (tS_set (tEc B (tLc (tE_comp B (tI_seq tEv) (fun q => nomatch q) (tgtC_name rfl (by kernel_rfl)) bindOn_name (fun V B1 => tT_nil) (fun V B1 => (tEs tEv tEv))) tLn) ((s_d_common_bottom B).up rfl))) (tBc (tS_comp B (tI_seq tEv) (fun q => nomatch q) (tgtC_name rfl (by kernel_rfl)) bindOn_name (fun V B1 => tT_nil) (fun V B1 => (tEs (tEc B1 (tLc (tEs tEv tEv) (tLc (tEt (tLc tEv (tLc tEi tLn))) tLn)) ((s_d_mul B1).up rfl)) tEi))) (tBc (tS_set (tEc B (tLc tEv tLn) ((s_d_gcd_all B).up rfl))) (tBc (tS_set (tE_empty (.inr (.inl rfl)))) (tBc (tS_for B (tI_zip B tEv tEv) (fun V => ⟨_, _, _, rfl⟩) (tgt_tup (.cons (.cons .nil)) rfl (by kernel_rfl)) fun V B1 => (tBc (tS_item (tEb tEv tEv s_div) tEv tEv) tBn)) (tBc (tS_set (tEc B (tLc tEv (tLc (tEc B (tLc tEv (tLc tEv tLn)) ((s_d_ratio B).up rfl)) tLn)) ((s_d_mul B).up rfl))) (tBc (tS_if (tC_cmp (tE_comp B (tI_seq tEv) (fun q => nomatch q) (tgtC_name rfl (by kernel_rfl)) bindOn_name (fun V B1 => (tT_one (tC_cmp (tE_own B1 (tEa B1 tEv) (tLc tEv tLn) ((s_d_Banksort B1).up rfl)) (tE_const B1 kv_INT) s_ne))) (fun V B1 => tEv)) (tE_Lst tLn) s_eq) (tBc (tS_set (tE_if (tC_val tEv) (tEb (tEc B (tLc tEv tLn) ((s_d_ceil_of B).up rfl)) tEi s_sub) (tEc B (tLc tEv tLn) ((s_d_floor_of B).up rfl)))) (tBc (tSr (tEc B (tLc tEv (tLc (tEt (tLc tEv (tLc tEi tLn))) (tLc tE_bool tLn))) ((s_n_Row B).up rfl))) tBn)) tBn) (tBc (tSr (tEc B (tLc tEv (tLc tEv (tLc tEv tLn))) ((s_n_Row B).up rfl))) tBn))))))))))
noncomputable def fb_RowJudgerow_of1 : DenS := (dsSeq (dsItem (dCall d_add (dCons (dMeth isDictV oGetOr (dLoc "parts") (dCons (dLoc "unknown") (dCons g_ZERO dNil))) (dCons (dCall d_neg (dCons (d2 oGet (dLoc "less") (dLoc "unknown")) dNil)) dNil))) (dLoc "parts") (dLoc "unknown")) dsNil)
noncomputable def ro1 : DenS := (dsSet "t" (dCall oAbs (dCons (dLoc "one") dNil)))
noncomputable def ro2 : DenS := (dsIf (cVal (d2 oNotIn (dMeth (ownOk 705 "op") d_Bankop (d1 (oAttr 869 "bank") (dLoc "self")) (dCons (dLoc "t") dNil)) (dTup (dCons (dK (.str "<=")) (dCons (dK (.str "<")) dNil))))) (dsSeq (dsRet (dK .none)) dsNil) dsNil)
noncomputable def ro3 : DenS := (dsSet "is_strict" (d2 oEq (dMeth (ownOk 705 "op") d_Bankop (d1 (oAttr 869 "bank") (dLoc "self")) (dCons (dLoc "t") dNil)) (dK (.str "<"))))
noncomputable def ro4 : DenS := (dsTup ["x", "y"] (dMeth (ownOk 705 "args") d_Bankargs (d1 (oAttr 869 "bank") (dLoc "self")) (dCons (dLoc "t") dNil)))
noncomputable def ro5 : DenS := (dsIf (cVal (d2 oLt (dLoc "one") (dK (.int 0)))) (dsSeq (dsTupR ["x", "y", "is_strict"] (dTup (dCons (dLoc "y") (dCons (dLoc "x") (dCons (d1 oNot (dLoc "is_strict")) dNil))))) dsNil) dsNil)
noncomputable def ro6 : DenS := (dsTup ["parts", "constant"] (dMeth (ownOk 869 "linear") d_RowJudgelinear (dLoc "self") (dCons (dLoc "x") dNil)))
noncomputable def ro7 : DenS := (dsTup ["less", "more"] (dMeth (ownOk 869 "linear") d_RowJudgelinear (dLoc "self") (dCons (dLoc "y") dNil)))
noncomputable def ro8 : DenS := (dsFor (iDict (dLoc "less")) (bindN "unknown") fb_RowJudgerow_of1)
noncomputable def ro9 : DenS := (dsRet (dMeth (ownOk 869 "normal_row") d_RowJudgenormal_row (dLoc "self") (dCons (dLoc "parts") (dCons (dCall d_add (dCons (dLoc "more") (dCons (dCall d_neg (dCons (dLoc "constant") dNil)) dNil))) (dCons (dLoc "is_strict") dNil)))))
noncomputable def b_RowJudgerow_of : DenS := dsSeq ro1 (dsSeq ro2 (dsSeq ro3 (dsSeq ro4 (dsSeq ro5 (dsSeq ro6 (dsSeq ro7 (dsSeq ro8 (dsSeq ro9 dsNil))))))))
noncomputable def d_RowJudgerow_of : DF := dFun ["self", "one"] b_RowJudgerow_of
theorem ok_RowJudgerow_of (P : Params) : FnOk (K0 P) 826 fd_826 ["self", "one"] := mkOk (ob_826 P) (ob_825 P) fun V V => by show _ = _; kernel_rfl
theorem s_d_RowJudgerow_of {P : Params} (B : Base hO (K0 P) mg mb) : SndFc prog w hO 5 (.ref 826) d_RowJudgerow_of := by
  unfold d_RowJudgerow_of b_RowJudgerow_of ro1 ro2 ro3 ro4 ro5 ro6 ro7 ro8 ro9
  refine t_fun (P := P) (n := 4) B (ok_RowJudgerow_of P) rfl ?_
  exact (tBc (tS_set (tE_bcall B (tLc tEv tLn) f_abs)) (tBc (tS_if (tC_cmp (tE_own B (tEa B tEv) (tLc tEv tLn) ((s_d_Bankop B).up rfl)) (tEt (tLc tE_str (tLc tE_str tLn))) s_notIn) (tBc (tSr tE_none) tBn) tBn) (tBc (tS_set (tE_cmp (tE_own B (tEa B tEv) (tLc tEv tLn) ((s_d_Bankop B).up rfl)) tE_str s_eq)) (tBc (tS_tup (.cons (.cons .nil)) (tE_own B (tEa B tEv) (tLc tEv tLn) ((s_d_Bankargs B).up rfl))) (tBc (tS_if (tC_cmp tEv tEi s_lt) (tBc (tS_tupR (tEt (tLc tEv (tLc tEv (tLc (tE_un tEv s_not) tLn))))) tBn) tBn) (tBc (tS_tup (.cons (.cons .nil)) (tE_own B tEv (tLc tEv tLn) ((s_d_RowJudgelinear B).up rfl))) (tBc (tS_tup (.cons (.cons .nil)) (tE_own B tEv (tLc tEv tLn) ((s_d_RowJudgelinear B).up rfl))) (tBc (tS_for B (tI_dict tEv) (fun q => nomatch q) (tgt_name rfl (by kernel_rfl)) fun V B1 => (tBc (tS_item (tEc B1 (tLc (tE_meth tEv (tLc tEv (tLc (tE_const B1 kv_ZERO) tLn)) m_get f_get) (tLc (tEc B1 (tLc (tEs tEv tEv) tLn) ((s_d_neg B1).up rfl)) tLn)) ((s_d_add B1).up rfl)) tEv tEv) tBn)) (tBc (tSr (tE_own B tEv (tLc tEv (tLc (tEc B (tLc tEv (tLc (tEc B (tLc tEv tLn) ((s_d_neg B).up rfl)) tLn)) ((s_d_add B).up rfl)) (tLc tEv tLn))) ((s_d_RowJudgenormal_row B).up rfl))) tBn)))))))))
noncomputable def sb1 : DenS := (dsIf (cOr (cNot (cVal (dCall d_is_tuple_of (dCons (dLoc "pair") (dCons (dK (.int 2)) dNil))))) (cOr (cNot (cVal (dCall d_is_number (dCons (d2 oGet (dLoc "pair") (dK (.int 0))) dNil)))) (cOr (cNot (cVal (dCall d_is_above_nought (dCons (d2 oGet (dLoc "pair") (dK (.int 1))) dNil)))) cFalse))) (dsSeq (dsRet (dK .none)) dsNil) dsNil)
noncomputable def sb2 : DenS := (dsIf (cOr (cVal (d2 oNotIn (d2 oGet (dLoc "pair") (dK (.int 0))) (dLoc "clause"))) (cOr (cVal (d2 oIn (d2 oGet (dLoc "pair") (dK (.int 0))) (dLoc "seen"))) cFalse)) (dsSeq (dsRet (dK .none)) dsNil) dsNil)
noncomputable def sb3 : DenS := (dsItem (dK (.bool true)) (dLoc "seen") (d2 oGet (dLoc "pair") (dK (.int 0))))
noncomputable def sb4 : DenS := (dsSet "row" (dMeth (ownOk 869 "row_of") d_RowJudgerow_of (dLoc "self") (dCons (d1 oNeg (d2 oGet (dLoc "clause") (d2 oGet (dLoc "pair") (dK (.int 0))))) dNil)))
noncomputable def sb5 : DenS := (dsIf (cVal (d2 oIs (dLoc "row") (dK .none))) (dsSeq (dsRet (dK .none)) dsNil) dsNil)
noncomputable def sb6 : DenS := (dsExpr (dMeth (ownOk 794 "put") d_RowSumput (dLoc "found") (dCons (dLoc "row") (dCons (d2 oGet (dLoc "pair") (dK (.int 1))) dNil))))
noncomputable def fb_RowJudgesum_of1 : DenS := dsSeq sb1 (dsSeq sb2 (dsSeq sb3 (dsSeq sb4 (dsSeq sb5 (dsSeq sb6 dsNil)))))
noncomputable def su1 : DenS := (dsIf (cNot (cVal (dIsT "tuple" (dLoc "weights")))) (dsSeq (dsRet (dK .none)) dsNil) dsNil)
noncomputable def su2 : DenS := (dsTupR ["found", "seen"] (dTup (dCons (dCall n_RowSum dNil) (dCons (dEmpty (.id [])) dNil))))
noncomputable def su3 : DenS := (dsFor (iSeq (dLoc "weights")) (bindN "pair") fb_RowJudgesum_of1)
noncomputable def su4 : DenS := (dsRet (dLoc "found"))
noncomputable def b_RowJudgesum_of : DenS := dsSeq su1 (dsSeq su2 (dsSeq su3 (dsSeq su4 dsNil)))
noncomputable def d_RowJudgesum_of : DF := dFun ["self", "clause", "weights"] b_RowJudgesum_of
theorem ok_RowJudgesum_of (P : Params) : FnOk (K0 P) 838 fd_838 ["self", "clause", "weights"] := mkOk (ob_838 P) (ob_837 P) fun V V V => by show _ = _; kernel_rfl
theorem s_d_RowJudgesum_of {P : Params} (B : Base hO (K0 P) mg mb) : SndFc prog w hO 6 (.ref 838) d_RowJudgesum_of := by
  unfold d_RowJudgesum_of b_RowJudgesum_of su1 su2 su3 su4
  refine t_fun (P := P) (n := 5) B (ok_RowJudgesum_of P) rfl ?_
  exact (tBc (tS_if (tC_not (tC_val (tE_isT B tEv))) (tBc (tSr tE_none) tBn) tBn) (tBc (tS_tupR (tEt (tLc (tE_call0 B ((s_n_RowSum B).up rfl)) (tLc (tE_empty (.inr (.inl rfl))) tLn)))) (tBc (tS_for B (tI_seq tEv) (fun q => nomatch q) (tgt_name rfl (by kernel_rfl)) fun V B1 => (tBc (tS_if (tC_or (tC_not (tC_val (tEc B1 (tLc tEv (tLc tEi tLn)) ((s_d_is_tuple_of B1).up rfl)))) (tC_or (tC_not (tC_val (tEc B1 (tLc (tEs tEv tEi) tLn) ((s_d_is_number B1).up rfl)))) (tC_or (tC_not (tC_val (tEc B1 (tLc (tEs tEv tEi) tLn) ((s_d_is_above_nought B1).up rfl)))) tC_or0))) (tBc (tSr tE_none) tBn) tBn) (tBc (tS_if (tC_or (tC_cmp (tEs tEv tEi) tEv s_notIn) (tC_or (tC_cmp (tEs tEv tEi) tEv s_in) tC_or0)) (tBc (tSr tE_none) tBn) tBn) (tBc (tS_item tE_bool tEv (tEs tEv tEi)) (tBc (tS_set (tE_own B1 tEv (tLc (tE_un (tEs tEv (tEs tEv tEi)) s_neg) tLn) ((s_d_RowJudgerow_of B1).up rfl))) (tBc (tS_if (tC_cmp tEv tE_none s_is) (tBc (tSr tE_none) tBn) tBn) (tBc (tS_expr (tE_own B1 tEv (tLc tEv (tLc (tEs tEv tEi) tLn)) ((s_d_RowSumput B1).up rfl))) tBn))))))) (tBc (tSr tEv) tBn))))
end
end
section
noncomputable def progOk (prog : Program) : Bool := ((prog.main.file : Str) == S "/claim/cut.py") && !(prog.main.scope.names.lookup ("super" : Str)).isSome
noncomputable def isIns (C : Addr) (a : AV) (σ : List AObj) : Bool := match a with | .ins D _ => decide (D = C) | _ => false
theorem isIns_of {C : Addr} {a : AV} {σ : List AObj} (h : isIns C a σ = true) : ∃ i, a = .ins C i := by
  cases a with
  | ins D i => exact ⟨i, by rw [of_decide_eq_true (show decide (D = C) = true from h)]⟩
  | _ => cases h
noncomputable def b_TermBank_init : DenS := dsSeq (dsExpr (dMeth (isIns 705) d_Bank_init (dLoc "self") dNil)) (dsSeq (dsAttr 705 "bv_numbers" (dEmpty (.id [])) (dLoc "self")) dsNil)
noncomputable def d_TermBank_init : DF := dFun ["self"] b_TermBank_init
noncomputable abbrev bodyTB : List Stmt := bodyOf (nth (bodyOf (nth pw.main.body 27)) 0)
noncomputable abbrev scTB : Scope := scopeOf (nth (bodyOf (nth pw.main.body 27)) 0)
section
variable {prog : Program} {w : World} {hO : HB} {mg mb : Str -> Option Value}
theorem s_d_TermBank_init {P : Params} (hp : progOk prog = true) (B : Base hO (K0 P) mg mb) : SndFc prog w hO 3 (.ref 604) d_TermBank_init := by
  intro A vs cs σ v σ' s μ R Rm e rs X Po
  refine bind1 e fun ρ e1 e => ?_
  refine bind3 e fun f ρ' σ1 e2 efin => ?_
  have KI := B.kin X
  have hlim : s.heap.NoLimit := B.lim.keeps X.base
  cases vs with
  | nil => cases e1
  | cons u us =>
  cases us with
  | cons => cases e1
  | nil =>
  obtain ⟨c, rfl, r⟩ := rs.i1
  cases e1
  simp only [progOk, Bool.and_eq_true, Bool.not_eq_true'] at hp
  have k604 : s.heap.get? 604 = some (ob_604 P) := KI _ _ (by kernel_rfl)
  have k603 : s.heap.get? 603 = some (ob_603 P) := KI _ _ (by kernel_rfl)
  refine ks_codeAny_call_defAt (fd := fd_604) (body := bodyTB) (binds := [(S "self", c)]) (by have := Rm.2.1; omega) k604 rfl hlim ⟨603, ob_603 P, _, _, rfl, k603, rfl, rfl⟩ rfl (BindsTo.of_eq (by kernel_rfl)) ?_ ?_ (fun h1 hns hk => ?_) (by kernel_rfl) (by kernel_rfl) (by kernel_rfl)
  · intro x hx hc
    have hn : fd_604.scope.names.all (fun p => p.2 != .cell) = true := by kernel_rfl
    have := List.all_eq_true.mp hn x hx
    rw [hc] at this
    cases this
  · intro x hx
    rw [List.mem_singleton.mp hx]
    kernel_rfl
  -- the frame
  have eE : callEnv fd_604 s.heap.objs.size 604 = ({ L := s.heap.objs.size, cl := [(S "__class__", 592)], q := S "TermBank.__init__" ++ ".<locals>.", fn := some 604, cd := .ref 603, fr := some s.heap.objs.size } : EP).env scTB := rfl
  rw [eE]
  generalize hx : ({ L := s.heap.objs.size, cl := [(S "__class__", 592)], q := S "TermBank.__init__" ++ ".<locals>.", fn := some 604, cd := .ref 603, fr := some s.heap.objs.size } : EP) = x
  have xL : x.L = s.heap.objs.size := by rw [← hx]
  have xc : x.cl = [(S "__class__", 592)] := by rw [← hx]
  have xf : x.fn = some 604 := by rw [← hx]
  have xd : x.cd = .ref 603 := by rw [← hx]
  clear hx eE
  have hsz : s.heap.objs.size ≤ h1.objs.size := Nat.le_of_lt hns.lt
  have X1 : St prog w hO μ σ h1 := X.more hsz hk
  have G1 : Grow [] μ s.heap μ h1 := grow_new hsz hk
  have r1 := r.grow G1 (.nil _)
  have k592 : h1.get? 592 = some (ob_592 P) := hk _ _ (KI _ _ (by kernel_rfl))
  have o592 : Off hO.prv μ 592 := kv_off B X1 (K := K0 P) (a := 592) (o := ob_592 P) (by kernel_rfl)
  have low : ∀ {ca : Addr}, s.heap.objs.size ≤ ca -> s.heap.get? ca = none := fun q => get_size _ q
  have OC : OwnsC (x.env scTB) [x.L] := fun y ky => by
    have hn : scTB.names.all (fun p => p.2 != .cell) = true := by kernel_rfl
    obtain ⟨z, hz⟩ := lookup_all hn ky
    simp at hz
  have look : ∀ y ca, (x.env scTB).cells.lookup y = some ca -> y = S "__class__" ∧ ca = 592 := fun y ca e => by
    have e : x.cl.lookup y = some ca := e
    rw [xc, List.lookup_cons] at e
    cases q : y == S "__class__" with
    | true => rw [q] at e; cases e; exact ⟨beq_iff_eq.mp q, rfl⟩
    | false => rw [q] at e; cases e
  have F1 : FrOk hO h1 (x.env scTB) [x.L] μ (rho0.set "self" u) := by
    refine ⟨⟨_, by rw [show (x.env scTB).locals = s.heap.objs.size from xL]; exact hns, fun y v ey ky => ?_⟩, fun y v ey ky => ?_, List.mem_cons_self, ⟨fun b hb => ?_⟩, fun b hb => ?_, fun y ca ey => ?_, fun b hb => ?_, fun y ca ey => ?_, fun y ca ey => ?_, fun y z ca ey ez => ?_, fun y ky => ?_⟩
    · unfold Rho.set at ey
      split at ey
      · rename_i q; subst q; cases ey; exact ⟨c, by kernel_rfl, r1⟩
      · cases ey
    · unfold Rho.set at ey
      split at ey
      · rename_i q
        subst q
        have : (x.env scTB).kindOf (S "self") = some .local := by show scTB.names.lookup (S "self") = some .local; kernel_rfl
        rw [this] at ky
        rcases ky with ky | ky <;> cases ky
      · cases ey
    · rw [List.mem_singleton.mp hb, xL]
      obtain ⟨o, es, ep, e, hd, _⟩ := hns
      exact ⟨o, e, .inl ⟨es, ep, hd⟩⟩
    · rw [List.mem_singleton.mp hb, xL]
      exact ⟨fun q => Nat.lt_irrefl _ (X.lt _ q), base_none X (Nat.le_refl _)⟩
    · obtain ⟨_, rfl⟩ := look _ _ ey
      exact ⟨o592.1, Heap.lt_size k592⟩
    · rw [List.mem_singleton.mp hb, xL]
      exact fun q => Nat.lt_irrefl _ (X.prv _ q).2.2.1
    · obtain ⟨_, rfl⟩ := look _ _ ey
      exact o592.2
    · obtain ⟨_, rfl⟩ := look _ _ ey
      exact ⟨_, _, k592, rfl⟩
    · exact S_inj ((look _ _ ey).1.trans (look _ _ ez).1.symm)
    · show (x.cl.lookup y).isSome = true
      rw [xc]
      have : y = S "__class__" := by
        have hn : scTB.names.all (fun p => (p.2 != .cell && p.2 != .free) || p.1 == S "__class__") = true := by kernel_rfl
        rcases ky with ky | ky
        · have := List.all_eq_true.mp hn _ (mem_of_look (show scTB.names.lookup y = _ from ky))
          simpa using this
        · have := List.all_eq_true.mp hn _ (mem_of_look (show scTB.names.lookup y = _ from ky))
          simpa using this
      subst this
      kernel_rfl
  refine bind3 e2 fun f1 ρ1 σ2 ea eb => ?_
  refine bind2 ea fun u1 σ3 ec ed => ?_
  cases ed
  refine bind2 ec fun a σ4 ee ef => ?_
  obtain ⟨ea1, rfl⟩ := loc_of ee
  dsimp only at ef
  split at ef
  rotate_left
  · cases ef
  rename_i hg
  refine bind2 ef fun us2 σ5 e7 ef => ?_
  cases e7
  have : a = u := by
    unfold Rho.set at ea1
    rw [if_pos rfl] at ea1
    cases ea1; rfl
  subst this
  obtain ⟨i, rfl⟩ := isIns_of hg
  obtain ⟨xx, dx, rfl, hi, hxx, hn⟩ := r.iIns
  have hxx1 : h1.get? xx = some (instObj 705 dx) := hk _ _ hxx
  have k705 : h1.get? 705 = some (ob_705 P) := hk _ _ (KI _ _ (by kernel_rfl))
  have KI1 : (K0 P).In h1 := B.kin X1
  refine ks_wpAt_execs_cons (ks_wpAt_Expr_any (ks_wpAt_MethodCall ?_) (by kernel_rfl) (by kernel_rfl))
  refine ks_wpAt_super_base (f := 604) (cc := 603) (of := ob_604 P) (oc := ob_603 P) (fd := fd_604) (env := x.env scTB) (s := { s with heap := h1, toks := s.toks + 1 }) (by kernel_rfl) (by kernel_rfl) (by kernel_rfl) xf (hk _ _ k604) rfl rfl xd (hk _ _ k603) rfl rfl hp.1 hp.2 ?_
  refine ks_loadName_global (env := x.env scTB) (by kernel_rfl) (by kernel_rfl) (Calls.loadGlobal_builtin (env := x.env scTB) (B.g.keeps X1.base) (B.mg_of (x := S "super") (by kernel_rfl)) (B.b.keeps X1.base) ((B.bi _ (by decide)).trans (by kernel_rfl)) ⟨rfl, ?_⟩)
  refine wpAny_loadName_free (env := x.env scTB) (c := 592) (by kernel_rfl) (by kernel_rfl) (by show x.cl.lookup _ = _; rw [xc]; kernel_rfl) ⟨_, k592, rfl⟩ ?_
  obtain ⟨m, hnm, hmm⟩ := F1.ns
  obtain ⟨cs0, hm1, hm2⟩ := hmm "self" _ (by unfold Rho.set; exact if_pos rfl) (by show scTB.names.lookup (S "self") = some .local; kernel_rfl)
  refine wpAny_loadName_local (env := x.env scTB) (by kernel_rfl) (by kernel_rfl) hnm hm1 ?_
  have hcs : cs0 = .ref xx := by
    have e := hns
    rw [← show (x.env scTB).locals = s.heap.objs.size from xL] at e
    have := Heap.Ns.agree hnm e (S "self")
    rw [hm1] at this
    have h2 : (List.lookup (S "self") (List.reverse [(S "self", Value.ref xx)])) = some (.ref xx) := by kernel_rfl
    rw [h2] at this
    cases this; rfl
  subst hcs
  refine ks_wpAny_isType_cls k705 rfl ⟨rfl, ?_⟩
  refine ks_wpAny_call_super k705 rfl hxx1 rfl (fun c e => by cases e) (looks_mroIn (K := K0 P) KI1 (by kernel_rfl)) (fun h2 e2' k2 => ?_)
  -- the super object
  have hsz2 : h1.objs.size < h2.objs.size := Heap.lt_size e2'
  have X2 : St prog w hO μ σ h2 := X1.more (Nat.le_of_lt hsz2) k2
  have G2 : Grow [] μ h1 μ h2 := grow_new (Nat.le_of_lt hsz2) k2
  have KI2 : (K0 P).In h2 := B.kin X2
  have k186 : h2.get? 186 = some (ob_186 P) := KI2 _ _ (by kernel_rfl)
  have hne : xx ≠ 705 := by
    rintro rfl
    rw [k705] at hxx1
    cases hxx1
  obtain ⟨cd, hcd, hmro⟩ : ∃ cd, clsIn (K0 P) 705 = some cd ∧ cd.mro = [.ref 705, .ref 586, .ref 490, .ref 385, .type "object"] := Option.map_eq_some_iff.mp (by kernel_rfl : (clsIn (K0 P) 705).map (·.mro) = some [.ref 705, .ref 586, .ref 490, .ref 385, .type "object"])
  refine ks_wpAny_getMethod_super (K := K0 P) (so := h1.objs.size) (D := 705) (x := xx) (C := 705) (f := 186) (of := ob_186 P) (l₀ := [.ref 705, .ref 586, .ref 490, .ref 385, .type "object"]) e2' (looks_opaque KI2 (by kernel_rfl)) (fun A Q E s k q => wpAny_bind ((looks_clsIn (K := K0 P) KI2 hcd) A _ E s k (wpAny_pure (by rw [hmro]; exact q)))) rfl KI2 (by kernel_rfl) k186 rfl hne (by decide) ?_
  have hsz3 : (h2.push { cls := .type "method", data := .fields #[.ref 186, .ref xx] }).objs.size = h2.objs.size + 1 := Heap.size_push _ _
  have k3 : ∀ b o, h2.get? b = some o -> (h2.push { cls := .type "method", data := .fields #[.ref 186, .ref xx] }).get? b = some o := fun b o e => Heap.get?_push_of_some _ e
  have hm3 : (h2.push { cls := .type "method", data := .fields #[.ref 186, .ref xx] }).get? h2.objs.size = some (methodObj (.ref 186) (.ref xx)) := Heap.get?_push_size _ rfl
  generalize h2.push { cls := .type "method", data := .fields #[.ref 186, .ref xx] } = h3 at hsz3 k3 hm3 ⊢
  have X3 : St prog w hO μ σ h3 := X2.more (by rw [hsz3]; exact Nat.le_succ _) k3
  have G3 : Grow [] μ h2 μ h3 := grow_new (by rw [hsz3]; exact Nat.le_succ _) k3
  refine callWith_M0 (K := K0 P) ⟨hm3, B.kin X3⟩ (by kernel_rfl) ?_
  refine wpAny_call (method_call hm3 ?_)
  have Gs : Grow [] μ s.heap μ h3 := (G1.trans G2).trans G3
  have rxx : VRel hO.prv μ h3 (.ins 705 i) (.ref xx) := ((VRel.ins hi hxx hn : VRel hO.prv μ s.heap (.ins 705 i) (.ref xx))).grow Gs (.nil _)
  have RmB : Room 2 (A.deeper (x.env scTB)) := by
    refine ⟨Rm.1, ?_, ?_⟩
    · have := Rm.2.1; show A.depth + 1 + 2 < recursionLimit; omega
    · have := Rm.2.2; show A.units + _ + 40 * 2 + 100 < cLine; omega
  refine s_d_Bank_init B _ [.ins 705 i] [.ref xx] _ _ _ { s with heap := h3, toks := _ } μ _ RmB ef (.cons rxx .nil) X3 fun h4 t4 μ4 c4 G4 X4 r4 => ?_
  have G14 : Grow [] μ h1 μ4 h4 := (G2.trans G3).trans G4
  have F4 := F1.grow G14
  refine wpAt_of_wpAny ?_
  have hb : TB prog w hO 2 scTB (bodyTB.drop 1) (dsSeq (dsAttr 705 "bv_numbers" (dEmpty (.id [])) (dLoc "self")) dsNil) := tBc (tS_attr B (tE_empty (.inr (.inl rfl))) tEv) tBn
  refine hb.o _ _ _ _ _ _ x _ [x.L] μ4 _ _ RmB OC eb F4 X4 fun h5 t5 μ5 G5 X5 F5 => ?_
  have G : Grow [] μ s.heap μ5 h5 := (((Gs.trans G4).up).trans G5).shrink fun b hb => .inr (low (by rw [List.mem_singleton.mp hb, xL]; exact Nat.le_refl _))
  cases f with
  | next => cases efin; exact Po h5 t5 μ5 _ G X5 .none
  | ret u => cases efin; exact fun c rc => Po h5 t5 μ5 c G X5 rc
noncomputable def n_TermBank : DF := dNew 705 d_TermBank_init
theorem s_n_TermBank {P : Params} (hp : progOk prog = true) (B : Base hO (K0 P) mg mb) : SndFc prog w hO 4 (.ref 705) n_TermBank := snd_new B (by kernel_rfl) (by kernel_rfl) (by kernel_rfl) (s_d_TermBank_init hp B)
end
end
section
section
variable {prog : Program} {w : World} {hO : HB} {mg mb : Str -> Option Value}
noncomputable def b_l_weights : DenS := (dsSeq (dsRet (dLst (dCons (dTup (dCons (dK (.int 1)) (dCons (dK (.int 1)) dNil))) (dCons (dTup (dCons (dK (.int 2)) (dCons (dK (.int 1)) dNil))) (dCons (dTup (dCons (dK (.int 1)) (dCons (dK (.int 2)) dNil))) (dCons (dTup (dCons (dK (.int 3)) (dCons (dK (.int 2)) dNil))) (dCons (dTup (dCons (dK (.int 2)) (dCons (dK (.int 3)) dNil))) dNil))))))) dsNil)
noncomputable def d_l_weights : DF := dFun [] b_l_weights
theorem ok_l_weights (P : Params) : FnOk (K0 P) 880 fd_880 [] := mkOk (ob_880 P) (ob_879 P) (by show _ = _; kernel_rfl)
theorem s_d_l_weights {P : Params} (B : Base hO (K0 P) mg mb) : SndFc prog w hO 1 (.ref 880) d_l_weights := by
  unfold d_l_weights b_l_weights
  refine t_fun (P := P) (n := 0) B (ok_l_weights P) rfl ?_
  exact (tBc (tSr (tE_Lst (tLc (tEt (tLc tEi (tLc tEi tLn))) (tLc (tEt (tLc tEi (tLc tEi tLn))) (tLc (tEt (tLc tEi (tLc tEi tLn))) (tLc (tEt (tLc tEi (tLc tEi tLn))) (tLc (tEt (tLc tEi (tLc tEi tLn))) tLn))))))) tBn)
noncomputable def b_l_draw : DenS := (dsSeq (dsSet "k" (d2 oGet (dLoc "feed") (dK (.str "at")))) (dsSeq (dsItem (d2 oAdd (dLoc "k") (dK (.int 1))) (dLoc "feed") (dK (.str "at"))) (dsSeq (dsIf (cVal (d2 oLt (dLoc "k") (dCall oLen (dCons (d2 oGet (dLoc "feed") (dK (.str "cells"))) dNil)))) (dsSeq (dsRet (d2 oMod (d2 oGet (d2 oGet (dLoc "feed") (dK (.str "cells"))) (dLoc "k")) (dLoc "wide"))) dsNil) dsNil) (dsSeq (dsRet (d2 oMod (d2 oMod (d2 oAdd (d2 oAdd (d2 oAdd (d2 oMul (d2 oMul (dK (.int 5)) (dLoc "k")) (dLoc "k")) (d2 oMul (dK (.int 7)) (dLoc "k"))) (d2 oMul (dK (.int 3)) (dCall oLen (dCons (d2 oGet (dLoc "feed") (dK (.str "cells"))) dNil)))) (dK (.int 2))) (dK (.int 97))) (dLoc "wide"))) dsNil))))
noncomputable def d_l_draw : DF := dFun ["feed", "wide"] b_l_draw
theorem ok_l_draw (P : Params) : FnOk (K0 P) 895 fd_895 ["feed", "wide"] := mkOk (ob_895 P) (ob_894 P) fun V V => by show _ = _; kernel_rfl
theorem s_d_l_draw {P : Params} (B : Base hO (K0 P) mg mb) : SndFc prog w hO 1 (.ref 895) d_l_draw := by
  unfold d_l_draw b_l_draw
  refine t_fun (P := P) (n := 0) B (ok_l_draw P) rfl ?_
  exact (tBc (tS_set (tEs tEv tE_str)) (tBc (tS_item (tEb tEv tEi s_add) tEv tE_str) (tBc (tS_if (tC_cmp tEv (tE_bcall B (tLc (tEs tEv tE_str) tLn) f_len) s_lt) (tBc (tSr (tEb (tEs (tEs tEv tE_str) tEv) tEv s_mod)) tBn) tBn) (tBc (tSr (tEb (tEb (tEb (tEb (tEb (tEb (tEb tEi tEv s_mul) tEv s_mul) (tEb tEi tEv s_mul) s_add) (tEb tEi (tE_bcall B (tLc (tEs tEv tE_str) tLn) f_len) s_mul) s_add) tEi s_add) tEi s_mod) tEv s_mod)) tBn))))
noncomputable def wc_l_common1 : DenC := (cVal (d2 oNe (dLoc "b") (dK (.int 0))))
noncomputable def wb_l_common1 : DenS := (dsSeq (dsTupR ["a", "b"] (dTup (dCons (dLoc "b") (dCons (d2 oMod (dLoc "a") (dLoc "b")) dNil)))) dsNil)
noncomputable def b_l_common : DenS := (dsSeq (dsTupR ["a", "b"] (dTup (dCons (dCall oAbs (dCons (dLoc "a") dNil)) (dCons (dCall oAbs (dCons (dLoc "b") dNil)) dNil)))) (dsSeq (dsWhile fuelB wc_l_common1 wb_l_common1) (dsSeq (dsRet (dLoc "a")) dsNil)))
noncomputable def d_l_common : DF := dFun ["a", "b"] b_l_common
theorem ok_l_common (P : Params) : FnOk (K0 P) 902 fd_902 ["a", "b"] := mkOk (ob_902 P) (ob_901 P) fun V V => by show _ = _; kernel_rfl
theorem s_d_l_common {P : Params} (B : Base hO (K0 P) mg mb) : SndFc prog w hO 1 (.ref 902) d_l_common := by
  unfold d_l_common b_l_common
  refine t_fun (P := P) (n := 0) B (ok_l_common P) rfl ?_
  exact (tBc (tS_tupR (tEt (tLc (tE_bcall B (tLc tEv tLn) f_abs) (tLc (tE_bcall B (tLc tEv tLn) f_abs) tLn)))) (tBc (tS_while (tC_cmp tEv tEi s_ne) (tBc (tS_tupR (tEt (tLc tEv (tLc (tEb tEv tEv s_mod) tLn)))) tBn)) (tBc (tSr tEv) tBn)))
noncomputable def b_l_ratio : DenS := (dsSeq (dsSet "common" (dCall d_l_common (dCons (dLoc "top") (dCons (dLoc "bottom") dNil)))) (dsSeq (dsRet (dTup (dCons (d2 oDiv (dLoc "top") (dLoc "common")) (dCons (d2 oDiv (dLoc "bottom") (dLoc "common")) dNil)))) dsNil))
noncomputable def d_l_ratio : DF := dFun ["top", "bottom"] b_l_ratio
theorem ok_l_ratio (P : Params) : FnOk (K0 P) 909 fd_909 ["top", "bottom"] := mkOk (ob_909 P) (ob_908 P) fun V V => by show _ = _; kernel_rfl
theorem s_d_l_ratio {P : Params} (B : Base hO (K0 P) mg mb) : SndFc prog w hO 2 (.ref 909) d_l_ratio := by
  unfold d_l_ratio b_l_ratio
  refine t_fun (P := P) (n := 1) B (ok_l_ratio P) rfl ?_
  exact (tBc (tS_set (tEc B (tLc tEv (tLc tEv tLn)) ((s_d_l_common B).up rfl))) (tBc (tSr (tEt (tLc (tEb tEv tEv s_div) (tLc (tEb tEv tEv s_div) tLn)))) tBn))
noncomputable def ce_l_side1 : Den := (dMeth (ownOk 705 "times_num") d_NumberBanktimes_num (dLoc "bank") (dCons (dTup (dCons (dLoc "often") (dCons (dK (.int 1)) dNil))) (dCons (dLoc "one") dNil)))
noncomputable def cc_l_side1 : DenC := (cVal (d2 oNe (dLoc "often") (dK (.int 0))))
noncomputable def b_l_side : DenS := (dsSeq (dsSet "found" (dComp ["bank"] (iZip (dLoc "some") (dLoc "numbers")) (bindT ["one", "often"]) cc_l_side1 ce_l_side1)) (dsSeq (dsRet (dMeth (ownOk 705 "plus") d_NumberBankplus (dLoc "bank") (dCons (d2 oAdd (dLoc "found") (dLst (dCons (dMeth (ownOk 705 "num") d_NumberBanknum (dLoc "bank") (dCons (dTup (dCons (dLoc "number") (dCons (dK (.int 1)) dNil))) (dCons (dMeth (ownOk 705 "sort") d_Banksort (dLoc "bank") (dCons (d2 oGet (dLoc "some") (dK (.int 0))) dNil)) dNil))) dNil))) dNil))) dsNil))
noncomputable def d_l_side : DF := dFun ["bank", "some", "numbers", "number"] b_l_side
theorem ok_l_side (P : Params) : FnOk (K0 P) 914 fd_914 ["bank", "some", "numbers", "number"] := mkOk (ob_914 P) (ob_913 P) fun V V V V => by show _ = _; kernel_rfl
theorem s_d_l_side {P : Params} (B : Base hO (K0 P) mg mb) : SndFc prog w hO 5 (.ref 914) d_l_side := by
  unfold d_l_side b_l_side
  refine t_fun (P := P) (n := 4) B (ok_l_side P) rfl ?_
  exact (tBc (tS_comp B (tI_zip B tEv tEv) (fun V => ⟨_, _, _, rfl⟩) (tgtC_tup (.cons (.cons .nil)) rfl (by kernel_rfl)) bindOn_tup (fun V B1 => (tT_one (tC_cmp tEv tEi s_ne))) (fun V B1 => (tE_own B1 tEv (tLc (tEt (tLc tEv (tLc tEi tLn))) (tLc tEv tLn)) ((s_d_NumberBanktimes_num B1).up rfl)))) (tBc (tSr (tE_own B tEv (tLc (tEb tEv (tE_Lst (tLc (tE_own B tEv (tLc (tEt (tLc tEv (tLc tEi tLn))) (tLc (tE_own B tEv (tLc (tEs tEv tEi) tLn) ((s_d_Banksort B).up rfl)) tLn)) ((s_d_NumberBanknum B).up rfl)) tLn)) s_add) tLn) ((s_d_NumberBankplus B).up rfl))) tBn))
noncomputable def ce_l_normal1 : Den := (d2 oDiv (dLoc "one") (dLoc "common"))
noncomputable def b_l_normal : DenS := (dsSeq (dsSet "common" (dCall d_l_common (dCons (d2 oGet (dLoc "numbers") (dK (.int 0))) (dCons (d2 oGet (dLoc "numbers") (dK (.int 1))) dNil)))) (dsSeq (dsIf (cVal (d2 oEq (dLoc "common") (dK (.int 0)))) (dsSeq (dsRet (dTup (dCons (dLoc "spot") (dCons (dLoc "numbers") (dCons (d2 oMul (dK (.int 12)) (dLoc "bound")) (dCons (dLoc "is_strict") dNil)))))) dsNil) dsNil) (dsSeq (dsSet "small" (dComp ["common"] (iSeq (dLoc "numbers")) (bindN "one") cTrue ce_l_normal1)) (dsSeq (dsIf (cVal (d2 oEq (dLoc "spot") (dK (.int 1)))) (dsSeq (dsRet (dTup (dCons (dLoc "spot") (dCons (dLoc "small") (dCons (d2 oDiv (d2 oMul (dK (.int 12)) (dLoc "bound")) (dLoc "common")) (dCons (dLoc "is_strict") dNil)))))) dsNil) dsNil) (dsSeq (dsRet (dTup (dCons (dLoc "spot") (dCons (dLoc "small") (dCons (d2 oMul (dK (.int 12)) (dIf (cVal (dLoc "is_strict")) (d2 oSub (d1 oNeg (d2 oDiv (d1 oNeg (dLoc "bound")) (dLoc "common"))) (dK (.int 1))) (d2 oDiv (dLoc "bound") (dLoc "common")))) (dCons (dK (.bool false)) dNil)))))) dsNil)))))
noncomputable def d_l_normal : DF := dFun ["spot", "numbers", "bound", "is_strict"] b_l_normal
theorem ok_l_normal (P : Params) : FnOk (K0 P) 924 fd_924 ["spot", "numbers", "bound", "is_strict"] := mkOk (ob_924 P) (ob_923 P) fun V V V V => by show _ = _; kernel_rfl
theorem s_d_l_normal {P : Params} (B : Base hO (K0 P) mg mb) : SndFc prog w hO 2 (.ref 924) d_l_normal := by
  unfold d_l_normal b_l_normal
  refine t_fun (P := P) (n := 1) B (ok_l_normal P) rfl ?_
  exact (tBc (tS_set (tEc B (tLc (tEs tEv tEi) (tLc (tEs tEv tEi) tLn)) ((s_d_l_common B).up rfl))) (tBc (tS_if (tC_cmp tEv tEi s_eq) (tBc (tSr (tEt (tLc tEv (tLc tEv (tLc (tEb tEi tEv s_mul) (tLc tEv tLn)))))) tBn) tBn) (tBc (tS_comp B (tI_seq tEv) (fun q => nomatch q) (tgtC_name rfl (by kernel_rfl)) bindOn_name (fun V B1 => tT_nil) (fun V B1 => (tEb tEv tEv s_div))) (tBc (tS_if (tC_cmp tEv tEi s_eq) (tBc (tSr (tEt (tLc tEv (tLc tEv (tLc (tEb (tEb tEi tEv s_mul) tEv s_div) (tLc tEv tLn)))))) tBn) tBn) (tBc (tSr (tEt (tLc tEv (tLc tEv (tLc (tEb tEi (tE_if (tC_val tEv) (tEb (tE_un (tEb (tE_un tEv s_neg) tEv s_div) s_neg) tEi s_sub) (tEb tEv tEv s_div)) s_mul) (tLc tE_bool tLn)))))) tBn)))))
noncomputable def ce_l_say1 : Den := (d2 oMul (dLoc "turn") (d2 oSub (dLoc "a") (dLoc "b")))
noncomputable def sy1 : DenS := (dsTupR ["literal", "spot"] (dTup (dCons (d2 oAdd (dCall oLen (dCons (d2 oGet (dLoc "world") (dK (.str "clause"))) dNil)) (dK (.int 1))) (dCons (dCall d_l_draw (dCons (dLoc "feed") (dCons (dK (.int 2)) dNil))) dNil))))
noncomputable def sy2 : DenS := (dsSet "near" (dLst (dCons (d2 oSub (dCall d_l_draw (dCons (dLoc "feed") (dCons (dK (.int 5)) dNil))) (dK (.int 2))) (dCons (d2 oSub (dCall d_l_draw (dCons (dLoc "feed") (dCons (dK (.int 5)) dNil))) (dK (.int 2))) dNil))))
noncomputable def sy3 : DenS := (dsSet "far" (dLst (dCons (d2 oSub (dCall d_l_draw (dCons (dLoc "feed") (dCons (dK (.int 3)) dNil))) (dK (.int 1))) (dCons (dK (.int 0)) dNil))))
noncomputable def sy4 : DenS := (dsTupR ["low", "high"] (dTup (dCons (dCall d_l_draw (dCons (dLoc "feed") (dCons (dK (.int 3)) dNil))) (dCons (dCall d_l_draw (dCons (dLoc "feed") (dCons (dK (.int 4)) dNil))) dNil))))
noncomputable def sy5 : DenS := (dsIf (cAnd (cVal (d2 oGt (dCall oLen (dCons (d2 oGet (dLoc "world") (dK (.str "said"))) dNil)) (dK (.int 0)))) (cAnd (cVal (d2 oEq (dCall d_l_draw (dCons (dLoc "feed") (dCons (dK (.int 2)) dNil))) (dK (.int 1)))) cTrue)) (dsSeq (dsTupR ["spot", "near", "far"] (dTup (dCons (d2 oGet (d2 oGet (d2 oGet (dLoc "world") (dK (.str "said"))) (d1 oNeg (dK (.int 1)))) (dK (.int 0))) (dCons (d2 oGet (d2 oGet (d2 oGet (dLoc "world") (dK (.str "said"))) (d1 oNeg (dK (.int 1)))) (dK (.int 2))) (dCons (d2 oGet (d2 oGet (d2 oGet (dLoc "world") (dK (.str "said"))) (d1 oNeg (dK (.int 1)))) (dK (.int 1))) dNil))))) dsNil) dsNil)
noncomputable def sy6 : DenS := (dsExpr (dMeth isListV oAppend (d2 oGet (dLoc "world") (dK (.str "said"))) (dCons (dTup (dCons (dLoc "spot") (dCons (dLoc "near") (dCons (dLoc "far") dNil)))) dNil)))
noncomputable def sy7 : DenS := (dsTupR ["some", "is_strict", "is_denied"] (dTup (dCons (d2 oGet (d2 oGet (dLoc "world") (dK (.str "unknowns"))) (dLoc "spot")) (dCons (d2 oEq (dCall d_l_draw (dCons (dLoc "feed") (dCons (dK (.int 2)) dNil))) (dK (.int 1))) (dCons (d2 oEq (dCall d_l_draw (dCons (dLoc "feed") (dCons (dK (.int 2)) dNil))) (dK (.int 1))) dNil)))))
noncomputable def sy8 : DenS := (dsTupR ["left", "right"] (dTup (dCons (dCall d_l_side (dCons (d2 oGet (dLoc "world") (dK (.str "bank"))) (dCons (dLoc "some") (dCons (dLoc "near") (dCons (dLoc "low") dNil))))) (dCons (dCall d_l_side (dCons (d2 oGet (dLoc "world") (dK (.str "bank"))) (dCons (dLoc "some") (dCons (dLoc "far") (dCons (dLoc "high") dNil))))) dNil))))
noncomputable def sy9 : DenS := (dsSet "term" (dIf (cVal (dLoc "is_strict")) (dMeth (ownOk 705 "lt") d_NumberBanklt (d2 oGet (dLoc "world") (dK (.str "bank"))) (dCons (dLoc "left") (dCons (dLoc "right") dNil))) (dMeth (ownOk 705 "le") d_NumberBankle (d2 oGet (dLoc "world") (dK (.str "bank"))) (dCons (dLoc "left") (dCons (dLoc "right") dNil)))))
noncomputable def sy10 : DenS := (dsSet "turn" (dIf (cVal (dLoc "is_denied")) (dK (.int 1)) (d1 oNeg (dK (.int 1)))))
noncomputable def sy11 : DenS := (dsItem (dIf (cVal (dLoc "is_denied")) (d1 oNeg (dLoc "term")) (dLoc "term")) (d2 oGet (dLoc "world") (dK (.str "clause"))) (dLoc "literal"))
noncomputable def sy12 : DenS := (dsItem (dCall d_l_normal (dCons (dLoc "spot") (dCons (dComp ["turn"] (iZip (dLoc "near") (dLoc "far")) (bindT ["a", "b"]) cTrue ce_l_say1) (dCons (d2 oMul (dLoc "turn") (d2 oSub (dLoc "high") (dLoc "low"))) (dCons (d2 oEq (dLoc "is_strict") (dLoc "is_denied")) dNil))))) (d2 oGet (dLoc "world") (dK (.str "rows"))) (dLoc "literal"))
noncomputable def b_l_say : DenS := dsSeq sy1 (dsSeq sy2 (dsSeq sy3 (dsSeq sy4 (dsSeq sy5 (dsSeq sy6 (dsSeq sy7 (dsSeq sy8 (dsSeq sy9 (dsSeq sy10 (dsSeq sy11 (dsSeq sy12 dsNil)))))))))))
noncomputable def d_l_say : DF := dFun ["feed", "world"] b_l_say
theorem ok_l_say (P : Params) : FnOk (K0 P) 919 fd_919 ["feed", "world"] := mkOk (ob_919 P) (ob_918 P) fun V V => by show _ = _; kernel_rfl
theorem s_d_l_say {P : Params} (B : Base hO (K0 P) mg mb) : SndFc prog w hO 6 (.ref 919) d_l_say := by
  unfold d_l_say b_l_say sy1 sy2 sy3 sy4 sy5 sy6 sy7 sy8 sy9 sy10 sy11 sy12
  refine t_fun (P := P) (n := 5) B (ok_l_say P) rfl ?_
  exact (tBc (tS_tupR (tEt (tLc (tEb (tE_bcall B (tLc (tEs tEv tE_str) tLn) f_len) tEi s_add) (tLc (tEc B (tLc tEv (tLc tEi tLn)) ((s_d_l_draw B).up rfl)) tLn)))) (tBc (tS_set (tE_Lst (tLc (tEb (tEc B (tLc tEv (tLc tEi tLn)) ((s_d_l_draw B).up rfl)) tEi s_sub) (tLc (tEb (tEc B (tLc tEv (tLc tEi tLn)) ((s_d_l_draw B).up rfl)) tEi s_sub) tLn)))) (tBc (tS_set (tE_Lst (tLc (tEb (tEc B (tLc tEv (tLc tEi tLn)) ((s_d_l_draw B).up rfl)) tEi s_sub) (tLc tEi tLn)))) (tBc (tS_tupR (tEt (tLc (tEc B (tLc tEv (tLc tEi tLn)) ((s_d_l_draw B).up rfl)) (tLc (tEc B (tLc tEv (tLc tEi tLn)) ((s_d_l_draw B).up rfl)) tLn)))) (tBc (tS_if (tC_and (tC_cmp (tE_bcall B (tLc (tEs tEv tE_str) tLn) f_len) tEi s_gt) (tC_and (tC_cmp (tEc B (tLc tEv (tLc tEi tLn)) ((s_d_l_draw B).up rfl)) tEi s_eq) tC_and0)) (tBc (tS_tupR (tEt (tLc (tEs (tEs (tEs tEv tE_str) (tE_un tEi s_neg)) tEi) (tLc (tEs (tEs (tEs tEv tE_str) (tE_un tEi s_neg)) tEi) (tLc (tEs (tEs (tEs tEv tE_str) (tE_un tEi s_neg)) tEi) tLn))))) tBn) tBn) (tBc (tS_expr (tE_meth (tEs tEv tE_str) (tLc (tEt (tLc tEv (tLc tEv (tLc tEv tLn)))) tLn) m_append f_append)) (tBc (tS_tupR (tEt (tLc (tEs (tEs tEv tE_str) tEv) (tLc (tE_cmp (tEc B (tLc tEv (tLc tEi tLn)) ((s_d_l_draw B).up rfl)) tEi s_eq) (tLc (tE_cmp (tEc B (tLc tEv (tLc tEi tLn)) ((s_d_l_draw B).up rfl)) tEi s_eq) tLn))))) (tBc (tS_tupR (tEt (tLc (tEc B (tLc (tEs tEv tE_str) (tLc tEv (tLc tEv (tLc tEv tLn)))) ((s_d_l_side B).up rfl)) (tLc (tEc B (tLc (tEs tEv tE_str) (tLc tEv (tLc tEv (tLc tEv tLn)))) ((s_d_l_side B).up rfl)) tLn)))) (tBc (tS_set (tE_if (tC_val tEv) (tE_own B (tEs tEv tE_str) (tLc tEv (tLc tEv tLn)) ((s_d_NumberBanklt B).up rfl)) (tE_own B (tEs tEv tE_str) (tLc tEv (tLc tEv tLn)) ((s_d_NumberBankle B).up rfl)))) (tBc (tS_set (tE_if (tC_val tEv) tEi (tE_un tEi s_neg))) (tBc (tS_item (tE_if (tC_val tEv) (tE_un tEv s_neg) tEv) (tEs tEv tE_str) tEv) (tBc (tS_item (tEc B (tLc tEv (tLc (tE_comp B (tI_zip B tEv tEv) (fun V => ⟨_, _, _, rfl⟩) (tgtC_tup (.cons (.cons .nil)) rfl (by kernel_rfl)) bindOn_tup (fun V B1 => tT_nil) (fun V B1 => (tEb tEv (tEb tEv tEv s_sub) s_mul))) (tLc (tEb tEv (tEb tEv tEv s_sub) s_mul) (tLc (tE_cmp tEv tEv s_eq) tLn)))) ((s_d_l_normal B).up rfl)) (tEs tEv tE_str) tEv) tBn))))))))))))
noncomputable def b_l_is_weight : DenS := (dsSeq (dsIf (cOr (cNot (cVal (dIsT "tuple" (dLoc "thing")))) (cOr (cVal (d2 oNe (dCall oLen (dCons (dLoc "thing") dNil)) (dK (.int 2)))) (cOr (cVal (d2 oLt (d2 oGet (dLoc "thing") (dK (.int 0))) (dK (.int 1)))) (cOr (cVal (d2 oLt (d2 oGet (dLoc "thing") (dK (.int 1))) (dK (.int 1)))) cFalse)))) (dsSeq (dsRet (dK (.bool false))) dsNil) dsNil) (dsSeq (dsRet (d2 oEq (dCall d_l_common (dCons (d2 oGet (dLoc "thing") (dK (.int 0))) (dCons (d2 oGet (dLoc "thing") (dK (.int 1))) dNil))) (dK (.int 1)))) dsNil))
noncomputable def d_l_is_weight : DF := dFun ["thing"] b_l_is_weight
theorem ok_l_is_weight (P : Params) : FnOk (K0 P) 931 fd_931 ["thing"] := mkOk (ob_931 P) (ob_930 P) fun V => by show _ = _; kernel_rfl
theorem s_d_l_is_weight {P : Params} (B : Base hO (K0 P) mg mb) : SndFc prog w hO 2 (.ref 931) d_l_is_weight := by
  unfold d_l_is_weight b_l_is_weight
  refine t_fun (P := P) (n := 1) B (ok_l_is_weight P) rfl ?_
  exact (tBc (tS_if (tC_or (tC_not (tC_val (tE_isT B tEv))) (tC_or (tC_cmp (tE_bcall B (tLc tEv tLn) f_len) tEi s_ne) (tC_or (tC_cmp (tEs tEv tEi) tEi s_lt) (tC_or (tC_cmp (tEs tEv tEi) tEi s_lt) tC_or0)))) (tBc (tSr tE_bool) tBn) tBn) (tBc (tSr (tE_cmp (tEc B (tLc (tEs tEv tEi) (tLc (tEs tEv tEi) tLn)) ((s_d_l_common B).up rfl)) tEi s_eq)) tBn))
noncomputable def fb_l_due1 : DenS := (dsSeq (dsItem (d2 oAdd (d2 oGet (dLoc "found") (d2 oAdd (d2 oMul (dK (.int 2)) (dLoc "spot")) (dLoc "k"))) (d2 oMul (d2 oMul (dK (.int 12)) (dLoc "often")) (d2 oGet (dLoc "numbers") (dLoc "k")))) (dLoc "found") (d2 oAdd (d2 oMul (dK (.int 2)) (dLoc "spot")) (dLoc "k"))) dsNil)
noncomputable def dd1 : DenS := (dsIf (cOr (cNot (cVal (dIsT "tuple" (dLoc "pair")))) (cOr (cVal (d2 oIn (d2 oGet (dLoc "pair") (dK (.int 0))) (dLoc "seen"))) (cOr (cVal (d2 oNotIn (d2 oGet (dLoc "pair") (dK (.int 0))) (d2 oGet (dLoc "world") (dK (.str "rows"))))) (cOr (cNot (cVal (dCall d_l_is_weight (dCons (d2 oGet (dLoc "pair") (dK (.int 1))) dNil)))) cFalse)))) (dsSeq (dsRet (dK .none)) dsNil) dsNil)
noncomputable def dd2 : DenS := (dsExpr (dMeth isListV oAppend (dLoc "seen") (dCons (d2 oGet (dLoc "pair") (dK (.int 0))) dNil)))
noncomputable def dd3 : DenS := (dsTup ["spot", "numbers", "bound", "is_sharp"] (d2 oGet (d2 oGet (dLoc "world") (dK (.str "rows"))) (d2 oGet (dLoc "pair") (dK (.int 0)))))
noncomputable def dd4 : DenS := (dsSet "often" (d2 oDiv (d2 oMul (dK (.int 6)) (d2 oGet (d2 oGet (dLoc "pair") (dK (.int 1))) (dK (.int 0)))) (d2 oGet (d2 oGet (dLoc "pair") (dK (.int 1))) (dK (.int 1)))))
noncomputable def dd5 : DenS := (dsFor (iSeq (dTup (dCons (dK (.int 0)) (dCons (dK (.int 1)) dNil)))) (bindN "k") fb_l_due1)
noncomputable def dd6 : DenS := (dsItem (d2 oAdd (d2 oGet (dLoc "found") (dK (.int 4))) (d2 oMul (dLoc "often") (dLoc "bound"))) (dLoc "found") (dK (.int 4)))
noncomputable def dd7 : DenS := (dsSet "is_strict" (dOr (dLoc "is_strict") (dLoc "is_sharp")))
noncomputable def fb_l_due2 : DenS := dsSeq dd1 (dsSeq dd2 (dsSeq dd3 (dsSeq dd4 (dsSeq dd5 (dsSeq dd6 (dsSeq dd7 dsNil))))))
noncomputable def du1 : DenS := (dsIf (cNot (cVal (dIsT "tuple" (dLoc "weights")))) (dsSeq (dsRet (dK .none)) dsNil) dsNil)
noncomputable def du2 : DenS := (dsTupR ["found", "is_strict", "seen"] (dTup (dCons (dLstM (dCons (dK (.int 0)) (dCons (dK (.int 0)) (dCons (dK (.int 0)) (dCons (dK (.int 0)) (dCons (dK (.int 0)) dNil)))))) (dCons (dK (.bool false)) (dCons (dLstM dNil) dNil)))))
noncomputable def du3 : DenS := (dsFor (iSeq (dLoc "weights")) (bindN "pair") fb_l_due2)
noncomputable def du4 : DenS := (dsRet (dTup (dCons (dLoc "found") (dCons (dLoc "is_strict") dNil))))
noncomputable def b_l_due : DenS := dsSeq du1 (dsSeq du2 (dsSeq du3 (dsSeq du4 dsNil)))
noncomputable def d_l_due : DF := dFun ["world", "weights"] b_l_due
theorem ok_l_due (P : Params) : FnOk (K0 P) 938 fd_938 ["world", "weights"] := mkOk (ob_938 P) (ob_937 P) fun V V => by show _ = _; kernel_rfl
theorem s_d_l_due {P : Params} (B : Base hO (K0 P) mg mb) : SndFc prog w hO 3 (.ref 938) d_l_due := by
  unfold d_l_due b_l_due du1 du2 du3 du4
  refine t_fun (P := P) (n := 2) B (ok_l_due P) rfl ?_
  exact (tBc (tS_if (tC_not (tC_val (tE_isT B tEv))) (tBc (tSr tE_none) tBn) tBn) (tBc (tS_tupR (tEt (tLc (tE_LstM (tLc tEi (tLc tEi (tLc tEi (tLc tEi (tLc tEi tLn)))))) (tLc tE_bool (tLc (tE_LstM tLn) tLn))))) (tBc (tS_for B (tI_seq tEv) (fun q => nomatch q) (tgt_name rfl (by kernel_rfl)) fun V B1 => (tBc (tS_if (tC_or (tC_not (tC_val (tE_isT B1 tEv))) (tC_or (tC_cmp (tEs tEv tEi) tEv s_in) (tC_or (tC_cmp (tEs tEv tEi) (tEs tEv tE_str) s_notIn) (tC_or (tC_not (tC_val (tEc B1 (tLc (tEs tEv tEi) tLn) ((s_d_l_is_weight B1).up rfl)))) tC_or0)))) (tBc (tSr tE_none) tBn) tBn) (tBc (tS_expr (tE_meth tEv (tLc (tEs tEv tEi) tLn) m_append f_append)) (tBc (tS_tup (.cons (.cons (.cons (.cons .nil)))) (tEs (tEs tEv tE_str) (tEs tEv tEi))) (tBc (tS_set (tEb (tEb tEi (tEs (tEs tEv tEi) tEi) s_mul) (tEs (tEs tEv tEi) tEi) s_div)) (tBc (tS_for B1 (tI_seq (tEt (tLc tEi (tLc tEi tLn)))) (fun q => nomatch q) (tgt_name rfl (by kernel_rfl)) fun V B1 => (tBc (tS_item (tEb (tEs tEv (tEb (tEb tEi tEv s_mul) tEv s_add)) (tEb (tEb tEi tEv s_mul) (tEs tEv tEv) s_mul) s_add) tEv (tEb (tEb tEi tEv s_mul) tEv s_add)) tBn)) (tBc (tS_item (tEb (tEs tEv tEi) (tEb tEv tEv s_mul) s_add) tEv tEi) (tBc (tS_set (tE_or tEv (tE_bool1 tEv))) tBn)))))))) (tBc (tSr (tEt (tLc tEv (tLc tEv tLn)))) tBn))))
noncomputable def ce_l_is_right1 : Den := (dLoc "one")
noncomputable def cc_l_is_right1 : DenC := (cVal (d2 oNe (dLoc "number") (dK (.int 0))))
noncomputable def ce_l_is_right2 : Den := (dMeth isDictV oGetOr (d1 (oAttr 794 "parts") (dLoc "got")) (dCons (dLoc "one") (dCons (dTup (dCons (dK (.int 0)) (dCons (dK (.int 1)) dNil))) dNil)))
noncomputable def ce_l_is_right3 : Den := (dCall d_l_ratio (dCons (dLoc "number") (dCons (dK (.int 72)) dNil)))
noncomputable def ri1 : DenS := (dsTup ["got", "due"] (dTup (dCons (dMeth (ownOk 869 "sum_of") d_RowJudgesum_of (dLoc "judge") (dCons (d2 oGet (dLoc "world") (dK (.str "clause"))) (dCons (dLoc "weights") dNil))) (dCons (dCall d_l_due (dCons (dLoc "world") (dCons (dLoc "weights") dNil))) dNil))))
noncomputable def ri2 : DenS := (dsIf (cOr (cVal (d2 oIs (dLoc "due") (dK .none))) (cOr (cVal (d2 oIs (dLoc "got") (dK .none))) cFalse)) (dsSeq (dsRet (dAnd (d2 oIs (dLoc "due") (dK .none)) (d2 oIs (dLoc "got") (dK .none)))) dsNil) dsNil)
noncomputable def ri3 : DenS := (dsSet "every" (d2 oAdd (d2 oGet (d2 oGet (dLoc "world") (dK (.str "unknowns"))) (dK (.int 0))) (d2 oGet (d2 oGet (dLoc "world") (dK (.str "unknowns"))) (dK (.int 1)))))
noncomputable def ri4 : DenS := (dsIf (cVal (d2 oNe (dComp ["got"] (iSeq (dLoc "every")) (bindN "one") cTrue ce_l_is_right2) (dComp [] (iSeq (d2 oTo (d2 oGet (dLoc "due") (dK (.int 0))) (dK (.int 4)))) (bindN "number") cTrue ce_l_is_right3))) (dsSeq (dsRet (dK (.bool false))) dsNil) dsNil)
noncomputable def ri5 : DenS := (dsSet "left" (dComp [] (iZip (dLoc "every") (d2 oGet (dLoc "due") (dK (.int 0)))) (bindT ["one", "number"]) cc_l_is_right1 ce_l_is_right1))
noncomputable def ri6 : DenS := (dsSet "is_clash" (dAnd (d2 oEq (dLoc "left") (dLst dNil)) (dOr (d2 oLt (d2 oGet (d2 oGet (dLoc "due") (dK (.int 0))) (dK (.int 4))) (dK (.int 0))) (dAnd (d2 oEq (d2 oGet (d2 oGet (dLoc "due") (dK (.int 0))) (dK (.int 4))) (dK (.int 0))) (d2 oGet (dLoc "due") (dK (.int 1)))))))
noncomputable def ri7 : DenS := (dsRet (d2 oEq (dTup (dCons (d1 (oAttr 794 "bound") (dLoc "got")) (dCons (d1 (oAttr 794 "is_strict") (dLoc "got")) (dCons (dMeth (ownOk 794 "left") d_RowSumleft (dLoc "got") dNil) (dCons (dMeth (ownOk 794 "is_clash") d_RowSumis_clash (dLoc "got") dNil) dNil))))) (dTup (dCons (dCall d_l_ratio (dCons (d2 oGet (d2 oGet (dLoc "due") (dK (.int 0))) (dK (.int 4))) (dCons (dK (.int 72)) dNil))) (dCons (d2 oGet (dLoc "due") (dK (.int 1))) (dCons (dCall oSorted (dCons (dLoc "left") dNil)) (dCons (dLoc "is_clash") dNil)))))))
noncomputable def b_l_is_right : DenS := dsSeq ri1 (dsSeq ri2 (dsSeq ri3 (dsSeq ri4 (dsSeq ri5 (dsSeq ri6 (dsSeq ri7 dsNil))))))
noncomputable def d_l_is_right : DF := dFun ["judge", "world", "weights"] b_l_is_right
theorem ok_l_is_right (P : Params) : FnOk (K0 P) 943 fd_943 ["judge", "world", "weights"] := mkOk (ob_943 P) (ob_942 P) fun V V V => by show _ = _; kernel_rfl
theorem s_d_l_is_right {P : Params} (B : Base hO (K0 P) mg mb) : SndFc prog w hO 7 (.ref 943) d_l_is_right := by
  unfold d_l_is_right b_l_is_right ri1 ri2 ri3 ri4 ri5 ri6 ri7
  refine t_fun (P := P) (n := 6) B (ok_l_is_right P) rfl ?_
  exact (tBc (tS_tup (.cons (.cons .nil)) (tEt (tLc (tE_own B tEv (tLc (tEs tEv tE_str) (tLc tEv tLn)) ((s_d_RowJudgesum_of B).up rfl)) (tLc (tEc B (tLc tEv (tLc tEv tLn)) ((s_d_l_due B).up rfl)) tLn)))) (tBc (tS_if (tC_or (tC_cmp tEv tE_none s_is) (tC_or (tC_cmp tEv tE_none s_is) tC_or0)) (tBc (tSr (tE_and (tE_cmp tEv tE_none s_is) (tE_bool1 (tE_cmp tEv tE_none s_is)))) tBn) tBn) (tBc (tS_set (tEb (tEs (tEs tEv tE_str) tEi) (tEs (tEs tEv tE_str) tEi) s_add)) (tBc (tS_if (tC_cmp (tE_comp B (tI_seq tEv) (fun q => nomatch q) (tgtC_name rfl (by kernel_rfl)) bindOn_name (fun V B1 => tT_nil) (fun V B1 => (tE_meth (tEa B1 tEv) (tLc tEv (tLc (tEt (tLc tEi (tLc tEi tLn))) tLn)) m_get f_get))) (tE_comp B (tI_seq (tE_to (tEs tEv tEi) tEi)) (fun q => nomatch q) (tgtC_name rfl (by kernel_rfl)) bindOn_name (fun V B1 => tT_nil) (fun V B1 => (tEc B1 (tLc tEv (tLc tEi tLn)) ((s_d_l_ratio B1).up rfl)))) s_ne) (tBc (tSr tE_bool) tBn) tBn) (tBc (tS_comp B (tI_zip B tEv (tEs tEv tEi)) (fun V => ⟨_, _, _, rfl⟩) (tgtC_tup (.cons (.cons .nil)) rfl (by kernel_rfl)) bindOn_tup (fun V B1 => (tT_one (tC_cmp tEv tEi s_ne))) (fun V B1 => tEv)) (tBc (tS_set (tE_and (tE_cmp tEv (tE_Lst tLn) s_eq) (tE_bool1 (tE_or (tE_cmp (tEs (tEs tEv tEi) tEi) tEi s_lt) (tE_bool1 (tE_and (tE_cmp (tEs (tEs tEv tEi) tEi) tEi s_eq) (tE_bool1 (tEs tEv tEi)))))))) (tBc (tSr (tE_cmp (tEt (tLc (tEa B tEv) (tLc (tEa B tEv) (tLc (tE_own0 B tEv ((s_d_RowSumleft B).up rfl)) (tLc (tE_own0 B tEv ((s_d_RowSumis_clash B).up rfl)) tLn))))) (tEt (tLc (tEc B (tLc (tEs (tEs tEv tEi) tEi) (tLc tEi tLn)) ((s_d_l_ratio B).up rfl)) (tLc (tEs tEv tEi) (tLc (tE_bcall B (tLc tEv tLn) f_sorted) (tLc tEv tLn))))) s_eq)) tBn)))))))
noncomputable def ce_l_drawn1 : Den := (dTup (dCons (dLoc "literal") (dCons (d2 oGet (dCall d_l_weights dNil) (dCall d_l_draw (dCons (dLoc "feed") (dCons (dK (.int 5)) dNil)))) dNil)))
noncomputable def dr1 : DenS := (dsSet "some" (dCall oSorted (dCons (d2 oGet (dLoc "world") (dK (.str "rows"))) dNil)))
noncomputable def dr2 : DenS := (dsSet "turn" (dCall d_l_draw (dCons (dLoc "feed") (dCons (dCall oLen (dCons (dLoc "some") dNil)) dNil))))
noncomputable def dr3 : DenS := (dsSet "some" (d2 oTo (d2 oAdd (d2 oFrom (dLoc "some") (dLoc "turn")) (d2 oTo (dLoc "some") (dLoc "turn"))) (d2 oAdd (dK (.int 1)) (dCall d_l_draw (dCons (dLoc "feed") (dCons (dCall oLen (dCons (dLoc "some") dNil)) dNil))))))
noncomputable def dr4 : DenS := (dsRet (dComp ["feed"] (iSeq (dLoc "some")) (bindN "literal") cTrue ce_l_drawn1))
noncomputable def b_l_drawn : DenS := dsSeq dr1 (dsSeq dr2 (dsSeq dr3 (dsSeq dr4 dsNil)))
noncomputable def d_l_drawn : DF := dFun ["feed", "world"] b_l_drawn
theorem ok_l_drawn (P : Params) : FnOk (K0 P) 948 fd_948 ["feed", "world"] := mkOk (ob_948 P) (ob_947 P) fun V V => by show _ = _; kernel_rfl
theorem s_d_l_drawn {P : Params} (B : Base hO (K0 P) mg mb) : SndFc prog w hO 2 (.ref 948) d_l_drawn := by
  unfold d_l_drawn b_l_drawn dr1 dr2 dr3 dr4
  refine t_fun (P := P) (n := 1) B (ok_l_drawn P) rfl ?_
  exact (tBc (tS_set (tE_bcall B (tLc (tEs tEv tE_str) tLn) f_sorted)) (tBc (tS_set (tEc B (tLc tEv (tLc (tE_bcall B (tLc tEv tLn) f_len) tLn)) ((s_d_l_draw B).up rfl))) (tBc (tS_set (tE_to (tEb (tE_from tEv tEv) (tE_to tEv tEv) s_add) (tEb tEi (tEc B (tLc tEv (tLc (tE_bcall B (tLc tEv tLn) f_len) tLn)) ((s_d_l_draw B).up rfl)) s_add))) (tBc (tSr (tE_comp B (tI_seq tEv) (fun q => nomatch q) (tgtC_name rfl (by kernel_rfl)) bindOn_name (fun V B1 => tT_nil) (fun V B1 => (tEt (tLc tEv (tLc (tEs (tE_call0 B1 ((s_d_l_weights B1).up rfl)) (tEc B1 (tLc tEv (tLc tEi tLn)) ((s_d_l_draw B1).up rfl))) tLn)))))) tBn))))
noncomputable def lw1 : DenS := (dsSet "pairs" (dCall d_l_drawn (dCons (dLoc "feed") (dCons (dLoc "world") dNil))))
noncomputable def lw2 : DenS := (dsIf (cNot (cVal (dCall d_l_is_right (dCons (dLoc "judge") (dCons (dLoc "world") (dCons (dCall oTuple (dCons (dLoc "pairs") dNil)) dNil)))))) (dsSeq (dsRet (dK (.bool false))) dsNil) dsNil)
noncomputable def lw3 : DenS := (dsSet "bent" (d2 oGet (dLst (dCons (d2 oAdd (dLoc "pairs") (dLst (dCons (d2 oGet (dLoc "pairs") (dK (.int 0))) dNil))) (dCons (d2 oAdd (dLoc "pairs") (dLst (dCons (dTup (dCons (d1 oNeg (dK (.int 9))) (dCons (dTup (dCons (dK (.int 1)) (dCons (dK (.int 1)) dNil))) dNil))) dNil))) (dCons (d2 oAdd (dLoc "pairs") (dLst (dCons (dTup (dCons (dK (.int 8)) (dCons (dTup (dCons (dK (.int 1)) (dCons (dK (.int 1)) dNil))) dNil))) dNil))) (dCons (d2 oAdd (dLst (dCons (dTup (dCons (d2 oGet (d2 oGet (dLoc "pairs") (dK (.int 0))) (dK (.int 0))) (dCons (d2 oGet g__law_bent (dCall d_l_draw (dCons (dLoc "feed") (dCons (dK (.int 9)) dNil)))) dNil))) dNil)) (d2 oFrom (dLoc "pairs") (dK (.int 1)))) (dCons (d2 oAdd (dLst (dCons (dCall oList (dCons (d2 oGet (dLoc "pairs") (dK (.int 0))) dNil)) dNil)) (d2 oFrom (dLoc "pairs") (dK (.int 1)))) (dCons (d2 oAdd (dLst (dCons (dTup (dCons (dK (.bool true)) (dCons (dTup (dCons (dK (.int 1)) (dCons (dK (.int 1)) dNil))) dNil))) dNil)) (d2 oFrom (dLoc "pairs") (dK (.int 1)))) dNil))))))) (dCall d_l_draw (dCons (dLoc "feed") (dCons (dK (.int 6)) dNil)))))
noncomputable def lw4 : DenS := (dsIf (cOr (cVal (d2 oIsNot (dMeth (ownOk 869 "sum_of") d_RowJudgesum_of (dLoc "judge") (dCons (d2 oGet (dLoc "world") (dK (.str "clause"))) (dCons (dCall oTuple (dCons (dLoc "bent") dNil)) dNil))) (dK .none))) (cOr (cVal (d2 oIsNot (dMeth (ownOk 869 "sum_of") d_RowJudgesum_of (dLoc "judge") (dCons (d2 oGet (dLoc "world") (dK (.str "clause"))) (dCons (dLoc "pairs") dNil))) (dK .none))) cFalse)) (dsSeq (dsRet (dK (.bool false))) dsNil) dsNil)
noncomputable def fb_law1 : DenS := dsSeq lw1 (dsSeq lw2 (dsSeq lw3 (dsSeq lw4 dsNil)))
noncomputable def fb_law2 : DenS := (dsSeq (dsExpr (dCall d_l_say (dCons (dLoc "feed") (dCons (dLoc "world") dNil)))) dsNil)
noncomputable def ce_law1 : Den := (dMeth (ownOk 705 "fresh_const") d_Bankfresh_const (dLoc "bank") (dCons (dLoc "name") (dCons (dLoc "sort") dNil)))
noncomputable def ce_law2 : Den := (dComp ["bank", "sort"] (iStr (dLoc "names")) (bindN "name") cTrue ce_law1)
noncomputable def la1 : DenS := (dsTup ["feed", "bank"] (dTup (dCons (dDictS ["cells", "at"] (dCons (dCall oList (dCons (d2 oTo (dLoc "script") (dK (.int 60))) dNil)) (dCons (dK (.int 0)) dNil))) (dCons (dCall n_TermBank dNil) dNil))))
noncomputable def la2 : DenS := (dsSet "unknowns" (dComp ["bank"] (iSeq (dTup (dCons (dTup (dCons (dK (.str "xy")) (dCons g_INT dNil))) (dCons (dTup (dCons (dK (.str "uv")) (dCons g_REAL dNil))) dNil)))) (bindT ["names", "sort"]) cTrue ce_law2))
noncomputable def la3 : DenS := (dsSet "world" (dDictS ["bank", "unknowns", "clause", "rows", "said"] (dCons (dLoc "bank") (dCons (dLoc "unknowns") (dCons (dEmpty (.id [])) (dCons (dEmpty (.id [])) (dCons (dLstM dNil) dNil)))))))
noncomputable def la4 : DenS := (dsFor (iRange (d2 oAdd (dK (.int 2)) (dCall d_l_draw (dCons (dLoc "feed") (dCons (dK (.int 3)) dNil))))) (bindN "lap") fb_law2)
noncomputable def la5 : DenS := (dsItem (dMeth (ownOk 705 "fresh_const") d_Bankfresh_const (dLoc "bank") (dCons (dK (.str "q")) (dCons g_BOOL dNil))) (d2 oGet (dLoc "world") (dK (.str "clause"))) (d1 oNeg (dK (.int 9))))
noncomputable def la6 : DenS := (dsSet "judge" (dCall n_RowJudge (dCons (dLoc "bank") dNil)))
noncomputable def la7 : DenS := (dsFor (iRange (dK (.int 3))) (bindN "lap") fb_law1)
noncomputable def la8 : DenS := (dsRet (dCall d_l_is_right (dCons (dLoc "judge") (dCons (dLoc "world") (dCons (dTup dNil) dNil)))))
noncomputable def b_law : DenS := dsSeq la1 (dsSeq la2 (dsSeq la3 (dsSeq la4 (dsSeq la5 (dsSeq la6 (dsSeq la7 (dsSeq la8 dsNil)))))))
noncomputable def d_law : DF := dFun ["script"] b_law
theorem ok_law (P : Params) : FnOk (K0 P) 953 fd_953 ["script"] := mkOk (ob_953 P) (ob_952 P) fun V => by show _ = _; kernel_rfl
theorem s_d_law {P : Params} (hp : progOk prog = true) (B : Base hO (K0 P) mg mb) : SndFc prog w hO 8 (.ref 953) d_law := by
  unfold d_law b_law la1 la2 la3 la4 la5 la6 la7 la8
  refine t_fun (P := P) (n := 7) B (ok_law P) rfl ?_
  exact (tBc (tS_tup (.cons (.cons .nil)) (tEt (tLc (tE_dictS (tP_cons (tE_tcall B (tLc (tE_to tEv tEi) tLn) f_list) (tP_cons tEi tP_nil)) rfl rfl (by simp) (Nat.le_of_ble_eq_true rfl)) (tLc (tE_call0 B ((s_n_TermBank hp B).up rfl)) tLn)))) (tBc (tS_comp B (tI_seq (tEt (tLc (tEt (tLc tE_str (tLc (tE_const B kv_INT) tLn))) (tLc (tEt (tLc tE_str (tLc (tE_const B kv_REAL) tLn))) tLn)))) (fun q => nomatch q) (tgtC_tup (.cons (.cons .nil)) rfl (by kernel_rfl)) bindOn_tup (fun V B1 => tT_nil) (fun V B1 => (tE_comp B1 (tI_str tEv) (fun q => nomatch q) (tgtC_name rfl (by kernel_rfl)) bindOn_name (fun V B1 => tT_nil) (fun V B1 => (tE_own B1 tEv (tLc tEv (tLc tEv tLn)) ((s_d_Bankfresh_const B1).up rfl)))))) (tBc (tS_set (tE_dictS (tP_cons tEv (tP_cons tEv (tP_cons (tE_empty (.inr (.inl rfl))) (tP_cons (tE_empty (.inr (.inl rfl))) (tP_cons (tE_LstM tLn) tP_nil))))) rfl rfl (by simp) (Nat.le_of_ble_eq_true rfl))) (tBc (tS_for B (tI_range B (tEb tEi (tEc B (tLc tEv (tLc tEi tLn)) ((s_d_l_draw B).up rfl)) s_add)) (fun q => nomatch q) (tgt_name rfl (by kernel_rfl)) fun V B1 => (tBc (tS_expr (tEc B1 (tLc tEv (tLc tEv tLn)) ((s_d_l_say B1).up rfl))) tBn)) (tBc (tS_item (tE_own B tEv (tLc tE_str (tLc (tE_const B kv_BOOL) tLn)) ((s_d_Bankfresh_const B).up rfl)) (tEs tEv tE_str) (tE_un tEi s_neg)) (tBc (tS_set (tEc B (tLc tEv tLn) ((s_n_RowJudge B).up rfl))) (tBc (tS_for B (tI_range B tEi) (fun q => nomatch q) (tgt_name rfl (by kernel_rfl)) fun V B1 => (tBc (tS_set (tEc B1 (tLc tEv (tLc tEv tLn)) ((s_d_l_drawn B1).up rfl))) (tBc (tS_if (tC_not (tC_val (tEc B1 (tLc tEv (tLc tEv (tLc (tE_tcall B1 (tLc tEv tLn) f_tuple) tLn))) ((s_d_l_is_right B1).up rfl)))) (tBc (tSr tE_bool) tBn) tBn) (tBc (tS_set (tEs (tE_Lst (tLc (tEb tEv (tE_Lst (tLc (tEs tEv tEi) tLn)) s_add) (tLc (tEb tEv (tE_Lst (tLc (tEt (tLc (tE_un tEi s_neg) (tLc (tEt (tLc tEi (tLc tEi tLn))) tLn))) tLn)) s_add) (tLc (tEb tEv (tE_Lst (tLc (tEt (tLc tEi (tLc (tEt (tLc tEi (tLc tEi tLn))) tLn))) tLn)) s_add) (tLc (tEb (tE_Lst (tLc (tEt (tLc (tEs (tEs tEv tEi) tEi) (tLc (tEs (tE_const B1 kv__law_bent) (tEc B1 (tLc tEv (tLc tEi tLn)) ((s_d_l_draw B1).up rfl))) tLn))) tLn)) (tE_from tEv tEi) s_add) (tLc (tEb (tE_Lst (tLc (tE_tcall B1 (tLc (tEs tEv tEi) tLn) f_list) tLn)) (tE_from tEv tEi) s_add) (tLc (tEb (tE_Lst (tLc (tEt (tLc tE_bool (tLc (tEt (tLc tEi (tLc tEi tLn))) tLn))) tLn)) (tE_from tEv tEi) s_add) tLn))))))) (tEc B1 (tLc tEv (tLc tEi tLn)) ((s_d_l_draw B1).up rfl)))) (tBc (tS_if (tC_or (tC_cmp (tE_own B1 tEv (tLc (tEs tEv tE_str) (tLc (tE_tcall B1 (tLc tEv tLn) f_tuple) tLn)) ((s_d_RowJudgesum_of B1).up rfl)) tE_none s_isNot) (tC_or (tC_cmp (tE_own B1 tEv (tLc (tEs tEv tE_str) (tLc tEv tLn)) ((s_d_RowJudgesum_of B1).up rfl)) tE_none s_isNot) tC_or0)) (tBc (tSr tE_bool) tBn) tBn) tBn))))) (tBc (tSr (tEc B (tLc tEv (tLc tEv (tLc (tEt tLn) tLn))) ((s_d_l_is_right B).up rfl))) tBn))))))))
end
end
section
set_option maxHeartbeats 0 in
theorem saidOK : PySem.Challenge.rw_qz0031_01.wellSaid = true := by
  have e : PySem.W.Fast.tw9446332074065402090 PySem.Challenge.rw_qz0031_01 = true := by decide +kernel
  rw [PySem.W.Fast.te9446332074065402090]
  exact e
end
section
noncomputable def runG (ok : Thread -> Bool) (st : SharedT -> Thread -> Option (SharedT × Thread)) : Nat -> SharedT -> Thread -> Option SharedT
  | 0, _, _ => none
  | n + 1, s, t => match through t with
    | true => some s
    | false => match ok t with
      | false => none
      | true => match st s t with
        | some (s', t') => runG ok st n s' t'
        | none => none
theorem runG_spec {tb : String -> Option Builtin} {p : Program} {w : World} {n₀ : Nat} {ann : Option Value} : ∀ (n : Nat) (s s' : SharedT) (t : Thread),
    runG (stepOk n₀ ann) (stepT (denote tb) p w) n s t = some s' -> topRun tb p w n₀ ann n s.abs t = some s'.abs
  | 0, _, _, _, h => by simp [runG] at h
  | n + 1, s, s', t, h => by
    unfold runG at h
    unfold topRun
    cases ht : through t with
    | true => rw [ht] at h; cases h; rfl
    | false =>
      rw [ht] at h
      cases hk : stepOk n₀ ann t with
      | false => rw [hk] at h; cases h
      | true =>
        rw [hk] at h
        cases hs : stepT (denote tb) p w s t with
        | none => rw [hs] at h; cases h
        | some r => obtain ⟨s₂, t₂⟩ := r; rw [hs] at h; rw [stepT_spec hs]; exact runG_spec n _ _ _ h

noncomputable def okQ := PySem.W.Fast.tw6613529449190102663
noncomputable def stQ (p : Program) (w : World) := PySem.W.Fast.tw10156331382660048174 (PySem.W.Fast.tw11892475500146522536 PySem.W.Fast.tw14364793385576792824) p w
theorem okQ_eq : @stepOk = okQ := PySem.W.Fast.te6613529449190102663
theorem stQ_eq : (fun p w => stepT (denote treeTable) p w) = stQ := by
  unfold stQ
  rw [PySem.W.Fast.te10156331382660048174, PySem.W.Fast.te11892475500146522536, PySem.W.Fast.te14364793385576792824]
noncomputable def bootT (P : Params) : BT := ((((((((((BT.nil.ins 0 (boot_o_0 P)).ins 1 (boot_o_1 P)).ins 2 (boot_o_2 P)).ins 3 (boot_o_3 P)).ins 4 (boot_o_4 P)).ins 5 (boot_o_5 P)).ins 6 (boot_o_6 P)).ins 7 (boot_o_7 P)).ins 8 (boot_o_8 P)).ins 9 (boot_o_9 P)).ins 10 (boot_o_10 P)
noncomputable def bootS (w : World) (os : OsState) : SharedT := ⟨bootT w.params, 11, {}, #[], boot_drawn, boot_toks, os⟩
theorem boot_abs (w : World) (os : OsState) : (bootS w os).abs = ⟨boot_heap w.params, #[], boot_drawn, boot_toks, os⟩ := by
  kernel_rfl!
noncomputable def q0 : Program := { PySem.Challenge.pw_qz0031_01 with main := { PySem.Challenge.pw_qz0031_01.main with body := PySem.Challenge.pw_qz0031_01.main.body.drop 51 } }
noncomputable def loose0 : List Str := PySem.Challenge.pw_qz0031_01.boundNames.filter fun n => n != ("law" : Str)

noncomputable def seenQ := PySem.W.Fast.tw4187177175401517315
theorem seenQ_eq : @openSeen = seenQ := PySem.W.Fast.te4187177175401517315
noncomputable def seenAll (P : Params) (s : Shared) :=
  ((staticsOk (importedModules PySem.Challenge.pw_qz0031_01.main.body) (boot_heap P) s.heap && namesBound PySem.Challenge.pw_qz0031_01 s.heap && gensDone s && laidKept (boot_heap P) s.heap),
   seenQ q0 loose0 (importedModules PySem.Challenge.pw_qz0031_01.main.body) (fun V => true) true s)
noncomputable def seenK (P : Params) (s : Shared) := (seenAll P s, asK.map s.heap.get?)
set_option maxHeartbeats 0 in
theorem topK (w : World) (os : OsState) : (runG (okQ 11 (some (.ref 6))) (stQ PySem.Challenge.pw_qz0031_01 w) 6200 (bootS w os) (topStub PySem.Challenge.pw_qz0031_01)).map (fun s => seenK w.params s.abs) = some ((true, openGood q0 loose0), (K0 w.params).map (fun p => some p.2)) := by
  kernel_rfl!
end
section
theorem hasInts {xs : List WData} : WShape.hasItems [] xs .int = true -> ∃ is : List Int, xs = is.map .int := by
  induction xs with
  | nil => exact fun V => ⟨[], rfl⟩
  | cons x r ih =>
    intro h
    unfold WShape.hasItems at h
    obtain ⟨h1, h2⟩ := Bool.and_eq_true_iff.mp h
    obtain ⟨is, rfl⟩ := ih h2
    cases x with
    | int i => exact ⟨i :: is, rfl⟩
    | _ => exact nomatch (show false = true from h1)
theorem hasList {d : WData} (h : WShape.has [] d (.list .int) = true) : ∃ is : List Int, d = .list (is.map .int) := by
  cases d with
  | list xs =>
    have h : (WShape.hasItems [] xs .int || false) = true := h
    rw [Bool.or_false] at h
    obtain ⟨is, rfl⟩ := hasInts h
    exact ⟨is, rfl⟩
  | _ => exact nomatch (show false = true from h)
theorem preLen {is : List Int} (h : PySem.Challenge.rw_qz0031_01.pre.holds [] { args := [.list (is.map .int)] } = true) : is.length ≤ 63 := by
  have e : PySem.Challenge.rw_qz0031_01.pre = .and (.not (.lt (.lit (.int 63)) (.len (.arg 0)))) (.lit (.bool true)) := rfl
  rw [e] at h
  rcases Nat.lt_or_ge 63 is.length with q | q
  · exfalso
    have q' : decide ((63 : Int) < (is.length : Int)) = true := by simp; omega
    have l : less? (WData.int 63) (WData.int (is.length : Int)) = some true := (by rfl : less? (WData.int 63) (WData.int (is.length : Int)) = some (decide ((63 : Int) < (is.length : Int)))).trans (by rw [q'])
    simp [WTm.holds, WTm.value, l] at h
  · exact q
noncomputable def IntInv (v : Value) : WData -> Prop
  | .int i => ∃ t, v = .int i t
  | _ => True
theorem readInt {R : WRecords} {cl : Str -> Option Addr} {h : Heap} {v : Value} {d : WData} {as : List Addr} (r : ReadsW R cl h v d as) : IntInv v d := by
  cases r <;> first | trivial | exact ⟨_, rfl⟩
theorem readInts {R : WRecords} {cl : Str -> Option Addr} {h : Heap} {pv μ : List Addr} {is : List Int} : ∀ {vs : List Value} {as : List Addr}, ReadsAllW R cl h vs (is.map .int) as -> VRels pv μ h (is.map .int) vs := by
  induction is with
  | nil => intro vs as r; cases r; exact .nil
  | cons i is ih =>
    intro vs as r
    cases r with
    | cons a b =>
      obtain ⟨t, rfl⟩ := readInt a
      exact .cons (.int i t) (ih b)
end
section
theorem boot_size (P : Params) : ((boot_heap P).isNs mainGlobals && (#[] : Array GenState).size == 0, (boot_heap P).objs.size, (boot_heap P).nsMap mainGlobals "__annotations__") = (true, 11, some (.ref 6)) := by kernel_rfl!

theorem run_abs {p : Program} {w : World} {N n₀ : Nat} {ann : Option Value} {okF : Nat -> Option Value -> Thread -> Bool} {stF : Program -> World -> SharedT -> Thread -> Option (SharedT × Thread)} (h1 : @stepOk = okF) (h2 : (fun p w => stepT (denote treeTable) p w) = stF) {b : SharedT} {s0 : Shared} (hb : b.abs = s0) {β : Type} {f : Shared -> β} {v : β}
    (h : (runG (okF n₀ ann) (stF p w) N b (topStub p)).map (fun s => f s.abs) = some v) : ∃ s, topRun treeTable p w n₀ ann N s0 (topStub p) = some s ∧ f s = v := by
  subst h1 h2 hb
  obtain ⟨s, hs, hv⟩ := Option.map_eq_some_iff.mp h
  exact ⟨s.abs, runG_spec N _ _ _ hs, hv⟩
theorem left_of {p q : Program} {loose : List Str} {Xt : Shared -> Bool} {α : Type} {Yf : Shared -> α} {Ya : World -> α} {N : Nat} {H₀ : Params -> Heap} {d₀ : Drawn} {k₀ m₀ : Nat} {ann : Option Value}
    (open_ : ∀ w : World, (fencedOpening treeTable p w N).map (fun s => (s.heap, s.gens, s.drawn, s.toks)) = some (H₀ w.params, Array.mk [], d₀, k₀))
    (size : ∀ P : Params, ((H₀ P).isNs mainGlobals && (#[] : Array GenState).size == 0, (H₀ P).objs.size, (H₀ P).nsMap mainGlobals "__annotations__") = (true, m₀, ann))
    (run : ∀ (w : World) (os : OsState), ∃ s, topRun treeTable p w m₀ ann N ⟨H₀ w.params, #[], d₀, k₀, os⟩ (topStub p) = some s ∧ (staticsOk (importedModules p.main.body) (H₀ w.params) s.heap && namesBound p s.heap && gensDone s && laidKept (H₀ w.params) s.heap) = true ∧ openSeen q loose (importedModules p.main.body) Xt true s = openGood q loose ∧ Yf s = Ya w) : LeftO p q loose Xt Yf Ya N := fun w => by
  obtain ⟨⟨h, gs, d, k, os⟩, e, e'⟩ := Option.map_eq_some_iff.mp (open_ w)
  obtain ⟨rfl, rfl, rfl, rfl⟩ : h = H₀ w.params ∧ gs = #[] ∧ d = d₀ ∧ k = k₀ := by simpa using e'
  obtain ⟨z1, z2, z3⟩ : _ ∧ _ ∧ _ := by simpa only [Prod.mk.injEq] using size w.params
  obtain ⟨s, r, l1, l2, l3⟩ := run w os
  have t : topFrom treeTable p w N ⟨H₀ w.params, #[], d, k, os⟩ = some s := by
    unfold topFrom
    dsimp only
    rw [z1, z2, z3, r]
    show (match staticsOk (importedModules p.main.body) (H₀ w.params) s.heap && namesBound p s.heap && gensDone s && laidKept (H₀ w.params) s.heap with | true => _ | false => _) = _
    rw [l1]
  unfold openEnds
  rw [e]
  show (topFrom treeTable p w N _).map _ = _
  rw [t]
  exact congrArg some (Prod.ext l2 l3)
theorem seenK_of {P : Params} {s : Shared} {v : _} (h : seenK P s = v) : (staticsOk (importedModules pw.main.body) (boot_heap P) s.heap && namesBound pw s.heap && gensDone s && laidKept (boot_heap P) s.heap) = v.1.1 ∧ openSeen q0 loose0 (importedModules pw.main.body) (fun V => true) true s = v.1.2 ∧ asK.map s.heap.get? = v.2 := by
  subst h
  refine ⟨rfl, ?_, rfl⟩
  unfold seenK seenAll
  rw [← seenQ_eq]
theorem left0 : LeftO pw q0 loose0 (fun V => true) (fun s => asK.map s.heap.get?) (fun w => (K0 w.params).map (fun p => some p.2)) 6200 := by
  refine left_of (H₀ := boot_heap) (d₀ := boot_drawn) (k₀ := boot_toks) (m₀ := 11) (ann := some (.ref 6)) (fun w => boot_open (p := pw) (N := 6200) rfl rfl (fun s => rfl) w) boot_size fun w os => ?_
  obtain ⟨s, r, hv⟩ := run_abs okQ_eq stQ_eq (boot_abs w os) (topK w os)
  obtain ⟨a, b, c⟩ := seenK_of hv
  exact ⟨s, r, a, b, c⟩

theorem law_call (main : ∀ xs : List Int, xs.length ≤ 63 -> ∃ σ, d_law [.lst (xs.map .int)] [] = some (.bool true, σ)) {d : DefRec} {kwd : List (Str × PySem.Expr)} (hdn : d.name = S "law") : WalkO q0 loose0 (fun V V => True) (fun w h => (K0 w.params).In h) PySem.Challenge.rw_qz0031_01.row.toRowW d kwd fun f vs => PySem.call f vs := by
  intro w s₀ s₁ mg mb G Y a o pm cd doc dV kV ha hd hcd hD hmg hg args vals as hpre hlay hrd hwl hlo
  obtain ⟨h1, h2⟩ := pre_splitW hpre
  obtain ⟨d1, r1, rfl, hd1, hr1⟩ := hasAllW_cons h1
  obtain rfl := hasAllW_nil hr1
  obtain ⟨is, rfl⟩ := hasList hd1
  have hlen := preLen h2
  have K953 : s₁.heap.get? 953 = some (ob_953 w.params) := Y _ _ (by kernel_rfl)
  let hO : HB := ⟨s₁.heap, fun V => none, [], s₁.heap.objs.size, Nat.lt_of_le_of_lt (by decide : sysModules ≤ 953) (Heap.lt_size K953)⟩
  have B : Base hO (K0 w.params) mg mb := ⟨G.T.g, G.T.b, G.T.builtins, G.T.nolimit, Y, fun a o e => Heap.lt_size (Y a o e)⟩
  have X : St pw w hO [] [] s₁.heap := ⟨rfl, List.nodup_nil, fun i a o e => (by simp at e), fun b o e => e, fun i a e => (by simp at e), Nat.le_refl _, fun a ha => (by cases ha), fun a ha => (by cases ha), fun i o e => (by cases e), fun a ha => (by cases ha)⟩
  have ea : a = 953 := by
    have := B.mg_of (x := S "law") (r := some (.ref 953)) (by kernel_rfl)
    rw [hdn] at hmg
    rw [hmg] at this
    cases this; rfl
  subst ea
  cases hrd with
  | @cons v vs _ _ as1 as2 hv hvs =>
  cases hvs with
  | nil =>
  cases hv with
  | @list L oL items n _ as3 hL hc hdt hits =>
  have rl : VRel hO.prv [] s₁.heap (.lst (is.map .int)) (.ref L) := .lst (cs := items.toList) ⟨oL, hL, hc, n, by rw [hdt]⟩ ⟨by simp, by simp [hO]⟩ (readInts hits)
  obtain ⟨σ', em⟩ := main is hlen
  have R : Room 8 callerA := ⟨rfl, by decide, by decide⟩
  refine (s_d_law (by kernel_rfl : progOk pw = true) B).f callerA [.lst (is.map .int)] [.ref L] [] _ σ' s₁ [] _ _ R em (.cons rl .nil) X fun h' t' μ' c G' X' rc => ?_
  cases rc
  have hk : ∀ b o, s₁.heap.get? b = some o -> h'.get? b = some o := fun b o e => G'.keep b o e (by simp) (by simp)
  exact ⟨.inl ⟨_, .bool true, [], rfl, fun V => rfl, .bool true, by kernel_rfl, fun V => ⟨List.nodup_nil, fun a ha => by cases ha⟩⟩, .of_keep hk, rfl, .of_eq hg⟩

theorem holds_of (main : ∀ xs : List Int, xs.length ≤ 63 -> ∃ σ, d_law [.lst (xs.map .int)] [] = some (.bool true, σ)) : PySem.Challenge.rw_qz0031_01.Holds := by
  refine holds_law saidOK fun said => ?_
  refine PySem.W.holds_open (r := PySem.Challenge.rw_qz0031_01.row) (q := q0) (loose := loose0) (Xt := fun V => true) (XP := fun V V => True) (Yf := fun s => asK.map s.heap.get?) (Ya := fun w => (K0 w.params).map (fun p : Addr × Obj => some p.2)) (YP := fun w h => (K0 w.params).In h) (N := 6200) left0 (fun w s e => Frag.in_of (as := asK) (by kernel_rfl) e) (fun w h h' x k => x.keeps k) (fun s V => trivial) (fun mg h h' x k => trivial) (by rfl) (by rfl) (by rfl) (fun s V => recFacts_of (by rfl)) (by rfl) said (by decide +kernel) ⟨rfl, rfl, rfl, rfl, rfl, by decide +kernel⟩ ?_ ?_
  · exact ⟨[.list []], by decide +kernel, by decide +kernel⟩
  · exact law_call main rfl
end
local macro_rules | `(tactic| omega) => `(tactic| lia)
section
section
variable {ρ ρ1 : Rho} {σ σ1 σ2 σ3 σ4 : List AObj} {d e o i : Den} {ds : DenL} {c c' : DenC} {s t : DenS} {v a b : AV} {vs : List AV}
theorem ev_loc {x : String} (h : ρ x = some v) : dLoc x ρ σ = some (v, σ) := by rw [dLoc, h]; rfl
theorem ev_cons (h1 : d ρ σ = some (v, σ1)) (h2 : ds ρ σ1 = some (vs, σ2)) : dCons d ds ρ σ = some (v :: vs, σ2) := by
  show (d ρ σ).bind _ = _; rw [h1]; show (ds ρ σ1).bind _ = _; rw [h2]; rfl
theorem ev_tup (h : ds ρ σ = some (vs, σ1)) : dTup ds ρ σ = some (.tup vs, σ1) := by show (ds ρ σ).bind _ = _; rw [h]; rfl
theorem ev_lst (h : ds ρ σ = some (vs, σ1)) : dLst ds ρ σ = some (.lst vs, σ1) := by show (ds ρ σ).bind _ = _; rw [h]; rfl
theorem ev_1 {f} {r : Option (AV × List AObj)} (h1 : d ρ σ = some (a, σ1)) (h2 : f a σ1 = r) : d1 f d ρ σ = r := by show (d ρ σ).bind _ = _; rw [h1]; exact h2
theorem ev_2 {f} {r : Option (AV × List AObj)} (h1 : d ρ σ = some (a, σ1)) (h2 : e ρ σ1 = some (b, σ2)) (h3 : f a b σ2 = r) : d2 f d e ρ σ = r := by
  show (d ρ σ).bind _ = _; rw [h1]; show (e ρ σ1).bind _ = _; rw [h2]; exact h3
theorem ev_call {f : DF} {r : Option (AV × List AObj)} (h1 : ds ρ σ = some (vs, σ1)) (h2 : f vs σ1 = r) : dCall f ds ρ σ = r := by show (ds ρ σ).bind _ = _; rw [h1]; exact h2
theorem ev_meth {g f} {r : Option (AV × List AObj)} (h1 : d ρ σ = some (a, σ1)) (hg : g a σ1 = true) (h2 : ds ρ σ1 = some (vs, σ2)) (h3 : f (a :: vs) σ2 = r) : dMeth g f d ds ρ σ = r := by
  show (d ρ σ).bind _ = _; rw [h1]; refine (if_pos hg).trans ?_; rw [h2]; exact h3
theorem ev_ifT {r : Option (AV × List AObj)} (h1 : c ρ σ = some (true, σ1)) (h2 : d ρ σ1 = r) : dIf c d e ρ σ = r := by show (c ρ σ).bind _ = _; rw [h1]; exact h2
theorem ev_ifF {r : Option (AV × List AObj)} (h1 : c ρ σ = some (false, σ1)) (h2 : e ρ σ1 = r) : dIf c d e ρ σ = r := by show (c ρ σ).bind _ = _; rw [h1]; exact h2
theorem ev_val {q : Bool} (h : d ρ σ = some (.bool q, σ1)) : cVal d ρ σ = some (q, σ1) := by show (d ρ σ).bind _ = _; rw [h]; rfl
theorem ev_notT (h : c ρ σ = some (false, σ1)) : cNot c ρ σ = some (true, σ1) := by show (c ρ σ).bind _ = _; rw [h]; rfl
theorem ev_notF (h : c ρ σ = some (true, σ1)) : cNot c ρ σ = some (false, σ1) := by show (c ρ σ).bind _ = _; rw [h]; rfl
theorem ev_andT {r : Option (Bool × List AObj)} (h1 : c ρ σ = some (true, σ1)) (h2 : c' ρ σ1 = r) : cAnd c c' ρ σ = r := by show (c ρ σ).bind _ = _; rw [h1]; exact h2
theorem ev_andF (h1 : c ρ σ = some (false, σ1)) : cAnd c c' ρ σ = some (false, σ1) := by show (c ρ σ).bind _ = _; rw [h1]; rfl
theorem ev_orT (h1 : c ρ σ = some (true, σ1)) : cOr c c' ρ σ = some (true, σ1) := by show (c ρ σ).bind _ = _; rw [h1]; rfl
theorem ev_orF {r : Option (Bool × List AObj)} (h1 : c ρ σ = some (false, σ1)) (h2 : c' ρ σ1 = r) : cOr c c' ρ σ = r := by show (c ρ σ).bind _ = _; rw [h1]; exact h2
theorem ev_true : cTrue ρ σ = some (true, σ) := rfl
theorem ev_false : cFalse ρ σ = some (false, σ) := rfl
theorem ev_k : dK v ρ σ = some (v, σ) := rfl
theorem ev_nil : dNil ρ σ = some ([], σ) := rfl
theorem evs_nil : dsNil ρ σ = some (.next, ρ, σ) := rfl
theorem evs_seq {r : Option (AFlow × Rho × List AObj)} (h1 : s ρ σ = some (.next, ρ1, σ1)) (h2 : t ρ1 σ1 = r) : dsSeq s t ρ σ = r := by show (s ρ σ).bind _ = _; rw [h1]; exact h2
theorem evs_stop (h1 : s ρ σ = some (.ret v, ρ1, σ1)) : dsSeq s t ρ σ = some (.ret v, ρ1, σ1) := by show (s ρ σ).bind _ = _; rw [h1]; rfl
theorem evs_ifT {r : Option (AFlow × Rho × List AObj)} (h1 : c ρ σ = some (true, σ1)) (h2 : s ρ σ1 = r) : dsIf c s t ρ σ = r := by show (c ρ σ).bind _ = _; rw [h1]; exact h2
theorem evs_ifF {r : Option (AFlow × Rho × List AObj)} (h1 : c ρ σ = some (false, σ1)) (h2 : t ρ σ1 = r) : dsIf c s t ρ σ = r := by show (c ρ σ).bind _ = _; rw [h1]; exact h2
theorem evs_ret (h : d ρ σ = some (v, σ1)) : dsRet d ρ σ = some (.ret v, ρ, σ1) := by show (d ρ σ).bind _ = _; rw [h]; rfl
theorem evs_expr (h : d ρ σ = some (v, σ1)) : dsExpr d ρ σ = some (.next, ρ, σ1) := by show (d ρ σ).bind _ = _; rw [h]; rfl
theorem evs_set {x : String} (h : d ρ σ = some (v, σ1)) : dsSet x d ρ σ = some (.next, ρ.set x v, σ1) := by show (d ρ σ).bind _ = _; rw [h]; rfl
theorem evs_tup {xs : List String} (h : d ρ σ = some (.tup vs, σ1)) (hb : bindRho xs vs ρ = some ρ1) : dsTup xs d ρ σ = some (.next, ρ1, σ1) := by show (d ρ σ).bind _ = _; rw [h]; show (bindRho _ _ _).bind _ = _; rw [hb]; rfl
theorem evs_tupR {xs : List String} (h : d ρ σ = some (.tup vs, σ1)) (hb : bindRho xs.reverse vs.reverse ρ = some ρ1) : dsTupR xs d ρ σ = some (.next, ρ1, σ1) := by show (d ρ σ).bind _ = _; rw [h]; show (bindRho _ _ _).bind _ = _; rw [hb]; rfl
theorem evs_attr {C : Addr} {y : String} (h1 : d ρ σ = some (v, σ1)) (h2 : o ρ σ1 = some (a, σ2)) (h3 : oSetAttr C y v a σ2 = some σ3) : dsAttr C y d o ρ σ = some (.next, ρ, σ3) := by
  show (d ρ σ).bind _ = _; rw [h1]; show (o ρ σ1).bind _ = _; rw [h2]; show (oSetAttr C y v a σ2).bind _ = _; rw [h3]; rfl
theorem evs_item (h1 : d ρ σ = some (v, σ1)) (h2 : o ρ σ1 = some (a, σ2)) (h3 : i ρ σ2 = some (b, σ3)) (h4 : oSetItem a b v σ3 = some σ4) : dsItem d o i ρ σ = some (.next, ρ, σ4) := by
  show (d ρ σ).bind _ = _; rw [h1]; show (o ρ σ1).bind _ = _; rw [h2]; show (i ρ σ2).bind _ = _; rw [h3]; show (oSetItem a b v σ3).bind _ = _; rw [h4]; rfl
theorem ev_fun {ps : List String} (h1 : bindRho ps vs rho0 = some ρ) (h2 : s ρ σ = some (.ret v, ρ1, σ1)) : dFun ps s vs σ = some (v, σ1) := by show (bindRho _ _ _).bind _ = _; rw [h1]; show (s ρ σ).bind _ = _; rw [h2]; rfl
theorem ev_funN {ps : List String} (h1 : bindRho ps vs rho0 = some ρ) (h2 : s ρ σ = some (.next, ρ1, σ1)) : dFun ps s vs σ = some (.none, σ1) := by show (bindRho _ _ _).bind _ = _; rw [h1]; show (s ρ σ).bind _ = _; rw [h2]; rfl
end
section
variable {x y : Int} {σ : List AObj}
theorem ev_ltT (h : x < y) : oLt (.int x) (.int y) σ = some (.bool true, σ) := congrArg (fun b => some (AV.bool b, σ)) (decide_eq_true h)
theorem ev_ltF (h : ¬ x < y) : oLt (.int x) (.int y) σ = some (.bool false, σ) := congrArg (fun b => some (AV.bool b, σ)) (decide_eq_false h)
theorem ev_gtT (h : y < x) : oGt (.int x) (.int y) σ = some (.bool true, σ) := congrArg (fun b => some (AV.bool b, σ)) (decide_eq_true h)
theorem ev_gtF (h : ¬ y < x) : oGt (.int x) (.int y) σ = some (.bool false, σ) := congrArg (fun b => some (AV.bool b, σ)) (decide_eq_false h)
theorem ev_eqT (h : x = y) : oEq (.int x) (.int y) σ = some (.bool true, σ) := congrArg (fun b => some (AV.bool b, σ)) (beq_iff_eq.mpr h)
theorem ev_eqF (h : ¬ x = y) : oEq (.int x) (.int y) σ = some (.bool false, σ) := congrArg (fun b => some (AV.bool b, σ)) (beq_eq_false_iff_ne.mpr h)
theorem ev_neT (h : ¬ x = y) : oNe (.int x) (.int y) σ = some (.bool true, σ) := congrArg (fun b => some (AV.bool b, σ)) (bne_iff_ne.mpr h)
theorem ev_neF (h : x = y) : oNe (.int x) (.int y) σ = some (.bool false, σ) := congrArg (fun b => some (AV.bool b, σ)) (show (!(x == y)) = false by rw [beq_iff_eq.mpr h]; rfl)
end
theorem nil_no {α : Type} {a : α} {p : Prop} (h : a ∈ []) : p := (List.not_mem_nil h).elim
section
variable {a b : AV} {ρ : Rho} {σ σ1 : List AObj} {d : Den}
theorem ev_inT (h : inV a b σ = some true) : oIn a b σ = some (.bool true, σ) := by unfold oIn; rw [h]; rfl
theorem ev_inF (h : inV a b σ = some false) : oIn a b σ = some (.bool false, σ) := by unfold oIn; rw [h]; rfl
theorem ev_ninT (h : inV a b σ = some false) : oNotIn a b σ = some (.bool true, σ) := by unfold oNotIn; rw [h]; rfl
theorem ev_ninF (h : inV a b σ = some true) : oNotIn a b σ = some (.bool false, σ) := by unfold oNotIn; rw [h]; rfl
theorem ev_isT {T : String} {q : Bool} (h : d ρ σ = some (a, σ1)) (ht : isT T a = some q) : dIsT T d ρ σ = some (.bool q, σ1) := by show (d ρ σ).bind _ = _; rw [h]; show (isT T a).map _ = _; rw [ht]; rfl
theorem ev_list {i : Nat} {xs : List AV} (h : look σ i = some (.lst xs)) : isListV (.obj i) σ = true := by unfold isListV; simp only [h]
theorem ev_app {i : Nat} {xs : List AV} {v : AV} (h : σ[i]? = some (.lst xs)) (q : xs.length ≤ 1000) : oAppend [.obj i, v] σ = some (.none, σ.set i (.lst (xs ++ [v]))) := by unfold oAppend; simp only [h, if_pos q]
end
theorem ev_getOr {a k z v : AV} {σ : List AObj} (h : getOr a k z σ = some v) : oGetOr [a, k, z] σ = some (v, σ) := by show (getOr a k z σ).map _ = _; rw [h]; rfl
end
local macro_rules
  | `(tactic| exists $hs,*) => do
    let mut t ← `(tactic| fail)
    for h in hs.getElems.reverse do t ← `(tactic| first | refine $h | refine $h _ | $t:tactic)
    let g ← `(tactic| focus (exists $hs,*; done))
    `(tactic| repeat' first
      | with_reducible first | $t:tactic | exact ev_k | exact ev_nil | exact evs_nil | exact ev_true | exact ev_false | apply ev_cons | apply ev_loc | apply ev_2 | apply ev_1 | apply ev_tup | apply ev_lst | apply ev_call | apply ev_meth | apply ev_val | apply ev_isT | apply evs_ret | apply evs_expr | apply evs_set | apply evs_tup | apply evs_tupR | apply evs_attr | apply evs_item
      | ((with_reducible first | apply evs_seq | apply evs_ifT | apply ev_ifT | apply ev_andT | apply ev_orF | apply ev_notF); $g:tactic)
      | ((with_reducible first | apply evs_stop | apply evs_ifF | apply ev_ifF | apply ev_andF | apply ev_orT | apply ev_notT); $g:tactic)
      | ((with_reducible apply ev_fun); (focus exact rfl); $g:tactic) | ((with_reducible apply ev_funN); (focus exact rfl); $g:tactic)
      | exact rfl
      | $t:tactic
      | ((first | apply ev_ltT | apply ev_ltF | apply ev_gtT | apply ev_gtF | apply ev_eqT | apply ev_eqF | apply ev_neT | apply ev_neF); first | assumption | omega))
section
theorem idx0 {x : AV} {r : List AV} : idx (x :: r) 0 = some x := by simp [idx, seqIndex?]
theorem idx1 {x y : AV} {r : List AV} : idx (x :: y :: r) 1 = some y := by
  have h : (1 : Int) < (r.length : Int) + 1 + 1 := by omega
  simp [idx, seqIndex?, h]
theorem getV0 {x : AV} {r : List AV} {σ : List AObj} : getV (.tup (x :: r)) (.int 0) σ = some x := idx0
theorem getV1 {x y : AV} {r : List AV} {σ : List AObj} : getV (.tup (x :: y :: r)) (.int 1) σ = some y := idx1
theorem small_of {a : Int} (h1 : -(2 ^ 60) ≤ a) (h2 : a ≤ 2 ^ 60) : Mine.small a = true := by
  unfold Mine.small
  simp only [Bool.and_eq_true, decide_eq_true_eq]
  constructor <;> omega
theorem oMul_int {x y : Int} {σ : List AObj} (h : Mine.small x = true) : oMul (.int x) (.int y) σ = some (.int (x * y), σ) := by
  unfold oMul; dsimp only; rw [if_pos h]
theorem oDiv_int {x y : Int} {σ : List AObj} (h : Mine.small y = true) (h0 : y ≠ 0) : oDiv (.int x) (.int y) σ = some (.int (Int.fdiv x y), σ) := by
  unfold oDiv; dsimp only; rw [if_pos (by rw [h]; simp [h0])]
theorem oAdd_int {x y : Int} {σ : List AObj} : oAdd (.int x) (.int y) σ = some (.int (x + y), σ) := rfl
theorem oSub_int {x y : Int} {σ : List AObj} : oSub (.int x) (.int y) σ = some (.int (x - y), σ) := rfl
theorem oNeg_int {x : Int} {σ : List AObj} : oNeg (.int x) σ = some (.int (-x), σ) := rfl
theorem oEq_int {x y : Int} {σ : List AObj} : oEq (.int x) (.int y) σ = some (.bool (x == y), σ) := rfl
theorem oNe_int {x y : Int} {σ : List AObj} : oNe (.int x) (.int y) σ = some (.bool (x != y), σ) := rfl
theorem oEq_str {x y : String} {σ : List AObj} : oEq (.str x) (.str y) σ = some (.bool (decide (x = y)), σ) := rfl
theorem oLt_int {x y : Int} {σ : List AObj} : oLt (.int x) (.int y) σ = some (.bool (decide (x < y)), σ) := rfl
theorem oGt_int {x y : Int} {σ : List AObj} : oGt (.int x) (.int y) σ = some (.bool (decide (y < x)), σ) := rfl
theorem whileN_false {c : DenC} {b : DenS} {n : Nat} {ρ : Rho} {σ : List AObj} (h : c ρ σ = some (false, σ)) : whileN c b (n + 1) ρ σ = some (.next, ρ, σ) := by
  simp only [whileN, h, Option.bind_some]
theorem whileN_true {c : DenC} {b : DenS} {n : Nat} {ρ ρ' : Rho} {σ σ' : List AObj} (h : c ρ σ = some (true, σ)) (hb : b ρ σ = some (.next, ρ', σ')) : whileN c b (n + 1) ρ σ = whileN c b n ρ' σ' := by
  simp only [whileN, h, hb, Option.bind_some]
theorem oAbs_int {x y : Int} {σ : List AObj} (h : (if x < 0 then -x else x) = y) : oAbs [.int x] σ = some (.int y, σ) := by
  rw [← h]; rfl
theorem gcd_loop (σ : List AObj) : ∀ (fuel : Nat) (ρ : Rho) (a b : Nat), ρ "a" = some (.int a) -> ρ "b" = some (.int b) -> b < fuel ->
    ∃ ρ', whileN wc_gcd_of1 wb_gcd_of1 fuel ρ σ = some (.next, ρ', σ) ∧ ρ' "a" = some (.int (Nat.gcd a b))
  | 0, ρ, a, b, _, _, h => absurd h (Nat.not_lt_zero _)
  | n + 1, ρ, a, b, ha, hb, h => by
    rcases Nat.eq_zero_or_pos b with q | q
    · subst q
      refine ⟨ρ, ?_, by rw [ha, Nat.gcd_zero_right]⟩
      have z : oNe (.int ((0 : Nat) : Int)) (.int 0) σ = some (.bool false, σ) := rfl
      refine whileN_false ?_
      unfold wc_gcd_of1
      exists hb, z
    · have hm : a % b < n := Nat.lt_of_lt_of_le (Nat.mod_lt _ q) (Nat.le_of_lt_succ h)
      obtain ⟨ρ', h1, h2⟩ := gcd_loop σ n ((ρ.set "b" (.int ((a % b : Nat) : Int))).set "a" (.int b)) b (a % b) rfl rfl hm
      have h2 : ρ' "a" = some (.int (Nat.gcd a b)) := by rw [h2, Nat.gcd_comm b, ← Nat.gcd_rec, Nat.gcd_comm]
      refine ⟨ρ', ?_, h2⟩
      rw [← h1]
      have hb0 : ¬ b = 0 := by omega
      have hf : Int.fmod (a : Int) (b : Int) = ((a % b : Nat) : Int) := by rw [Int.fmod_eq_emod_of_nonneg _ (by omega)]; rfl
      have hbn : ((b : Int) != 0) = true := by simp [hb0]
      have z : oNe (.int (b : Int)) (.int 0) σ = some (.bool true, σ) := by rw [oNe_int, hbn]
      have m : oMod (.int (a : Int)) (.int (b : Int)) σ = some (.int ((a % b : Nat) : Int), σ) := by
        unfold oMod
        dsimp only
        rw [if_pos (by simp [hb0]), hf]
      refine whileN_true (by unfold wc_gcd_of1; exists hb, z) ?_
      unfold wb_gcd_of1
      exists ha, hb, m
theorem e_gcd {a b : Int} {σ : List AObj} : d_gcd_of [.int a, .int b] σ = some (.int (Int.gcd a b), σ) := by
  have abs_nat : ∀ x : Int, (if x < 0 then -x else x) = (x.natAbs : Int) := fun x => by split <;> omega
  obtain ⟨ρ', h1, h2⟩ := gcd_loop σ (b.natAbs + 1) ((((rho0.set "a" (.int a)).set "b" (.int b)).set "b" (.int (b.natAbs : Int))).set "a" (.int (a.natAbs : Int))) a.natAbs b.natAbs rfl rfl (Nat.lt_succ_self _)
  have hw : dsWhile fuelB wc_gcd_of1 wb_gcd_of1 ((((rho0.set "a" (.int a)).set "b" (.int b)).set "b" (.int (b.natAbs : Int))).set "a" (.int (a.natAbs : Int))) σ = some (.next, ρ', σ) := by
    unfold dsWhile
    rw [show fuelB _ = b.natAbs + 1 by simp [fuelB, Rho.set]]
    exact h1
  unfold d_gcd_of b_gcd_of
  have e1 : dsTupR ["a", "b"] (dTup (dCons (dCall oAbs (dCons (dLoc "a") dNil)) (dCons (dCall oAbs (dCons (dLoc "b") dNil)) dNil))) ((rho0.set "a" (.int a)).set "b" (.int b)) σ = some (.next, (((rho0.set "a" (.int a)).set "b" (.int b)).set "b" (.int (b.natAbs : Int))).set "a" (.int (a.natAbs : Int)), σ) := by
    have za : ∀ x, oAbs [.int x] σ = some (.int (x.natAbs : Int), σ) := fun x => by
      unfold oAbs
      dsimp only
      rw [abs_nat]
    exists za _
  exists e1, hw, h2

noncomputable def g2 (a b : Int) : Int := (Int.gcd a b : Int)
theorem e_gcd2 {a b : Int} {σ : List AObj} : d_gcd_of [.int a, .int b] σ = some (.int (g2 a b), σ) := e_gcd
theorem e_common2 {a b : Int} {σ : List AObj} : d_l_common [.int a, .int b] σ = some (.int (g2 a b), σ) := e_gcd
noncomputable def rt (n d : Int) : AV := .tup [.int (n / g2 n d), .int (d / g2 n d)]
theorem g2_pos {n d : Int} (h : 0 < d) : 0 < g2 n d := by
  have : Int.gcd n d ≠ 0 := fun q => by rw [Int.gcd_eq_zero_iff] at q; omega
  show (0 : Int) < ((Int.gcd n d : Nat) : Int)
  omega
theorem g2_le {n d : Int} (h : 0 < d) : g2 n d ≤ d := Int.le_of_dvd h (Int.gcd_dvd_right _ _)
theorem ratio_aux {n d g : Int} {σ : List AObj} (hsm : Mine.small g = true) (hg0 : g ≠ 0) (eg : d_gcd_of [.int n, .int d] σ = some (.int g, σ)) (hd0 : (d == 0) = false) (hlt : decide (d < 0) = false) (f1 : Int.fdiv n g = n / g) (f2 : Int.fdiv d g = d / g) : d_ratio [.int n, .int d] σ = some (.tup [.int (n / g), .int (d / g)], σ) := by
  unfold d_ratio b_ratio
  simp only [dFun, bindRho, dsSeq, dsIf, dsRet, dsSet, dsNil, dTup, dCons, dNil, dCall, cVal, d2, dLoc, dK, Rho.set, oEq_int, oLt_int, oDiv_int hsm hg0, eg, Option.bind_some, Option.map_some, hd0, hlt, f1, f2, reduceIte, String.reduceEq]
theorem small_pos {g d : Int} (hg : 0 < g) (hl : g ≤ d) (hs : d ≤ 2 ^ 60) : Mine.small g = true := small_of (Int.le_trans (by decide) (Int.le_of_lt hg)) (Int.le_trans hl hs)
theorem ne_beq {d : Int} (h : 0 < d) : (d == 0) = false := by simp; omega
theorem not_lt0 {d : Int} (h : 0 < d) : decide (d < 0) = false := by simp; omega
theorem e_ratio {n d : Int} {σ : List AObj} (h : 0 < d) (hs : d ≤ 2 ^ 60) : d_ratio [.int n, .int d] σ = some (rt n d, σ) :=
  ratio_aux (g := g2 n d) (small_pos (g2_pos h) (g2_le h) hs) (Int.ne_of_gt (g2_pos h)) e_gcd2 (ne_beq h) (not_lt0 h) (Int.fdiv_eq_ediv_of_nonneg _ (Int.le_of_lt (g2_pos h))) (Int.fdiv_eq_ediv_of_nonneg _ (Int.le_of_lt (g2_pos h)))
theorem rt_scale {k n d : Int} (hk : 0 < k) : rt (k * n) (k * d) = rt n d := by
  unfold rt g2
  rw [Int.gcd_mul_left]
  have e : ((k.natAbs * Int.gcd n d : Nat) : Int) = k * (Int.gcd n d : Int) := by
    rw [Int.natCast_mul, Int.natAbs_of_nonneg (by omega)]
  rw [e, Int.mul_ediv_mul_of_pos _ _ hk, Int.mul_ediv_mul_of_pos _ _ hk]
theorem rt_one {n : Int} : rt n 1 = .tup [.int n, .int 1] := by
  unfold rt g2
  rw [Int.gcd_one_right]
  simp
theorem rt_parts {n d : Int} (h : 0 < d) : X3 fun g n' d' => A7 (0 < g) (0 < d') (n = g * n') (d = g * d') (rt n d = .tup [.int n', .int d']) (n' = n / g2 n d) (d' = d / g2 n d) := by
  have hg := g2_pos (n := n) h
  refine ⟨g2 n d, n / g2 n d, d / g2 n d, hg, ?_, (Int.mul_ediv_cancel' (Int.gcd_dvd_left _ _)).symm, (Int.mul_ediv_cancel' (Int.gcd_dvd_right _ _)).symm, rfl, rfl, rfl⟩
  have e : g2 n d * (d / g2 n d) = d := Int.mul_ediv_cancel' (Int.gcd_dvd_right _ _)
  rcases Int.lt_trichotomy (d / g2 n d) 0 with q | q | q
  · exact absurd (Int.mul_neg_of_pos_of_neg hg q) (by omega)
  · rw [q, Int.mul_zero] at e; omega
  · exact q
theorem part_le {g a b : Int} (hg : 0 < g) (e : a = g * b) (h1 : -(2 ^ 40) ≤ a) (h2 : a ≤ 2 ^ 40) : -(2 ^ 40) ≤ b ∧ b ≤ 2 ^ 40 := by
  subst e
  rcases Int.lt_or_le b 0 with q | q
  · have : g * b ≤ 1 * b := Int.mul_le_mul_of_nonpos_right (by omega) (by omega)
    omega
  · have : 1 * b ≤ g * b := Int.mul_le_mul_of_nonneg_right (by omega) q
    omega

structure Rat2 (v : AV) (n d : Int) : Prop where
  ex : ∃ n' d' g : Int, v = .tup [.int n', .int d'] ∧ 0 < d' ∧ 0 < g ∧ n = g * n' ∧ d = g * d'
theorem part_le60 {g a b : Int} (hg : 0 < g) (e : a = g * b) (h1 : -(2 ^ 40) ≤ a) (h2 : a ≤ 2 ^ 40) : -(2 ^ 60) ≤ b ∧ b ≤ 2 ^ 60 := by
  have := part_le hg e h1 h2
  omega
theorem chain_one {n1 q1 n2 q2 : Int} {ρ : Rho} {σ : List AObj} (ha : ρ "a" = some (.tup [.int n1, .int q1])) (hb : ρ "b" = some (.tup [.int n2, .int q2])) : cChain oEq oEq (d2 oGet (dLoc "a") (dK (.int 1))) (d2 oGet (dLoc "b") (dK (.int 1))) (dK (.int 1)) ρ σ = some (decide (q1 = 1 ∧ q2 = 1), σ) := by
  simp only [cChain, d2, dLoc, dK, ha, hb, Option.bind_some, Option.map_some, oGet, getV1, oEq_int]
  by_cases q : q1 = q2
  · subst q
    simp only [beq_self_eq_true, and_self]
    simp [oEq_int]
    by_cases h : q1 = 1 <;> simp [h]
  · have : (q1 == q2) = false := by simp [q]
    rw [this]
    simp
    omega
theorem add_aux1 {n1 n2 : Int} {σ : List AObj} : d_add [.tup [.int n1, .int 1], .tup [.int n2, .int 1]] σ = some (.tup [.int (n1 + n2), .int 1], σ) := by
  have hc := chain_one (n1 := n1) (q1 := 1) (n2 := n2) (q2 := 1) (ρ := (rho0.set "a" (.tup [.int n1, .int 1])).set "b" (.tup [.int n2, .int 1])) (σ := σ) rfl rfl
  unfold d_add b_add
  exists hc, and_self, decide_true, oGet, getV0, oAdd_int
theorem add_aux2 {n1 q1 n2 q2 : Int} {r : AV} {σ : List AObj} (hq : ¬ (q1 = 1 ∧ q2 = 1)) (s1 : Mine.small n1 = true) (s2 : Mine.small n2 = true) (s3 : Mine.small q1 = true) (er : d_ratio [.int (n1 * q2 + n2 * q1), .int (q1 * q2)] σ = some (r, σ)) : d_add [.tup [.int n1, .int q1], .tup [.int n2, .int q2]] σ = some (r, σ) := by
  have hc := chain_one (n1 := n1) (q1 := q1) (n2 := n2) (q2 := q2) (ρ := (rho0.set "a" (.tup [.int n1, .int q1])).set "b" (.tup [.int n2, .int q2])) (σ := σ) rfl rfl
  rw [decide_eq_false hq] at hc
  unfold d_add b_add
  exists hc, oMul_int s1, oMul_int s2, oMul_int s3, er
theorem mul_aux1 {n1 n2 : Int} {σ : List AObj} (s1 : Mine.small n1 = true) : d_mul [.tup [.int n1, .int 1], .tup [.int n2, .int 1]] σ = some (.tup [.int (n1 * n2), .int 1], σ) := by
  have hc := chain_one (n1 := n1) (q1 := 1) (n2 := n2) (q2 := 1) (ρ := (rho0.set "a" (.tup [.int n1, .int 1])).set "b" (.tup [.int n2, .int 1])) (σ := σ) rfl rfl
  unfold d_mul b_mul
  exists hc, and_self, decide_true, oGet, getV0, oMul_int s1
theorem mul_aux2 {n1 q1 n2 q2 : Int} {r : AV} {σ : List AObj} (hq : ¬ (q1 = 1 ∧ q2 = 1)) (s1 : Mine.small n1 = true) (s3 : Mine.small q1 = true) (er : d_ratio [.int (n1 * n2), .int (q1 * q2)] σ = some (r, σ)) : d_mul [.tup [.int n1, .int q1], .tup [.int n2, .int q2]] σ = some (r, σ) := by
  have hc := chain_one (n1 := n1) (q1 := q1) (n2 := n2) (q2 := q2) (ρ := (rho0.set "a" (.tup [.int n1, .int q1])).set "b" (.tup [.int n2, .int q2])) (σ := σ) rfl rfl
  rw [decide_eq_false hq] at hc
  unfold d_mul b_mul
  exists hc, oMul_int s1, oMul_int s3, er
theorem prod_le {b d g k b' d' : Int} (hg : 0 < g) (hk : 0 < k) (hb' : 0 < b') (hd' : 0 < d') (eb : b = g * b') (ed : d = k * d') (hb2 : b ≤ 2 ^ 20) (hd2 : d ≤ 2 ^ 20) : b' * d' ≤ 2 ^ 60 := by
  have h1 : b' ≤ 2 ^ 20 := by
    have : 1 * b' ≤ g * b' := Int.mul_le_mul_of_nonneg_right (by omega) (by omega)
    omega
  have h2 : d' ≤ 2 ^ 20 := by
    have : 1 * d' ≤ k * d' := Int.mul_le_mul_of_nonneg_right (by omega) (by omega)
    omega
  have : b' * d' ≤ 2 ^ 20 * 2 ^ 20 := Int.mul_le_mul h1 h2 (by omega) (by decide)
  omega
structure Md (n d : Int) : Prop where
  pos : 0 < d
  le : d ≤ 2 ^ 20
  lo : -(2 ^ 40) ≤ n
  hi : n ≤ 2 ^ 40
theorem e_add {a b c d : Int} {σ : List AObj} (h1 : Md a b) (h2 : Md c d) : d_add [rt a b, rt c d] σ = some (rt (a * d + c * b) (b * d), σ) := by
  obtain ⟨g, a', b', hg, hb', ea, eb, er, _, _⟩ := rt_parts (n := a) h1.pos
  obtain ⟨k, c', d', hk, hd', ec, ed, es, _, _⟩ := rt_parts (n := c) h2.pos
  have sa := part_le60 hg ea h1.lo h1.hi
  have sc := part_le60 hk ec h2.lo h2.hi
  have sb := part_le60 hg eb (by have := h1.pos; omega) (by have := h1.le; omega)
  have res : rt (a * d + c * b) (b * d) = rt (a' * d' + c' * b') (b' * d') := by
    rw [← rt_scale (k := g * k) (n := a' * d' + c' * b') (d := b' * d') (Int.mul_pos hg hk), ea, eb, ec, ed]
    congr 1
    · rw [Int.mul_add]; congr 1 <;> (simp only [Int.mul_comm, Int.mul_left_comm, Int.mul_assoc])
    · simp only [Int.mul_comm, Int.mul_left_comm, Int.mul_assoc]
  rw [er, es, res]
  by_cases q : b' = 1 ∧ d' = 1
  · obtain ⟨rfl, rfl⟩ := q
    rw [add_aux1, Int.mul_one, Int.mul_one, Int.mul_one, rt_one]
  · exact add_aux2 q (small_of sa.1 sa.2) (small_of sc.1 sc.2) (small_of sb.1 sb.2) (e_ratio (Int.mul_pos hb' hd') (prod_le hg hk hb' hd' eb ed h1.le h2.le))
theorem e_mul {a b c d : Int} {σ : List AObj} (h1 : Md a b) (h2 : Md c d) : d_mul [rt a b, rt c d] σ = some (rt (a * c) (b * d), σ) := by
  obtain ⟨g, a', b', hg, hb', ea, eb, er, _, _⟩ := rt_parts (n := a) h1.pos
  obtain ⟨k, c', d', hk, hd', ec, ed, es, _, _⟩ := rt_parts (n := c) h2.pos
  have sa := part_le60 hg ea h1.lo h1.hi
  have sb := part_le60 hg eb (by have := h1.pos; omega) (by have := h1.le; omega)
  have res : rt (a * c) (b * d) = rt (a' * c') (b' * d') := by
    rw [← rt_scale (k := g * k) (n := a' * c') (d := b' * d') (Int.mul_pos hg hk), ea, eb, ec, ed]
    congr 1 <;> simp only [Int.mul_comm, Int.mul_left_comm, Int.mul_assoc]
  rw [er, es, res]
  by_cases q : b' = 1 ∧ d' = 1
  · obtain ⟨rfl, rfl⟩ := q
    rw [mul_aux1 (small_of sa.1 sa.2), Int.mul_one, rt_one]
  · exact mul_aux2 q (small_of sa.1 sa.2) (small_of sb.1 sb.2) (e_ratio (Int.mul_pos hb' hd') (prod_le hg hk hb' hd' eb ed h1.le h2.le))
theorem e_neg {p q : Int} {σ : List AObj} : d_neg [.tup [.int p, .int q]] σ = some (.tup [.int (-p), .int q], σ) := by
  unfold d_neg b_neg
  exists oGet, getV0, getV1, oNeg_int
theorem e_is_whole {p q : Int} {σ : List AObj} : d_is_whole [.tup [.int p, .int q]] σ = some (.bool (q == 1), σ) := by
  unfold d_is_whole b_is_whole
  exists oGet, getV0, getV1, oEq_int
theorem e_compare {p q : Int} {σ : List AObj} (h : 0 < q) (s : Mine.small p = true) : d_compare [vZERO, .tup [.int p, .int q]] σ = some (.int (b2i (decide (p < 0)) - b2i (decide (0 < p))), σ) := by
  have s0 : Mine.small 0 = true := by decide
  unfold d_compare b_compare
  have m0 : ∀ τ : List AObj, oMul (.int 0) (.int q) τ = some (.int 0, τ) := fun τ => by rw [oMul_int s0, Int.zero_mul]
  have m1 : ∀ τ : List AObj, oMul (.int p) (.int 1) τ = some (.int p, τ) := fun τ => by rw [oMul_int s, Int.mul_one]
  exists m0, m1
theorem e_floor {p q : Int} {σ : List AObj} (h : 0 < q) (s : Mine.small q = true) : d_floor_of [.tup [.int p, .int q]] σ = some (.int (p / q), σ) := by
  have f : Int.fdiv p q = p / q := Int.fdiv_eq_ediv_of_nonneg _ (by omega)
  unfold d_floor_of b_floor_of
  have dv : oDiv (.int p) (.int q) σ = some (.int (p / q), σ) := by rw [oDiv_int s (by omega : q ≠ 0), f]
  exists dv
theorem e_ceil {p q : Int} {σ : List AObj} (h : 0 < q) (s : Mine.small q = true) : d_ceil_of [.tup [.int p, .int q]] σ = some (.int (-((-p) / q)), σ) := by
  have f : Int.fdiv (-p) q = (-p) / q := Int.fdiv_eq_ediv_of_nonneg _ (by omega)
  unfold d_ceil_of b_ceil_of
  have dv : oDiv (.int (-p)) (.int q) σ = some (.int ((-p) / q), σ) := by rw [oDiv_int s (by omega : q ≠ 0), f]
  exists dv
end
section
noncomputable abbrev one_ (c : Int) : AV := .tup [.int c, .int 1]
noncomputable abbrev DI := List (Int × Int)
noncomputable def di (l : DI) : List (Int × AV) := l.map fun p => (p.1, one_ p.2)
noncomputable def igetO (k : Int) : DI -> Option Int
  | [] => none
  | p :: r => if p.1 = k then some p.2 else igetO k r
noncomputable def iget (k : Int) (l : DI) : Int := (igetO k l).getD 0
noncomputable def imap (k m : Int) : DI -> DI
  | [] => []
  | p :: r => (if p.1 = k then (p.1, m) else p) :: imap k m r
noncomputable def ihas (k : Int) (l : DI) : Bool := (igetO k l).isSome
noncomputable def iput (k m : Int) (l : DI) : DI := if ihas k l then imap k m l else l ++ [(k, m)]
noncomputable def idel (k : Int) (l : DI) : DI := l.filter fun p => decide (p.1 ≠ k)
noncomputable def sumF (φ : Int -> Int) : DI -> Int
  | [] => 0
  | p :: r => p.2 * φ p.1 + sumF φ r
noncomputable abbrev keys (l : DI) : List Int := l.map (·.1)
theorem keys_cons {p : Int × Int} {r : DI} : keys (p :: r) = p.1 :: keys r := rfl
theorem imap_cons {k m : Int} {p : Int × Int} {r : DI} : imap k m (p :: r) = (if p.1 = k then (p.1, m) else p) :: imap k m r := rfl
theorem sum_cons {φ : Int -> Int} {p : Int × Int} {r : DI} : sumF φ (p :: r) = p.2 * φ p.1 + sumF φ r := rfl
theorem di_get {k : Int} : ∀ {l : DI}, kvGet k (di l) = (igetO k l).map one_
  | [] => rfl
  | p :: r => by
    show (if p.1 = k then _ else _) = _
    unfold igetO
    by_cases q : p.1 = k
    · rw [if_pos q, if_pos q]; rfl
    · rw [if_neg q, if_neg q]; exact di_get
theorem di_has {k : Int} : ∀ {l : DI}, kvHas k (di l) = ihas k l
  | [] => rfl
  | p :: r => by
    show (decide (p.1 = k) || kvHas k (di r)) = _
    unfold ihas igetO
    by_cases q : p.1 = k
    · simp [q]
    · simp [q]; exact di_has
theorem di_map {k m : Int} : ∀ {l : DI}, kvMap k (one_ m) (di l) = di (imap k m l)
  | [] => rfl
  | p :: r => by
    show (if p.1 = k then (p.1, one_ m) else (p.1, one_ p.2)) :: kvMap k (one_ m) (di r) = _
    rw [di_map, imap_cons]
    by_cases q : p.1 = k
    · simp [q, di]
    · simp [q, di]
theorem di_put {k m : Int} {l : DI} : kvPut k (one_ m) (di l) = di (iput k m l) := by
  unfold kvPut iput
  rw [di_has, di_map]
  split <;> simp [di]
theorem di_del {k : Int} {l : DI} : kvDel k (di l) = di (idel k l) := by
  unfold kvDel idel di
  rw [List.filter_map]
  rfl
theorem di_len {l : DI} : (di l).length = l.length := List.length_map _
theorem di_keys {l : DI} : (di l).map (·.1) = keys l := by unfold di; rw [List.map_map]; rfl
theorem iget_none {k : Int} : ∀ {l : DI}, igetO k l = none ↔ k ∉ keys l
  | [] => by simp [igetO]
  | p :: r => by
    unfold igetO
    by_cases q : p.1 = k
    · simp [q]
    · simp only [if_neg q, List.map_cons, List.mem_cons, not_or]
      rw [iget_none]
      exact ⟨fun h => ⟨fun e => q e.symm, h⟩, fun h => h.2⟩
theorem imap_keys {k m : Int} : ∀ {l : DI}, keys (imap k m l) = keys l
  | [] => rfl
  | p :: r => by
    rw [imap_cons, keys_cons, keys_cons, imap_keys]
    split <;> rfl
theorem iput_keys {k m : Int} {l : DI} : keys (iput k m l) = if ihas k l then keys l else keys l ++ [k] := by
  unfold iput
  split
  · exact imap_keys
  · simp [keys]
theorem iput_mem {k m : Int} {l : DI} {u : Int} (h : u ∈ keys (iput k m l)) : u ∈ keys l ∨ u = k := by
  rw [iput_keys] at h
  split at h
  · exact .inl h
  · rcases List.mem_append.mp h with q | q
    · exact .inl q
    · exact .inr (List.mem_singleton.mp q)
theorem iput_nodup {k m : Int} {l : DI} (h : (keys l).Nodup) : (keys (iput k m l)).Nodup := by
  rw [iput_keys]
  split
  · exact h
  · rename_i q
    refine List.nodup_snoc h fun z => q ?_
    unfold ihas
    cases e : igetO k l with
    | none => exact absurd z (iget_none.mp e)
    | some _ => rfl
theorem sum_imap {φ : Int -> Int} {k m : Int} : ∀ {l : DI}, (keys l).Nodup -> ihas k l = true -> sumF φ (imap k m l) = sumF φ l + (m - iget k l) * φ k
  | [], _, h => by cases h
  | p :: r, hn, h => by
    rw [keys_cons, List.nodup_cons] at hn
    rw [imap_cons, sum_cons, sum_cons]
    unfold iget
    by_cases q : p.1 = k
    · subst q
      have e : imap p.1 m r = r := by
        have : ∀ {l : DI}, p.1 ∉ keys l -> imap p.1 m l = l := by
          intro l
          induction l with
          | nil => intro _; rfl
          | cons s t ih =>
            intro hs
            rw [keys_cons, List.mem_cons, not_or] at hs
            rw [imap_cons, if_neg fun z => hs.1 z.symm, ih hs.2]
        exact this hn.1
      simp only [if_pos, igetO, Option.getD_some, e]
      rw [Int.sub_mul]
      omega
    · have h' : ihas k r = true := by unfold ihas igetO at h; rw [if_neg q] at h; exact h
      have ih := sum_imap (φ := φ) (m := m) hn.2 h'
      unfold iget at ih
      simp only [if_neg q, igetO]
      rw [ih]
      omega
theorem sum_app {φ : Int -> Int} : ∀ {l m : DI}, sumF φ (l ++ m) = sumF φ l + sumF φ m
  | [], m => by simp [sumF]
  | p :: r, m => by
    rw [List.cons_append, sum_cons, sum_cons, sum_app]
    omega
theorem sum_put {φ : Int -> Int} {k m : Int} {l : DI} (hn : (keys l).Nodup) : sumF φ (iput k m l) = sumF φ l + (m - iget k l) * φ k := by
  unfold iput
  split
  · rename_i h; exact sum_imap hn h
  · rename_i h
    rw [sum_app]
    have : iget k l = 0 := by
      unfold iget ihas at *
      cases e : igetO k l with
      | none => rfl
      | some v => rw [e] at h; exact absurd rfl h
    rw [this]
    simp [sumF]
theorem sum_del {φ : Int -> Int} {k : Int} : ∀ {l : DI}, (keys l).Nodup -> sumF φ (idel k l) = sumF φ l - iget k l * φ k
  | [], _ => by simp [sumF, idel, iget, igetO]
  | p :: r, hn => by
    rw [keys_cons, List.nodup_cons] at hn
    have ih := sum_del (φ := φ) (k := k) hn.2
    by_cases q : p.1 = k
    · subst q
      have e : idel p.1 (p :: r) = idel p.1 r := by simp [idel]
      rw [e, ih]
      have z : iget p.1 r = 0 := by unfold iget; rw [iget_none.mpr hn.1]; rfl
      have z2 : iget p.1 (p :: r) = p.2 := by simp [iget, igetO]
      rw [z, z2]
      simp only [sumF]
      omega
    · have e : idel k (p :: r) = p :: idel k r := by simp [idel, q]
      rw [e]
      simp only [sumF]
      have z2 : iget k (p :: r) = iget k r := by simp [iget, igetO, q]
      rw [ih, z2]
      omega
theorem idel_mem {k u : Int} {l : DI} : u ∈ keys (idel k l) ↔ u ∈ keys l ∧ u ≠ k := by
  unfold idel keys
  simp only [List.mem_map, List.mem_filter, decide_eq_true_eq]
  constructor
  · rintro ⟨p, ⟨h1, h2⟩, rfl⟩; exact ⟨⟨p, h1, rfl⟩, h2⟩
  · rintro ⟨⟨p, h1, rfl⟩, h2⟩; exact ⟨p, ⟨h1, h2⟩, rfl⟩
theorem idel_nodup {k : Int} {l : DI} (h : (keys l).Nodup) : (keys (idel k l)).Nodup := by
  unfold idel
  exact List.Nodup.sublist (List.Sublist.map _ List.filter_sublist) h
theorem maxM : ∀ {m : Int} {l : List Int}, maxI m l ∈ m :: l
  | m, [] => by simp [maxI]
  | m, x :: r => by
    unfold maxI
    have := maxM (m := if m < x then x else m) (l := r)
    rcases List.mem_cons.mp this with q | q
    · rw [q]; split <;> simp
    · exact List.mem_cons_of_mem _ (List.mem_cons_of_mem _ q)
theorem maxG : ∀ {m : Int} {l : List Int}, ∀ u ∈ m :: l, u ≤ maxI m l
  | m, [], u, h => by rw [List.mem_singleton.mp h]; exact Int.le_refl _
  | m, x :: r, u, h => by
    unfold maxI
    have h1 := maxG (m := if m < x then x else m) (l := r)
    have h0 := h1 _ List.mem_cons_self
    rcases List.mem_cons.mp h with q | q
    · subst q; split at h0 <;> split <;> omega
    · rcases List.mem_cons.mp q with q | q
      · subst q; split at h0 <;> split <;> omega
      · exact h1 u (List.mem_cons_of_mem _ q)
theorem iget_mem {k : Int} : ∀ {l : DI}, k ∈ keys l -> ∃ m, igetO k l = some m ∧ (k, m) ∈ l
  | p :: r, h => by
    unfold igetO
    by_cases q : p.1 = k
    · rw [if_pos q]; exact ⟨p.2, rfl, by rw [← q]; exact List.mem_cons_self⟩
    · rw [if_neg q]
      rcases List.mem_cons.mp h with z | z
      · exact absurd z.symm q
      · obtain ⟨m, h1, h2⟩ := iget_mem z
        exact ⟨m, h1, List.mem_cons_of_mem _ h2⟩
theorem sum_delta {k : Int} : ∀ {l : DI}, (keys l).Nodup -> sumF (fun u => if u = k then 1 else 0) l = iget k l
  | [], _ => rfl
  | p :: r, hn => by
    rw [keys_cons, List.nodup_cons] at hn
    have ih := sum_delta (k := k) hn.2
    simp only [sumF]
    rw [ih]
    by_cases q : p.1 = k
    · subst q
      have z : iget p.1 r = 0 := by unfold iget; rw [iget_none.mpr hn.1]; rfl
      simp [iget, igetO] at *
      rw [z]; simp
    · simp [iget, igetO, q]
end
section
structure Trm where
  op : String
  args : List Int
  sort : Int
  data : AV
inductive KeyIs : Trm -> TKey -> Prop
  | oth {op : String} {l : List Int} {s d : Int} : op ≠ "num" -> KeyIs ⟨op, l, s, .int d⟩ (.oth op l s d)
  | num {s p q : Int} : KeyIs ⟨"num", [], s, .tup [.int p, .int q]⟩ (.num s p q)
theorem KeyIs.inj {e e' : Trm} {k : TKey} (h : KeyIs e k) (h' : KeyIs e' k) : e = e' := by
  cases h <;> cases h' <;> rfl
theorem ints_map : ∀ {l : List Int}, intsOf (l.map .int) = some l
  | [] => rfl
  | i :: r => by
    show (intsOf (r.map .int)).map (i :: ·) = _
    rw [ints_map]; rfl
theorem KeyIs.key {e : Trm} {k : TKey} (h : KeyIs e k) : keyOf (.tup [.str e.op, .tup (e.args.map .int), .int e.sort, e.data]) = some k := by
  cases h with
  | @oth op l s d q =>
    show (if op = "num" then none else (intsOf (l.map .int)).map fun l => TKey.oth op l s d) = _
    rw [if_neg q, ints_map]; rfl
  | num => rfl
noncomputable abbrev bankV : AV := .ins 705 1
noncomputable def bankF : List (String × AV) := [("sort_names", .lst [.str "Bool", .str "Int", .str "Real"]), ("sort_widths", .lst [.int 0, .int 0, .int 0]), ("fun_names", .obj 2), ("fun_args", .obj 3), ("fun_results", .obj 4), ("fresh_count", .int 0), ("term_ops", .obj 5), ("term_args", .obj 6), ("term_sorts", .obj 7), ("term_datas", .obj 8), ("numbers", .obj 9), ("true_number", .int 1), ("false_number", .int 2), ("bv_numbers", .obj 10)]
def NumsOk (T : List Trm) (kvs : List (TKey × AV)) : Prop := kvs.length ≤ T.length ∧ ∀ k v, kvGet k kvs = some v -> X2 fun (i : Nat) (e : Trm) => A4 (v = .int i) (T[i]? = some e) (0 < i) (KeyIs e k)
structure BankR (T : List Trm) (σ : List AObj) : Prop where
  tbl : σ[1]? = some (.fld bankF)
  ops : σ[5]? = some (.lst (T.map fun e => .str e.op))
  args : σ[6]? = some (.lst (T.map fun e => .tup (e.args.map .int)))
  sorts : σ[7]? = some (.lst (T.map fun e => .int e.sort))
  datas : σ[8]? = some (.lst (T.map fun e => e.data))
  nums : ∃ kvs, σ[9]? = some (.td kvs) ∧ NumsOk T kvs
  len : T.length ≤ 500
theorem look_at {σ : List AObj} {i : Nat} {o : AObj} (h : σ[i]? = some o) (hf : thaw o = o) : look σ i = some o := by
  unfold look; rw [h]; simp [hf]
theorem idx_nat {xs : List AV} {t : Nat} {v : AV} (h : xs[t]? = some v) (hl : t < 2 ^ 60) : idx xs (t : Int) = some v := by
  have hlt := (List.getElem?_eq_some_iff.mp h).1
  unfold idx
  rw [if_pos ⟨by omega, by omega⟩]
  unfold seqIndex?
  have h1 : ¬ ((t : Int) < 0) := by omega
  simp only [if_neg h1]
  have h2 : (decide (0 ≤ (t : Int)) && decide ((t : Int) < (xs.length : Int))) = true := by
    simp only [Bool.and_eq_true, decide_eq_true_eq]; omega
  rw [h2]
  simp [h]
section
variable {T : List Trm} {σ : List AObj} {e : Trm} {t : Nat}
theorem BankR.attr (h : BankR T σ) {x : String} {v : AV} (hx : bankF.lookup x = some v) : oAttr 705 x bankV σ = some (v, σ) := by
  unfold oAttr
  simp only [if_pos]
  rw [look_at h.tbl rfl]
  simp [hx]
theorem BankR.lt (h : BankR T σ) (ht : T[t]? = some e) : t < 2 ^ 60 := by
  have := (List.getElem?_eq_some_iff.mp ht).1
  have := h.len
  omega
theorem getObj {i t : Nat} {xs : List AV} {v : AV} (hl : σ[i]? = some (.lst xs)) (h : xs[t]? = some v) (ht : t < 2 ^ 60) : oGet (.obj i) (.int t) σ = some (v, σ) := by
  unfold oGet getV
  simp only
  rw [look_at hl rfl]
  simp only
  rw [idx_nat h ht]
  rfl
theorem BankR.get_op (h : BankR T σ) (ht : T[t]? = some e) : oGet (.obj 5) (.int t) σ = some (.str e.op, σ) := getObj h.ops (by simp [ht]) (h.lt ht)
theorem BankR.get_args (h : BankR T σ) (ht : T[t]? = some e) : oGet (.obj 6) (.int t) σ = some (.tup (e.args.map .int), σ) := getObj h.args (by simp [ht]) (h.lt ht)
theorem BankR.get_sort (h : BankR T σ) (ht : T[t]? = some e) : oGet (.obj 7) (.int t) σ = some (.int e.sort, σ) := getObj h.sorts (by simp [ht]) (h.lt ht)
theorem BankR.get_data (h : BankR T σ) (ht : T[t]? = some e) : oGet (.obj 8) (.int t) σ = some (e.data, σ) := getObj h.datas (by simp [ht]) (h.lt ht)
theorem BankR.e_op (h : BankR T σ) (ht : T[t]? = some e) : d_Bankop [bankV, .int t] σ = some (.str e.op, σ) := by
  unfold d_Bankop b_Bankop
  exists h.attr (x := "term_ops") (v := .obj 5) (by rfl), h.get_op ht
theorem BankR.e_args (h : BankR T σ) (ht : T[t]? = some e) : d_Bankargs [bankV, .int t] σ = some (.tup (e.args.map .int), σ) := by
  unfold d_Bankargs b_Bankargs
  exists h.attr (x := "term_args") (v := .obj 6) (by rfl), h.get_args ht
theorem BankR.e_sort (h : BankR T σ) (ht : T[t]? = some e) : d_Banksort [bankV, .int t] σ = some (.int e.sort, σ) := by
  unfold d_Banksort b_Banksort
  exists h.attr (x := "term_sorts") (v := .obj 7) (by rfl), h.get_sort ht
theorem BankR.e_data (h : BankR T σ) (ht : T[t]? = some e) : d_Bankdata [bankV, .int t] σ = some (e.data, σ) := by
  unfold d_Bankdata b_Bankdata
  exists h.attr (x := "term_datas") (v := .obj 8) (by rfl), h.get_data ht
theorem BankR.own (h : BankR T σ) {m : String} (hm : bankF.lookup m = none) : ownOk 705 m bankV σ = true := by
  unfold ownOk
  dsimp only
  rw [look_at h.tbl rfl]
  simp [hm]
end
structure Fr (S : List Nat) (σ σ' : List AObj) : Prop where
  le : σ.length ≤ σ'.length
  eq : ∀ i, i < σ.length -> i ∉ S -> σ'[i]? = σ[i]?
theorem Fr.refl {S : List Nat} {σ : List AObj} : Fr S σ σ := ⟨Nat.le_refl _, fun V V V => rfl⟩
theorem Fr.trans {S : List Nat} {σ σ' σ'' : List AObj} (h : Fr S σ σ') (h' : Fr S σ' σ'') : Fr S σ σ'' := ⟨Nat.le_trans h.le h'.le, fun i hi hs => (h'.eq i (Nat.lt_of_lt_of_le hi h.le) hs).trans (h.eq i hi hs)⟩
theorem Fr.mono {S S' : List Nat} {σ σ' : List AObj} (h : Fr S σ σ') (hs : ∀ i ∈ S, i ∈ S') : Fr S' σ σ' := ⟨h.le, fun i hi n => h.eq i hi fun q => n (hs i q)⟩
theorem Fr.at {S : List Nat} {σ σ' : List AObj} (h : Fr S σ σ') {i : Nat} {o : AObj} (e : σ[i]? = some o) (hs : i ∉ S) : σ'[i]? = some o := by
  rw [h.eq i (List.getElem?_eq_some_iff.mp e).1 hs]; exact e
theorem Fr.app {S : List Nat} {σ g : List AObj} : Fr S σ (σ ++ g) := ⟨by simp, fun i hi V => List.getElem?_append_left hi⟩
theorem Fr.set {S : List Nat} {σ : List AObj} {i : Nat} {o : AObj} (h : i ∈ S ∨ σ.length ≤ i) : Fr S σ (σ.set i o) := ⟨by simp, fun j hj n => List.getElem?_set_ne (by
  rintro rfl
  rcases h with q | q
  · exact n q
  · omega)⟩
theorem BankR.fr {T : List Trm} {S : List Nat} {σ σ' : List AObj} (h : BankR T σ) (f : Fr S σ σ') (hs : ∀ i ∈ S, i ≠ 1 ∧ (i < 5 ∨ 9 < i)) : BankR T σ' := by
  have k : ∀ i, (i = 1 ∨ (5 ≤ i ∧ i ≤ 9)) -> i ∉ S := fun i hi q => by have := hs i q; omega
  obtain ⟨kvs, h1, h2⟩ := h.nums
  exact ⟨f.at h.tbl (k _ (by omega)), f.at h.ops (k _ (by omega)), f.at h.args (k _ (by omega)), f.at h.sorts (k _ (by omega)), f.at h.datas (k _ (by omega)), ⟨kvs, f.at h1 (k _ (by omega)), h2⟩, h.len⟩
theorem kvGet_app {K : Type} [DecidableEq K] {k j : K} {v : AV} : ∀ {l : List (K × AV)}, kvGet j l = none -> kvGet j (l ++ [(k, v)]) = if k = j then some v else none
  | [], _ => rfl
  | p :: r, h => by
    unfold kvGet at h
    rw [List.cons_append]
    show (if p.1 = j then some p.2 else kvGet j (r ++ [(k, v)])) = _
    split at h
    · cases h
    · rename_i q
      rw [if_neg q]
      exact kvGet_app h
theorem kvGet_app_some {K : Type} [DecidableEq K] {k j : K} {v u : AV} : ∀ {l : List (K × AV)}, kvGet j l = some u -> kvGet j (l ++ [(k, v)]) = some u
  | p :: r, h => by
    unfold kvGet at h
    rw [List.cons_append]
    show (if p.1 = j then some p.2 else kvGet j (r ++ [(k, v)])) = _
    split at h
    · rename_i q; rw [if_pos q]; exact h
    · rename_i q; rw [if_neg q]; exact kvGet_app_some h
theorem kvHas_no {K : Type} [DecidableEq K] {k : K} : ∀ {l : List (K × AV)}, kvGet k l = none -> kvHas k l = false
  | [], _ => rfl
  | p :: r, h => by
    unfold kvGet at h
    split at h
    · cases h
    · rename_i q
      show (decide (p.1 = k) || kvHas k r) = false
      rw [decide_eq_false q, kvHas_no h]; rfl

noncomputable def grown (σ : List AObj) (T : List Trm) (e : Trm) (kvs : List (TKey × AV)) (k : TKey) : List AObj :=
  ((((σ.set 5 (.lst ((T.map fun e => AV.str e.op) ++ [.str e.op]))).set 6 (.lst ((T.map fun e => AV.tup (e.args.map .int)) ++ [.tup (e.args.map .int)]))).set 7 (.lst ((T.map fun e => AV.int e.sort) ++ [.int e.sort]))).set 8 (.lst ((T.map fun e => e.data) ++ [e.data]))).set 9 (.td (kvs ++ [(k, .int T.length)]))
theorem app_lst {σ : List AObj} {i : Nat} {xs : List AV} {v : AV} (h : σ[i]? = some (.lst xs)) (hl : xs.length ≤ 1000) : oAppend [.obj i, v] σ = some (.none, σ.set i (.lst (xs ++ [v]))) := by
  unfold oAppend
  simp only [h, if_pos hl]
theorem isL_lst {σ : List AObj} {i : Nat} {xs : List AV} (h : σ[i]? = some (.lst xs)) : isListV (.obj i) σ = true := by
  unfold isListV
  dsimp only
  rw [look_at h rfl]
theorem BankR.grown {T : List Trm} {σ : List AObj} {e : Trm} {k : TKey} {kvs : List (TKey × AV)} (h : BankR T σ) (hk : KeyIs e k) (h9 : σ[9]? = some (.td kvs)) (hn : NumsOk T kvs) (hno : kvGet k kvs = none) (hpos : 0 < T.length) (hlen : T.length < 500) : BankR (T ++ [e]) (grown σ T e kvs k) ∧ Fr [5, 6, 7, 8, 9] σ (grown σ T e kvs k) := by
  have l9 := (List.getElem?_eq_some_iff.mp h9).1
  refine ⟨⟨?_, ?_, ?_, ?_, ?_, ⟨kvs ++ [(k, .int T.length)], ?_, ?_⟩, by simp; omega⟩, ?_⟩
  · simp [Mine.grown, List.getElem?_set, h.tbl]
  · simp [Mine.grown, List.getElem?_set]; omega
  · simp [Mine.grown, List.getElem?_set]; omega
  · simp [Mine.grown, List.getElem?_set]; omega
  · simp [Mine.grown, List.getElem?_set]; omega
  · simp [Mine.grown, List.getElem?_set]; omega
  · refine ⟨by simp [hn.1], fun k' v hv => ?_⟩
    cases q : kvGet k' kvs with
    | some u =>
      rw [kvGet_app_some q] at hv
      cases hv
      obtain ⟨i, e', h1, h2, h3, h4⟩ := hn.2 k' _ q
      exact ⟨i, e', h1, by rw [List.getElem?_append_left (List.getElem?_eq_some_iff.mp h2).1]; exact h2, h3, h4⟩
    | none =>
      rw [kvGet_app q] at hv
      split at hv
      · rename_i e1
        cases hv
        subst e1
        exact ⟨T.length, e, rfl, List.getElem?_concat_length, hpos, hk⟩
      · exact no hv
  · unfold Mine.grown
    exact ((((Fr.set (.inl (by first | decide | simp))).trans (Fr.set (.inl (by first | decide | simp)))).trans (Fr.set (.inl (by first | decide | simp)))).trans (Fr.set (.inl (by first | decide | simp)))).trans (Fr.set (.inl (by first | decide | simp)))
theorem attr1 {σ : List AObj} (h : σ[1]? = some (.fld bankF)) {x : String} {v : AV} (hx : bankF.lookup x = some v) : oAttr 705 x bankV σ = some (v, σ) := by
  unfold oAttr
  simp only [if_pos]
  rw [look_at h rfl]
  simp [hx]
theorem make_new {σ σ1 σ2 σ3 σ4 σ5 : List AObj} {n : Nat} {op : String} {as d s : AV} (hg : oGetOr [.obj 9, .tup [.str op, as, s, d], .int 0] σ = some (.int 0, σ)) (hd : isDictV (.obj 9) σ = true) (b0 : σ[1]? = some (.fld bankF)) (b1 : σ1[1]? = some (.fld bankF)) (b2 : σ2[1]? = some (.fld bankF)) (b3 : σ3[1]? = some (.fld bankF)) (b4 : σ4[1]? = some (.fld bankF))
    (hl : oLen [.obj 5] σ = some (.int n, σ)) (i5 : isListV (.obj 5) σ = true) (i6 : isListV (.obj 6) σ1 = true) (i7 : isListV (.obj 7) σ2 = true) (i8 : isListV (.obj 8) σ3 = true) (a5 : oAppend [.obj 5, .str op] σ = some (.none, σ1)) (a6 : oAppend [.obj 6, as] σ1 = some (.none, σ2)) (a7 : oAppend [.obj 7, s] σ2 = some (.none, σ3)) (a8 : oAppend [.obj 8, d] σ3 = some (.none, σ4))
    (a9 : oSetItem (.obj 9) (.tup [.str op, as, s, d]) (.int n) σ4 = some σ5) : d_Bankmake [bankV, .str op, as, s, d] σ = some (.int n, σ5) := by
  have n0 : oAttr 705 "numbers" bankV σ = some (.obj 9, σ) := attr1 b0 (by rfl)
  have n1 : oAttr 705 "term_ops" bankV σ = some (.obj 5, σ) := attr1 b0 (by rfl)
  have n2 : oAttr 705 "term_args" bankV σ1 = some (.obj 6, σ1) := attr1 b1 (by rfl)
  have n3 : oAttr 705 "term_sorts" bankV σ2 = some (.obj 7, σ2) := attr1 b2 (by rfl)
  have n4 : oAttr 705 "term_datas" bankV σ3 = some (.obj 8, σ3) := attr1 b3 (by rfl)
  have n5 : oAttr 705 "numbers" bankV σ4 = some (.obj 9, σ4) := attr1 b4 (by rfl)
  unfold d_Bankmake b_Bankmake
  exists n0, n1, n2, n3, n4, n5, hd, hg, hl, i5, i6, i7, i8, a5, a6, a7, a8, a9, oEq_int
theorem e_make {T : List Trm} {σ : List AObj} {e : Trm} {k : TKey} (h : BankR T σ) (hk : KeyIs e k) (hpos : 0 < T.length) (hlen : T.length < 500) : X3 fun (t : Nat) (T' : List Trm) (σ' : List AObj) => A7 (d_Bankmake [bankV, .str e.op, .tup (e.args.map .int), .int e.sort, e.data] σ = some (.int t, σ')) (BankR T' σ') (T'[t]? = some e) (0 < t) ((T' = T ∨ T' = T ++ [e])) (Fr [5, 6, 7, 8, 9] σ σ') (σ'.length = σ.length) := by
  obtain ⟨kvs, h9, hn⟩ := h.nums
  have hd : isDictV (.obj 9) σ = true := by unfold isDictV; dsimp only; rw [look_at h9 rfl]
  have hg : oGetOr [.obj 9, .tup [.str e.op, .tup (e.args.map .int), .int e.sort, e.data], .int 0] σ = some ((kvGet k kvs).getD (.int 0), σ) := by
    unfold oGetOr getOr
    dsimp only
    rw [look_at h9 rfl]
    dsimp only
    rw [hk.key]
    rfl
  have an : oAttr 705 "numbers" bankV σ = some (.obj 9, σ) := h.attr (by rfl)
  cases q : kvGet k kvs with
  | some v =>
    obtain ⟨i, e', rfl, h2, h3, h4⟩ := hn.2 k v q
    obtain rfl := hk.inj h4
    refine ⟨i, T, σ, ?_, h, h2, h3, .inl rfl, .refl, rfl⟩
    rw [q] at hg
    have hz : ((i : Int) == 0) = false := by simp; omega
    unfold d_Bankmake b_Bankmake
    exists an, hd, hg, oEq_int, hz
  | none =>
    obtain ⟨hb, hf⟩ := h.grown hk h9 hn q hpos hlen
    refine ⟨T.length, T ++ [e], _, ?_, hb, List.getElem?_concat_length, hpos, .inr rfl, hf, by simp [grown]⟩
    rw [q] at hg
    have l9 := (List.getElem?_eq_some_iff.mp h9).1
    have lo : (T.map fun e => AV.str e.op).length ≤ 1000 := by simp; omega
    have la : (T.map fun e => AV.tup (e.args.map .int)).length ≤ 1000 := by simp; omega
    have ls : (T.map fun e => AV.int e.sort).length ≤ 1000 := by simp; omega
    have ld : (T.map fun e => e.data).length ≤ 1000 := by simp; omega
    have hl : oLen [.obj 5] σ = some (.int T.length, σ) := by
      unfold oLen lenV
      dsimp only
      rw [look_at h.ops rfl]
      simp
      omega
    have b1 : (σ.set 5 (.lst ((T.map fun e => AV.str e.op) ++ [.str e.op])))[6]? = some (.lst (T.map fun e => .tup (e.args.map .int))) := by rw [List.getElem?_set_ne (by decide)]; exact h.args
    have b2 : ((σ.set 5 (.lst ((T.map fun e => AV.str e.op) ++ [.str e.op]))).set 6 (.lst ((T.map fun e => AV.tup (e.args.map .int)) ++ [.tup (e.args.map .int)])))[7]? = some (.lst (T.map fun e => .int e.sort)) := by rw [List.getElem?_set_ne (by decide), List.getElem?_set_ne (by decide)]; exact h.sorts
    have b3 : (((σ.set 5 (.lst ((T.map fun e => AV.str e.op) ++ [.str e.op]))).set 6 (.lst ((T.map fun e => AV.tup (e.args.map .int)) ++ [.tup (e.args.map .int)]))).set 7 (.lst ((T.map fun e => AV.int e.sort) ++ [.int e.sort])))[8]? = some (.lst (T.map fun e => e.data)) := by rw [List.getElem?_set_ne (by decide), List.getElem?_set_ne (by decide), List.getElem?_set_ne (by decide)]; exact h.datas
    have b4 : ((((σ.set 5 (.lst ((T.map fun e => AV.str e.op) ++ [.str e.op]))).set 6 (.lst ((T.map fun e => AV.tup (e.args.map .int)) ++ [.tup (e.args.map .int)]))).set 7 (.lst ((T.map fun e => AV.int e.sort) ++ [.int e.sort]))).set 8 (.lst ((T.map fun e => e.data) ++ [e.data])))[9]? = some (.td kvs) := by rw [List.getElem?_set_ne (by decide), List.getElem?_set_ne (by decide), List.getElem?_set_ne (by decide), List.getElem?_set_ne (by decide)]; exact h9
    have si : ∀ {σ4 : List AObj}, σ4[9]? = some (.td kvs) -> oSetItem (.obj 9) (.tup [.str e.op, .tup (e.args.map .int), .int e.sort, e.data]) (.int T.length) σ4 = some (σ4.set 9 (.td (kvs ++ [(k, .int T.length)]))) := fun {σ4} h4 => by
      unfold oSetItem
      dsimp only
      rw [h4]
      dsimp only
      rw [hk.key]
      have : kvs.length ≤ 1000 := by have := hn.1; omega
      simp only [Option.bind_some, if_pos this]
      unfold kvPut
      rw [kvHas_no q]
      rfl
    exact make_new hg hd h.tbl (by rw [List.getElem?_set_ne (by decide)]; exact h.tbl) (by rw [List.getElem?_set_ne (by decide), List.getElem?_set_ne (by decide)]; exact h.tbl) (by rw [List.getElem?_set_ne (by decide), List.getElem?_set_ne (by decide), List.getElem?_set_ne (by decide)]; exact h.tbl) (by rw [List.getElem?_set_ne (by decide), List.getElem?_set_ne (by decide), List.getElem?_set_ne (by decide), List.getElem?_set_ne (by decide)]; exact h.tbl)
      hl (isL_lst h.ops) (isL_lst b1) (isL_lst b2) (isL_lst b3) (app_lst h.ops lo) (app_lst b1 la) (app_lst b2 ls) (app_lst b3 ld) (si b4)
end
section
noncomputable abbrev judgeV : AV := .ins 869 15
structure JudgeR (T : List Trm) (σ : List AObj) : Prop where
  bank : BankR T σ
  tbl : σ[15]? = some (.fld [("bank", bankV)])
theorem JudgeR.fr {T : List Trm} {S : List Nat} {σ σ' : List AObj} (h : JudgeR T σ) (f : Fr S σ σ') (hs : ∀ i ∈ S, 16 ≤ i) : JudgeR T σ' :=
  ⟨h.bank.fr f fun i q => by have := hs i q; omega, f.at h.tbl fun q => by have := hs _ q; omega⟩
theorem JudgeR.attr {T : List Trm} {σ : List AObj} (h : JudgeR T σ) : oAttr 869 "bank" judgeV σ = some (bankV, σ) := by
  unfold oAttr
  simp only [if_pos]
  rw [look_at h.tbl rfl]
  simp
section
variable {T : List Trm} {σ : List AObj} {d p : Nat} {l : DI}
theorem max_di {u : Int} (h : σ[d]? = some (.id (di l))) (hu : u ∈ keys l) (hm : ∀ v ∈ keys l, v ≤ u) : oMax [.obj d] σ = some (.int u, σ) := by
  unfold oMax
  dsimp only
  rw [look_at h rfl]
  cases l with
  | nil => cases hu
  | cons q r =>
    have e : maxI q.1 ((di r).map (·.1)) = u := by
      rw [di_keys]
      have h1 := maxG (m := q.1) (l := keys r) u hu
      have h2 := hm _ (maxM (m := q.1) (l := keys r))
      omega
    show some (AV.int (maxI q.1 ((di r).map (·.1))), σ) = _
    rw [e]
theorem pop_di {u m : Int} (h : σ[d]? = some (.id (di l))) (hu : igetO u l = some m) (hl : l.length ≤ 1000) : oPop [.obj d, .int u] σ = some (one_ m, σ.set d (.id (di (idel u l)))) := by
  unfold oPop
  simp only [h]
  rw [if_pos (by rw [di_len]; exact hl), di_get, hu, di_del]
  rfl
theorem isD_di (h : σ[d]? = some (.id (di l))) : isDictV (.obj d) σ = true := by
  unfold isDictV; dsimp only; rw [look_at h rfl]
theorem len_di (h : σ[d]? = some (.id (di l))) (hl : l.length ≤ 1000) : oLen [.obj d] σ = some (.int l.length, σ) := by
  unfold oLen lenV
  dsimp only
  rw [look_at h rfl]
  simp [di_len, hl]
theorem getOr_di {k : Int} (h : σ[d]? = some (.id (di l))) : oGetOr [.obj d, .int k, vZERO] σ = some (one_ (iget k l), σ) := by
  unfold oGetOr getOr
  dsimp only
  rw [look_at h rfl]
  dsimp only
  rw [di_get]
  unfold iget
  cases igetO k l <;> rfl
theorem put_di {k m : Int} (h : σ[d]? = some (.id (di l))) (hl : l.length ≤ 1000) : oSetItem (.obj d) (.int k) (one_ m) σ = some (σ.set d (.id (di (iput k m l)))) := by
  unfold oSetItem
  simp only [h]
  rw [if_pos (by rw [di_len]; exact hl), di_put]
theorem get_di {k m : Int} (h : σ[d]? = some (.id (di l))) (hk : igetO k l = some m) : oGet (.obj d) (.int k) σ = some (one_ m, σ) := by
  unfold oGet getV
  dsimp only
  rw [look_at h rfl]
  dsimp only
  rw [di_get, hk]
  rfl
end
noncomputable def wt (T : List Trm) (φ : Int -> Int) (one : Int) (u : Int) : Int := match T[u.toNat]? with
  | none => 0
  | some e => if e.op = "num" then (match e.data with | .tup [.int k, .int _] => k * one | _ => 0)
    else if e.op = "*" then (match e.args with
      | [a, r] => (match T[a.toNat]? with | some ea => (match ea.data with | .tup [.int k, .int _] => k * φ r | _ => 0) | none => 0)
      | _ => 0)
    else φ u
inductive Atom (T : List Trm) (x y : Int) (u : Int) : Prop
  | num {e : Trm} {k : Int} : 0 ≤ u -> T[u.toNat]? = some e -> e.op = "num" -> e.data = one_ k -> Atom T x y u
  | app {e : Trm} : 0 ≤ u -> T[u.toNat]? = some e -> e.op = "app" -> (u = x ∨ u = y) -> Atom T x y u
  | mul {e ea : Trm} {a r k : Int} : 0 ≤ u -> T[u.toNat]? = some e -> e.op = "*" -> e.args = [a, r] -> 0 ≤ a -> T[a.toNat]? = some ea -> ea.op = "num" -> ea.data = one_ k -> 0 ≤ r -> r < u -> (r = x ∨ r = y) -> (∃ er, T[r.toNat]? = some er ∧ er.op = "app") -> Atom T x y u
noncomputable abbrev linRho (ρ : Rho) (u : Int) (f as op : AV) : Rho := (((ρ.set "u" (.int u)).set "factor" f).set "some" as).set "op" op
section
variable {T : List Trm} {σ : List AObj} {d p : Nat} {due parts : DI} {ρ : Rho} {c u m : Int} {e : Trm}
theorem lin_head {R : DenS} (J : JudgeR T σ) (hs : ρ "self" = some judgeV) (hd : ρ "due" = some (.obj d)) (hd16 : 16 ≤ d) (hdue : σ[d]? = some (.id (di due))) (hl : due.length ≤ 1000) (hu : igetO u due = some m) (hmem : u ∈ keys due) (hmax : ∀ v ∈ keys due, v ≤ u) (h0 : 0 ≤ u) (he : T[u.toNat]? = some e) :
    (dsSeq (dsSet "u" (dCall oMax (dCons (dLoc "due") dNil))) (dsSeq (dsSet "factor" (dMeth isDictV oPop (dLoc "due") (dCons (dLoc "u") dNil))) (dsSeq (dsTupR ["op", "some"] (dTup (dCons (dMeth (ownOk 705 "op") d_Bankop (d1 (oAttr 869 "bank") (dLoc "self")) (dCons (dLoc "u") dNil)) (dCons (dMeth (ownOk 705 "args") d_Bankargs (d1 (oAttr 869 "bank") (dLoc "self")) (dCons (dLoc "u") dNil)) dNil)))) R))) ρ σ =
      R (linRho ρ u (one_ m) (.tup (e.args.map .int)) (.str e.op)) (σ.set d (.id (di (idel u due)))) ∧ JudgeR T (σ.set d (.id (di (idel u due)))) := by
  have J1 : JudgeR T (σ.set d (.id (di (idel u due)))) := J.fr (S := [d]) (Fr.set (.inl List.mem_cons_self)) fun i q => by rw [List.mem_singleton.mp q]; exact hd16
  refine ⟨?_, J1⟩
  obtain ⟨n, rfl⟩ := Int.eq_ofNat_of_zero_le h0
  have he' : T[n]? = some e := he
  have e1 : dsSet "u" (dCall oMax (dCons (dLoc "due") dNil)) ρ σ = some (.next, ρ.set "u" (.int n), σ) := by
    exists hd, max_di hdue hmem hmax
  have e2 : dsSet "factor" (dMeth isDictV oPop (dLoc "due") (dCons (dLoc "u") dNil)) (ρ.set "u" (.int n)) σ = some (.next, (ρ.set "u" (.int n)).set "factor" (one_ m), σ.set d (.id (di (idel n due)))) := by
    exists hd, isD_di hdue, pop_di hdue hu hl
  have e3 : dsTupR ["op", "some"] (dTup (dCons (dMeth (ownOk 705 "op") d_Bankop (d1 (oAttr 869 "bank") (dLoc "self")) (dCons (dLoc "u") dNil)) (dCons (dMeth (ownOk 705 "args") d_Bankargs (d1 (oAttr 869 "bank") (dLoc "self")) (dCons (dLoc "u") dNil)) dNil))) ((ρ.set "u" (.int n)).set "factor" (one_ m)) (σ.set d (.id (di (idel n due)))) = some (.next, linRho ρ n (one_ m) (.tup (e.args.map .int)) (.str e.op), σ.set d (.id (di (idel n due)))) := by
    exists hs, J1.attr, J1.bank.own (m := "op") (by rfl), J1.bank.own (m := "args") (by rfl), J1.bank.e_op he', J1.bank.e_args he'
  exists e1, e2, e3

noncomputable def linIf : DenS := (dsSeq (dsIf (cVal (d2 oEq (dLoc "op") (dK (.str "num")))) (dsSeq (dsSet "constant" (dCall d_add (dCons (dLoc "constant") (dCons (dCall d_mul (dCons (dLoc "factor") (dCons (dMeth (ownOk 705 "data") d_Bankdata (d1 (oAttr 869 "bank") (dLoc "self")) (dCons (dLoc "u") dNil)) dNil))) dNil)))) dsNil) (dsSeq (dsIf (cVal (d2 oEq (dLoc "op") (dK (.str "+")))) (dsSeq (dsFor (iSeq (dLoc "some")) (bindN "part") fb_RowJudgelinear1) dsNil) (dsSeq (dsIf (cAnd (cVal (d2 oEq (dLoc "op") (dK (.str "*")))) (cAnd (cVal (d2 oEq (dMeth (ownOk 705 "op") d_Bankop (d1 (oAttr 869 "bank") (dLoc "self")) (dCons (d2 oGet (dLoc "some") (dK (.int 0))) dNil)) (dK (.str "num")))) cTrue)) (dsSeq (dsItem (dCall d_add (dCons (dMeth isDictV oGetOr (dLoc "due") (dCons (d2 oGet (dLoc "some") (dK (.int 1))) (dCons g_ZERO dNil))) (dCons (dCall d_mul (dCons (dLoc "factor") (dCons (dMeth (ownOk 705 "data") d_Bankdata (d1 (oAttr 869 "bank") (dLoc "self")) (dCons (d2 oGet (dLoc "some") (dK (.int 0))) dNil)) dNil))) dNil))) (dLoc "due") (d2 oGet (dLoc "some") (dK (.int 1)))) dsNil) (dsSeq (dsItem (dLoc "factor") (dLoc "parts") (dLoc "u")) dsNil)) dsNil)) dsNil)) dsNil)
theorem wb_eq : wb_RowJudgelinear1 = (dsSeq (dsSet "u" (dCall oMax (dCons (dLoc "due") dNil))) (dsSeq (dsSet "factor" (dMeth isDictV oPop (dLoc "due") (dCons (dLoc "u") dNil))) (dsSeq (dsTupR ["op", "some"] (dTup (dCons (dMeth (ownOk 705 "op") d_Bankop (d1 (oAttr 869 "bank") (dLoc "self")) (dCons (dLoc "u") dNil)) (dCons (dMeth (ownOk 705 "args") d_Bankargs (d1 (oAttr 869 "bank") (dLoc "self")) (dCons (dLoc "u") dNil)) dNil)))) linIf))) := rfl
theorem turn_num {as : AV} {k : Int} (J : JudgeR T σ) (hs : ρ "self" = some judgeV) (hc : ρ "constant" = some (one_ c)) (h0 : 0 ≤ u) (he : T[u.toNat]? = some e) (hk : e.data = one_ k) (sm : Mine.small m = true) :
    linIf (linRho ρ u (one_ m) as (.str "num")) σ = some (.next, (linRho ρ u (one_ m) as (.str "num")).set "constant" (one_ (c + m * k)), σ) := by
  obtain ⟨n, rfl⟩ := Int.eq_ofNat_of_zero_le h0
  have he' : T[n]? = some e := he
  have ed := J.bank.e_data he'
  rw [hk] at ed
  unfold linIf
  exists oEq_str, hs, hc, J.attr, J.bank.own (m := "data") (by rfl), ed, mul_aux1 sm, add_aux1
theorem turn_app {as : AV} (hp : ρ "parts" = some (.obj p)) (hpp : σ[p]? = some (.id (di parts))) (hl : parts.length ≤ 1000) :
    linIf (linRho ρ u (one_ m) as (.str "app")) σ = some (.next, linRho ρ u (one_ m) as (.str "app"), σ.set p (.id (di (iput u m parts)))) := by
  unfold linIf
  exists oEq_str, hp, put_di hpp hl
theorem turn_mul {a r k : Int} {ea : Trm} (J : JudgeR T σ) (hs : ρ "self" = some judgeV) (hd : ρ "due" = some (.obj d)) (hdd : σ[d]? = some (.id (di due))) (hl : due.length ≤ 1000) (ha : 0 ≤ a) (he : T[a.toNat]? = some ea) (ho : ea.op = "num") (hk : ea.data = one_ k) (sm : Mine.small m = true) :
    linIf (linRho ρ u (one_ m) (.tup [.int a, .int r]) (.str "*")) σ = some (.next, linRho ρ u (one_ m) (.tup [.int a, .int r]) (.str "*"), σ.set d (.id (di (iput r (iget r due + m * k) due)))) := by
  obtain ⟨n, rfl⟩ := Int.eq_ofNat_of_zero_le ha
  have he' : T[n]? = some ea := he
  have ed := J.bank.e_data he'
  have eo := J.bank.e_op he'
  rw [hk] at ed
  rw [ho] at eo
  have g0 : oGet (.tup [.int (n : Int), .int r]) (.int 0) σ = some (.int n, σ) := by unfold oGet; rw [getV0]; rfl
  have g1 : oGet (.tup [.int (n : Int), .int r]) (.int 1) σ = some (.int r, σ) := by unfold oGet; rw [getV1]; rfl
  unfold linIf
  exists oEq_str, hs, hd, g0, g1, J.attr, J.bank.own (m := "data") (by rfl), J.bank.own (m := "op") (by rfl), ed, eo, isD_di hdd, getOr_di hdd, mul_aux1 sm, add_aux1, put_di hdd hl
end
end
section
theorem idel_len {k : Int} : ∀ {l : DI}, k ∈ keys l -> (idel k l).length < l.length
  | p :: r, h => by
    have le : (idel k r).length ≤ r.length := List.length_filter_le _ _
    by_cases q : p.1 = k
    · have e : idel k (p :: r) = idel k r := by simp [idel, q]
      rw [e]; simp only [List.length_cons]; omega
    · have e : idel k (p :: r) = p :: idel k r := by simp [idel, q]
      rw [e]
      rcases List.mem_cons.mp h with z | z
      · exact absurd z.symm q
      · have := idel_len z
        simp only [List.length_cons]; omega
theorem iput_len {k m : Int} {l : DI} : (iput k m l).length ≤ l.length + 1 := by
  have : (keys (iput k m l)).length ≤ (keys l).length + 1 := by
    rw [iput_keys]; split <;> simp
  simpa using this
theorem two_len {x y : Int} {l : DI} (hn : (keys l).Nodup) (hs : ∀ u ∈ keys l, u = x ∨ u = y) : l.length ≤ 2 := by
  match l, hn, hs with
  | [], _, _ => simp
  | [_], _, _ => simp
  | [_, _], _, _ => simp
  | a :: b :: c :: r, hn, hs =>
    exfalso
    have ha := hs a.1 (by simp)
    have hb := hs b.1 (by simp)
    have hc := hs c.1 (by simp)
    simp only [keys_cons, List.nodup_cons, List.mem_cons, not_or] at hn
    obtain ⟨⟨h1, h2, _⟩, ⟨h3, _⟩, _⟩ := hn
    rcases ha with ha | ha <;> rcases hb with hb | hb <;> rcases hc with hc | hc <;> omega
section
variable {T : List Trm} {x y : Int} {φ : Int -> Int} {one u : Int}
theorem wt_num {e : Trm} {k : Int} (he : T[u.toNat]? = some e) (ho : e.op = "num") (hk : e.data = one_ k) : wt T φ one u = k * one := by
  unfold wt; rw [he]; simp [ho, hk]
theorem wt_app {e : Trm} (he : T[u.toNat]? = some e) (ho : e.op = "app") : wt T φ one u = φ u := by
  unfold wt; rw [he]; simp [ho]
theorem wt_mul {e ea : Trm} {a r k : Int} (he : T[u.toNat]? = some e) (ho : e.op = "*") (hs : e.args = [a, r]) (hea : T[a.toNat]? = some ea) (hk : ea.data = one_ k) : wt T φ one u = k * φ r := by
  unfold wt; rw [he]; simp [ho, hs, hea, hk]
theorem lin_cond {ρ : Rho} {σ : List AObj} {d : Nat} {due : DI} (hd : ρ "due" = some (.obj d)) (hdd : σ[d]? = some (.id (di due))) (hl : due.length ≤ 1000) : wc_RowJudgelinear1 ρ σ = some (decide (0 < due.length), σ) := by
  unfold wc_RowJudgelinear1
  simp [cVal, d2, dCall, dCons, dNil, dLoc, dK, hd, len_di hdd hl, oGt_int]
theorem lin_loop {p d : Nat} (hp16 : 16 ≤ p) (hd16 : 16 ≤ d) (hpd : p ≠ d) : ∀ (fuel : Nat) (ρ : Rho) (σ : List AObj) (due parts : DI) (c : Int), JudgeR T σ -> ρ "self" = some judgeV -> ρ "due" = some (.obj d) -> ρ "parts" = some (.obj p) -> ρ "constant" = some (one_ c) ->
    σ[d]? = some (.id (di due)) -> σ[p]? = some (.id (di parts)) -> (keys due).Nodup -> (∀ u ∈ keys due, Atom T x y u) -> (∀ u m, igetO u due = some m -> m = 1 ∨ ∃ e, T[u.toNat]? = some e ∧ e.op = "app") -> (keys parts).Nodup -> (∀ u ∈ keys parts, u = x ∨ u = y) -> (∀ v ∈ keys parts, ∀ u ∈ keys due, u < v) -> due.length ≤ 10 -> (∀ u ∈ keys due, u + 2 ≤ fuel) -> 1 ≤ fuel ->
    X4 fun ρ' σ' parts' c' => A9 (whileN wc_RowJudgelinear1 wb_RowJudgelinear1 fuel ρ σ = some (.next, ρ', σ')) (ρ' "parts" = some (.obj p)) (ρ' "constant" = some (one_ c')) (Fr [p, d] σ σ') (σ'.length = σ.length) (σ'[p]? = some (.id (di parts'))) ((keys parts').Nodup) ((∀ u ∈ keys parts', u = x ∨ u = y)) (∀ φ one, sumF φ parts' + c' * one = sumF (wt T φ one) due + sumF φ parts + c * one) := by
  intro fuel
  induction fuel with
  | zero => intro ρ σ due parts c _ _ _ _ _ _ _ _ _ _ _ _ _ _ _ h; omega
  | succ n ih =>
    intro ρ σ due parts c J hs hd hp hc hdd hpp hnd hat hm hnp hsub hlt hlen hfu _
    have hpl := two_len hnp hsub
    by_cases hz : due = []
    · subst hz
      refine ⟨ρ, σ, parts, c, whileN_false (by rw [lin_cond hd hdd (by decide)]; rfl), hp, hc, .refl, rfl, hpp, hnp, hsub, fun φ one => by simp [sumF]⟩
    · have hpos : 0 < due.length := by cases due with | nil => exact absurd rfl hz | cons => simp
      have hct : wc_RowJudgelinear1 ρ σ = some (true, σ) := by rw [lin_cond hd hdd (by omega), decide_eq_true hpos]
      -- the greatest key
      obtain ⟨u, hmem, hmax⟩ : ∃ u, u ∈ keys due ∧ ∀ v ∈ keys due, v ≤ u := by
        cases due with
        | nil => exact absurd rfl hz
        | cons q r => exact ⟨maxI q.1 (keys r), maxM, fun v hv => maxG v hv⟩
      obtain ⟨m, hget, _⟩ := iget_mem hmem
      have hgm : iget u due = m := by unfold iget; rw [hget]; rfl
      have hu0 : 0 ≤ u ∧ ∃ e, T[u.toNat]? = some e := by
        cases hat u hmem with
        | num h0 he _ _ => exact ⟨h0, _, he⟩
        | app h0 he _ _ => exact ⟨h0, _, he⟩
        | mul h0 he _ _ _ _ _ _ _ _ _ _ => exact ⟨h0, _, he⟩
      obtain ⟨h0, e, he⟩ := hu0
      have hfu_u := hfu u hmem
      have ltn : n + 1 ≥ 2 := by omega
      have dmem : ∀ v ∈ keys (idel u due), v ∈ keys due ∧ v < u := fun v hv => by
        have := idel_mem.mp hv
        have h2 := hmax v this.1
        exact ⟨this.1, by omega⟩
      obtain ⟨hh, J1⟩ := lin_head (R := linIf) J hs hd hd16 hdd (by omega) hget hmem hmax h0 he
      have l1 := idel_len hmem
      have nd1 := idel_nodup (k := u) hnd
      have dl : d < σ.length := (List.getElem?_eq_some_iff.mp hdd).1
      have hd1 : (σ.set d (.id (di (idel u due))))[d]? = some (.id (di (idel u due))) := List.getElem?_set_self dl
      have hp1 : (σ.set d (.id (di (idel u due))))[p]? = some (.id (di parts)) := by rw [List.getElem?_set_ne (Ne.symm hpd)]; exact hpp
      have fr1 : Fr [p, d] σ (σ.set d (.id (di (idel u due)))) := Fr.set (.inl (by simp))
      have sd : ∀ φ one, sumF (wt T φ one) due = sumF (wt T φ one) (idel u due) + m * wt T φ one u := fun φ one => by
        have := sum_del (φ := wt T φ one) (k := u) hnd
        rw [hgm] at this
        omega
      have gdel : ∀ v m', igetO v (idel u due) = some m' -> m' = 1 ∨ ∃ e, T[v.toNat]? = some e ∧ e.op = "app" := fun v m' hv => by
        have hvk : v ∈ keys (idel u due) := by
          refine Classical.byContradiction fun q => ?_
          rw [iget_none.mpr q] at hv; exact no hv
        have : igetO v due = some m' := by
          clear hh
          have hne : v ≠ u := (idel_mem.mp hvk).2
          revert hv
          clear hvk
          induction due with
          | nil => intro h; exact no h
          | cons q r _ =>
            intro h
            have key : ∀ {l : DI}, igetO v (idel u l) = igetO v l := by
              intro l
              induction l with
              | nil => rfl
              | cons s t iht =>
                by_cases z : s.1 = u
                · have e1 : idel u (s :: t) = idel u t := by simp [idel, z]
                  rw [e1, iht]
                  show _ = (if s.1 = v then _ else _)
                  rw [if_neg (by omega)]
                · have e1 : idel u (s :: t) = s :: idel u t := by simp [idel, z]
                  rw [e1]
                  show (if s.1 = v then _ else _) = (if s.1 = v then _ else _)
                  rw [iht]
            rw [← key]; exact h
        exact hm v m' this
      cases hat u hmem with
      | @num e2 k _ he2 ho hk =>
        rw [he] at he2
        cases he2
        have m1 : m = 1 := by
          rcases hm u m hget with q | ⟨e3, h3, h4⟩
          · exact q
          · rw [he] at h3; cases h3; rw [ho] at h4; exact absurd h4 (by decide)
        subst m1
        have tn := turn_num (as := .tup (e.args.map .int)) (m := 1) J1 hs hc h0 he hk (by decide)
        rw [ho] at hh
        rw [← hh, ← wb_eq] at tn
        obtain ⟨ρ', σ', parts', c', w1, w2, w3, w4, w5, w6, w7, w8, w9⟩ := ih ((linRho ρ u (one_ 1) (.tup (e.args.map .int)) (.str "num")).set "constant" (one_ (c + 1 * k))) _ (idel u due) parts (c + 1 * k) J1 (hs) (hd) (hp) rfl hd1 hp1 nd1 (fun v hv => hat v (dmem v hv).1) gdel hnp hsub (fun v hv w hw => hlt v hv w (dmem w hw).1) (by omega) (fun v hv => by have := (dmem v hv).2; omega) (by omega)
        refine ⟨ρ', σ', parts', c', (whileN_true hct tn).trans w1, w2, w3, fr1.trans w4, by rw [w5]; simp, w6, w7, w8, fun φ one => ?_⟩
        rw [w9, sd, wt_num he ho hk, Int.add_mul, Int.one_mul, Int.one_mul]
        omega
      | @app e2 _ he2 ho hxy =>
        rw [he] at he2
        cases he2
        have ta := turn_app (as := .tup (e.args.map .int)) (u := u) (m := m) (ρ := ρ) hp hp1 (by omega)
        rw [ho] at hh
        rw [← hh, ← wb_eq] at ta
        have pl : p < (σ.set d (.id (di (idel u due)))).length := (List.getElem?_eq_some_iff.mp hp1).1
        have nu : u ∉ keys parts := fun q => by have := hlt u q u hmem; omega
        have gu : iget u parts = 0 := by unfold iget; rw [iget_none.mpr nu]; rfl
        have J2 : JudgeR T ((σ.set d (.id (di (idel u due)))).set p (.id (di (iput u m parts)))) := J1.fr (S := [p]) (Fr.set (.inl (.head _))) fun i q => by rw [List.mem_singleton.mp q]; exact hp16
        obtain ⟨ρ', σ', parts', c', w1, w2, w3, w4, w5, w6, w7, w8, w9⟩ := ih (linRho ρ u (one_ m) (.tup (e.args.map .int)) (.str "app")) _ (idel u due) (iput u m parts) c J2 (hs) (hd) (hp) (hc) (by rw [List.getElem?_set_ne hpd]; exact hd1) (List.getElem?_set_self pl) nd1 (fun v hv => hat v (dmem v hv).1) gdel (iput_nodup hnp) (fun v hv => by
            rcases iput_mem hv with q | q
            · exact hsub v q
            · rw [q]; exact hxy) (fun v hv w hw => by
            rcases iput_mem hv with q | q
            · exact hlt v q w (dmem w hw).1
            · rw [q]; exact (dmem w hw).2) (by omega) (fun v hv => by have := (dmem v hv).2; omega) (by omega)
        refine ⟨ρ', σ', parts', c', (whileN_true hct ta).trans w1, w2, w3, (fr1.trans (Fr.set (.inl (.head _)))).trans w4, by rw [w5]; simp, w6, w7, w8, fun φ one => ?_⟩
        rw [w9, sd, wt_app he ho, sum_put hnp, gu]
        simp only [Int.sub_zero]
        omega
      | @mul e2 ea a r k _ he2 ho hargs ha hea hao hak hr hru hrxy hrapp =>
        rw [he] at he2
        cases he2
        have m1 : m = 1 := by
          rcases hm u m hget with q | ⟨e3, h3, h4⟩
          · exact q
          · rw [he] at h3; cases h3; rw [ho] at h4; exact absurd h4 (by decide)
        subst m1
        have tm := turn_mul (u := u) (m := 1) (r := r) (ρ := ρ) J1 hs hd hd1 (by omega) ha hea hao hak (by decide)
        rw [ho, hargs] at hh
        rw [show ([a, r].map AV.int) = [.int a, .int r] from rfl] at hh
        rw [← hh, ← wb_eq] at tm
        obtain ⟨er, her, hero⟩ := hrapp
        have J2 : JudgeR T ((σ.set d (.id (di (idel u due)))).set d (.id (di (iput r (iget r (idel u due) + 1 * k) (idel u due))))) := J1.fr (S := [d]) (Fr.set (.inl (.head _))) fun i q => by rw [List.mem_singleton.mp q]; exact hd16
        have dl1 : d < (σ.set d (.id (di (idel u due)))).length := by simpa using dl
        have il := iput_len (k := r) (m := iget r (idel u due) + 1 * k) (l := idel u due)
        obtain ⟨ρ', σ', parts', c', w1, w2, w3, w4, w5, w6, w7, w8, w9⟩ := ih (linRho ρ u (one_ 1) (.tup [.int a, .int r]) (.str "*")) _ (iput r (iget r (idel u due) + 1 * k) (idel u due)) parts c J2 (hs) (hd) (hp) (hc) (List.getElem?_set_self dl1) (by rw [List.getElem?_set_ne (Ne.symm hpd)]; exact hp1) (iput_nodup nd1) (fun v hv => by
            rcases iput_mem hv with q | q
            · exact hat v (dmem v q).1
            · rw [q]; exact .app hr her hero hrxy) (fun v m' hv => by
            by_cases q : v = r
            · subst q; exact .inr ⟨er, her, hero⟩
            · refine gdel v m' ?_
              have key : ∀ {l : DI} {M : Int}, igetO v (imap r M l) = igetO v l := by
                intro l M
                induction l with
                | nil => rfl
                | cons s t iht =>
                  rw [imap_cons]
                  by_cases z : s.1 = r
                  · rw [if_pos z]
                    show (if s.1 = v then _ else _) = (if s.1 = v then _ else _)
                    rw [if_neg (by omega), if_neg (by omega), iht]
                  · rw [if_neg z]
                    show (if s.1 = v then _ else _) = (if s.1 = v then _ else _)
                    rw [iht]
              have key2 : ∀ {l : DI} {M : Int}, igetO v (l ++ [(r, M)]) = igetO v l := by
                intro l M
                induction l with
                | nil => show (if r = v then _ else _) = _; rw [if_neg (by omega)]
                | cons s t iht =>
                  rw [List.cons_append]
                  show (if s.1 = v then _ else igetO v (t ++ [(r, M)])) = (if s.1 = v then _ else _)
                  rw [iht]
              unfold iput at hv
              split at hv
              · rw [key] at hv; exact hv
              · rw [key2] at hv; exact hv) hnp hsub (fun v hv w hw => by
            rcases iput_mem hw with q | q
            · exact hlt v hv w (dmem w q).1
            · have := hlt v hv u hmem; omega) (by omega) (fun v hv => by
            rcases iput_mem hv with q | q
            · have := (dmem v q).2; omega
            · omega) (by omega)
        refine ⟨ρ', σ', parts', c', (whileN_true hct tm).trans w1, w2, w3, (fr1.trans (Fr.set (.inl (by simp)))).trans w4, by rw [w5]; simp, w6, w7, w8, fun φ one => ?_⟩
        rw [w9, sd, wt_mul he ho hargs hea hak, sum_put nd1, wt_app her hero]
        have : (iget r (idel u due) + 1 * k - iget r (idel u due)) * φ r = 1 * (k * φ r) := by
          rw [show iget r (idel u due) + 1 * k - iget r (idel u due) = k by omega, Int.one_mul]
        rw [this]
end

noncomputable def sumW (f : Int -> Int) : List Int -> Int
  | [] => 0
  | a :: r => f a + sumW f r
inductive Side (T : List Trm) (x y t n0 n1 k : Int) : Prop
  | num {e : Trm} : 0 ≤ t -> T[t.toNat]? = some e -> e.op = "num" -> e.data = one_ k -> n0 = 0 -> n1 = 0 -> Side T x y t n0 n1 k
  | plus {e : Trm} : 0 ≤ t -> T[t.toNat]? = some e -> e.op = "+" -> e.args.Nodup -> (∀ a ∈ e.args, a < t ∧ Atom T x y a) -> e.args.length ≤ 3 -> (∀ φ one, sumW (wt T φ one) e.args = n0 * φ x + n1 * φ y + k * one) -> Side T x y t n0 n1 k
theorem for_due {d : Nat} : ∀ (as : List Int) (l : DI) (ρ : Rho) (σ : List AObj), ρ "due" = some (.obj d) -> ρ "factor" = some (one_ 1) -> σ[d]? = some (.id (di l)) -> (∀ a ∈ as, a ∉ keys l) -> as.Nodup -> l.length + as.length ≤ 10 ->
    X2 fun ρ' σ' => A5 (forL (bindN "part") fb_RowJudgelinear1 (as.map .int) ρ σ = some (.next, ρ', σ')) (σ'[d]? = some (.id (di (l ++ as.map fun a => (a, 1))))) (Fr [d] σ σ') (σ'.length = σ.length) (∀ z, z ≠ "part" -> ρ' z = ρ z)
  | [], l, ρ, σ, _, _, h, _, _, _ => ⟨ρ, σ, rfl, by simpa using h, .refl, rfl, fun V V => rfl⟩
  | a :: r, l, ρ, σ, hd, hf, h, hn, hnd, hl => by
    rw [List.nodup_cons] at hnd
    simp only [List.length_cons] at hl
    have na : a ∉ keys l := hn a List.mem_cons_self
    have g0 : iget a l = 0 := by unfold iget; rw [iget_none.mpr na]; rfl
    have ip : iput a 1 l = l ++ [(a, 1)] := by
      unfold iput ihas
      rw [iget_none.mpr na]
      rfl
    have dl : d < σ.length := (List.getElem?_eq_some_iff.mp h).1
    have e1 : fb_RowJudgelinear1 (ρ.set "part" (.int a)) σ = some (.next, ρ.set "part" (.int a), σ.set d (.id (di (l ++ [(a, 1)])))) := by
      unfold fb_RowJudgelinear1
      have pd : oSetItem (.obj d) (.int a) (one_ (iget a l + 1)) σ = some (σ.set d (.id (di (l ++ [(a, 1)])))) := by
        rw [put_di h (by omega : l.length ≤ 1000), g0, ← ip]; rfl
      exists hd, hf, isD_di h, getOr_di h, add_aux1, pd
    obtain ⟨ρ', σ', w1, w2, w3, w4, w5⟩ := for_due r (l ++ [(a, 1)]) (ρ.set "part" (.int a)) (σ.set d (.id (di (l ++ [(a, 1)])))) (hd) (hf) (List.getElem?_set_self dl) (fun b hb q => by
      simp only [keys, List.map_append, List.map_cons, List.map_nil, List.mem_append, List.mem_singleton] at q
      rcases q with q | q
      · exact hn b (List.mem_cons_of_mem _ hb) q
      · subst q; exact hnd.1 hb) hnd.2 (by simp; omega)
    refine ⟨ρ', σ', ?_, by rw [w2]; simp, (Fr.set (.inl (.head _))).trans w3, by rw [w4]; simp, fun z hz => by rw [w5 z hz]; simp [Rho.set, hz]⟩
    rw [List.map_cons]
    unfold forL
    simp only [bindN, Option.bind_some, e1, w1]

theorem linear_plus {T : List Trm} {σ : List AObj} {ρ : Rho} {d : Nat} {x y t c : Int} {e : Trm} (J : JudgeR T σ) (hs : ρ "self" = some judgeV) (hd : ρ "due" = some (.obj d)) (hd16 : 16 ≤ d) (hdue : σ[d]? = some (.id (di [(t, 1)]))) (h0 : 0 ≤ t) (he : T[t.toNat]? = some e) (ho : e.op = "+") (hnd : e.args.Nodup) (hl : e.args.length ≤ 3) :
    X2 fun ρ' σ' => A8 (wb_RowJudgelinear1 ρ σ = some (.next, ρ', σ')) (σ'[d]? = some (.id (di (e.args.map fun a => (a, 1))))) (Fr [d] σ σ') (σ'.length = σ.length) (ρ' "self" = ρ "self") (ρ' "due" = ρ "due") (ρ' "parts" = ρ "parts") (ρ' "constant" = ρ "constant") := by
  obtain ⟨hh, J1⟩ := lin_head (R := linIf) J hs hd hd16 hdue (by simp) (m := 1) (u := t) (by simp [igetO]) (by simp [keys]) (by simp [keys]) h0 he
  have ide : idel t [(t, 1)] = [] := by simp [idel]
  rw [ide] at hh J1
  have dl : d < σ.length := (List.getElem?_eq_some_iff.mp hdue).1
  obtain ⟨ρ', σ', w1, w2, w3, w4, w5⟩ := for_due (d := d) e.args [] (linRho ρ t (one_ 1) (.tup (e.args.map .int)) (.str e.op)) (σ.set d (.id (di []))) (hd) rfl (List.getElem?_set_self dl) (fun a V q => by cases q) hnd (by simp; omega)
  refine ⟨ρ', σ', ?_, by simpa using w2, (Fr.set (.inl (.head _))).trans w3, by rw [w4]; simp, by rw [w5 _ (by decide)]; rfl, by rw [w5 _ (by decide)]; rfl, by rw [w5 _ (by decide)]; rfl, by rw [w5 _ (by decide)]; rfl⟩
  rw [wb_eq, hh]
  rw [ho] at w1 ⊢
  have hf : dsFor (iSeq (dLoc "some")) (bindN "part") fb_RowJudgelinear1 (linRho ρ t (one_ 1) (.tup (e.args.map .int)) (.str "+")) (σ.set d (.id (di []))) = some (.next, ρ', σ') := by
    unfold dsFor iSeq
    have l3 : e.args.length ≤ 1000 := by omega
    have ls : linRho ρ t (one_ 1) (.tup (e.args.map .int)) (.str "+") "some" = some (.tup (e.args.map .int)) := rfl
    simp only [dLoc, ls, Option.map_some, Option.bind_some, List.length_map, if_pos l3, w1, unfrz]
  unfold linIf
  have lo : linRho ρ t (one_ 1) (.tup (e.args.map .int)) (.str "+") "op" = some (.str "+") := rfl
  exists lo, oEq_str, hf, decide_false, decide_true
end
section
theorem set_last {α : Type} {l : List α} {a b : α} : (l ++ [a]).set l.length b = l ++ [b] := by
  induction l with
  | nil => rfl
  | cons x r ih => simp [ih]
theorem dictI_run {dk dv : Den} {ρ : Rho} {σ : List AObj} {i : Int} {v : AV} (hk : ∀ τ, dk ρ τ = some (.int i, τ)) (hv : ∀ τ, dv ρ τ = some (v, τ)) : dDictI dk dv ρ σ = some (.obj σ.length, σ ++ [AObj.id [(i, v)]]) := by
  unfold dDictI
  simp only [hk, hv, Option.bind_some, List.getElem?_concat_length, set_last]
theorem Side.pos {T : List Trm} {x y t n0 n1 k : Int} (h : Side T x y t n0 n1 k) : 0 ≤ t := by cases h <;> assumption
theorem igetO_ones {u m : Int} : ∀ {as : List Int}, igetO u (as.map fun a => (a, 1)) = some m -> m = 1
  | [], h => by exact no h
  | a :: r, h => by
    rw [List.map_cons] at h
    unfold igetO at h
    split at h
    · cases h; rfl
    · exact igetO_ones h
theorem sum_ones {f : Int -> Int} : ∀ {as : List Int}, sumF f (as.map fun a => (a, 1)) = sumW f as
  | [] => rfl
  | a :: r => by rw [List.map_cons, sum_cons, sum_ones]; simp [sumW]
theorem keys_ones {as : List Int} : keys (as.map fun a => (a, (1 : Int))) = as := by
  unfold keys; rw [List.map_map]; exact List.map_id _
theorem e_linear {T : List Trm} {σ : List AObj} {x y t n0 n1 k : Int} (J : JudgeR T σ) (h : Side T x y t n0 n1 k) (hxy : x ≠ y) (h16 : 16 ≤ σ.length) :
    X2 fun σ' parts => A8 (d_RowJudgelinear [judgeV, .int t] σ = some (.tup [.obj σ.length, one_ k], σ')) (σ'[σ.length]? = some (.id (di parts))) (Fr [] σ σ') (σ'.length = σ.length + 2) ((keys parts).Nodup) ((∀ u ∈ keys parts, u = x ∨ u = y)) (iget x parts = n0) (iget y parts = n1) := by
  have hp := h.pos
  let ρ0 : Rho := (rho0.set "self" judgeV).set "t" (.int t)
  let ρ1 : Rho := ((ρ0.set "due" (.obj (σ.length + 1))).set "constant" vZERO).set "parts" (.obj σ.length)
  let σ2 : List AObj := σ ++ [AObj.id []] ++ [AObj.id [(t, vONE)]]
  have e1 : dsTupR ["parts", "constant", "due"] (dTup (dCons (dEmpty (.id [])) (dCons g_ZERO (dCons (dDictI (dLoc "t") g_ONE) dNil)))) ρ0 σ = some (.next, ρ1, σ2) := by
    have hd : dDictI (dLoc "t") g_ONE ρ0 (σ ++ [AObj.id []]) = some (.obj (σ ++ [AObj.id []]).length, σ ++ [AObj.id []] ++ [AObj.id [(t, vONE)]]) := dictI_run (fun τ => by (exists trivial; done)) (fun τ => rfl)
    simp only [dsTupR, dTup, dCons, dNil, dEmpty, g_ZERO, dK, hd, Option.bind_some]
    simp [bindRho, ρ1, σ2]
  have hf : fuelT ρ1 = t.toNat + 2 := by
    have : ρ1 "t" = some (.int t) := rfl
    unfold fuelT
    rw [this]
    have : t.natAbs = t.toNat := by omega
    simp [this]
  have s1 : ρ1 "self" = some judgeV := rfl
  have s2 : ρ1 "due" = some (.obj (σ.length + 1)) := rfl
  have s3 : ρ1 "parts" = some (.obj σ.length) := rfl
  have s4 : ρ1 "constant" = some (one_ 0) := rfl
  have len2 : σ2.length = σ.length + 2 := by simp [σ2]
  have hdue : σ2[σ.length + 1]? = some (.id (di [(t, 1)])) := by
    have : σ2[(σ ++ [AObj.id []]).length]? = some (.id (di [(t, 1)])) := List.getElem?_concat_length
    simpa using this
  have hparts : σ2[σ.length]? = some (.id (di [])) := by
    show (σ ++ [AObj.id []] ++ [AObj.id [(t, vONE)]])[σ.length]? = _
    rw [List.getElem?_append_left (by simp), List.getElem?_concat_length]; rfl
  have f2 : Fr [] σ σ2 := Fr.app.trans Fr.app
  have J2 : JudgeR T σ2 := J.fr f2 (fun i q => by cases q)
  have fin : ∀ {ρ' : Rho} {σ' : List AObj} {parts' : DI} {c' : Int}, whileN wc_RowJudgelinear1 wb_RowJudgelinear1 (t.toNat + 2) ρ1 σ2 = some (.next, ρ', σ') -> ρ' "parts" = some (.obj σ.length) -> ρ' "constant" = some (one_ c') -> Fr [σ.length, σ.length + 1] σ2 σ' -> σ'.length = σ2.length -> σ'[σ.length]? = some (.id (di parts')) -> (keys parts').Nodup -> (∀ u ∈ keys parts', u = x ∨ u = y) -> (∀ φ one, sumF φ parts' + c' * one = n0 * φ x + n1 * φ y + k * one) ->
      X2 fun σ' parts => A8 (d_RowJudgelinear [judgeV, .int t] σ = some (.tup [.obj σ.length, one_ k], σ')) (σ'[σ.length]? = some (.id (di parts))) (Fr [] σ σ') (σ'.length = σ.length + 2) ((keys parts).Nodup) ((∀ u ∈ keys parts, u = x ∨ u = y)) (iget x parts = n0) (iget y parts = n1) := by
    intro ρ' σ' parts' c' w1 w2 w3 w4 w5 w6 w7 w8 w9
    have hc : c' = k := by
      have := w9 (fun V => 0) 1
      have z : sumF (fun V => 0) parts' = 0 := by
        clear w6 w7 w8 w9 this
        induction parts' with
        | nil => rfl
        | cons p r ih => rw [sum_cons, ih]; simp
      rw [z] at this
      omega
    subst hc
    have gx : iget x parts' = n0 := by
      have := w9 (fun u => if u = x then 1 else 0) 0
      rw [sum_delta w7] at this
      rw [if_pos rfl, if_neg (Ne.symm hxy)] at this
      omega
    have gy : iget y parts' = n1 := by
      have := w9 (fun u => if u = y then 1 else 0) 0
      rw [sum_delta w7] at this
      rw [if_pos rfl, if_neg hxy] at this
      omega
    refine ⟨σ', parts', ?_, w6, ?_, by rw [w5, len2], w7, w8, gx, gy⟩
    · have hw : dsWhile fuelT wc_RowJudgelinear1 wb_RowJudgelinear1 ρ1 σ2 = some (.next, ρ', σ') := by unfold dsWhile; rw [hf]; exact w1
      unfold d_RowJudgelinear b_RowJudgelinear
      have hb : bindRho ["self", "t"] [judgeV, .int t] rho0 = some ρ0 := rfl
      exists hb, e1, hw, w2, w3
    · exact ⟨by rw [w5, len2]; omega, fun i hi V => (w4.eq i (by rw [len2]; omega) (by simp; omega)).trans (f2.eq i hi (by simp))⟩
  cases h with
  | @num e h0 he ho hk q0 q1 =>
    obtain ⟨ρ', σ', parts', c', w1, w2, w3, w4, w5, w6, w7, w8, w9⟩ := lin_loop (x := x) (y := y) (p := σ.length) (d := σ.length + 1) h16 (by omega) (by omega) (t.toNat + 2) ρ1 σ2 [(t, 1)] [] 0 J2 s1 s2 s3 s4 hdue hparts (by simp [keys]) (fun u hu => by simp [keys] at hu; subst hu; exact .num h0 he ho hk) (fun u m hm => .inl (igetO_ones (as := [t]) hm)) (by simp [keys]) (fun u hu => by cases hu) (fun u hu => by cases hu) (by simp) (fun u hu => by simp [keys] at hu; subst hu; omega) (by omega)
    refine fin w1 w2 w3 w4 w5 w6 w7 w8 fun φ one => ?_
    rw [w9]
    simp only [sumF, wt_num he ho hk, q0, q1]
    omega
  | @plus e h0 he ho hnd hat hl hsum =>
    obtain ⟨ρa, σa, v1, v2, v3, v4, v5, v6, v7, v8⟩ := linear_plus (d := σ.length + 1) (x := x) (y := y) (c := 0) J2 s1 s2 (by omega) hdue h0 he ho hnd hl
    have Ja : JudgeR T σa := J2.fr v3 (fun i q => by rw [List.mem_singleton.mp q]; omega)
    have hpa : σa[σ.length]? = some (.id (di [])) := v3.at hparts (by simp)
    obtain ⟨ρ', σ', parts', c', w1, w2, w3, w4, w5, w6, w7, w8, w9⟩ := lin_loop (x := x) (y := y) (p := σ.length) (d := σ.length + 1) h16 (by omega) (by omega) (t.toNat + 1) ρa σa (e.args.map fun a => (a, 1)) [] 0 Ja (by rw [v5]; exact s1) (by rw [v6]; exact s2) (by rw [v7]; exact s3) (by rw [v8]; exact s4) v2 hpa (by rw [keys_ones]; exact hnd) (fun u hu => by rw [keys_ones] at hu; exact (hat u hu).2) (fun u m hm => .inl (igetO_ones hm)) (by simp [keys]) (fun u hu => by cases hu) (fun u hu => by cases hu) (by simp; omega) (fun u hu => by rw [keys_ones] at hu; have := (hat u hu).1; omega) (by omega)
    have ct : wc_RowJudgelinear1 ρ1 σ2 = some (true, σ2) := by rw [lin_cond s2 hdue (by simp)]; rfl
    refine fin ((whileN_true ct v1).trans w1) w2 w3 ((v3.mono (by simp)).trans w4) (by rw [w5, v4]) w6 w7 w8 fun φ one => ?_
    rw [w9, sum_ones, hsum]
    simp only [sumF]
    omega
end
section
theorem iSeq_lst {d : Den} {ρ : Rho} {σ : List AObj} {xs : List AV} (h : d ρ σ = some (.lst xs, σ)) (hl : xs.length ≤ 1000) : iSeq d ρ σ = some (xs, none, σ) := by
  unfold iSeq
  simp only [h, Option.bind_some, if_pos hl]
theorem dsFor_run {dI : DenI} {bind : AV -> Rho -> Option Rho} {body : DenS} {ρ ρ' : Rho} {σ σ' : List AObj} {xs : List AV} {f : AFlow} (h : dI ρ σ = some (xs, none, σ)) (h' : forL bind body xs ρ σ = some (f, ρ', σ')) : dsFor dI bind body ρ σ = some (f, ρ', σ') := by
  unfold dsFor
  simp only [h, h', Option.bind_some, unfrz]
theorem gcd_bodyT {ρ : Rho} {f p : Int} {σ : List AObj} (hf : ρ "found" = some (.int f)) (ho : ρ "one" = some (.int p)) (h : d_gcd_of [.int f, .int p] σ = some (.int 1, σ)) : fb_gcd_all1 ρ σ = some (.ret (.int 1), ρ.set "found" (.int 1), σ) := by
  unfold fb_gcd_all1
  exists hf, ho, h, ev_eqT rfl
theorem gcd_bodyF {ρ : Rho} {f p g : Int} {σ : List AObj} (hf : ρ "found" = some (.int f)) (ho : ρ "one" = some (.int p)) (h : d_gcd_of [.int f, .int p] σ = some (.int g, σ)) (q : ¬ g = 1) : fb_gcd_all1 ρ σ = some (.next, ρ.set "found" (.int g), σ) := by
  unfold fb_gcd_all1
  exists hf, ho, h, ev_eqF q
theorem forL_ret {bind : AV -> Rho -> Option Rho} {body : DenS} {x v : AV} {xs : List AV} {ρ ρ1 ρ2 : Rho} {σ σ2 : List AObj} (h1 : bind x ρ = some ρ1) (h2 : body ρ1 σ = some (.ret v, ρ2, σ2)) : forL bind body (x :: xs) ρ σ = some (.ret v, ρ2, σ2) := by
  show (bind x ρ).bind _ = _
  rw [h1]
  show (body ρ1 σ).bind _ = _
  rw [h2]
  rfl
theorem forL_nxt {bind : AV -> Rho -> Option Rho} {body : DenS} {x : AV} {xs : List AV} {ρ ρ1 ρ2 : Rho} {σ σ2 : List AObj} {r : Option (AFlow × Rho × List AObj)} (h1 : bind x ρ = some ρ1) (h2 : body ρ1 σ = some (.next, ρ2, σ2)) (h3 : forL bind body xs ρ2 σ2 = r) : forL bind body (x :: xs) ρ σ = r := by
  show (bind x ρ).bind _ = _
  rw [h1]
  show (body ρ1 σ).bind _ = _
  rw [h2]
  exact h3
theorem gcd_all_ret {l : List AV} {ρ : Rho} {v : AV} {σ : List AObj} (h : l.length ≤ 1000) (h1 : forL (bindN "one") fb_gcd_all1 l ((rho0.set "numbers" (.lst l)).set "found" (.int 0)) σ = some (.ret v, ρ, σ)) : d_gcd_all [.lst l] σ = some (v, σ) := by
  have h2 : dsFor (iSeq (dLoc "numbers")) (bindN "one") fb_gcd_all1 ((rho0.set "numbers" (.lst l)).set "found" (.int 0)) σ = some (.ret v, ρ, σ) := dsFor_run (iSeq_lst rfl h) h1
  unfold d_gcd_all b_gcd_all
  exists h2
theorem gcd_all_nxt {l : List AV} {ρ : Rho} {v : AV} {σ : List AObj} (h : l.length ≤ 1000) (h1 : forL (bindN "one") fb_gcd_all1 l ((rho0.set "numbers" (.lst l)).set "found" (.int 0)) σ = some (.next, ρ, σ)) (h3 : ρ "found" = some v) : d_gcd_all [.lst l] σ = some (v, σ) := by
  have h2 : dsFor (iSeq (dLoc "numbers")) (bindN "one") fb_gcd_all1 ((rho0.set "numbers" (.lst l)).set "found" (.int 0)) σ = some (.next, ρ, σ) := dsFor_run (iSeq_lst rfl h) h1
  unfold d_gcd_all b_gcd_all
  exists h2, h3
theorem gcd_all1 {p g : Int} {σ : List AObj} (h : d_gcd_of [.int 0, .int p] σ = some (.int g, σ)) : d_gcd_all [.lst [.int p]] σ = some (.int g, σ) := by
  by_cases q : g = 1
  · subst q
    exact gcd_all_ret (by decide : 1 ≤ 1000) (forL_ret rfl (gcd_bodyT rfl rfl h))
  · exact gcd_all_nxt (by decide : 1 ≤ 1000) (forL_nxt rfl (gcd_bodyF rfl rfl h q) rfl) rfl
theorem gcd_all2 {p q g g' : Int} {σ : List AObj} (h : d_gcd_of [.int 0, .int p] σ = some (.int g, σ)) (h' : d_gcd_of [.int g, .int q] σ = some (.int g', σ)) (h1 : g = 1 -> g' = 1) : d_gcd_all [.lst [.int p, .int q]] σ = some (.int g', σ) := by
  by_cases z : g = 1
  · rw [h1 z]
    subst z
    exact gcd_all_ret (by decide : 2 ≤ 1000) (forL_ret rfl (gcd_bodyT rfl rfl h))
  · by_cases y : g' = 1
    · subst y
      exact gcd_all_ret (by decide : 2 ≤ 1000) (forL_nxt rfl (gcd_bodyF rfl rfl h z) (forL_ret rfl (gcd_bodyT rfl rfl h')))
    · exact gcd_all_nxt (by decide : 2 ≤ 1000) (forL_nxt rfl (gcd_bodyF rfl rfl h z) (forL_nxt rfl (gcd_bodyF rfl rfl h' y) rfl)) rfl
theorem lcm11 {σ : List AObj} : d_lcm_of [.int 1, .int 1] σ = some (.int 1, σ) := by kernel_rfl
theorem bottom1 {c : Int} {σ : List AObj} : d_common_bottom [.lst [one_ c]] σ = some (.int 1, σ) := by
  have g1 : ∀ τ, oGet (one_ c) (.int 1) τ = some (.int 1, τ) := fun τ => by unfold oGet; rw [getV1]; rfl
  unfold d_common_bottom b_common_bottom fb_common_bottom1
  simp [dFun, bindRho, dsSeq, dsSet, dsFor, iSeq, dLoc, dK, forL, bindN, dCall, dCons, dNil, d2, g1, lcm11, dsRet, unfrz, Rho.set, dsNil]
theorem bottom2 {c e : Int} {σ : List AObj} : d_common_bottom [.lst [one_ c, one_ e]] σ = some (.int 1, σ) := by
  have g1 : ∀ c τ, oGet (one_ c) (.int 1) τ = some (.int 1, τ) := fun c τ => by unfold oGet; rw [getV1]; rfl
  unfold d_common_bottom b_common_bottom fb_common_bottom1
  simp [dFun, bindRho, dsSeq, dsSet, dsFor, iSeq, dLoc, dK, forL, bindN, dCall, dCons, dNil, d2, g1, lcm11, dsRet, unfrz, Rho.set, dsNil]
theorem setAttr_last {C : Addr} {x : String} {v : AV} {σ : List AObj} {fs : List (String × AV)} (h : fs.length ≤ 100) : oSetAttr C x v (.ins C σ.length) (σ ++ [.fld fs]) = some (σ ++ [.fld (fput x v fs)]) := by
  unfold oSetAttr
  simp only [if_pos, List.getElem?_concat_length, if_pos h, set_last]
theorem e_newRow {pv bv sv : AV} {σ : List AObj} : n_Row [pv, bv, sv] σ = some (.ins 754 σ.length, σ ++ [.fld [("parts", pv), ("bound", bv), ("is_strict", sv)]]) := by
  have a1 := setAttr_last (C := 754) (x := "parts") (v := pv) (σ := σ) (fs := []) (by decide)
  have a2 := setAttr_last (C := 754) (x := "bound") (v := bv) (σ := σ) (fs := [("parts", pv)]) (by simp)
  have a3 := setAttr_last (C := 754) (x := "is_strict") (v := sv) (σ := σ) (fs := [("parts", pv), ("bound", bv)]) (by simp)
  have f1 : fput "parts" pv [] = [("parts", pv)] := rfl
  have f2 : fput "bound" bv [("parts", pv)] = [("parts", pv), ("bound", bv)] := rfl
  have f3 : fput "is_strict" sv [("parts", pv), ("bound", bv)] = [("parts", pv), ("bound", bv), ("is_strict", sv)] := rfl
  rw [f1] at a1
  rw [f2] at a2
  rw [f3] at a3
  have e : d_Row_init [.ins 754 σ.length, pv, bv, sv] (σ ++ [.fld []]) = some (.none, σ ++ [.fld [("parts", pv), ("bound", bv), ("is_strict", sv)]]) := by
    unfold d_Row_init b_Row_init
    exists a1, a2, a3
  unfold n_Row dNew
  rw [e]
  rfl
theorem compN_pure {bind : AV -> Rho -> Option Rho} {c : DenC} {d : Den} {ρ : Rho} {σ : List AObj} {pr : AV -> Bool} {f : AV -> AV} : ∀ {xs : List AV}, (∀ v ∈ xs, ∃ ρ1, bind v ρ = some ρ1 ∧ c ρ1 σ = some (pr v, σ) ∧ (pr v = true -> d ρ1 σ = some (f v, σ))) -> compN bind c d ρ xs σ = some ((xs.filter pr).map f, σ)
  | [], _ => rfl
  | v :: r, h => by
    obtain ⟨ρ1, h1, h2, h3⟩ := h v List.mem_cons_self
    have ih := compN_pure (xs := r) fun u hu => h u (List.mem_cons_of_mem _ hu)
    unfold compN
    simp only [h1, h2, Option.bind_some]
    cases q : pr v with
    | true => simp only [h3 q, ih, Option.bind_some]; rw [List.filter_cons_of_pos q]; rfl
    | false => simp only [ih]; rw [List.filter_cons_of_neg (by rw [q]; exact Bool.false_ne_true)]
theorem dComp_pure {fs : List String} {dI : DenI} {bind : AV -> Rho -> Option Rho} {c : DenC} {d : Den} {ρ : Rho} {σ : List AObj} {pr : AV -> Bool} {f : AV -> AV} {xs : List AV} (hi : dI ρ σ = some (xs, none, σ)) (hl : xs.length ≤ 1000) (h : ∀ v ∈ xs, ∃ ρ1, bind v (captL fs ρ) = some ρ1 ∧ c ρ1 σ = some (pr v, σ) ∧ (pr v = true -> d ρ1 σ = some (f v, σ))) : dComp fs dI bind c d ρ σ = some (.lst ((xs.filter pr).map f), σ) := by
  unfold dComp
  simp only [hi, Option.bind_some, if_pos hl, compN_pure h, unfrz]
theorem sorted_di {p : Nat} {l : DI} {σ : List AObj} (h : σ[p]? = some (.id (di l))) (hl : l.length < 64) : oSorted [.obj p] σ = some (.lst ((isort (keys l)).map .int), σ) := by
  unfold oSorted keysOf
  dsimp only
  rw [look_at h rfl]
  simp only [Option.bind_some, di_keys]
  rw [if_pos (by simpa using hl)]
theorem igetO_of_mem {k m : Int} : ∀ {l : DI}, (keys l).Nodup -> (k, m) ∈ l -> igetO k l = some m
  | p :: r, hn, h => by
    rw [keys_cons, List.nodup_cons] at hn
    unfold igetO
    rcases List.mem_cons.mp h with q | q
    · rw [← q, if_pos rfl]
    · rw [if_neg, igetO_of_mem hn.2 q]
      rintro e
      exact hn.1 (List.mem_map.mpr ⟨_, q, e.symm⟩)
noncomputable def live (x y n0 n1 : Int) : List Int := (if n0 ≠ 0 then [x] else []) ++ (if n1 ≠ 0 then [y] else [])
theorem ins1_nil {x : Int} : ins1 x [] = [x] := rfl
theorem iget1_ne {a y m : Int} (h : a ≠ y) : iget y [(a, m)] = 0 := by
  unfold iget igetO
  rw [if_neg h]
  rfl
theorem live_eq {x y n0 n1 : Int} {l : DI} (hxy : x < y) (hn : (keys l).Nodup) (hs : ∀ u ∈ keys l, u = x ∨ u = y) (h0 : iget x l = n0) (h1 : iget y l = n1) : (isort (keys l)).filter (fun u => iget u l != 0) = live x y n0 n1 := by
  have hl := two_len hn hs
  match l, hl, hn, hs, h0, h1 with
  | [], _, _, _, h0, h1 =>
    have h0 : (0 : Int) = n0 := h0
    have h1 : (0 : Int) = n1 := h1
    subst h0 h1
    rfl
  | [(a, m)], _, hn, hs, h0, h1 =>
    rcases hs a (by simp [keys]) with q | q
    · subst q
      have e1 : iget y [(a, m)] = 0 := iget1_ne (by omega)
      have e0 : iget a [(a, m)] = m := by simp [iget, igetO]
      rw [e1] at h1; rw [e0] at h0
      subst h0 h1
      simp only [keys, List.map_cons, List.map_nil, isort, ins1, live, List.filter_cons, List.filter_nil, e0, bne_iff_ne, ne_eq, not_true_eq_false, if_false, List.append_nil]
    · subst q
      have e1 : iget a [(a, m)] = m := by simp [iget, igetO]
      have e0 : iget x [(a, m)] = 0 := iget1_ne (by omega)
      rw [e1] at h1; rw [e0] at h0
      subst h0 h1
      simp only [keys, List.map_cons, List.map_nil, isort, ins1, live, List.filter_cons, List.filter_nil, e1, bne_iff_ne, ne_eq, not_true_eq_false, if_false, List.nil_append]
  | [(a, m), (b, k)], _, hn, hs, h0, h1 =>
    simp only [keys, List.map_cons, List.map_nil, List.nodup_cons, List.mem_singleton, List.not_mem_nil, not_false_eq_true, List.nodup_nil, and_true] at hn
    rcases hs a (by simp [keys]) with q | q <;> rcases hs b (by simp [keys]) with z | z
    · omega
    · subst q z
      have e0 : iget a [(a, m), (b, k)] = m := by simp [iget, igetO]
      have e1 : iget b [(a, m), (b, k)] = k := by simp [iget, igetO, hn]
      rw [e0] at h0; rw [e1] at h1
      subst h0 h1
      have i1 : ins1 a [b] = [a, b] := by simp only [ins1]; rw [if_pos (by omega)]
      simp only [keys, List.map_cons, List.map_nil, isort, ins1_nil, i1, live, List.filter_cons, List.filter_nil, e0, e1, bne_iff_ne]
      split <;> split <;> rfl
    · subst q z
      have e0 : iget a [(a, m), (b, k)] = m := by simp [iget, igetO]
      have e1 : iget b [(a, m), (b, k)] = k := by simp [iget, igetO, hn]
      rw [e0] at h1; rw [e1] at h0
      subst h0 h1
      have i1 : ins1 a [b] = [b, a] := by simp only [ins1]; rw [if_neg (by omega)]
      simp only [keys, List.map_cons, List.map_nil, isort, ins1_nil, i1, live, List.filter_cons, List.filter_nil, e0, e1, bne_iff_ne]
      split <;> split <;> rfl
    · omega
  | _ :: _ :: _ :: _, hl, _, _, _, _ => simp at hl
end
section
theorem mem_ins1 {u x : Int} : ∀ {l : List Int}, u ∈ ins1 x l ↔ u = x ∨ u ∈ l
  | [] => by simp [ins1]
  | y :: r => by
    unfold ins1
    split
    · simp
    · rw [List.mem_cons, mem_ins1, List.mem_cons]
      constructor
      · rintro (h | h | h)
        · exact .inr (.inl h)
        · exact .inl h
        · exact .inr (.inr h)
      · rintro (h | h | h)
        · exact .inr (.inl h)
        · exact .inl h
        · exact .inr (.inr h)
theorem mem_isort {u : Int} : ∀ {l : List Int}, u ∈ isort l ↔ u ∈ l
  | [] => by simp [isort]
  | x :: r => by unfold isort; rw [mem_ins1, mem_isort, List.mem_cons]
theorem len_ins1 {x : Int} : ∀ {l : List Int}, (ins1 x l).length = l.length + 1
  | [] => rfl
  | y :: r => by unfold ins1; split <;> simp [len_ins1]
theorem len_isort : ∀ {l : List Int}, (isort l).length = l.length
  | [] => rfl
  | x :: r => by unfold isort; rw [len_ins1, len_isort]; rfl
section
variable {T : List Trm} {σ : List AObj} {ρ : Rho} {p : Nat} {parts : DI} {x y n0 n1 : Int}
theorem comp_live (hp : ρ "parts" = some (.obj p)) (hpp : σ[p]? = some (.id (di parts))) (hxy : x < y) (hn : (keys parts).Nodup) (hs : ∀ u ∈ keys parts, u = x ∨ u = y) (h0 : iget x parts = n0) (h1 : iget y parts = n1) :
    dComp ["parts"] (iSeq (dCall oSorted (dCons (dLoc "parts") dNil))) (bindN "unknown") cc_RowJudgenormal_row2 ce_RowJudgenormal_row4 ρ σ = some (.lst ((live x y n0 n1).map .int), σ) := by
  have hl := two_len hn hs
  have hi : iSeq (dCall oSorted (dCons (dLoc "parts") dNil)) ρ σ = some ((isort (keys parts)).map .int, none, σ) := iSeq_lst (by (exists hp, sorted_di hpp (by omega : parts.length < 64); done)) (by rw [List.length_map, len_isort]; simp; omega)
  rw [dComp_pure (pr := fun v => match v with | .int u => iget u parts != 0 | _ => false) (f := fun v => v) hi (by rw [List.length_map, len_isort]; simp; omega) (fun v hv => ?_)]
  · rw [List.filter_map, List.map_id', ← live_eq hxy hn hs h0 h1]
    rfl
  · obtain ⟨u, hu, rfl⟩ := List.mem_map.mp hv
    obtain ⟨m, hm, _⟩ := iget_mem (mem_isort.mp hu)
    have hg : iget u parts = m := by unfold iget; rw [hm]; rfl
    refine ⟨_, rfl, ?_, fun V => ?_⟩
    · have cp : captL ["parts"] ρ "parts" = some (.obj p) := by simp [captL, hp]
      have g0 : oGet (one_ m) (.int 0) σ = some (.int m, σ) := by unfold oGet; rw [getV0]; rfl
      unfold cc_RowJudgenormal_row2
      show _ = some (iget u parts != 0, σ)
      rw [hg]
      exists cp, get_di hpp hm, g0
    · unfold ce_RowJudgenormal_row4
      exists trivial
end
section
variable {T : List Trm} {σ : List AObj} {ρ : Rho}
theorem for_found {n : Nat} {g : Int} {cf : Int -> Int} (hg : 0 < g) (hgs : Mine.small g = true) : ∀ (us : List Int) (l : List (Int × AV)) (ρ : Rho) (σ : List AObj), ρ "found" = some (.obj n) -> ρ "divisor" = some (.int g) -> σ[n]? = some (.id l) -> (∀ u ∈ us, kvHas u l = false) -> us.Nodup -> l.length + us.length ≤ 10 ->
    X2 fun ρ' σ' => A5 (forL (bindT ["unknown", "number"]) fb_RowJudgenormal_row1 (us.map fun u => .tup [.int u, .int (cf u)]) ρ σ = some (.next, ρ', σ')) (σ'[n]? = some (.id (l ++ us.map fun u => (u, .int (cf u / g))))) (Fr [n] σ σ') (σ'.length = σ.length) (∀ z, z ≠ "unknown" -> z ≠ "number" -> ρ' z = ρ z)
  | [], l, ρ, σ, _, _, h, _, _, _ => ⟨ρ, σ, rfl, by simpa using h, .refl, rfl, fun V V V => rfl⟩
  | a :: r, l, ρ, σ, hf, hd, h, hn, hnd, hl => by
    rw [List.nodup_cons] at hnd
    simp only [List.length_cons] at hl
    have nl : n < σ.length := (List.getElem?_eq_some_iff.mp h).1
    have ll : l.length ≤ 1000 := by omega
    have fd : Int.fdiv (cf a) g = cf a / g := Int.fdiv_eq_ediv_of_nonneg _ (by omega)
    have si : oSetItem (.obj n) (.int a) (.int (cf a / g)) σ = some (σ.set n (.id (l ++ [(a, .int (cf a / g))]))) := by
      unfold oSetItem
      simp only [h]
      rw [if_pos ll]
      unfold kvPut
      rw [hn a List.mem_cons_self]
      rfl
    have e1 : fb_RowJudgenormal_row1 ((ρ.set "unknown" (.int a)).set "number" (.int (cf a))) σ = some (.next, (ρ.set "unknown" (.int a)).set "number" (.int (cf a)), σ.set n (.id (l ++ [(a, .int (cf a / g))]))) := by
      unfold fb_RowJudgenormal_row1
      have dv : oDiv (.int (cf a)) (.int g) σ = some (.int (cf a / g), σ) := by rw [oDiv_int hgs (by omega : g ≠ 0), fd]
      exists hf, hd, dv, si
    obtain ⟨ρ', σ', w1, w2, w3, w4, w5⟩ := for_found (cf := cf) hg hgs r (l ++ [(a, .int (cf a / g))]) ((ρ.set "unknown" (.int a)).set "number" (.int (cf a))) (σ.set n (.id (l ++ [(a, .int (cf a / g))]))) (hf) (hd) (List.getElem?_set_self nl) (fun b hb => by
      have h1 := hn b (List.mem_cons_of_mem _ hb)
      have h2 : a ≠ b := by rintro rfl; exact hnd.1 hb
      rw [kvHas_any] at h1 ⊢
      simp only [List.any_append, h1, List.any_cons, List.any_nil, Bool.or_false, Bool.false_or, decide_eq_false_iff_not]
      exact h2) hnd.2 (by simp; omega)
    refine ⟨ρ', σ', ?_, by rw [w2]; simp, (Fr.set (.inl (.head _))).trans w3, by rw [w4]; simp, fun z h1 h2 => by rw [w5 z h1 h2]; simp [Rho.set, h1, h2]⟩
    rw [List.map_cons]
    unfold forL
    simp only [bindT, bindRho, Option.bind_some, e1, w1]
end

theorem iZip_lst {d e : Den} {ρ : Rho} {σ : List AObj} {xs ys : List AV} (h : d ρ σ = some (.lst xs, σ)) (h' : e ρ σ = some (.lst ys, σ)) : iZip d e ρ σ = some (List.zipWith (fun a b => .tup [a, b]) xs ys, none, σ) := by
  unfold iZip
  simp only [h, h', Option.bind_some]
theorem zip_same {α β γ δ : Type} {f : β -> γ -> δ} {g : α -> β} {h : α -> γ} : ∀ {l : List α}, List.zipWith f (l.map g) (l.map h) = l.map fun a => f (g a) (h a)
  | [] => rfl
  | a :: r => by simp [zip_same]
theorem not_nil {us : List Int} {σ : List AObj} (ne : us ≠ []) (hl : us.length ≤ 2) : oEq (.lst (us.map .int)) (.lst []) σ = some (.bool false, σ) := by
  cases us with
  | nil => exact absurd rfl ne
  | cons u r => cases r with
    | nil => rfl
    | cons v r => cases r with
      | nil => rfl
      | cons => simp at hl
theorem normal_tail {T : List Trm} {σ : List AObj} {p : Nat} {parts : DI} {us : List Int} {cf : Int -> Int} {g b s : Int} {st : Bool} (J : JudgeR T σ) (hpp : σ[p]? = some (.id (di parts))) (h16 : 16 ≤ σ.length)
    (hS1 : ∀ ρ, ρ "parts" = some (.obj p) -> dComp ["parts"] (iSeq (dCall oSorted (dCons (dLoc "parts") dNil))) (bindN "unknown") cc_RowJudgenormal_row2 ce_RowJudgenormal_row4 ρ σ = some (.lst (us.map .int), σ))
    (hc : ∀ u ∈ us, igetO u parts = some (cf u) ∧ Mine.small (cf u) = true) (hb : d_common_bottom [.lst (us.map fun u => one_ (cf u))] σ = some (.int 1, σ)) (hg : d_gcd_all [.lst (us.map fun u => .int (cf u))] σ = some (.int g, σ)) (g0 : 0 < g) (g1 : g ≤ 2 ^ 20) (ne : us ≠ []) (hl : us.length ≤ 2) (hnd : us.Nodup) (b0 : -(2 ^ 40) ≤ b) (b1 : b ≤ 2 ^ 40)
    (hs : ∀ u ∈ us, ∀ τ, JudgeR T τ -> d_Banksort [bankV, .int u] τ = some (.int s, τ)) (s12 : s = 1 ∨ s = 2) :
    ∃ σ', A5 (d_RowJudgenormal_row [judgeV, .obj p, one_ b, .bool st] σ = some (.ins 754 (σ.length + 1), σ')) (σ'[σ.length + 1]? = some (.fld [("parts", .obj σ.length), ("bound", if s = 1 then one_ (if st then -((-b) / g) - 1 else b / g) else rt b g), ("is_strict", .bool (if s = 1 then false else st))])) (σ'[σ.length]? = some (.id (us.map fun u => (u, .int (cf u / g))))) (Fr [] σ σ') (σ'.length = σ.length + 2) := by
  have hgs : Mine.small g = true := small_pos (d := 2 ^ 20) g0 g1 (by decide)
  let ρ0 : Rho := (((rho0.set "self" judgeV).set "parts" (.obj p)).set "bound" (one_ b)).set "is_strict" (.bool st)
  let ρ1 : Rho := ρ0.set "unknowns" (.lst (us.map .int))
  let ρ2 : Rho := ρ1.set "bottom" (.int 1)
  let ρ3 : Rho := ρ2.set "wholes" (.lst (us.map fun u => .int (cf u)))
  let ρ4 : Rho := ρ3.set "divisor" (.int g)
  let ρ5 : Rho := ρ4.set "found" (.obj σ.length)
  let σ1 : List AObj := σ ++ [AObj.id []]
  have hlen : (us.map AV.int).length ≤ 1000 := by simp; omega
  have f1 : Fr [] σ σ1 := Fr.app
  have len1 : σ1.length = σ.length + 1 := by simp [σ1]
  have e1 : dsSet "unknowns" (dComp ["parts"] (iSeq (dCall oSorted (dCons (dLoc "parts") dNil))) (bindN "unknown") cc_RowJudgenormal_row2 ce_RowJudgenormal_row4) ρ0 σ = some (.next, ρ1, σ) := by
    unfold dsSet
    rw [hS1 ρ0 rfl]
    rfl
  have hun : ρ1 "unknowns" = some (.lst (us.map .int)) := rfl
  have e2 : dsIf (cVal (d2 oEq (dCall oLen (dCons (dLoc "unknowns") dNil)) (dK (.int 0)))) (dsSeq (dsRet (dCall n_Row (dCons (dEmpty (.id [])) (dCons (dLoc "bound") (dCons (dLoc "is_strict") dNil))))) dsNil) dsNil ρ1 σ = some (.next, ρ1, σ) := by
    have hlz : ((us.length : Int) == 0) = false := by
      have : us.length ≠ 0 := fun q => ne (List.length_eq_zero_iff.mp q)
      simp; omega
    have ol : oLen [.lst (us.map .int)] σ = some (.int us.length, σ) := by
      unfold oLen lenV
      simp
      omega
    exists hun, ol, oEq_int, hlz
  have e3 : dsSet "bottom" (dCall d_common_bottom (dCons (dComp ["parts"] (iSeq (dLoc "unknowns")) (bindN "unknown") cTrue ce_RowJudgenormal_row3) dNil)) ρ1 σ = some (.next, ρ2, σ) := by
    have hi : iSeq (dLoc "unknowns") ρ1 σ = some (us.map .int, none, σ) := iSeq_lst (by (exists hun; done)) hlen
    have hc3 : dComp ["parts"] (iSeq (dLoc "unknowns")) (bindN "unknown") cTrue ce_RowJudgenormal_row3 ρ1 σ = some (.lst (us.map fun u => one_ (cf u)), σ) := by
      rw [dComp_pure (pr := fun V => true) (f := fun v => match v with | .int u => one_ (cf u) | v => v) hi hlen (fun v hv => ?_)]
      · rw [List.filter_eq_self.mpr (fun V V => rfl), List.map_map]; rfl
      · obtain ⟨u, hu, rfl⟩ := List.mem_map.mp hv
        refine ⟨_, rfl, rfl, fun V => ?_⟩
        have cp : captL ["parts"] ρ1 "parts" = some (.obj p) := rfl
        unfold ce_RowJudgenormal_row3
        exists cp, get_di hpp (hc u hu).1
    exists hc3, hb
  have e4 : dsSet "wholes" (dComp ["bottom", "parts"] (iSeq (dLoc "unknowns")) (bindN "unknown") cTrue ce_RowJudgenormal_row2) ρ2 σ = some (.next, ρ3, σ) := by
    have hi : iSeq (dLoc "unknowns") ρ2 σ = some (us.map .int, none, σ) := iSeq_lst (by (exists trivial; done)) hlen
    have hc4 : dComp ["bottom", "parts"] (iSeq (dLoc "unknowns")) (bindN "unknown") cTrue ce_RowJudgenormal_row2 ρ2 σ = some (.lst (us.map fun u => .int (cf u)), σ) := by
      rw [dComp_pure (pr := fun V => true) (f := fun v => match v with | .int u => .int (cf u) | v => v) hi hlen (fun v hv => ?_)]
      · rw [List.filter_eq_self.mpr (fun V V => rfl), List.map_map]; rfl
      · obtain ⟨u, hu, rfl⟩ := List.mem_map.mp hv
        refine ⟨_, rfl, rfl, fun V => ?_⟩
        have cp : captL ["bottom", "parts"] ρ2 "parts" = some (.obj p) := rfl
        have cb : captL ["bottom", "parts"] ρ2 "bottom" = some (.int 1) := rfl
        have g0' : ∀ c τ, oGet (one_ c) (.int 0) τ = some (.int c, τ) := fun c τ => by unfold oGet; rw [getV0]; rfl
        unfold ce_RowJudgenormal_row2
        simp [d2, dCall, dCons, dNil, dTup, dLoc, dK, Rho.set, cp, cb, get_di hpp (hc u hu).1, mul_aux1 (hc u hu).2, g0']
    exists hc4
  have e5 : dsSet "divisor" (dCall d_gcd_all (dCons (dLoc "wholes") dNil)) ρ3 σ = some (.next, ρ4, σ) := by
    have : ρ3 "wholes" = some (.lst (us.map fun u => .int (cf u))) := rfl
    exists this, hg
  have e6 : dsSet "found" (dEmpty (.id [])) ρ4 σ = some (.next, ρ5, σ1) := by
    exists σ1
  have hf0 : σ1[σ.length]? = some (.id []) := List.getElem?_concat_length
  obtain ⟨ρ6, σ2, w1, w2, w3, w4, w5⟩ := for_found (cf := cf) g0 hgs us [] ρ5 σ1 rfl rfl hf0 (fun V V => rfl) hnd (by simp; omega)
  have e7 : dsFor (iZip (dLoc "unknowns") (dLoc "wholes")) (bindT ["unknown", "number"]) fb_RowJudgenormal_row1 ρ5 σ1 = some (.next, ρ6, σ2) := by
    refine dsFor_run (xs := us.map fun u => .tup [.int u, .int (cf u)]) ?_ w1
    rw [iZip_lst (xs := us.map .int) (ys := us.map fun u => .int (cf u)) (by (exists trivial; done)) (by (exists trivial; done))]
    rw [zip_same]
  have f2 : Fr [] σ σ2 := ⟨by rw [w4, len1]; omega, fun i hi V => (w3.eq i (by rw [len1]; omega) (by simp; omega)).trans (f1.eq i hi (by simp))⟩
  have J2 : JudgeR T σ2 := J.fr f2 (fun i q => by cases q)
  have r6 : ∀ z, z ≠ "unknown" -> z ≠ "number" -> ρ6 z = ρ5 z := w5
  let ρ7 : Rho := ρ6.set "bound" (rt b g)
  have e8 : dsSet "bound" (dCall d_mul (dCons (dLoc "bound") (dCons (dCall d_ratio (dCons (dLoc "bottom") (dCons (dLoc "divisor") dNil))) dNil))) ρ6 σ2 = some (.next, ρ7, σ2) := by
    have k1 : ρ6 "bound" = some (one_ b) := by rw [r6 _ (by decide) (by decide)]; rfl
    have k2 : ρ6 "bottom" = some (.int 1) := by rw [r6 _ (by decide) (by decide)]; rfl
    have k3 : ρ6 "divisor" = some (.int g) := by rw [r6 _ (by decide) (by decide)]; rfl
    have er : d_ratio [.int 1, .int g] σ2 = some (rt 1 g, σ2) := e_ratio g0 (by omega)
    have em : d_mul [one_ b, rt 1 g] σ2 = some (rt b g, σ2) := by
      have := e_mul (a := b) (b := 1) (c := 1) (d := g) (σ := σ2) ⟨by decide, by decide, b0, b1⟩ ⟨g0, g1, by decide, by decide⟩
      rw [rt_one, Int.mul_one, Int.one_mul] at this
      exact this
    exists k1, k2, k3, er, em
  have s7 : ∀ z, z ≠ "unknown" -> z ≠ "number" -> z ≠ "bound" -> ρ7 z = ρ5 z := fun z h1 h2 h3 => by
    show (if z = "bound" then _ else ρ6 z) = _
    rw [if_neg h3, r6 z h1 h2]
  have hcomp : dComp ["self"] (iSeq (dLoc "unknowns")) (bindN "unknown") cc_RowJudgenormal_row1 ce_RowJudgenormal_row1 ρ7 σ2 = some (.lst (if s = 1 then [] else us.map .int), σ2) := by
    have hi : iSeq (dLoc "unknowns") ρ7 σ2 = some (us.map .int, none, σ2) := iSeq_lst (by unfold dLoc; rw [s7 _ (by decide) (by decide) (by decide)]; rfl) hlen
    rw [dComp_pure (pr := fun V => s != 1) (f := fun v => v) hi hlen (fun v hv => ?_)]
    · rcases s12 with q | q <;> subst q <;> simp
    · obtain ⟨u, hu, rfl⟩ := List.mem_map.mp hv
      have cs : captL ["self"] ρ7 "self" = some judgeV := by
        have : ρ7 "self" = some judgeV := by rw [s7 _ (by decide) (by decide) (by decide)]; rfl
        simp [captL, this]
      refine ⟨_, rfl, ?_, fun V => ?_⟩
      · unfold cc_RowJudgenormal_row1
        exists cs, J2.attr, J2.bank.own (m := "sort") (by rfl), hs u hu σ2 J2, oNe_int
      · unfold ce_RowJudgenormal_row1
        exists trivial
  have kb : ρ7 "bound" = some (rt b g) := rfl
  have kf : ρ7 "found" = some (.obj σ.length) := by rw [s7 _ (by decide) (by decide) (by decide)]; rfl
  have kst : ρ7 "is_strict" = some (.bool st) := by rw [s7 _ (by decide) (by decide) (by decide)]; rfl
  have hbr : bindRho ["self", "parts", "bound", "is_strict"] [judgeV, .obj p, one_ b, .bool st] rho0 = some ρ0 := rfl
  have hlast : ∀ fs, (σ2 ++ [AObj.fld fs])[σ.length + 1]? = some (.fld fs) := fun fs => by
    have : (σ2 ++ [AObj.fld fs])[σ2.length]? = some (.fld fs) := List.getElem?_concat_length
    rw [w4, len1] at this
    exact this
  have hfound : ∀ fs, (σ2 ++ [AObj.fld fs])[σ.length]? = some (.id (us.map fun u => (u, .int (cf u / g)))) := fun fs => by
    rw [List.getElem?_append_left (by rw [w4, len1]; omega), w2]; simp
  have hfr : ∀ fs, Fr [] σ (σ2 ++ [AObj.fld fs]) := fun fs => f2.trans Fr.app
  have hlen3 : ∀ fs, (σ2 ++ [AObj.fld fs]).length = σ.length + 2 := fun fs => by simp [w4, len1]
  have l2 : σ2.length = σ.length + 1 := by rw [w4, len1]
  have nr : ∀ a b c, n_Row [a, b, c] σ2 = some (.ins 754 (σ.length + 1), σ2 ++ [.fld [("parts", a), ("bound", b), ("is_strict", c)]]) := fun a b c => by rw [← l2]; exact e_newRow
  unfold d_RowJudgenormal_row b_RowJudgenormal_row
  rcases s12 with q | q
  · subst q
    obtain ⟨k, b', g', k0, g0', eb, eg, er, _, _⟩ := rt_parts (n := b) g0
    have hsg' : Mine.small g' = true := (fun h => small_of h.1 h.2) (part_le60 k0 eg (by omega) (by omega))
    have fl : d_floor_of [rt b g] σ2 = some (.int (b / g), σ2) := by
      rw [er, e_floor g0' hsg', eb, eg, Int.mul_ediv_mul_of_pos _ _ k0]
    have ce : d_ceil_of [rt b g] σ2 = some (.int (-((-b) / g)), σ2) := by
      rw [er, e_ceil g0' hsg', eb, eg, ← Int.mul_neg, Int.mul_ediv_mul_of_pos _ _ k0]
    have heq : oEq (.lst []) (.lst []) σ2 = some (.bool true, σ2) := rfl
    refine ⟨σ2 ++ [.fld [("parts", .obj σ.length), ("bound", one_ (if st then -((-b) / g) - 1 else b / g)), ("is_strict", .bool false)]], ?_, by rw [hlast]; simp, hfound _, hfr _, hlen3 _⟩
    rw [if_pos rfl] at hcomp
    cases st with
    | true => exists e1, e2, e3, e4, e5, e6, e7, e8, hcomp, heq, kst, kb, kf, ce, nr _ _ _
    | false => exists e1, e2, e3, e4, e5, e6, e7, e8, hcomp, heq, kst, kb, kf, fl, nr _ _ _
  · subst q
    have heq : oEq (.lst (us.map .int)) (.lst []) σ2 = some (.bool false, σ2) := not_nil ne hl
    refine ⟨σ2 ++ [.fld [("parts", .obj σ.length), ("bound", rt b g), ("is_strict", .bool st)]], ?_, by rw [hlast]; simp, hfound _, hfr _, hlen3 _⟩
    rw [if_neg (by decide)] at hcomp
    exists e1, e2, e3, e4, e5, e6, e7, e8, hcomp, heq, kst, kb, kf, nr _ _ _
end
section
noncomputable def nm (n g : Int) : Int := if g = 0 then n else n / g
noncomputable def nb (spot g b : Int) (st : Bool) : Int := if g = 0 then 12 * b else if spot = 1 then 12 * b / g else 12 * (if st then -((-b) / g) - 1 else b / g)
noncomputable def nst (spot g : Int) (st : Bool) : Bool := if g = 0 then st else if spot = 1 then st else false
noncomputable def rowKv (x y m0 m1 : Int) : List (Int × AV) := (live x y m0 m1).map fun u => (u, .int (if u = x then m0 else m1))
structure RowIs (lo : Nat) (σ : List AObj) (r : Nat) (x y m0 m1 B : Int) (st : Bool) : Prop where
  ex : ∃ q, A5 (σ[r]? = some (.fld [("parts", .obj q), ("bound", rt B 12), ("is_strict", .bool st)])) (σ[q]? = some (.id (rowKv x y m0 m1))) (lo ≤ q) (lo ≤ r) (q ≠ r)
theorem RowIs.mono {lo lo' : Nat} {σ : List AObj} {r : Nat} {x y m0 m1 B : Int} {st : Bool} (h : RowIs lo σ r x y m0 m1 B st) (q : lo' ≤ lo) : RowIs lo' σ r x y m0 m1 B st := by
  obtain ⟨a, h1, h2, h3, h4, h5⟩ := h.ex
  exact ⟨a, h1, h2, by omega, by omega, h5⟩
theorem g2_zero : g2 0 0 = 0 := rfl
theorem g2_pos2 {a b : Int} (h : a ≠ 0 ∨ b ≠ 0) : 0 < g2 a b := by
  have : Int.gcd a b ≠ 0 := fun q => by rw [Int.gcd_eq_zero_iff] at q; omega
  show (0 : Int) < ((Int.gcd a b : Nat) : Int)
  omega
theorem g2_dvd1 {a b : Int} : g2 a b ∣ a := Int.gcd_dvd_left _ _
theorem g2_dvd2 {a b : Int} : g2 a b ∣ b := Int.gcd_dvd_right _ _
theorem dvd_bound {g a : Int} (hg : 0 < g) (h : g ∣ a) (ha : a ≠ 0) (h1 : -4 ≤ a) (h2 : a ≤ 4) : g ≤ 4 := by
  rcases Int.lt_or_le a 0 with q | q
  · have := Int.le_of_dvd (a := g) (b := -a) (by omega) (Int.dvd_neg.mpr h)
    omega
  · have := Int.le_of_dvd (a := g) (b := a) (by omega) h
    omega
theorem g2_le4 {a b : Int} (h : a ≠ 0 ∨ b ≠ 0) (a1 : -4 ≤ a) (a2 : a ≤ 4) (b1 : -4 ≤ b) (b2 : b ≤ 4) : g2 a b ≤ 4 := by
  rcases h with h | h
  · exact dvd_bound (g2_pos2 (.inl h)) g2_dvd1 h a1 a2
  · exact dvd_bound (g2_pos2 (.inr h)) g2_dvd2 h b1 b2
theorem div_ne {g a : Int} (hg : 0 < g) (h : g ∣ a) (ha : a ≠ 0) : a / g ≠ 0 := by
  intro q
  obtain ⟨k, rfl⟩ := h
  rw [Int.mul_ediv_cancel_left _ (by omega)] at q
  subst q
  simp at ha
theorem g2_swap0 {a : Int} : g2 0 a = g2 a 0 := by unfold g2; rw [Int.gcd_comm]
theorem live_div {x y n0 n1 : Int} : live x y (nm n0 (g2 n0 n1)) (nm n1 (g2 n0 n1)) = live x y n0 n1 := by
  by_cases h : n0 = 0 ∧ n1 = 0
  · obtain ⟨rfl, rfl⟩ := h; rfl
  · have hh : n0 ≠ 0 ∨ n1 ≠ 0 := by omega
    have hg := g2_pos2 hh
    have hg0 : ¬ g2 n0 n1 = 0 := by omega
    unfold live nm
    simp only [if_neg hg0]
    congr 1
    · by_cases q : n0 = 0
      · rw [q]; simp
      · rw [if_pos q, if_pos (div_ne hg g2_dvd1 q)]
    · by_cases q : n1 = 0
      · rw [q]; simp
      · rw [if_pos q, if_pos (div_ne hg g2_dvd2 q)]
theorem live_mem {x y n0 n1 u : Int} (h : u ∈ live x y n0 n1) : (u = x ∧ n0 ≠ 0) ∨ (u = y ∧ n1 ≠ 0) := by
  unfold live at h
  rcases List.mem_append.mp h with q | q
  · split at q
    · exact .inl ⟨List.mem_singleton.mp q, by assumption⟩
    · cases q
  · split at q
    · exact .inr ⟨List.mem_singleton.mp q, by assumption⟩
    · cases q
theorem one_rt {n : Int} : one_ n = rt (12 * n) 12 := by
  have := rt_scale (k := 12) (n := n) (d := 1) (by decide)
  rw [Int.mul_one, rt_one] at this
  exact this.symm
theorem rt_12 {b g : Int} (h : g = 1 ∨ g = 2 ∨ g = 3 ∨ g = 4) : rt b g = rt (12 * b / g) 12 := by
  have key : ∀ k : Int, 0 < k -> k * g = 12 -> rt b g = rt (12 * b / g) 12 := fun k hk e => by
    have g0 : g ≠ 0 := by omega
    rw [show 12 * b / g = k * b by rw [← e, Int.mul_assoc, Int.mul_comm g b, ← Int.mul_assoc, Int.mul_ediv_cancel _ g0]]
    rw [show rt (k * b) 12 = rt (k * b) (k * g) by rw [e]]
    exact (rt_scale hk).symm
  rcases h with rfl | rfl | rfl | rfl
  · exact key 12 (by decide) rfl
  · exact key 6 (by decide) rfl
  · exact key 4 (by decide) rfl
  · exact key 3 (by decide) rfl
theorem iget_some {k m : Int} {l : DI} (h : iget k l = m) (hm : m ≠ 0) : igetO k l = some m := by
  unfold iget at h
  cases e : igetO k l with
  | none => rw [e] at h; exact absurd h.symm hm
  | some v => rw [e] at h; simp at h; rw [h]
theorem e_normal {T : List Trm} {σ : List AObj} {p : Nat} {parts : DI} {x y n0 n1 b spot : Int} {st : Bool} (J : JudgeR T σ) (hpp : σ[p]? = some (.id (di parts))) (h16 : 16 ≤ σ.length) (hxy : x < y) (hn : (keys parts).Nodup) (hsub : ∀ u ∈ keys parts, u = x ∨ u = y) (h0 : iget x parts = n0) (h1 : iget y parts = n1)
    (a1 : -4 ≤ n0) (a2 : n0 ≤ 4) (b1 : -4 ≤ n1) (b2 : n1 ≤ 4) (c1 : -100 ≤ b) (c2 : b ≤ 100) (hsp : spot = 0 ∨ spot = 1) (hs : ∀ u, (u = x ∨ u = y) -> ∀ τ, JudgeR T τ -> d_Banksort [bankV, .int u] τ = some (.int (1 + spot), τ)) :
    X2 fun σ' r => A3 (d_RowJudgenormal_row [judgeV, .obj p, one_ b, .bool st] σ = some (.ins 754 r, σ')) (RowIs σ.length σ' r x y (nm n0 (g2 n0 n1)) (nm n1 (g2 n0 n1)) (nb spot (g2 n0 n1) b st) (nst spot (g2 n0 n1) st)) (Fr [] σ σ') := by
  by_cases hz : n0 = 0 ∧ n1 = 0
  · obtain ⟨rfl, rfl⟩ := hz
    have hl : live x y 0 0 = [] := rfl
    let ρ0 : Rho := (((rho0.set "self" judgeV).set "parts" (.obj p)).set "bound" (one_ b)).set "is_strict" (.bool st)
    have e1 := comp_live (ρ := ρ0) rfl hpp hxy hn hsub h0 h1
    rw [hl] at e1
    have ol : oLen [.lst []] σ = some (.int 0, σ) := by unfold oLen lenV; simp
    refine ⟨σ ++ [AObj.id []] ++ [.fld [("parts", .obj σ.length), ("bound", one_ b), ("is_strict", .bool st)]], σ.length + 1, ?_, ⟨σ.length, ?_, ?_, Nat.le_refl _, by omega, by omega⟩, Fr.app.trans Fr.app⟩
    · have hbr : bindRho ["self", "parts", "bound", "is_strict"] [judgeV, .obj p, one_ b, .bool st] rho0 = some ρ0 := rfl
      have r1 : ρ0 "bound" = some (one_ b) := rfl
      have r2 : ρ0 "is_strict" = some (.bool st) := rfl
      have nr := e_newRow (pv := .obj σ.length) (bv := one_ b) (sv := .bool st) (σ := σ ++ [AObj.id []])
      unfold d_RowJudgenormal_row b_RowJudgenormal_row
      have z : ∀ ρ, dEmpty (.id []) ρ σ = some (.obj σ.length, σ ++ [AObj.id []]) := fun V => rfl
      have l1 : (σ ++ [AObj.id []]).length = σ.length + 1 := List.length_append
      rw [l1] at nr
      exists e1, ol, ev_eqT rfl, z _, r1, r2, nr
    · have : (σ ++ [AObj.id []] ++ [AObj.fld [("parts", .obj σ.length), ("bound", one_ b), ("is_strict", .bool st)]])[(σ ++ [AObj.id []]).length]? = some (.fld [("parts", .obj σ.length), ("bound", one_ b), ("is_strict", .bool st)]) := List.getElem?_concat_length
      simp only [List.length_append, List.length_singleton] at this
      rw [this, g2_zero]
      unfold nb nst
      rw [if_pos rfl, if_pos rfl, one_rt]
    · rw [List.getElem?_append_left (by simp), List.getElem?_concat_length]; rfl
  · have hh : n0 ≠ 0 ∨ n1 ≠ 0 := by omega
    have hg := g2_pos2 hh
    have hg4 := g2_le4 hh a1 a2 b1 b2
    have hus : ∀ u ∈ live x y n0 n1, igetO u parts = some (iget u parts) ∧ Mine.small (iget u parts) = true := fun u hu => by
      rcases live_mem hu with ⟨rfl, q⟩ | ⟨rfl, q⟩
      · rw [h0]; exact ⟨iget_some h0 q, small_of (by omega) (by omega)⟩
      · rw [h1]; exact ⟨iget_some h1 q, small_of (by omega) (by omega)⟩
    have hgs : d_common_bottom [.lst ((live x y n0 n1).map fun u => one_ (iget u parts))] σ = some (.int 1, σ) ∧ d_gcd_all [.lst ((live x y n0 n1).map fun u => .int (iget u parts))] σ = some (.int (g2 n0 n1), σ) ∧ live x y n0 n1 ≠ [] ∧ (live x y n0 n1).length ≤ 2 ∧ (live x y n0 n1).Nodup := by
      by_cases q0 : n0 = 0
      · have q1 : n1 ≠ 0 := by omega
        have e : live x y n0 n1 = [y] := by unfold live; rw [if_neg (by omega), if_pos q1]; rfl
        rw [e]
        refine ⟨bottom1, ?_, by simp, by simp, by simp⟩
        rw [show [y].map (fun u => AV.int (iget u parts)) = [.int n1] by rw [← h1]; rfl, q0]
        exact gcd_all1 e_gcd2
      · by_cases q1 : n1 = 0
        · have e : live x y n0 n1 = [x] := by unfold live; rw [if_pos q0, if_neg (by omega)]; rfl
          rw [e]
          refine ⟨bottom1, ?_, by simp, by simp, by simp⟩
          rw [show [x].map (fun u => AV.int (iget u parts)) = [.int n0] by rw [← h0]; rfl, q1, ← g2_swap0]
          exact gcd_all1 e_gcd2
        · have e : live x y n0 n1 = [x, y] := by unfold live; rw [if_pos q0, if_pos q1]; rfl
          rw [e]
          refine ⟨bottom2, ?_, by simp, by simp, by simp; omega⟩
          rw [show [x, y].map (fun u => AV.int (iget u parts)) = [.int n0, .int n1] by rw [← h0, ← h1]; rfl]
          have ge : g2 (g2 0 n0) n1 = g2 n0 n1 := by
            show (((Int.gcd ((Int.gcd 0 n0 : Nat) : Int) n1) : Nat) : Int) = ((Int.gcd n0 n1 : Nat) : Int)
            rw [Int.gcd_zero_left]
            rfl
          refine gcd_all2 e_gcd2 (by rw [← ge]; exact e_gcd2) fun q => ?_
          rw [← ge, q]
          unfold g2
          rw [Int.gcd_one_left]; rfl
    obtain ⟨w1, w2, w3, w4, w5⟩ := hgs
    obtain ⟨σ', v1, v2, v3, v4, v5⟩ := normal_tail (us := live x y n0 n1) (cf := fun u => iget u parts) (g := g2 n0 n1) (b := b) (s := 1 + spot) (st := st) J hpp h16 (fun ρ hρ => comp_live hρ hpp hxy hn hsub h0 h1) hus w1 w2 hg (by omega) w3 w4 w5 (by omega) (by omega) (fun u hu => hs u (by rcases live_mem hu with ⟨q, _⟩ | ⟨q, _⟩ <;> omega)) (by omega)
    have hg0 : ¬ g2 n0 n1 = 0 := by omega
    refine ⟨σ', σ.length + 1, v1, ⟨σ.length, ?_, ?_, by omega, by omega, by omega⟩, v4⟩
    · rw [v2]
      unfold nb nst
      rw [if_neg hg0, if_neg hg0]
      rcases hsp with q | q
      · subst q
        have k0 : (1 : Int) + 0 = 1 := rfl
        have k1 : ¬ ((0 : Int) = 1) := by decide
        rw [if_pos k0, if_pos k0, if_neg k1, if_neg k1, one_rt]
      · subst q
        have k0 : ¬ ((1 : Int) + 1 = 1) := by decide
        have k1 : (1 : Int) = 1 := rfl
        rw [if_neg k0, if_neg k0, if_pos k1, if_pos k1, rt_12 (by omega)]
    · rw [v3]
      unfold rowKv
      rw [live_div]
      congr 2
      refine List.map_congr_left fun u hu => ?_
      unfold nm
      rw [if_neg hg0, if_neg hg0]
      rcases live_mem hu with ⟨rfl, _⟩ | ⟨rfl, _⟩
      · rw [if_pos rfl, h0]
      · rw [if_neg (by omega), h1]
end
section
theorem get_look {d : Nat} {σ : List AObj} {l : DI} {k m : Int} (h : look σ d = some (.id (di l))) (hk : igetO k l = some m) : oGet (.obj d) (.int k) σ = some (one_ m, σ) := by
  unfold oGet getV
  dsimp only
  rw [h]
  dsimp only
  rw [di_get, hk]
  rfl
theorem look_frz {d : Nat} {σ : List AObj} {l : List (Int × AV)} (h : σ[d]? = some (.frz (.id l))) : look σ d = some (.id l) := by
  unfold look; rw [h]; rfl
theorem sub_loop {x y : Int} {p j : Nat} {less : DI} (hpj : p ≠ j) : ∀ (r parts : DI) (ρ : Rho) (σ : List AObj), ρ "parts" = some (.obj p) -> ρ "less" = some (.obj j) -> σ[p]? = some (.id (di parts)) -> σ[j]? = some (.frz (.id (di less))) -> (∀ q ∈ r, igetO q.1 less = some q.2) -> (∀ q ∈ r, q.1 = x ∨ q.1 = y) -> (keys parts).Nodup -> (∀ u ∈ keys parts, u = x ∨ u = y) ->
    X3 fun ρ' σ' parts' => A8 (forL (bindN "unknown") fb_RowJudgerow_of1 (r.map fun q => .int q.1) ρ σ = some (.next, ρ', σ')) (σ'[p]? = some (.id (di parts'))) (Fr [p] σ σ') (σ'.length = σ.length) ((keys parts').Nodup) ((∀ u ∈ keys parts', u = x ∨ u = y)) ((∀ φ, sumF φ parts' = sumF φ parts - sumF φ r)) (∀ z, z ≠ "unknown" -> ρ' z = ρ z)
  | [], parts, ρ, σ, _, _, hp, _, _, _, hn, hs => ⟨ρ, σ, parts, rfl, hp, .refl, rfl, hn, hs, fun φ => by simp [sumF], fun V V => rfl⟩
  | q :: r, parts, ρ, σ, h1, h2, hp, hj, hr, hrs, hn, hs => by
    have hq := hr q List.mem_cons_self
    have pl : p < σ.length := (List.getElem?_eq_some_iff.mp hp).1
    have l2 := two_len hn hs
    have en : d_neg [one_ q.2] σ = some (one_ (-q.2), σ) := e_neg
    have e1 : fb_RowJudgerow_of1 (ρ.set "unknown" (.int q.1)) σ = some (.next, ρ.set "unknown" (.int q.1), σ.set p (.id (di (iput q.1 (iget q.1 parts + -q.2) parts)))) := by
      unfold fb_RowJudgerow_of1
      exists h1, h2, isD_di hp, getOr_di hp, get_look (look_frz hj) hq, en, add_aux1, put_di hp (by omega : parts.length ≤ 1000)
    obtain ⟨ρ', σ', parts', w1, w2, w3, w4, w5, w6, w7, w8⟩ := sub_loop (x := x) (y := y) (less := less) hpj r (iput q.1 (iget q.1 parts + -q.2) parts) (ρ.set "unknown" (.int q.1)) (σ.set p (.id (di (iput q.1 (iget q.1 parts + -q.2) parts)))) (h1) (h2) (List.getElem?_set_self pl) (by rw [List.getElem?_set_ne hpj]; exact hj) (fun z hz => hr z (List.mem_cons_of_mem _ hz)) (fun z hz => hrs z (List.mem_cons_of_mem _ hz)) (iput_nodup hn) (fun u hu => by
      rcases iput_mem hu with z | z
      · exact hs u z
      · rw [z]; exact hrs q List.mem_cons_self)
    refine ⟨ρ', σ', parts', ?_, w2, (Fr.set (.inl (.head _))).trans w3, by rw [w4]; simp, w5, w6, fun φ => ?_, fun z hz => by rw [w8 z hz]; simp [Rho.set, hz]⟩
    · rw [List.map_cons]
      unfold forL
      simp only [bindN, Option.bind_some, e1, w1]
    · rw [w7, sum_put hn, sum_cons]
      rw [show iget q.1 parts + -q.2 - iget q.1 parts = -q.2 by omega, Int.neg_mul]
      omega
theorem notin_lt {op : String} (h : op = "<" ∨ op = "<=") {σ : List AObj} : oNotIn (.str op) (.tup [.str "<=", .str "<"]) σ = some (.bool false, σ) := by
  rcases h with rfl | rfl <;> kernel_rfl
theorem dsTup2 {x y : String} {d : Den} {ρ : Rho} {σ σ' : List AObj} {a b : AV} (h : d ρ σ = some (.tup [a, b], σ')) : dsTup [x, y] d ρ σ = some (.next, (ρ.set x a).set y b, σ') := by
  unfold dsTup
  simp only [h, Option.bind_some, bindRho]
theorem row_tail {T : List Trm} {σ : List AObj} {ρ : Rho} {x y X Y a0 a1 ka c0 c1 kc spot : Int} {st : Bool} (J : JudgeR T σ) (h16 : 16 ≤ σ.length) (hxy : x < y) (hX : Side T x y X a0 a1 ka) (hY : Side T x y Y c0 c1 kc) (rs : ρ "self" = some judgeV) (rx : ρ "x" = some (.int X)) (ry : ρ "y" = some (.int Y)) (rst : ρ "is_strict" = some (.bool st))
    (q1 : -4 ≤ a0 - c0) (q2 : a0 - c0 ≤ 4) (q3 : -4 ≤ a1 - c1) (q4 : a1 - c1 ≤ 4) (q5 : -100 ≤ kc - ka) (q6 : kc - ka ≤ 100) (hsp : spot = 0 ∨ spot = 1) (hs : ∀ u, (u = x ∨ u = y) -> ∀ τ, JudgeR T τ -> d_Banksort [bankV, .int u] τ = some (.int (1 + spot), τ)) :
    X3 fun σ' r ρ' => A3 ((dsSeq (dsTup ["parts", "constant"] (dMeth (ownOk 869 "linear") d_RowJudgelinear (dLoc "self") (dCons (dLoc "x") dNil))) (dsSeq (dsTup ["less", "more"] (dMeth (ownOk 869 "linear") d_RowJudgelinear (dLoc "self") (dCons (dLoc "y") dNil))) (dsSeq (dsFor (iDict (dLoc "less")) (bindN "unknown") fb_RowJudgerow_of1) (dsSeq (dsRet (dMeth (ownOk 869 "normal_row") d_RowJudgenormal_row (dLoc "self") (dCons (dLoc "parts") (dCons (dCall d_add (dCons (dLoc "more") (dCons (dCall d_neg (dCons (dLoc "constant") dNil)) dNil))) (dCons (dLoc "is_strict") dNil))))) dsNil)))) ρ σ = some (.ret (.ins 754 r), ρ', σ')) (RowIs σ.length σ' r x y (nm (a0 - c0) (g2 (a0 - c0) (a1 - c1))) (nm (a1 - c1) (g2 (a0 - c0) (a1 - c1))) (nb spot (g2 (a0 - c0) (a1 - c1)) (kc - ka) st) (nst spot (g2 (a0 - c0) (a1 - c1)) st)) (Fr [] σ σ') := by
  have own : ∀ {m : String} {τ : List AObj}, JudgeR T τ -> ([("bank", bankV)] : List (String × AV)).lookup m = none -> ownOk 869 m judgeV τ = true := fun {m τ} J hm => by
    unfold ownOk
    dsimp only
    rw [look_at J.tbl rfl]
    simp [hm]
  obtain ⟨σ1, p1, l1, l2, l3, l4, l5, l6, l7, l8⟩ := e_linear J hX (by omega) h16
  have J1 : JudgeR T σ1 := J.fr l3 (fun i q => by cases q)
  obtain ⟨σ2, p2, m1, m2, m3, m4, m5, m6, m7, m8⟩ := e_linear J1 hY (by omega) (by omega)
  have J2 : JudgeR T σ2 := J1.fr m3 (fun i q => by cases q)
  let ρ1 : Rho := (ρ.set "parts" (.obj σ.length)).set "constant" (one_ ka)
  let ρ2 : Rho := (ρ1.set "less" (.obj σ1.length)).set "more" (one_ kc)
  have e1 : dsTup ["parts", "constant"] (dMeth (ownOk 869 "linear") d_RowJudgelinear (dLoc "self") (dCons (dLoc "x") dNil)) ρ σ = some (.next, ρ1, σ1) := by
    refine dsTup2 ?_
    exists rs, rx, own J (m := "linear") (by rfl), l1
  have e2 : dsTup ["less", "more"] (dMeth (ownOk 869 "linear") d_RowJudgelinear (dLoc "self") (dCons (dLoc "y") dNil)) ρ1 σ1 = some (.next, ρ2, σ2) := by
    refine dsTup2 ?_
    exists rs, ry, own J1 (m := "linear") (by rfl), m1
  have pl : σ.length < σ1.length := by omega
  have hp2 : σ2[σ.length]? = some (.id (di p1)) := m3.at l2 (by simp)
  have jl : σ1.length < σ2.length := by omega
  have hpf : (σ2.set σ1.length (.frz (.id (di p2))))[σ.length]? = some (.id (di p1)) := by rw [List.getElem?_set_ne (by omega)]; exact hp2
  have hjf : (σ2.set σ1.length (.frz (.id (di p2))))[σ1.length]? = some (.frz (.id (di p2))) := List.getElem?_set_self jl
  obtain ⟨ρ3, σ3, p3, v1, v2, v3, v4, v5, v6, v7, v8⟩ := sub_loop (x := x) (y := y) (p := σ.length) (j := σ1.length) (less := p2) (by omega) p2 p1 ρ2 (σ2.set σ1.length (.frz (.id (di p2)))) rfl rfl hpf hjf (fun q hq => igetO_of_mem m5 (by rw [show q = (q.1, q.2) from rfl] at hq; exact hq)) (fun q hq => m6 q.1 (List.mem_map.mpr ⟨q, hq, rfl⟩)) l5 l6
  have hj3 : σ3[σ1.length]? = some (.frz (.id (di p2))) := v3.at hjf (by simp; omega)
  have e3 : dsFor (iDict (dLoc "less")) (bindN "unknown") fb_RowJudgerow_of1 ρ2 σ2 = some (.next, ρ3, σ3.set σ1.length (.id (di p2))) := by
    have hl : (di p2).length ≤ 1000 := by rw [di_len]; have := two_len m5 m6; omega
    have hi : iDict (dLoc "less") ρ2 σ2 = some (p2.map (fun q => AV.int q.1), some σ1.length, σ2.set σ1.length (.frz (.id (di p2)))) := by
      have k : ρ2 "less" = some (.obj σ1.length) := rfl
      unfold iDict dLoc
      simp only [k, Option.map_some, Option.bind_some, m2, if_pos hl]
      simp [di, List.map_map]
    unfold dsFor
    simp only [hi, v1, Option.bind_some]
    unfold unfrz
    simp only [hj3, Option.bind_some]
  have f4 : Fr [] σ (σ3.set σ1.length (.id (di p2))) := by
    refine ⟨by simp [v4]; omega, fun i hi V => ?_⟩
    rw [List.getElem?_set_ne (by omega), v3.eq i (by simp; omega) (by simp; omega), List.getElem?_set_ne (by omega), m3.eq i (by omega) (by simp), l3.eq i hi (by simp)]
  have J4 : JudgeR T (σ3.set σ1.length (.id (di p2))) := J.fr f4 (fun i q => by cases q)
  have hp4 : (σ3.set σ1.length (.id (di p2)))[σ.length]? = some (.id (di p3)) := by rw [List.getElem?_set_ne (by omega)]; exact v2
  have gx : iget x p3 = a0 - c0 := by
    rw [← sum_delta v5, v7, sum_delta l5, sum_delta m5, l7, m7]
  have gy : iget y p3 = a1 - c1 := by
    rw [← sum_delta v5, v7, sum_delta l5, sum_delta m5, l8, m8]
  obtain ⟨σ5, r, w1, w2, w3⟩ := e_normal (b := kc - ka) (spot := spot) (st := st) J4 hp4 (by simp [v4]; omega) hxy v5 v6 gx gy q1 q2 q3 q4 q5 q6 hsp hs
  refine ⟨σ5, r, ρ3, ?_, w2.mono (by simp [v4]; omega), f4.trans w3⟩
  have k1 : ρ3 "self" = some judgeV := by rw [v8 _ (by decide)]; simp [ρ2, ρ1, Rho.set, rs]
  have k2 : ρ3 "parts" = some (.obj σ.length) := by rw [v8 _ (by decide)]; rfl
  have k3 : ρ3 "more" = some (one_ kc) := by rw [v8 _ (by decide)]; rfl
  have k4 : ρ3 "constant" = some (one_ ka) := by rw [v8 _ (by decide)]; rfl
  have k5 : ρ3 "is_strict" = some (.bool st) := by rw [v8 _ (by decide)]; simp [ρ2, ρ1, Rho.set, rst]
  have en : d_neg [one_ ka] (σ3.set σ1.length (.id (di p2))) = some (one_ (-ka), (σ3.set σ1.length (.id (di p2)))) := e_neg
  have ea : d_add [one_ kc, one_ (-ka)] (σ3.set σ1.length (.id (di p2))) = some (one_ (kc - ka), (σ3.set σ1.length (.id (di p2)))) := by rw [add_aux1]; rfl
  exists e1, e2, e3, k1, k2, k3, k4, k5, own J4 (m := "normal_row") (by rfl), en, ea, w1
theorem e_row_of {T : List Trm} {σ : List AObj} {t : Nat} {e : Trm} {x y l r c a0 a1 ka c0 c1 kc spot : Int} (J : JudgeR T σ) (h16 : 16 ≤ σ.length) (hxy : x < y) (he : T[t]? = some e) (hop : e.op = "<" ∨ e.op = "<=") (hargs : e.args = [l, r]) (hl : Side T x y l a0 a1 ka) (hr : Side T x y r c0 c1 kc) (ht : 0 < t) (hc : c = (t : Int) ∨ c = -(t : Int))
    (q1 : -4 ≤ a0 - c0) (q2 : a0 - c0 ≤ 4) (q3 : -4 ≤ a1 - c1) (q4 : a1 - c1 ≤ 4) (q5 : -100 ≤ kc - ka) (q6 : kc - ka ≤ 100) (hsp : spot = 0 ∨ spot = 1) (hs : ∀ u, (u = x ∨ u = y) -> ∀ τ, JudgeR T τ -> d_Banksort [bankV, .int u] τ = some (.int (1 + spot), τ)) :
    X2 fun σ' ρr => A3 (d_RowJudgerow_of [judgeV, .int c] σ = some (.ins 754 ρr, σ')) (Fr [] σ σ') (RowIs σ.length σ' ρr x y (nm (if 0 < c then a0 - c0 else c0 - a0) (g2 (if 0 < c then a0 - c0 else c0 - a0) (if 0 < c then a1 - c1 else c1 - a1))) (nm (if 0 < c then a1 - c1 else c1 - a1) (g2 (if 0 < c then a0 - c0 else c0 - a0) (if 0 < c then a1 - c1 else c1 - a1))) (nb spot (g2 (if 0 < c then a0 - c0 else c0 - a0) (if 0 < c then a1 - c1 else c1 - a1)) (if 0 < c then kc - ka else ka - kc) (if 0 < c then decide (e.op = "<") else !decide (e.op = "<"))) (nst spot (g2 (if 0 < c then a0 - c0 else c0 - a0) (if 0 < c then a1 - c1 else c1 - a1)) (if 0 < c then decide (e.op = "<") else !decide (e.op = "<")))) := by
  let ρ0 : Rho := (rho0.set "self" judgeV).set "one" (.int c)
  let ρ1 : Rho := ((((ρ0.set "t" (.int t)).set "is_strict" (.bool (decide (e.op = "<")))).set "x" (.int l)).set "y" (.int r))
  have ab : (if c < 0 then -c else c) = (t : Int) := by split <;> omega
  have eo := J.bank.e_op he
  have ea := J.bank.e_args he
  rw [hargs] at ea
  have own : ∀ {m : String}, bankF.lookup m = none -> ownOk 705 m bankV σ = true := J.bank.own
  have head : ∀ {R : DenS}, (dsSeq (dsSet "t" (dCall oAbs (dCons (dLoc "one") dNil))) (dsSeq (dsIf (cVal (d2 oNotIn (dMeth (ownOk 705 "op") d_Bankop (d1 (oAttr 869 "bank") (dLoc "self")) (dCons (dLoc "t") dNil)) (dTup (dCons (dK (.str "<=")) (dCons (dK (.str "<")) dNil))))) (dsSeq (dsRet (dK .none)) dsNil) dsNil) (dsSeq (dsSet "is_strict" (d2 oEq (dMeth (ownOk 705 "op") d_Bankop (d1 (oAttr 869 "bank") (dLoc "self")) (dCons (dLoc "t") dNil)) (dK (.str "<")))) (dsSeq (dsTup ["x", "y"] (dMeth (ownOk 705 "args") d_Bankargs (d1 (oAttr 869 "bank") (dLoc "self")) (dCons (dLoc "t") dNil))) R)))) ρ0 σ = R ρ1 σ := by
    intro R
    have e4 : dsTup ["x", "y"] (dMeth (ownOk 705 "args") d_Bankargs (d1 (oAttr 869 "bank") (dLoc "self")) (dCons (dLoc "t") dNil)) ((ρ0.set "t" (.int t)).set "is_strict" (.bool (decide (e.op = "<")))) σ = some (.next, ρ1, σ) := by
      refine dsTup2 ?_
      exists J.attr, own (m := "args") (by rfl), ea
    have e1 : dsSet "t" (dCall oAbs (dCons (dLoc "one") dNil)) ρ0 σ = some (.next, ρ0.set "t" (.int t), σ) := by
      exists oAbs_int ab
    have e2 : dsIf (cVal (d2 oNotIn (dMeth (ownOk 705 "op") d_Bankop (d1 (oAttr 869 "bank") (dLoc "self")) (dCons (dLoc "t") dNil)) (dTup (dCons (dK (.str "<=")) (dCons (dK (.str "<")) dNil))))) (dsSeq (dsRet (dK .none)) dsNil) dsNil (ρ0.set "t" (.int t)) σ = some (.next, ρ0.set "t" (.int t), σ) := by
      exists J.attr, own (m := "op") (by rfl), eo, notin_lt hop
    have e3 : dsSet "is_strict" (d2 oEq (dMeth (ownOk 705 "op") d_Bankop (d1 (oAttr 869 "bank") (dLoc "self")) (dCons (dLoc "t") dNil)) (dK (.str "<"))) (ρ0.set "t" (.int t)) σ = some (.next, (ρ0.set "t" (.int t)).set "is_strict" (.bool (decide (e.op = "<"))), σ) := by
      exists J.attr, own (m := "op") (by rfl), eo, oEq_str
    exists e1, e2, e3, e4
  have hb : bindRho ["self", "one"] [judgeV, .int c] rho0 = some ρ0 := rfl
  have k1 : ρ1 "one" = some (.int c) := rfl
  by_cases hpos : 0 < c
  · obtain ⟨σ', rr, ρ', w1, w2, w3⟩ := row_tail (ρ := ρ1) (st := decide (e.op = "<")) J h16 hxy hl hr rfl rfl rfl rfl q1 q2 q3 q4 q5 q6 hsp hs
    simp only [if_pos hpos]
    refine ⟨σ', rr, ?_, w3, w2⟩
    have hlt : decide (c < 0) = false := by simp; omega
    have e5 : dsIf (cVal (d2 oLt (dLoc "one") (dK (.int 0)))) (dsSeq (dsTupR ["x", "y", "is_strict"] (dTup (dCons (dLoc "y") (dCons (dLoc "x") (dCons (d1 oNot (dLoc "is_strict")) dNil))))) dsNil) dsNil ρ1 σ = some (.next, ρ1, σ) := by
      exists k1, ev_ltF (by omega : ¬ c < 0)
    refine ev_fun (ρ1 := ρ') hb ?_
    unfold b_RowJudgerow_of
    refine head.trans ?_
    exact evs_seq e5 w1
  · have hneg : c < 0 := by omega
    let ρ2 : Rho := ((ρ1.set "is_strict" (.bool (!decide (e.op = "<")))).set "y" (.int l)).set "x" (.int r)
    obtain ⟨σ', rr, ρ', w1, w2, w3⟩ := row_tail (ρ := ρ2) (st := !decide (e.op = "<")) J h16 hxy hr hl rfl rfl rfl rfl (by omega) (by omega) (by omega) (by omega) (by omega) (by omega) hsp hs
    simp only [if_neg hpos]
    refine ⟨σ', rr, ?_, w3, w2⟩
    have hlt : decide (c < 0) = true := by simp; omega
    have k2 : ρ1 "x" = some (.int l) := rfl
    have k3 : ρ1 "y" = some (.int r) := rfl
    have k4 : ρ1 "is_strict" = some (.bool (decide (e.op = "<"))) := rfl
    have e6 : dsTupR ["x", "y", "is_strict"] (dTup (dCons (dLoc "y") (dCons (dLoc "x") (dCons (d1 oNot (dLoc "is_strict")) dNil)))) ρ1 σ = some (.next, ρ2, σ) := by
      exists k2, k3, k4, oNot
    have e5 : dsIf (cVal (d2 oLt (dLoc "one") (dK (.int 0)))) (dsSeq (dsTupR ["x", "y", "is_strict"] (dTup (dCons (dLoc "y") (dCons (dLoc "x") (dCons (d1 oNot (dLoc "is_strict")) dNil))))) dsNil) dsNil ρ1 σ = some (.next, ρ2, σ) := by
      exists k1, oLt_int, hlt, e6
    refine ev_fun (ρ1 := ρ') hb ?_
    unfold b_RowJudgerow_of
    refine head.trans ?_
    exact evs_seq e5 w1
end
section
def Wf (T : List Trm) : Prop := ∀ (i : Nat) (e : Trm), T[i]? = some e -> ∀ a ∈ e.args, a < (i : Int)
structure Grown (T T' : List Trm) (σ σ' : List AObj) (n : Nat) : Prop where
  bank : BankR T' σ'
  ext : ∃ x, T' = T ++ x ∧ x.length ≤ n
  fr : Fr [5, 6, 7, 8, 9] σ σ'
  wf : Wf T'
  ln : σ'.length = σ.length
theorem Grown.refl {T : List Trm} {σ : List AObj} (h : BankR T σ) (w : Wf T) {n : Nat} : Grown T T σ σ n := ⟨h, ⟨[], by simp, by simp⟩, .refl, w, rfl⟩
theorem Grown.trans {T T' T'' : List Trm} {σ σ' σ'' : List AObj} {n m : Nat} (h : Grown T T' σ σ' n) (h' : Grown T' T'' σ' σ'' m) : Grown T T'' σ σ'' (n + m) := by
  obtain ⟨x, rfl, hx⟩ := h.ext
  obtain ⟨y, rfl, hy⟩ := h'.ext
  exact ⟨h'.bank, ⟨x ++ y, by simp, by simp; omega⟩, h.fr.trans h'.fr, h'.wf, h'.ln.trans h.ln⟩
theorem Grown.le {T T' : List Trm} {σ σ' : List AObj} {n : Nat} (h : Grown T T' σ σ' n) : T'.length ≤ T.length + n := by
  obtain ⟨x, rfl, hx⟩ := h.ext; simp; omega
theorem Grown.at {T T' : List Trm} {σ σ' : List AObj} {n : Nat} (h : Grown T T' σ σ' n) {t : Nat} {e : Trm} (ht : T[t]? = some e) : T'[t]? = some e := by
  obtain ⟨x, rfl, _⟩ := h.ext
  rw [List.getElem?_append_left (List.getElem?_eq_some_iff.mp ht).1]; exact ht
theorem Grown.of_make {T T' : List Trm} {σ σ' : List AObj} {e : Trm} (h1 : BankR T' σ') (h2 : T' = T ∨ T' = T ++ [e]) (h3 : Fr [5, 6, 7, 8, 9] σ σ' ∧ σ'.length = σ.length) (w : Wf T) (ha : ∀ a ∈ e.args, a < (T.length : Int)) : Grown T T' σ σ' 1 := by
  rcases h2 with rfl | rfl
  · exact ⟨h1, ⟨[], by simp, by simp⟩, h3.1, w, h3.2⟩
  · refine ⟨h1, ⟨[e], rfl, by simp⟩, h3.1, fun i e' he a q => ?_, h3.2⟩
    rcases Nat.lt_or_ge i T.length with z | z
    · rw [List.getElem?_append_left z] at he
      exact w i e' he a q
    · have l := (List.getElem?_eq_some_iff.mp he).1
      have : i = T.length := by simp at l; omega
      subst this
      rw [List.getElem?_concat_length] at he
      cases he
      exact ha a q
noncomputable abbrev Ext (T T' : List Trm) : Prop := ∀ (t : Nat) (e : Trm), T[t]? = some e -> T'[t]? = some e
theorem Grown.ex {T T' : List Trm} {σ σ' : List AObj} {n : Nat} (h : Grown T T' σ σ' n) : Ext T T' := fun V V ht => h.at ht
theorem Atom.mono {T T' : List Trm} {x y u : Int} (hx : Ext T T') (h : Atom T x y u) : Atom T' x y u := by
  cases h with
  | num h0 he ho hk => exact .num h0 (hx _ _ he) ho hk
  | app h0 he ho hk => exact .app h0 (hx _ _ he) ho hk
  | mul h0 he ho ha h1 h2 h3 h4 h5 h6 h7 h8 =>
    obtain ⟨er, q1, q2⟩ := h8
    exact .mul h0 (hx _ _ he) ho ha h1 (hx _ _ h2) h3 h4 h5 h6 h7 ⟨er, hx _ _ q1, q2⟩
theorem Atom.wt_mono {T T' : List Trm} {x y u one : Int} {φ : Int -> Int} (hx : Ext T T') (h : Atom T x y u) : wt T' φ one u = wt T φ one u := by
  cases h with
  | num h0 he ho hk => rw [wt_num he ho hk, wt_num (hx _ _ he) ho hk]
  | app h0 he ho hk => rw [wt_app he ho, wt_app (hx _ _ he) ho]
  | mul h0 he ho ha h1 h2 h3 h4 h5 h6 h7 h8 => rw [wt_mul he ho ha h2 h4, wt_mul (hx _ _ he) ho ha (hx _ _ h2) h4]
theorem sumW_congr {f g : Int -> Int} : ∀ {as : List Int}, (∀ a ∈ as, f a = g a) -> sumW f as = sumW g as
  | [], _ => rfl
  | a :: r, h => by
    unfold sumW
    rw [h a List.mem_cons_self, sumW_congr fun b hb => h b (List.mem_cons_of_mem _ hb)]
theorem Side.mono {T T' : List Trm} {x y t n0 n1 k : Int} (hx : Ext T T') (h : Side T x y t n0 n1 k) : Side T' x y t n0 n1 k := by
  cases h with
  | num h0 he ho hk q0 q1 => exact .num h0 (hx _ _ he) ho hk q0 q1
  | plus h0 he ho hn hat hl hs =>
    refine .plus h0 (hx _ _ he) ho hn (fun a ha => ⟨(hat a ha).1, (hat a ha).2.mono hx⟩) hl fun φ one => ?_
    rw [← hs φ one]
    exact sumW_congr fun a ha => (hat a ha).2.wt_mono hx
section
variable {T : List Trm} {σ : List AObj}
theorem e_isnum {s : Int} (hs : s = 1 ∨ s = 2) : d_Bankis_number_sort [bankV, .int s] σ = some (.bool true, σ) := by
  rcases hs with rfl | rfl <;> kernel_rfl
theorem e_small {k : Int} (h1 : -1000 ≤ k) (h2 : k ≤ 1000) : d_want_small [one_ k] σ = some (.none, σ) := by
  have g0 : oGet (one_ k) (.int 0) σ = some (.int k, σ) := by unfold oGet; rw [getV0]; rfl
  have g1 : oGet (one_ k) (.int 1) σ = some (.int 1, σ) := by unfold oGet; rw [getV1]; rfl
  have s1 : oShr (.int (if k < 0 then -k else k)) (.int 65536) σ = some (.int 0, σ) := by
    unfold oShr
    dsimp only
    rw [if_pos]
    refine ⟨by split <;> omega, by split <;> omega, rfl⟩
  have s2 : oShr (.int 1) (.int 65536) σ = some (.int 0, σ) := by
    unfold oShr
    dsimp only
    rw [if_pos]
    exact ⟨by decide, by decide, rfl⟩
  unfold d_want_small b_want_small
  exists g0, g1, s1, s2
theorem e_wantnum {t : Nat} {e : Trm} {w : String} (h : BankR T σ) (ht : T[t]? = some e) (hs : e.sort = 1 ∨ e.sort = 2) : d_NumberBankwant_number [bankV, .int t, .str w] σ = some (.none, σ) := by
  unfold d_NumberBankwant_number b_NumberBankwant_number
  exists h.own (m := "is_number_sort") (by rfl), h.attr (x := "term_sorts") (v := .obj 7) (by rfl), h.get_sort ht, e_isnum hs
theorem e_want {t : Nat} {e : Trm} {w : String} {s : Int} (h : BankR T σ) (ht : T[t]? = some e) (hs : e.sort = s) : d_Bankwant [bankV, .int t, .int s, .str w] σ = some (.none, σ) := by
  have ne : (e.sort != s) = false := by simp [hs]
  unfold d_Bankwant b_Bankwant
  exists h.attr (x := "term_sorts") (v := .obj 7) (by rfl), h.get_sort ht, oNe_int, ne
theorem e_num {k s : Int} (h : BankR T σ) (w : Wf T) (hpos : 0 < T.length) (hlen : T.length < 500) (hs : s = 1 ∨ s = 2) (h1 : -1000 ≤ k) (h2 : k ≤ 1000) :
    X3 fun (t : Nat) (T' : List Trm) (σ' : List AObj) => A4 (d_NumberBanknum [bankV, one_ k, .int s] σ = some (.int t, σ')) (Grown T T' σ σ' 1) (T'[t]? = some ⟨"num", [], s, one_ k⟩) (0 < t) := by
  obtain ⟨t, T', σ', w1, w2, w3, w4, w5, w6, w7⟩ := e_make (e := ⟨"num", [], s, one_ k⟩) h .num hpos hlen
  refine ⟨t, T', σ', ?_, .of_make w2 w5 ⟨w6, w7⟩ w (fun a ha => by cases ha), w3, w4⟩
  have iw : d_is_whole [one_ k] σ = some (.bool true, σ) := e_is_whole
  have w1 : d_Bankmake [bankV, .str "num", .tup [], .int s, one_ k] σ = some (.int t, σ') := w1
  have c2 : cAnd (cVal (d2 oEq (dLoc "s") g_INT)) (cAnd (cNot (cVal (dCall d_is_whole (dCons (dLoc "value") dNil)))) cTrue) (((rho0.set "self" bankV).set "value" (one_ k)).set "s" (.int s)) σ = some (false, σ) := by
    rcases hs with rfl | rfl
    · (exists oEq_int, iw; done)
    · (exists oEq_int, iw; done)
  have c1 : dsIf (cNot (cVal (dMeth (ownOk 705 "is_number_sort") d_Bankis_number_sort (dLoc "self") (dCons (dLoc "s") dNil)))) (dsSeq dsFail dsNil) dsNil (((rho0.set "self" bankV).set "value" (one_ k)).set "s" (.int s)) σ = some (.next, (((rho0.set "self" bankV).set "value" (one_ k)).set "s" (.int s)), σ) := by
    exists h.own (m := "is_number_sort") (by rfl), e_isnum hs
  have hb : bindRho ["self", "value", "s"] [bankV, one_ k, .int s] rho0 = some (((rho0.set "self" bankV).set "value" (one_ k)).set "s" (.int s)) := rfl
  unfold d_NumberBanknum b_NumberBanknum
  exists c1, c2, h.own (m := "make") (by rfl), e_small h1 h2, w1
theorem oEq_one {k : Int} : oEq (one_ k) (.tup [.int 1, .int 1]) σ = some (.bool (k == 1), σ) := by
  show (if okD (one_ k) && okD (.tup [.int 1, .int 1]) then some (AV.bool (PyData.eqv (pd (one_ k)) (pd (.tup [.int 1, .int 1]))), σ) else none) = _
  rw [if_pos (by kernel_rfl)]
  show some (AV.bool ((k == 1) && ((1 : Int) == 1 && true)), σ) = _
  simp
theorem e_times {k s : Int} {t : Nat} {e : Trm} {x y : Int} (h : BankR T σ) (w : Wf T) (hpos : 0 < T.length) (hlen : T.length < 490) (hs : s = 1 ∨ s = 2) (h1 : -1000 ≤ k) (h2 : k ≤ 1000) (ht : T[t]? = some e) (ho : e.op = "app") (hes : e.sort = s) (hxy : (t : Int) = x ∨ (t : Int) = y) (htp : 0 < t) :
    X3 fun (u : Nat) (T' : List Trm) (σ' : List AObj) => A7 (d_NumberBanktimes_num [bankV, one_ k, .int t] σ = some (.int u, σ')) (Grown T T' σ σ' 2) (0 < u) (Atom T' x y u) ((∀ φ one, wt T' φ one u = k * φ t)) ((∃ eu, T'[u]? = some eu ∧ eu.sort = s)) ((u = t ∨ ∃ a eu, T'[u]? = some eu ∧ eu.op = "*" ∧ eu.args = [a, (t : Int)])) := by
  have wn := e_wantnum (w := "*") h ht (by rw [hes]; exact hs)
  have hc := h.get_sort ht
  rw [hes] at hc
  have hop := h.get_op ht
  rw [ho] at hop
  by_cases hk : k = 1
  · subst hk
    refine ⟨t, T, σ, ?_, .refl h w, htp, .app (by omega) (by simpa using ht) ho hxy, fun φ one => by rw [wt_app (by simpa using ht) ho]; simp, ⟨e, ht, hes⟩, .inl rfl⟩
    unfold d_NumberBanktimes_num b_NumberBanktimes_num
    exists h.own (m := "want_number") (by rfl), wn, h.attr (x := "term_sorts") (v := .obj 7) (by rfl), h.attr (x := "term_ops") (v := .obj 5) (by rfl), hc, hop, oEq_str, oEq_one
  · obtain ⟨a, T1, σ1, n1, n2, n3, n4⟩ := e_num (k := k) (s := s) h w hpos (by omega) hs h1 h2
    have hlen1 := n2.le
    have hp1 : 0 < T1.length := by obtain ⟨z, rfl, _⟩ := n2.ext; simp; omega
    obtain ⟨u, T2, σ2, m1, m2, m3, m4, m5, m6, m7⟩ := e_make (e := ⟨"*", [(a : Int), (t : Int)], s, .int 0⟩) n2.bank (.oth (by decide)) hp1 (by omega)
    have tl : t < T1.length := (List.getElem?_eq_some_iff.mp (n2.at ht)).1
    have al : a < T1.length := (List.getElem?_eq_some_iff.mp n3).1
    have g2 : Grown T1 T2 σ1 σ2 1 := .of_make m2 m5 ⟨m6, m7⟩ n2.wf (fun b hb => by
      simp only [List.mem_cons, List.not_mem_nil, or_false] at hb
      rcases hb with rfl | rfl <;> omega)
    have hkf : (k == 1) = false := by simp [hk]
    have m1 : d_Bankmake [bankV, .str "*", .tup [.int a, .int t], .int s, .int 0] σ1 = some (.int u, σ2) := m1
    have tu : (t : Int) < u := g2.wf u _ m3 t (by simp)
    refine ⟨u, T2, σ2, ?_, n2.trans g2, m4, ?_, fun φ one => ?_, ⟨_, m3, rfl⟩, .inr ⟨a, _, m3, rfl, rfl⟩⟩
    · unfold d_NumberBanktimes_num b_NumberBanktimes_num
      have oe : oEq (one_ k) (.tup [.int 1, .int 1]) σ = some (.bool false, σ) := by rw [oEq_one, hkf]
      exists h.own (m := "want_number") (by rfl), h.own (m := "make") (by rfl), h.own (m := "num") (by rfl), wn, h.attr (x := "term_sorts") (v := .obj 7) (by rfl), h.attr (x := "term_ops") (v := .obj 5) (by rfl), hc, hop, oe, n1, m1
    · exact .mul (by omega) (by simpa using m3) rfl rfl (by omega) (by simpa using g2.at n3) rfl rfl (by omega) tu hxy ⟨e, by simpa using (g2.at (n2.at ht)), ho⟩
    · rw [wt_mul (a := a) (r := t) (k := k) (by simpa using m3) rfl rfl (by simpa using g2.at n3) rfl]
end
end
section
section
variable {T : List Trm} {σ : List AObj}
theorem want_loop {s : Int} {w : String} (h : BankR T σ) : ∀ (as : List Nat) (ρ : Rho), ρ "self" = some bankV -> ρ "s" = some (.int s) -> ρ "where" = some (.str w) -> (∀ a ∈ as, ∃ e, T[a]? = some e ∧ e.sort = s) -> ∃ ρ', forL (bindN "t") fb_Bankwant_all1 (as.map fun (a : Nat) => .int (a : Int)) ρ σ = some (.next, ρ', σ)
  | [], ρ, _, _, _, _ => ⟨ρ, rfl⟩
  | a :: r, ρ, h1, h2, h3, ha => by
    obtain ⟨e, he, hs⟩ := ha a List.mem_cons_self
    have e1 : fb_Bankwant_all1 (ρ.set "t" (.int a)) σ = some (.next, ρ.set "t" (.int a), σ) := by
      unfold fb_Bankwant_all1
      exists h1, h2, h3, h.own (m := "want") (by rfl), e_want h he hs
    obtain ⟨ρ', w1⟩ := want_loop (w := w) h r (ρ.set "t" (.int a)) (h1) (h2) (h3) fun b hb => ha b (List.mem_cons_of_mem _ hb)
    refine ⟨ρ', ?_⟩
    rw [List.map_cons]
    unfold forL
    simp only [bindN, Option.bind_some, e1, w1]
theorem e_wantall {s : Int} {as : List Nat} (h : BankR T σ) (hl : as.length ≤ 3) (ha : ∀ a ∈ as, ∃ e, T[a]? = some e ∧ e.sort = s) : d_Bankwant_all [bankV, .lst (as.map fun (a : Nat) => .int (a : Int)), .int s, .str "+"] σ = some (.none, σ) := by
  obtain ⟨ρ', w1⟩ := want_loop (w := "+") h as ((((rho0.set "self" bankV).set "some" (.lst (as.map fun (a : Nat) => .int (a : Int)))).set "s" (.int s)).set "where" (.str "+")) rfl rfl rfl ha
  have hf := dsFor_run (dI := iSeq (dLoc "some")) (iSeq_lst (d := dLoc "some") (by (exists trivial; done)) (by simp; omega)) w1
  unfold d_Bankwant_all b_Bankwant_all
  have hb : bindRho ["self", "some", "s", "where"] [bankV, .lst (as.map fun (a : Nat) => .int (a : Int)), .int s, .str "+"] rho0 = some ((((rho0.set "self" bankV).set "some" (.lst (as.map fun (a : Nat) => .int (a : Int)))).set "s" (.int s)).set "where" (.str "+")) := rfl
  exists hb, hf
theorem get0_lst {a : AV} {r : List AV} : oGet (.lst (a :: r)) (.int 0) σ = some (a, σ) := by
  unfold oGet getV
  dsimp only
  rw [idx0]; rfl
theorem e_plus1 {a : Nat} {e : Trm} (h : BankR T σ) (ha : T[a]? = some e) (hs : e.sort = 1 ∨ e.sort = 2) : d_NumberBankplus [bankV, .lst [.int a]] σ = some (.int a, σ) := by
  have ol : oLen [.lst [.int (a : Int)]] σ = some (.int 1, σ) := by unfold oLen lenV; simp
  have wa := e_wantall (s := e.sort) (as := [a]) h (by simp) (fun b hb => by rw [List.mem_singleton.mp hb]; exact ⟨e, ha, rfl⟩)
  have wa : d_Bankwant_all [bankV, .lst [.int a], .int e.sort, .str "+"] σ = some (.none, σ) := wa
  unfold d_NumberBankplus b_NumberBankplus
  exists ol, oEq_int, get0_lst, h.own (m := "want_number") (by rfl), h.own (m := "want_all") (by rfl), e_wantnum h ha hs, h.attr (x := "term_sorts") (v := .obj 7) (by rfl), h.get_sort ha, wa
theorem e_plus {a : Nat} {r : List Nat} {e : Trm} {s : Int} (h : BankR T σ) (w : Wf T) (hpos : 0 < T.length) (hlen : T.length < 490) (ha : T[a]? = some e) (hs : s = 1 ∨ s = 2) (hall : ∀ b ∈ a :: r, ∃ e, T[b]? = some e ∧ e.sort = s) (hl : r.length = 1 ∨ r.length = 2) :
    X3 fun (u : Nat) (T' : List Trm) (σ' : List AObj) => A4 (d_NumberBankplus [bankV, .lst ((a :: r).map fun (a : Nat) => .int (a : Int))] σ = some (.int u, σ')) (Grown T T' σ σ' 1) (T'[u]? = some ⟨"+", (a :: r).map fun (a : Nat) => (a : Int), s, .int 0⟩) (0 < u) := by
  have hes : e.sort = s := by
    obtain ⟨e', h1, h2⟩ := hall a List.mem_cons_self
    rw [ha] at h1; cases h1; exact h2
  obtain ⟨u, T', σ', w1, w2, w3, w4, w5, w6, w7⟩ := e_make (e := ⟨"+", (a :: r).map fun (a : Nat) => (a : Int), s, .int 0⟩) h (.oth (by decide)) hpos (by omega)
  refine ⟨u, T', σ', ?_, .of_make w2 w5 ⟨w6, w7⟩ w (fun b hb => ?_), w3, w4⟩
  · have ol : oLen [.lst ((a :: r).map fun (a : Nat) => .int (a : Int))] σ = some (.int ((r.length : Int) + 1), σ) := by unfold oLen lenV; simp; omega
    have z0 : ((r.length : Int) + 1 == 0) = false := by simp; omega
    have z1 : ((r.length : Int) + 1 == 1) = false := by simp; omega
    have wa := e_wantall (s := s) (as := a :: r) h (by simp; omega) hall
    have wn := e_wantnum (w := "+") h ha (by rw [hes]; exact hs)
    have hc := h.get_sort ha
    rw [hes] at hc
    have ot : oTuple [.lst ((a :: r).map fun (a : Nat) => .int (a : Int))] σ = some (.tup ((a :: r).map fun (a : Nat) => .int (a : Int)), σ) := by
      unfold oTuple
      simp
      omega
    have mk : d_Bankmake [bankV, .str "+", .tup ((a :: r).map fun (a : Nat) => .int (a : Int)), .int s, .int 0] σ = some (.int u, σ') := by
      rw [List.map_map] at w1
      exact w1
    have g0 : oGet (.lst ((a :: r).map fun (a : Nat) => .int (a : Int))) (.int 0) σ = some (.int a, σ) := get0_lst
    unfold d_NumberBankplus b_NumberBankplus
    generalize (a :: r).map (fun (a : Nat) => AV.int (a : Int)) = L at ol wa ot mk g0 ⊢
    exists ol, oEq_int, z0, z1, g0, h.own (m := "want_number") (by rfl), h.own (m := "want_all") (by rfl), h.own (m := "make") (by rfl), wn, h.attr (x := "term_sorts") (v := .obj 7) (by rfl), hc, wa, ot, mk
  · obtain ⟨c, hc, rfl⟩ := List.mem_map.mp hb
    obtain ⟨e', h1, _⟩ := hall c hc
    have := (List.getElem?_eq_some_iff.mp h1).1
    omega
end
def Tg (T : List Trm) (u t : Nat) : Prop := (u = t ∧ ∃ e, T[u]? = some e ∧ e.op = "app") ∨ ∃ (a : Int) (e : Trm), T[u]? = some e ∧ e.op = "*" ∧ e.args = [a, (t : Int)]
theorem Tg.mono {T T' : List Trm} (hx : Ext T T') {u t : Nat} (h : Tg T u t) : Tg T' u t := by
  rcases h with ⟨rfl, e, he, ho⟩ | ⟨a, e, he, ho, ha⟩
  · exact .inl ⟨rfl, e, hx _ _ he, ho⟩
  · exact .inr ⟨a, e, hx _ _ he, ho, ha⟩
theorem Tg.inj {T : List Trm} {u t t' : Nat} (h : Tg T u t) (h' : Tg T u t') : t = t' := by
  rcases h with ⟨rfl, e, he, ho⟩ | ⟨a, e, he, ho, ha⟩
  · rcases h' with ⟨q, _⟩ | ⟨a, e', he', ho', _⟩
    · exact q
    · rw [he] at he'; cases he'; rw [ho] at ho'; exact absurd ho' (by decide)
  · rcases h' with ⟨rfl, e', he', ho'⟩ | ⟨a', e', he', _, ha'⟩
    · rw [he] at he'; cases he'; rw [ho] at ho'; exact absurd ho' (by decide)
    · rw [he] at he'; cases he'; rw [ha] at ha'; simp at ha'; omega
theorem Tg.op {T : List Trm} {u t : Nat} (h : Tg T u t) : ∃ e, T[u]? = some e ∧ (e.op = "app" ∨ e.op = "*") := by
  rcases h with ⟨rfl, e, he, ho⟩ | ⟨a, e, he, ho, ha⟩
  · exact ⟨e, he, .inl ho⟩
  · exact ⟨e, he, .inr ho⟩
noncomputable def lin2 (φ : Int -> Int) : List (Nat × Int) -> Int
  | [] => 0
  | it :: r => it.2 * φ it.1 + lin2 φ r
theorem side_comp {x y s : Int} (hs : s = 1 ∨ s = 2) : ∀ (items : List (Nat × Int)) (T : List Trm) (σ : List AObj) (ρ : Rho), BankR T σ -> Wf T -> 0 < T.length -> T.length + 2 * items.length < 480 -> ρ "bank" = some bankV -> (∀ it ∈ items, (∃ e, T[it.1]? = some e ∧ e.op = "app" ∧ e.sort = s) ∧ ((it.1 : Int) = x ∨ (it.1 : Int) = y) ∧ 0 < it.1 ∧ -1000 ≤ it.2 ∧ it.2 ≤ 1000) -> (items.map (·.1)).Nodup ->
    X3 fun (us : List Nat) (T' : List Trm) (σ' : List AObj) => A6 (compN (bindT ["one", "often"]) cc_l_side1 ce_l_side1 ρ (items.map fun it => .tup [.int it.1, .int it.2]) σ = some (us.map (fun (u : Nat) => .int (u : Int)), σ')) (Grown T T' σ σ' (2 * items.length)) ((∀ u ∈ us, Atom T' x y u ∧ 0 < u ∧ (∃ e, T'[u]? = some e ∧ e.sort = s) ∧ ∃ it ∈ items, Tg T' u it.1)) (us.length ≤ items.length) (us.Nodup) (∀ φ one, sumW (wt T' φ one) (us.map fun (u : Nat) => (u : Int)) = lin2 φ items)
  | [], T, σ, ρ, h, w, _, _, _, _, _ => ⟨[], T, σ, rfl, .refl h w, fun u hu => (by cases hu), Nat.le_refl _, List.nodup_nil, fun φ one => rfl⟩
  | it :: r, T, σ, ρ, h, w, hpos, hlen, hb, ha, hn => by
    obtain ⟨⟨e, he, heo, hes⟩, hxy, hp, b1, b2⟩ := ha it List.mem_cons_self
    rw [List.map_cons, List.nodup_cons] at hn
    simp only [List.length_cons] at hlen
    have hbd : bindT ["one", "often"] (.tup [.int it.1, .int it.2]) ρ = some ((ρ.set "one" (.int it.1)).set "often" (.int it.2)) := rfl
    have hcc : cc_l_side1 ((ρ.set "one" (.int it.1)).set "often" (.int it.2)) σ = some (it.2 != 0, σ) := by
      unfold cc_l_side1
      exists oNe_int
    by_cases hz : it.2 = 0
    · have hzb : (it.2 != 0) = false := by simp [hz]
      obtain ⟨us, T', σ', w1, w2, w3, w4, w5, w6⟩ := side_comp hs r T σ ρ h w hpos (by omega) hb (fun z hz => ha z (List.mem_cons_of_mem _ hz)) hn.2
      refine ⟨us, T', σ', ?_, ⟨w2.bank, by obtain ⟨q, q1, q2⟩ := w2.ext; exact ⟨q, q1, by simp; omega⟩, w2.fr, w2.wf, w2.ln⟩, fun u hu => ?_, by simp; omega, w5, fun φ one => ?_⟩
      · rw [List.map_cons]
        unfold compN
        simp only [hbd, hcc, Option.bind_some, hzb, w1]
      · obtain ⟨q1, q2, q3, it', q4, q5⟩ := w3 u hu
        exact ⟨q1, q2, q3, it', List.mem_cons_of_mem _ q4, q5⟩
      · rw [w6]; simp [lin2, hz]
    · obtain ⟨u, T1, σ1, m1, m2, m3, m4, m5, m6, m7⟩ := e_times (k := it.2) h w hpos (by omega) hs b1 b2 he heo hes hxy hp
      have hl1 := m2.le
      have hp1 : 0 < T1.length := by obtain ⟨z, rfl, _⟩ := m2.ext; simp; omega
      obtain ⟨us, T', σ', w1, w2, w3, w4, w5, w6⟩ := side_comp hs r T1 σ1 ρ m2.bank m2.wf hp1 (by omega) hb (fun z hz => by
        obtain ⟨⟨e, q1, q2⟩, q3⟩ := ha z (List.mem_cons_of_mem _ hz)
        exact ⟨⟨e, m2.at q1, q2⟩, q3⟩) hn.2
      have tg : Tg T' u it.1 := by
        rcases m7 with rfl | ⟨a, eu, q1, q2, q3⟩
        · exact .inl ⟨rfl, e, w2.at (m2.at he), heo⟩
        · exact .inr ⟨a, eu, w2.at q1, q2, q3⟩
      have hce : ce_l_side1 ((ρ.set "one" (.int it.1)).set "often" (.int it.2)) σ = some (.int u, σ1) := by
        unfold ce_l_side1
        exists hb, h.own (m := "times_num") (by rfl), m1
      have hzb : (it.2 != 0) = true := by simp [hz]
      refine ⟨u :: us, T', σ', ?_, ⟨w2.bank, by
        obtain ⟨q, q1, q2⟩ := m2.ext
        obtain ⟨p, p1, p2⟩ := w2.ext
        subst q1
        exact ⟨q ++ p, by rw [p1]; simp, by simp; omega⟩, m2.fr.trans w2.fr, w2.wf, w2.ln.trans m2.ln⟩, fun v hv => ?_, by simp; omega, ?_, fun φ one => ?_⟩
      · rw [List.map_cons]
        unfold compN
        simp only [hbd, hcc, Option.bind_some, hzb, hce, w1]
        rfl
      · rcases List.mem_cons.mp hv with q | q
        · subst q
          obtain ⟨eu, q1, q2⟩ := m6
          exact ⟨m4.mono w2.ex, m3, ⟨eu, w2.at q1, q2⟩, it, List.mem_cons_self, tg⟩
        · obtain ⟨q1, q2, q3, it', q4, q5⟩ := w3 v q
          exact ⟨q1, q2, q3, it', List.mem_cons_of_mem _ q4, q5⟩
      · refine List.nodup_cons.mpr ⟨fun q => ?_, w5⟩
        obtain ⟨_, _, _, it', q4, q5⟩ := w3 u q
        exact hn.1 (List.mem_map.mpr ⟨it', q4, (tg.inj q5).symm⟩)
      · show wt T' φ one u + sumW (wt T' φ one) (us.map fun (u : Nat) => (u : Int)) = it.2 * φ it.1 + lin2 φ r
        rw [w6, m4.wt_mono w2.ex, m5]
end
section
theorem sumW_cons {f : Int -> Int} {a : Int} {r : List Int} : sumW f (a :: r) = f a + sumW f r := rfl
theorem sumW_app {f : Int -> Int} : ∀ {a b : List Int}, sumW f (a ++ b) = sumW f a + sumW f b
  | [], b => by simp [sumW]
  | x :: r, b => by rw [List.cons_append, sumW_cons, sumW_cons, sumW_app]; omega
structure Unk (T : List Trm) (x : Nat) (s : Int) : Prop where
  ex : ∃ e, T[x]? = some e ∧ e.op = "app" ∧ e.sort = s
  pos : 0 < x
theorem Unk.mono {T T' : List Trm} (hx : Ext T T') {x : Nat} {s : Int} (h : Unk T x s) : Unk T' x s := by
  obtain ⟨e, h1, h2⟩ := h.ex
  exact ⟨⟨e, hx _ _ h1, h2⟩, h.pos⟩
theorem e_side {T : List Trm} {σ : List AObj} {x y : Nat} {n0 n1 k s : Int} (h : BankR T σ) (w : Wf T) (hpos : 0 < T.length) (hlen : T.length < 400) (hs : s = 1 ∨ s = 2) (ux : Unk T x s) (uy : Unk T y s) (hxy : x ≠ y) (a1 : -100 ≤ n0) (a2 : n0 ≤ 100) (b1 : -100 ≤ n1) (b2 : n1 ≤ 100) (c1 : -100 ≤ k) (c2 : k ≤ 100) :
    X3 fun (t : Nat) (T' : List Trm) (σ' : List AObj) => A5 (d_l_side [bankV, .lst [.int x, .int y], .lst [.int n0, .int n1], .int k] σ = some (.int t, σ')) (Grown T T' σ σ' 6) (Side T' x y t n0 n1 k) ((∃ e, T'[t]? = some e ∧ e.sort = s)) (0 < t) := by
  let ρ0 : Rho := (((rho0.set "bank" bankV).set "some" (.lst [.int x, .int y])).set "numbers" (.lst [.int n0, .int n1])).set "number" (.int k)
  obtain ⟨us, T1, σ1, w1, w2, w3, w4, w5, w6⟩ := side_comp (x := x) (y := y) hs [(x, n0), (y, n1)] T σ (captL ["bank"] ρ0) h w hpos (by simp; omega) (rfl) (fun it hit => by
    simp only [List.mem_cons, List.not_mem_nil, or_false] at hit
    rcases hit with rfl | rfl
    · exact ⟨ux.ex, .inl rfl, ux.pos, by omega, by omega⟩
    · exact ⟨uy.ex, .inr rfl, uy.pos, by omega, by omega⟩) (by simp [hxy])
  have hl1 := w2.le
  simp only [List.length_cons, List.length_nil] at hl1 w4
  have hp1 : 0 < T1.length := by obtain ⟨z, rfl, _⟩ := w2.ext; simp; omega
  obtain ⟨nt, T2, σ2, n1', n2, n3, n4⟩ := e_num (k := k) (s := s) w2.bank w2.wf hp1 (by omega) hs (by omega) (by omega)
  have hl2 := n2.le
  have hp2 : 0 < T2.length := by obtain ⟨z, rfl, _⟩ := n2.ext; simp; omega
  obtain ⟨e, he, heo, hes⟩ := ux.ex
  have hz : iZip (dLoc "some") (dLoc "numbers") ρ0 σ = some ([(x, n0), (y, n1)].map fun it => .tup [.int (it.1 : Nat), .int it.2], none, σ) := by
    rw [iZip_lst (xs := [.int x, .int y]) (ys := [.int n0, .int n1]) (by (exists trivial; done)) (by (exists trivial; done))]
    rfl
  have ec : dComp ["bank"] (iZip (dLoc "some") (dLoc "numbers")) (bindT ["one", "often"]) cc_l_side1 ce_l_side1 ρ0 σ = some (.lst (us.map fun (u : Nat) => .int (u : Int)), σ1) := by
    unfold dComp
    simp only [hz, Option.bind_some, w1, unfrz]
    rfl
  have sx := w2.bank.e_sort (w2.at he)
  rw [hes] at sx
  have gx : oGet (.lst [.int (x : Int), .int y]) (.int 0) σ1 = some (.int x, σ1) := get0_lst
  have ad : oAdd (.lst (us.map fun (u : Nat) => .int (u : Int))) (.lst [.int nt]) σ2 = some (.lst ((us ++ [nt]).map fun (u : Nat) => .int (u : Int)), σ2) := by
    unfold oAdd
    simp
    omega
  have run : ∀ {t : Nat} {σ' : List AObj}, d_NumberBankplus [bankV, .lst ((us ++ [nt]).map fun (u : Nat) => .int (u : Int))] σ2 = some (.int t, σ') -> d_l_side [bankV, .lst [.int x, .int y], .lst [.int n0, .int n1], .int k] σ = some (.int t, σ') := by
    intro t σ' hp
    have hb : bindRho ["bank", "some", "numbers", "number"] [bankV, .lst [.int x, .int y], .lst [.int n0, .int n1], .int k] rho0 = some ρ0 := rfl
    have r1 : ρ0 "bank" = some bankV := rfl
    have r2 : ρ0 "some" = some (.lst [.int x, .int y]) := rfl
    have r3 : ρ0 "number" = some (.int k) := rfl
    unfold d_l_side b_l_side
    exists ec, n2.bank.own (m := "plus") (by rfl), w2.bank.own (m := "plus") (by rfl), w2.bank.own (m := "num") (by rfl), w2.bank.own (m := "sort") (by rfl), gx, sx, n1', ad, hp
  have sn : wt T2 = fun φ one u => wt T2 φ one u := rfl
  have wn : ∀ φ one, wt T2 φ one nt = k * one := fun φ one => wt_num (by simpa using n3) rfl rfl
  have key : ∀ φ one, sumW (wt T2 φ one) ((us ++ [nt]).map fun (u : Nat) => (u : Int)) = n0 * φ x + n1 * φ y + k * one := fun φ one => by
    rw [List.map_append, sumW_app]
    have h1 : sumW (wt T2 φ one) (us.map fun (u : Nat) => (u : Int)) = lin2 φ [(x, n0), (y, n1)] := by
      rw [← w6 φ one]
      refine sumW_congr fun a ha => ?_
      obtain ⟨u, hu, rfl⟩ := List.mem_map.mp ha
      exact (w3 u hu).1.wt_mono n2.ex
    rw [h1]
    simp only [List.map_cons, List.map_nil, sumW, wn, lin2]
    omega
  have an : Atom T2 x y nt := .num (by omega) (by simpa using n3) rfl rfl
  cases us with
  | nil =>
    have hp := e_plus1 (a := nt) n2.bank n3 hs
    refine ⟨nt, T2, σ2, run hp, ?_, ?_, ⟨_, n3, rfl⟩, n4⟩
    · have := w2.trans n2
      exact ⟨this.bank, by obtain ⟨q, q1, q2⟩ := this.ext; exact ⟨q, q1, by simp at q2; omega⟩, this.fr, this.wf, this.ln⟩
    · have k0 := key (fun u => if u = (x : Int) then 1 else 0) 0
      have k1 := key (fun u => if u = (y : Int) then 1 else 0) 0
      simp only [List.nil_append, List.map_cons, List.map_nil, sumW, wn] at k0 k1
      have hne : ¬ ((x : Int) = y) := by omega
      have hne' : ¬ ((y : Int) = x) := by omega
      simp only [if_true, if_neg hne, if_neg hne'] at k0 k1
      exact .num (by omega) (by simpa using n3) rfl rfl (by omega) (by omega)
  | cons a r =>
    obtain ⟨q1, q2, ⟨ea, q3, q4⟩, it, q5, q6⟩ := w3 a List.mem_cons_self
    have hall : ∀ b ∈ a :: (r ++ [nt]), ∃ e, T2[b]? = some e ∧ e.sort = s := fun b hb => by
      rw [← List.cons_append] at hb
      rcases List.mem_append.mp hb with z | z
      · obtain ⟨_, _, ⟨eb, z1, z2⟩, _⟩ := w3 b z
        exact ⟨eb, n2.at z1, z2⟩
      · rw [List.mem_singleton.mp z]; exact ⟨_, n3, rfl⟩
    simp only [List.length_cons] at w4
    obtain ⟨u, T3, σ3, p1, p2, p3, p4⟩ := e_plus (r := r ++ [nt]) n2.bank n2.wf hp2 (by omega) (n2.at q3) hs hall (by rw [List.length_append, List.length_singleton]; omega)
    have ndup : (a :: r ++ [nt]).Nodup := by
      refine List.nodup_snoc w5 fun z => ?_
      obtain ⟨_, _, _, it', z1, z2⟩ := w3 nt z
      obtain ⟨e', z3, z4⟩ := (z2.mono n2.ex).op
      rw [n3] at z3
      cases z3
      rcases z4 with z4 | z4
      · exact absurd (show ("num" : String) = "app" from z4) (by decide)
      · exact absurd (show ("num" : String) = "*" from z4) (by decide)
    have grow := (w2.trans n2).trans p2
    refine ⟨u, T3, σ3, run p1, ⟨grow.bank, by obtain ⟨q, q1, q2⟩ := grow.ext; exact ⟨q, q1, by simp at q2; omega⟩, grow.fr, grow.wf, grow.ln⟩, ?_, ⟨_, p3, rfl⟩, p4⟩
    refine Side.plus (e := ⟨"+", (a :: (r ++ [nt])).map fun (a : Nat) => (a : Int), s, .int 0⟩) (by omega) (by rw [Int.toNat_natCast]; exact p3) rfl ?_ (fun b hb => ?_) (by simp; omega) fun φ one => ?_
    · show ((a :: r ++ [nt]).map fun (u : Nat) => (u : Int)).Nodup
      refine List.Pairwise.map _ (fun p q hpq => ?_) ndup
      omega
    · refine ⟨p2.wf u _ p3 b hb, ?_⟩
      obtain ⟨c, hc, rfl⟩ := List.mem_map.mp hb
      have hc : c ∈ (a :: r) ++ [nt] := hc
      rcases List.mem_append.mp hc with z | z
      · exact ((w3 c z).1.mono n2.ex).mono p2.ex
      · rw [List.mem_singleton.mp z]; exact an.mono p2.ex
    · rw [← key φ one]
      refine sumW_congr fun b hb => ?_
      obtain ⟨c, hc, rfl⟩ := List.mem_map.mp hb
      have hc : c ∈ (a :: r) ++ [nt] := hc
      rcases List.mem_append.mp hc with z | z
      · exact ((w3 c z).1.mono n2.ex).wt_mono p2.ex
      · rw [List.mem_singleton.mp z]; exact an.wt_mono p2.ex
theorem e_cmp {T : List Trm} {σ : List AObj} {l r : Nat} {el er : Trm} {s : Int} {st : Bool} (h : BankR T σ) (w : Wf T) (hpos : 0 < T.length) (hlen : T.length < 490) (hl : T[l]? = some el) (hr : T[r]? = some er) (h1 : el.sort = s) (h2 : er.sort = s) (hs : s = 1 ∨ s = 2) :
    X3 fun (t : Nat) (T' : List Trm) (σ' : List AObj) => A4 ((if st then d_NumberBanklt else d_NumberBankle) [bankV, .int l, .int r] σ = some (.int t, σ')) (Grown T T' σ σ' 1) (T'[t]? = some ⟨if st then "<" else "<=", [(l : Int), (r : Int)], 0, .int 0⟩) (0 < t) := by
  have hc := h.get_sort hl
  rw [h1] at hc
  have ll := (List.getElem?_eq_some_iff.mp hl).1
  have lr := (List.getElem?_eq_some_iff.mp hr).1
  cases st with
  | true =>
    obtain ⟨t, T', σ', w1, w2, w3, w4, w5, w6, w7⟩ := e_make (e := ⟨"<", [(l : Int), (r : Int)], 0, .int 0⟩) h (.oth (by decide)) hpos (by omega)
    have w1 : d_Bankmake [bankV, .str "<", .tup [.int l, .int r], .int 0, .int 0] σ = some (.int t, σ') := w1
    refine ⟨t, T', σ', ?_, .of_make w2 w5 ⟨w6, w7⟩ w (fun a ha => by
      simp only [List.mem_cons, List.not_mem_nil, or_false] at ha
      rcases ha with rfl | rfl <;> omega), w3, w4⟩
    show d_NumberBanklt _ _ = _
    unfold d_NumberBanklt b_NumberBanklt
    (exists h.own (m := "want_number") (by rfl), h.own (m := "want") (by rfl), h.own (m := "make") (by rfl), e_wantnum h hl (by rw [h1]; exact hs), h.attr (x := "term_sorts") (v := .obj 7) (by rfl), hc, e_want h hr h2, w1; done)
  | false =>
    obtain ⟨t, T', σ', w1, w2, w3, w4, w5, w6, w7⟩ := e_make (e := ⟨"<=", [(l : Int), (r : Int)], 0, .int 0⟩) h (.oth (by decide)) hpos (by omega)
    have w1 : d_Bankmake [bankV, .str "<=", .tup [.int l, .int r], .int 0, .int 0] σ = some (.int t, σ') := w1
    refine ⟨t, T', σ', ?_, .of_make w2 w5 ⟨w6, w7⟩ w (fun a ha => by
      simp only [List.mem_cons, List.not_mem_nil, or_false] at ha
      rcases ha with rfl | rfl <;> omega), w3, w4⟩
    show d_NumberBankle _ _ = _
    unfold d_NumberBankle b_NumberBankle
    (exists h.own (m := "want_number") (by rfl), h.own (m := "want") (by rfl), h.own (m := "make") (by rfl), e_wantnum h hl (by rw [h1]; exact hs), h.attr (x := "term_sorts") (v := .obj 7) (by rfl), hc, e_want h hr h2, w1; done)
end
section
structure Feed (σ : List AObj) (n : Nat) : Prop where
  ex : X2 fun (cells : List Int) (k : Nat) => A3 (σ[0]? = some (.sd [("cells", .lst (cells.map .int)), ("at", .int k)])) (k ≤ n) (cells.length ≤ 100)
theorem Feed.fr {σ σ' : List AObj} {n : Nat} {S : List Nat} (h : Feed σ n) (f : Fr S σ σ') (hs : 0 ∉ S) : Feed σ' n := by
  obtain ⟨c, k, h1, h2, h3⟩ := h.ex
  exact ⟨c, k, f.at h1 hs, h2, h3⟩
theorem Feed.mono {σ : List AObj} {n m : Nat} (h : Feed σ n) (q : n ≤ m) : Feed σ m := by
  obtain ⟨c, k, h1, h2, h3⟩ := h.ex
  exact ⟨c, k, h1, by omega, h3⟩
theorem get_sd {σ : List AObj} {i : Nat} {kvs : List (String × AV)} {x : String} {v : AV} (h : σ[i]? = some (.sd kvs)) (hx : kvGet x kvs = some v) : oGet (.obj i) (.str x) σ = some (v, σ) := by
  unfold oGet getV
  dsimp only
  rw [look_at h rfl]
  dsimp only
  rw [hx]; rfl
theorem oMod_int {x y : Int} {σ : List AObj} (h : 0 < y) : oMod (.int x) (.int y) σ = some (.int (x % y), σ) := by
  unfold oMod
  dsimp only
  rw [if_pos (by simp; omega), Int.fmod_eq_emod_of_nonneg _ (by omega)]
theorem draw_aux {σ σ' : List AObj} {k len wide : Int} {cells : AV} {v : Int} (g1 : oGet (.obj 0) (.str "at") σ = some (.int k, σ)) (s1 : oSetItem (.obj 0) (.str "at") (.int (k + 1)) σ = some σ') (g2 : oGet (.obj 0) (.str "cells") σ' = some (cells, σ')) (hl : oLen [cells] σ' = some (.int len, σ')) (k0 : 0 ≤ k) (k1 : k ≤ 100000) (l0 : 0 ≤ len) (l1 : len ≤ 1000) (hw : 0 < wide)
    (hv : k < len -> oGet cells (.int k) σ' = some (.int v, σ')) : ∃ u, A3 (d_l_draw [.obj 0, .int wide] σ = some (.int u, σ')) (0 ≤ u) (u < wide) := by
  have m5 : Mine.small 5 = true := by decide
  have m7 : Mine.small 7 = true := by decide
  have m3 : Mine.small 3 = true := by decide
  have m5k : Mine.small (5 * k) = true := small_of (by omega) (by omega)
  by_cases q : k < len
  · refine ⟨v % wide, ?_, Int.emod_nonneg _ (by omega), Int.emod_lt_of_pos _ hw⟩
    unfold d_l_draw b_l_draw
    exists g1, s1, g2, hl, hv q, oMod_int hw
  · refine ⟨(5 * k * k + 7 * k + 3 * len + 2) % 97 % wide, ?_, Int.emod_nonneg _ (by omega), Int.emod_lt_of_pos _ hw⟩
    have h97 : (0 : Int) < 97 := by decide
    unfold d_l_draw b_l_draw
    exists g1, s1, g2, hl, oMul_int m5, oMul_int m5k, oMul_int m7, oMul_int m3, oMod_int hw, oMod_int h97
theorem e_draw {σ : List AObj} {n : Nat} {wide : Int} (h : Feed σ n) (hn : n ≤ 10000) (hw : 0 < wide) : X2 fun v σ' => A6 (d_l_draw [.obj 0, .int wide] σ = some (.int v, σ')) (0 ≤ v) (v < wide) (Feed σ' (n + 1)) (Fr [0] σ σ') (σ'.length = σ.length) := by
  obtain ⟨cells, k, h1, h2, h3⟩ := h.ex
  have l0 : 0 < σ.length := (List.getElem?_eq_some_iff.mp h1).1
  have s1 : oSetItem (.obj 0) (.str "at") (.int ((k : Int) + 1)) σ = some (σ.set 0 (.sd [("cells", .lst (cells.map .int)), ("at", .int ((k : Int) + 1))])) := by
    unfold oSetItem
    simp only [h1]
    rw [if_pos (by simp)]
    rfl
  have h1' : (σ.set 0 (.sd [("cells", .lst (cells.map .int)), ("at", .int ((k : Int) + 1))]))[0]? = some (.sd [("cells", .lst (cells.map .int)), ("at", .int ((k : Int) + 1))]) := List.getElem?_set_self l0
  obtain ⟨u, w1, w2, w3⟩ := draw_aux (k := k) (len := cells.length) (wide := wide) (v := cells[k]?.getD 0) (get_sd h1 (by rfl)) s1 (get_sd h1' (by rfl)) (by unfold oLen lenV; simp; omega) (by omega) (by omega) (by omega) (by omega) hw (fun q => by
    have hk : k < cells.length := by omega
    unfold oGet getV
    dsimp only
    rw [idx_nat (v := .int cells[k]) (by simp [hk]) (by omega)]
    simp [hk])
  exact ⟨u, _, w1, w2, w3, ⟨cells, k + 1, by rw [h1']; simp, by omega, h3⟩, Fr.set (.inl (by decide)), by simp⟩
theorem get_two {a b : AV} {σ : List AObj} : oGet (.lst [a, b]) (.int 0) σ = some (a, σ) ∧ oGet (.lst [a, b]) (.int 1) σ = some (b, σ) := by
  constructor
  · exact get0_lst
  · unfold oGet getV; dsimp only; rw [idx1]; rfl
theorem normal_aux {spot n0 n1 b g : Int} {st : Bool} {σ : List AObj} (hg : d_l_common [.int n0, .int n1] σ = some (.int g, σ)) (g0 : 0 ≤ g) (g1 : g ≤ 1000) (hs : spot = 0 ∨ spot = 1) : d_l_normal [.int spot, .lst [.int n0, .int n1], .int b, .bool st] σ = some (.tup [.int spot, .lst [.int (nm n0 g), .int (nm n1 g)], .int (nb spot g b st), .bool (nst spot g st)], σ) := by
  have m12 : Mine.small 12 = true := by decide
  let ρ0 : Rho := (((rho0.set "spot" (.int spot)).set "numbers" (.lst [.int n0, .int n1])).set "bound" (.int b)).set "is_strict" (.bool st)
  have hb : bindRho ["spot", "numbers", "bound", "is_strict"] [.int spot, .lst [.int n0, .int n1], .int b, .bool st] rho0 = some ρ0 := rfl
  have r1 : ρ0 "spot" = some (.int spot) := rfl
  have r2 : ρ0 "numbers" = some (.lst [.int n0, .int n1]) := rfl
  have r3 : ρ0 "bound" = some (.int b) := rfl
  have r4 : ρ0 "is_strict" = some (.bool st) := rfl
  have e1 : dsSet "common" (dCall d_l_common (dCons (d2 oGet (dLoc "numbers") (dK (.int 0))) (dCons (d2 oGet (dLoc "numbers") (dK (.int 1))) dNil))) ρ0 σ = some (.next, ρ0.set "common" (.int g), σ) := by
    exists r2, get_two, hg
  by_cases q : g = 0
  · subst q
    unfold d_l_normal b_l_normal
    exists e1, oMul_int m12
  · have gp : 0 < g := by omega
    have gs : Mine.small g = true := small_of (by omega) (by omega)
    have gf : (g == 0) = false := by simp [q]
    have fd : ∀ x : Int, Int.fdiv x g = x / g := fun x => Int.fdiv_eq_ediv_of_nonneg _ g0
    have dv : ∀ (x : Int) (τ : List AObj), oDiv (.int x) (.int g) τ = some (.int (x / g), τ) := fun x τ => (oDiv_int gs q).trans (by rw [fd])
    have ec : dComp ["common"] (iSeq (dLoc "numbers")) (bindN "one") cTrue ce_l_normal1 (ρ0.set "common" (.int g)) σ = some (.lst [.int (n0 / g), .int (n1 / g)], σ) := by
      have hi : iSeq (dLoc "numbers") (ρ0.set "common" (.int g)) σ = some ([.int n0, .int n1], none, σ) := iSeq_lst (by (exists r2; done)) (by simp)
      rw [dComp_pure (pr := fun V => true) (f := fun v => match v with | .int u => .int (u / g) | v => v) hi (by simp) (fun v hv => ?_)]
      · rfl
      · have : ∃ u, v = .int u := by
          simp only [List.mem_cons, List.not_mem_nil, or_false] at hv
          rcases hv with rfl | rfl
          · exact ⟨_, rfl⟩
          · exact ⟨_, rfl⟩
        obtain ⟨u, rfl⟩ := this
        refine ⟨_, rfl, rfl, fun V => ?_⟩
        unfold ce_l_normal1
        exact ev_2 rfl rfl (dv _ _)
    unfold d_l_normal b_l_normal nm nb nst
    rw [if_neg q, if_neg q, if_neg q, if_neg q]
    rcases hs with h0 | h0
    · subst h0
      cases st with
      | true => exists e1, ec, oMul_int m12, dv _ _
      | false => exists e1, ec, oMul_int m12, dv _ _
    · subst h0
      exists e1, ec, oMul_int m12, dv _ _
theorem e_l_normal {spot n0 n1 b : Int} {st : Bool} {σ : List AObj} (hs : spot = 0 ∨ spot = 1) (a1 : -4 ≤ n0) (a2 : n0 ≤ 4) (b1 : -4 ≤ n1) (b2 : n1 ≤ 4) : d_l_normal [.int spot, .lst [.int n0, .int n1], .int b, .bool st] σ = some (.tup [.int spot, .lst [.int (nm n0 (g2 n0 n1)), .int (nm n1 (g2 n0 n1))], .int (nb spot (g2 n0 n1) b st), .bool (nst spot (g2 n0 n1) st)], σ) := by
  refine normal_aux e_common2 (by unfold g2; omega) ?_ hs
  by_cases h : n0 = 0 ∧ n1 = 0
  · obtain ⟨rfl, rfl⟩ := h; decide
  · have := g2_le4 (a := n0) (b := n1) (by omega) a1 a2 b1 b2; omega
end
section
structure Lt where
  spot : Int
  m0 : Int
  m1 : Int
  B : Int
  st : Bool
  c : Int
noncomputable def xo (spot : Int) : Int := if spot = 0 then 3 else 5
noncomputable def yo (spot : Int) : Int := if spot = 0 then 4 else 6
inductive LtEx (T : List Trm) (L : Lt) : Prop
  | mk (t : Nat) (e : Trm) (l r a0 a1 ka c0 c1 kc n0 n1 b : Int) (h1 : T[t]? = some e) (h2 : e.op = "<" ∨ e.op = "<=") (h3 : e.args = [l, r]) (h4 : Side T (xo L.spot) (yo L.spot) l a0 a1 ka) (h5 : Side T (xo L.spot) (yo L.spot) r c0 c1 kc) (h6 : 0 < t)
    (h7 : A11 (L.c = (t : Int) ∨ L.c = -(t : Int)) (-4 ≤ a0 - c0) (a0 - c0 ≤ 4) (-4 ≤ a1 - c1) (a1 - c1 ≤ 4) (-100 ≤ kc - ka) (kc - ka ≤ 100) (n0 = (if 0 < -L.c then a0 - c0 else c0 - a0)) (n1 = (if 0 < -L.c then a1 - c1 else c1 - a1)) (b = (if 0 < -L.c then kc - ka else ka - kc))
      (A4 (L.m0 = nm n0 (g2 n0 n1)) (L.m1 = nm n1 (g2 n0 n1)) (L.B = nb L.spot (g2 n0 n1) b (if 0 < -L.c then decide (e.op = "<") else !decide (e.op = "<"))) (L.st = nst L.spot (g2 n0 n1) (if 0 < -L.c then decide (e.op = "<") else !decide (e.op = "<"))))) : LtEx T L
structure LtOk (T : List Trm) (L : Lt) : Prop where
  spot : L.spot = 0 ∨ L.spot = 1
  ex : LtEx T L
theorem LtOk.mono {T T' : List Trm} (hx : Ext T T') {L : Lt} (h : LtOk T L) : LtOk T' L := by
  obtain ⟨t, e, l, r, a0, a1, ka, c0, c1, kc, n0, n1, b, q1, q2, q3, q4, q5, q6, q7⟩ := h.ex
  exact ⟨h.spot, t, e, l, r, a0, a1, ka, c0, c1, kc, n0, n1, b, hx _ _ q1, q2, q3, q4.mono hx, q5.mono hx, q6, q7⟩
noncomputable def kvFrom {α : Type} (f : α -> AV) : Nat -> List α -> List (Int × AV)
  | _, [] => []
  | i, x :: r => ((i : Int), f x) :: kvFrom f (i + 1) r
noncomputable abbrev clV (L : Lt) : AV := .int L.c
noncomputable abbrev rwV (L : Lt) : AV := .tup [.int L.spot, .lst [.int L.m0, .int L.m1], .int L.B, .bool L.st]
theorem kvFrom_len {α : Type} {f : α -> AV} : ∀ {l : List α} {i : Nat}, (kvFrom f i l).length = l.length
  | [], _ => rfl
  | x :: r, i => by simp [kvFrom, kvFrom_len]
theorem kvFrom_app {α : Type} {f : α -> AV} {y : α} : ∀ {l : List α} {i : Nat}, kvFrom f i (l ++ [y]) = kvFrom f i l ++ [(((i + l.length : Nat) : Int), f y)]
  | [], i => by simp [kvFrom]
  | x :: r, i => by
    rw [List.cons_append]
    simp only [kvFrom, List.cons_append, kvFrom_app, List.length_cons]
    rw [show i + 1 + r.length = i + (r.length + 1) by omega]
theorem kvFrom_has {α : Type} {f : α -> AV} {k : Int} : ∀ {l : List α} {i : Nat}, (k < i ∨ (i + l.length : Nat) ≤ k) -> kvHas k (kvFrom f i l) = false
  | [], _, _ => rfl
  | x :: r, i, h => by
    show (decide ((i : Int) = k) || kvHas k (kvFrom f (i + 1) r)) = false
    rw [kvFrom_has (by simp only [List.length_cons] at h; omega), decide_eq_false (by simp only [List.length_cons] at h; omega)]
    rfl
def SaidOk (v : AV) : Prop := ∃ s a b c d : Int, v = .tup [.int s, .lst [.int a, .int b], .lst [.int c, .int d]] ∧ (s = 0 ∨ s = 1) ∧ -2 ≤ a ∧ a ≤ 2 ∧ -2 ≤ b ∧ b ≤ 2 ∧ -2 ≤ c ∧ c ≤ 2 ∧ -2 ≤ d ∧ d ≤ 2
noncomputable def worldF : List (String × AV) := [("bank", bankV), ("unknowns", .lst [.lst [.int 3, .int 4], .lst [.int 5, .int 6]]), ("clause", .obj 12), ("rows", .obj 13), ("said", .obj 14)]
structure WB (T : List Trm) (Ls : List Lt) (cx : List (Int × AV)) (σ : List AObj) : Prop where
  bank : BankR T σ
  wf : Wf T
  world : σ[11]? = some (.sd worldF)
  clause : σ[12]? = some (.id (kvFrom clV 1 Ls ++ cx))
  rows : σ[13]? = some (.id (kvFrom rwV 1 Ls))
  said : ∃ sd, σ[14]? = some (.lst sd) ∧ (∀ v ∈ sd, SaidOk v) ∧ sd.length ≤ 100
  unk : Unk T 3 1 ∧ Unk T 4 1 ∧ Unk T 5 2 ∧ Unk T 6 2
  lits : ∀ L ∈ Ls, LtOk T L
theorem WB.fr {T : List Trm} {Ls : List Lt} {cx : List (Int × AV)} {σ σ' : List AObj} {S : List Nat} (h : WB T Ls cx σ) (f : Fr S σ σ') (hs : ∀ i ∈ S, i = 0 ∨ 15 ≤ i) : WB T Ls cx σ' := by
  have k : ∀ i, 1 ≤ i -> i ≤ 14 -> i ∉ S := fun i h1 h2 q => by have := hs i q; omega
  obtain ⟨sd, h1, h2⟩ := h.said
  exact ⟨h.bank.fr f fun i q => by have := hs i q; omega, h.wf, f.at h.world (k _ (by omega) (by omega)), f.at h.clause (k _ (by omega) (by omega)), f.at h.rows (k _ (by omega) (by omega)), ⟨sd, f.at h1 (k _ (by omega) (by omega)), h2⟩, h.unk, h.lits⟩
theorem idx_last {xs : List AV} {v : AV} (h : xs.length ≤ 1000) : idx (xs ++ [v]) (-1) = some v := by
  unfold idx
  rw [if_pos ⟨by decide, by decide⟩]
  unfold seqIndex?
  have h1 : (-1 : Int) + ((xs ++ [v]).length : Int) = (xs.length : Int) := by simp; omega
  simp only [if_pos (by decide : (-1 : Int) < 0), h1]
  have h2 : (decide (0 ≤ (xs.length : Int)) && decide ((xs.length : Int) < ((xs ++ [v]).length : Int))) = true := by simp; omega
  rw [h2]
  simp
theorem get_tup {xs : List AV} {i : Nat} {v : AV} {σ : List AObj} (h : xs[i]? = some v) (hi : i < 100) : oGet (.tup xs) (.int i) σ = some (v, σ) := by
  unfold oGet getV
  dsimp only
  rw [idx_nat h (by omega)]; rfl
structure SayA (ρ : Rho) (lit s a b c d lo hi : Int) : Prop where
  feed : ρ "feed" = some (.obj 0)
  world : ρ "world" = some (.obj 11)
  lit : ρ "literal" = some (.int lit)
  spot : ρ "spot" = some (.int s)
  near : ρ "near" = some (.lst [.int a, .int b])
  far : ρ "far" = some (.lst [.int c, .int d])
  low : ρ "low" = some (.int lo)
  high : ρ "high" = some (.int hi)
  s01 : s = 0 ∨ s = 1
  bd : -2 ≤ a ∧ a ≤ 2 ∧ -2 ≤ b ∧ b ≤ 2 ∧ -2 ≤ c ∧ c ≤ 2 ∧ -2 ≤ d ∧ d ≤ 2 ∧ 0 ≤ lo ∧ lo ≤ 3 ∧ 0 ≤ hi ∧ hi ≤ 4
theorem say_a {T : List Trm} {Ls : List Lt} {σ : List AObj} {n : Nat} (W : WB T Ls [] σ) (F : Feed σ n) (hn : n ≤ 5000) (hL : Ls.length ≤ 10) {R : DenS} :
    X9 fun ρ' σ' s a b c d lo hi => A5 ((dsSeq (dsTupR ["literal", "spot"] (dTup (dCons (d2 oAdd (dCall oLen (dCons (d2 oGet (dLoc "world") (dK (.str "clause"))) dNil)) (dK (.int 1))) (dCons (dCall d_l_draw (dCons (dLoc "feed") (dCons (dK (.int 2)) dNil))) dNil)))) (dsSeq (dsSet "near" (dLst (dCons (d2 oSub (dCall d_l_draw (dCons (dLoc "feed") (dCons (dK (.int 5)) dNil))) (dK (.int 2))) (dCons (d2 oSub (dCall d_l_draw (dCons (dLoc "feed") (dCons (dK (.int 5)) dNil))) (dK (.int 2))) dNil)))) (dsSeq (dsSet "far" (dLst (dCons (d2 oSub (dCall d_l_draw (dCons (dLoc "feed") (dCons (dK (.int 3)) dNil))) (dK (.int 1))) (dCons (dK (.int 0)) dNil)))) (dsSeq (dsTupR ["low", "high"] (dTup (dCons (dCall d_l_draw (dCons (dLoc "feed") (dCons (dK (.int 3)) dNil))) (dCons (dCall d_l_draw (dCons (dLoc "feed") (dCons (dK (.int 4)) dNil))) dNil)))) (dsSeq (dsIf (cAnd (cVal (d2 oGt (dCall oLen (dCons (d2 oGet (dLoc "world") (dK (.str "said"))) dNil)) (dK (.int 0)))) (cAnd (cVal (d2 oEq (dCall d_l_draw (dCons (dLoc "feed") (dCons (dK (.int 2)) dNil))) (dK (.int 1)))) cTrue)) (dsSeq (dsTupR ["spot", "near", "far"] (dTup (dCons (d2 oGet (d2 oGet (d2 oGet (dLoc "world") (dK (.str "said"))) (d1 oNeg (dK (.int 1)))) (dK (.int 0))) (dCons (d2 oGet (d2 oGet (d2 oGet (dLoc "world") (dK (.str "said"))) (d1 oNeg (dK (.int 1)))) (dK (.int 2))) (dCons (d2 oGet (d2 oGet (d2 oGet (dLoc "world") (dK (.str "said"))) (d1 oNeg (dK (.int 1)))) (dK (.int 1))) dNil))))) dsNil) dsNil) R))))) ((rho0.set "feed" (.obj 0)).set "world" (.obj 11)) σ = R ρ' σ') (SayA ρ' (Ls.length + 1) s a b c d lo hi) (Fr [0] σ σ') (Feed σ' (n + 7)) (σ'.length = σ.length) := by
  obtain ⟨v1, σ1, a1, a2, a3, F1, f1, l1⟩ := e_draw (wide := 2) F (by omega) (by decide)
  obtain ⟨v2, σ2, b1, b2, b3, F2, f2, l2⟩ := e_draw (wide := 5) F1 (by omega) (by decide)
  obtain ⟨v3, σ3, c1, c2, c3, F3, f3, l3⟩ := e_draw (wide := 5) F2 (by omega) (by decide)
  obtain ⟨v4, σ4, d1', d2', d3', F4, f4, l4⟩ := e_draw (wide := 3) F3 (by omega) (by decide)
  obtain ⟨v5, σ5, e1, e2, e3, F5, f5, l5⟩ := e_draw (wide := 3) F4 (by omega) (by decide)
  obtain ⟨v6, σ6, g1, g2', g3, F6, f6, l6⟩ := e_draw (wide := 4) F5 (by omega) (by decide)
  have fr6 : Fr [0] σ σ6 := ((((f1.trans f2).trans f3).trans f4).trans f5).trans f6
  have W6 := W.fr fr6 (fun i q => .inl (List.mem_singleton.mp q))
  let ρ0 : Rho := (rho0.set "feed" (.obj 0)).set "world" (.obj 11)
  let ρ1 : Rho := (ρ0.set "spot" (.int v1)).set "literal" (.int (Ls.length + 1))
  let ρ2 : Rho := ρ1.set "near" (.lst [.int (v2 - 2), .int (v3 - 2)])
  let ρ3 : Rho := ρ2.set "far" (.lst [.int (v4 - 1), .int 0])
  let ρ4 : Rho := (ρ3.set "high" (.int v6)).set "low" (.int v5)
  have ww : ρ0 "world" = some (.obj 11) := rfl
  have wf : ρ0 "feed" = some (.obj 0) := rfl
  have gc : oGet (.obj 11) (.str "clause") σ = some (.obj 12, σ) := get_sd W.world (by rfl)
  have ol : oLen [.obj 12] σ = some (.int Ls.length, σ) := by
    unfold oLen lenV
    dsimp only
    rw [look_at W.clause rfl]
    simp [kvFrom_len]
    omega
  have s1 : dsTupR ["literal", "spot"] (dTup (dCons (d2 oAdd (dCall oLen (dCons (d2 oGet (dLoc "world") (dK (.str "clause"))) dNil)) (dK (.int 1))) (dCons (dCall d_l_draw (dCons (dLoc "feed") (dCons (dK (.int 2)) dNil))) dNil))) ρ0 σ = some (.next, ρ1, σ1) := by
    exists ww, wf, gc, ol, oAdd_int, a1
  have s2 : dsSet "near" (dLst (dCons (d2 oSub (dCall d_l_draw (dCons (dLoc "feed") (dCons (dK (.int 5)) dNil))) (dK (.int 2))) (dCons (d2 oSub (dCall d_l_draw (dCons (dLoc "feed") (dCons (dK (.int 5)) dNil))) (dK (.int 2))) dNil))) ρ1 σ1 = some (.next, ρ2, σ3) := by
    have : ρ1 "feed" = some (.obj 0) := rfl
    exists this, b1, c1, oSub_int
  have s3 : dsSet "far" (dLst (dCons (d2 oSub (dCall d_l_draw (dCons (dLoc "feed") (dCons (dK (.int 3)) dNil))) (dK (.int 1))) (dCons (dK (.int 0)) dNil))) ρ2 σ3 = some (.next, ρ3, σ4) := by
    have : ρ2 "feed" = some (.obj 0) := rfl
    exists this, d1', oSub_int
  have s4 : dsTupR ["low", "high"] (dTup (dCons (dCall d_l_draw (dCons (dLoc "feed") (dCons (dK (.int 3)) dNil))) (dCons (dCall d_l_draw (dCons (dLoc "feed") (dCons (dK (.int 4)) dNil))) dNil))) ρ3 σ4 = some (.next, ρ4, σ6) := by
    have : ρ3 "feed" = some (.obj 0) := rfl
    exists this, e1, g1
  have base : SayA ρ4 (Ls.length + 1) v1 (v2 - 2) (v3 - 2) (v4 - 1) 0 v5 v6 := ⟨rfl, rfl, rfl, rfl, rfl, rfl, rfl, rfl, by omega, by omega⟩
  obtain ⟨sd, h14, hsd, hsl⟩ := W6.said
  have gs : ∀ {τ : List AObj}, τ[11]? = some (.sd worldF) -> oGet (.obj 11) (.str "said") τ = some (.obj 14, τ) := fun h => get_sd h (by rfl)
  have os : oLen [.obj 14] σ6 = some (.int sd.length, σ6) := by
    unfold oLen lenV
    dsimp only
    rw [look_at h14 rfl]
    simp
    omega
  rcases List.eq_nil_or_concat sd with q | ⟨ys, v, q⟩
  · subst q
    refine ⟨ρ4, σ6, _, _, _, _, _, _, _, ?_, base, fr6, F6.mono (by omega), by omega⟩
    have s5 : ∀ {X : DenS}, dsIf (cAnd (cVal (d2 oGt (dCall oLen (dCons (d2 oGet (dLoc "world") (dK (.str "said"))) dNil)) (dK (.int 0)))) (cAnd (cVal (d2 oEq (dCall d_l_draw (dCons (dLoc "feed") (dCons (dK (.int 2)) dNil))) (dK (.int 1)))) cTrue)) X dsNil ρ4 σ6 = some (.next, ρ4, σ6) := by
      intro X
      exists base.world, gs W6.world, os, oGt_int
    exists s1, s2, s3, s4, s5
  · rw [List.concat_eq_append] at q
    subst q
    obtain ⟨s, a, b, c, d, rfl, hs, hb⟩ := hsd v (by simp)
    obtain ⟨v7, σ7, h1, h2, h3, F7, f7, l7⟩ := e_draw (wide := 2) F6 (by omega) (by decide)
    have W7 := W6.fr f7 (fun i q => .inl (List.mem_singleton.mp q))
    have h14' : σ7[14]? = some (.lst (ys ++ [.tup [.int s, .lst [.int a, .int b], .lst [.int c, .int d]]])) := f7.at h14 (by decide)
    have hl' : (0 : Int) < (ys.length : Int) + 1 := by omega
    have wf4 := base.feed
    have ww4 := base.world
    have os' : oLen [.obj 14] σ6 = some (.int ((ys.length : Int) + 1), σ6) := by rw [os]; simp
    by_cases z : v7 = 1
    · subst z
      let ρ5 : Rho := ((ρ4.set "far" (.lst [.int a, .int b])).set "near" (.lst [.int c, .int d])).set "spot" (.int s)
      have gl : oGet (.obj 14) (.int (-1)) σ7 = some (.tup [.int s, .lst [.int a, .int b], .lst [.int c, .int d]], σ7) := by
        unfold oGet getV
        dsimp only
        rw [look_at h14' rfl]
        dsimp only
        rw [idx_last (by simp at hsl; omega)]; rfl
      have t0 : oGet (.tup [.int s, .lst [.int a, .int b], .lst [.int c, .int d]]) (.int 0) σ7 = some (.int s, σ7) := get_tup (i := 0) rfl (by decide)
      have t1 : oGet (.tup [.int s, .lst [.int a, .int b], .lst [.int c, .int d]]) (.int 1) σ7 = some (.lst [.int a, .int b], σ7) := get_tup (i := 1) rfl (by decide)
      have t2 : oGet (.tup [.int s, .lst [.int a, .int b], .lst [.int c, .int d]]) (.int 2) σ7 = some (.lst [.int c, .int d], σ7) := get_tup (i := 2) rfl (by decide)
      refine ⟨ρ5, σ7, s, c, d, a, b, v5, v6, ?_, ⟨wf4, ww4, base.lit, rfl, rfl, rfl, base.low, base.high, hs, by omega⟩, fr6.trans f7, F7, by omega⟩
      have s5 : dsIf (cAnd (cVal (d2 oGt (dCall oLen (dCons (d2 oGet (dLoc "world") (dK (.str "said"))) dNil)) (dK (.int 0)))) (cAnd (cVal (d2 oEq (dCall d_l_draw (dCons (dLoc "feed") (dCons (dK (.int 2)) dNil))) (dK (.int 1)))) cTrue)) (dsSeq (dsTupR ["spot", "near", "far"] (dTup (dCons (d2 oGet (d2 oGet (d2 oGet (dLoc "world") (dK (.str "said"))) (d1 oNeg (dK (.int 1)))) (dK (.int 0))) (dCons (d2 oGet (d2 oGet (d2 oGet (dLoc "world") (dK (.str "said"))) (d1 oNeg (dK (.int 1)))) (dK (.int 2))) (dCons (d2 oGet (d2 oGet (d2 oGet (dLoc "world") (dK (.str "said"))) (d1 oNeg (dK (.int 1)))) (dK (.int 1))) dNil))))) dsNil) dsNil ρ4 σ6 = some (.next, ρ5, σ7) := by
        exists ww4, wf4, gs W6.world, gs W7.world, os', oGt_int, hl', h1, oEq_int, oNeg_int, gl, t0, t1, t2
      simp only [dsSeq] at s5 ⊢
      simp only [s1, s2, s3, s4, s5, Option.bind_some, ρ0]
    · refine ⟨ρ4, σ7, _, _, _, _, _, _, _, ?_, base, fr6.trans f7, F7, by omega⟩
      have zf : (v7 == 1) = false := by simp [z]
      have s5 : ∀ {X : DenS}, dsIf (cAnd (cVal (d2 oGt (dCall oLen (dCons (d2 oGet (dLoc "world") (dK (.str "said"))) dNil)) (dK (.int 0)))) (cAnd (cVal (d2 oEq (dCall d_l_draw (dCons (dLoc "feed") (dCons (dK (.int 2)) dNil))) (dK (.int 1)))) cTrue)) X dsNil ρ4 σ6 = some (.next, ρ4, σ7) := by
        intro X
        exists ww4, wf4, gs W6.world, os', oGt_int, hl', h1, oEq_int, zf
      exists s1, s2, s3, s4, s5
end
section
theorem sy_eq : b_l_say = dsSeq sy1 (dsSeq sy2 (dsSeq sy3 (dsSeq sy4 (dsSeq sy5 (dsSeq sy6 (dsSeq sy7 (dsSeq sy8 (dsSeq sy9 (dsSeq sy10 (dsSeq sy11 (dsSeq sy12 dsNil))))))))))) := rfl
theorem say_bank {T : List Trm} {Ls : List Lt} {σ σ' : List AObj} {cx : List (Int × AV)} {T' : List Trm} {n : Nat} (W : WB T Ls cx σ) (G : Grown T T' σ σ' n) : WB T' Ls cx σ' := by
  obtain ⟨sd, h1, h2⟩ := W.said
  have k : ∀ i, 10 ≤ i -> i ∉ ([5, 6, 7, 8, 9] : List Nat) := fun i h q => by simp at q; omega
  exact ⟨G.bank, G.wf, G.fr.at W.world (k _ (by omega)), G.fr.at W.clause (k _ (by omega)), G.fr.at W.rows (k _ (by omega)), ⟨sd, G.fr.at h1 (k _ (by omega)), h2⟩, ⟨W.unk.1.mono G.ex, W.unk.2.1.mono G.ex, W.unk.2.2.1.mono G.ex, W.unk.2.2.2.mono G.ex⟩, fun L h => (W.lits L h).mono G.ex⟩
theorem put_id {σ : List AObj} {i : Nat} {l : List (Int × AV)} {k : Int} {v : AV} (h : σ[i]? = some (.id l)) (hl : l.length ≤ 1000) (hk : kvHas k l = false) : oSetItem (.obj i) (.int k) v σ = some (σ.set i (.id (l ++ [(k, v)]))) := by
  unfold oSetItem
  simp only [h]
  rw [if_pos hl]
  unfold kvPut
  rw [hk]
  simp
theorem say_c {T : List Trm} {Ls : List Lt} {σ : List AObj} {ρ : Rho} {x y : Nat} {so a b c d lo hi : Int} {st dn : Bool} (W : WB T Ls [] σ) (hT : T.length < 300) (pT : 0 < T.length) (hso : so = 1 ∨ so = 2) (ux : Unk T x so) (uy : Unk T y so) (hxy : x ≠ y)
    (bd : -2 ≤ a ∧ a ≤ 2 ∧ -2 ≤ b ∧ b ≤ 2 ∧ -2 ≤ c ∧ c ≤ 2 ∧ -2 ≤ d ∧ d ≤ 2 ∧ 0 ≤ lo ∧ lo ≤ 3 ∧ 0 ≤ hi ∧ hi ≤ 4)
    (rw_ : ρ "world" = some (.obj 11)) (rs : ρ "some" = some (.lst [.int x, .int y])) (rn : ρ "near" = some (.lst [.int a, .int b])) (rf : ρ "far" = some (.lst [.int c, .int d])) (rl : ρ "low" = some (.int lo)) (rh : ρ "high" = some (.int hi)) (rst : ρ "is_strict" = some (.bool st)) {R : DenS} :
    X5 fun (l r t : Nat) (T' : List Trm) (σ' : List AObj) => A6 (dsSeq sy8 (dsSeq sy9 R) ρ σ = R (((ρ.set "right" (.int r)).set "left" (.int l)).set "term" (.int t)) σ') (Grown T T' σ σ' 13) (Side T' x y l a b lo) (Side T' x y r c d hi) (T'[t]? = some ⟨if st then "<" else "<=", [(l : Int), (r : Int)], 0, .int 0⟩) (0 < t) := by
  obtain ⟨l, T1, σ1, a1, a2, a3, ⟨el, a4, a4'⟩, a5⟩ := e_side (k := lo) (n0 := a) (n1 := b) W.bank W.wf pT (by omega) hso ux uy hxy (by omega) (by omega) (by omega) (by omega) (by omega) (by omega)
  have h1 := a2.le
  have p1 : 0 < T1.length := by obtain ⟨z, rfl, _⟩ := a2.ext; simp; omega
  have W1 := say_bank W a2
  obtain ⟨r, T2, σ2, b1, b2, b3, ⟨er, b4, b4'⟩, b5⟩ := e_side (k := hi) (n0 := c) (n1 := d) W1.bank W1.wf p1 (by omega) hso (ux.mono a2.ex) (uy.mono a2.ex) hxy (by omega) (by omega) (by omega) (by omega) (by omega) (by omega)
  have h2 := b2.le
  have p2 : 0 < T2.length := by obtain ⟨z, rfl, _⟩ := b2.ext; simp; omega
  have W2 := say_bank W1 b2
  obtain ⟨t, T3, σ3, c1, c2, c3, c4⟩ := e_cmp (st := st) W2.bank W2.wf p2 (by omega) (b2.ex _ _ a4) b4 a4' b4' hso
  have gb : ∀ {τ : List AObj} {T : List Trm}, WB T Ls [] τ -> oGet (.obj 11) (.str "bank") τ = some (bankV, τ) := fun h => get_sd h.world (by rfl)
  refine ⟨l, r, t, T3, σ3, ?_, (a2.trans b2).trans c2, (a3.mono b2.ex).mono c2.ex, b3.mono c2.ex, c3, c4⟩
  have s8 : sy8 ρ σ = some (.next, (ρ.set "right" (.int r)).set "left" (.int l), σ2) := by
    (try unfold sy8; exists rw_, rs, rn, rf, rl, rh, gb W, gb W1, a1, b1; done)
  have ow : ∀ {nm : String} {τ : List AObj} {T : List Trm}, WB T Ls [] τ -> bankF.lookup nm = none -> ownOk 705 nm bankV τ = true := fun h q => h.bank.own q
  have s9 : sy9 ((ρ.set "right" (.int r)).set "left" (.int l)) σ2 = some (.next, ((ρ.set "right" (.int r)).set "left" (.int l)).set "term" (.int t), σ3) := by
    cases st with
    | true =>
      simp only [if_true] at c1
      (try unfold sy9; exists rw_, rst, gb W2, ow W2 (by rfl : bankF.lookup "lt" = none), c1; done)
    | false =>
      simp only [Bool.false_eq_true, if_false] at c1
      (try unfold sy9; exists rw_, rst, gb W2, ow W2 (by rfl : bankF.lookup "le" = none), c1; done)
  simp only [dsSeq, s8, s9, Option.bind_some]
theorem say_comp {ρ : Rho} {σ : List AObj} {tn a b c d : Int} (rt : ρ "turn" = some (.int tn)) (rn : ρ "near" = some (.lst [.int a, .int b])) (rf : ρ "far" = some (.lst [.int c, .int d])) (h : tn = 1 ∨ tn = -1) :
    dComp ["turn"] (iZip (dLoc "near") (dLoc "far")) (bindT ["a", "b"]) cTrue ce_l_say1 ρ σ = some (.lst [.int (tn * (a - c)), .int (tn * (b - d))], σ) := by
  have ht : Mine.small tn = true := by rcases h with rfl | rfl <;> decide
  simp [dComp, iZip, dLoc, rn, rf, compN, bindT, bindRho, cTrue, ce_l_say1, d2, captL, Rho.set, rt, oSub_int, oMul_int ht, unfrz]
theorem WB.said_app {T : List Trm} {Ls : List Lt} {cx : List (Int × AV)} {σ : List AObj} (W : WB T Ls cx σ) {sd : List AV} {v : AV} (h : σ[14]? = some (.lst sd)) (hv : SaidOk v) (hall : ∀ v ∈ sd, SaidOk v) (hl : sd.length < 100) : WB T Ls cx (σ.set 14 (.lst (sd ++ [v]))) := by
  have f : Fr [14] σ (σ.set 14 (.lst (sd ++ [v]))) := .set (.inl (.head _))
  have l14 : 14 < σ.length := (List.getElem?_eq_some_iff.mp h).1
  refine ⟨W.bank.fr f (fun i q => by simp at q; omega), W.wf, f.at W.world (by first | decide | simp), f.at W.clause (by first | decide | simp), f.at W.rows (by first | decide | simp), ⟨_, List.getElem?_set_self l14, ?_, by simp; omega⟩, W.unk, W.lits⟩
  intro u hu
  rcases List.mem_append.mp hu with q | q
  · exact hall u q
  · rw [List.mem_singleton] at q; subst q; exact hv
def SaidN (σ : List AObj) (n : Nat) : Prop := ∃ sd, σ[14]? = some (.lst sd) ∧ sd.length ≤ n
theorem say_lt {T : List Trm} {s a b c d lo hi tn cl : Int} {l r t : Nat} {st dn : Bool} (h01 : s = 0 ∨ s = 1) (ht : T[t]? = some ⟨if st then "<" else "<=", [(l : Int), (r : Int)], 0, .int 0⟩) (pt : 0 < t) (sl : Side T (xo s) (yo s) l a b lo) (sr : Side T (xo s) (yo s) r c d hi)
    (bd : -2 ≤ a ∧ a ≤ 2 ∧ -2 ≤ b ∧ b ≤ 2 ∧ -2 ≤ c ∧ c ≤ 2 ∧ -2 ≤ d ∧ d ≤ 2 ∧ 0 ≤ lo ∧ lo ≤ 3 ∧ 0 ≤ hi ∧ hi ≤ 4) (htn : tn = if dn then 1 else -1) (hcl : cl = if dn then -(t : Int) else (t : Int)) :
    LtOk T ⟨s, nm (tn * (a - c)) (g2 (tn * (a - c)) (tn * (b - d))), nm (tn * (b - d)) (g2 (tn * (a - c)) (tn * (b - d))), nb s (g2 (tn * (a - c)) (tn * (b - d))) (tn * (hi - lo)) (st == dn), nst s (g2 (tn * (a - c)) (tn * (b - d))) (st == dn), cl⟩ := by
  have hop : (if st then "<" else "<=") = "<" ∨ (if st then "<" else "<=") = "<=" := by
    cases st
    · exact .inr rfl
    · exact .inl rfl
  have hs : (if 0 < -cl then decide ((if st then "<" else "<=") = "<") else !decide ((if st then "<" else "<=") = "<")) = (st == dn) ∧ tn * (a - c) = (if 0 < -cl then a - c else c - a) ∧ tn * (b - d) = (if 0 < -cl then b - d else d - b) ∧ tn * (hi - lo) = (if 0 < -cl then hi - lo else lo - hi) ∧ (cl = (t : Int) ∨ cl = -(t : Int)) := by
    have n1 : ∀ {x y : Int}, -1 * (x - y) = y - x := fun {x y} => by omega
    cases dn with
    | true =>
      have p : 0 < -cl := by rw [hcl]; simp; omega
      rw [if_pos p, if_pos p, if_pos p, if_pos p, htn]
      exact ⟨by cases st <;> rfl, Int.one_mul _, Int.one_mul _, Int.one_mul _, .inr hcl⟩
    | false =>
      have p : ¬ 0 < -cl := by rw [hcl]; simp
      rw [if_neg p, if_neg p, if_neg p, if_neg p, htn]
      exact ⟨by cases st <;> rfl, n1, n1, n1, .inl hcl⟩
  obtain ⟨s1, s2, s3, s4, s5⟩ := hs
  refine ⟨h01, t, _, l, r, a, b, lo, c, d, hi, tn * (a - c), tn * (b - d), tn * (hi - lo), ht, hop, rfl, sl, sr, pt, s5, by omega, by omega, by omega, by omega, by omega, by omega, s2, s3, s4, rfl, rfl, ?_, ?_⟩
  · exact congrArg (nb s (g2 (tn * (a - c)) (tn * (b - d))) (tn * (hi - lo))) s1.symm
  · exact congrArg (nst s (g2 (tn * (a - c)) (tn * (b - d)))) s1.symm
theorem tn4 {tn x : Int} (h : tn = 1 ∨ tn = -1) (a : -4 ≤ x) (b : x ≤ 4) : -4 ≤ tn * x ∧ tn * x ≤ 4 := by
  rcases h with rfl | rfl <;> constructor <;> omega
theorem e_say {T : List Trm} {Ls : List Lt} {σ : List AObj} {n : Nat} (W : WB T Ls [] σ) (SN : SaidN σ Ls.length) (F : Feed σ n) (hn : n ≤ 4000) (hT : T.length < 300) (pT : 0 < T.length) (hL : Ls.length ≤ 8) :
    X3 fun T' L σ' => A8 (d_l_say [.obj 0, .obj 11] σ = some (.none, σ')) (WB T' (Ls ++ [L]) [] σ') (SaidN σ' (Ls.length + 1)) (Feed σ' (n + 9)) (T'.length ≤ T.length + 13) (0 < T'.length) (Fr [0, 5, 6, 7, 8, 9, 12, 13, 14] σ σ') (σ'.length = σ.length) := by
  obtain ⟨ρ0, σ0, s, a, b, c, d, lo, hi, ea, A, f0, F0, l0⟩ := say_a W F (by omega) (by omega) (R := dsSeq sy6 (dsSeq sy7 (dsSeq sy8 (dsSeq sy9 (dsSeq sy10 (dsSeq sy11 (dsSeq sy12 dsNil)))))))
  have W0 := W.fr f0 (fun i q => .inl (List.mem_singleton.mp q))
  obtain ⟨sd, hsd, hall, hlen⟩ := W0.said
  obtain ⟨sd', hsd', hlen'⟩ := SN
  have := (f0.at hsd' (by first | decide | simp)).symm.trans hsd
  simp only [Option.some.injEq, AObj.lst.injEq] at this
  subst this
  have gs : ∀ {τ : List AObj}, τ[11]? = some (.sd worldF) -> oGet (.obj 11) (.str "said") τ = some (.obj 14, τ) := fun h => get_sd h (by rfl)
  have gu : ∀ {τ : List AObj}, τ[11]? = some (.sd worldF) -> oGet (.obj 11) (.str "unknowns") τ = some (.lst [.lst [.int 3, .int 4], .lst [.int 5, .int 6]], τ) := fun h => get_sd h (by rfl)
  have gc : ∀ {τ : List AObj}, τ[11]? = some (.sd worldF) -> oGet (.obj 11) (.str "clause") τ = some (.obj 12, τ) := fun h => get_sd h (by rfl)
  have gr : ∀ {τ : List AObj}, τ[11]? = some (.sd worldF) -> oGet (.obj 11) (.str "rows") τ = some (.obj 13, τ) := fun h => get_sd h (by rfl)
  obtain ⟨v, hv⟩ : ∃ v : AV, v = .tup [.int s, .lst [.int a, .int b], .lst [.int c, .int d]] := ⟨_, rfl⟩
  have hvo : SaidOk v := ⟨s, a, b, c, d, hv, A.s01, by have := A.bd; omega⟩
  have l14 : 14 < σ0.length := (List.getElem?_eq_some_iff.mp hsd).1
  have W1 := W0.said_app hsd hvo hall (by omega)
  obtain ⟨σ1, hσ1⟩ : ∃ τ, τ = σ0.set 14 (.lst (sd' ++ [v])) := ⟨_, rfl⟩
  have f1 : Fr [14] σ0 σ1 := by rw [hσ1]; exact .set (.inl (.head _))
  have SN1 : SaidN σ1 (Ls.length + 1) := ⟨_, by rw [hσ1]; exact List.getElem?_set_self l14, by simp; omega⟩
  rw [← hσ1] at W1
  have s6 : sy6 ρ0 σ0 = some (.next, ρ0, σ1) := by
    have q : sd'.length ≤ 1000 := by omega
    have oa : oAppend [.obj 14, v] σ0 = some (.none, σ1) := by rw [ev_app hsd q, hσ1]
    rw [hv] at oa
    unfold sy6
    exists A.world, gs W0.world, ev_list (look_at hsd rfl), A.spot, A.near, A.far, oa
  have F1 : Feed σ1 (n + 7) := F0.fr f1 (by first | decide | simp)
  obtain ⟨v1, σ2, a1, _, _, F2, f2, l2⟩ := e_draw (wide := 2) F1 (by omega) (by decide)
  obtain ⟨v2, σ3, a2, _, _, F3, f3, l3⟩ := e_draw (wide := 2) F2 (by omega) (by decide)
  have f13 : Fr [0] σ1 σ3 := f2.trans f3
  have W3 := W1.fr f13 (fun i q => .inl (List.mem_singleton.mp q))
  obtain ⟨x, y, so, hx, hy, hso, ux, uy, hxy, hgi⟩ : ∃ x y so, xo s = ((x : Nat) : Int) ∧ yo s = ((y : Nat) : Int) ∧ (so = (1 : Int) ∨ so = 2) ∧ Unk T x so ∧ Unk T y so ∧ x ≠ y ∧ ∀ {τ}, oGet (.lst [.lst [.int 3, .int 4], .lst [.int 5, .int 6]]) (.int s) τ = some (.lst [.int x, .int y], τ) := by
    rcases A.s01 with rfl | rfl
    · exact ⟨3, 4, 1, rfl, rfl, .inl rfl, W.unk.1, W.unk.2.1, by decide, get_two.1⟩
    · exact ⟨5, 6, 2, rfl, rfl, .inr rfl, W.unk.2.2.1, W.unk.2.2.2, by decide, get_two.2⟩
  obtain ⟨st, hst⟩ : ∃ st : Bool, st = (v1 == 1) := ⟨_, rfl⟩
  obtain ⟨dn, hdn⟩ : ∃ dn : Bool, dn = (v2 == 1) := ⟨_, rfl⟩
  let ρ1 : Rho := ((ρ0.set "is_denied" (.bool dn)).set "is_strict" (.bool st)).set "some" (.lst [.int x, .int y])
  have s7 : sy7 ρ0 σ1 = some (.next, ρ1, σ3) := by
    have d1 : oEq (.int v1) (.int 1) σ2 = some (.bool st, σ2) := by rw [hst]; rfl
    have d2 : oEq (.int v2) (.int 1) σ3 = some (.bool dn, σ3) := by rw [hdn]; rfl
    unfold sy7
    exists A.world, A.feed, A.spot, gu W1.world, hgi, a1, a2, d1, d2
  obtain ⟨l, r, t, T', σ4, s89, G, sl, sr, ht, pt⟩ := say_c (ρ := ρ1) (σ := σ3) (st := st) (dn := dn) W3 hT pT hso ux uy hxy A.bd (A.world) rfl (A.near) (A.far) (A.low) (A.high) rfl (R := dsSeq sy10 (dsSeq sy11 (dsSeq sy12 dsNil)))
  have W4 := say_bank W3 G
  let ρ2 : Rho := ((ρ1.set "right" (.int r)).set "left" (.int l)).set "term" (.int t)
  obtain ⟨tn, htn⟩ : ∃ tn : Int, tn = if dn then 1 else -1 := ⟨_, rfl⟩
  obtain ⟨cl, hcl⟩ : ∃ cl : Int, cl = if dn then -(t : Int) else (t : Int) := ⟨_, rfl⟩
  let ρ3 : Rho := ρ2.set "turn" (.int tn)
  have s10 : sy10 ρ2 σ4 = some (.next, ρ3, σ4) := by
    have : ρ2 "is_denied" = some (.bool dn) := rfl
    have z : (dIf (cVal (dLoc "is_denied")) (dK (.int 1)) (d1 oNeg (dK (.int 1)))) ρ2 σ4 = some (.int tn, σ4) := by
      rw [htn]
      cases dn <;> exists this
    exact evs_set z
  have hc4 := W4.clause
  rw [List.append_nil] at hc4
  obtain ⟨σ5, hσ5⟩ : ∃ τ, τ = σ4.set 12 (.id (kvFrom clV 1 Ls ++ [((Ls.length : Int) + 1, .int cl)])) := ⟨_, rfl⟩
  have s11 : sy11 ρ3 σ4 = some (.next, ρ3, σ5) := by
    have e1 : ρ3 "is_denied" = some (.bool dn) := rfl
    have e2 : ρ3 "term" = some (.int t) := rfl
    have e3 : ρ3 "world" = some (.obj 11) := A.world
    have e4 : ρ3 "literal" = some (.int ((Ls.length : Int) + 1)) := A.lit
    have e5 : oSetItem (.obj 12) (.int ((Ls.length : Int) + 1)) (.int cl) σ4 = some σ5 := by
      rw [hσ5]
      exact put_id hc4 (by rw [kvFrom_len]; omega) (kvFrom_has (by omega))
    cases dn
    · have hcl : cl = (t : Int) := hcl
      rw [hcl] at e5
      unfold sy11
      exists e1, e2, e3, e4, gc W4.world, e5
    · have hcl : cl = -(t : Int) := hcl
      rw [hcl] at e5
      unfold sy11
      exists e1, e2, e3, e4, gc W4.world, oNeg_int, e5
  have f5 : Fr [12] σ4 σ5 := by rw [hσ5]; exact .set (.inl (.head _))
  have hr5 := f5.at W4.rows (by first | decide | simp)
  have hw5 := f5.at W4.world (by first | decide | simp)
  obtain ⟨g, hg⟩ : ∃ g, g = g2 (tn * (a - c)) (tn * (b - d)) := ⟨_, rfl⟩
  obtain ⟨L, hLd⟩ : ∃ L : Lt, L = ⟨s, nm (tn * (a - c)) g, nm (tn * (b - d)) g, nb s g (tn * (hi - lo)) (st == dn), nst s g (st == dn), cl⟩ := ⟨_, rfl⟩
  obtain ⟨σ6, hσ6⟩ : ∃ τ, τ = σ5.set 13 (.id (kvFrom rwV 1 Ls ++ [((Ls.length : Int) + 1, rwV L)])) := ⟨_, rfl⟩
  have htn' : tn = 1 ∨ tn = -1 := by
    cases dn
    · exact .inr htn
    · exact .inl htn
  have hts : Mine.small tn = true := by rcases htn' with q | q <;> rw [q] <;> decide
  have bd := A.bd
  have s12 : sy12 ρ3 σ5 = some (.next, ρ3, σ6) := by
    have e1 : ρ3 "is_denied" = some (.bool dn) := rfl
    have e2 : ρ3 "is_strict" = some (.bool st) := rfl
    have e3 : ρ3 "world" = some (.obj 11) := A.world
    have e4 : ρ3 "literal" = some (.int ((Ls.length : Int) + 1)) := A.lit
    have e6 : ρ3 "spot" = some (.int s) := A.spot
    have e7 : ρ3 "low" = some (.int lo) := A.low
    have e8 : ρ3 "high" = some (.int hi) := A.high
    have e9 : ρ3 "turn" = some (.int tn) := rfl
    have e10 := say_comp (a := a) (b := b) (c := c) (d := d) (ρ := ρ3) (σ := σ5) e9 (A.near) (A.far) htn'
    have e5 : oSetItem (.obj 13) (.int ((Ls.length : Int) + 1)) (rwV L) σ5 = some σ6 := by
      rw [hσ6]
      exact put_id hr5 (by rw [kvFrom_len]; omega) (kvFrom_has (by omega))
    have t4 := tn4 htn' (x := a - c) (by omega) (by omega)
    have t5 := tn4 htn' (x := b - d) (by omega) (by omega)
    have e11 := e_l_normal (spot := s) (n0 := tn * (a - c)) (n1 := tn * (b - d)) (b := tn * (hi - lo)) (st := st == dn) (σ := σ5) A.s01 t4.1 t4.2 t5.1 t5.2
    rw [← hg] at e11
    have e12 : ∀ τ : List AObj, oEq (.bool st) (.bool dn) τ = some (.bool (st == dn), τ) := fun τ => by cases st <;> cases dn <;> rfl
    have e13 : rwV L = .tup [.int s, .lst [.int (nm (tn * (a - c)) g), .int (nm (tn * (b - d)) g)], .int (nb s g (tn * (hi - lo)) (st == dn)), .bool (nst s g (st == dn))] := by rw [hLd]
    rw [← e13] at e11
    unfold sy12
    exists e10, oMul_int hts, e12 _, e11, gr hw5, e3, e4, e6, e7, e8, e9, e1, e2, e5
  have f6 : Fr [13] σ5 σ6 := by rw [hσ6]; exact .set (.inl (.head _))
  have f46 : Fr [12, 13] σ4 σ6 := (f5.mono (by first | decide | simp)).trans (f6.mono (by first | decide | simp))
  have l12 : 12 < σ4.length := (List.getElem?_eq_some_iff.mp hc4).1
  have l13 : 13 < σ5.length := (List.getElem?_eq_some_iff.mp hr5).1
  obtain ⟨sd4, q1, q2⟩ := W4.said
  have fall : Fr [0, 5, 6, 7, 8, 9, 12, 13, 14] σ σ6 := (((f0.mono (by first | decide | simp)).trans (f1.mono (by first | decide | simp))).trans (f13.mono (by first | decide | simp))).trans ((G.fr.mono (by first | decide | simp)).trans (f46.mono (by first | decide | simp)))
  refine ⟨T', L, σ6, ?_, ⟨W4.bank.fr f46 (fun i q => by simp at q; omega), W4.wf, f46.at W4.world (by first | decide | simp), ?_, ?_, ⟨sd4, f46.at q1 (by first | decide | simp), q2⟩, W4.unk, ?_⟩, ?_, ?_, G.le, ?_, fall, by rw [hσ6, List.length_set, hσ5, List.length_set, G.ln]; have : σ1.length = σ0.length := by { rw [hσ1, List.length_set] }; omega⟩
  · unfold d_l_say dFun
    rw [sy_eq]
    have hb : bindRho ["feed", "world"] [.obj 0, .obj 11] rho0 = some ((rho0.set "feed" (.obj 0)).set "world" (.obj 11)) := rfl
    rw [hb]
    simp only [Option.bind_some]
    have ea' : dsSeq sy1 (dsSeq sy2 (dsSeq sy3 (dsSeq sy4 (dsSeq sy5 (dsSeq sy6 (dsSeq sy7 (dsSeq sy8 (dsSeq sy9 (dsSeq sy10 (dsSeq sy11 (dsSeq sy12 dsNil))))))))))) ((rho0.set "feed" (.obj 0)).set "world" (.obj 11)) σ = some (.next, ρ3, σ6) := by
      refine Eq.trans ea ?_
      rw [show dsSeq sy6 (dsSeq sy7 (dsSeq sy8 (dsSeq sy9 (dsSeq sy10 (dsSeq sy11 (dsSeq sy12 dsNil)))))) ρ0 σ0 = dsSeq sy8 (dsSeq sy9 (dsSeq sy10 (dsSeq sy11 (dsSeq sy12 dsNil)))) ρ1 σ3 by
        generalize dsSeq sy8 (dsSeq sy9 (dsSeq sy10 (dsSeq sy11 (dsSeq sy12 dsNil)))) = X
        (exists s6, s7; done), s89]
      show dsSeq sy10 (dsSeq sy11 (dsSeq sy12 dsNil)) ρ2 σ4 = _
      exists s10, s11, s12
    rw [ea']
    rfl
  · rw [kvFrom_app, List.append_nil]
    have : σ6[12]? = some (.id (kvFrom clV 1 Ls ++ [((Ls.length : Int) + 1, .int cl)])) := f6.at (by rw [hσ5]; exact List.getElem?_set_self l12) (by first | decide | simp)
    rw [this]
    have e1 : (((1 + Ls.length : Nat) : Int)) = (Ls.length : Int) + 1 := by omega
    rw [e1, hLd]
  · rw [kvFrom_app]
    have e1 : (((1 + Ls.length : Nat) : Int)) = (Ls.length : Int) + 1 := by omega
    rw [e1, hσ6]
    exact List.getElem?_set_self l13
  · intro L' hL'
    rcases List.mem_append.mp hL' with q | q
    · exact W4.lits L' q
    rw [List.mem_singleton] at q
    subst q
    rw [hLd]
    rw [hg]
    exact say_lt A.s01 ht pt (by rw [hx, hy]; exact sl) (by rw [hx, hy]; exact sr) bd htn hcl
  · obtain ⟨sd1, z1, z2⟩ := SN1
    exact ⟨sd1, f46.at (G.fr.at (f13.at z1 (by first | decide | simp)) (by first | decide | simp)) (by first | decide | simp), z2⟩
  · exact (F3.fr G.fr (by first | decide | simp)).fr f46 (by first | decide | simp)
  · obtain ⟨z, rfl, _⟩ := G.ext; simp; omega
end
section
noncomputable def dw (l : DI) : List (Int × AV) := l.map fun p => (p.1, rt p.2 72)
theorem dw_get {k : Int} : ∀ {l : DI}, kvGet k (dw l) = (igetO k l).map fun n => rt n 72
  | [] => rfl
  | p :: r => by
    show (if p.1 = k then _ else _) = _
    unfold igetO
    by_cases q : p.1 = k
    · rw [if_pos q, if_pos q]; rfl
    · rw [if_neg q, if_neg q]; exact dw_get
theorem dw_has {k : Int} : ∀ {l : DI}, kvHas k (dw l) = ihas k l
  | [] => rfl
  | p :: r => by
    show (decide (p.1 = k) || kvHas k (dw r)) = _
    unfold ihas igetO
    by_cases q : p.1 = k
    · rw [if_pos q, decide_eq_true q]; rfl
    · rw [if_neg q, decide_eq_false q, Bool.false_or]; exact dw_has
theorem dw_map {k m : Int} : ∀ {l : DI}, kvMap k (rt m 72) (dw l) = dw (imap k m l)
  | [] => rfl
  | p :: r => by
    show (if p.1 = k then (p.1, rt m 72) else (p.1, rt p.2 72)) :: kvMap k (rt m 72) (dw r) = dw ((if p.1 = k then (p.1, m) else p) :: imap k m r)
    rw [dw_map]
    by_cases q : p.1 = k
    · rw [if_pos q, if_pos q]; rfl
    · rw [if_neg q, if_neg q]; rfl
theorem dw_put {k m : Int} {l : DI} : kvPut k (rt m 72) (dw l) = dw (iput k m l) := by
  unfold kvPut iput
  rw [dw_has]
  split
  · exact dw_map
  · unfold dw; rw [List.map_append]; rfl
theorem dw_len {l : DI} : (dw l).length = l.length := List.length_map _
theorem rt0 : rt 0 72 = vZERO := by kernel_rfl
theorem getOr_dw {σ : List AObj} {d : Nat} {l : DI} {k : Int} (h : σ[d]? = some (.id (dw l))) : oGetOr [.obj d, .int k, vZERO] σ = some (rt (iget k l) 72, σ) := by
  unfold oGetOr getOr
  dsimp only
  rw [look_at h rfl]
  dsimp only
  rw [dw_get]
  unfold iget
  cases igetO k l with
  | none => show some (vZERO, σ) = _; rw [← rt0]; rfl
  | some n => rfl
theorem put_dw {σ : List AObj} {d : Nat} {l : DI} {k m : Int} (h : σ[d]? = some (.id (dw l))) (hl : l.length ≤ 1000) : oSetItem (.obj d) (.int k) (rt m 72) σ = some (σ.set d (.id (dw (iput k m l)))) := by
  unfold oSetItem
  simp only [h]
  rw [if_pos (by rw [dw_len]; exact hl), dw_put]
theorem isD_id {σ : List AObj} {d : Nat} {l : List (Int × AV)} (h : σ[d]? = some (.id l)) : isDictV (.obj d) σ = true := by
  unfold isDictV; dsimp only; rw [look_at h rfl]
theorem iget_put {k m v : Int} {l : DI} (hn : (keys l).Nodup) : iget v (iput k m l) = if v = k then m else iget v l := by
  rw [← sum_delta (iput_nodup hn), ← sum_delta hn, sum_put hn]
  by_cases q : v = k
  · subst q
    rw [if_pos rfl, if_pos rfl, Int.mul_one, sum_delta hn]; omega
  · rw [if_neg (fun e => q e.symm), if_neg q]; omega
theorem attr_at {C : Addr} {x : String} {i : Nat} {fs : List (String × AV)} {v : AV} {σ : List AObj} (h : σ[i]? = some (.fld fs)) (hx : fs.lookup x = some v) : oAttr C x (.ins C i) σ = some (v, σ) := by
  unfold oAttr
  simp only [if_pos, look_at h rfl, hx, Option.map_some]
theorem setAttr_at {C : Addr} {x : String} {i : Nat} {fs : List (String × AV)} {v : AV} {σ : List AObj} (h : σ[i]? = some (.fld fs)) (hl : fs.length ≤ 100) : oSetAttr C x v (.ins C i) σ = some (σ.set i (.fld (fput x v fs))) := by
  unfold oSetAttr
  simp only [if_pos, h, if_pos hl]
def okO (o : Int) : Prop := o = 6 ∨ o = 12 ∨ o = 3 ∨ o = 9 ∨ o = 4
theorem md_of {n d : Int} (h0 : 0 < d) (h1 : d ≤ 1000) (h2 : -1000000 ≤ n) (h3 : n ≤ 1000000) : Md n d := ⟨h0, by omega, by omega, by omega⟩
theorem mul_le {o m : Int} {k : Int} (h : okO o) (h1 : -k ≤ m) (h2 : m ≤ k) (hk : 0 ≤ k) : -(12 * k) ≤ o * m ∧ o * m ≤ 12 * k := by
  rcases h with rfl | rfl | rfl | rfl | rfl <;> omega
theorem add_w {n o m : Int} {σ : List AObj} (h : okO o) (h1 : -1000 ≤ m) (h2 : m ≤ 1000) (h3 : -500000 ≤ n) (h4 : n ≤ 500000) : (d_mul [rt o 6, .tup [.int m, .int 1]] σ).bind (fun p => d_add [rt n 72, p.1] p.2) = some (rt (n + 12 * (o * m)) 72, σ) := by
  have hm := mul_le h h1 h2 (by decide)
  have e1 : d_mul [rt o 6, rt m 1] σ = some (rt (o * m) (6 * 1), σ) := e_mul (md_of (by decide) (by decide) (by rcases h with rfl | rfl | rfl | rfl | rfl <;> decide) (by rcases h with rfl | rfl | rfl | rfl | rfl <;> decide)) (md_of (by decide) (by decide) (by omega) (by omega))
  rw [rt_one] at e1
  rw [e1]
  have e2 : d_add [rt n 72, rt (o * m) (6 * 1)] σ = some (rt (n * (6 * 1) + o * m * 72) (72 * (6 * 1)), σ) := e_add (md_of (by decide) (by decide) (by omega) (by omega)) (md_of (by decide) (by decide) (by omega) (by omega))
  show d_add _ _ = _
  rw [e2, show n * (6 * 1) + o * m * 72 = 6 * (n + 12 * (o * m)) by omega, show (72 * (6 * 1) : Int) = 6 * 72 by decide, rt_scale (by decide)]
theorem add_b {n o B : Int} {σ : List AObj} (h : okO o) (h1 : -10000 ≤ B) (h2 : B ≤ 10000) (h3 : -500000 ≤ n) (h4 : n ≤ 500000) : (d_mul [rt o 6, rt B 12] σ).bind (fun p => d_add [rt n 72, p.1] p.2) = some (rt (n + o * B) 72, σ) := by
  have hm := mul_le h h1 h2 (by decide)
  have e1 : d_mul [rt o 6, rt B 12] σ = some (rt (o * B) (6 * 12), σ) := e_mul (md_of (by decide) (by decide) (by rcases h with rfl | rfl | rfl | rfl | rfl <;> decide) (by rcases h with rfl | rfl | rfl | rfl | rfl <;> decide)) (md_of (by decide) (by decide) (by omega) (by omega))
  rw [e1]
  have e2 : d_add [rt n 72, rt (o * B) (6 * 12)] σ = some (rt (n * (6 * 12) + o * B * 72) (72 * (6 * 12)), σ) := e_add (md_of (by decide) (by decide) (by omega) (by omega)) (md_of (by decide) (by decide) (by omega) (by omega))
  show d_add _ _ = _
  rw [e2, show n * (6 * 12) + o * B * 72 = 72 * (n + o * B) by omega, show (72 * (6 * 12) : Int) = 72 * 72 by decide, rt_scale (by decide)]
theorem put_loop {F p r q : Nat} {fF fr : List (String × AV)} {kvr : List (Int × AV)} {o : Int} {cf : Int -> Int} (hFp : F ≠ p) (hrp : r ≠ p) (hqp : q ≠ p) (hfF : fF.lookup "parts" = some (.obj p)) (hfr : fr.lookup "parts" = some (.obj q)) (ho : okO o) (hcf : ∀ u, -1000 ≤ cf u ∧ cf u ≤ 1000) : ∀ (us : List Int) (M : DI) (ρ : Rho) (σ : List AObj), ρ "self" = some (.ins 794 F) -> ρ "row" = some (.ins 754 r) -> ρ "weight" = some (rt o 6) -> σ[F]? = some (.fld fF) -> σ[p]? = some (.id (dw M)) -> σ[r]? = some (.fld fr) -> σ[q]? = some (.frz (.id kvr)) -> (∀ u ∈ us, kvGet u kvr = some (.int (cf u))) -> us.Nodup -> (keys M).Nodup -> M.length + us.length ≤ 100 -> (∀ u ∈ us, -500000 ≤ iget u M ∧ iget u M ≤ 500000) ->
    X3 fun ρ' σ' M' => A8 (forL (bindN "unknown") fb_RowSumput1 (us.map .int) ρ σ = some (.next, ρ', σ')) (σ'[p]? = some (.id (dw M'))) (Fr [p] σ σ') (σ'.length = σ.length) ((keys M').Nodup) ((∀ v ∈ keys M', v ∈ keys M ∨ v ∈ us)) ((∀ v, iget v M' = iget v M + if v ∈ us then 12 * (o * cf v) else 0)) (∀ z, z ≠ "unknown" -> ρ' z = ρ z)
  | [], M, ρ, σ, _, _, _, _, hp, _, _, _, _, hn, _, _ => ⟨ρ, σ, M, rfl, hp, .refl, rfl, hn, fun v h => .inl h, fun v => by simp, fun V V => rfl⟩
  | u :: us, M, ρ, σ, h1, h2, h3, hF, hp, hr, hq, hkv, hnd, hn, hl, hb => by
    rw [List.nodup_cons] at hnd
    simp only [List.length_cons] at hl
    have pl : p < σ.length := (List.getElem?_eq_some_iff.mp hp).1
    have ku := hkv u List.mem_cons_self
    have e0 : oGet (.obj q) (.int u) σ = some (.int (cf u), σ) := by
      unfold oGet getV
      dsimp only
      rw [look_frz hq]
      dsimp only
      rw [ku]; rfl
    have ea := add_w (n := iget u M) (o := o) (m := cf u) (σ := σ) ho (hcf u).1 (hcf u).2 (hb u List.mem_cons_self).1 (hb u List.mem_cons_self).2
    obtain ⟨pm, em, ea⟩ := Option.bind_eq_some_iff.mp ea
    obtain ⟨vm, τm⟩ := pm
    obtain ⟨M1, hM1⟩ : ∃ X, X = iput u (iget u M + 12 * (o * cf u)) M := ⟨_, rfl⟩
    obtain ⟨σ1, hσ1⟩ : ∃ X, X = σ.set p (.id (dw M1)) := ⟨_, rfl⟩
    have ep : oSetItem (.obj p) (.int u) (rt (iget u M + 12 * (o * cf u)) 72) σ = some σ1 := by
      rw [put_dw hp (by omega), hσ1, hM1]
    have e1 : fb_RowSumput1 (ρ.set "unknown" (.int u)) σ = some (.next, ρ.set "unknown" (.int u), σ1) := by
      unfold fb_RowSumput1
      exists h1, h2, h3, attr_at hF hfF, attr_at hr hfr, isD_id hp, getOr_dw hp, e0, em, ea, ep
    have f1 : Fr [p] σ σ1 := by rw [hσ1]; exact .set (.inl (.head _))
    have g1 : ∀ v, iget v M1 = if v = u then iget u M + 12 * (o * cf u) else iget v M := fun v => by rw [hM1, iget_put hn]
    obtain ⟨ρ', σ', M', w1, w2, w3, w4, w5, w6, w7, w8⟩ := put_loop (o := o) (cf := cf) hFp hrp hqp hfF hfr ho hcf us M1 (ρ.set "unknown" (.int u)) σ1 (h1) (h2) (h3) (f1.at hF (by simp [hFp])) (by rw [hσ1]; exact List.getElem?_set_self pl) (f1.at hr (by simp [hrp])) (f1.at hq (by simp [hqp])) (fun v hv => hkv v (List.mem_cons_of_mem _ hv)) hnd.2 (by rw [hM1]; exact iput_nodup hn) (by
      have : M1.length ≤ M.length + 1 := by
        have e := congrArg List.length (iput_keys (k := u) (m := iget u M + 12 * (o * cf u)) (l := M))
        rw [← hM1] at e
        unfold keys at e
        rw [List.length_map] at e
        split at e <;> simp at e <;> omega
      omega) (fun v hv => by
      have nu : v ≠ u := fun e => hnd.1 (e ▸ hv)
      rw [g1, if_neg nu]
      exact hb v (List.mem_cons_of_mem _ hv))
    refine ⟨ρ', σ', M', ?_, w2, f1.trans w3, by rw [w4, hσ1]; simp, w5, fun v hv => ?_, fun v => ?_, fun z hz => by rw [w8 z hz]; simp [Rho.set, hz]⟩
    · rw [List.map_cons]
      unfold forL
      simp only [bindN, Option.bind_some, e1, w1]
    · rcases w6 v hv with z | z
      · rw [hM1] at z
        rcases iput_mem z with z | z
        · exact .inl z
        · exact .inr (by rw [z]; exact List.mem_cons_self)
      · exact .inr (List.mem_cons_of_mem _ z)
    · rw [w7, g1]
      by_cases q1 : v = u
      · subst q1
        rw [if_pos rfl, if_neg hnd.1, if_pos List.mem_cons_self]; omega
      · rw [if_neg q1]
        by_cases q2 : v ∈ us
        · rw [if_pos q2, if_pos (List.mem_cons_of_mem _ q2)]
        · rw [if_neg q2, if_neg (by simp [q1, q2])]
structure SumIs (σ : List AObj) (F : Nat) (M : DI) (b : Int) (st : Bool) : Prop where
  tbl : σ[F]? = some (.fld [("parts", .obj (F + 1)), ("bound", rt b 72), ("is_strict", .bool st)])
  parts : σ[F + 1]? = some (.id (dw M))
  nd : (keys M).Nodup
  sub : ∀ v ∈ keys M, v = 3 ∨ v = 4 ∨ v = 5 ∨ v = 6
theorem SumIs.fr {S : List Nat} {σ σ' : List AObj} {F : Nat} {M : DI} {b : Int} {st : Bool} (h : SumIs σ F M b st) (f : Fr S σ σ') (hs : ∀ i ∈ S, i ≠ F ∧ i ≠ F + 1) : SumIs σ' F M b st :=
  ⟨f.at h.tbl (fun q => (hs _ q).1 rfl), f.at h.parts (fun q => (hs _ q).2 rfl), h.nd, h.sub⟩
theorem nd_len : ∀ {l m : List Int}, l.Nodup -> (∀ v ∈ l, v ∈ m) -> l.length ≤ m.length
  | [], _, _, _ => Nat.zero_le _
  | a :: r, m, h, s => by
    rw [List.nodup_cons] at h
    have ha := s a List.mem_cons_self
    have := nd_len (m := m.erase a) h.2 (fun v hv => (List.mem_erase_of_ne (by rintro rfl; exact h.1 hv)).mpr (s v (List.mem_cons_of_mem _ hv)))
    have e := List.length_erase_of_mem ha
    have : 0 < m.length := List.length_pos_of_mem ha
    simp only [List.length_cons]
    omega
theorem len4 {M : DI} (h : (keys M).Nodup) (hs : ∀ v ∈ keys M, v = 3 ∨ v = 4 ∨ v = 5 ∨ v = 6) : M.length ≤ 4 := by
  have : (keys M).length ≤ [(3 : Int), 4, 5, 6].length := (nd_len h (fun v hv => by simp; exact hs v hv))
  simpa using this
theorem pu_eq : b_RowSumput = dsSeq pu1 (dsSeq pu2 (dsSeq pu3 dsNil)) := rfl
theorem rowKv_get {x y m0 m1 u : Int} (hxy : x ≠ y) (h : u ∈ live x y m0 m1) : kvGet u (rowKv x y m0 m1) = some (.int (if u = x then m0 else m1)) := by
  unfold rowKv live at *
  by_cases a : m0 = 0 <;> by_cases b : m1 = 0 <;> simp [a, b] at h ⊢
  · subst h; simp [kvGet, hxy]
  · subst h; simp [kvGet, hxy]
  · rcases h with rfl | rfl
    · simp [kvGet]
    · simp [kvGet, hxy]
theorem live_nodup {x y m0 m1 : Int} (hxy : x ≠ y) : (live x y m0 m1).Nodup := by
  unfold live
  by_cases a : m0 = 0 <;> by_cases b : m1 = 0 <;> simp [a, b, hxy]
theorem live_le {x y m0 m1 : Int} : (live x y m0 m1).length ≤ 2 := by
  unfold live
  by_cases a : m0 = 0 <;> by_cases b : m1 = 0 <;> simp [a, b]
theorem live_cof {x y m0 m1 v : Int} (hxy : x ≠ y) {o : Int} : (if v ∈ live x y m0 m1 then 12 * (o * (if v = x then m0 else m1)) else 0) = 12 * (o * (if v = x then m0 else if v = y then m1 else 0)) := by
  unfold live
  by_cases c : v = x
  · subst c
    by_cases a : m0 = 0 <;> by_cases b : m1 = 0 <;> simp [a, b, hxy]
  · by_cases d : v = y
    · subst d
      by_cases a : m0 = 0 <;> by_cases b : m1 = 0 <;> simp [a, b, c]
    · by_cases a : m0 = 0 <;> by_cases b : m1 = 0 <;> simp [a, b, c, d]
theorem e_put {σ : List AObj} {F r : Nat} {M : DI} {b o x y m0 m1 B : Int} {st st2 : Bool} (S : SumIs σ F M b st) (R : RowIs (F + 2) σ r x y m0 m1 B st2) (ho : okO o) (hxy : x ≠ y) (hx : x = 3 ∨ x = 5) (hy : y = 4 ∨ y = 6) (a1 : -100 ≤ m0) (a2 : m0 ≤ 100) (b1 : -100 ≤ m1) (b2 : m1 ≤ 100) (c1 : -10000 ≤ B) (c2 : B ≤ 10000) (d1' : -500000 ≤ b) (d2' : b ≤ 500000) (hM : ∀ v, -500000 ≤ iget v M ∧ iget v M ≤ 500000) :
    X2 fun σ' M' => A5 (d_RowSumput [.ins 794 F, .ins 754 r, rt o 6] σ = some (.none, σ')) (SumIs σ' F M' (b + o * B) (st || st2)) ((∀ v, iget v M' = iget v M + 12 * (o * (if v = x then m0 else if v = y then m1 else 0)))) (Fr [F, F + 1] σ σ') (σ'.length = σ.length) := by
  obtain ⟨q, R1, R2, R3, R4, R5⟩ := R.ex
  have lq : q < σ.length := (List.getElem?_eq_some_iff.mp R2).1
  have lF : F < σ.length := (List.getElem?_eq_some_iff.mp S.tbl).1
  let ρ0 : Rho := ((rho0.set "self" (.ins 794 F)).set "row" (.ins 754 r)).set "weight" (rt o 6)
  obtain ⟨σ1, h1⟩ : ∃ τ, τ = σ.set q (.frz (.id (rowKv x y m0 m1))) := ⟨_, rfl⟩
  have f1 : Fr [q] σ σ1 := by rw [h1]; exact .set (.inl (.head _))
  have ml := len4 S.nd S.sub
  obtain ⟨ρ2, σ2, M', w1, w2, w3, w4, w5, w6, w7, w8⟩ := put_loop (F := F) (p := F + 1) (r := r) (q := q) (o := o) (cf := fun u => if u = x then m0 else m1) (kvr := rowKv x y m0 m1) (by omega) (by omega) (by omega) (by rfl) (by rfl) ho (fun u => by by_cases e : u = x <;> simp [e] <;> omega) (live x y m0 m1) M ρ0 σ1 rfl rfl rfl (f1.at S.tbl (by simp; omega)) (f1.at S.parts (by simp; omega)) (f1.at R1 (by simp; omega)) (by rw [h1]; exact List.getElem?_set_self lq) (fun u hu => rowKv_get hxy hu) (live_nodup hxy) S.nd (by have := @live_le x y m0 m1; omega) (fun u V => hM u)
  obtain ⟨σ3, h3⟩ : ∃ τ, τ = σ2.set q (.id (rowKv x y m0 m1)) := ⟨_, rfl⟩
  have q2 : σ2[q]? = some (.frz (.id (rowKv x y m0 m1))) := w3.at (by rw [h1]; exact List.getElem?_set_self lq) (by simp; omega)
  have f3 : Fr [q] σ2 σ3 := by rw [h3]; exact .set (.inl (.head _))
  have F3 : σ3[F]? = some (.fld [("parts", .obj (F + 1)), ("bound", rt b 72), ("is_strict", .bool st)]) := f3.at (w3.at (f1.at S.tbl (by simp; omega)) (by simp)) (by simp; omega)
  have R13 : σ3[r]? = some (.fld [("parts", .obj q), ("bound", rt B 12), ("is_strict", .bool st2)]) := f3.at (w3.at (f1.at R1 (by simp; omega)) (by simp; omega)) (by simp; omega)
  have P3 : σ3[F + 1]? = some (.id (dw M')) := f3.at w2 (by simp; omega)
  have e1 : pu1 ρ0 σ = some (.next, ρ2, σ3) := by
    unfold pu1 dsFor iDict
    have z1 : (d1 (oAttr 754 "parts") (dLoc "row")) ρ0 σ = some (.obj q, σ) := by
      simp [d1, dLoc, ρ0, Rho.set, attr_at R1]
    have z2 : (rowKv x y m0 m1).length ≤ 1000 := by unfold rowKv; rw [List.length_map]; have := @live_le x y m0 m1; omega
    have z3 : (rowKv x y m0 m1).map (fun q => AV.int q.1) = (live x y m0 m1).map .int := by unfold rowKv; rw [List.map_map]; rfl
    simp only [z1, Option.bind_some, R2, if_pos z2, z3, ← h1, w1, unfrz, q2, ← h3]
  have add := add_b (n := b) (o := o) (B := B) (σ := σ3) ho c1 c2 d1' d2'
  obtain ⟨⟨vm, τm⟩, em, ea⟩ := Option.bind_eq_some_iff.mp add
  obtain ⟨σ4, h4⟩ : ∃ τ, τ = σ3.set F (.fld [("parts", .obj (F + 1)), ("bound", rt (b + o * B) 72), ("is_strict", .bool st)]) := ⟨_, rfl⟩
  have f4 : Fr [F] σ3 σ4 := by rw [h4]; exact .set (.inl (.head _))
  have l3 : F < σ3.length := (List.getElem?_eq_some_iff.mp F3).1
  have F4 : σ4[F]? = some (.fld [("parts", .obj (F + 1)), ("bound", rt (b + o * B) 72), ("is_strict", .bool st)]) := by rw [h4]; exact List.getElem?_set_self l3
  have R14 := f4.at R13 (by simp; omega)
  have e2 : pu2 ρ2 σ3 = some (.next, ρ2, σ4) := by
    have r1 : ρ2 "self" = some (.ins 794 F) := by rw [w8 _ (by decide)]; rfl
    have r2 : ρ2 "row" = some (.ins 754 r) := by rw [w8 _ (by decide)]; rfl
    have r3 : ρ2 "weight" = some (rt o 6) := by rw [w8 _ (by decide)]; rfl
    have s1 := setAttr_at (C := 794) (x := "bound") (v := rt (b + o * B) 72) F3 (by simp)
    have s2 : fput "bound" (rt (b + o * B) 72) [("parts", .obj (F + 1)), ("bound", rt b 72), ("is_strict", .bool st)] = [("parts", .obj (F + 1)), ("bound", rt (b + o * B) 72), ("is_strict", .bool st)] := rfl
    rw [s2, ← h4] at s1
    have a1 := attr_at (C := 794) (x := "bound") F3 (by rfl)
    have a2 := attr_at (C := 754) (x := "bound") R13 (by rfl)
    (try unfold pu2; exists r1, r2, r3, a1, a2, em, ea, s1; done)
  obtain ⟨σ5, h5⟩ : ∃ τ, τ = if st2 then σ4.set F (.fld [("parts", .obj (F + 1)), ("bound", rt (b + o * B) 72), ("is_strict", .bool true)]) else σ4 := ⟨_, rfl⟩
  have l4 : F < σ4.length := (List.getElem?_eq_some_iff.mp F4).1
  have f5 : Fr [F] σ4 σ5 := by
    rw [h5]
    cases st2
    · exact .refl
    · exact .set (.inl (.head _))
  have n5 : σ5.length = σ4.length := by rw [h5]; cases st2 <;> simp
  have n4 : σ4.length = σ3.length := by rw [h4]; exact List.length_set
  have n3 : σ3.length = σ2.length := by rw [h3]; exact List.length_set
  have n1 : σ1.length = σ.length := by rw [h1]; exact List.length_set
  have e3 : pu3 ρ2 σ4 = some (.next, ρ2, σ5) := by
    have r1 : ρ2 "self" = some (.ins 794 F) := by rw [w8 _ (by decide)]; rfl
    have r2 : ρ2 "row" = some (.ins 754 r) := by rw [w8 _ (by decide)]; rfl
    have a2 := attr_at (C := 754) (x := "is_strict") R14 (by rfl)
    cases st2 with
    | false =>
      rw [h5]
      show pu3 ρ2 σ4 = some (.next, ρ2, σ4)
      unfold pu3
      exists r2, a2
    | true =>
      have s1 := setAttr_at (C := 794) (x := "is_strict") (v := .bool true) F4 (by simp)
      have s2 : fput "is_strict" (.bool true) [("parts", .obj (F + 1)), ("bound", rt (b + o * B) 72), ("is_strict", .bool st)] = [("parts", .obj (F + 1)), ("bound", rt (b + o * B) 72), ("is_strict", .bool true)] := rfl
      rw [s2] at s1
      rw [h5]
      show pu3 ρ2 σ4 = some (.next, ρ2, σ4.set F _)
      unfold pu3
      exists r2, r1, a2, s1
  have fr3 : Fr [F + 1, q] σ σ3 := ((f1.mono (by simp)).trans (w3.mono (by simp))).trans (f3.mono (by simp))
  have fr3' : Fr [F + 1] σ σ3 := ⟨fr3.le, fun i hi hn => by
    by_cases e : i = q
    · subst e
      rw [h3, List.getElem?_set_self (by omega), R2]
    · exact fr3.eq i hi (by simp at hn; simp [hn, e])⟩
  refine ⟨σ5, M', ?_, ⟨?_, ?_, w5, ?_⟩, ?_, (fr3'.mono (by simp)).trans ((f4.mono (by simp)).trans (f5.mono (by simp))), by omega⟩
  · unfold d_RowSumput dFun
    have hb : bindRho ["self", "row", "weight"] [.ins 794 F, .ins 754 r, rt o 6] rho0 = some ρ0 := rfl
    rw [pu_eq, hb]
    simp only [dsSeq, e1, e2, e3, Option.bind_some, dsNil]
  · rw [h5]
    cases st2 with
    | false => simp only [Bool.or_false, Bool.false_eq_true, if_false]; exact F4
    | true => simp only [Bool.or_true, if_true]; exact List.getElem?_set_self l4
  · exact f5.at (f4.at P3 (by simp)) (by simp)
  · intro v hv
    rcases w6 v hv with z | z
    · exact S.sub v z
    · rcases live_mem z with ⟨rfl, _⟩ | ⟨rfl, _⟩
      · rcases hx with h | h <;> simp [h]
      · rcases hy with h | h <;> simp [h]
  · intro v
    rw [w7 v, live_cof hxy]
end
section
theorem sb_eq : fb_RowJudgesum_of1 = dsSeq sb1 (dsSeq sb2 (dsSeq sb3 (dsSeq sb4 (dsSeq sb5 (dsSeq sb6 dsNil))))) := rfl
theorem su_eq : b_RowJudgesum_of = dsSeq su1 (dsSeq su2 (dsSeq su3 (dsSeq su4 dsNil))) := rfl
theorem ro_eq : b_RowJudgerow_of = dsSeq ro1 (dsSeq ro2 (dsSeq ro3 (dsSeq ro4 (dsSeq ro5 (dsSeq ro6 (dsSeq ro7 (dsSeq ro8 (dsSeq ro9 dsNil)))))))) := rfl
theorem is_tup2 {a b : AV} {σ : List AObj} : d_is_tuple_of [.tup [a, b], .int 2] σ = some (.bool true, σ) := by kernel_rfl
theorem is_num {i : Int} {σ : List AObj} : d_is_number [.int i] σ = some (.bool true, σ) := by kernel_rfl
theorem is_wt {o : Int} (h : okO o) {σ : List AObj} : d_is_above_nought [rt o 6] σ = some (.bool true, σ) := by
  rcases h with rfl | rfl | rfl | rfl | rfl <;> kernel_rfl
theorem LtOk.small {T : List Trm} {L : Lt} (h : LtOk T L) : A5 (-100 ≤ L.m0) (L.m0 ≤ 100) (-100 ≤ L.m1) (L.m1 ≤ 100) (-10000 ≤ L.B ∧ L.B ≤ 10000) := by
  obtain ⟨t, e, l, r, a0, a1, ka, c0, c1, kc, n0, n1, b, q1, q2, q3, q4, q5, q6, q7, k1, k2, k3, k4, k5, k6, z1, z2, z3, z4, z5, z6, z7⟩ := h.ex
  have hn0 : -4 ≤ n0 ∧ n0 ≤ 4 := by rw [z1]; split <;> omega
  have hn1 : -4 ≤ n1 ∧ n1 ≤ 4 := by rw [z2]; split <;> omega
  have hb : -100 ≤ b ∧ b ≤ 100 := by rw [z3]; split <;> omega
  rw [z4, z5, z6]
  generalize (if 0 < -L.c then decide (e.op = "<") else !decide (e.op = "<")) = st
  have g0 : 0 ≤ g2 n0 n1 := by show (0 : Int) ≤ ((Int.gcd n0 n1 : Nat) : Int); omega
  have g4 : g2 n0 n1 ≤ 4 := by
    by_cases q : n0 ≠ 0 ∨ n1 ≠ 0
    · exact g2_le4 q hn0.1 hn0.2 hn1.1 hn1.2
    · have e0 : n0 = 0 := by omega
      have e1 : n1 = 0 := by omega
      rw [e0, e1, g2_zero]; decide
  generalize g2 n0 n1 = g at g0 g4
  have hg : g = 0 ∨ g = 1 ∨ g = 2 ∨ g = 3 ∨ g = 4 := by omega
  unfold nm nb
  rcases hg with rfl | rfl | rfl | rfl | rfl <;> simp only [if_pos, if_neg, reduceIte, Int.reduceEq] <;> (refine ⟨by omega, by omega, by omega, by omega, ?_⟩) <;> first | omega | (split <;> first | omega | (cases st <;> simp only [if_true, if_false, Bool.false_eq_true] <;> omega))
structure UnkAll (T : List Trm) : Prop where
  i3 : Unk T 3 1
  i4 : Unk T 4 1
  i5 : Unk T 5 2
  i6 : Unk T 6 2
theorem unk_sort {T : List Trm} (U : UnkAll T) {s : Int} (hs : s = 0 ∨ s = 1) {u : Int} (hu : u = xo s ∨ u = yo s) (τ : List AObj) (J : JudgeR T τ) : d_Banksort [bankV, .int u] τ = some (.int (1 + s), τ) := by
  have k : ∀ {x : Nat} {s : Int}, Unk T x s -> d_Banksort [bankV, .int (x : Nat)] τ = some (.int s, τ) := fun {x s} h => by
    obtain ⟨e, h1, h2, h3⟩ := h.ex
    rw [J.bank.e_sort h1, h3]
  rcases hs with rfl | rfl <;> rcases hu with rfl | rfl
  · exact k U.i3
  · exact k U.i4
  · exact k U.i5
  · exact k U.i6
theorem xy_lt {s : Int} : xo s < yo s := by unfold xo yo; split <;> decide
theorem lit_row {T : List Trm} {σ : List AObj} {L : Lt} (J : JudgeR T σ) (U : UnkAll T) (h16 : 16 ≤ σ.length) (h : LtOk T L) : X2 fun σ' r => A3 (d_RowJudgerow_of [judgeV, .int (-L.c)] σ = some (.ins 754 r, σ')) (Fr [] σ σ') (RowIs σ.length σ' r (xo L.spot) (yo L.spot) L.m0 L.m1 L.B L.st) := by
  obtain ⟨t, e, l, r, a0, a1, ka, c0, c1, kc, n0, n1, b, q1, q2, q3, q4, q5, q6, q7, k1, k2, k3, k4, k5, k6, z1, z2, z3, z4, z5, z6, z7⟩ := h.ex
  have := e_row_of (c := -L.c) (spot := L.spot) J h16 xy_lt q1 q2 q3 q4 q5 q6 (by omega) k1 k2 k3 k4 k5 k6 h.spot (fun u hu τ J' => unk_sort U h.spot hu τ J')
  rw [← z1, ← z2, ← z3, ← z4, ← z5, ← z6, ← z7] at this
  exact this
theorem no_row {T : List Trm} {σ : List AObj} {t : Nat} {e : Trm} {c : Int} (J : JudgeR T σ) (he : T[t]? = some e) (ho : e.op = "app") (hc : c = -(t : Int)) : d_RowJudgerow_of [judgeV, .int c] σ = some (.none, σ) := by
  unfold d_RowJudgerow_of dFun
  rw [ro_eq]
  have hb : bindRho ["self", "one"] [judgeV, .int c] rho0 = some ((rho0.set "self" judgeV).set "one" (.int c)) := rfl
  rw [hb]
  have s1 : ro1 ((rho0.set "self" judgeV).set "one" (.int c)) σ = some (.next, ((rho0.set "self" judgeV).set "one" (.int c)).set "t" (.int t), σ) := by
    have : (if c < 0 then -c else c) = (t : Int) := by split <;> omega
    unfold ro1
    exists oAbs_int this
  have s2 : ro2 (((rho0.set "self" judgeV).set "one" (.int c)).set "t" (.int t)) σ = some (.ret .none, ((rho0.set "self" judgeV).set "one" (.int c)).set "t" (.int t), σ) := by
    have eo := J.bank.e_op he
    rw [ho] at eo
    have en : oNotIn (.str "app") (.tup [.str "<=", .str "<"]) σ = some (.bool true, σ) := by kernel_rfl
    (try unfold ro2; exists J.attr, J.bank.own (m := "op") (by rfl), eo, en; done)
  simp only [dsSeq, s1, s2, Option.bind_some]
end
section
theorem cps {P : Prop} (h : ∀ G : Prop, (P -> G) -> G) : P := h P id
noncomputable def Lat (Ls : List Lt) (i : Nat) : Lt := (Ls[i]?).getD ⟨0, 0, 0, 0, false, 0⟩
noncomputable abbrev pairV (p : Nat × Int) : AV := .tup [.int ((p.1 : Int) + 1), rt p.2 6]
noncomputable def cofL (L : Lt) (v : Int) : Int := if v = xo L.spot then L.m0 else if v = yo L.spot then L.m1 else 0
theorem kv_get {f : Lt -> AV} {cx : List (Int × AV)} : ∀ {l : List Lt} {s i : Nat}, i < l.length -> kvGet (((s + i : Nat)) : Int) (kvFrom f s l ++ cx) = some (f (Lat l i))
  | [], _, _, h => absurd h (by simp)
  | x :: r, s, 0, _ => by
    show (if (s : Int) = ((s + 0 : Nat) : Int) then some (f x) else _) = _
    rw [if_pos (by omega)]; rfl
  | x :: r, s, i + 1, h => by
    show (if (s : Int) = ((s + (i + 1) : Nat) : Int) then some (f x) else kvGet _ (kvFrom f (s + 1) r ++ cx)) = _
    rw [if_neg (by omega), show s + (i + 1) = (s + 1) + i by omega, kv_get (by simp at h; omega)]
    rfl
theorem kvHas_of {K : Type} [DecidableEq K] {k : K} {v : AV} : ∀ {l : List (K × AV)}, kvGet k l = some v -> kvHas k l = true
  | [], h => by exact no h
  | p :: r, h => by
    show (decide (p.1 = k) || kvHas k r) = true
    by_cases q : p.1 = k
    · rw [decide_eq_true q]; rfl
    · have : (if p.1 = k then some p.2 else kvGet k r) = some v := h
      rw [if_neg q] at this
      rw [kvHas_of this, Bool.or_true]
theorem kvHas_app {K : Type} [DecidableEq K] {k : K} : ∀ {l m : List (K × AV)}, kvHas k (l ++ m) = (kvHas k l || kvHas k m)
  | [], m => by simp [kvHas]
  | p :: r, m => by
    show (decide (p.1 = k) || kvHas k (r ++ m)) = ((decide (p.1 = k) || kvHas k r) || kvHas k m)
    rw [kvHas_app, Bool.or_assoc]
theorem inV_id {σ : List AObj} {d : Nat} {l : List (Int × AV)} {k : Int} (h : σ[d]? = some (.id l)) : inV (.int k) (.obj d) σ = some (kvHas k l) := by
  unfold inV; dsimp only; rw [look_at h rfl]
theorem get_id {σ : List AObj} {d : Nat} {l : List (Int × AV)} {k : Int} {v : AV} (h : σ[d]? = some (.id l)) (hk : kvGet k l = some v) : oGet (.obj d) (.int k) σ = some (v, σ) := by
  unfold oGet getV
  dsimp only
  rw [look_at h rfl]
  dsimp only
  rw [hk]; rfl
structure SumC (T : List Trm) (Ls : List Lt) (cx : List (Int × AV)) (F : Nat) (σ : List AObj) (done : List Int) (M : DI) (b : Int) (st : Bool) : Prop where
  J : JudgeR T σ
  clause : σ[12]? = some (.id (kvFrom clV 1 Ls ++ cx))
  seen : ∃ sk, A3 (σ[F + 2]? = some (.id sk)) ((∀ k, kvHas k sk = decide (k ∈ done))) (sk.length = done.length)
  sum : SumIs σ F M b st
  le : F + 3 ≤ σ.length
  h16 : 16 ≤ F
structure SumRho (ρ : Rho) (F : Nat) : Prop where
  self : ρ "self" = some judgeV
  clause : ρ "clause" = some (.obj 12)
  found : ρ "found" = some (.ins 794 F)
  seen : ρ "seen" = some (.obj (F + 2))
theorem own_of {C : Addr} {m : String} {i : Nat} {fs : List (String × AV)} {σ : List AObj} (h : σ[i]? = some (.fld fs)) (hm : fs.lookup m = none) : ownOk C m (.ins C i) σ = true := by
  unfold ownOk
  dsimp only
  rw [look_at h rfl]
  simp [hm]
theorem sum_step {T : List Trm} {Ls : List Lt} {cx : List (Int × AV)} {F : Nat} {σ : List AObj} {done : List Int} {M : DI} {b : Int} {st : Bool} {ρ : Rho} {p : Nat × Int} (S : SumC T Ls cx F σ done M b st) (R : SumRho ρ F) (U : UnkAll T) (hL : ∀ L ∈ Ls, LtOk T L) (hp : p.1 < Ls.length) (ho : okO p.2) (hd : (p.1 : Int) + 1 ∉ done) (hdl : done.length ≤ 50) (b1 : -500000 ≤ b) (b2 : b ≤ 500000) (hM : ∀ v, -500000 ≤ iget v M ∧ iget v M ≤ 500000) :
    X3 fun ρ' σ' M' => A5 (fb_RowJudgesum_of1 (ρ.set "pair" (pairV p)) σ = some (.next, ρ', σ')) (SumC T Ls cx F σ' (((p.1 : Int) + 1) :: done) M' (b + p.2 * (Lat Ls p.1).B) (st || (Lat Ls p.1).st)) ((∀ v, iget v M' = iget v M + 12 * (p.2 * cofL (Lat Ls p.1) v))) (Fr [F, F + 1, F + 2] σ σ') (SumRho ρ' F) := by
  have hLt : LtOk T (Lat Ls p.1) := by
    unfold Lat
    rw [List.getElem?_eq_getElem hp]
    exact hL _ (List.getElem_mem hp)
  generalize hL0 : Lat Ls p.1 = L at hLt ⊢
  refine cps fun G k_ => ?_
  obtain ⟨sk, k1, k2, k3⟩ := S.seen
  have h16 := S.h16
  have hc : kvGet ((p.1 : Int) + 1) (kvFrom clV 1 Ls ++ cx) = some (.int L.c) := by
    have := kv_get (f := clV) (cx := cx) (s := 1) hp
    rw [hL0] at this
    rw [show (p.1 : Int) + 1 = ((1 + p.1 : Nat) : Int) by omega]; exact this
  let ρ0 : Rho := ρ.set "pair" (pairV p)
  have rp : ρ0 "pair" = some (pairV p) := rfl
  have rs : ρ0 "self" = some judgeV := R.self
  have rc : ρ0 "clause" = some (.obj 12) := R.clause
  have rf : ρ0 "found" = some (.ins 794 F) := R.found
  have re : ρ0 "seen" = some (.obj (F + 2)) := R.seen
  have g0 : ∀ τ, oGet (pairV p) (.int 0) τ = some (.int ((p.1 : Int) + 1), τ) := fun τ => get_tup (i := 0) rfl (by decide)
  have g1 : ∀ τ, oGet (pairV p) (.int 1) τ = some (rt p.2 6, τ) := fun τ => get_tup (i := 1) rfl (by decide)
  have t2 : d_is_tuple_of [pairV p, .int 2] σ = some (.bool true, σ) := is_tup2
  have e1 : sb1 ρ0 σ = some (.next, ρ0, σ) := by
    unfold sb1
    exists rp, t2, g0, g1, is_num, is_wt ho
  have e2 : sb2 ρ0 σ = some (.next, ρ0, σ) := by
    unfold sb2
    exists rp, rc, re, g0, ev_ninF ((inV_id S.clause).trans (congrArg some (kvHas_of hc))), ev_inF ((inV_id k1).trans (congrArg some ((k2 _).trans (decide_eq_false hd))))
  obtain ⟨σ1, h1⟩ : ∃ τ, τ = σ.set (F + 2) (.id (sk ++ [((p.1 : Int) + 1, .bool true)])) := ⟨_, rfl⟩
  have f1 : Fr [F + 2] σ σ1 := by rw [h1]; exact .set (.inl (.head _))
  have l2 : F + 2 < σ.length := S.le
  have e3 : sb3 ρ0 σ = some (.next, ρ0, σ1) := by
    have := put_id (k := (p.1 : Int) + 1) (v := .bool true) k1 (by omega) (by rw [k2, decide_eq_false hd])
    rw [← h1] at this
    (try unfold sb3; exists rp, re, g0, this; done)
  have J1 := S.J.fr f1 (fun i q => by simp at q; omega)
  have c1 := f1.at S.clause (by simp; omega)
  have n1 : σ1.length = σ.length := by rw [h1]; exact List.length_set
  obtain ⟨σ2, r, w1, w2, w3⟩ := lit_row J1 U (by omega) hLt
  have J2 := J1.fr w2 (fun i q => by cases q)
  have e4 : sb4 ρ0 σ1 = some (.next, ρ0.set "row" (.ins 754 r), σ2) := by
    (try unfold sb4; exists rs, rc, rp, own_of (C := 869) (m := "row_of") J1.tbl (by rfl), g0, get_id c1 hc, oNeg_int, w1; done)
  have e5 : sb5 (ρ0.set "row" (.ins 754 r)) σ2 = some (.next, ρ0.set "row" (.ins 754 r), σ2) := by
    have : oIs (.ins 754 r) .none σ2 = some (.bool false, σ2) := rfl
    (try unfold sb5; exists this; done)
  have S2 := (S.sum.fr f1 (fun i q => by simp at q; omega)).fr w2 (fun i q => by cases q)
  obtain ⟨s1, s2, s3, s4, s5, s6⟩ := hLt.small
  obtain ⟨σ3, M', v1, v2, v3, v4, v5⟩ := e_put (o := p.2) S2 (w3.mono (by omega)) ho (by have := @xy_lt L.spot; omega) (by rcases hLt.spot with q | q <;> rw [q] <;> decide) (by rcases hLt.spot with q | q <;> rw [q] <;> decide) s1 s2 s3 s4 s5 s6 b1 b2 hM
  have e6 : sb6 (ρ0.set "row" (.ins 754 r)) σ2 = some (.next, ρ0.set "row" (.ins 754 r), σ3) := by
    (try unfold sb6; exists rf, rp, g1, own_of (C := 794) (m := "put") S2.tbl (by rfl), v1; done)
  have fa : Fr [F, F + 1, F + 2] σ σ3 := ((f1.mono (by simp)).trans (w2.mono (by simp))).trans (v4.mono (by simp))
  refine k_ ⟨ρ0.set "row" (.ins 754 r), σ3, M', ?_, ⟨S.J.fr fa (fun i q => by simp at q; omega), fa.at S.clause (by simp; omega), ⟨sk ++ [((p.1 : Int) + 1, .bool true)], ?_, fun k => ?_, by simp [k3]⟩, v2, by have := fa.le; have := S.le; omega, h16⟩, v3, fa, ?_⟩
  · rw [sb_eq]
    show dsSeq sb1 _ ρ0 σ = _
    exists e1, e2, e3, e4, e5, e6
  · refine v4.at (w2.at (by rw [h1]; exact List.getElem?_set_self l2) (by simp)) (by simp)
  · rw [kvHas_app, k2]
    show (decide (k ∈ done) || (decide ((p.1 : Int) + 1 = k) || false)) = _
    by_cases q : k = (p.1 : Int) + 1
    · subst q; simp
    · have q' : ¬ ((p.1 : Int) + 1 = k) := fun e => q e.symm
      simp [q, q']
  · exact ⟨rs, rc, rf, re⟩
end
section
noncomputable def sM (Ls : List Lt) (v : Int) : List (Nat × Int) -> Int
  | [] => 0
  | p :: r => 12 * (p.2 * cofL (Lat Ls p.1) v) + sM Ls v r
noncomputable def sB (Ls : List Lt) : List (Nat × Int) -> Int
  | [] => 0
  | p :: r => p.2 * (Lat Ls p.1).B + sB Ls r
noncomputable def sS (Ls : List Lt) : List (Nat × Int) -> Bool
  | [] => false
  | p :: r => (Lat Ls p.1).st || sS Ls r
theorem cof_le {T : List Trm} {L : Lt} (h : LtOk T L) (v : Int) : -100 ≤ cofL L v ∧ cofL L v ≤ 100 := by
  obtain ⟨s1, s2, s3, s4, s5, s6⟩ := h.small
  unfold cofL
  split
  · exact ⟨s1, s2⟩
  · split
    · exact ⟨s3, s4⟩
    · decide
theorem lat_ok {T : List Trm} {Ls : List Lt} (hL : ∀ L ∈ Ls, LtOk T L) {i : Nat} (hp : i < Ls.length) : LtOk T (Lat Ls i) := by
  unfold Lat
  rw [List.getElem?_eq_getElem hp]
  exact hL _ (List.getElem_mem hp)
structure PrsOk (Ls : List Lt) (prs : List (Nat × Int)) : Prop where
  ok : ∀ p ∈ prs, p.1 < Ls.length ∧ okO p.2
  nd : (prs.map (·.1)).Nodup
theorem sum_run {T : List Trm} {Ls : List Lt} {cx : List (Int × AV)} {F : Nat} (U : UnkAll T) (hL : ∀ L ∈ Ls, LtOk T L) : ∀ (prs : List (Nat × Int)) (done : List Int) (M : DI) (b : Int) (st : Bool) (ρ : Rho) (σ : List AObj), SumC T Ls cx F σ done M b st -> SumRho ρ F -> PrsOk Ls prs -> (∀ p ∈ prs, (p.1 : Int) + 1 ∉ done) -> done.length + prs.length ≤ 4 -> (-(120000 * (done.length : Int)) ≤ b ∧ b ≤ 120000 * (done.length : Int)) -> (∀ v, -(20000 * (done.length : Int)) ≤ iget v M ∧ iget v M ≤ 20000 * (done.length : Int)) ->
    X4 fun ρ' σ' M' done' => A7 (forL (bindN "pair") fb_RowJudgesum_of1 (prs.map pairV) ρ σ = some (.next, ρ', σ')) (SumC T Ls cx F σ' done' M' (b + sB Ls prs) (st || sS Ls prs)) ((∀ v, iget v M' = iget v M + sM Ls v prs)) (Fr [F, F + 1, F + 2] σ σ') (SumRho ρ' F) ((∀ k, k ∈ done' ↔ k ∈ done ∨ ∃ p ∈ prs, k = (p.1 : Int) + 1)) (done'.length = done.length + prs.length)
  | [], done, M, b, st, ρ, σ, S, R, _, _, _, _, _ => ⟨ρ, σ, M, done, rfl, by simpa [sB, sS] using S, fun v => by simp [sM], .refl, R, fun k => by simp, by simp⟩
  | p :: prs, done, M, b, st, ρ, σ, S, R, P, hd, hl, hb, hM => by
    simp only [List.length_cons] at hl
    have hp := P.ok p List.mem_cons_self
    have hnd := P.nd
    rw [List.map_cons, List.nodup_cons] at hnd
    have lo := lat_ok hL hp.1
    obtain ⟨s1, s2, s3, s4, s5, s6⟩ := lo.small
    obtain ⟨ρ1, σ1, M1, w1, w2, w3, w4, w5⟩ := sum_step S R U hL hp.1 hp.2 (hd p List.mem_cons_self) (by omega) (by omega) (by omega) (fun v => by have := hM v; omega)
    have hB := mul_le hp.2 s5 s6 (by decide)
    obtain ⟨ρ2, σ2, M2, done2, v1, v2, v3, v4, v5, v6, v7⟩ := sum_run U hL prs _ M1 _ _ ρ1 σ1 w2 w5 ⟨fun q hq => P.ok q (List.mem_cons_of_mem _ hq), hnd.2⟩ (fun q hq e => by
      rcases List.mem_cons.mp e with z | z
      · exact hnd.1 (List.mem_map.mpr ⟨q, hq, by omega⟩)
      · exact hd q (List.mem_cons_of_mem _ hq) z) (by simp only [List.length_cons]; omega) (by simp only [List.length_cons]; omega) (fun v => by
      have h1 := hM v
      have h2 := cof_le lo v
      have h3 := mul_le hp.2 h2.1 h2.2 (by decide)
      rw [w3 v]
      simp only [List.length_cons]
      omega)
    refine ⟨ρ2, σ2, M2, done2, ?_, ?_, fun v => ?_, w4.trans v4, v5, fun k => ?_, by rw [v7]; simp only [List.length_cons]; omega⟩
    · rw [List.map_cons]
      unfold forL
      simp only [bindN, Option.bind_some, w1, v1]
    · rw [Int.add_assoc, Bool.or_assoc] at v2
      exact v2
    · rw [v3, w3]
      show _ = iget v M + (12 * (p.2 * cofL (Lat Ls p.1) v) + sM Ls v prs)
      omega
    · rw [v6 k]
      simp only [List.mem_cons]
      constructor
      · rintro ((h | h) | ⟨q, h1, h2⟩)
        · exact .inr ⟨p, .inl rfl, h⟩
        · exact .inl h
        · exact .inr ⟨q, .inr h1, h2⟩
      · rintro (h | ⟨q, rfl | h1, h2⟩)
        · exact .inl (.inr h)
        · exact .inl (.inl h2)
        · exact .inr ⟨q, h1, h2⟩
inductive Bad (T : List Trm) (Ls : List Lt) (cx : List (Int × AV)) (done : List Int) : AV -> Prop
  | ntup {v : AV} : (∀ σ, d_is_tuple_of [v, .int 2] σ = some (.bool false, σ)) -> Bad T Ls cx done v
  | nnum {a w : AV} : (∀ σ, d_is_number [a] σ = some (.bool false, σ)) -> Bad T Ls cx done (.tup [a, w])
  | wt {k : Int} {w : AV} : (∀ σ, d_is_above_nought [w] σ = some (.bool false, σ)) -> Bad T Ls cx done (.tup [.int k, w])
  | out {k o : Int} : okO o -> kvHas k (kvFrom clV 1 Ls ++ cx) = false -> Bad T Ls cx done (.tup [.int k, rt o 6])
  | twice {k o : Int} : okO o -> k ∈ done -> Bad T Ls cx done (.tup [.int k, rt o 6])
  | row {k o : Int} {t : Nat} {e : Trm} : okO o -> k ∉ done -> kvGet k (kvFrom clV 1 Ls ++ cx) = some (.int t) -> T[t]? = some e -> e.op = "app" -> Bad T Ls cx done (.tup [.int k, rt o 6])
theorem bad_step {T : List Trm} {Ls : List Lt} {cx : List (Int × AV)} {F : Nat} {σ : List AObj} {done : List Int} {M : DI} {b : Int} {st : Bool} {ρ : Rho} {v : AV} (S : SumC T Ls cx F σ done M b st) (R : SumRho ρ F) (hdl : done.length ≤ 50) (h : Bad T Ls cx done v) :
    ∃ ρ' σ', fb_RowJudgesum_of1 (ρ.set "pair" v) σ = some (.ret .none, ρ', σ') ∧ Fr [F, F + 1, F + 2] σ σ' := by
  let ρ0 : Rho := ρ.set "pair" v
  have rp : ρ0 "pair" = some v := rfl
  have rs : ρ0 "self" = some judgeV := R.self
  have rc : ρ0 "clause" = some (.obj 12) := R.clause
  have re : ρ0 "seen" = some (.obj (F + 2)) := R.seen
  have g0 : ∀ {a w : AV} τ, oGet (.tup [a, w]) (.int 0) τ = some (a, τ) := fun τ => get_tup (i := 0) rfl (by decide)
  have g1 : ∀ {a w : AV} τ, oGet (.tup [a, w]) (.int 1) τ = some (w, τ) := fun τ => get_tup (i := 1) rfl (by decide)
  obtain ⟨sk, k1, k2, k3⟩ := S.seen
  have h16 := S.h16
  have one : (∀ {X}, dsSeq sb1 X ρ0 σ = some (.ret .none, ρ0, σ)) -> ∃ ρ' σ', fb_RowJudgesum_of1 (ρ.set "pair" v) σ = some (.ret .none, ρ', σ') ∧ Fr [F, F + 1, F + 2] σ σ' := fun h => ⟨ρ0, σ, by rw [sb_eq]; exact h, .refl⟩
  have e1 : ∀ {k o : Int}, okO o -> v = .tup [.int k, rt o 6] -> sb1 ρ0 σ = some (.next, ρ0, σ) := fun {k o} ho e => by
    have t2 : d_is_tuple_of [.tup [.int k, rt o 6], .int 2] σ = some (.bool true, σ) := is_tup2
    rw [e] at rp
    (try unfold sb1; exists rp, t2, g0, g1, is_num, is_wt ho; done)
  have two : sb1 ρ0 σ = some (.next, ρ0, σ) -> sb2 ρ0 σ = some (.ret .none, ρ0, σ) -> ∃ ρ' σ', fb_RowJudgesum_of1 (ρ.set "pair" v) σ = some (.ret .none, ρ', σ') ∧ Fr [F, F + 1, F + 2] σ σ' := fun h1 h2 => ⟨ρ0, σ, by
    rw [sb_eq]
    show dsSeq sb1 _ ρ0 σ = _
    (exists h1, h2; done), .refl⟩
  cases h with
  | ntup h =>
    refine one fun {X} => ?_
    (try unfold sb1; exists sb1, rp, h; done)
  | @nnum a w h =>
    have t2 : d_is_tuple_of [.tup [a, w], .int 2] σ = some (.bool true, σ) := is_tup2
    refine one fun {X} => ?_
    (try unfold sb1; exists sb1, rp, t2, g0, h; done)
  | @wt k w h =>
    have t2 : d_is_tuple_of [.tup [.int k, w], .int 2] σ = some (.bool true, σ) := is_tup2
    refine one fun {X} => ?_
    (try unfold sb1; exists sb1, rp, t2, g0, g1, is_num, h; done)
  | @out k o ho h =>
    refine two (e1 ho rfl) ?_
    unfold sb2
    exists rp, rc, re, g0, ev_ninT ((inV_id S.clause).trans (congrArg some h))
  | @twice k o ho h =>
    refine two (e1 ho rfl) ?_
    cases q : kvHas k (kvFrom clV 1 Ls ++ cx) <;> simp only [sb2, dsIf, cOr, cVal, d2, dLoc, dK, rp, rc, re, g0, oNotIn, oIn, inV_id S.clause, inV_id k1, k2, decide_eq_true h, q, Option.bind_some, Option.map_some, Bool.not_false, Bool.not_true, dsSeq, dsRet]
  | @row k o t e ho hd hc he hop =>
    have E1 := e1 ho rfl
    have E2 : sb2 ρ0 σ = some (.next, ρ0, σ) := by
      unfold sb2
      exists rp, rc, re, g0, ev_ninF ((inV_id S.clause).trans (congrArg some (kvHas_of hc))), ev_inF ((inV_id k1).trans (congrArg some ((k2 _).trans (decide_eq_false hd))))
    obtain ⟨σ1, h1⟩ : ∃ τ, τ = σ.set (F + 2) (.id (sk ++ [(k, .bool true)])) := ⟨_, rfl⟩
    have f1 : Fr [F + 2] σ σ1 := by rw [h1]; exact .set (.inl (.head _))
    have E3 : sb3 ρ0 σ = some (.next, ρ0, σ1) := by
      have := put_id (k := k) (v := .bool true) k1 (by omega) (by rw [k2, decide_eq_false hd])
      rw [← h1] at this
      (try unfold sb3; exists rp, re, g0, this; done)
    have J1 := S.J.fr f1 (fun i q => by simp at q; omega)
    have c1 := f1.at S.clause (by simp; omega)
    have E4 : sb4 ρ0 σ1 = some (.next, ρ0.set "row" .none, σ1) := by
      (try unfold sb4; exists rs, rc, rp, own_of (C := 869) (m := "row_of") J1.tbl (by rfl), g0, get_id c1 hc, oNeg_int, no_row J1 he hop rfl; done)
    have E5 : sb5 (ρ0.set "row" .none) σ1 = some (.ret .none, ρ0.set "row" .none, σ1) := by
      have : oIs .none .none σ1 = some (.bool true, σ1) := rfl
      (try unfold sb5; exists this; done)
    refine ⟨ρ0.set "row" .none, σ1, ?_, f1.mono (by simp)⟩
    rw [sb_eq]
    show dsSeq sb1 _ ρ0 σ = _
    exists E1, E2, E3, E4, E5
end
section
theorem set_two {α : Type} {σ : List α} {a b c : α} : (σ ++ [a, b]).set σ.length c = σ ++ [c, b] := by
  rw [List.set_append_right _ _ (Nat.le_refl _), Nat.sub_self]; rfl
theorem get_two' {α : Type} {σ : List α} {a b : α} : (σ ++ [a, b])[σ.length]? = some a := by
  rw [List.getElem?_append_right (Nat.le_refl _), Nat.sub_self]; rfl
theorem e_newSum {σ : List AObj} : n_RowSum [] σ = some (.ins 794 σ.length, σ ++ [.fld [("parts", .obj (σ.length + 1)), ("bound", vZERO), ("is_strict", .bool false)], .id []]) := by
  have a : ∀ {x : String} {v : AV} {fs : List (String × AV)}, fs.length ≤ 100 -> oSetAttr 794 x v (.ins 794 σ.length) (σ ++ [.fld fs, .id []]) = some (σ ++ [.fld (fput x v fs), .id []]) := fun {x v fs} h => by
    rw [setAttr_at get_two' h, set_two]
  have a1 := a (x := "parts") (v := .obj (σ.length + 1)) (fs := []) (by decide)
  have a2 := a (x := "bound") (v := vZERO) (fs := [("parts", .obj (σ.length + 1))]) (by simp)
  have a3 := a (x := "is_strict") (v := .bool false) (fs := [("parts", .obj (σ.length + 1)), ("bound", vZERO)]) (by simp)
  have f1 : ∀ {v : AV}, fput "parts" v [] = [("parts", v)] := rfl
  have f2 : ∀ {u v : AV}, fput "bound" v [("parts", u)] = [("parts", u), ("bound", v)] := rfl
  have f3 : ∀ {t u v : AV}, fput "is_strict" v [("parts", t), ("bound", u)] = [("parts", t), ("bound", u), ("is_strict", v)] := rfl
  rw [f1] at a1
  rw [f2] at a2
  rw [f3] at a3
  have z : ∀ ρ, dEmpty (.id []) ρ (σ ++ [.fld []]) = some (.obj (σ.length + 1), σ ++ [.fld [], .id []]) := fun V => by
    show some (AV.obj (List.length (_ ++ _)), (_ ++ _) ++ _) = _
    rw [List.length_append, List.append_assoc]
    rfl
  have e : d_RowSum_init [.ins 794 σ.length] (σ ++ [.fld []]) = some (.none, σ ++ [.fld [("parts", .obj (σ.length + 1)), ("bound", vZERO), ("is_strict", .bool false)], .id []]) := by
    unfold d_RowSum_init b_RowSum_init
    exists z _, a1, a2, a3
  unfold n_RowSum dNew
  rw [e]
  rfl
theorem newSum_is {σ σ' : List AObj} {o : AObj} (h : σ' = σ ++ [.fld [("parts", .obj (σ.length + 1)), ("bound", vZERO), ("is_strict", .bool false)], .id [], o]) : SumIs σ' σ.length [] 0 false ∧ σ'[σ.length + 2]? = some o ∧ σ'.length = σ.length + 3 ∧ Fr [] σ σ' := by
  subst h
  refine ⟨⟨?_, ?_, by simp, fun v h => by cases h⟩, ?_, by simp, .app⟩
  · rw [rt0, List.getElem?_append_right (Nat.le_refl _), Nat.sub_self]; rfl
  · rw [List.getElem?_append_right (by omega), show σ.length + 1 - σ.length = 1 by omega]; rfl
  · rw [List.getElem?_append_right (by omega), show σ.length + 2 - σ.length = 2 by omega]; rfl
theorem sum_head {T : List Trm} {Ls : List Lt} {cx : List (Int × AV)} {σ : List AObj} {ws : List AV} (J : JudgeR T σ) (hc : σ[12]? = some (.id (kvFrom clV 1 Ls ++ cx))) (h16 : 16 ≤ σ.length) :
    X2 fun ρ σ1 => A6 (su1 (((rho0.set "self" judgeV).set "clause" (.obj 12)).set "weights" (.tup ws)) σ = some (.next, ((rho0.set "self" judgeV).set "clause" (.obj 12)).set "weights" (.tup ws), σ)) (su2 (((rho0.set "self" judgeV).set "clause" (.obj 12)).set "weights" (.tup ws)) σ = some (.next, ρ, σ1)) (SumC T Ls cx σ.length σ1 [] [] 0 false) (SumRho ρ σ.length) (ρ "weights" = some (.tup ws)) (Fr [] σ σ1) := by
  let ρ0 : Rho := ((rho0.set "self" judgeV).set "clause" (.obj 12)).set "weights" (.tup ws)
  obtain ⟨σ1, h1⟩ : ∃ τ, τ = σ ++ [.fld [("parts", .obj (σ.length + 1)), ("bound", vZERO), ("is_strict", .bool false)], .id [], .id []] := ⟨_, rfl⟩
  obtain ⟨a1, a2, a3, a4⟩ := newSum_is h1
  refine ⟨(ρ0.set "seen" (.obj (σ.length + 2))).set "found" (.ins 794 σ.length), σ1, ?_, ?_, ⟨J.fr a4 (fun i q => by cases q), a4.at hc (by simp), ⟨[], a2, fun k => by simp [kvHas], rfl⟩, a1, by omega, h16⟩, ⟨rfl, rfl, rfl, rfl⟩, rfl, a4⟩
  · have it : isT "tuple" (.tup ws) = some true := rfl
    unfold su1
    exists it
  · have z : ∀ ρ, dEmpty (.id []) ρ (σ ++ [.fld [("parts", .obj (σ.length + 1)), ("bound", vZERO), ("is_strict", .bool false)], .id []]) = some (.obj (σ.length + 2), σ1) := fun V => by
      show some (AV.obj (List.length (_ ++ _)), (_ ++ _) ++ _) = _
      rw [h1, List.length_append, List.append_assoc]
      rfl
    unfold su2
    exists e_newSum, z _
theorem sum_bind {v : AV} : bindRho ["self", "clause", "weights"] [judgeV, .obj 12, v] rho0 = some (((rho0.set "self" judgeV).set "clause" (.obj 12)).set "weights" v) := rfl
theorem e_sum_of {T : List Trm} {Ls : List Lt} {cx : List (Int × AV)} {σ : List AObj} {prs : List (Nat × Int)} (J : JudgeR T σ) (U : UnkAll T) (hL : ∀ L ∈ Ls, LtOk T L) (hc : σ[12]? = some (.id (kvFrom clV 1 Ls ++ cx))) (h16 : 16 ≤ σ.length) (P : PrsOk Ls prs) (hl : prs.length ≤ 4) :
    X2 fun σ' M => A4 (d_RowJudgesum_of [judgeV, .obj 12, .tup (prs.map pairV)] σ = some (.ins 794 σ.length, σ')) (SumIs σ' σ.length M (sB Ls prs) (sS Ls prs)) ((∀ v, iget v M = sM Ls v prs)) (Fr [] σ σ') := by
  obtain ⟨ρ1, σ1, a1, a2, S, R, a3, f1⟩ := sum_head (ws := prs.map pairV) J hc h16
  obtain ⟨ρ2, σ2, M, done, b1, b2, b3, b4, b5, b6, b7⟩ := sum_run U hL prs [] [] 0 false ρ1 σ1 S R P (fun p V => by simp) (by simp; omega) (by decide) (fun v => by simp [iget, igetO])
  have e3 : su3 ρ1 σ1 = some (.next, ρ2, σ2) := by
    refine dsFor_run (xs := prs.map pairV) ?_ b1
    unfold iSeq
    simp [dLoc, a3]
    omega
  have e4 : su4 ρ2 σ2 = some (.ret (.ins 794 σ.length), ρ2, σ2) := by
    (try unfold su4; exists b5.found; done)
  refine ⟨σ2, M, ?_, ?_, fun v => by rw [b3]; simp [iget, igetO], ?_⟩
  · unfold d_RowJudgesum_of dFun
    rw [su_eq, sum_bind]
    simp only [dsSeq, a1, a2, e3, e4, Option.bind_some]
  · have := b2.sum
    rw [Int.zero_add, Bool.false_or] at this
    exact this
  · exact ⟨by have := f1.le; have := b4.le; omega, fun i hi V => (b4.eq i (by have := f1.le; omega) (by simp; omega)).trans (f1.eq i hi (by simp))⟩
theorem forL_app {bind : AV -> Rho -> Option Rho} {body : DenS} {ys : List AV} : ∀ {xs : List AV} {ρ ρ' : Rho} {σ σ' : List AObj}, forL bind body xs ρ σ = some (.next, ρ', σ') -> forL bind body (xs ++ ys) ρ σ = forL bind body ys ρ' σ'
  | [], ρ, ρ', σ, σ', h => by
    have h : (some (AFlow.next, ρ, σ)) = some (AFlow.next, ρ', σ') := h
    cases h; rfl
  | x :: xs, ρ, ρ', σ, σ', h => by
    rw [List.cons_append]
    generalize hR : forL bind body ys ρ' σ' = R
    unfold forL at h ⊢
    obtain ⟨ρ1, h1, h2⟩ := Option.bind_eq_some_iff.mp h
    obtain ⟨⟨fl, ρ2, σ2⟩, h3, h4⟩ := Option.bind_eq_some_iff.mp h2
    simp only [h1, h3, Option.bind_some]
    cases fl with
    | next =>
      show forL bind body (xs ++ ys) ρ2 σ2 = _
      rw [← hR]
      exact forL_app h4
    | ret v => exact absurd h4 (by simp)
theorem e_sum_none {T : List Trm} {Ls : List Lt} {cx : List (Int × AV)} {σ : List AObj} {prs : List (Nat × Int)} {v : AV} {rest : List AV} (J : JudgeR T σ) (U : UnkAll T) (hL : ∀ L ∈ Ls, LtOk T L) (hc : σ[12]? = some (.id (kvFrom clV 1 Ls ++ cx))) (h16 : 16 ≤ σ.length) (P : PrsOk Ls prs) (hl : prs.length ≤ 4) (hr : rest.length ≤ 50) (hb : ∀ done : List Int, (∀ k, k ∈ done ↔ ∃ p ∈ prs, k = (p.1 : Int) + 1) -> Bad T Ls cx done v) :
    ∃ σ', d_RowJudgesum_of [judgeV, .obj 12, .tup (prs.map pairV ++ v :: rest)] σ = some (.none, σ') ∧ Fr [] σ σ' := by
  obtain ⟨ρ1, σ1, a1, a2, S, R, a3, f1⟩ := sum_head (ws := prs.map pairV ++ v :: rest) J hc h16
  obtain ⟨ρ2, σ2, M, done, b1, b2, b3, b4, b5, b6, b7⟩ := sum_run U hL prs [] [] 0 false ρ1 σ1 S R P (fun p V => by simp) (by simp; omega) (by decide) (fun v => by simp [iget, igetO])
  obtain ⟨ρ3, σ3, c1, c2⟩ := bad_step b2 b5 (by rw [b7]; simp; omega) (hb done (fun k => by rw [b6 k]; simp))
  have e3 : su3 ρ1 σ1 = some (.ret .none, ρ3, σ3) := by
    refine dsFor_run (xs := prs.map pairV ++ v :: rest) ?_ ?_
    · unfold iSeq
      simp only [dLoc, a3, Option.bind_some, Option.map_some]
      rw [if_pos (by simp; omega)]
    · rw [forL_app b1]
      unfold forL
      simp only [bindN, Option.bind_some, c1]
  refine ⟨σ3, ?_, ?_⟩
  · unfold d_RowJudgesum_of dFun
    rw [su_eq, sum_bind]
    simp only [dsSeq, a1, a2, e3, Option.bind_some]
  · have f := b4.trans c2
    exact ⟨by have := f1.le; have := f.le; omega, fun i hi V => (f.eq i (by have := f1.le; omega) (by simp; omega)).trans (f1.eq i hi (by simp))⟩
theorem e_sum_list {ws : List AV} {σ : List AObj} : d_RowJudgesum_of [judgeV, .obj 12, .lst ws] σ = some (.none, σ) := by
  unfold d_RowJudgesum_of dFun
  rw [su_eq, sum_bind]
  have e1 : su1 (((rho0.set "self" judgeV).set "clause" (.obj 12)).set "weights" (.lst ws)) σ = some (.ret .none, ((rho0.set "self" judgeV).set "clause" (.obj 12)).set "weights" (.lst ws), σ) := by
    (try unfold su1; exists dIsT, isT; done)
  exists e1
end
section
structure OkV (n : Nat) (v : AV) : Prop where
  data : isData v = true
  lay : (pd v).canLay0 = true
  deep : (pd v).depth ≤ n
theorem OkV.int {n : Nat} {i : Int} (h : 1 ≤ n) : OkV n (.int i) := ⟨rfl, rfl, by simp only [pd, PyData.depth]; omega⟩
theorem OkV.bool {n : Nat} {b : Bool} (h : 1 ≤ n) : OkV n (.bool b) := ⟨rfl, rfl, by simp only [pd, PyData.depth]; omega⟩
theorem OkV.all {n : Nat} : ∀ {xs : List AV}, (∀ x ∈ xs, OkV n x) -> isDatas xs = true ∧ PyData.canLayAll0 (pds xs) = true ∧ PyData.depthAll (pds xs) ≤ n
  | [], _ => ⟨rfl, rfl, Nat.zero_le _⟩
  | x :: r, h => by
    obtain ⟨a, b, c⟩ := OkV.all (fun y hy => h y (List.mem_cons_of_mem _ hy))
    have hx := h x List.mem_cons_self
    refine ⟨?_, ?_, ?_⟩
    · simp only [isDatas, hx.data, a, Bool.and_true]
    · simp only [pds, PyData.canLayAll0, hx.lay, b, Bool.and_true]
    · simp only [pds, PyData.depthAll]
      exact Nat.max_le.mpr ⟨hx.deep, c⟩
theorem OkV.tup {n : Nat} {xs : List AV} (h : ∀ x ∈ xs, OkV n x) : OkV (n + 1) (.tup xs) := by
  obtain ⟨a, b, c⟩ := OkV.all h
  refine ⟨a, b, ?_⟩
  simp only [pd, PyData.depth]; omega
theorem OkV.lst {n : Nat} {xs : List AV} (h : ∀ x ∈ xs, OkV n x) : OkV (n + 1) (.lst xs) := by
  obtain ⟨a, b, c⟩ := OkV.all h
  refine ⟨a, b, ?_⟩
  simp only [pd, PyData.depth]; omega
theorem OkV.ok {n : Nat} {v : AV} (h : OkV n v) (hn : n ≤ 64) : okD v = true := by
  unfold okD
  rw [h.data, h.lay, decide_eq_true (Nat.le_trans h.deep hn)]; rfl
theorem OkV.rt {n d : Int} : OkV 2 (rt n d) := OkV.tup (fun x hx => by
  simp only [List.mem_cons, List.not_mem_nil, or_false] at hx
  rcases hx with rfl | rfl <;> exact .int (by decide))
theorem OkV.ints {l : List Int} : OkV 2 (.lst (l.map .int)) := OkV.lst (fun x hx => by
  obtain ⟨i, _, rfl⟩ := List.mem_map.mp hx
  exact .int (by decide))
theorem eq_tup {n : Nat} {xs : List AV} {σ : List AObj} (h : OkV n (.tup xs)) (hn : n ≤ 64) : oEq (.tup xs) (.tup xs) σ = some (.bool true, σ) := by
  show (if okD (.tup xs) && okD (.tup xs) then some (AV.bool (PyData.eqv (pd (.tup xs)) (pd (.tup xs))), σ) else none) = _
  rw [h.ok hn, SeqAt.eqv_refl _ h.lay]; rfl
theorem ne_lst {n : Nat} {xs : List AV} {σ : List AObj} (h : OkV n (.lst xs)) (hn : n ≤ 64) : oNe (.lst xs) (.lst xs) σ = some (.bool false, σ) := by
  show (if okD (.lst xs) && okD (.lst xs) then some (AV.bool (!PyData.eqv (pd (.lst xs)) (pd (.lst xs))), σ) else none) = _
  rw [h.ok hn, SeqAt.eqv_refl _ h.lay]; rfl
theorem any_ints {k : Int} : ∀ {l : List Int}, (pds (l.map .int)).any (fun y => PyData.eqv y (pd (.int k))) = decide (k ∈ l)
  | [] => by simp [pds]
  | a :: r => by
    show (PyData.eqv (.int a) (.int k) || (pds (r.map .int)).any _) = _
    rw [any_ints]
    show ((a == k) || decide (k ∈ r)) = _
    by_cases q : a = k
    · subst q; simp
    · have q' : ¬ k = a := fun e => q e.symm
      simp [q, q']
theorem in_ints {k : Int} {d : Nat} {l : List Int} {σ : List AObj} (h : σ[d]? = some (.lst (l.map .int))) : inV (.int k) (.obj d) σ = some (decide (k ∈ l)) := by
  unfold inV
  dsimp only
  rw [look_at h rfl]
  dsimp only
  rw [(OkV.int (n := 2) (by decide)).ok (by decide), (OkV.ints (l := l)).ok (by decide), any_ints]
  rfl
theorem dd_eq : fb_l_due2 = dsSeq dd1 (dsSeq dd2 (dsSeq dd3 (dsSeq dd4 (dsSeq dd5 (dsSeq dd6 (dsSeq dd7 dsNil)))))) := rfl
theorem du_eq : b_l_due = dsSeq du1 (dsSeq du2 (dsSeq du3 (dsSeq du4 dsNil))) := rfl
structure DueC (T : List Trm) (Ls : List Lt) (D : Nat) (σ : List AObj) (done : List Int) (g : Int -> Int) (fb : Int) : Prop where
  world : σ[11]? = some (.sd worldF)
  rows : σ[13]? = some (.id (kvFrom rwV 1 Ls))
  found : σ[D]? = some (.lst [.int (g 3), .int (g 4), .int (g 5), .int (g 6), .int fb])
  seen : σ[D + 1]? = some (.lst (done.map .int))
  le : D + 2 ≤ σ.length
  h16 : 16 ≤ D
structure DueRho (ρ : Rho) (D : Nat) (st : Bool) : Prop where
  world : ρ "world" = some (.obj 11)
  found : ρ "found" = some (.obj D)
  seen : ρ "seen" = some (.obj (D + 1))
  st : ρ "is_strict" = some (.bool st)
theorem lst_get {d i : Nat} {xs : List AV} {v : AV} {σ : List AObj} (h : σ[d]? = some (.lst xs)) (hv : xs[i]? = some v) (hi : i < 2 ^ 60) : oGet (.obj d) (.int i) σ = some (v, σ) := by
  unfold oGet getV
  dsimp only
  rw [look_at h rfl]
  dsimp only
  rw [idx_nat hv hi]; rfl
theorem lst_set {d i : Nat} {xs : List AV} {v : AV} {σ : List AObj} (h : σ[d]? = some (.lst xs)) (hi : i < xs.length) (hl : xs.length ≤ 1000) : oSetItem (.obj d) (.int i) v σ = some (σ.set d (.lst (xs.set i v))) := by
  unfold oSetItem
  simp only [h]
  rw [if_pos ⟨by omega, by omega, by omega⟩]
  rfl
theorem due_k {D i : Nat} {xs : List AV} {σ : List AObj} {ρ : Rho} {s k a o m0 m1 m : Int} (hf : σ[D]? = some (.lst xs)) (rf : ρ "found" = some (.obj D)) (rs : ρ "spot" = some (.int s)) (ro : ρ "often" = some (.int o)) (rn : ρ "numbers" = some (.lst [.int m0, .int m1])) (hi : 2 * s + k = (i : Int)) (hx : xs[i]? = some (.int a)) (hl : xs.length ≤ 1000) (hs : Mine.small (12 * o) = true) (hk : oGet (.lst [.int m0, .int m1]) (.int k) σ = some (.int m, σ)) :
    fb_l_due1 (ρ.set "k" (.int k)) σ = some (.next, ρ.set "k" (.int k), σ.set D (.lst (xs.set i (.int (a + 12 * o * m))))) := by
  have li := (List.getElem?_eq_some_iff.mp hx).1
  have s2 : Mine.small 2 = true := by decide
  have s12 : Mine.small 12 = true := by decide
  have z1 := lst_get hf hx (by omega)
  have z2 := lst_set (v := .int (a + 12 * o * m)) hf li hl
  rw [← hi] at z1 z2
  unfold fb_l_due1
  exists rf, rs, ro, rn, oMul_int s2, oMul_int s12, oMul_int hs, oAdd_int, z1, hk, z2
theorem is_weight {o : Int} (h : okO o) {σ : List AObj} : d_l_is_weight [rt o 6] σ = some (.bool true, σ) := by
  rcases h with rfl | rfl | rfl | rfl | rfl <;> kernel_rfl
theorem often_eq {o : Int} (h : okO o) : X2 fun p q => A6 (rt o 6 = .tup [.int p, .int q]) (Int.fdiv (6 * p) q = o) (Mine.small q = true) (q ≠ 0) (Mine.small o = true) (Mine.small (12 * o) = true) := by
  rcases h with rfl | rfl | rfl | rfl | rfl <;> exact ⟨_, _, rfl, by decide, by decide, by decide, by decide, by decide⟩
end
section
theorem seq_next {a b : DenS} {ρ ρ' : Rho} {σ σ' : List AObj} (h : a ρ σ = some (.next, ρ', σ')) : dsSeq a b ρ σ = b ρ' σ' := by
  exists h
theorem seq_ret {a b : DenS} {ρ ρ' : Rho} {σ σ' : List AObj} {v : AV} (h : a ρ σ = some (.ret v, ρ', σ')) : dsSeq a b ρ σ = some (.ret v, ρ', σ') := by
  exists h
theorem forL_next {bind : AV -> Rho -> Option Rho} {body : DenS} {x : AV} {xs : List AV} {ρ ρ1 ρ2 : Rho} {σ σ2 : List AObj} (h1 : bind x ρ = some ρ1) (h2 : body ρ1 σ = some (.next, ρ2, σ2)) : forL bind body (x :: xs) ρ σ = forL bind body xs ρ2 σ2 := by
  generalize hR : forL bind body xs ρ2 σ2 = R
  unfold forL
  simp only [h1, h2, Option.bind_some, hR]
theorem due_kk {D i j : Nat} {xs : List AV} {σ : List AObj} {ρ : Rho} {s o m0 m1 a c : Int} (hf : σ[D]? = some (.lst xs)) (rf : ρ "found" = some (.obj D)) (rs : ρ "spot" = some (.int s)) (ro : ρ "often" = some (.int o)) (rn : ρ "numbers" = some (.lst [.int m0, .int m1])) (q1 : 2 * s + 0 = (i : Int)) (q2 : 2 * s + 1 = (j : Int)) (q4 : xs[i]? = some (.int a)) (q5 : (xs.set i (.int (a + 12 * o * m0)))[j]? = some (.int c)) (q6 : xs.length ≤ 100) (hs : Mine.small (12 * o) = true) :
    dd5 ρ σ = some (.next, (ρ.set "k" (.int 0)).set "k" (.int 1), σ.set D (.lst ((xs.set i (.int (a + 12 * o * m0))).set j (.int (c + 12 * o * m1))))) := by
  have lD : D < σ.length := (List.getElem?_eq_some_iff.mp hf).1
  have z1 := due_k (ρ := ρ) hf rf rs ro rn q1 q4 (by omega) hs (get_two.1)
  have z2 := due_k (m0 := m0) (m1 := m1) (ρ := ρ.set "k" (.int 0)) (σ := σ.set D (.lst (xs.set i (.int (a + 12 * o * m0))))) (List.getElem?_set_self lD) (rf) (rs) (ro) (rn) q2 q5 (by simp; omega) hs (get_two.2)
  refine dsFor_run (xs := [.int 0, .int 1]) (by (exists iSeq; done)) ?_
  rw [forL_next rfl z1, forL_next rfl z2, List.set_set]
  rfl
theorem due_found {T : List Trm} {L : Lt} {D : Nat} {σ : List AObj} {ρ : Rho} {o fb : Int} {g : Int -> Int} (lo : LtOk T L) (hf : σ[D]? = some (.lst [.int (g 3), .int (g 4), .int (g 5), .int (g 6), .int fb])) (rf : ρ "found" = some (.obj D)) (rs : ρ "spot" = some (.int L.spot)) (ro : ρ "often" = some (.int o)) (rn : ρ "numbers" = some (.lst [.int L.m0, .int L.m1])) (hs : Mine.small (12 * o) = true) :
    dd5 ρ σ = some (.next, (ρ.set "k" (.int 0)).set "k" (.int 1), σ.set D (.lst [.int (g 3 + 12 * (o * cofL L 3)), .int (g 4 + 12 * (o * cofL L 4)), .int (g 5 + 12 * (o * cofL L 5)), .int (g 6 + 12 * (o * cofL L 6)), .int fb])) := by
  rcases lo.spot with q | q
  · rw [due_kk (i := 0) (j := 1) (a := g 3) (c := g 4) hf rf rs ro rn (by rw [q]; rfl) (by rw [q]; rfl) rfl rfl (by simp) hs]
    have c3 : cofL L 3 = L.m0 := by simp [cofL, q, xo]
    have c4 : cofL L 4 = L.m1 := by simp [cofL, q, xo, yo]
    have c5 : cofL L 5 = 0 := by simp [cofL, q, xo, yo]
    have c6 : cofL L 6 = 0 := by simp [cofL, q, xo, yo]
    rw [c3, c4, c5, c6, Int.mul_assoc, Int.mul_assoc]
    simp
  · rw [due_kk (i := 2) (j := 3) (a := g 5) (c := g 6) hf rf rs ro rn (by rw [q]; rfl) (by rw [q]; rfl) rfl rfl (by simp) hs]
    have c3 : cofL L 3 = 0 := by simp [cofL, q, xo, yo]
    have c4 : cofL L 4 = 0 := by simp [cofL, q, xo, yo]
    have c5 : cofL L 5 = L.m0 := by simp [cofL, q, xo]
    have c6 : cofL L 6 = L.m1 := by simp [cofL, q, xo, yo]
    rw [c3, c4, c5, c6, Int.mul_assoc, Int.mul_assoc]
    simp
theorem due_step {T : List Trm} {Ls : List Lt} {D : Nat} {σ : List AObj} {done : List Int} {g : Int -> Int} {fb : Int} {st : Bool} {ρ : Rho} {p : Nat × Int} (S : DueC T Ls D σ done g fb) (R : DueRho ρ D st) (hL : ∀ L ∈ Ls, LtOk T L) (hp : p.1 < Ls.length) (ho : okO p.2) (hd : (p.1 : Int) + 1 ∉ done) (hdl : done.length ≤ 50) :
    X2 fun ρ' σ' => A4 (fb_l_due2 (ρ.set "pair" (pairV p)) σ = some (.next, ρ', σ')) (DueC T Ls D σ' (done ++ [(p.1 : Int) + 1]) (fun v => g v + 12 * (p.2 * cofL (Lat Ls p.1) v)) (fb + p.2 * (Lat Ls p.1).B)) (Fr [D, D + 1] σ σ') (DueRho ρ' D (st || (Lat Ls p.1).st)) := by
  have lo := lat_ok hL hp
  generalize hL0 : Lat Ls p.1 = L at lo ⊢
  have h16 := S.h16
  have hle := S.le
  have hr : kvGet ((p.1 : Int) + 1) (kvFrom rwV 1 Ls) = some (rwV L) := by
    have := kv_get (f := rwV) (cx := []) (s := 1) hp
    rw [hL0, List.append_nil] at this
    rw [show (p.1 : Int) + 1 = ((1 + p.1 : Nat) : Int) by omega]; exact this
  obtain ⟨wp, wq, ew, eo, sq, q0, so, s12o⟩ := often_eq ho
  let ρ0 : Rho := ρ.set "pair" (pairV p)
  have rp : ρ0 "pair" = some (pairV p) := rfl
  have rw_ : ρ0 "world" = some (.obj 11) := R.world
  have re : ρ0 "seen" = some (.obj (D + 1)) := R.seen
  have g0 : ∀ τ, oGet (pairV p) (.int 0) τ = some (.int ((p.1 : Int) + 1), τ) := fun τ => get_tup (i := 0) rfl (by decide)
  have g1 : ∀ τ, oGet (pairV p) (.int 1) τ = some (rt p.2 6, τ) := fun τ => get_tup (i := 1) rfl (by decide)
  have gr : ∀ {τ : List AObj}, τ[11]? = some (.sd worldF) -> oGet (.obj 11) (.str "rows") τ = some (.obj 13, τ) := fun h => get_sd h (by rfl)
  have e1 : dd1 ρ0 σ = some (.next, ρ0, σ) := by
    unfold dd1
    exists rp, rw_, re, g0, g1, ev_inF ((in_ints S.seen).trans (congrArg some (decide_eq_false hd))), gr S.world, ev_ninF ((inV_id S.rows).trans (congrArg some (kvHas_of hr))), is_weight ho
  obtain ⟨σ1, h1⟩ : ∃ τ, τ = σ.set (D + 1) (.lst ((done ++ [(p.1 : Int) + 1]).map .int)) := ⟨_, rfl⟩
  have f1 : Fr [D + 1] σ σ1 := by rw [h1]; exact .set (.inl (.head _))
  have n1 : σ1.length = σ.length := by rw [h1]; exact List.length_set
  have e2 : dd2 ρ0 σ = some (.next, ρ0, σ1) := by
    have q : done.length ≤ 1000 := by omega
    have oa : oAppend [.obj (D + 1), .int ((p.1 : Int) + 1)] σ = some (.none, σ1) := by rw [ev_app S.seen (by rw [List.length_map]; exact q), h1, List.map_append]; rfl
    unfold dd2
    exists ev_list (look_at S.seen rfl), rp, re, g0, oa
  let ρ1 : Rho := (((ρ0.set "spot" (.int L.spot)).set "numbers" (.lst [.int L.m0, .int L.m1])).set "bound" (.int L.B)).set "is_sharp" (.bool L.st)
  have w1 := f1.at S.world (by simp; omega)
  have e3 : dd3 ρ0 σ1 = some (.next, ρ1, σ1) := by
    have r1 := f1.at S.rows (by simp; omega)
    (try unfold dd3; exists rw_, rp, gr w1, g0, get_id r1 hr; done)
  let ρ2 : Rho := ρ1.set "often" (.int p.2)
  have e4 : dd4 ρ1 σ1 = some (.next, ρ2, σ1) := by
    have rp1 : ρ1 "pair" = some (pairV p) := rp
    have s6 : Mine.small 6 = true := by decide
    have k0 : ∀ τ, oGet (rt p.2 6) (.int 0) τ = some (.int wp, τ) := fun τ => by rw [ew]; exact get_tup (i := 0) rfl (by decide)
    have k1 : ∀ τ, oGet (rt p.2 6) (.int 1) τ = some (.int wq, τ) := fun τ => by rw [ew]; exact get_tup (i := 1) rfl (by decide)
    have dv : oDiv (.int (6 * wp)) (.int wq) σ1 = some (.int p.2, σ1) := by rw [oDiv_int sq q0, eo]
    unfold dd4
    exists rp1, g1, k0, k1, oMul_int s6, dv
  have F1 := f1.at S.found (by simp)
  obtain ⟨σ4, h4⟩ : ∃ τ, τ = σ1.set D (.lst [.int (g 3 + 12 * (p.2 * cofL L 3)), .int (g 4 + 12 * (p.2 * cofL L 4)), .int (g 5 + 12 * (p.2 * cofL L 5)), .int (g 6 + 12 * (p.2 * cofL L 6)), .int fb]) := ⟨_, rfl⟩
  have f4 : Fr [D] σ1 σ4 := by rw [h4]; exact .set (.inl (.head _))
  have n4 : σ4.length = σ1.length := by rw [h4]; exact List.length_set
  have lD : D < σ1.length := (List.getElem?_eq_some_iff.mp F1).1
  have F4 : σ4[D]? = some (.lst [.int (g 3 + 12 * (p.2 * cofL L 3)), .int (g 4 + 12 * (p.2 * cofL L 4)), .int (g 5 + 12 * (p.2 * cofL L 5)), .int (g 6 + 12 * (p.2 * cofL L 6)), .int fb]) := by rw [h4]; exact List.getElem?_set_self lD
  have rf2 : ρ2 "found" = some (.obj D) := R.found
  have rs2 : ρ2 "spot" = some (.int L.spot) := rfl
  have ro2 : ρ2 "often" = some (.int p.2) := rfl
  have rn2 : ρ2 "numbers" = some (.lst [.int L.m0, .int L.m1]) := rfl
  have e5 : dd5 ρ2 σ1 = some (.next, (ρ2.set "k" (.int 0)).set "k" (.int 1), σ4) := by rw [h4]; exact due_found lo F1 rf2 rs2 ro2 rn2 s12o
  let ρ3 : Rho := (ρ2.set "k" (.int 0)).set "k" (.int 1)
  have rf3 : ρ3 "found" = some (.obj D) := rf2
  have ro3 : ρ3 "often" = some (.int p.2) := ro2
  have rb3 : ρ3 "bound" = some (.int L.B) := rfl
  obtain ⟨σ6, h6⟩ : ∃ τ, τ = σ4.set D (.lst [.int (g 3 + 12 * (p.2 * cofL L 3)), .int (g 4 + 12 * (p.2 * cofL L 4)), .int (g 5 + 12 * (p.2 * cofL L 5)), .int (g 6 + 12 * (p.2 * cofL L 6)), .int (fb + p.2 * L.B)]) := ⟨_, rfl⟩
  have f6 : Fr [D] σ4 σ6 := by rw [h6]; exact .set (.inl (.head _))
  have n6 : σ6.length = σ4.length := by rw [h6]; exact List.length_set
  have e6 : dd6 ρ3 σ4 = some (.next, ρ3, σ6) := by
    have z1 : oGet (.obj D) (.int 4) σ4 = some (.int fb, σ4) := lst_get (i := 4) F4 rfl (by decide)
    have z2 : oSetItem (.obj D) (.int 4) (.int (fb + p.2 * L.B)) σ4 = some σ6 := by
      have := lst_set (i := 4) (v := .int (fb + p.2 * L.B)) F4 (by simp) (by simp)
      rw [h6]; exact this
    unfold dd6
    exists rf3, ro3, rb3, z1, oMul_int so, z2
  have e7 : dd7 ρ3 σ6 = some (.next, ρ3.set "is_strict" (.bool (st || L.st)), σ6) := by
    have r1 : ρ3 "is_strict" = some (.bool st) := R.st
    have r2 : ρ3 "is_sharp" = some (.bool L.st) := rfl
    unfold dd7 dsSet
    have z : dOr (dLoc "is_strict") (dLoc "is_sharp") ρ3 σ6 = some (.bool (st || L.st), σ6) := by
      show (dLoc _ ρ3 σ6).bind _ = _
      rw [ev_loc r1]
      cases st
      · exact ev_loc r2
      · rfl
    exact evs_set z
  have fa : Fr [D, D + 1] σ σ6 := (f1.mono (by simp)).trans ((f4.mono (by simp)).trans (f6.mono (by simp)))
  have hD4 : D < σ4.length := by omega
  refine ⟨ρ3.set "is_strict" (.bool (st || L.st)), σ6, ?_, ⟨fa.at S.world (by simp; omega), fa.at S.rows (by simp; omega), by rw [h6]; exact List.getElem?_set_self hD4, ?_, by omega, h16⟩, fa, ?_⟩
  · rw [dd_eq]
    exact (seq_next e1).trans ((seq_next e2).trans ((seq_next e3).trans ((seq_next e4).trans ((seq_next e5).trans ((seq_next e6).trans ((seq_next e7).trans rfl))))))
  · exact f6.at (f4.at (by rw [h1]; exact List.getElem?_set_self (by omega)) (by simp)) (by simp)
  · exact ⟨rw_, rf3, re, rfl⟩
theorem due_run {T : List Trm} {Ls : List Lt} {D : Nat} (hL : ∀ L ∈ Ls, LtOk T L) : ∀ (prs : List (Nat × Int)) (done : List Int) (g : Int -> Int) (fb : Int) (st : Bool) (ρ : Rho) (σ : List AObj), DueC T Ls D σ done g fb -> DueRho ρ D st -> PrsOk Ls prs -> (∀ p ∈ prs, (p.1 : Int) + 1 ∉ done) -> done.length + prs.length ≤ 4 ->
    X3 fun ρ' σ' done' => A4 (forL (bindN "pair") fb_l_due2 (prs.map pairV) ρ σ = some (.next, ρ', σ')) (DueC T Ls D σ' done' (fun v => g v + sM Ls v prs) (fb + sB Ls prs)) (Fr [D, D + 1] σ σ') (DueRho ρ' D (st || sS Ls prs))
  | [], done, g, fb, st, ρ, σ, S, R, _, _, _ => ⟨ρ, σ, done, rfl, by simpa [sM, sB] using S, .refl, by simpa [sS] using R⟩
  | p :: prs, done, g, fb, st, ρ, σ, S, R, P, hd, hl => by
    simp only [List.length_cons] at hl
    have hp := P.ok p List.mem_cons_self
    have hnd := P.nd
    rw [List.map_cons, List.nodup_cons] at hnd
    obtain ⟨ρ1, σ1, w1, w2, w3, w4⟩ := due_step S R hL hp.1 hp.2 (hd p List.mem_cons_self) (by omega)
    obtain ⟨ρ2, σ2, done2, v1, v2, v3, v4⟩ := due_run hL prs _ _ _ _ ρ1 σ1 w2 w4 ⟨fun q hq => P.ok q (List.mem_cons_of_mem _ hq), hnd.2⟩ (fun q hq e => by
      rcases List.mem_append.mp e with z | z
      · exact hd q (List.mem_cons_of_mem _ hq) z
      · rw [List.mem_singleton] at z
        exact hnd.1 (List.mem_map.mpr ⟨q, hq, by omega⟩)) (by simp only [List.length_append, List.length_cons, List.length_nil]; omega)
    refine ⟨ρ2, σ2, done2, ?_, ?_, w3.trans v3, by rw [Bool.or_assoc] at v4; exact v4⟩
    · rw [List.map_cons]
      unfold forL
      simp only [bindN, Option.bind_some, w1, v1]
    · have : (fun v => g v + sM Ls v (p :: prs)) = fun v => (fun v => g v + 12 * (p.2 * cofL (Lat Ls p.1) v)) v + sM Ls v prs := by
        funext v
        show g v + (12 * (p.2 * cofL (Lat Ls p.1) v) + sM Ls v prs) = g v + 12 * (p.2 * cofL (Lat Ls p.1) v) + sM Ls v prs
        omega
      rw [this]
      rw [Int.add_assoc] at v2
      exact v2
end
section
theorem e_l_due {T : List Trm} {Ls : List Lt} {σ : List AObj} {prs : List (Nat × Int)} (hw : σ[11]? = some (.sd worldF)) (hr : σ[13]? = some (.id (kvFrom rwV 1 Ls))) (hL : ∀ L ∈ Ls, LtOk T L) (h16 : 16 ≤ σ.length) (P : PrsOk Ls prs) (hl : prs.length ≤ 4) :
    ∃ σ', A3 (d_l_due [.obj 11, .tup (prs.map pairV)] σ = some (.tup [.obj σ.length, .bool (sS Ls prs)], σ')) (σ'[σ.length]? = some (.lst [.int (sM Ls 3 prs), .int (sM Ls 4 prs), .int (sM Ls 5 prs), .int (sM Ls 6 prs), .int (sB Ls prs)])) (Fr [] σ σ') := by
  let ρ0 : Rho := (rho0.set "world" (.obj 11)).set "weights" (.tup (prs.map pairV))
  obtain ⟨σ1, h1⟩ : ∃ τ, τ = σ ++ [.lst [.int 0, .int 0, .int 0, .int 0, .int 0], .lst []] := ⟨_, rfl⟩
  have f1 : Fr [] σ σ1 := by rw [h1]; exact .app
  let ρ1 : Rho := ((ρ0.set "seen" (.obj (σ.length + 1))).set "is_strict" (.bool false)).set "found" (.obj σ.length)
  have e1 : du1 ρ0 σ = some (.next, ρ0, σ) := by
    have it : isT "tuple" (.tup (prs.map pairV)) = some true := rfl
    unfold du1
    exists it
  have e2 : du2 ρ0 σ = some (.next, ρ1, σ1) := by
    have z1 : ∀ ρ, dLstM (dCons (dK (.int 0)) (dCons (dK (.int 0)) (dCons (dK (.int 0)) (dCons (dK (.int 0)) (dCons (dK (.int 0)) dNil))))) ρ σ = some (.obj σ.length, σ ++ [.lst [.int 0, .int 0, .int 0, .int 0, .int 0]]) := fun V => rfl
    have z2 : ∀ ρ, dLstM dNil ρ (σ ++ [.lst [.int 0, .int 0, .int 0, .int 0, .int 0]]) = some (.obj (σ.length + 1), σ1) := fun V => by
      show some (AV.obj (_ ++ [_]).length, (_ ++ _) ++ _) = _
      rw [h1, List.length_append, List.append_assoc]
      rfl
    unfold du2
    exists z1 _, z2 _
  have S : DueC T Ls σ.length σ1 [] (fun V => 0) 0 := ⟨f1.at hw (by decide), f1.at hr (by decide), by rw [h1]; exact get_two', by rw [h1, List.getElem?_append_right (by omega), show σ.length + 1 - σ.length = 1 by omega]; rfl, by rw [h1]; simp, h16⟩
  have R : DueRho ρ1 σ.length false := ⟨rfl, rfl, rfl, rfl⟩
  obtain ⟨ρ2, σ2, done, b1, b2, b3, b4⟩ := due_run hL prs [] _ 0 false ρ1 σ1 S R P (fun p V => by simp) (by simp; omega)
  have e3 : du3 ρ1 σ1 = some (.next, ρ2, σ2) := by
    refine dsFor_run (xs := prs.map pairV) ?_ b1
    have : ρ1 "weights" = some (.tup (prs.map pairV)) := rfl
    unfold iSeq
    simp only [dLoc, this, Option.bind_some, Option.map_some]
    rw [if_pos (by simp; omega)]
  have e4 : du4 ρ2 σ2 = some (.ret (.tup [.obj σ.length, .bool (sS Ls prs)]), ρ2, σ2) := by
    (try unfold du4; exists b4.found, b4.st; done)
  refine ⟨σ2, ?_, ?_, ?_⟩
  · unfold d_l_due dFun
    have hb : bindRho ["world", "weights"] [.obj 11, .tup (prs.map pairV)] rho0 = some ρ0 := rfl
    rw [du_eq, hb]
    rw [Option.bind_some, (seq_next e1).trans ((seq_next e2).trans ((seq_next e3).trans (seq_ret e4)))]
    rfl
  · have := b2.found
    simp only [Int.zero_add] at this
    exact this
  · exact ⟨by have := f1.le; have := b3.le; omega, fun i hi V => (b3.eq i (by have := f1.le; omega) (by simp; omega)).trans (f1.eq i hi (by simp))⟩
theorem l_ratio_aux {n d g : Int} {σ : List AObj} (hsm : Mine.small g = true) (hg0 : g ≠ 0) (eg : d_l_common [.int n, .int d] σ = some (.int g, σ)) (f1 : Int.fdiv n g = n / g) (f2 : Int.fdiv d g = d / g) : d_l_ratio [.int n, .int d] σ = some (.tup [.int (n / g), .int (d / g)], σ) := by
  unfold d_l_ratio b_l_ratio
  have d1 : oDiv (.int n) (.int g) σ = some (.int (n / g), σ) := by rw [oDiv_int hsm hg0, f1]
  have d2 : oDiv (.int d) (.int g) σ = some (.int (d / g), σ) := by rw [oDiv_int hsm hg0, f2]
  exists eg, d1, d2
theorem e_l_ratio {n d : Int} {σ : List AObj} (h : 0 < d) (hs : d ≤ 2 ^ 60) : d_l_ratio [.int n, .int d] σ = some (rt n d, σ) :=
  have hg : 0 < g2 n d := g2_pos h
  l_ratio_aux (small_pos hg (g2_le h) hs) (by omega) e_common2 (Int.fdiv_eq_ediv_of_nonneg _ (Int.le_of_lt hg)) (Int.fdiv_eq_ediv_of_nonneg _ (Int.le_of_lt hg))
theorem sorted_ext : ∀ {l m : List Int}, l.Pairwise (· < ·) -> m.Pairwise (· < ·) -> (∀ x, x ∈ l ↔ x ∈ m) -> l = m
  | [], [], _, _, _ => rfl
  | [], b :: m, _, _, h => absurd ((h b).mpr List.mem_cons_self) (by simp)
  | a :: l, [], _, _, h => absurd ((h a).mp List.mem_cons_self) (by simp)
  | a :: l, b :: m, hl, hm, h => by
    rw [List.pairwise_cons] at hl hm
    have e : a = b := by
      rcases List.mem_cons.mp ((h a).mp List.mem_cons_self) with q | q
      · exact q
      · rcases List.mem_cons.mp ((h b).mpr List.mem_cons_self) with q' | q'
        · exact q'.symm
        · have := hm.1 a q; have := hl.1 b q'; omega
    subst e
    rw [sorted_ext hl.2 hm.2 (fun x => ?_)]
    constructor
    · intro hx
      rcases List.mem_cons.mp ((h x).mp (List.mem_cons_of_mem _ hx)) with q | q
      · have := hl.1 x hx; omega
      · exact q
    · intro hx
      rcases List.mem_cons.mp ((h x).mpr (List.mem_cons_of_mem _ hx)) with q | q
      · have := hm.1 x hx; omega
      · exact q
theorem isort_lt {l : List Int} (h : l.Nodup) : (isort l).Pairwise (· < ·) := by
  have h1 := isort_sorted l
  have h2 : (isort l).Nodup := (isort_perm l).nodup_iff.mpr h
  have := List.pairwise_and_iff.mpr ⟨h1, h2⟩
  exact this.imp (fun ⟨a, b⟩ => by omega)
noncomputable def lf (g : Int -> Int) : List Int := [3, 4, 5, 6].filter fun u => g u != 0
theorem lf_lt {g : Int -> Int} : (lf g).Pairwise (· < ·) := List.Pairwise.filter _ (by decide)
theorem isort_lf {g : Int -> Int} : isort (lf g) = lf g := by
  refine sorted_ext (isort_lt ?_) lf_lt (fun x => mem_isort)
  exact lf_lt.imp (fun h => by omega)
theorem left_lf {M : DI} (hn : (keys M).Nodup) (hs : ∀ v ∈ keys M, v = 3 ∨ v = 4 ∨ v = 5 ∨ v = 6) : (isort (keys M)).filter (fun u => iget u M != 0) = lf (fun u => iget u M) := by
  refine sorted_ext (List.Pairwise.filter _ (isort_lt hn)) lf_lt (fun x => ?_)
  unfold lf
  simp only [List.mem_filter, mem_isort, List.mem_cons, List.not_mem_nil, or_false]
  constructor
  · rintro ⟨a, b⟩
    exact ⟨hs x a, b⟩
  · rintro ⟨_, b⟩
    refine ⟨?_, b⟩
    cases q : igetO x M with
    | none => unfold iget at b; rw [q] at b; exact absurd b (by decide)
    | some m =>
      by_cases c : x ∈ keys M
      · exact c
      · rw [iget_none.mpr c] at q; exact no q
theorem rt_ne {n : Int} {σ : List AObj} : ∃ a, oGet (rt n 72) (.int 0) σ = some (.int a, σ) ∧ (a != 0) = (n != 0) := by
  obtain ⟨g, n', d', hg, hd, e1, e2, e3, _⟩ := rt_parts (n := n) (d := 72) (by decide)
  refine ⟨n', ?_, ?_⟩
  · rw [e3]; exact get_tup (i := 0) rfl (by decide)
  · by_cases q : n' = 0
    · rw [e1, q]; simp
    · have : n ≠ 0 := by rw [e1]; exact Int.mul_ne_zero (by omega) q
      rw [bne_iff_ne.mpr q, bne_iff_ne.mpr this]
theorem e_left {σ : List AObj} {F : Nat} {M : DI} {b : Int} {st : Bool} (S : SumIs σ F M b st) : d_RowSumleft [.ins 794 F] σ = some (.lst ((lf (fun u => iget u M)).map .int), σ) := by
  have ml := len4 S.nd S.sub
  let ρ0 : Rho := rho0.set "self" (.ins 794 F)
  have rs : ρ0 "self" = some (.ins 794 F) := rfl
  have ap := attr_at (C := 794) (x := "parts") S.tbl (by rfl)
  have os : oSorted [.obj (F + 1)] σ = some (.lst ((isort (keys M)).map .int), σ) := by
    unfold oSorted keysOf
    dsimp only
    rw [look_at S.parts rfl]
    have : (dw M).map (·.1) = keys M := by unfold dw; rw [List.map_map]; rfl
    dsimp only
    rw [this, Option.bind_some, if_pos (by simp; omega)]
  have hi : iSeq (dCall oSorted (dCons (d1 (oAttr 794 "parts") (dLoc "self")) dNil)) ρ0 σ = some ((isort (keys M)).map .int, none, σ) := iSeq_lst (by (exists rs, ap, os; done)) (by rw [List.length_map, len_isort]; simp; omega)
  have hc := dComp_pure (fs := ["self"]) (bind := bindN "unknown") (c := cc_RowSumleft1) (d := ce_RowSumleft1) (pr := fun v => match v with | .int u => iget u M != 0 | _ => false) (f := fun v => v) hi (by rw [List.length_map, len_isort]; simp; omega) (fun v hv => by
    obtain ⟨u, hu, rfl⟩ := List.mem_map.mp hv
    rw [mem_isort] at hu
    obtain ⟨m, hm, _⟩ := iget_mem hu
    obtain ⟨a, ha, hb⟩ := rt_ne (n := m) (σ := σ)
    have gu : oGet (.obj (F + 1)) (.int u) σ = some (rt m 72, σ) := get_id S.parts (by rw [dw_get, hm]; rfl)
    have im : iget u M = m := by unfold iget; rw [hm]; rfl
    refine ⟨(captL ["self"] ρ0).set "unknown" (.int u), rfl, ?_, fun V => ?_⟩
    · have r1 : captL ["self"] ρ0 "self" = some (.ins 794 F) := by simp [captL, rs]
      show _ = some (iget u M != 0, σ)
      rw [im, ← hb]
      unfold cc_RowSumleft1
      exists r1, ap, gu, ha
    · (try unfold ce_RowSumleft1; exists trivial; done))
  have : ((isort (keys M)).map AV.int).filter (fun v => match v with | .int u => iget u M != 0 | _ => false) = (lf (fun u => iget u M)).map .int := by
    rw [List.filter_map, ← left_lf S.nd S.sub]
    rfl
  rw [this, List.map_id'] at hc
  unfold d_RowSumleft b_RowSumleft
  exists hc
noncomputable def clash (e : Bool) (b : Int) (st : Bool) : Bool := e && (decide (b < 0) || (decide (b = 0) && st))
theorem rc_eq : b_RowSumis_clash = dsSeq rc1 (dsSeq rc2 (dsSeq rc3 dsNil)) := rfl
theorem rt_side {b : Int} (h1 : -(2 ^ 40) ≤ b) (h2 : b ≤ 2 ^ 40) {σ : List AObj} : d_compare [vZERO, rt b 72] σ = some (.int (b2i (decide (b < 0)) - b2i (decide (0 < b))), σ) := by
  obtain ⟨g, n', d', hg, hd, e1, e2, e3, _⟩ := rt_parts (n := b) (d := 72) (by decide)
  have sm := part_le60 hg e1 h1 h2
  have ec := e_compare (σ := σ) hd (small_of sm.1 sm.2)
  rw [← e3] at ec
  have c1 : decide (n' < 0) = decide (b < 0) := by
    rw [decide_eq_decide, e1]
    constructor
    · intro h; exact Int.mul_neg_of_pos_of_neg hg h
    · intro h
      rcases Int.lt_or_le n' 0 with q | q
      · exact q
      · have := Int.mul_nonneg (Int.le_of_lt hg) q; omega
  have c2 : decide (0 < n') = decide (0 < b) := by
    rw [decide_eq_decide, e1]
    constructor
    · intro h; exact Int.mul_pos hg h
    · intro h
      rcases Int.lt_or_le 0 n' with q | q
      · exact q
      · have := Int.mul_nonpos_of_nonneg_of_nonpos (Int.le_of_lt hg) q; omega
  rw [c1, c2] at ec
  exact ec
theorem lf_len {g : Int -> Int} : (lf g).length ≤ 4 := List.length_filter_le _ _
theorem e_clash {σ : List AObj} {F : Nat} {M : DI} {b : Int} {st : Bool} (S : SumIs σ F M b st) (h1 : -(2 ^ 40) ≤ b) (h2 : b ≤ 2 ^ 40) : d_RowSumis_clash [.ins 794 F] σ = some (.bool (clash (decide (lf (fun u => iget u M) = [])) b st), σ) := by
  let ρ0 : Rho := rho0.set "self" (.ins 794 F)
  have rs : ρ0 "self" = some (.ins 794 F) := rfl
  have el := e_left S
  have ow := own_of (C := 794) (m := "left") S.tbl (by rfl)
  have ab := attr_at (C := 794) (x := "bound") S.tbl (by rfl)
  have as_ := attr_at (C := 794) (x := "is_strict") S.tbl (by rfl)
  have ll := @lf_len (fun u => iget u M)
  generalize lf (fun u => iget u M) = l at el ll
  unfold d_RowSumis_clash dFun
  have hb : bindRho ["self"] [.ins 794 F] rho0 = some ρ0 := rfl
  rw [rc_eq, hb, Option.bind_some]
  have ol : oLen [.lst (l.map .int)] σ = some (.int l.length, σ) := by
    unfold oLen lenV; simp; omega
  have c0 : cVal (d2 oGt (dCall oLen (dCons (dMeth (ownOk 794 "left") d_RowSumleft (dLoc "self") dNil) dNil)) (dK (.int 0))) ρ0 σ = some (decide (0 < (l.length : Int)), σ) := by
    exists rs, ow, el, ol, oGt_int
  cases l with
  | cons a r =>
    have hp : decide (0 < ((a :: r).length : Int)) = true := by simp
    rw [hp] at c0
    have e1 : rc1 ρ0 σ = some (.ret (.bool false), ρ0, σ) := by
      (try unfold rc1; exists c0; done)
    rw [seq_ret e1]
    simp [clash]
  | nil =>
    have hp : decide (0 < (([] : List Int).length : Int)) = false := by simp
    rw [hp] at c0
    have e1 : rc1 ρ0 σ = some (.next, ρ0, σ) := by
      (try unfold rc1; exists c0; done)
    let ρ1 : Rho := ρ0.set "side" (.int (b2i (decide (b < 0)) - b2i (decide (0 < b))))
    have e2 : rc2 ρ0 σ = some (.next, ρ1, σ) := by
      (try unfold rc2; exists rs, ab, rt_side h1 h2; done)
    have rs1 : ρ1 "self" = some (.ins 794 F) := rs
    have rd1 : ρ1 "side" = some (.int (b2i (decide (b < 0)) - b2i (decide (0 < b)))) := rfl
    have e3 : rc3 ρ1 σ = some (.ret (.bool (clash true b st)), ρ1, σ) := by
      simp only [rc3, dsRet, dOr, dAnd, d1, d2, dLoc, dK, rs1, rd1, as_, oGt_int, oEq_int, Option.bind_some, Option.map_some]
      rcases Int.lt_trichotomy b 0 with q | q | q
      · have q2 : ¬ (0 < b) := by omega
        simp [q, q2, b2i, clash]
      · subst q
        cases st <;> simp [b2i, clash]
      · have q2 : ¬ (b < 0) := by omega
        have q3 : ¬ (b = 0) := by omega
        simp [q, q2, q3, b2i, clash]
    rw [(seq_next e1).trans ((seq_next e2).trans (seq_ret e3))]
    simp
end
section
theorem d2_of {o : AV -> AV -> List AObj -> Option (AV × List AObj)} {a b : Den} {ρ : Rho} {σ σ1 σ2 : List AObj} {x y : AV} (h1 : a ρ σ = some (x, σ1)) (h2 : b ρ σ1 = some (y, σ2)) : d2 o a b ρ σ = o x y σ2 := by
  exists h1, h2
theorem cVal_of {d : Den} {ρ : Rho} {σ σ' : List AObj} {b : Bool} (h : d ρ σ = some (.bool b, σ')) : cVal d ρ σ = some (b, σ') := by
  simp only [cVal, h, Option.bind_some]
theorem dSet_of {x : String} {d : Den} {ρ : Rho} {σ σ' : List AObj} {v : AV} (h : d ρ σ = some (v, σ')) : dsSet x d ρ σ = some (.next, ρ.set x v, σ') := by
  exists h
theorem dRet_of {d : Den} {ρ : Rho} {σ σ' : List AObj} {v : AV} (h : d ρ σ = some (v, σ')) : dsRet d ρ σ = some (.ret v, ρ, σ') := by
  exists h
theorem and_of {a b : Den} {ρ : Rho} {σ : List AObj} {x y : Bool} (h1 : a ρ σ = some (.bool x, σ)) (h2 : b ρ σ = some (.bool y, σ)) : dAnd a b ρ σ = some (.bool (x && y), σ) := by
  cases x <;> simp only [dAnd, h1, h2, Option.bind_some] <;> rfl
theorem or_of {a b : Den} {ρ : Rho} {σ : List AObj} {x y : Bool} (h1 : a ρ σ = some (.bool x, σ)) (h2 : b ρ σ = some (.bool y, σ)) : dOr a b ρ σ = some (.bool (x || y), σ) := by
  cases x <;> simp only [dOr, h1, h2, Option.bind_some] <;> rfl
theorem ri_eq : b_l_is_right = dsSeq ri1 (dsSeq ri2 (dsSeq ri3 (dsSeq ri4 (dsSeq ri5 (dsSeq ri6 (dsSeq ri7 dsNil)))))) := rfl
theorem set_back {α : Type} {σ : List α} {D : Nat} {o x : α} (h : σ[D]? = some o) : (σ.set D x).set D o = σ := by
  rw [List.set_set]
  obtain ⟨h1, h2⟩ := List.getElem?_eq_some_iff.mp h
  rw [← h2, List.set_getElem_self]
theorem dComp_frz {fs : List String} {dI : DenI} {bind : AV -> Rho -> Option Rho} {c : DenC} {d : Den} {ρ : Rho} {σ : List AObj} {pr : AV -> Bool} {f : AV -> AV} {xs : List AV} {D : Nat} {o : AObj} (ho : σ[D]? = some o) (hi : dI ρ σ = some (xs, some D, σ.set D (.frz o))) (hl : xs.length ≤ 1000) (h : ∀ v ∈ xs, ∃ ρ1, bind v (captL fs ρ) = some ρ1 ∧ c ρ1 (σ.set D (.frz o)) = some (pr v, σ.set D (.frz o)) ∧ (pr v = true -> d ρ1 (σ.set D (.frz o)) = some (f v, σ.set D (.frz o)))) : dComp fs dI bind c d ρ σ = some (.lst ((xs.filter pr).map f), σ) := by
  have hD := (List.getElem?_eq_some_iff.mp ho).1
  unfold dComp
  simp only [hi, Option.bind_some, if_pos hl, compN_pure h, unfrz, List.getElem?_set_self hD, set_back ho]
theorem sB_le {T : List Trm} {Ls : List Lt} (hL : ∀ L ∈ Ls, LtOk T L) : ∀ {prs : List (Nat × Int)}, (∀ p ∈ prs, p.1 < Ls.length ∧ okO p.2) -> -(120000 * (prs.length : Int)) ≤ sB Ls prs ∧ sB Ls prs ≤ 120000 * (prs.length : Int)
  | [], _ => by simp [sB]
  | p :: r, h => by
    have ih := sB_le hL (fun q hq => h q (List.mem_cons_of_mem _ hq))
    have hp := h p List.mem_cons_self
    obtain ⟨s1, s2, s3, s4, s5, s6⟩ := (lat_ok hL hp.1).small
    have := mul_le hp.2 s5 s6 (by decide)
    unfold sB
    simp only [List.length_cons]
    omega
theorem lf_zip {g : Int -> Int} : (([(3, g 3), (4, g 4), (5, g 5), (6, g 6)] : List (Int × Int)).filter fun p => p.2 != 0).map (·.1) = lf g := by
  unfold lf
  by_cases a : g 3 = 0 <;> by_cases b : g 4 = 0 <;> by_cases c : g 5 = 0 <;> by_cases d : g 6 = 0 <;> simp [a, b, c, d]
theorem ints_id : ∀ {l : List Int}, intsOf (l.map .int) = some l
  | [] => rfl
  | a :: r => by
    show (intsOf (r.map .int)).map _ = _
    rw [ints_id]; rfl
theorem left_comp {ρ : Rho} {σ : List AObj} {D : Nat} {g : Int -> Int} {fb : Int} {b : AV} (hD : σ[D]? = some (.lst [.int (g 3), .int (g 4), .int (g 5), .int (g 6), .int fb])) (re : ρ "every" = some (.lst [.int 3, .int 4, .int 5, .int 6])) (rd : ρ "due" = some (.tup [.obj D, b])) :
    dComp [] (iZip (dLoc "every") (d2 oGet (dLoc "due") (dK (.int 0)))) (bindT ["one", "number"]) cc_l_is_right1 ce_l_is_right1 ρ σ = some (.lst ((lf g).map .int), σ) := by
  have g0 : oGet (.tup [.obj D, b]) (.int 0) σ = some (.obj D, σ) := get_tup (i := 0) rfl (by decide)
  have hi : iZip (dLoc "every") (d2 oGet (dLoc "due") (dK (.int 0))) ρ σ = some (([(3, g 3), (4, g 4), (5, g 5), (6, g 6)] : List (Int × Int)).map fun p => .tup [.int p.1, .int p.2], some D, σ.set D (.frz (.lst [.int (g 3), .int (g 4), .int (g 5), .int (g 6), .int fb]))) := by
    unfold iZip
    simp only [dLoc, dK, d2, re, rd, g0, Option.bind_some, Option.map_some, hD]
    rfl
  have := dComp_frz (fs := []) (ρ := ρ) (c := cc_l_is_right1) (d := ce_l_is_right1) (bind := bindT ["one", "number"]) (pr := fun v => match v with | .tup [.int _, .int n] => n != 0 | _ => false) (f := fun v => match v with | .tup [.int a, .int _] => .int a | _ => .none) hD hi (by simp) (fun v hv => by
    obtain ⟨p, hp, rfl⟩ := List.mem_map.mp hv
    refine ⟨((captL [] ρ).set "one" (.int p.1)).set "number" (.int p.2), rfl, ?_, fun V => ?_⟩
    · (try unfold cc_l_is_right1; exists oNe_int; done)
    · (try unfold ce_l_is_right1; exists trivial; done))
  rw [this, ← lf_zip]
  generalize ([(3, g 3), (4, g 4), (5, g 5), (6, g 6)] : List (Int × Int)) = l
  rw [List.filter_map, List.map_map, List.map_map]
  rfl
theorem eq_nil {l : List Int} {σ : List AObj} : oEq (.lst (l.map .int)) (.lst []) σ = some (.bool (decide (l = [])), σ) := by
  show (if okD (.lst (l.map .int)) && okD (.lst []) then some (AV.bool (PyData.eqv (pd (.lst (l.map .int))) (pd (.lst []))), σ) else none) = _
  have h0 : okD (.lst []) = true := (OkV.ints (l := [])).ok (by decide)
  rw [(OkV.ints (l := l)).ok (by decide), h0]
  cases l <;> rfl
theorem e_is_right {T : List Trm} {Ls : List Lt} {cx : List (Int × AV)} {σ : List AObj} {prs : List (Nat × Int)} (W : WB T Ls cx σ) (J : JudgeR T σ) (h16 : 16 ≤ σ.length) (P : PrsOk Ls prs) (hl : prs.length ≤ 4) :
    ∃ σ', d_l_is_right [judgeV, .obj 11, .tup (prs.map pairV)] σ = some (.bool true, σ') ∧ Fr [] σ σ' := by
  have U : UnkAll T := ⟨W.unk.1, W.unk.2.1, W.unk.2.2.1, W.unk.2.2.2⟩
  obtain ⟨σ1, M, a1, a2, a3, a4⟩ := e_sum_of J U W.lits W.clause h16 P hl
  have W1 := W.fr a4 (fun i q => by cases q)
  obtain ⟨σ2, b1, b2, b3⟩ := e_l_due (prs := prs) W1.world W1.rows W1.lits (by have := a4.le; omega) P hl
  have W2 := W1.fr b3 (fun i q => by cases q)
  have S2 := a2.fr b3 (fun i q => by cases q)
  have hb := sB_le W.lits P.ok
  generalize hg : (fun v => sM Ls v prs) = g
  have e3 : sM Ls 3 prs = g 3 := by rw [← hg]
  have e4 : sM Ls 4 prs = g 4 := by rw [← hg]
  have e5 : sM Ls 5 prs = g 5 := by rw [← hg]
  have e6 : sM Ls 6 prs = g 6 := by rw [← hg]
  have eM : (fun u => iget u M) = g := by rw [← hg]; funext v; exact a3 v
  rw [e3, e4, e5, e6] at b2
  generalize sB Ls prs = b at a2 b2 S2 hb
  generalize sS Ls prs = st at a2 b1 S2
  generalize σ1.length = D at b1 b2
  generalize σ.length = F at a1 a2 S2
  let ρ0 : Rho := ((rho0.set "judge" judgeV).set "world" (.obj 11)).set "weights" (.tup (prs.map pairV))
  let ρ1 : Rho := (ρ0.set "got" (.ins 794 F)).set "due" (.tup [.obj D, .bool st])
  have gc : oGet (.obj 11) (.str "clause") σ = some (.obj 12, σ) := get_sd W.world (by rfl)
  have gu : oGet (.obj 11) (.str "unknowns") σ2 = some (.lst [.lst [.int 3, .int 4], .lst [.int 5, .int 6]], σ2) := get_sd W2.world (by rfl)
  have r1 : ri1 ρ0 σ = some (.next, ρ1, σ2) := by
    have x1 : ρ0 "judge" = some judgeV := rfl
    have x2 : ρ0 "world" = some (.obj 11) := rfl
    have x3 : ρ0 "weights" = some (.tup (prs.map pairV)) := rfl
    (try unfold ri1; exists x1, x2, x3, gc, own_of (C := 869) (m := "sum_of") J.tbl (by rfl), a1, b1; done)
  have got1 : ρ1 "got" = some (.ins 794 F) := rfl
  have due1 : ρ1 "due" = some (.tup [.obj D, .bool st]) := rfl
  have wor1 : ρ1 "world" = some (.obj 11) := rfl
  have r2 : ri2 ρ1 σ2 = some (.next, ρ1, σ2) := by
    have i1 : oIs (.tup [.obj D, .bool st]) .none σ2 = some (.bool false, σ2) := rfl
    have i2 : oIs (.ins 794 F) .none σ2 = some (.bool false, σ2) := rfl
    (try unfold ri2; exists got1, due1, i1, i2; done)
  let ρ2 : Rho := ρ1.set "every" (.lst [.int 3, .int 4, .int 5, .int 6])
  have r3 : ri3 ρ1 σ2 = some (.next, ρ2, σ2) := by
    have ad : oAdd (.lst [.int 3, .int 4]) (.lst [.int 5, .int 6]) σ2 = some (.lst [.int 3, .int 4, .int 5, .int 6], σ2) := rfl
    (try unfold ri3; exists wor1, gu, get_two.1, get_two.2, ad; done)
  have got2 : ρ2 "got" = some (.ins 794 F) := got1
  have due2 : ρ2 "due" = some (.tup [.obj D, .bool st]) := due1
  have ev2 : ρ2 "every" = some (.lst [.int 3, .int 4, .int 5, .int 6]) := rfl
  have g0 : ∀ τ, oGet (.tup [.obj D, .bool st]) (.int 0) τ = some (.obj D, τ) := fun τ => get_tup (i := 0) rfl (by decide)
  have g1 : ∀ τ, oGet (.tup [.obj D, .bool st]) (.int 1) τ = some (.bool st, τ) := fun τ => get_tup (i := 1) rfl (by decide)
  have c1 := dComp_pure (fs := ["got"]) (ρ := ρ2) (σ := σ2) (bind := bindN "one") (c := cTrue) (d := ce_l_is_right2) (dI := iSeq (dLoc "every")) (xs := ([3, 4, 5, 6] : List Int).map .int) (pr := fun V => true) (f := fun v => match v with | .int u => rt (g u) 72 | _ => .none) (iSeq_lst (by simp only [dLoc, ev2, Option.map_some]; rfl) (by decide)) (by decide) (fun v hv => by
    obtain ⟨u, hu, rfl⟩ := List.mem_map.mp hv
    refine ⟨(captL ["got"] ρ2).set "one" (.int u), rfl, rfl, fun V => ?_⟩
    have x1 : captL ["got"] ρ2 "got" = some (.ins 794 F) := by simp [captL, got2]
    have x2 : attr_at (C := 794) (x := "parts") S2.tbl (by rfl) = attr_at (C := 794) (x := "parts") S2.tbl (by rfl) := rfl
    have x3 := getOr_dw (k := u) S2.parts
    have x4 : iget u M = g u := congrFun eM u
    rw [x4] at x3
    have x5 : (AV.tup [.int 0, .int 1]) = vZERO := rfl
    (try unfold ce_l_is_right2; exists x1, attr_at (C := 794) (x := "parts") S2.tbl (by rfl), isD_id S2.parts, x5, x3; done))
  have c2 := dComp_pure (fs := []) (ρ := ρ2) (σ := σ2) (bind := bindN "number") (c := cTrue) (d := ce_l_is_right3) (dI := iSeq (d2 oTo (d2 oGet (dLoc "due") (dK (.int 0))) (dK (.int 4)))) (xs := ([g 3, g 4, g 5, g 6] : List Int).map .int) (pr := fun V => true) (f := fun v => match v with | .int n => rt n 72 | _ => .none) (iSeq_lst (by
    have : oTo (.obj D) (.int 4) σ2 = some (.lst [.int (g 3), .int (g 4), .int (g 5), .int (g 6)], σ2) := by
      unfold oTo lstOf
      simp [look_at b2 rfl]
    simp only [d2, dLoc, dK, due2, g0, this, Option.bind_some, Option.map_some]; rfl) (by simp)) (by simp) (fun v hv => by
    obtain ⟨n, hn, rfl⟩ := List.mem_map.mp hv
    refine ⟨(captL [] ρ2).set "number" (.int n), rfl, rfl, fun V => ?_⟩
    (try unfold ce_l_is_right3; exists e_l_ratio (by decide : (0 : Int) < 72) (by decide : (72 : Int) ≤ 2 ^ 60); done))
  have c1' : dComp ["got"] (iSeq (dLoc "every")) (bindN "one") cTrue ce_l_is_right2 ρ2 σ2 = some (.lst [rt (g 3) 72, rt (g 4) 72, rt (g 5) 72, rt (g 6) 72], σ2) := c1
  have c2' : dComp [] (iSeq (d2 oTo (d2 oGet (dLoc "due") (dK (.int 0))) (dK (.int 4)))) (bindN "number") cTrue ce_l_is_right3 ρ2 σ2 = some (.lst [rt (g 3) 72, rt (g 4) 72, rt (g 5) 72, rt (g 6) 72], σ2) := c2
  have nl : oNe (.lst [rt (g 3) 72, rt (g 4) 72, rt (g 5) 72, rt (g 6) 72]) (.lst [rt (g 3) 72, rt (g 4) 72, rt (g 5) 72, rt (g 6) 72]) σ2 = some (.bool false, σ2) := ne_lst (n := 3) (OkV.lst (fun x hx => by
    simp only [List.mem_cons, List.not_mem_nil, or_false] at hx
    rcases hx with rfl | rfl | rfl | rfl <;> exact OkV.rt)) (by decide)
  have r4 : ri4 ρ2 σ2 = some (.next, ρ2, σ2) := by
    have n4 := (d2_of (o := oNe) c1' c2').trans nl
    have n5 := cVal_of n4
    (try unfold ri4; exists n5; done)
  let ρ3 : Rho := ρ2.set "left" (.lst ((lf g).map .int))
  have r5 : ri5 ρ2 σ2 = some (.next, ρ3, σ2) := by
    have lc := left_comp b2 ev2 due2
    (try unfold ri5; exists lc; done)
  have got3 : ρ3 "got" = some (.ins 794 F) := got2
  have due3 : ρ3 "due" = some (.tup [.obj D, .bool st]) := due2
  have lf3 : ρ3 "left" = some (.lst ((lf g).map .int)) := rfl
  have n4 : ∀ {τ : List AObj}, τ = σ2 -> oGet (.obj D) (.int 4) τ = some (.int b, τ) := fun h => by rw [h]; exact lst_get (i := 4) b2 rfl (by decide)
  let ρ4 : Rho := ρ3.set "is_clash" (.bool (clash (decide (lf g = [])) b st))
  have r6 : ri6 ρ3 σ2 = some (.next, ρ4, σ2) := by
    have z1 : d2 oEq (dLoc "left") (dLst dNil) ρ3 σ2 = some (.bool (decide (lf g = [])), σ2) := by
      exists lf3, eq_nil
    have z2 : d2 oLt (d2 oGet (d2 oGet (dLoc "due") (dK (.int 0))) (dK (.int 4))) (dK (.int 0)) ρ3 σ2 = some (.bool (decide (b < 0)), σ2) := by
      exists due3, g0, n4 rfl, oLt_int
    have z3 : d2 oEq (d2 oGet (d2 oGet (dLoc "due") (dK (.int 0))) (dK (.int 4))) (dK (.int 0)) ρ3 σ2 = some (.bool (b == 0), σ2) := by
      exists due3, g0, n4 rfl, oEq_int
    have z4 : d2 oGet (dLoc "due") (dK (.int 1)) ρ3 σ2 = some (.bool st, σ2) := by
      exists due3, g1
    have z5 := dSet_of (x := "is_clash") (and_of z1 (or_of z2 (and_of z3 z4)))
    refine z5.trans ?_
    show some (AFlow.next, ρ3.set "is_clash" (.bool (decide (lf g = []) && (decide (b < 0) || ((b == 0) && st)))), σ2) = some (.next, ρ3.set "is_clash" (.bool (clash (decide (lf g = [])) b st)), σ2)
    rfl
  have got4 : ρ4 "got" = some (.ins 794 F) := got3
  have due4 : ρ4 "due" = some (.tup [.obj D, .bool st]) := due3
  have lf4 : ρ4 "left" = some (.lst ((lf g).map .int)) := lf3
  have cl4 : ρ4 "is_clash" = some (.bool (clash (decide (lf g = [])) b st)) := rfl
  have el := e_left S2
  have ec := e_clash S2 (by omega) (by omega)
  rw [eM] at el ec
  have os : oSorted [.lst ((lf g).map .int)] σ2 = some (.lst ((lf g).map .int), σ2) := by
    unfold oSorted keysOf
    dsimp only
    have := @lf_len g
    rw [ints_id, Option.bind_some, if_pos (by omega), isort_lf]
  have r7 : ri7 ρ4 σ2 = some (.ret (.bool true), ρ4, σ2) := by
    have t1 : dTup (dCons (d1 (oAttr 794 "bound") (dLoc "got")) (dCons (d1 (oAttr 794 "is_strict") (dLoc "got")) (dCons (dMeth (ownOk 794 "left") d_RowSumleft (dLoc "got") dNil) (dCons (dMeth (ownOk 794 "is_clash") d_RowSumis_clash (dLoc "got") dNil) dNil)))) ρ4 σ2 = some (.tup [rt b 72, .bool st, .lst ((lf g).map .int), .bool (clash (decide (lf g = [])) b st)], σ2) := by
      exists got4, attr_at (C := 794) (x := "bound") S2.tbl (by rfl), attr_at (C := 794) (x := "is_strict") S2.tbl (by rfl), own_of (C := 794) (m := "left") S2.tbl (by rfl), own_of (C := 794) (m := "is_clash") S2.tbl (by rfl), el, ec
    have t2 : dTup (dCons (dCall d_l_ratio (dCons (d2 oGet (d2 oGet (dLoc "due") (dK (.int 0))) (dK (.int 4))) (dCons (dK (.int 72)) dNil))) (dCons (d2 oGet (dLoc "due") (dK (.int 1))) (dCons (dCall oSorted (dCons (dLoc "left") dNil)) (dCons (dLoc "is_clash") dNil)))) ρ4 σ2 = some (.tup [rt b 72, .bool st, .lst ((lf g).map .int), .bool (clash (decide (lf g = [])) b st)], σ2) := by
      exists due4, g0, g1, n4 rfl, e_l_ratio (by decide : (0 : Int) < 72) (by decide : (72 : Int) ≤ 2 ^ 60), lf4, os, cl4
    have t3 : oEq (.tup [rt b 72, .bool st, .lst ((lf g).map .int), .bool (clash (decide (lf g = [])) b st)]) (.tup [rt b 72, .bool st, .lst ((lf g).map .int), .bool (clash (decide (lf g = [])) b st)]) σ2 = some (.bool true, σ2) := eq_tup (n := 3) (OkV.tup (fun x hx => by
      simp only [List.mem_cons, List.not_mem_nil, or_false] at hx
      rcases hx with rfl | rfl | rfl | rfl
      · exact OkV.rt
      · exact OkV.bool (by decide)
      · exact OkV.ints
      · exact OkV.bool (by decide))) (by decide)
    exact dRet_of ((d2_of (o := oEq) t1 t2).trans t3)
  refine ⟨σ2, ?_, a4.trans b3⟩
  unfold d_l_is_right dFun
  have hbd : bindRho ["judge", "world", "weights"] [judgeV, .obj 11, .tup (prs.map pairV)] rho0 = some ρ0 := rfl
  rw [ri_eq, hbd, Option.bind_some, (seq_next r1).trans ((seq_next r2).trans ((seq_next r3).trans ((seq_next r4).trans ((seq_next r5).trans ((seq_next r6).trans (seq_ret r7))))))]
  rfl
end
section
theorem dr_eq : b_l_drawn = dsSeq dr1 (dsSeq dr2 (dsSeq dr3 (dsSeq dr4 dsNil))) := rfl
theorem wts_get {v : Int} (h0 : 0 ≤ v) (h5 : v < 5) {σ : List AObj} : ∃ o, okO o ∧ oGet (.lst [.tup [.int 1, .int 1], .tup [.int 2, .int 1], .tup [.int 1, .int 2], .tup [.int 3, .int 2], .tup [.int 2, .int 3]]) (.int v) σ = some (rt o 6, σ) := by
  have : v = 0 ∨ v = 1 ∨ v = 2 ∨ v = 3 ∨ v = 4 := by omega
  rcases this with rfl | rfl | rfl | rfl | rfl
  · exact ⟨6, .inl rfl, by kernel_rfl⟩
  · exact ⟨12, .inr (.inl rfl), by kernel_rfl⟩
  · exact ⟨3, .inr (.inr (.inl rfl)), by kernel_rfl⟩
  · exact ⟨9, .inr (.inr (.inr (.inl rfl))), by kernel_rfl⟩
  · exact ⟨4, .inr (.inr (.inr (.inr rfl))), by kernel_rfl⟩
theorem e_weights {σ : List AObj} : d_l_weights [] σ = some (.lst [.tup [.int 1, .int 1], .tup [.int 2, .int 1], .tup [.int 1, .int 2], .tup [.int 3, .int 2], .tup [.int 2, .int 3]], σ) := by kernel_rfl
theorem drawn_comp {ρ : Rho} (rf : ρ "feed" = some (.obj 0)) : ∀ (l : List Nat) (σ : List AObj) (n : Nat), Feed σ n -> n + l.length ≤ 9000 ->
    X2 fun (prs : List (Nat × Int)) (σ' : List AObj) => A6 (compN (bindN "literal") cTrue ce_l_drawn1 ρ (l.map fun i : Nat => .int ((i : Int) + 1)) σ = some (prs.map pairV, σ')) (prs.map (·.1) = l) ((∀ p ∈ prs, okO p.2)) (Feed σ' (n + l.length)) (Fr [0] σ σ') (σ'.length = σ.length)
  | [], σ, n, F, _ => ⟨[], σ, rfl, rfl, (fun p h => by cases h), F, .refl, rfl⟩
  | i :: l, σ, n, F, hn => by
    simp only [List.length_cons] at hn
    obtain ⟨v, σ1, a1, a2, a3, F1, f1, l1⟩ := e_draw (wide := 5) F (by omega) (by decide)
    obtain ⟨o, ho, go⟩ := wts_get (σ := σ1) a2 a3
    obtain ⟨prs, σ2, b1, b2, b3, b4, b5, b6⟩ := drawn_comp rf l σ1 (n + 1) F1 (by omega)
    refine ⟨(i, o) :: prs, σ2, ?_, by rw [List.map_cons, b2], fun p hp => ?_, b4.mono (by simp only [List.length_cons]; omega), f1.trans b5, by rw [b6, l1]⟩
    · rw [List.map_cons]
      unfold compN
      have e : ce_l_drawn1 (ρ.set "literal" (.int ((i : Int) + 1))) σ = some (pairV (i, o), σ1) := by
        (try unfold ce_l_drawn1; exists rf, e_weights, a1, go; done)
      simp only [bindN, cTrue, Option.bind_some, e, b1]
      rfl
    · rcases List.mem_cons.mp hp with q | q
      · rw [q]; exact ho
      · exact b3 p q
theorem keys_from {f : Lt -> AV} : ∀ {l : List Lt} {s : Nat}, (kvFrom f s l).map (·.1) = (List.range' s l.length).map fun i : Nat => (i : Int)
  | [], _ => rfl
  | x :: r, s => by
    show (s : Int) :: (kvFrom f (s + 1) r).map (·.1) = _
    rw [keys_from]; rfl
theorem range_lt {s n : Nat} : ((List.range' s n).map fun i : Nat => (i : Int)).Pairwise (· < ·) := by
  rw [List.pairwise_map]
  exact (List.pairwise_lt_range' (s := s) (n := n)).imp (fun h => by omega)
theorem e_sorted_rows {Ls : List Lt} {σ : List AObj} (h : σ[13]? = some (.id (kvFrom rwV 1 Ls))) (hl : Ls.length ≤ 20) : oSorted [.obj 13] σ = some (.lst ((List.range Ls.length).map fun i : Nat => .int ((i : Int) + 1)), σ) := by
  unfold oSorted keysOf
  dsimp only
  rw [look_at h rfl]
  dsimp only
  rw [keys_from, Option.bind_some, if_pos (by simp; omega)]
  have : isort ((List.range' 1 Ls.length).map fun i : Nat => (i : Int)) = (List.range' 1 Ls.length).map fun i : Nat => (i : Int) := by
    refine sorted_ext (isort_lt ?_) range_lt (fun x => mem_isort)
    exact range_lt.imp (fun h => by omega)
  rw [this, List.map_map, List.range'_eq_map_range, List.map_map]
  have : (AV.int ∘ (fun i : Nat => (i : Int))) ∘ (fun x => 1 + x) = fun i : Nat => AV.int ((i : Int) + 1) := by
    funext i
    show AV.int ((1 + i : Nat) : Int) = _
    congr 1; omega
  rw [this]
theorem e_drawn {T : List Trm} {Ls : List Lt} {cx : List (Int × AV)} {σ : List AObj} {n : Nat} (W : WB T Ls cx σ) (F : Feed σ n) (hn : n ≤ 8000) (h0 : 0 < Ls.length) (hl : Ls.length ≤ 4) :
    X2 fun (prs : List (Nat × Int)) (σ' : List AObj) => A7 (d_l_drawn [.obj 0, .obj 11] σ = some (.lst (prs.map pairV), σ')) (PrsOk Ls prs) (prs ≠ []) (prs.length ≤ 4) (Feed σ' (n + 6)) (Fr [0] σ σ') (σ'.length = σ.length) := by
  let ρ0 : Rho := (rho0.set "feed" (.obj 0)).set "world" (.obj 11)
  have rf : ρ0 "feed" = some (.obj 0) := rfl
  have rw_ : ρ0 "world" = some (.obj 11) := rfl
  have gr : oGet (.obj 11) (.str "rows") σ = some (.obj 13, σ) := get_sd W.world (by rfl)
  generalize hm : Ls.length = m at h0 hl
  have es := e_sorted_rows W.rows (by omega)
  rw [hm] at es
  let L0 : List AV := (List.range m).map fun i : Nat => .int ((i : Int) + 1)
  let ρ1 : Rho := ρ0.set "some" (.lst L0)
  have s1 : dr1 ρ0 σ = some (.next, ρ1, σ) := by
    (try unfold dr1; exists dr1, rw_, gr, es, L0; done)
  have ol : ∀ τ, oLen [.lst L0] τ = some (.int m, τ) := fun τ => by
    unfold oLen lenV
    simp [L0]
    omega
  obtain ⟨t, σ1, a1, a2, a3, F1, f1, l1⟩ := e_draw (wide := (m : Int)) F (by omega) (by omega)
  have rf1 : ρ1 "feed" = some (.obj 0) := rf
  have rs1 : ρ1 "some" = some (.lst L0) := rfl
  let ρ2 : Rho := ρ1.set "turn" (.int t)
  have s2 : dr2 ρ1 σ = some (.next, ρ2, σ1) := by
    (try unfold dr2; exists dr2, rf1, rs1, ol, a1; done)
  obtain ⟨u, σ2, b1, b2, b3, F2, f2, l2⟩ := e_draw (wide := (m : Int)) F1 (by omega) (by omega)
  let l : List Nat := ((List.range m).drop t.toNat ++ (List.range m).take t.toNat).take (1 + u).toNat
  let ρ3 : Rho := ρ2.set "some" (.lst (l.map fun i : Nat => .int ((i : Int) + 1)))
  have rf2 : ρ2 "feed" = some (.obj 0) := rf1
  have rs2 : ρ2 "some" = some (.lst L0) := rs1
  have rt2 : ρ2 "turn" = some (.int t) := rfl
  have len0 : L0.length = m := by simp [L0]
  have s3 : dr3 ρ2 σ1 = some (.next, ρ3, σ2) := by
    have z1 : oFrom (.lst L0) (.int t) σ1 = some (.lst (L0.drop t.toNat), σ1) := by
      unfold oFrom lstOf
      dsimp only
      rw [if_pos a2, Option.bind_some, if_pos (by omega)]
    have z2 : oTo (.lst L0) (.int t) σ1 = some (.lst (L0.take t.toNat), σ1) := by
      unfold oTo lstOf
      dsimp only
      rw [if_pos a2, Option.bind_some, if_pos (by omega)]
    have z3 : oAdd (.lst (L0.drop t.toNat)) (.lst (L0.take t.toNat)) σ1 = some (.lst (L0.drop t.toNat ++ L0.take t.toNat), σ1) := by
      unfold oAdd
      dsimp only
      rw [if_pos (by rw [List.length_drop, List.length_take]; omega)]
    have z4 : oTo (.lst (L0.drop t.toNat ++ L0.take t.toNat)) (.int (1 + u)) σ2 = some (.lst ((L0.drop t.toNat ++ L0.take t.toNat).take (1 + u).toNat), σ2) := by
      unfold oTo lstOf
      dsimp only
      rw [if_pos (by omega), Option.bind_some, if_pos (by rw [List.length_append, List.length_drop, List.length_take]; omega)]
    have z5 : (L0.drop t.toNat ++ L0.take t.toNat).take (1 + u).toNat = l.map fun i : Nat => .int ((i : Int) + 1) := by
      simp only [L0, l, ← List.map_drop, ← List.map_take, ← List.map_append]
    rw [z5] at z4
    (try unfold dr3; exists dr3, rs2, rt2, rf2, z1, z2, z3, ol, b1, oAdd_int, z4; done)
  have ll : l.length ≤ 4 ∧ 0 < l.length := by
    simp only [l, List.length_take, List.length_append, List.length_drop, List.length_range]
    omega
  have lm : ∀ i ∈ l, i < m := fun i hi => by
    have hi := List.mem_of_mem_take hi
    rcases List.mem_append.mp hi with q | q
    · exact List.mem_range.mp (List.mem_of_mem_drop q)
    · exact List.mem_range.mp (List.mem_of_mem_take q)
  have ln : l.Nodup := by
    refine List.Nodup.sublist (List.take_sublist _ _) ?_
    have p : (List.take t.toNat (List.range m) ++ List.drop t.toNat (List.range m)).Perm (List.drop t.toNat (List.range m) ++ List.take t.toNat (List.range m)) := List.perm_append_comm
    exact p.nodup_iff.mp (by rw [List.take_append_drop]; exact List.nodup_range)
  have rf3 : captL ["feed"] ρ3 "feed" = some (.obj 0) := by simp [captL, ρ3, Rho.set, rf2]
  obtain ⟨prs, σ3, c1, c2, c3, c4, c5, c6⟩ := drawn_comp rf3 l σ2 (n + 1 + 1) F2 (by omega)
  have lp : prs.length = l.length := by rw [← c2, List.length_map]
  have s4 : dr4 ρ3 σ2 = some (.ret (.lst (prs.map pairV)), ρ3, σ3) := by
    refine dRet_of ?_
    have rs3 : ρ3 "some" = some (.lst (l.map fun i : Nat => .int ((i : Int) + 1))) := rfl
    have hi : iSeq (dLoc "some") ρ3 σ2 = some ((l.map fun i : Nat => AV.int ((i : Int) + 1)), none, σ2) := iSeq_lst (by (exists rs3; done)) (by rw [List.length_map]; omega)
    unfold dComp
    simp only [hi, Option.bind_some, c1, unfrz]
    rw [if_pos (by rw [List.length_map]; omega)]
  refine ⟨prs, σ3, ?_, ⟨fun p hp => ⟨?_, c3 p hp⟩, by rw [c2]; exact ln⟩, ?_, by omega, c4.mono (by omega), (f1.trans f2).trans c5, by omega⟩
  · unfold d_l_drawn dFun
    have hb : bindRho ["feed", "world"] [.obj 0, .obj 11] rho0 = some ρ0 := rfl
    rw [dr_eq, hb, Option.bind_some, (seq_next s1).trans ((seq_next s2).trans ((seq_next s3).trans (seq_ret s4)))]
    rfl
  · rw [hm]
    exact lm p.1 (by rw [← c2]; exact List.mem_map.mpr ⟨p, hp, rfl⟩)
  · intro e
    rw [e] at lp
    simp at lp
    omega
end
section
theorem lw_eq : fb_law1 = dsSeq lw1 (dsSeq lw2 (dsSeq lw3 (dsSeq lw4 dsNil))) := rfl
theorem rt66 : rt 6 6 = .tup [.int 1, .int 1] := by kernel_rfl
theorem bent_get {v : Int} (h0 : 0 ≤ v) (h9 : v < 9) {σ : List AObj} : ∃ w, oGet vBent (.int v) σ = some (w, σ) ∧ ∀ τ, d_is_above_nought [w] τ = some (.bool false, τ) := by
  have : v = 0 ∨ v = 1 ∨ v = 2 ∨ v = 3 ∨ v = 4 ∨ v = 5 ∨ v = 6 ∨ v = 7 ∨ v = 8 := by omega
  rcases this with rfl | rfl | rfl | rfl | rfl | rfl | rfl | rfl | rfl
  · exact ⟨.tup [.int 0, .int 1], by kernel_rfl, fun τ => by kernel_rfl⟩
  · exact ⟨.tup [.int (-1), .int 2], by kernel_rfl, fun τ => by kernel_rfl⟩
  · exact ⟨.tup [.int 2, .int 4], by kernel_rfl, fun τ => by kernel_rfl⟩
  · exact ⟨.tup [.int 1, .int 0], by kernel_rfl, fun τ => by kernel_rfl⟩
  · exact ⟨.tup [.int 1, .int (-1)], by kernel_rfl, fun τ => by kernel_rfl⟩
  · exact ⟨.int 1, by kernel_rfl, fun τ => by kernel_rfl⟩
  · exact ⟨.tup [.int 1, .int 1, .int 1], by kernel_rfl, fun τ => by kernel_rfl⟩
  · exact ⟨.bool true, by kernel_rfl, fun τ => by kernel_rfl⟩
  · exact ⟨.lst [.int 1, .int 1], by kernel_rfl, fun τ => by kernel_rfl⟩
structure BentOk (T : List Trm) (Ls : List Lt) (cx : List (Int × AV)) (ws : List AV) : Prop where
  ex : X3 fun (prs : List (Nat × Int)) (v : AV) (rest : List AV) => A5 (ws = prs.map pairV ++ v :: rest) (PrsOk Ls prs) (prs.length ≤ 4) (rest.length ≤ 50) (∀ done : List Int, (∀ k, k ∈ done ↔ ∃ p ∈ prs, k = (p.1 : Int) + 1) -> Bad T Ls cx done v)
theorem bent_none {T : List Trm} {Ls : List Lt} {cx : List (Int × AV)} {σ : List AObj} {ws : List AV} (J : JudgeR T σ) (W : WB T Ls cx σ) (h16 : 16 ≤ σ.length) (B : BentOk T Ls cx ws) : ∃ σ', d_RowJudgesum_of [judgeV, .obj 12, .tup ws] σ = some (.none, σ') ∧ Fr [] σ σ' := by
  obtain ⟨prs, v, rest, rfl, h1, h2, h3, h4⟩ := B.ex
  exact e_sum_none J ⟨W.unk.1, W.unk.2.1, W.unk.2.2.1, W.unk.2.2.2⟩ W.lits W.clause h16 h1 h2 h3 h4
theorem PrsOk.nil {Ls : List Lt} : PrsOk Ls [] := ⟨(fun p h => by cases h), by simp⟩
theorem kv_out {k : Int} {Ls : List Lt} {t : Int} (h : k < 1 ∨ (1 + Ls.length : Nat) ≤ k) (h9 : k ≠ -9) : kvHas k (kvFrom clV 1 Ls ++ [(-9, .int t)]) = false := by
  rw [kvHas_app, kvFrom_has h]
  simp [kvHas]
  omega
theorem kv_q {Ls : List Lt} {v : AV} : ∀ {s : Nat}, kvGet (-9) (kvFrom clV s Ls ++ [(-9, v)]) = some v := by
  induction Ls with
  | nil => intro s; rfl
  | cons L r ih =>
    intro s
    show (if (s : Int) = -9 then _ else kvGet (-9) (kvFrom clV (s + 1) r ++ [(-9, v)])) = _
    rw [if_neg (by omega), ih]
theorem bents {T : List Trm} {Ls : List Lt} {t : Nat} {e : Trm} {p : Nat × Int} {pr : List (Nat × Int)} {w : AV} (P : PrsOk Ls (p :: pr)) (hl : (p :: pr).length ≤ 4) (hL : Ls.length ≤ 4) (he : T[t]? = some e) (ho : e.op = "app") (hw : ∀ τ, d_is_above_nought [w] τ = some (.bool false, τ)) {i : Int} (h0 : 0 ≤ i) (h6 : i < 6) {σ : List AObj} :
    ∃ ws, A3 (oGet (.lst [.lst ((p :: pr).map pairV ++ [pairV p]), .lst ((p :: pr).map pairV ++ [.tup [.int (-9), .tup [.int 1, .int 1]]]), .lst ((p :: pr).map pairV ++ [.tup [.int 8, .tup [.int 1, .int 1]]]), .lst ([.tup [.int ((p.1 : Int) + 1), w]] ++ pr.map pairV), .lst ([.lst [.int ((p.1 : Int) + 1), rt p.2 6]] ++ pr.map pairV), .lst ([.tup [.bool true, .tup [.int 1, .int 1]]] ++ pr.map pairV)]) (.int i) σ = some (.lst ws, σ)) (ws.length ≤ 100) (BentOk T Ls [(-9, .int t)] ws) := by
  have lp : pr.length ≤ 50 := by simp at hl; omega
  have hl' := hl
  simp only [List.length_cons] at hl'
  have o6 : okO 6 := .inl rfl
  have get : ∀ {xs : List AV} {j : Nat} {v : AV}, xs[j]? = some v -> j < 100 -> oGet (.lst xs) (.int j) σ = some (v, σ) := fun {xs j v} h hj => by
    unfold oGet getV; dsimp only; rw [idx_nat h (by omega)]; rfl
  have : i = 0 ∨ i = 1 ∨ i = 2 ∨ i = 3 ∨ i = 4 ∨ i = 5 := by omega
  rcases this with rfl | rfl | rfl | rfl | rfl | rfl
  · refine ⟨_, get (j := 0) rfl (by decide), by simp; omega, ⟨p :: pr, pairV p, [], rfl, P, hl, by simp, fun done hd => ?_⟩⟩
    exact .twice (P.ok p List.mem_cons_self).2 ((hd _).mpr ⟨p, List.mem_cons_self, rfl⟩)
  · refine ⟨_, get (j := 1) rfl (by decide), by simp; omega, ⟨p :: pr, _, [], rfl, P, hl, by simp, fun done hd => ?_⟩⟩
    rw [← rt66]
    refine .row o6 (fun h => ?_) kv_q he ho
    obtain ⟨q, _, hq⟩ := (hd _).mp h
    omega
  · refine ⟨_, get (j := 2) rfl (by decide), by simp; omega, ⟨p :: pr, _, [], rfl, P, hl, by simp, fun done hd => ?_⟩⟩
    rw [← rt66]
    exact .out o6 (kv_out (by omega) (by decide))
  · refine ⟨_, get (j := 3) rfl (by decide), by simp; omega, ⟨[], _, pr.map pairV, rfl, .nil, by simp, by simp; omega, fun done hd => ?_⟩⟩
    exact .wt hw
  · refine ⟨_, get (j := 4) rfl (by decide), by simp; omega, ⟨[], _, pr.map pairV, rfl, .nil, by simp, by simp; omega, fun done hd => ?_⟩⟩
    exact .ntup (fun σ => by kernel_rfl)
  · refine ⟨_, get (j := 5) rfl (by decide), by simp; omega, ⟨[], _, pr.map pairV, rfl, .nil, by simp, by simp; omega, fun done hd => ?_⟩⟩
    exact .nnum (fun σ => by kernel_rfl)
structure LawRho (ρ : Rho) : Prop where
  feed : ρ "feed" = some (.obj 0)
  world : ρ "world" = some (.obj 11)
  judge : ρ "judge" = some judgeV
theorem lap_step {T : List Trm} {Ls : List Lt} {t : Nat} {e : Trm} {σ : List AObj} {ρ : Rho} {n : Nat} (W : WB T Ls [(-9, .int t)] σ) (J : JudgeR T σ) (F : Feed σ n) (R : LawRho ρ) (hn : n ≤ 5000) (h16 : 16 ≤ σ.length) (h0 : 0 < Ls.length) (hL : Ls.length ≤ 4) (he : T[t]? = some e) (ho : e.op = "app") :
    X2 fun ρ' σ' => A6 (fb_law1 ρ σ = some (.next, ρ', σ')) (WB T Ls [(-9, .int t)] σ') (JudgeR T σ') (Feed σ' (n + 8)) (LawRho ρ') (16 ≤ σ'.length) := by
  obtain ⟨prs, σ1, a1, P, pne, pl, F1, f1, l1⟩ := e_drawn W F (by omega) h0 hL
  have f0 : ∀ i ∈ ([0] : List Nat), i = 0 ∨ 15 ≤ i := fun i q => .inl (List.mem_singleton.mp q)
  have W1 := W.fr f1 f0
  have J1 : JudgeR T σ1 := ⟨W1.bank, f1.at J.tbl (by decide)⟩
  obtain ⟨σ2, b1, f2⟩ := e_is_right W1 J1 (by omega) P pl
  have W2 := W1.fr f2 (fun i q => by cases q)
  have J2 := J1.fr f2 (fun i q => by cases q)
  have F2 := F1.fr f2 (by decide)
  let ρ1 : Rho := ρ.set "pairs" (.lst (prs.map pairV))
  have s1 : lw1 ρ σ = some (.next, ρ1, σ1) := by
    (try unfold lw1; exists R.feed, R.world, a1; done)
  have R1 : LawRho ρ1 := ⟨R.feed, R.world, R.judge⟩
  have p1 : ρ1 "pairs" = some (.lst (prs.map pairV)) := rfl
  have ot : ∀ {ws : List AV} τ, ws.length ≤ 1000 -> oTuple [.lst ws] τ = some (.tup ws, τ) := fun τ h => by
    unfold oTuple; dsimp only; rw [if_pos h]
  have s2 : lw2 ρ1 σ1 = some (.next, ρ1, σ2) := by
    (try unfold lw2; exists R1.judge, R1.world, p1, ot (ws := prs.map pairV) _ (by rw [List.length_map]; omega), b1; done)
  obtain ⟨v, σ3, c1, c2, c3, F3, f3, l3⟩ := e_draw (wide := 9) F2 (by omega) (by decide)
  obtain ⟨w, d1', d2'⟩ := bent_get c2 c3 (σ := σ3)
  obtain ⟨i, σ4, e1, e2, e3, F4, f4, l4⟩ := e_draw (wide := 6) F3 (by omega) (by decide)
  obtain ⟨p, pr, rfl⟩ := List.exists_cons_of_ne_nil pne
  obtain ⟨ws, g1, g2, g3⟩ := bents (w := w) P pl hL he ho d2' e2 e3 (σ := σ4)
  have W4 := (W2.fr f3 f0).fr f4 f0
  have J4 : JudgeR T σ4 := ⟨W4.bank, f4.at (f3.at J2.tbl (by decide)) (by decide)⟩
  have n4 : 16 ≤ σ4.length := by have := f2.le; omega
  let ρ2 : Rho := ρ1.set "bent" (.lst ws)
  have s3 : lw3 ρ1 σ2 = some (.next, ρ2, σ4) := by
    have hX0 : ∀ τ, oGet (.lst ((p :: pr).map pairV)) (.int 0) τ = some (pairV p, τ) := fun τ => get0_lst
    have hF : ∀ τ, oFrom (.lst ((p :: pr).map pairV)) (.int 1) τ = some (.lst (pr.map pairV), τ) := fun τ => by
      unfold oFrom lstOf
      dsimp only
      rw [if_pos (by decide), Option.bind_some, if_pos (by rw [List.length_map]; omega)]
      rfl
    have lX : ((p :: pr).map pairV).length ≤ 4 := by rw [List.length_map]; exact pl
    have lpr : (pr.map pairV).length ≤ 4 := by rw [List.length_map]; simp at pl; omega
    generalize (p :: pr).map pairV = X at hX0 hF lX p1 g1
    generalize pr.map pairV = Y at hF lpr g1
    have ad1 : ∀ v τ, oAdd (.lst X) (.lst [v]) τ = some (.lst (X ++ [v]), τ) := fun v τ => by
      unfold oAdd; dsimp only; rw [if_pos (by simp; omega)]
    have ad2 : ∀ v τ, oAdd (.lst [v]) (.lst Y) τ = some (.lst ([v] ++ Y), τ) := fun v τ => by
      unfold oAdd; dsimp only; rw [if_pos (by simp; omega)]
    have h1 : ∀ τ, oGet (pairV p) (.int 0) τ = some (.int ((p.1 : Int) + 1), τ) := fun τ => get_tup (i := 0) rfl (by decide)
    have h2 : ∀ τ, oList [pairV p] τ = some (.lst [.int ((p.1 : Int) + 1), rt p.2 6], τ) := fun τ => rfl
    unfold lw3
    exists R1.feed, p1, hX0 _, hF _, ad1 _ _, ad2 _ _, h1 _, h2 _, oNeg_int, c1, d1', e1, g1
  have R2 : LawRho ρ2 := ⟨R1.feed, R1.world, R1.judge⟩
  have p2 : ρ2 "pairs" = some (.lst ((p :: pr).map pairV)) := by simp only [ρ2, Rho.set, String.reduceEq, if_false, p1]
  have b2 : ρ2 "bent" = some (.lst ws) := rfl
  obtain ⟨σ5, h1, f5⟩ := bent_none J4 W4 n4 g3
  have W5 := W4.fr f5 (fun i q => by cases q)
  have J5 := J4.fr f5 (fun i q => by cases q)
  have gc : ∀ {τ : List AObj}, τ[11]? = some (.sd worldF) -> oGet (.obj 11) (.str "clause") τ = some (.obj 12, τ) := fun h => get_sd h (by rfl)
  have ow : ∀ {τ}, JudgeR T τ -> ownOk 869 "sum_of" judgeV τ = true := fun J => own_of (C := 869) (m := "sum_of") J.tbl (by rfl)
  have s4 : lw4 ρ2 σ4 = some (.next, ρ2, σ5) := by
    have i1 : ∀ τ, oIsNot .none .none τ = some (.bool false, τ) := fun τ => rfl
    (try unfold lw4; exists R2.judge, R2.world, p2, b2, ow J4, ow J5, gc W4.world, gc W5.world, ot (ws := ws) _ (by omega), h1, e_sum_list, i1; done)
  refine ⟨ρ2, σ5, ?_, W5, J5, (F4.fr f5 (by decide)).mono (by omega), R2, by have := f5.le; omega⟩
  rw [lw_eq, (seq_next s1).trans ((seq_next s2).trans ((seq_next s3).trans (seq_next s4)))]
  rfl
end
section
theorem la_eq : b_law = dsSeq la1 (dsSeq la2 (dsSeq la3 (dsSeq la4 (dsSeq la5 (dsSeq la6 (dsSeq la7 (dsSeq la8 dsNil))))))) := rfl
noncomputable def T0 : List Trm := [⟨"", [], 0, .int 0⟩, ⟨"true", [], 0, .int 0⟩, ⟨"false", [], 0, .int 0⟩, ⟨"app", [], 1, .int 0⟩, ⟨"app", [], 1, .int 1⟩, ⟨"app", [], 2, .int 2⟩, ⟨"app", [], 2, .int 3⟩]
noncomputable def kv0 : List (TKey × AV) := [(.oth "true" [] 0 0, .int 1), (.oth "false" [] 0 0, .int 2), (.oth "app" [] 1 0, .int 3), (.oth "app" [] 1 1, .int 4), (.oth "app" [] 2 2, .int 5), (.oth "app" [] 2 3, .int 6)]
noncomputable def H1 (c : AV) : List AObj := [.sd [("cells", c), ("at", .int 0)], .fld bankF, .lst [.str "x", .str "y", .str "u", .str "v"], .lst [.tup [], .tup [], .tup [], .tup []], .lst [.int 1, .int 1, .int 2, .int 2], .lst [.str "", .str "true", .str "false", .str "app", .str "app", .str "app", .str "app"], .lst [.tup [], .tup [], .tup [], .tup [], .tup [], .tup [], .tup []], .lst [.int 0, .int 0, .int 0, .int 1, .int 1, .int 2, .int 2], .lst [.int 0, .int 0, .int 0, .int 0, .int 1, .int 2, .int 3], .td kv0, .id []]
noncomputable def H0 (c : AV) : List AObj := H1 c ++ [.sd worldF, .id [], .id [], .lst []]
noncomputable def B0 (c : AV) : List AObj := ((n_TermBank [] [.sd [("cells", c), ("at", .int 0)]]).map (·.2)).getD []
noncomputable def rhoA (s : AV) : Rho := ((rho0.set "script" s).set "feed" (.obj 0)).set "bank" bankV
noncomputable def rhoB (s : AV) : Rho := (rhoA s).set "unknowns" (.lst [.lst [.int 3, .int 4], .lst [.int 5, .int 6]])
theorem head_bank {c : AV} : n_TermBank [] [.sd [("cells", c), ("at", .int 0)]] = some (bankV, B0 c) := by kernel_rfl
theorem head_unk {c s : AV} : la2 (rhoA s) (B0 c) = some (.next, rhoB s, H1 c) := by kernel_rfl
theorem head_world {c s : AV} : la3 (rhoB s) (H1 c) = some (.next, (rhoB s).set "world" (.obj 11), H0 c) := by kernel_rfl
theorem kvGet_mem {K : Type} [DecidableEq K] {k : K} {v : AV} : ∀ {l : List (K × AV)}, kvGet k l = some v -> (k, v) ∈ l
  | [], h => by exact no h
  | p :: r, h => by
    have h : (if p.1 = k then some p.2 else kvGet k r) = some v := h
    by_cases q : p.1 = k
    · rw [if_pos q] at h
      cases h
      rw [← q]; exact List.mem_cons_self
    · rw [if_neg q] at h
      exact List.mem_cons_of_mem _ (kvGet_mem h)
theorem nums0 : NumsOk T0 kv0 := by
  refine ⟨by decide, fun k v h => ?_⟩
  have h := kvGet_mem h
  simp only [kv0, List.mem_cons, List.not_mem_nil, or_false, Prod.mk.injEq] at h
  rcases h with ⟨rfl, rfl⟩ | ⟨rfl, rfl⟩ | ⟨rfl, rfl⟩ | ⟨rfl, rfl⟩ | ⟨rfl, rfl⟩ | ⟨rfl, rfl⟩
  · exact ⟨1, _, rfl, rfl, by decide, .oth (by decide)⟩
  · exact ⟨2, _, rfl, rfl, by decide, .oth (by decide)⟩
  · exact ⟨3, _, rfl, rfl, by decide, .oth (by decide)⟩
  · exact ⟨4, _, rfl, rfl, by decide, .oth (by decide)⟩
  · exact ⟨5, _, rfl, rfl, by decide, .oth (by decide)⟩
  · exact ⟨6, _, rfl, rfl, by decide, .oth (by decide)⟩
theorem wf0 : Wf T0 := fun i e h a ha => by
  have hm := List.mem_of_getElem? h
  simp only [T0, List.mem_cons, List.not_mem_nil, or_false] at hm
  rcases hm with rfl | rfl | rfl | rfl | rfl | rfl | rfl <;> cases ha
theorem wb0 {c : AV} : WB T0 [] [] (H0 c) where
  bank := ⟨rfl, rfl, rfl, rfl, rfl, ⟨kv0, rfl, nums0⟩, by decide⟩
  wf := wf0
  world := rfl
  clause := rfl
  rows := rfl
  said := ⟨[], rfl, (fun v h => by cases h), by decide⟩
  unk := ⟨⟨⟨_, rfl, rfl, rfl⟩, by decide⟩, ⟨⟨_, rfl, rfl, rfl⟩, by decide⟩, ⟨⟨_, rfl, rfl, rfl⟩, by decide⟩, ⟨⟨_, rfl, rfl, rfl⟩, by decide⟩⟩
  lits := fun L h => by cases h
theorem say_run : ∀ (laps : List AV) (T : List Trm) (Ls : List Lt) (σ : List AObj) (ρ : Rho) (n : Nat), WB T Ls [] σ -> SaidN σ Ls.length -> Feed σ n -> ρ "feed" = some (.obj 0) -> ρ "world" = some (.obj 11) -> n + 9 * laps.length ≤ 3000 -> T.length + 13 * laps.length ≤ 250 -> 0 < T.length -> Ls.length + laps.length ≤ 8 ->
    X4 fun (ρ' : Rho) (σ' : List AObj) (T' : List Trm) (Ls' : List Lt) => A9 (forL (bindN "lap") fb_law2 laps ρ σ = some (.next, ρ', σ')) (WB T' Ls' [] σ') (Feed σ' (n + 9 * laps.length)) (Ls'.length = Ls.length + laps.length) (T'.length ≤ T.length + 13 * laps.length) (0 < T'.length) (Fr [0, 5, 6, 7, 8, 9, 12, 13, 14] σ σ') (σ'.length = σ.length) (∀ z, z ≠ "lap" -> ρ' z = ρ z)
  | [], T, Ls, σ, ρ, n, W, _, F, _, _, _, _, pT, _ => ⟨ρ, σ, T, Ls, rfl, W, F, rfl, Nat.le_refl _, pT, .refl, rfl, fun V V => rfl⟩
  | v :: laps, T, Ls, σ, ρ, n, W, SN, F, rf, rw_, h1, h2, pT, h3 => by
    simp only [List.length_cons] at h1 h2 h3
    obtain ⟨T1, L, σ1, a1, W1, SN1, F1, t1, p1, f1, l1⟩ := e_say W SN F (by omega) (by omega) pT (by omega)
    obtain ⟨ρ2, σ2, T2, Ls2, b1, W2, F2, n2, t2, p2, f2, l2, r2⟩ := say_run laps T1 (Ls ++ [L]) σ1 (ρ.set "lap" v) (n + 9) W1 (by simpa using SN1) F1 (rf) (rw_) (by omega) (by omega) p1 (by simp; omega)
    have e1 : fb_law2 (ρ.set "lap" v) σ = some (.next, ρ.set "lap" v, σ1) := by
      (try unfold fb_law2; exists rf, rw_, a1; done)
    refine ⟨ρ2, σ2, T2, Ls2, (forL_next rfl e1).trans b1, W2, F2.mono (by simp only [List.length_cons]; omega), ?_, by simp only [List.length_cons]; omega, p2, f1.trans f2, l2.trans l1, fun z hz => by rw [r2 z hz]; simp [Rho.set, hz]⟩
    rw [n2]
    simp only [List.length_append, List.length_cons, List.length_nil]; omega
theorem len_lst {σ : List AObj} {d : Nat} {xs : List AV} (h : σ[d]? = some (.lst xs)) (hl : xs.length ≤ 1000) : oLen [.obj d] σ = some (.int xs.length, σ) := by
  unfold oLen lenV
  dsimp only
  rw [look_at h rfl]
  simp; omega
theorem isLo {σ : List AObj} {d : Nat} {xs : List AV} (h : σ[d]? = some (.lst xs)) : isListV (.obj d) σ = true := by
  unfold isListV; dsimp only; rw [look_at h rfl]
theorem e_fresh {T : List Trm} {σ : List AObj} {x2 x3 x4 : List AV} (h : BankR T σ) (w : Wf T) (pT : 0 < T.length) (hT : T.length < 400) (h2 : σ[2]? = some (.lst x2)) (h3 : σ[3]? = some (.lst x3)) (h4 : σ[4]? = some (.lst x4)) (l2 : x2.length ≤ 100) (l3 : x3.length ≤ 100) (l4 : x4.length ≤ 100) :
    X4 fun (t : Nat) (T' : List Trm) (σ' : List AObj) (e : Trm) => A8 (d_Bankfresh_const [bankV, .str "q", .int 0] σ = some (.int t, σ')) (BankR T' σ') (T'[t]? = some e) (e.op = "app") (Ext T T') (Wf T') (Fr [2, 3, 4, 5, 6, 7, 8, 9] σ σ') (σ'.length = σ.length) := by
  obtain ⟨σ1, e1⟩ : ∃ τ, τ = σ.set 2 (.lst (x2 ++ [.str "q"])) := ⟨_, rfl⟩
  obtain ⟨σ2, e2⟩ : ∃ τ, τ = σ1.set 3 (.lst (x3 ++ [.tup []])) := ⟨_, rfl⟩
  obtain ⟨σ3, e3⟩ : ∃ τ, τ = σ2.set 4 (.lst (x4 ++ [.int 0])) := ⟨_, rfl⟩
  have f1 : Fr [2, 3, 4] σ σ1 := by rw [e1]; exact .set (.inl (.head _))
  have f2 : Fr [3, 4] σ1 σ2 := by rw [e2]; exact .set (.inl (.head _))
  have f3 : Fr [4] σ2 σ3 := by rw [e3]; exact .set (.inl (.head _))
  have n1 : σ1.length = σ.length := by rw [e1]; exact List.length_set
  have n2 : σ2.length = σ1.length := by rw [e2]; exact List.length_set
  have n3 : σ3.length = σ2.length := by rw [e3]; exact List.length_set
  have B1 := h.fr f1 (fun i q => by simp at q; omega)
  have B2 := B1.fr f2 (fun i q => by simp at q; omega)
  have B3 := B2.fr f3 (fun i q => by simp at q; omega)
  have g3 : σ1[3]? = some (.lst x3) := by rw [e1, List.getElem?_set_ne (by decide)]; exact h3
  have g4 : σ2[4]? = some (.lst x4) := by rw [e2, List.getElem?_set_ne (by decide), e1, List.getElem?_set_ne (by decide)]; exact h4
  have k2 : σ3[2]? = some (.lst (x2 ++ [.str "q"])) := f3.at (f2.at (by rw [e1]; exact List.getElem?_set_self (List.getElem?_eq_some_iff.mp h2).1) (by first | decide | simp)) (by first | decide | simp)
  have a1 := app_lst (v := .str "q") h2 (by omega)
  have a2 := app_lst (v := .tup []) g3 (by omega)
  have a3 := app_lst (v := .int 0) g4 (by omega)
  rw [← e1] at a1
  rw [← e2] at a2
  rw [← e3] at a3
  have ol := len_lst k2 (by simp; omega)
  have dec : d_Bankdeclare_fun [bankV, .str "q", .tup [], .int 0] σ = some (.int x2.length, σ3) := by
    have ot : oTuple [.tup []] σ1 = some (.tup [], σ1) := rfl
    have ol' : oLen [.obj 2] σ3 = some (.int ((x2.length : Int) + 1), σ3) := by rw [ol]; simp
    have sb : oSub (.int ((x2.length : Int) + 1)) (.int 1) σ3 = some (.int x2.length, σ3) := by rw [oSub_int, Int.add_sub_cancel]
    unfold d_Bankdeclare_fun b_Bankdeclare_fun
    exists h.attr (x := "fun_names") (by rfl), B1.attr (x := "fun_args") (by rfl), B2.attr (x := "fun_results") (by rfl), B3.attr (x := "fun_names") (by rfl), isLo h2, isLo g3, isLo g4, a1, a2, a3, ot, ol', sb
  obtain ⟨t, T', σ4, m1, m2, m3, m4, m5, m6, m7⟩ := e_make (e := ⟨"app", [], 0, .int x2.length⟩) B3 (.oth (by decide)) pT (by omega)
  have m1 : d_Bankmake [bankV, .str "app", .tup [], .int 0, .int x2.length] σ3 = some (.int t, σ4) := m1
  have G : Grown T T' σ3 σ4 1 := .of_make m2 m5 ⟨m6, m7⟩ w (fun a ha => by cases ha)
  refine ⟨t, T', σ4, _, ?_, m2, m3, rfl, G.ex, G.wf, ?_, by omega⟩
  · unfold d_Bankfresh_const b_Bankfresh_const
    exists h.own (m := "make") (by rfl), h.own (m := "declare_fun") (by rfl), dec, m1
  · exact ((f1.mono (by first | decide | simp)).trans (f2.mono (by first | decide | simp))).trans ((f3.mono (by first | decide | simp)).trans (m6.mono (by first | decide | simp)))
end
section
theorem lap_run {Ls : List Lt} {t : Nat} {e : Trm} {T : List Trm} (h0 : 0 < Ls.length) (hL : Ls.length ≤ 4) (he : T[t]? = some e) (ho : e.op = "app") : ∀ (laps : List AV) (σ : List AObj) (ρ : Rho) (n : Nat), WB T Ls [(-9, .int t)] σ -> JudgeR T σ -> Feed σ n -> LawRho ρ -> n + 8 * laps.length ≤ 5000 -> 16 ≤ σ.length ->
    X2 fun (ρ' : Rho) (σ' : List AObj) => A5 (forL (bindN "lap") fb_law1 laps ρ σ = some (.next, ρ', σ')) (WB T Ls [(-9, .int t)] σ') (JudgeR T σ') (LawRho ρ') (16 ≤ σ'.length)
  | [], σ, ρ, n, W, J, _, R, _, h16 => ⟨ρ, σ, rfl, W, J, R, h16⟩
  | v :: laps, σ, ρ, n, W, J, F, R, hn, h16 => by
    simp only [List.length_cons] at hn
    obtain ⟨ρ1, σ1, a1, W1, J1, F1, R1, l1⟩ := lap_step W J F (ρ := ρ.set "lap" v) ⟨R.feed, R.world, R.judge⟩ (by omega) h16 h0 hL he ho
    obtain ⟨ρ2, σ2, b1, W2, J2, R2, l2⟩ := lap_run h0 hL he ho laps σ1 ρ1 (n + 8) W1 J1 F1 R1 (by omega) l1
    exact ⟨ρ2, σ2, (forL_next rfl a1).trans b1, W2, J2, R2, l2⟩
theorem e_newJudge {σ : List AObj} : n_RowJudge [bankV] σ = some (.ins 869 σ.length, σ ++ [.fld [("bank", bankV)]]) := by
  unfold n_RowJudge dNew d_RowJudge_init b_RowJudge_init
  have a1 := setAttr_last (C := 869) (x := "bank") (v := bankV) (σ := σ) (fs := []) (by decide)
  have f1 : fput "bank" bankV [] = [("bank", bankV)] := rfl
  rw [f1] at a1
  simp [dFun, bindRho, dsSeq, dsAttr, dLoc, Rho.set, a1, dsNil]
theorem range_iter {d : Den} {ρ : Rho} {σ σ' : List AObj} {k : Int} (h : d ρ σ = some (.int k, σ')) (h0 : 0 ≤ k) (h1 : k ≤ 1000) : iRange d ρ σ = some ((List.range k.toNat).map fun i => .int (i : Nat), none, σ') := by
  unfold iRange
  simp only [h, Option.bind_some]
  rw [if_pos ⟨h0, h1⟩]
theorem for_run {dI : DenI} {bind : AV -> Rho -> Option Rho} {body : DenS} {ρ ρ' : Rho} {σ σ1 σ' : List AObj} {xs : List AV} {f : AFlow} (h : dI ρ σ = some (xs, none, σ1)) (h' : forL bind body xs ρ σ1 = some (f, ρ', σ')) : dsFor dI bind body ρ σ = some (f, ρ', σ') := by
  unfold dsFor
  simp only [h, h', Option.bind_some, unfrz]
theorem head_feed {xs : List Int} (h : xs.length ≤ 63) : la1 (rho0.set "script" (.lst (xs.map .int))) [] = some (.next, rhoA (.lst (xs.map .int)), B0 (.lst ((xs.take 60).map .int))) := by
  have z1 : oTo (.lst (xs.map .int)) (.int 60) [.sd []] = some (.lst ((xs.take 60).map .int), [.sd []]) := by
    unfold oTo lstOf
    dsimp only
    rw [if_pos (by decide), Option.bind_some, if_pos (by rw [List.length_map]; omega), List.map_take]
    rfl
  have z2 : oList [.lst ((xs.take 60).map .int)] [.sd []] = some (.lst ((xs.take 60).map .int), [.sd []]) := by
    unfold oList
    dsimp only
    rw [if_pos (by rw [List.length_map, List.length_take]; omega)]
  generalize AV.lst (xs.map .int) = s at z1
  generalize AV.lst ((xs.take 60).map .int) = c at z1 z2
  have rs : (rho0.set "script" s) "script" = some s := rfl
  have z3 : (dCons (dCall oList (dCons (d2 oTo (dLoc "script") (dK (.int 60))) dNil)) (dCons (dK (.int 0)) dNil)) (rho0.set "script" s) [.sd []] = some ([c, .int 0], [.sd []]) := by
    exists rs, z1, z2
  have z4 : dDictS ["cells", "at"] (dCons (dCall oList (dCons (d2 oTo (dLoc "script") (dK (.int 60))) dNil)) (dCons (dK (.int 0)) dNil)) (rho0.set "script" s) [] = some (.obj 0, [.sd [("cells", c), ("at", .int 0)]]) := by
    unfold dDictS
    simp only [List.nil_append, z3, Option.bind_some]
    rfl
  have z5 : dTup (dCons (dDictS ["cells", "at"] (dCons (dCall oList (dCons (d2 oTo (dLoc "script") (dK (.int 60))) dNil)) (dCons (dK (.int 0)) dNil))) (dCons (dCall n_TermBank dNil) dNil)) (rho0.set "script" s) [] = some (.tup [.obj 0, bankV], B0 c) := by
    have z6 : dCall n_TermBank dNil (rho0.set "script" s) [.sd [("cells", c), ("at", .int 0)]] = some (bankV, B0 c) := by
      exists head_bank
    generalize dDictS ["cells", "at"] (dCons (dCall oList (dCons (d2 oTo (dLoc "script") (dK (.int 60))) dNil)) (dCons (dK (.int 0)) dNil)) = X at z4 ⊢
    generalize dCall n_TermBank dNil = Y at z6 ⊢
    exists z4, z6
  exact dsTup2 z5
theorem law_true (xs : List Int) (h : xs.length ≤ 63) : ∃ σ, d_law [.lst (xs.map .int)] [] = some (.bool true, σ) := by
  have s1 := head_feed h
  generalize hc : AV.lst ((xs.take 60).map .int) = c at s1
  have F0 : Feed (H0 c) 0 := ⟨xs.take 60, 0, by rw [hc]; rfl, Nat.le_refl _, by rw [List.length_take]; omega⟩
  generalize AV.lst (xs.map .int) = s at s1
  have s2 := head_unk (c := c) (s := s)
  have s3 := head_world (c := c) (s := s)
  let ρ1 : Rho := (rhoB s).set "world" (.obj 11)
  have rf1 : ρ1 "feed" = some (.obj 0) := by simp [ρ1, rhoB, rhoA, Rho.set]
  have rw1 : ρ1 "world" = some (.obj 11) := rfl
  have rb1 : ρ1 "bank" = some bankV := by simp [ρ1, rhoB, rhoA, Rho.set]
  obtain ⟨k, σ1, a1, a2, a3, F1, f1, l1⟩ := e_draw (wide := 3) F0 (by omega) (by decide)
  have W1 := (wb0 (c := c)).fr f1 (fun i q => .inl (List.mem_singleton.mp q))
  have SN1 : SaidN σ1 ([] : List Lt).length := ⟨[], f1.at (i := 14) (o := .lst []) rfl (by first | decide | simp), by simp⟩
  have i1 : iRange (d2 oAdd (dK (.int 2)) (dCall d_l_draw (dCons (dLoc "feed") (dCons (dK (.int 3)) dNil)))) ρ1 (H0 c) = some ((List.range (2 + k).toNat).map fun i => .int (i : Nat), none, σ1) := range_iter (by
    (exists rf1, a1, oAdd_int; done)) (by omega) (by omega)
  have hlen : ((List.range (2 + k).toNat).map fun i => AV.int ((i : Nat) : Int)).length = (2 + k).toNat := by simp
  generalize ((List.range (2 + k).toNat).map fun i => AV.int ((i : Nat) : Int)) = laps at i1 hlen
  obtain ⟨ρ2, σ2, T2, Ls, b1, W2, F2, n2, t2, p2, f2, l2, r2⟩ := say_run laps T0 [] σ1 ρ1 _ W1 SN1 F1 rf1 rw1 (by omega) (by simp [T0]; omega) (by decide) (by simp; omega)
  have s4 : la4 ρ1 (H0 c) = some (.next, ρ2, σ2) := for_run i1 b1
  have rf2 : ρ2 "feed" = some (.obj 0) := by rw [r2 _ (by decide)]; exact rf1
  have rw2 : ρ2 "world" = some (.obj 11) := by rw [r2 _ (by decide)]; exact rw1
  have rb2 : ρ2 "bank" = some bankV := by rw [r2 _ (by decide)]; exact rb1
  have hT0 : T0.length = 7 := rfl
  simp only [List.length_nil, Nat.zero_add] at n2
  obtain ⟨t, T3, σ3, e, c1, B3, he, ho, ex, w3, f3, l3⟩ := e_fresh W2.bank W2.wf p2 (by omega) (f2.at (f1.at (i := 2) (o := .lst [.str "x", .str "y", .str "u", .str "v"]) rfl (by first | decide | simp)) (by first | decide | simp)) (f2.at (f1.at (i := 3) (o := .lst [.tup [], .tup [], .tup [], .tup []]) rfl (by first | decide | simp)) (by first | decide | simp)) (f2.at (f1.at (i := 4) (o := .lst [.int 1, .int 1, .int 2, .int 2]) rfl (by first | decide | simp)) (by first | decide | simp)) (by first | decide | simp) (by first | decide | simp) (by first | decide | simp)
  have hcl : σ3[12]? = some (.id (kvFrom clV 1 Ls)) := by
    have := f3.at W2.clause (by first | decide | simp)
    rw [List.append_nil] at this
    exact this
  obtain ⟨σ4, h4⟩ : ∃ τ, τ = σ3.set 12 (.id (kvFrom clV 1 Ls ++ [(-9, .int t)])) := ⟨_, rfl⟩
  have f4 : Fr [12] σ3 σ4 := by rw [h4]; exact .set (.inl (.head _))
  have s5 : la5 ρ2 σ2 = some (.next, ρ2, σ4) := by
    have z1 : oGet (.obj 11) (.str "clause") σ3 = some (.obj 12, σ3) := get_sd (f3.at W2.world (by first | decide | simp)) (by rfl)
    have z2 : oSetItem (.obj 12) (.int (-9)) (.int t) σ3 = some σ4 := by
      rw [h4]; exact put_id hcl (by rw [kvFrom_len]; omega) (kvFrom_has (by omega))
    (try unfold la5; exists rb2, rw2, W2.bank.own (m := "fresh_const") (by rfl), c1, z1, oNeg_int, z2; done)
  have l12 : 12 < σ3.length := (List.getElem?_eq_some_iff.mp hcl).1
  have n4 : σ4.length = 15 := by
    have : (H0 c).length = 15 := rfl
    rw [h4, List.length_set]; omega
  obtain ⟨σ5, h5⟩ : ∃ τ, τ = σ4 ++ [AObj.fld [("bank", bankV)]] := ⟨_, rfl⟩
  have f5 : Fr [] σ4 σ5 := by rw [h5]; exact .app
  obtain ⟨sd, hs1, hs2, hs3⟩ := W2.said
  have W4 : WB T3 Ls [(-9, .int t)] σ4 := ⟨B3.fr f4 (fun i q => by simp at q; omega), w3, f4.at (f3.at W2.world (by first | decide | simp)) (by first | decide | simp), by rw [h4]; exact List.getElem?_set_self l12, f4.at (f3.at W2.rows (by first | decide | simp)) (by first | decide | simp), ⟨sd, f4.at (f3.at hs1 (by first | decide | simp)) (by first | decide | simp), hs2, hs3⟩, ⟨W2.unk.1.mono ex, W2.unk.2.1.mono ex, W2.unk.2.2.1.mono ex, W2.unk.2.2.2.mono ex⟩, fun L hL => (W2.lits L hL).mono ex⟩
  have W5 := W4.fr f5 (fun i q => by cases q)
  have J5 : JudgeR T3 σ5 := ⟨W5.bank, by rw [h5, ← n4]; exact List.getElem?_concat_length⟩
  have F5 := ((F2.fr f3 (by first | decide | simp)).fr f4 (by first | decide | simp)).fr f5 (by first | decide | simp)
  let ρ3 : Rho := ρ2.set "judge" judgeV
  have s6 : la6 ρ2 σ4 = some (.next, ρ3, σ5) := by
    have z := e_newJudge (σ := σ4)
    rw [n4, ← h5] at z
    (try unfold la6; exists rb2, z; done)
  have R3 : LawRho ρ3 := ⟨rf2, rw2, rfl⟩
  have n5 : 16 ≤ σ5.length := by rw [h5]; simp; omega
  have i2 : iRange (dK (.int 3)) ρ3 σ5 = some ((List.range 3).map fun i => .int (i : Nat), none, σ5) := range_iter (k := 3) rfl (by decide) (by decide)
  obtain ⟨ρ4, σ6, d1', W6, J6, R4, n6⟩ := lap_run (by omega) (by omega) he ho ((List.range 3).map fun i => .int (i : Nat)) σ5 ρ3 _ W5 J5 F5 R3 (by simp; omega) n5
  have s7 : la7 ρ3 σ5 = some (.next, ρ4, σ6) := for_run i2 d1'
  obtain ⟨σ7, e1, _⟩ := e_is_right (prs := []) W6 J6 n6 .nil (by first | decide | simp)
  have s8 : la8 ρ4 σ6 = some (.ret (.bool true), ρ4, σ7) := by
    have e1 : d_l_is_right [judgeV, .obj 11, .tup []] σ6 = some (.bool true, σ7) := e1
    refine dRet_of ?_
    exists R4.judge, R4.world, e1
  refine ⟨σ7, ?_⟩
  unfold d_law dFun
  have hb : bindRho ["script"] [s] rho0 = some (rho0.set "script" s) := rfl
  rw [la_eq, hb, Option.bind_some, (seq_next s1).trans ((seq_next s2).trans ((seq_next s3).trans ((seq_next s4).trans ((seq_next s5).trans ((seq_next s6).trans ((seq_next s7).trans (seq_ret s8)))))))]
  rfl
end
end Mine
theorem PySem.Challenge.cw_qz0031_01_holds : PySem.Challenge.rw_qz0031_01.Holds :=
  Mine.holds_of Mine.law_true
