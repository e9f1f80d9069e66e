import PyProof.Rows.All
import Wide.All
import OpenK.AllK
import Wide.FinOn
import Lean
import PySem.Challenge.RW_tk0096_01
set_option Elab.async false
set_option linter.unusedVariables false
set_option linter.unusedSectionVars false
set_option linter.unusedSimpArgs false
set_option maxRecDepth 100000
open PySem PySem.W PyProof.Rows PySem.Calls PySem.Spec
namespace Mine
/-- plain data; `ref n` is the mutable object number n of the abstract store -/
inductive D where
  | none
  | bool (b : Bool)
  | int (i : Int)
  | str (x : Str)
  | bytes (b : List UInt8)
  | tuple (ds : List D)
  | list (ds : List D)
  | ref (n : Nat)
/-- what a mutable object holds -/
inductive C where
  | list (ds : List D)
  | barr (b : List UInt8)
mutual
inductive Rv (h : Heap) (α : List Addr) : Value → D → Prop
  | none : Rv h α Value.none D.none
  | bool (b : Bool) : Rv h α (Value.bool b) (D.bool b)
  | int (i : Int) (t : Tok) : Rv h α (Value.int i t) (D.int i)
  | str (x : Str) (t : Tok) : Rv h α (Value.str x t) (D.str x)
  | bytes (b : List UInt8) (t : Tok) : Rv h α (Value.bytes b.toArray t) (D.bytes b)
  | tuple {a : Addr} {vs : List Value} {ds : List D} : IsTup h a vs.toArray → a ∉ α → RvAll h α vs ds → Rv h α (Value.ref a) (D.tuple ds)
  | list {a : Addr} {vs : List Value} {ds : List D} : h.IsList a vs.toArray → a ∉ α → RvAll h α vs ds → Rv h α (Value.ref a) (D.list ds)
  | ref {a : Addr} {n : Nat} : α[n]? = some a → Rv h α (Value.ref a) (D.ref n)
inductive RvAll (h : Heap) (α : List Addr) : List Value → List D → Prop
  | nil : RvAll h α [] []
  | cons {v : Value} {vs : List Value} {d : D} {ds : List D} : Rv h α v d → RvAll h α vs ds → RvAll h α (v :: vs) (d :: ds)
end
section lift
variable {h h' : Heap} {α α' : List Addr}
  (hk : ∀ b o xs n, h.get? b = some o → o.data = .seq xs n → b ∉ α → h'.get? b = some o ∧ b ∉ α')
  (hp : ∀ (n : Nat) (a : Addr), α[n]? = some a → α'[n]? = some a)
include hk hp
theorem Rv.lift {v : Value} {d : D} (r : Rv h α v d) : Rv h' α' v d :=
  Rv.rec (motive_1 := fun v d _ => Rv h' α' v d) (motive_2 := fun vs ds _ => RvAll h' α' vs ds) .none .bool .int .str .bytes
    (fun t hn _ ih => .tuple (let ⟨o, ho, hc, n, hd⟩ := t; ⟨o, (hk _ o _ n ho hd hn).1, hc, n, hd⟩) (let ⟨o, ho, hc, n, hd⟩ := t; (hk _ o _ n ho hd hn).2) ih)
    (fun t hn _ ih => .list (let ⟨o, ho, hc, n, hd⟩ := t; ⟨o, (hk _ o _ n ho hd hn).1, hc, n, hd⟩) (let ⟨o, ho, hc, n, hd⟩ := t; (hk _ o _ n ho hd hn).2) ih)
    (fun e => .ref (hp _ _ e)) .nil (fun _ _ i1 i2 => .cons i1 i2) r
theorem RvAll.lift {vs : List Value} {ds : List D} (r : RvAll h α vs ds) : RvAll h' α' vs ds := by
  induction vs generalizing ds with
  | nil => cases r; exact .nil
  | cons v vs ih => cases r with | cons r rs => exact .cons (Rv.lift hk hp r) (ih rs)
end lift
section basics
variable {h : Heap} {α : List Addr} {vs ws : List Value} {ds es : List D}
theorem RvAll.length : RvAll h α vs ds → vs.length = ds.length := by
  intro r
  induction vs generalizing ds with
  | nil => cases r; rfl
  | cons v vs ih => cases r with | cons _ r => simp [ih r]
theorem RvAll.append : RvAll h α vs ds → RvAll h α ws es → RvAll h α (vs ++ ws) (ds ++ es) := by
  intro r k
  induction vs generalizing ds with
  | nil => cases r; exact k
  | cons v vs ih => cases r with | cons a r => exact .cons a (ih r)
theorem RvAll.get : RvAll h α vs ds → ∀ {k : Nat} {d : D}, ds[k]? = some d → ∃ v, vs[k]? = some v ∧ Rv h α v d := by
  intro r
  induction vs generalizing ds with
  | nil => cases r; intro k d e; simp at e
  | cons v vs ih =>
    cases r with
    | cons a r =>
      intro k d e
      cases k with
      | zero => simp at e; subst e; exact ⟨v, rfl, a⟩
      | succ k => simpa using ih r (by simpa using e)
theorem RvAll.get' : RvAll h α vs ds → ∀ {k : Nat} {v : Value}, vs[k]? = some v → ∃ d, ds[k]? = some d ∧ Rv h α v d := by
  intro r
  induction vs generalizing ds with
  | nil => intro k d e; simp at e
  | cons v vs ih =>
    cases r with
    | cons a r =>
      intro k d e
      cases k with
      | zero => simp at e; subst e; exact ⟨_, rfl, a⟩
      | succ k => simpa using ih r (by simpa using e)
theorem RvAll.take (n : Nat) : RvAll h α vs ds → RvAll h α (vs.take n) (ds.take n) := by
  intro r
  induction n generalizing vs ds with
  | zero => simpa using RvAll.nil
  | succ n ih => cases r with
    | nil => exact .nil
    | cons a r => exact .cons a (ih r)
theorem RvAll.drop (n : Nat) : RvAll h α vs ds → RvAll h α (vs.drop n) (ds.drop n) := by
  intro r
  induction n generalizing vs ds with
  | zero => exact r
  | succ n ih => cases r with
    | nil => exact .nil
    | cons a r => exact ih r
theorem RvAll.set {v : Value} {d : D} (n : Nat) : RvAll h α vs ds → Rv h α v d → RvAll h α (vs.set n v) (ds.set n d) := by
  intro r k
  induction n generalizing vs ds with
  | zero => cases r with
    | nil => exact .nil
    | cons a r => exact .cons k r
  | succ n ih => cases r with
    | nil => exact .nil
    | cons a r => exact .cons a (ih r)
theorem RvAll.reverse : RvAll h α vs ds → RvAll h α vs.reverse ds.reverse := by
  intro r
  induction vs generalizing ds with
  | nil => cases r; exact .nil
  | cons v vs ih => cases r with
    | cons a r => rw [List.reverse_cons, List.reverse_cons]; exact (ih r).append (.cons a .nil)
theorem RvAll.one {v : Value} {d : D} (k : Rv h α v d) : RvAll h α [v] [d] := .cons k .nil
end basics
/-- what the heap holds for a mutable object -/
def Cell (h : Heap) (α : List Addr) (a : Addr) : C → Prop
  | .list ds => ∃ vs : List Value, h.PlainList a vs.toArray ∧ RvAll h α vs ds
  | .barr b => ∃ o, h.get? a = some o ∧ o.cls = .type "bytearray" ∧ o.data = .bytearray b.toArray 0
theorem Cell.there {h : Heap} {α : List Addr} {a : Addr} {c : C} (x : Cell h α a c) : ∃ o, h.get? a = some o := by
  cases c with
  | list ds => obtain ⟨vs, ⟨n, ho⟩, _⟩ := x; exact ⟨_, ho⟩
  | barr b => obtain ⟨o, ho, _⟩ := x; exact ⟨o, ho⟩
structure St (hb : Heap) (α : List Addr) (σ : List C) (h : Heap) : Prop where
  keep : ∀ b o, hb.get? b = some o → h.get? b = some o
  fresh : ∀ a ∈ α, hb.get? a = none
  nodup : α.Nodup
  len : α.length = σ.length
  cells : ∀ (n : Nat) a c, α[n]? = some a → σ[n]? = some c → Cell h α a c
theorem St.there {hb : Heap} {α : List Addr} {σ : List C} {h : Heap} (S : St hb α σ h) {a : Addr} (ha : a ∈ α) : ∃ o, h.get? a = some o := by
  obtain ⟨n, hn, rfl⟩ := List.getElem_of_mem ha
  have hs : n < σ.length := S.len ▸ hn
  exact (S.cells n _ (σ[n]) (by simp [hn]) (by simp [hs])).there
theorem St.lt {hb : Heap} {α : List Addr} {σ : List C} {h : Heap} (S : St hb α σ h) {a : Addr} (ha : a ∈ α) : a < h.objs.size :=
  let ⟨_, e⟩ := S.there ha; Heap.lt_size e
/-- a datum of the base heap -/
theorem Rv.base {hb : Heap} {α : List Addr} {σ : List C} {h : Heap} (S : St hb α σ h) {v : Value} {d : D} (r : Rv hb [] v d) : Rv h α v d :=
  r.lift (fun b o _ _ hg _ _ => ⟨S.keep b o hg, fun hm => by rw [S.fresh b hm] at hg; cases hg⟩) (fun n a e => by simp at e)
/-- one step, or many, from s (mutable objects α) to s' (α', σ'): cells below n₀ and all else but X stay -/
structure Step (hb : Heap) (n₀ : Nat) (X : List Addr) (s : Shared) (α : List Addr) (s' : Shared) (α' : List Addr) (σ' : List C) : Prop where
  same : ∃ h' tk, s' = { s with heap := h', toks := tk }
  pre : ∃ β, α' = α ++ β ∧ ∀ b ∈ β, s.heap.get? b = none
  keep : ∀ b o, s.heap.get? b = some o → b ∉ α.drop n₀ → b ∉ X → s'.heap.get? b = some o
  alive : ∀ b ∈ X, ∀ o, s.heap.get? b = some o → ∃ o', s'.heap.get? b = some o'
  st : St hb α' σ' s'.heap
section step
variable {hb : Heap} {n₀ : Nat} {X : List Addr} {s s₁ s₂ : Shared} {α α₁ α₂ : List Addr} {σ σ₁ σ₂ : List C}
theorem Step.refl (S : St hb α σ s.heap) : Step hb n₀ X s α s α σ :=
  ⟨⟨_, _, rfl⟩, ⟨[], by simp, fun _ h => nomatch h⟩, fun _ _ e _ _ => e, fun _ _ o e => ⟨o, e⟩, S⟩
/-- nothing that stood is changed -/
theorem Step.quiet (S : St hb α σ s.heap) {h' : Heap} {tk : Nat} (hk : ∀ b o, s.heap.get? b = some o → h'.get? b = some o) :
    Step hb n₀ X s α { s with heap := h', toks := tk } α σ where
  same := ⟨_, _, rfl⟩
  pre := ⟨[], by simp, fun _ h => nomatch h⟩
  keep := fun b o e _ _ => hk b o e
  alive := fun _ _ o e => ⟨o, hk _ o e⟩
  st := ⟨fun b o e => hk b o (S.keep b o e), S.fresh, S.nodup, S.len, fun n a c e1 e2 => by
    have x := S.cells n a c e1 e2
    have lf : ∀ {vs : List Value} {ds : List D}, RvAll s.heap α vs ds → RvAll h' α vs ds := fun r => r.lift (fun b o _ _ e _ hn => ⟨hk b o e, hn⟩) fun _ _ e => e
    cases c with
    | list ds => obtain ⟨vs, ⟨m, ho⟩, q⟩ := x; exact ⟨vs, ⟨m, hk _ _ ho⟩, lf q⟩
    | barr b => obtain ⟨o, ho, r⟩ := x; exact ⟨o, hk _ _ ho, r⟩⟩
theorem mem_drop_append {β : List Addr} {b : Addr} {n : Nat} (hn : b ∉ α.drop n) (hb : b ∉ β) : b ∉ (α ++ β).drop n := by
  rw [List.drop_append]
  intro hm
  rcases List.mem_append.mp hm with q | q
  · exact hn q
  · exact hb (List.mem_of_mem_drop q)
theorem Step.live (x : Step hb n₀ X s α s₁ α₁ σ₁) {b : Addr} {o : Obj} (e : s.heap.get? b = some o) : ∃ o', s₁.heap.get? b = some o' := by
  by_cases hX : b ∈ X
  · exact x.alive b hX o e
  · by_cases hd : b ∈ α.drop n₀
    · obtain ⟨β, rfl, _⟩ := x.pre
      exact x.st.there (List.mem_append_left _ (List.mem_of_mem_drop hd))
    · exact ⟨o, x.keep b o e hd hX⟩
theorem Step.trans (x : Step hb n₀ X s α s₁ α₁ σ₁) (y : Step hb n₀ X s₁ α₁ s₂ α₂ σ₂) : Step hb n₀ X s α s₂ α₂ σ₂ where
  same := by
    obtain ⟨h1, t1, rfl⟩ := x.same
    obtain ⟨h2, t2, rfl⟩ := y.same
    exact ⟨h2, t2, rfl⟩
  pre := by
    have lv := @Step.live _ _ _ _ _ _ _ _ x
    obtain ⟨β, rfl, h1⟩ := x.pre
    obtain ⟨γ, rfl, h2⟩ := y.pre
    refine ⟨β ++ γ, by simp, fun b hb => (List.mem_append.mp hb).elim (h1 b) fun q => ?_⟩
    cases e : s.heap.get? b with
    | none => rfl
    | some o => obtain ⟨o', e'⟩ := lv e; rw [h2 b q] at e'; cases e'
  keep := fun b o e hd hX => by
    refine y.keep b o (x.keep b o e hd hX) ?_ hX
    obtain ⟨β, rfl, h1⟩ := x.pre
    exact mem_drop_append hd fun q => by rw [h1 b q] at e; cases e
  alive := fun b _ o e => by
    obtain ⟨o', e'⟩ := x.live e
    exact y.live e'
  st := y.st
theorem Step.mono {X' : List Addr} {m : Nat} (x : Step hb n₀ X s α s₁ α₁ σ₁) (hX : ∀ b ∈ X, b ∈ X') (hm : m ≤ n₀) : Step hb m X' s α s₁ α₁ σ₁ where
  same := x.same
  pre := x.pre
  keep := fun b o e hd hX' => x.keep b o e (fun q => hd (by
    have : α.drop n₀ = (α.drop m).drop (n₀ - m) := by rw [List.drop_drop]; congr 1; omega
    rw [this] at q; exact List.mem_of_mem_drop q)) fun q => hX' (hX b q)
  alive := fun _ _ _ e => x.live e
  st := x.st
theorem Step.ext (x : Step hb n₀ X s α s₁ α₁ σ₁) (n : Nat) (a : Addr) (e : α[n]? = some a) : α₁[n]? = some a := by
  obtain ⟨β, rfl, _⟩ := x.pre
  rw [List.getElem?_append_left (by exact (List.getElem?_eq_some_iff.mp e).1)]; exact e
/-- an old address, no mutable object: it is none later -/
theorem Step.notIn (x : Step hb n₀ X s α s₁ α₁ σ₁) {b : Addr} {o : Obj} (e : s.heap.get? b = some o) (hn : b ∉ α) : b ∉ α₁ := by
  obtain ⟨β, rfl, h1⟩ := x.pre
  intro hm
  rcases List.mem_append.mp hm with q | q
  · exact hn q
  · rw [h1 b q] at e; cases e
theorem Step.rv (x : Step hb n₀ X s α s₁ α₁ σ₁) (hX : ∀ a ∈ X, ∀ o, s.heap.get? a = some o → ∀ xs n, o.data ≠ .seq xs n) {v : Value} {d : D} (r : Rv s.heap α v d) : Rv s₁.heap α₁ v d :=
  r.lift (fun b o xs n e hd hn => ⟨x.keep b o e (fun q => hn (List.mem_of_mem_drop q)) fun q => hX b q o e xs n hd, x.notIn e hn⟩) fun n a e => x.ext n a e
theorem Step.rvAll (x : Step hb n₀ X s α s₁ α₁ σ₁) (hX : ∀ a ∈ X, ∀ o, s.heap.get? a = some o → ∀ xs n, o.data ≠ .seq xs n) {vs : List Value} {ds : List D} (r : RvAll s.heap α vs ds) : RvAll s₁.heap α₁ vs ds :=
  r.lift (fun b o xs n e hd hn => ⟨x.keep b o e (fun q => hn (List.mem_of_mem_drop q)) fun q => hX b q o e xs n hd, x.notIn e hn⟩) fun n a e => x.ext n a e
theorem Step.rv0 (x : Step hb n₀ [] s α s₁ α₁ σ₁) {v : Value} {d : D} (r : Rv s.heap α v d) : Rv s₁.heap α₁ v d := x.rv (fun _ h => nomatch h) r
theorem Step.rvAll0 (x : Step hb n₀ [] s α s₁ α₁ σ₁) {vs : List Value} {ds : List D} (r : RvAll s.heap α vs ds) : RvAll s₁.heap α₁ vs ds := x.rvAll (fun _ h => nomatch h) r
end step
/-- the room that a call leaves -/
def AOk (A : Around) (k : Nat) : Prop := A.handled = none ∧ A.depth + k < recursionLimit ∧ A.units + 8 * k + 200 < cLine
theorem AOk.mono {A : Around} {k j : Nat} (x : AOk A k) (h : j ≤ k) : AOk A j := ⟨x.1, by have := x.2.1; omega, by have := x.2.2; omega⟩
theorem AOk.deeper {A : Around} {k : Nat} (x : AOk A (k + 1)) (env : Env) : AOk (A.deeper env) k :=
  ⟨x.1, by have := x.2.1; show A.depth + 1 + k < _; omega, by have := x.2.2; show A.units + 3 + _ + _ < _; omega⟩
/-- what a name of the frame is bound to -/
def Bnd (env : Env) (h : Heap) (x : Str) (v : Value) : Prop :=
  (env.kindOf x = some .local ∧ ∃ m, h.Ns env.locals m ∧ m x = some v) ∨ (env.kindOf x = some .cell ∧ ∃ c, env.cells.lookup x = some c ∧ h.IsCell c (some v))
structure Loc (hb h : Heap) (α : List Addr) (env : Env) (ρ : List (Str × D)) : Prop where
  ns : ∃ m, h.Ns env.locals m
  bnd : ∀ x d, (x, d) ∈ ρ → ∃ v, Bnd env h x v ∧ Rv h α v d
  nodup : (ρ.map (·.1)).Nodup
  fresh : hb.get? env.locals = none
  off : env.locals ∉ α
  kind : env.scope.kind = .function
  glob : env.globals = mainGlobals
  bui : env.builtins = builtinsNs
  cells : ∀ c ∈ env.cells, c.2 ∉ α ∧ ∃ o v, h.get? c.2 = some o ∧ o.data = .cell v
theorem lookup_mem {β : Type} {z : Str} {c : β} : ∀ {l : List (Str × β)}, l.lookup z = some c → (z, c) ∈ l
  | [], e => by cases e
  | p :: l, e => by
    rw [List.lookup_cons] at e
    by_cases hz : z == p.1
    · rw [hz] at e; cases e; rw [eq_of_beq hz]; exact List.mem_cons_self
    · simp only [Bool.not_eq_true] at hz; rw [hz] at e; exact List.mem_cons_of_mem _ (lookup_mem e)
theorem ns_uniq {h : Heap} {a : Addr} {m m' : Str → Option Value} (x : h.Ns a m) (y : h.Ns a m') : m = m' := by
  obtain ⟨o, es, ep, h1, h2, _, h3⟩ := x
  obtain ⟨o', es', ep', h1', h2', _, h3'⟩ := y
  rw [h1] at h1'; cases h1'
  rw [h2] at h2'; cases h2'
  funext n; rw [← h3, ← h3']
theorem Loc.noSeq {hb h : Heap} {α : List Addr} {env : Env} {ρ : List (Str × D)} (x : Loc hb h α env ρ) : ∀ a ∈ [env.locals], ∀ o, h.get? a = some o → ∀ xs n, o.data ≠ .seq xs n := by
  intro a ha o ho xs n e
  obtain ⟨m, o', es, ep, h1, h2, _⟩ := x.ns
  cases List.mem_singleton.mp ha
  rw [ho] at h1; cases h1; rw [e] at h2; cases h2
section loc
variable {hb : Heap} {n₀ : Nat} {s s₁ : Shared} {α α₁ : List Addr} {σ₁ : List C} {env : Env} {ρ : List (Str × D)} {k : Nat}
theorem Loc.step (x : Loc hb s.heap α env ρ) (y : Step hb n₀ [] s α s₁ α₁ σ₁) : Loc hb s₁.heap α₁ env ρ where
  ns := by
    obtain ⟨m, o, es, ep, h1, r⟩ := x.ns
    exact ⟨m, o, es, ep, y.keep _ o h1 (fun q => x.off (List.mem_of_mem_drop q)) (fun q => nomatch q), r⟩
  bnd := fun z d e => by
    obtain ⟨v, hv, r⟩ := x.bnd z d e
    refine ⟨v, ?_, y.rv0 r⟩
    rcases hv with ⟨hk, m, ⟨o, es, ep, h1, q⟩, hm⟩ | ⟨hk, c, hl, o, ho, hd⟩
    · exact .inl ⟨hk, m, ⟨o, es, ep, y.keep _ o h1 (fun q => x.off (List.mem_of_mem_drop q)) (fun q => nomatch q), q⟩, hm⟩
    · exact .inr ⟨hk, c, hl, o, y.keep _ o ho (fun q => (x.cells _ (lookup_mem hl)).1 (List.mem_of_mem_drop q)) (fun q => nomatch q), hd⟩
  nodup := x.nodup
  fresh := x.fresh
  off := by
    obtain ⟨m, o, es, ep, h1, r⟩ := x.ns
    exact y.notIn h1 x.off
  kind := x.kind
  glob := x.glob
  bui := x.bui
  cells := fun c hc => by
    obtain ⟨h1, o, v, h2, h3⟩ := x.cells c hc
    exact ⟨y.notIn h2 h1, o, v, y.keep _ o h2 (fun q => h1 (List.mem_of_mem_drop q)) (fun q => nomatch q), h3⟩
end loc
end Mine
open PySem PySem.W PyProof.Rows PySem.Calls PySem.Spec
namespace Mine
/-- a code that does not hold a bytearray's memory -/
def cln : Code → Bool
  | .builtin id _ => !(Builtin.Bytes.decodersThatHold.contains id || ["bytearray.__contains__", "bytearray.__mod__", "bytearray.__rmod__", "_struct.pack_into.held", "bytearray.find.held"].contains id)
  | _ => true
/-- a context in which nothing holds a bytearray's memory -/
structure Cln (Γ : PySem.Ctx) : Prop where
  here : cln Γ.code = true
  below : ∀ x ∈ Γ.below, cln x.1 = true
theorem Cln.enter {Γ : PySem.Ctx} (h : Cln Γ) {c : Code} (hc : cln c = true) (hd : Option Value) (p : Pos) : Cln (Γ.enter c hd p) :=
  ⟨hc, fun x hx => (List.mem_cons.mp hx).elim (fun e => by rw [e]; exact h.here) (h.below x)⟩
theorem Cln.goto {Γ : PySem.Ctx} (h : Cln Γ) {c : Code} (hc : cln c = true) : Cln (Γ.goto c) := ⟨hc, h.below⟩
def wpR {β : Type} (M : Model) (A : Around) (t : Sem β) (Q : β → Shared → Prop) (E : Value → Shared → Prop) (s : Shared) : Prop :=
  ∀ Γ p, Γ.In A → Cln Γ → Sem.wp M Γ t (fun a _ s' => Q a s') (fun e _ s' => E e s') p s
def codeR (M : Model) (A : Around) (c : Code) (R : Result → Shared → Prop) (s : Shared) : Prop :=
  ∀ Γ p, Γ.code = c → Γ.Below A → Cln Γ → wpCode M Γ R p s
/-- no exception -/
abbrev noE : Value → Shared → Prop := fun _ _ => False
abbrev RR (Q : Flow → Shared → Prop) : Result → Shared → Prop := fun r s' => match r with | .ok f => Q f s' | .error _ => False
section
variable {β γ : Type} {M : Model} {A : Around} {E : Value → Shared → Prop} {s : Shared} {env : Env}
theorem wpR.of {t : Sem β} {Q : β → Shared → Prop} (h : wpAny M A t Q E s) : wpR M A t Q E s := fun Γ p hΓ _ => h Γ p hΓ
theorem wpR_pure {a : β} {Q : β → Shared → Prop} (h : Q a s) : wpR M A (pure a) Q E s := fun _ _ _ _ => h
theorem wpR_mono {t : Sem β} {Q Q' : β → Shared → Prop} {E' : Value → Shared → Prop} (h : wpR M A t Q E s) (hQ : ∀ a s, Q a s → Q' a s) (hE : ∀ e s, E e s → E' e s) : wpR M A t Q' E' s :=
  fun Γ p hΓ hc => Sem.wp_mono M Γ t (fun a _ s => hQ a s) (fun e _ s => hE e s) p s (h Γ p hΓ hc)
theorem wpR_bind {m : Sem β} {f : β → Sem γ} {Q : γ → Shared → Prop} (h : wpR M A m (fun a s' => wpR M A (f a) Q E s') E s) : wpR M A (m >>= f) Q E s := fun Γ p hΓ hc => by
  rw [Sem.wp_bind']
  exact Sem.wp_mono M Γ m (fun a p' s' h' => h' Γ p' hΓ hc) (fun _ _ _ h' => h') p s (h Γ p hΓ hc)
theorem wpR_holding {vs : List Value} {m : Sem β} {Q : β → Shared → Prop} (h : wpR M A m Q E s) : wpR M A (holding vs m) Q E s := fun Γ p hΓ hc => by
  rw [Sem.wp_holding]; exact h Γ p hΓ hc
theorem wpR_standAt {pos : Pos} {Q : Unit → Shared → Prop} (h : Q () s) : wpR M A (standAt pos) Q E s := fun _ _ _ _ => h
theorem wpR_point {Q : Unit → Shared → Prop} (h : Q () s) : wpR M A point Q E s := fun _ _ _ _ => h
theorem wpR_rule {tag : String} {Q : Unit → Shared → Prop} (h : Q () s) : wpR M A (rule tag) Q E s := fun _ _ _ _ => h
theorem wpR_of_eq {t : Sem β} {a : β} {Q : β → Shared → Prop} (e : t = pure a) (h : Q a s) : wpR M A t Q E s := by rw [e]; exact wpR_pure h
theorem wpR_release {vs ks : List Value} {Q : Unit → Shared → Prop} (h : Q () s) : wpR M A (release vs ks) Q E s := fun Γ p _ _ => by rw [Sem.wp_release]; exact h
theorem wpR_operate {vs : List Value} {t : Sem Value} {Q : Value → Shared → Prop} (h : wpR M A t Q E s) : wpR M A (operate vs t) Q E s := fun Γ p hΓ hc => by rw [Sem.wp_operate]; exact h Γ p hΓ hc
theorem wpR_bindName {x : Str} {v : Value} {Q : Unit → Shared → Prop} (h : wpR M A (storeName env x v) Q E s) : wpR M A (bindName env x v) Q E s := fun Γ p hΓ hc => by rw [Sem.wp_bindName]; exact h Γ p hΓ hc
theorem wpR_keep {vs : List Value} {m : Sem β} {Q : β → Shared → Prop} (h : wpR M A m Q E s) : wpR M A (m.keep vs) Q E s := fun Γ p hΓ hc => by rw [Sem.wp_keep]; exact h Γ p hΓ hc
theorem wpR_onRaise {m : Sem β} {k : Value → Sem Unit} {Q : β → Shared → Prop} (h : wpR M A m Q noE s) : wpR M A (m.onRaise k) Q E s := fun Γ p hΓ hc => by
  rw [Sem.wp_onRaise]
  exact Sem.wp_mono M Γ m (fun _ _ _ h' => h') (fun _ _ _ h' => h'.elim) p s (h Γ p hΓ hc)
theorem wpR_attempt {m : Sem β} {Q : Except Value β → Shared → Prop} (h : wpR M A m (fun a => Q (.ok a)) noE s) : wpR M A m.attempt Q E s := fun Γ p hΓ hc => by
  rw [Sem.wp_attempt]
  exact Sem.wp_mono M Γ m (fun _ _ _ h' => h') (fun _ _ _ h' => h'.elim) p s (h Γ p hΓ hc)
theorem wpR_noE {t : Sem β} {Q : β → Shared → Prop} (h : wpR M A t Q noE s) : wpR M A t Q E s := wpR_mono h (fun _ _ q => q) fun _ _ f => f.elim
theorem codeR_mono {c : Code} {R R' : Result → Shared → Prop} (h : codeR M A c R s) (hR : ∀ r s, R r s → R' r s) : codeR M A c R' s := fun Γ p e hΓ hc => wpCode_mono hR (h Γ p e hΓ hc)
theorem wpR_run {c : Code} {Q : Flow → Shared → Prop} (hc : codeR M A c (RR Q) s) (hl : cln c = true := by rfl) : wpR M A (run c none) Q E s := fun Γ p hΓ hcl => by
  rw [Sem.wp_run]
  refine wpCode_mono (fun r s' h => ?_) (hc _ p rfl (hΓ.enter c none p (by intro x; cases x)) (hcl.enter hl none p))
  cases r with
  | ok f => exact h
  | error e => exact h.elim
theorem wpR_runOwn {c : Code} {Q : Flow → Shared → Prop} (hc : codeR M A c (RR Q) s) (hl : cln c = true := by rfl) : wpR M A (runOwn c env none) Q E s := by
  unfold runOwn; exact wpR_onRaise (wpR_run hc hl)
theorem wpR_call {f : Value} {pos : List Value} {kw : List (Str × Value)} {Q : Value → Shared → Prop}
    (hc : codeR M A (.call f ⟨pos, kw⟩) (RR fun f s' => match f with | .ret v => Q v s' | _ => False) s) : wpR M A (call f pos kw) Q E s := fun Γ p hΓ hcl => by
  show Sem.wp M Γ (runValue (.call f ⟨pos, kw⟩)) _ _ p s
  rw [Sem.wp_runValue]
  refine wpCode_mono (fun r s' h => ?_) (hc _ p rfl (hΓ.enter _ none p (by intro x; cases x)) (hcl.enter rfl none p))
  cases r with
  | ok f => cases f <;> exact h
  | error e => exact h.elim
theorem codeR_of_tree {c : Code} {R : Result → Shared → Prop}
    (h : wpR M (A.under c) (M.den c) (fun fin s' => match fin with | .done f => R (.ok f) s' | .again c' => c'.quiet = true ∧ cln c' = true ∧ codeR M A c' R s') (fun e s' => R (.error e) s') s) : codeR M A c R s := fun Γ p hc hΓ hcl => by
  rw [wpCode_iff_wp, hc]
  refine Sem.wp_mono M Γ _ (fun fin p' s' h' => ?_) (fun _ _ _ h' => h') p s (h Γ p (hc ▸ hΓ.in) hcl)
  cases fin with
  | done f => exact h'
  | again c' => exact ⟨h'.1, h'.2.2 (Γ.goto c') p' rfl (hΓ.goto c') (hcl.goto h'.2.1)⟩
theorem codeR_loop {c : Code} {R : Result → Shared → Prop} (hq : c.quiet = true) (hl : cln c = true) (I : Nat → Shared → Prop)
    (turn : ∀ n s, I n s → wpR M (A.under c) (M.den c) (fun fin s' => match fin with
      | .done f => R (.ok f) s'
      | .again c' => (c' = c ∧ ∃ m, m < n ∧ I m s') ∨ (c'.quiet = true ∧ cln c' = true ∧ codeR M A c' R s')) noE s)
    (n : Nat) (h : I n s) : codeR M A c R s := by
  induction n using Nat.strongRecOn generalizing s with
  | ind n ih =>
    refine codeR_of_tree (wpR_mono (turn n s h) (fun fin s' hf => ?_) fun _ _ h' => h'.elim)
    cases fin with
    | done f => exact hf
    | again c' =>
      rcases hf with ⟨rfl, m, hm, hI⟩ | hf
      · exact ⟨hq, hl, ih m hm hI⟩
      · exact hf
end
section
variable {M : Model} {A : Around} {E : Value → Shared → Prop} {s : Shared} {env : Env}
theorem splicedR_nil {Q : List Value → Shared → Prop} (h : Q [] s) : wpR M A (spliced []) Q E s := wpR_pure h
theorem splicedR_cons {x : Sem Value} {rest : List (Bool × Sem Value)} {Q : List Value → Shared → Prop} (h : wpR M A x (fun v s₁ => wpR M A (spliced rest) (fun vs s₂ => Q (v :: vs) s₂) E s₁) E s) :
    wpR M A (spliced ((false, x) :: rest)) Q E s := by
  rw [spliced]
  refine wpR_bind (wpR_mono h (fun v s₁ h₁ => ?_) fun _ _ x => x)
  simp only [Bool.false_eq_true, if_false]
  exact wpR_bind (wpR_pure (wpR_bind (wpR_holding (wpR_mono h₁ (fun vs s₂ h₂ => wpR_pure h₂) fun _ _ x => x))))
theorem argsR {f : Value} {x : Sem Value} {rest : List (Bool × Sem Value)} {Q : Args → Shared → Prop} (h : wpR M A (spliced ((false, x) :: rest)) (fun vs s' => Q ⟨vs, []⟩ s') E s) :
    wpR M A (evalArgs f true ((false, x) :: rest) []) Q E s := by
  unfold evalArgs
  show wpR M A (spliced ((false, x) :: rest) >>= _) Q E s
  refine wpR_bind (wpR_mono h (fun vs s' h' => wpR_holding ?_) fun _ _ x => x)
  exact wpR_bind (wpR_pure (wpR_bind (wpR_pure (wpR_pure h'))))
theorem callTailR {t : Sem Value} {Q : Value → Shared → Prop} (h : wpR M A t Q E s) : wpR M A (t >>= fun r => holding [r] point >>= fun _ => pure r) Q E s :=
  wpR_bind (wpR_mono h (fun r s₂ hr => wpR_bind (wpR_holding (wpR_point (wpR_pure hr)))) fun _ _ x => x)
theorem callWithR_fn {pos : Pos} {f : Addr} {o : Obj} {fd : FuncData} {e : Expr} {rest : List Expr} {Q : Value → Shared → Prop} (hdat : o.data = .func fd)
    (h : wpR M A (spliced (backTo pos (starEach (e :: rest) env))) (fun vs s₁ => s₁.heap.get? f = some o ∧ wpR M A (call (.ref f) vs) Q E s₁) E s)
    (he : starEach (e :: rest) env = (false, eval e env) :: starEach rest env := by rfl) : wpR M A (callWith pos (.ref f) [] (backTo pos (starEach (e :: rest) env)) []) Q E s := by
  rw [he] at h ⊢
  unfold callWith
  refine wpR_bind (wpR_holding (argsR (wpR_mono h (fun vs s₁ h₁ => wpR_bind (wpR_standAt ?_)) fun _ _ x => x)))
  cases hs : (backTo pos ((false, eval e env) :: starEach rest env)).any (·.1) <;> simp only [List.any_nil, Bool.or_false] <;>
    refine wpR_bind (m := keeperOf (.ref f)) ?_ <;> unfold keeperOf <;>
    refine wpR_bind (wpR.of (wpAny_load h₁.1 ?_)) <;> rw [hdat] <;> refine wpR_pure ?_
  · dsimp only
    split <;> first
      | exact callTailR h₁.2
      | exact callTailR (by unfold callMarked; exact wpR_keep h₁.2)
  · exact callTailR (by unfold callMarked; exact wpR_keep h₁.2)
theorem callWithR_builtin {pos : Pos} {id : String} {first : List Value} {e : Expr} {rest : List Expr} {Q : Value → Shared → Prop}
    (h : wpR M A (spliced (backTo pos (starEach (e :: rest) env))) (fun vs s₁ => wpR M A (call (.builtin id) (first ++ vs)) Q E s₁) E s)
    (he : starEach (e :: rest) env = (false, eval e env) :: starEach rest env := by rfl) (hplain : (backTo pos (starEach rest env)).any (·.1) = false := by rfl) :
    wpR M A (callWith pos (.builtin id) first (backTo pos (starEach (e :: rest) env)) []) Q E s := by
  rw [he] at h ⊢
  unfold callWith
  refine wpR_bind (wpR_holding (argsR (wpR_mono h (fun vs s₁ h₁ => wpR_bind (wpR_standAt ?_)) fun _ _ x => x)))
  have hp : (backTo pos ((false, eval e env) :: starEach rest env)).any (·.1) = false := by show (false || (backTo pos (starEach rest env)).any (·.1)) = false; rw [hplain]; rfl
  simp only [hp, List.any_nil, Bool.or_false]
  exact wpR_bind (wpR_pure (callTailR h₁))
theorem callWithR_type {pos : Pos} {T : String} {e : Expr} {rest : List Expr} {Q : Value → Shared → Prop}
    (h : wpR M A (spliced (backTo pos (starEach (e :: rest) env))) (fun vs s₁ => wpR M A (call (.type T) vs) Q E s₁) E s)
    (he : starEach (e :: rest) env = (false, eval e env) :: starEach rest env := by rfl) (hplain : (backTo pos (starEach rest env)).any (·.1) = false := by rfl) :
    wpR M A (callWith pos (.type T) [] (backTo pos (starEach (e :: rest) env)) []) Q E s := by
  rw [he] at h ⊢
  unfold callWith
  refine wpR_bind (wpR_holding (argsR (wpR_mono h (fun vs s₁ h₁ => wpR_bind (wpR_standAt ?_)) fun _ _ x => x)))
  have hp : (backTo pos ((false, eval e env) :: starEach rest env)).any (·.1) = false := by show (false || (backTo pos (starEach rest env)).any (·.1)) = false; rw [hplain]; rfl
  simp only [hp, List.any_nil, Bool.or_false]
  exact wpR_bind (wpR_pure (callTailR h₁))
end
end Mine
open PySem PySem.W PyProof.Rows PySem.Calls PySem.Spec
namespace Mine
section
variable {M : Model} {A : Around} {E : Value → Shared → Prop} {s : Shared} {env : Env}
theorem CallR {func : Expr} {args : List Expr} {pos : Pos} {Q : Value → Shared → Prop}
    (h : wpR M A (eval func env) (fun f s₁ => wpR M A (callWith pos f [] (backTo pos (starEach args env)) []) Q E s₁) E s)
    (he : eval (.Call func args [] pos) env = (do callWith pos (← eval func env) [] (backTo pos (starEach args env)) (backToKw pos (keywordEach [] env))) := by rfl) : wpR M A (eval (.Call func args [] pos) env) Q E s := by
  rw [he]; exact wpR_bind h
theorem MethodCallR {o : Expr} {name : Str} {apos pos : Pos} {args : List Expr} {pl : Sem Bool} {Q : Value → Shared → Prop}
    (h : wpR M A (eval o env) (fun ov s₁ => wpR M A (getMethod ov name pl) (fun fx s₂ => wpR M A (callWith pos fx.1 fx.2 (backTo pos (starEach args env)) []) Q E s₂) E s₁) E s)
    (he : eval (.Call (.Attribute o name apos) args [] pos) env = (do
      let ov ← eval o env
      standAt apos.atName
      let (f, first) ← holding [ov] (getMethod ov name pl)
      callWith pos f first (backTo pos (starEach args env)) [])) : wpR M A (eval (.Call (.Attribute o name apos) args [] pos) env) Q E s := by
  rw [he]
  exact wpR_bind (wpR_mono h (fun ov s₁ h₁ => wpR_bind (wpR_standAt (wpR_bind (wpR_holding h₁)))) fun _ _ x => x)
theorem TupleR {elts : List Expr} {k : Nat} {pos : Pos} {Q : Value → Shared → Prop} (h : wpR M A (spliced (backTo pos (starEach elts env))) (fun vs s₁ => wpR M A (newTuple vs) Q E s₁) E s) : wpR M A (eval (.Tuple elts k pos) env) Q E s := by
  show wpR M A (do standAt pos; newTuple (← spliced (backTo pos (starEach elts env)))) Q E s
  exact wpR_bind (wpR_standAt (wpR_bind h))
theorem ListR {elts : List Expr} {pos : Pos} {Q : Value → Shared → Prop} (h : wpR M A (spliced (backTo pos (starEach elts env))) (fun vs s₁ => wpR M A (newList vs) Q E s₁) E s) : wpR M A (eval (.List elts pos) env) Q E s := by
  show wpR M A (do standAt pos; newList (← spliced (backTo pos (starEach elts env)))) Q E s
  exact wpR_bind (wpR_standAt (wpR_bind h))
theorem BinOpR {l op r pos} {Q : Value → Shared → Prop} (h : wpR M A (eval l env) (fun a s₁ => wpR M A (eval r env) (fun b s₂ => wpR M A (binaryOp op a b) Q E s₂) E s₁) E s) : wpR M A (eval (.BinOp l op r pos) env) Q E s := by
  rw [eval_BinOp]
  exact wpR_bind (wpR_mono h (fun a s₁ h₁ => wpR_bind (wpR_holding (wpR_mono h₁ (fun b s₂ h₂ => wpR_bind (wpR_standAt (wpR_operate h₂))) fun _ _ x => x))) fun _ _ x => x)
theorem Compare1R {l op r pos} {Q : Value → Shared → Prop} (h : wpR M A (eval l env) (fun a s₁ => wpR M A (eval r env) (fun b s₂ => wpR M A (compareOp op a b) Q E s₂) E s₁) E s)
    (hm : behindInMarks op r = false := by with_unfolding_all rfl) : wpR M A (eval (.Compare l [op] [r] pos) env) Q E s := by
  rw [eval_Compare1]
  simp only [markedBehindIn_of_false hm]
  exact wpR_bind (wpR_mono h (fun a s₁ h₁ => wpR_bind (wpR_holding (wpR_mono h₁ (fun b s₂ h₂ => wpR_bind (wpR_standAt (wpR_operate h₂))) fun _ _ x => x))) fun _ _ x => x)
theorem isTrue_Compare1R {l op r pos whole} {Q : Bool → Shared → Prop} (h : wpR M A (eval l env) (fun a s₁ => wpR M A (eval r env) (fun b s₂ => wpR M A (compareOp op a b) (fun c s₃ => wpR M A (truthy c) Q E s₃) E s₂) E s₁) E s)
    (hm : behindInMarks op r = false := by with_unfolding_all rfl) : wpR M A (isTrue (.Compare l [op] [r] pos) env whole) Q E s := fun Γ p hΓ hc => by
  simp only [isTrue_Compare1, markedBehindIn_of_false hm, Sem.wp_bind', Sem.wp_holding, Sem.wp_cmd_standAt, Sem.wp_operate]
  exact Sem.wp_mono M Γ _ (fun a p₁ s₁ h₁ => Sem.wp_mono M Γ _ (fun b _ s₂ h₂ => Sem.wp_mono M Γ _ (fun c p₃ s₃ h₃ => h₃ Γ p₃ hΓ hc)
    (fun _ _ _ h' => h') _ _ (h₂ Γ _ hΓ hc)) (fun _ _ _ h' => h') _ _ (h₁ Γ p₁ hΓ hc)) (fun _ _ _ h' => h') _ _ (h Γ p hΓ hc)
theorem isTrue_plainR {e : Expr} {whole : Sem Value} {Q : Bool → Shared → Prop} (h : wpR M A whole (fun v s₁ => wpR M A (truthy v) Q E s₁) E s)
    (he : isTrue e env whole = (do let v ← whole; standAt e.pos; holding [v] (truthy v)) := by rfl) : wpR M A (isTrue e env whole) Q E s := by
  rw [he]; exact wpR_bind (wpR_mono h (fun v s₁ h₁ => wpR_bind (wpR_standAt (wpR_holding h₁))) fun _ _ x => x)
theorem isTrue_notR {x pos whole} {Q : Bool → Shared → Prop} (h : wpR M A (isTrue x env (eval x env)) (fun c s' => Q (!c) s') E s) : wpR M A (isTrue (.UnaryOp .Not x pos) env whole) Q E s := by
  show wpR M A (do return !(← isTrue x env (eval x env))) Q E s
  exact wpR_bind (wpR_mono h (fun c s' h' => wpR_pure h') fun _ _ x => x)
theorem isTrue_chainR {l op₁ op₂ ops r₁ r₂ rs pos whole} {Q : Bool → Shared → Prop} (h : wpR M A (eval l env) (fun a s₁ => wpR M A (testChain pos a (op₁ :: op₂ :: ops) (eval r₁ env :: eval r₂ env :: evalEach rs env)) Q E s₁) E s)
    (hm : lastMarks (op₁ :: op₂ :: ops) (r₁ :: r₂ :: rs) = false := by with_unfolding_all rfl) : wpR M A (isTrue (.Compare l (op₁ :: op₂ :: ops) (r₁ :: r₂ :: rs) pos) env whole) Q E s := by
  show wpR M A (do testChain pos (← eval l env) (op₁ :: op₂ :: ops) (markedEach (op₁ :: op₂ :: ops) (r₁ :: r₂ :: rs) (evalEach (r₁ :: r₂ :: rs) env))) Q E s
  rw [markedEach_of_false _ _ _ hm]
  exact wpR_bind h
theorem UnaryOpR {op x pos} {Q : Value → Shared → Prop} (h : wpR M A (eval x env) (fun v s₁ => wpR M A (unaryOp op v) Q E s₁) E s) : wpR M A (eval (.UnaryOp op x pos) env) Q E s := by
  rw [eval_UnaryOp]; exact wpR_bind (wpR_mono h (fun v s₁ h₁ => wpR_bind (wpR_standAt (wpR_holding h₁))) fun _ _ x => x)
theorem IfExpR {test body orelse pos} {Q : Value → Shared → Prop} (h : wpR M A (isTrue test env (eval test env)) (fun c s₂ => if c then wpR M A (eval body env) Q E s₂ else wpR M A (eval orelse env) Q E s₂) E s) :
    wpR M A (eval (.IfExp test body orelse pos) env) Q E s := by
  rw [eval_IfExp]
  refine wpR_bind (wpR_mono h (fun c s₂ h₂ => ?_) fun _ _ x => x)
  cases c <;> exact h₂
theorem BoolOp_oneR {op e pos} {Q : Value → Shared → Prop} (h : wpR M A (eval e env) Q E s) : wpR M A (eval (.BoolOp op [e] pos) env) Q E s := h
theorem BoolOp_andR {e₁ e₂ rest pos} {Q : Value → Shared → Prop} (h : wpR M A (eval e₁ env) (fun v s₁ => wpR M A (truthy v) (fun c s₂ => if c then wpR M A (eval (.BoolOp .And (e₂ :: rest) pos) env) Q E s₂ else Q v s₂) E s₁) E s) :
    wpR M A (eval (.BoolOp .And (e₁ :: e₂ :: rest) pos) env) Q E s := by
  show wpR M A (do
    let v ← eval e₁ env
    standAt pos
    let c ← holding [v] (truthy v)
    match BoolOp.And, c with
    | .And, false | .Or, true => pure v
    | _, _ => boolOp pos .And (eval e₂ env :: evalEach rest env)) Q E s
  refine wpR_bind (wpR_mono h (fun v s₁ h₁ => wpR_bind (wpR_standAt (wpR_bind (wpR_holding (wpR_mono h₁ (fun c s₂ h₂ => ?_) fun _ _ x => x))))) fun _ _ x => x)
  cases c with
  | false => exact wpR_pure h₂
  | true => exact h₂
theorem SubscriptR {value slice pos} {Q : Value → Shared → Prop} (h : wpR M A (eval value env) (fun o s₁ => wpR M A (eval slice env) (fun i s₂ => wpR M A (subscriptTail value slice o i) Q E s₂) E s₁) E s) :
    wpR M A (eval (.Subscript value slice pos) env) Q E s := by
  rw [eval_Subscript]
  exact wpR_bind (wpR_mono h (fun o s₁ h₁ => wpR_bind (wpR_holding (wpR_mono h₁ (fun i s₂ h₂ => wpR_bind (wpR_standAt h₂)) fun _ _ x => x))) fun _ _ x => x)
theorem SliceR {lower upper step : Option Expr} {p : Pos} {Q : Value → Shared → Prop}
    (h : wpR M A (evalPart lower env) (fun l s₁ => wpR M A (evalPart upper env) (fun u s₂ => wpR M A (evalPart step env) (fun st s₃ =>
      Q (.ref s₃.heap.objs.size) { s₃ with heap := s₃.heap.push { cls := .type "slice", data := .fields #[l, u, st] } }) E s₂) E s₁) E s) : wpR M A (eval (.Slice lower upper step p) env) Q E s := by
  rw [arm_eval_Slice]
  refine wpR_bind (wpR_mono h (fun l s₁ h₁ => wpR_bind (wpR_holding (wpR_mono h₁ (fun u s₂ h₂ => wpR_bind (wpR_holding (wpR_mono h₂ (fun st s₃ h₃ => ?_) fun _ _ x => x))) fun _ _ x => x))) fun _ _ x => x)
  exact wpR.of (wpAny_newObj_type h₃)
theorem SubscriptSliceR {value : Expr} {lower upper : Option Expr} {p pos : Pos} {T id : String} {Q : Value → Shared → Prop} (hl : typeLookup (.type T) "__getitem__" = pure (some (.builtin id)))
    (h : wpR M A (eval value env) (fun o s₁ => wpR M A (eval (.Slice lower upper none p) env) (fun i s₂ => s₂.TypeIs o T ∧ wpR M A (getItem o i) Q E s₂) E s₁) E s)
    (ht : ∀ o r, letTemporaryGo value o r = pure () := by intro _ _; rfl) : wpR M A (eval (.Subscript value (.Slice lower upper none p) pos) env) Q E s := by
  rw [eval_Subscript]
  refine wpR_bind (wpR_mono h (fun o s₁ h₁ => wpR_bind (wpR_holding (wpR_mono h₁ (fun i s₂ h₂ => wpR_bind (wpR_standAt ?_)) fun _ _ x => x))) fun _ _ x => x)
  have fin : wpR M A (operate [i, o] (getItem o i)) (fun r s₃ => wpR M A (letTemporaryGo value o r >>= fun _ => pure r) Q E s₃) E s₂ :=
    wpR_operate (wpR_mono h₂.2 (fun r s₃ h₃ => wpR_bind (wpR_of_eq (ht o r) (wpR_pure h₃))) fun _ _ x => x)
  refine wpR_bind ?_
  rw [getitemInPython_of_ne h₂.1.not_modules]
  refine wpR_bind (wpR.of (wpAny_specialOf h₂.1 hl ?_))
  first
    | exact wpR_pure (wpR_bind fin)
    | exact wpR_bind (wpR_pure (wpR_bind fin))
    | exact wpR_bind fin
theorem execsR_nil {Q : Flow → Shared → Prop} (h : Q .next s) : wpR M A (execs [] env) Q E s := fun _ _ _ _ => h
theorem execsR_cons {st rest} {Q : Flow → Shared → Prop} (h : wpR M A (exec st env) (fun f s' => match f with | .next => wpR M A (execs rest env) Q E s' | f => Q f s') E s) : wpR M A (execs (st :: rest) env) Q E s := by
  rw [execs_cons]
  refine wpR_bind (wpR_mono h (fun f s' h' => ?_) fun _ _ x => x)
  cases f with
  | next => exact h'
  | brk => exact wpR_pure h'
  | cont => exact wpR_pure h'
  | ret v => exact wpR_pure h'
theorem ExprR {e pos} {Q : Flow → Shared → Prop} (h : wpR M A (eval e env) (fun v s' => match v with | .ref _ => False | _ => Q .next s') E s)
    (hi : interactive env = false := by rfl) (hs : swapsWith e none pos.line env = pure false := by rfl) : wpR M A (exec (.Expr e pos) env) Q E s := by
  rw [exec_Expr env e pos hi hs]
  refine wpR_bind (wpR_standAt (wpR_bind (wpR_mono h (fun v s' h' => ?_) fun _ _ x => x)))
  have hv : ∀ a, v ≠ .ref a := fun a hva => by subst hva; exact h'
  rw [dropValue_plain hv]
  refine wpR_pure ?_
  cases v <;> first | exact h' | exact (hv _ rfl).elim
theorem AssignNameR {x pos' value pos} {Q : Flow → Shared → Prop} (h : wpR M A (eval value env) (fun v s₁ => wpR M A (storeName env x v) (fun _ => Q .next) E s₁) E s)
    (hs : swapsWith value (some (.Name x pos')) pos.line env = pure false := by rfl) : wpR M A (exec (.Assign [.Name x pos'] value pos) env) Q E s := fun Γ p hΓ hc => by
  simp only [exec_Assign_Name env x pos' value pos hs, Sem.wp_bind', Sem.wp_cmd_standAt, Sem.wp_bindName, Sem.wp_pure']
  exact Sem.wp_mono M Γ _ (fun v _ s₁ h₁ => h₁ Γ _ hΓ hc) (fun _ _ _ h' => h') _ _ (h Γ _ hΓ hc)
theorem AugAssignR {x pos' op value pos} {Q : Flow → Shared → Prop}
    (h : wpR M A (loadName env x) (fun old s₁ => wpR M A (eval value env) (fun v s₂ => wpR M A (inplaceOp op old v) (fun r s₃ => wpR M A (storeName env x r) (fun _ => Q .next) E s₃) E s₂) E s₁) E s) :
    wpR M A (exec (.AugAssign (.Name x pos') op value pos) env) Q E s := fun Γ p hΓ hc => by
  simp only [exec_AugAssign_Name, Sem.wp_bind', Sem.wp_holding, Sem.wp_cmd_standAt, Sem.wp_operate, Sem.wp_bindName, Sem.wp_pure']
  exact Sem.wp_mono M Γ _ (fun old p₁ s₁ h₁ => Sem.wp_mono M Γ _ (fun v _ s₂ h₂ => Sem.wp_mono M Γ _ (fun r _ s₃ h₃ => h₃ Γ _ hΓ hc)
    (fun _ _ _ h' => h') _ _ (h₂ Γ _ hΓ hc)) (fun _ _ _ h' => h') _ _ (h₁ Γ p₁ hΓ hc)) (fun _ _ _ h' => h') _ _ (h Γ _ hΓ hc)
theorem IfR {test body orelse pos} {Q : Flow → Shared → Prop} (h : wpR M A (isTrue test env (eval test env)) (fun b s₂ => if b then wpR M A (execs body env) Q E s₂ else wpR M A (execs orelse env) Q E s₂) E s) :
    wpR M A (exec (.If test body orelse pos) env) Q E s := fun Γ p hΓ hc => by
  simp only [exec_If, Sem.wp_bind', Sem.wp_cmd_standAt]
  refine Sem.wp_mono M Γ _ (fun b p₂ s₂ h₂ => ?_) (fun _ _ _ h' => h') _ _ (h Γ _ hΓ hc)
  cases b <;> exact h₂ Γ p₂ hΓ hc
theorem ReturnR {e pos} {Q : Flow → Shared → Prop} (h : wpR M A (eval e env) (fun v => Q (.ret v)) E s) : wpR M A (exec (.Return (some e) pos) env) Q E s := fun Γ p hΓ hc => by
  simp only [exec_Return_some, Sem.wp_bind', Sem.wp_cmd_standAt, Sem.wp_pure']; exact h Γ _ hΓ hc
theorem WhileR {test body orelse pos} {Q : Flow → Shared → Prop} (h : codeR M A (.whileLoop test body orelse env) (RR Q) s) : wpR M A (exec (.While test body orelse pos) env) Q E s := by
  rw [exec_While]; exact wpR_bind (wpR_standAt (wpR_runOwn h))
theorem ForR {target iter body orelse pos} {Q : Flow → Shared → Prop} (h : wpR M A (eval iter env) (fun x s₁ => wpR M A (pyIter x) (fun it s₂ => codeR M A (.forLoop target it body orelse env) (RR Q) s₂) E s₁) E s)
    (hs : ∀ x, foldedSetIterable iter env x = pure x := by intro _; rfl) : wpR M A (exec (.For target iter body orelse pos) env) Q E s := by
  rw [exec_For]
  exact wpR_bind (wpR_standAt (wpR_bind (wpR_mono h (fun x s₁ h₁ => wpR_bind (wpR_of_eq (hs x) (wpR_bind (wpR_standAt (wpR_bind (wpR_holding
    (wpR_mono h₁ (fun it s₂ h₂ => wpR_runOwn h₂) fun _ _ h' => h'))))))) fun _ _ h' => h')))
theorem AssignSubscriptR {o i pos' value pos} {Q : Flow → Shared → Prop}
    (h : wpR M A (eval value env) (fun v s₁ => wpR M A (eval o env) (fun ov s₂ => wpR M A (eval i env) (fun iv s₃ => wpR M A (setItem ov iv v) (fun _ => Q .next) E s₃) E s₂) E s₁) E s)
    (hs : swapsWith value (some (.Subscript o i pos')) pos.line env = pure false := by rfl) : wpR M A (exec (.Assign [.Subscript o i pos'] value pos) env) Q E s := fun Γ p hΓ hc => by
  simp only [exec_Assign_Subscript o i pos' value pos hs, assign_Subscript, Sem.wp_bind', Sem.wp_holding, Sem.wp_cmd_standAt, Sem.wp_release, Sem.wp_pure']
  exact Sem.wp_mono M Γ _ (fun v p₁ s₁ h₁ => Sem.wp_mono M Γ _ (fun ov p₂ s₂ h₂ => Sem.wp_mono M Γ _ (fun iv _ s₃ h₃ => h₃ Γ _ hΓ hc)
    (fun _ _ _ h' => h') _ _ (h₂ Γ p₂ hΓ hc)) (fun _ _ _ h' => h') _ _ (h₁ Γ p₁ hΓ hc)) (fun _ _ _ h' => h') _ _ (h Γ _ hΓ hc)
theorem AssignTupleR {elts k tpos value pos} {Q : Flow → Shared → Prop} (h : wpR M A (eval value env) (fun v s₁ => wpR M A (assign (.Tuple elts k tpos) env v) (fun _ => Q .next) E s₁) E s)
    (hs : swapsWithSole [.Tuple elts k tpos] value pos.line env = pure false := by rfl) (hw : swappedStores [.Tuple elts k tpos] value env = pure none := by rfl) :
    wpR M A (exec (.Assign [.Tuple elts k tpos] value pos) env) Q E s := by
  rw [exec_Assign]
  refine wpR_bind (wpR_standAt ?_)
  rw [hs]
  refine wpR_bind (wpR_pure ?_)
  rw [if_neg (by decide)]
  refine wpR_bind (wpR_mono h (fun v s₁ h₁ => ?_) fun _ _ x => x)
  rw [hw]
  refine wpR_bind (wpR_pure ?_)
  show wpR M A (do assignAll v [assign (.Tuple elts k tpos) env]; pure .next) Q E s₁
  exact wpR_bind (wpR_mono h₁ (fun _ _ x => wpR_pure x) fun _ _ x => x)
theorem AssignSwappedR {elts k tpos value pos} {names : List Str} {Q : Flow → Shared → Prop}
    (h : wpR M A (eval value env) (fun v s₁ => wpR M A (unpackItems v names.length none) (fun items s₂ => wpR M A (assignInOrder (names.reverse.map fun n => bindName env n) items.reverse) (fun _ => Q .next) E s₂) E s₁) E s)
    (hs : swapsWithSole [.Tuple elts k tpos] value pos.line env = pure false := by rfl) (hw : swappedStores [.Tuple elts k tpos] value env = pure (some names) := by rfl) :
    wpR M A (exec (.Assign [.Tuple elts k tpos] value pos) env) Q E s := by
  rw [exec_Assign]
  refine wpR_bind (wpR_standAt ?_)
  rw [hs]
  refine wpR_bind (wpR_pure ?_)
  rw [if_neg (by decide)]
  refine wpR_bind (wpR_mono h (fun v s₁ h₁ => ?_) fun _ _ x => x)
  rw [hw]
  refine wpR_bind (wpR_pure ?_)
  show wpR M A (do rule "assign.swapped-stores"; let items ← unpackItems v names.length none; assignInOrder (names.reverse.map fun n => bindName env n) items.reverse; pure .next) Q E s₁
  exact wpR_bind (wpR_rule (wpR_bind (wpR_mono h₁ (fun items s₂ h₂ => wpR_bind (wpR_mono h₂ (fun _ _ x => wpR_pure x) fun _ _ x => x)) fun _ _ x => x)))
end
section
variable {prog : Program} {w : World} {A : Around} {s : Shared}
theorem codeR_block_nil {env : Env} {Q : Flow → Shared → Prop} (h : Q .next s) : codeR (model prog w) A (.block [] env) (RR Q) s := by
  refine codeR_of_tree ?_
  show wpR _ _ (do return Fin.done (← (execs [] env).onRaise (fun x => do noteFrame x env; theTreesLotGoes x))) _ _ s
  exact wpR_bind (wpR_onRaise (execsR_nil (wpR_pure h)))
theorem forLoopR {Q : Flow → Shared → Prop} {target it body env} (I : Nat → Shared → Prop)
    (turn : ∀ n s, I n s → wpR (model prog w) A (pyNext it) (fun r s₁ => match r with
      | none => Q .next s₁
      | some v => wpR (model prog w) A (assign target env v) (fun _ s₂ => wpR (model prog w) A (execs body env) (fun f s₃ => match f with
          | .next | .cont => ∃ m, m < n ∧ I m s₃
          | .brk => Q .next s₃
          | .ret v => Q (.ret v) s₃) noE s₂) noE s₁) noE s)
    (n : Nat) (h : I n s) (ht : ∀ v, letOwnedTupleGo target it v = pure () := by intro _; rfl) : codeR (model prog w) A (.forLoop target it body [] env) (RR Q) s := by
  refine codeR_loop rfl rfl I (fun n s hI => ?_) n h
  show wpR _ _ ((forTurn target it body [] env).onRaise (fun x => do noteFrame x env; theTreesLotGoes x)) _ _ s
  refine wpR_onRaise ?_
  simp only [forTurn]
  refine wpR_bind (wpR_standAt (wpR_bind (wpR_onRaise (wpR_mono (turn n s hI) (fun r s₁ h₁ => ?_) fun _ _ h' => h'))))
  cases r with
  | none => exact wpR_pure (.inr ⟨rfl, rfl, codeR_block_nil h₁⟩)
  | some v =>
    refine wpR_bind (wpR_of_eq (ht v) ?_)
    refine wpR_bind (wpR_mono h₁ (fun _ s₂ h₂ => wpR_bind (wpR_mono h₂ (fun f s₃ h₃ => ?_) fun _ _ h' => h')) fun _ _ h' => h')
    cases f with
    | next => exact wpR_pure (.inl ⟨rfl, h₃⟩)
    | cont => exact wpR_pure (.inl ⟨rfl, h₃⟩)
    | brk => exact wpR_pure h₃
    | ret v => exact wpR_pure h₃
theorem whileLoopR {Q : Flow → Shared → Prop} {test body env} (I : Nat → Shared → Prop)
    (turn : ∀ n s, I n s → wpR (model prog w) A (isTrue test env (eval test env)) (fun b s₂ =>
      if b then wpR (model prog w) A (execs body env) (fun f s₃ => match f with
            | .next | .cont => ∃ m, m < n ∧ I m s₃
            | .brk => Q .next s₃
            | .ret v => Q (.ret v) s₃) noE s₂
      else Q .next s₂) noE s)
    (n : Nat) (h : I n s) : codeR (model prog w) A (.whileLoop test body [] env) (RR Q) s := by
  refine codeR_loop rfl rfl I (fun n s hI => ?_) n h
  show wpR _ _ ((whileTurn test body [] env).onRaise (fun x => do noteFrame x env; theTreesLotGoes x)) _ _ s
  refine wpR_onRaise ?_
  simp only [whileTurn]
  refine wpR_bind (wpR_mono (turn n s hI) (fun b s₂ h₂ => ?_) fun _ _ h' => h')
  cases b with
  | false =>
    simp only [Bool.false_eq_true, if_false] at h₂ ⊢
    exact wpR_bind (execsR_nil (wpR_pure h₂))
  | true =>
    simp only [if_true] at h₂ ⊢
    refine wpR_bind (wpR_mono h₂ (fun f s₃ h₃ => ?_) fun _ _ h' => h')
    cases f with
    | next => exact wpR_pure (.inl ⟨rfl, h₃⟩)
    | cont => exact wpR_pure (.inl ⟨rfl, h₃⟩)
    | brk => exact wpR_pure h₃
    | ret v => exact wpR_pure h₃
theorem codeR_func {body env} {Q : Value → Shared → Prop} (h : wpR (model prog w) (A.deeper env) (execs body env) (fun f s' => Q (match f with | .ret v => v | _ => .none) s') noE s) :
    codeR (model prog w) A (.func body env) (RR fun f s' => match f with | .ret v => Q v s' | _ => False) s := by
  refine codeR_of_tree ?_
  show wpR _ (A.deeper env) (do point; match ← (execs body env).onRaise (leaving env) with | .ret v => ret v | _ => ret .none) _ _ s
  refine wpR_bind (wpR_point (wpR_bind (wpR_onRaise (wpR_mono h (fun f s' h' => ?_) fun _ _ h' => h'))))
  cases f <;> exact wpR_pure h'
theorem codeR_call_cells {Q : Value → Shared → Prop} {a : Addr} {o : Obj} {fd : FuncData} {body : List Stmt} {vals : List Value} {binds : List (Str × Value)}
    (hroom : A.depth < recursionLimit) (ho : s.heap.get? a = some o) (hdata : o.data = .func fd) (hlim : s.heap.NoLimit) (hcd : s.heap.CodeRec fd.code fd.qualname)
    (hbody : fd.body = .stmts body) (hbind : bindArgs fd ⟨vals, []⟩ = pure binds) (hclo : fd.closure = [])
    (hkind : ∀ x ∈ binds, fd.scope.names.lookup x.1 = some .local ∨ (fd.scope.names.lookup x.1 = some .cell ∧ ((cellsFrom (s.heap.objs.size + 1) fd.scope.names []).lookup x.1).isSome = true))
    (h : ∀ s₁, InCallC s (callEnvC fd s.heap.objs.size a).locals (bindL (callEnvC fd s.heap.objs.size a).kindOf binds fun _ => none) (callEnvC fd s.heap.objs.size a).cells
        (bindC (callEnvC fd s.heap.objs.size a).kindOf binds fun _ => none) s₁ →
      wpR (model prog w) (A.deeper (callEnvC fd s.heap.objs.size a)) (execs body (callEnvC fd s.heap.objs.size a)) (fun f s' => Q (match f with | .ret v => v | _ => .none) s') noE s₁)
    (hco : fd.scope.isCoroutine = false) (hgen : fd.scope.isGenerator = false) (hk : fd.scope.kind = .function) :
    codeR (model prog w) A (.call (.ref a) ⟨vals, []⟩) (RR fun f s' => match f with | .ret v => Q v s' | _ => False) s := by
  refine codeR_of_tree ?_
  show wpR _ A.in1 (callAny (.ref a) ⟨vals, []⟩) _ _ s
  simp only [callAny]
  refine wpR_bind (wpR.of (wpAny_load ho ?_))
  obtain ⟨c, oc, vs, tq, hc, hoc, hdc, hq⟩ := hcd
  simp only [hdata, callFunction, hco, hgen, hbody, hc]
  refine wpR_bind (m := field (.ref c) 1) (wpR.of (wpAny_field hoc hdc hq ?_))
  refine wpR_bind (wpR_pure ?_)
  rw [hbind, hclo]
  refine wpR_bind (wpR_pure (wpR_bind (wpR.of (wpAny_newFunctionEnv_cells hk hkind fun env he s' x => ?_))))
  have hx := h s' (by
    subst he
    have : callEnvC fd s.heap.objs.size a = newEnv fd.scope s.heap.objs.size fd.globals (cellsFrom (s.heap.objs.size + 1) fd.scope.names []) (fd.qualname ++ Str.ofString ".<locals>.") (some a) (Value.ref c) none fd.builtins := by
      unfold callEnvC; rw [hc]
    rw [this]; exact x)
  have this : callEnvC fd s.heap.objs.size a = env := by
    rw [he]; unfold callEnvC; rw [hc]
  rw [this] at hx
  exact wpR_bind (wpR.of (wpAny_enterFrame (hlim.keeps x.toInCall.keep) hroom (wpR_pure ⟨rfl, rfl, codeR_func hx⟩)))
end
end Mine
open PySem PySem.W PyProof.Rows PySem.Calls PySem.Spec
namespace Mine
/-- the base of the run: the program's own objects -/
structure Base (hb : Heap) (mg mb : Str → Option Value) : Prop where
  g : hb.Ns mainGlobals mg
  b : hb.Ns builtinsNs mb
  nolimit : hb.NoLimit
  builtins : ∀ x : Str, x ≠ "__name__" → mb x = bootBuiltins x
/-- nothing that stood is changed -/
structure Kp (s s' : Shared) : Prop where
  same : ∃ h' tk, s' = { s with heap := h', toks := tk }
  keep : ∀ b o, s.heap.get? b = some o → s'.heap.get? b = some o
section
variable (prog : Program) (w : World) (hb : Heap)
/-- t, from s with the mutable objects α, gives a value that means d, and the store is σ' -/
abbrev Tv (n₀ : Nat) (A : Around) (t : Sem Value) (α : List Addr) (s : Shared) (d : D) (σ' : List C) : Prop :=
  wpR (model prog w) A t (fun v s' => ∃ α', Step hb n₀ [] s α s' α' σ' ∧ Rv s'.heap α' v d) (fun _ _ => False) s
/-- an expression -/
def EvT (k n₀ : Nat) (env : Env) (ρ : List (Str × D)) (e : Expr) (σ : List C) (d : D) (σ' : List C) : Prop :=
  ∀ A α s, AOk A k → St hb α σ s.heap → Loc hb s.heap α env ρ → Tv prog w hb n₀ A (eval e env) α s d σ'
/-- expressions, from the left -/
def EvsT (k n₀ : Nat) (env : Env) (ρ : List (Str × D)) (es : List Expr) (σ : List C) (ds : List D) (σ' : List C) : Prop :=
  ∀ A α s pos, AOk A k → St hb α σ s.heap → Loc hb s.heap α env ρ →
    wpR (model prog w) A (spliced (backTo pos (starEach es env))) (fun vs s' => ∃ α', Step hb n₀ [] s α s' α' σ' ∧ RvAll s'.heap α' vs ds) (fun _ _ => False) s
/-- a test -/
def TrT (k n₀ : Nat) (env : Env) (ρ : List (Str × D)) (e : Expr) (σ : List C) (b : Bool) (σ' : List C) : Prop :=
  ∀ A α s, AOk A k → St hb α σ s.heap → Loc hb s.heap α env ρ →
    wpR (model prog w) A (isTrue e env (eval e env)) (fun c s' => c = b ∧ ∃ α', Step hb n₀ [] s α s' α' σ') (fun _ _ => False) s
/-- an operation on two values that changes nothing -/
def BinV (k : Nat) (f : Value → Value → Sem Value) (d₁ d₂ : D) (σ : List C) (d : D) : Prop :=
  ∀ A α s v₁ v₂, AOk A k → St hb α σ s.heap → Rv s.heap α v₁ d₁ → Rv s.heap α v₂ d₂ →
    wpAny (model prog w) A (f v₁ v₂) (fun v s' => Kp s s' ∧ Rv s'.heap α v d) (fun _ _ => False) s
/-- a call that changes nothing -/
def CallV (k : Nat) (f : Value) (ds : List D) (σ : List C) (d : D) : Prop :=
  ∀ A α s vs, AOk A k → St hb α σ s.heap → RvAll s.heap α vs ds →
    wpAny (model prog w) A (call f vs) (fun v s' => Kp s s' ∧ Rv s'.heap α v d) (fun _ _ => False) s
/-- a call of a def that changes nothing -/
def FunV (k : Nat) (f : Value) (ds : List D) (σ : List C) (d : D) : Prop :=
  ∀ A α s vs, AOk A k → St hb α σ s.heap → RvAll s.heap α vs ds →
    wpR (model prog w) A (call f vs) (fun v s' => Kp s s' ∧ Rv s'.heap α v d) (fun _ _ => False) s
/-- a call that may change the mutable objects -/
def CallI (k : Nat) (f : Value) (ds : List D) (σ : List C) (d : D) (σ' : List C) : Prop :=
  ∀ A α s vs, AOk A k → St hb α σ s.heap → RvAll s.heap α vs ds →
    wpR (model prog w) A (call f vs) (fun v s' => Step hb 0 [] s α s' α σ' ∧ Rv s'.heap α v d) (fun _ _ => False) s
/-- the truth of a value -/
def TruV (k : Nat) (d : D) (σ : List C) (b : Bool) : Prop :=
  ∀ A α s v, AOk A k → St hb α σ s.heap → Rv s.heap α v d →
    wpAny (model prog w) A (truthy v) (fun c s' => c = b ∧ Kp s s') (fun _ _ => False) s
end
section
variable {prog : Program} {w : World} {hb : Heap} {mg mb : Str → Option Value} {k n₀ : Nat} {env : Env} {ρ : List (Str × D)} {σ σ₁ σ₂ σ' : List C}
theorem Kp.step {s s' : Shared} {α : List Addr} {σ : List C} {X : List Addr} (K : Kp s s') (S : St hb α σ s.heap) : Step hb n₀ X s α s' α σ := by
  obtain ⟨⟨h', tk, rfl⟩, hk⟩ := K
  exact Step.quiet S hk
theorem Kp.of {s s' : Shared} (K : Keeps s s') : Kp s s' := let ⟨h', tk, e, hk⟩ := K; ⟨⟨h', tk, e⟩, by subst e; exact hk⟩
theorem Kp.to {s s' : Shared} (K : Kp s s') : Keeps s s' := by
  obtain ⟨⟨h', tk, rfl⟩, hk⟩ := K
  exact ⟨h', tk, rfl, hk⟩
theorem keeps_tok {s : Shared} {t : Nat} : Kp s { s with toks := t } := ⟨⟨_, _, rfl⟩, fun _ _ e => e⟩
theorem keeps_refl {s : Shared} : Kp s s := ⟨⟨_, _, rfl⟩, fun _ _ e => e⟩
theorem keeps_push {s : Shared} {o : Obj} {t : Nat} : Kp s { s with heap := s.heap.push o, toks := t } := ⟨⟨_, _, rfl⟩, fun _ _ e => Heap.get?_push_of_some _ e⟩
theorem Kp.mk' {s : Shared} {h' : Heap} {t : Nat} (hk : ∀ b o, s.heap.get? b = some o → h'.get? b = some o) : Kp s { s with heap := h', toks := t } := ⟨⟨_, _, rfl⟩, hk⟩
theorem Kp.trans {s s₁ s₂ : Shared} (x : Kp s s₁) (y : Kp s₁ s₂) : Kp s s₂ := by
  obtain ⟨⟨h, t, rfl⟩, h1⟩ := x
  obtain ⟨⟨h', t', rfl⟩, h2⟩ := y
  exact ⟨⟨h', t', rfl⟩, fun b o e => h2 b o (h1 b o e)⟩
theorem Kp.rv {s s₁ : Shared} {α : List Addr} {v : Value} {d : D} (x : Kp s s₁) (r : Rv s.heap α v d) : Rv s₁.heap α v d :=
  r.lift (fun b o _ _ e _ hn => ⟨x.keep b o e, hn⟩) fun _ _ e => e
theorem Kp.rvAll {s s₁ : Shared} {α : List Addr} {v : List Value} {d : List D} (x : Kp s s₁) (r : RvAll s.heap α v d) : RvAll s₁.heap α v d :=
  r.lift (fun b o _ _ e _ hn => ⟨x.keep b o e, hn⟩) fun _ _ e => e
theorem Kp.st {s s' : Shared} {α : List Addr} {σ : List C} (K : Kp s s') (S : St hb α σ s.heap) : St hb α σ s'.heap := (K.step (n₀ := 0) (X := []) S).st
/-- the value is at hand -/
theorem tv_now {A : Around} {α : List Addr} {s s' : Shared} {v : Value} {d : D} (S : St hb α σ s.heap) (K : Kp s s') (r : Rv s'.heap α v d) :
    ∃ α', Step hb n₀ [] s α s' α' σ ∧ Rv s'.heap α' v d := ⟨α, K.step S, r⟩
section consts
variable {i : Int} {j : Nat} {pos : Pos} {x : Str} {b : Bool}
theorem EvT.int : EvT prog w hb k n₀ env ρ (.Constant (.int i) j pos) σ (.int i) σ := fun A α s _ S _ =>
  .of (wpAny_Constant_int (tv_now (A := A) S keeps_tok (.int _ _)))
theorem EvT.str : EvT prog w hb k n₀ env ρ (.Constant (.str x) j pos) σ (.str x) σ := fun A α s _ S _ =>
  .of (Calls.Constant_str (tv_now (A := A) S keeps_tok (.str _ _)))
theorem EvT.none : EvT prog w hb k n₀ env ρ (.Constant .none j pos) σ .none σ := fun A α s _ S _ =>
  .of (wpAny_Constant_none (tv_now (A := A) S keeps_refl .none))
theorem EvT.bool : EvT prog w hb k n₀ env ρ (.Constant (.bool b) j pos) σ (.bool b) σ := fun A α s _ S _ =>
  .of (Constant_bool (tv_now (A := A) S keeps_refl (.bool b)))
end consts
theorem EvT.name {x : Str} {pos : Pos} {d : D} (h : (x, d) ∈ ρ) (hd : (x == ("__debug__" : Str)) = false := by decide +kernel) : EvT prog w hb k n₀ env ρ (.Name x pos) σ d σ := fun A α s _ S L => by
  obtain ⟨v, hv, r⟩ := L.bnd x d h
  rcases hv with ⟨hk, m, hm, e⟩ | ⟨hk, c, hc, e⟩
  · exact .of (wpAny_Name (wpAny_loadName_local L.kind hk hm e (tv_now (A := A) S keeps_refl r)) hd)
  · exact .of (wpAny_Name (wpAny_loadName_cell L.kind hk hc e (tv_now (A := A) S keeps_refl r)) hd)
/-- a global name that holds data -/
def Gv (hb : Heap) (mg : Str → Option Value) (x : Str) (d : D) : Prop := ∃ v, mg x = some v ∧ Rv hb [] v d
theorem ns_up {h h' : Heap} {a : Addr} {m : Str → Option Value} (x : h.Ns a m) (hk : ∀ b o, h.get? b = some o → h'.get? b = some o) : h'.Ns a m := x.keeps hk
theorem EvT.glob {x : Str} {pos : Pos} {d : D} (B : Base hb mg mb) (h : Gv hb mg x d) (hx : env.kindOf x = some .globalImplicit) (hd : (x == ("__debug__" : Str)) = false := by decide +kernel) :
    EvT prog w hb k n₀ env ρ (.Name x pos) σ d σ := fun A α s _ S L => by
  obtain ⟨v, hv, r⟩ := h
  exact .of (Name_function_global L.kind hx (loadGlobal_global (by rw [L.glob]; exact B.g.keeps S.keep) hv (tv_now (A := A) S keeps_refl (r.base S))) hd)
theorem EvsT.nil : EvsT prog w hb k n₀ env ρ [] σ [] σ := fun _ α _ _ _ S _ => splicedR_nil ⟨α, Step.refl S, .nil⟩
theorem EvsT.cons {e : Expr} {es : List Expr} {d : D} {ds : List D} (h : EvT prog w hb k n₀ env ρ e σ d σ₁) (t : EvsT prog w hb k n₀ env ρ es σ₁ ds σ₂)
    (hs : starEach (e :: es) env = (false, eval e env) :: starEach es env := by rfl) : EvsT prog w hb k n₀ env ρ (e :: es) σ (d :: ds) σ₂ := fun A α s pos hA S L => by
  rw [hs]
  refine splicedR_cons (wpR_mono (h A α s hA S L) (fun v s₁ hv => ?_) fun _ _ f => f)
  obtain ⟨α₁, x, r⟩ := hv
  refine wpR_mono (t A α₁ s₁ pos hA x.st (L.step x)) (fun vs s₂ hvs => ?_) fun _ _ f => f
  obtain ⟨α₂, y, rs⟩ := hvs
  exact ⟨α₂, x.trans y, .cons (y.rv0 r) rs⟩
theorem push_none {s : Shared} {α : List Addr} (S : St hb α σ s.heap) : s.heap.objs.size ∉ α := fun h => Nat.lt_irrefl _ (S.lt h)
theorem get_size {h : Heap} : h.get? h.objs.size = none := by
  cases e : h.get? h.objs.size with
  | none => rfl
  | some o => exact absurd (Heap.lt_size e) (Nat.lt_irrefl _)
theorem rv_push_tuple {s : Shared} {α : List Addr} {vs : List Value} {ds : List D} (S : St hb α σ s.heap) (r : RvAll s.heap α vs ds) {t : Nat} :
    Rv ({ s with heap := s.heap.push { cls := .type "tuple", data := .seq vs.toArray }, toks := t } : Shared).heap α (.ref s.heap.objs.size) (.tuple ds) :=
  .tuple ⟨_, Heap.get?_push_size _ rfl, rfl, _, rfl⟩ (push_none S) (r.lift (fun b o _ _ e _ hn => ⟨Heap.get?_push_of_some _ e, hn⟩) fun _ _ e => e)
theorem rv_push_list {s : Shared} {α : List Addr} {vs : List Value} {ds : List D} (S : St hb α σ s.heap) (r : RvAll s.heap α vs ds) {t : Nat} :
    Rv ({ s with heap := s.heap.push { cls := .type "list", data := .seq vs.toArray }, toks := t } : Shared).heap α (.ref s.heap.objs.size) (.list ds) :=
  .list ⟨_, Heap.get?_push_size _ rfl, rfl, _, rfl⟩ (push_none S) (r.lift (fun b o _ _ e _ hn => ⟨Heap.get?_push_of_some _ e, hn⟩) fun _ _ e => e)
theorem wp_newTuple {M : Model} {A : Around} {E : Value → Shared → Prop} {s : Shared} {vs : List Value} {Q : Value → Shared → Prop}
    (h : Q (.ref s.heap.objs.size) { s with heap := s.heap.push { cls := .type "tuple", data := .seq vs.toArray } }) (hsz : vs.length ≤ sizeLine) : wpAny M A (newTuple vs) Q E s :=
  wpAny_newObj_type h (by show vs.toArray.size ≤ sizeLine; rw [List.size_toArray]; exact hsz)
theorem wp_newList {M : Model} {A : Around} {E : Value → Shared → Prop} {s : Shared} {vs : List Value} {Q : Value → Shared → Prop}
    (h : Q (.ref s.heap.objs.size) { s with heap := s.heap.push { cls := .type "list", data := .seq vs.toArray } }) (hsz : vs.length ≤ sizeLine) : wpAny M A (newList vs) Q E s :=
  wpAny_newObj_type h (by show vs.toArray.size ≤ sizeLine; rw [List.size_toArray]; exact hsz)
theorem EvT.tuple {es : List Expr} {j : Nat} {pos : Pos} {ds : List D} (h : EvsT prog w hb k n₀ env ρ es σ ds σ') (hsz : ds.length ≤ sizeLine := by exact Nat.le_of_ble_eq_true rfl) :
    EvT prog w hb k n₀ env ρ (.Tuple es j pos) σ (.tuple ds) σ' := fun A α s hA S L => by
  refine TupleR (wpR_mono (h A α s pos hA S L) (fun vs s₁ hv => ?_) fun _ _ f => f)
  obtain ⟨α₁, x, r⟩ := hv
  exact .of (wp_newTuple ⟨α₁, x.trans (keeps_push.step x.st), rv_push_tuple x.st r⟩ (by rw [r.length]; exact hsz))
theorem EvT.list {es : List Expr} {pos : Pos} {ds : List D} (h : EvsT prog w hb k n₀ env ρ es σ ds σ') (hsz : ds.length ≤ sizeLine := by exact Nat.le_of_ble_eq_true rfl) :
    EvT prog w hb k n₀ env ρ (.List es pos) σ (.list ds) σ' := fun A α s hA S L => by
  refine ListR (wpR_mono (h A α s pos hA S L) (fun vs s₁ hv => ?_) fun _ _ f => f)
  obtain ⟨α₁, x, r⟩ := hv
  exact .of (wp_newList ⟨α₁, x.trans (keeps_push.step x.st), rv_push_list x.st r⟩ (by rw [r.length]; exact hsz))
/-- a new mutable object -/
theorem step_new {s : Shared} {α : List Addr} (S : St hb α σ s.heap) {o : Obj} {c : C} (hf : o.isFreed = false) (hc : Cell (s.heap.push o) (α ++ [s.heap.objs.size]) s.heap.objs.size c) {t : Nat} :
    Step hb n₀ [] s α { s with heap := s.heap.push o, toks := t } (α ++ [s.heap.objs.size]) (σ ++ [c]) where
  same := ⟨_, _, rfl⟩
  pre := ⟨[s.heap.objs.size], rfl, fun b hb => by rw [List.mem_singleton.mp hb]; exact get_size⟩
  keep := fun b o e _ _ => Heap.get?_push_of_some _ e
  alive := fun _ h => nomatch h
  st := by
    refine ⟨fun b o e => Heap.get?_push_of_some _ (S.keep b o e), fun a ha => ?_, ?_, by simp [S.len], fun n a c' e1 e2 => ?_⟩
    · rcases List.mem_append.mp ha with h | h
      · exact S.fresh a h
      · rw [List.mem_singleton.mp h]
        cases e : hb.get? s.heap.objs.size with
        | none => rfl
        | some o => exact absurd (Heap.lt_size (S.keep _ _ e)) (Nat.lt_irrefl _)
    · exact List.nodup_append.mpr ⟨S.nodup, by simp, fun a ha b hb e => by rw [List.mem_singleton.mp hb] at e; exact push_none S (e ▸ ha)⟩
    · by_cases hn : n < α.length
      · rw [List.getElem?_append_left hn] at e1
        rw [List.getElem?_append_left (S.len ▸ hn)] at e2
        have x := S.cells n a c' e1 e2
        have lf : ∀ {vs : List Value} {ds : List D}, RvAll s.heap α vs ds → RvAll (s.heap.push o) (α ++ [s.heap.objs.size]) vs ds := fun r =>
          r.lift (fun b o _ _ e _ hn => ⟨Heap.get?_push_of_some _ e, fun hm => by
            rcases List.mem_append.mp hm with h | h
            · exact hn h
            · rw [List.mem_singleton.mp h, get_size] at e; cases e⟩) fun n a e => by rw [List.getElem?_append_left (List.getElem?_eq_some_iff.mp e).1]; exact e
        cases c' with
        | list ds => obtain ⟨vs, ⟨m, ho⟩, q⟩ := x; exact ⟨vs, ⟨m, Heap.get?_push_of_some _ ho⟩, lf q⟩
        | barr b => obtain ⟨o, ho, r⟩ := x; exact ⟨o, Heap.get?_push_of_some _ ho, r⟩
      · have hl : n = α.length := by
          have := (List.getElem?_eq_some_iff.mp e1).1
          simp at this; omega
        subst hl
        simp at e1; subst e1
        rw [S.len] at e2
        simp at e2; subst e2
        exact hc
/-- a list display that is to be changed -/
theorem EvT.mlist {es : List Expr} {pos : Pos} {ds : List D} (h : EvsT prog w hb k n₀ env ρ es σ ds σ') (hsz : ds.length ≤ sizeLine := by exact Nat.le_of_ble_eq_true rfl) :
    EvT prog w hb k n₀ env ρ (.List es pos) σ (.ref σ'.length) (σ' ++ [.list ds]) := fun A α s hA S L => by
  refine ListR (wpR_mono (h A α s pos hA S L) (fun vs s₁ hv => ?_) fun _ _ f => f)
  obtain ⟨α₁, x, r⟩ := hv
  refine .of (wp_newList ⟨α₁ ++ [s₁.heap.objs.size], x.trans (step_new (c := .list ds) x.st rfl ?_), .ref ?_⟩ (by rw [r.length]; exact hsz))
  · refine ⟨vs, ⟨_, Heap.get?_push_size _ rfl⟩, ?_⟩
    exact r.lift (fun b o _ _ e _ hn => ⟨Heap.get?_push_of_some _ e, fun hm => by
      rcases List.mem_append.mp hm with h | h
      · exact hn h
      · rw [List.mem_singleton.mp h, get_size] at e; cases e⟩) fun n a e => by rw [List.getElem?_append_left (List.getElem?_eq_some_iff.mp e).1]; exact e
  · rw [← x.st.len]; simp
theorem EvT.bin {l r : Expr} {op : Operator} {pos : Pos} {d₁ d₂ d : D} (h₁ : EvT prog w hb k n₀ env ρ l σ d₁ σ₁) (h₂ : EvT prog w hb k n₀ env ρ r σ₁ d₂ σ₂) (h : BinV prog w hb k (binaryOp op) d₁ d₂ σ₂ d) :
    EvT prog w hb k n₀ env ρ (.BinOp l op r pos) σ d σ₂ := fun A α s hA S L => by
  refine BinOpR (wpR_mono (h₁ A α s hA S L) (fun v₁ s₁ q₁ => ?_) fun _ _ f => f)
  obtain ⟨α₁, x₁, r₁⟩ := q₁
  refine wpR_mono (h₂ A α₁ s₁ hA x₁.st (L.step x₁)) (fun v₂ s₂ q₂ => ?_) fun _ _ f => f
  obtain ⟨α₂, x₂, r₂⟩ := q₂
  refine wpR_mono (.of (h A α₂ s₂ v₁ v₂ hA x₂.st (x₂.rv0 r₁) r₂)) (fun v s₃ q => ?_) fun _ _ f => f
  exact ⟨α₂, (x₁.trans x₂).trans (q.1.step x₂.st), q.2⟩
theorem EvT.cmp {l r : Expr} {op : CmpOp} {pos : Pos} {d₁ d₂ : D} {b : Bool} (h₁ : EvT prog w hb k n₀ env ρ l σ d₁ σ₁) (h₂ : EvT prog w hb k n₀ env ρ r σ₁ d₂ σ₂) (h : BinV prog w hb k (compareOp op) d₁ d₂ σ₂ (.bool b))
    (hm : behindInMarks op r = false := by with_unfolding_all rfl) : EvT prog w hb k n₀ env ρ (.Compare l [op] [r] pos) σ (.bool b) σ₂ := fun A α s hA S L => by
  refine Compare1R (wpR_mono (h₁ A α s hA S L) (fun v₁ s₁ q₁ => ?_) fun _ _ f => f) hm
  obtain ⟨α₁, x₁, r₁⟩ := q₁
  refine wpR_mono (h₂ A α₁ s₁ hA x₁.st (L.step x₁)) (fun v₂ s₂ q₂ => ?_) fun _ _ f => f
  obtain ⟨α₂, x₂, r₂⟩ := q₂
  refine wpR_mono (.of (h A α₂ s₂ v₁ v₂ hA x₂.st (x₂.rv0 r₁) r₂)) (fun v s₃ q => ?_) fun _ _ f => f
  exact ⟨α₂, (x₁.trans x₂).trans (q.1.step x₂.st), q.2⟩
theorem rv_bool {h : Heap} {α : List Addr} {v : Value} {b : Bool} (r : Rv h α v (.bool b)) : v = .bool b := by cases r; rfl
theorem rv_int {h : Heap} {α : List Addr} {v : Value} {i : Int} (r : Rv h α v (.int i)) : ∃ t, v = .int i t := by cases r; exact ⟨_, rfl⟩
theorem rv_str {h : Heap} {α : List Addr} {v : Value} {x : Str} (r : Rv h α v (.str x)) : ∃ t, v = .str x t := by cases r; exact ⟨_, rfl⟩
theorem rv_bytes {h : Heap} {α : List Addr} {v : Value} {x : List UInt8} (r : Rv h α v (.bytes x)) : ∃ t, v = .bytes x.toArray t := by cases r; exact ⟨_, rfl⟩
theorem rv_none {h : Heap} {α : List Addr} {v : Value} (r : Rv h α v .none) : v = .none := by cases r; rfl
theorem TruV.bool {b : Bool} : TruV prog w hb k (.bool b) σ b := fun A α s v _ _ r => by
  rw [rv_bool r]; exact wpAny_truthy_bool ⟨rfl, keeps_refl⟩
theorem TrT.cmp {l r : Expr} {op : CmpOp} {pos : Pos} {d₁ d₂ : D} {b : Bool} (h₁ : EvT prog w hb k n₀ env ρ l σ d₁ σ₁) (h₂ : EvT prog w hb k n₀ env ρ r σ₁ d₂ σ₂) (h : BinV prog w hb k (compareOp op) d₁ d₂ σ₂ (.bool b))
    (hm : behindInMarks op r = false := by with_unfolding_all rfl) : TrT prog w hb k n₀ env ρ (.Compare l [op] [r] pos) σ b σ₂ := fun A α s hA S L => by
  refine isTrue_Compare1R (wpR_mono (h₁ A α s hA S L) (fun v₁ s₁ q₁ => ?_) fun _ _ f => f) hm
  obtain ⟨α₁, x₁, r₁⟩ := q₁
  refine wpR_mono (h₂ A α₁ s₁ hA x₁.st (L.step x₁)) (fun v₂ s₂ q₂ => ?_) fun _ _ f => f
  obtain ⟨α₂, x₂, r₂⟩ := q₂
  refine wpR_mono (.of (h A α₂ s₂ v₁ v₂ hA x₂.st (x₂.rv0 r₁) r₂)) (fun v s₃ q => ?_) fun _ _ f => f
  rw [rv_bool q.2]
  exact .of (wpAny_truthy_bool ⟨rfl, α₂, (x₁.trans x₂).trans (q.1.step x₂.st)⟩)
theorem TrT.of {e : Expr} {d : D} {b : Bool} (h₁ : EvT prog w hb k n₀ env ρ e σ d σ₁) (ht : TruV prog w hb k d σ₁ b)
    (hp : isTrue e env (eval e env) = (do let v ← eval e env; standAt e.pos; holding [v] (truthy v)) := by rfl) : TrT prog w hb k n₀ env ρ e σ b σ₁ := fun A α s hA S L => by
  refine isTrue_plainR (wpR_mono (h₁ A α s hA S L) (fun v₁ s₁ q₁ => ?_) fun _ _ f => f) hp
  obtain ⟨α₁, x₁, r₁⟩ := q₁
  refine wpR_mono (.of (ht A α₁ s₁ v₁ hA x₁.st r₁)) (fun c s₂ q => ?_) fun _ _ f => f
  exact ⟨q.1, α₁, x₁.trans (q.2.step x₁.st)⟩
theorem TrT.not {e : Expr} {pos : Pos} {b : Bool} (h : TrT prog w hb k n₀ env ρ e σ b σ₁) : TrT prog w hb k n₀ env ρ (.UnaryOp .Not e pos) σ (!b) σ₁ := fun A α s hA S L =>
  isTrue_notR (wpR_mono (h A α s hA S L) (fun c s₁ q => ⟨by rw [q.1], q.2⟩) fun _ _ f => f)
theorem isTrue_BoolOp_eq {op : BoolOp} {es : List Expr} {pos : Pos} {whole : Sem Value} : isTrue (.BoolOp op es pos) env whole = allTrue op es env := rfl
theorem TrT.and_nil {pos : Pos} : TrT prog w hb k n₀ env ρ (.BoolOp .And [] pos) σ true σ := fun _ α _ _ S _ => .of (isTrue_and_nil ⟨rfl, α, Step.refl S⟩)
theorem TrT.or_nil {pos : Pos} : TrT prog w hb k n₀ env ρ (.BoolOp .Or [] pos) σ false σ := fun _ α _ _ S _ => .of (isTrue_or_nil ⟨rfl, α, Step.refl S⟩)
theorem allTrue_cons (op : BoolOp) (x : Expr) (rest : List Expr) (env : Env) : allTrue op (x :: rest) env = (do
    match op, ← isTrue x env (eval x env) with
    | .And, false => pure false
    | .Or, true => pure true
    | _, _ => allTrue op rest env) := rfl
theorem TrT.and_cons {e : Expr} {es : List Expr} {pos : Pos} {b c : Bool} (h : TrT prog w hb k n₀ env ρ e σ b σ₁) (h2 : b = true → TrT prog w hb k n₀ env ρ (.BoolOp .And es pos) σ₁ c σ₂) (h3 : b = false → c = false ∧ σ₂ = σ₁) :
    TrT prog w hb k n₀ env ρ (.BoolOp .And (e :: es) pos) σ c σ₂ := fun A α s hA S L => by
  rw [isTrue_BoolOp_eq, allTrue_cons]
  refine wpR_bind (wpR_mono (h A α s hA S L) (fun c₁ s₁ q => ?_) fun _ _ f => f)
  obtain ⟨rfl, α₁, x⟩ := q
  cases c₁ with
  | false => obtain ⟨rfl, rfl⟩ := h3 rfl; exact wpR_pure ⟨rfl, α₁, x⟩
  | true =>
    refine wpR_mono (h2 rfl A α₁ s₁ hA x.st (L.step x)) (fun c₂ s₂ q => ?_) fun _ _ f => f
    obtain ⟨rfl, α₂, y⟩ := q
    exact ⟨rfl, α₂, x.trans y⟩
theorem TrT.or_cons {e : Expr} {es : List Expr} {pos : Pos} {b c : Bool} (h : TrT prog w hb k n₀ env ρ e σ b σ₁) (h2 : b = false → TrT prog w hb k n₀ env ρ (.BoolOp .Or es pos) σ₁ c σ₂) (h3 : b = true → c = true ∧ σ₂ = σ₁) :
    TrT prog w hb k n₀ env ρ (.BoolOp .Or (e :: es) pos) σ c σ₂ := fun A α s hA S L => by
  rw [isTrue_BoolOp_eq, allTrue_cons]
  refine wpR_bind (wpR_mono (h A α s hA S L) (fun c₁ s₁ q => ?_) fun _ _ f => f)
  obtain ⟨rfl, α₁, x⟩ := q
  cases c₁ with
  | true => obtain ⟨rfl, rfl⟩ := h3 rfl; exact wpR_pure ⟨rfl, α₁, x⟩
  | false =>
    refine wpR_mono (h2 rfl A α₁ s₁ hA x.st (L.step x)) (fun c₂ s₂ q => ?_) fun _ _ f => f
    obtain ⟨rfl, α₂, y⟩ := q
    exact ⟨rfl, α₂, x.trans y⟩
theorem wp_release {M : Model} {A : Around} {E : Value → Shared → Prop} {s : Shared} {vs ks : List Value} {Q : Unit → Shared → Prop} (h : Q () s) : wpAny M A (release vs ks) Q E s :=
  fun Γ p _ => by rw [Sem.wp_release]; exact h
theorem wp_operate {M : Model} {A : Around} {E : Value → Shared → Prop} {s : Shared} {vs : List Value} {t : Sem Value} {Q : Value → Shared → Prop} (h : wpAny M A t Q E s) : wpAny M A (operate vs t) Q E s :=
  fun Γ p hΓ => by rw [Sem.wp_operate]; exact h Γ p hΓ
/-- 0 <= n < x -/
theorem TrT.chain {l e₁ e₂ : Expr} {op₁ op₂ : CmpOp} {pos : Pos} {d₁ d₂ d₃ : D} {b₁ b₂ b : Bool} {σ₃ : List C}
    (h₁ : EvT prog w hb k n₀ env ρ l σ d₁ σ₁) (h₂ : EvT prog w hb k n₀ env ρ e₁ σ₁ d₂ σ₂) (c₁ : BinV prog w hb k (compareOp op₁) d₁ d₂ σ₂ (.bool b₁))
    (h₃ : b₁ = true → EvT prog w hb k n₀ env ρ e₂ σ₂ d₃ σ₃ ∧ BinV prog w hb k (compareOp op₂) d₂ d₃ σ₃ (.bool b₂) ∧ b = b₂) (h₄ : b₁ = false → σ₃ = σ₂ ∧ b = false)
    (hm : lastMarks (op₁ :: op₂ :: []) (e₁ :: e₂ :: []) = false := by with_unfolding_all rfl) : TrT prog w hb k n₀ env ρ (.Compare l [op₁, op₂] [e₁, e₂] pos) σ b σ₃ := fun A α s hA S L => by
  refine isTrue_chainR (wpR_mono (h₁ A α s hA S L) (fun v₁ s₁ q₁ => ?_) fun _ _ f => f) hm
  obtain ⟨α₁, x₁, r₁⟩ := q₁
  show wpR (model prog w) A (do
    let rv ← holding [v₁] (eval e₁ env)
    standAt pos
    let c ← holding [v₁, rv] (compareOp op₁ v₁ rv)
    release [v₁, rv] [c]
    if ← holding [c, rv] (truthy c) then testChain pos rv [op₂] [eval e₂ env] else pure false) _ _ _
  refine wpR_bind (wpR_holding (wpR_mono (h₂ A α₁ s₁ hA x₁.st (L.step x₁)) (fun v₂ s₂ q₂ => ?_) fun _ _ f => f))
  obtain ⟨α₂, x₂, r₂⟩ := q₂
  refine wpR_bind (wpR_standAt (wpR_bind (wpR_holding (wpR_mono (.of (c₁ A α₂ s₂ v₁ v₂ hA x₂.st (x₂.rv0 r₁) r₂)) (fun c s₃ q => ?_) fun _ _ f => f))))
  obtain ⟨K, rc⟩ := q
  rw [rv_bool rc]
  have x₃ := (x₁.trans x₂).trans (K.step (n₀ := n₀) (X := []) x₂.st)
  refine wpR_bind (wpR_release (wpR_bind (wpR_holding (.of (wpAny_truthy_bool ?_)))))
  cases b₁ with
  | false => obtain ⟨rfl, rfl⟩ := h₄ rfl; exact wpR_pure ⟨rfl, α₂, x₃⟩
  | true =>
    obtain ⟨g₃, c₂, rfl⟩ := h₃ rfl
    show wpR (model prog w) A (do
      let rv ← holding [v₂] (eval e₂ env)
      standAt pos
      let c ← operate [v₂, rv] (compareOp op₂ v₂ rv)
      holding [c] (truthy c)) _ _ _
    refine wpR_bind (wpR_holding (wpR_mono (g₃ A α₂ s₃ hA x₃.st (L.step x₃)) (fun v₃ s₄ q₃ => ?_) fun _ _ f => f))
    obtain ⟨α₄, x₄, r₄⟩ := q₃
    refine wpR_bind (wpR_standAt (wpR_bind (wpR_operate (wpR_mono (.of (c₂ A α₄ s₄ v₂ v₃ hA x₄.st (x₄.rv0 (K.rv r₂)) r₄)) (fun c s₅ q => ?_) fun _ _ f => f))))
    rw [rv_bool q.2]
    exact wpR_holding (.of (wpAny_truthy_bool ⟨rfl, α₄, (x₃.trans x₄).trans (q.1.step x₄.st)⟩))
theorem EvT.ifexp {test body orelse : Expr} {pos : Pos} {b : Bool} {d : D} (h : TrT prog w hb k n₀ env ρ test σ b σ₁) (ht : b = true → EvT prog w hb k n₀ env ρ body σ₁ d σ₂)
    (hf : b = false → EvT prog w hb k n₀ env ρ orelse σ₁ d σ₂) : EvT prog w hb k n₀ env ρ (.IfExp test body orelse pos) σ d σ₂ := fun A α s hA S L => by
  refine IfExpR (wpR_mono (h A α s hA S L) (fun c s₁ q => ?_) fun _ _ f => f)
  obtain ⟨rfl, α₁, x⟩ := q
  cases c with
  | true => exact wpR_mono (ht rfl A α₁ s₁ hA x.st (L.step x)) (fun v s₂ q => let ⟨α₂, y, r⟩ := q; ⟨α₂, x.trans y, r⟩) fun _ _ f => f
  | false => exact wpR_mono (hf rfl A α₁ s₁ hA x.st (L.step x)) (fun v s₂ q => let ⟨α₂, y, r⟩ := q; ⟨α₂, x.trans y, r⟩) fun _ _ f => f
theorem EvT.and_one {e : Expr} {pos : Pos} {op : BoolOp} {d : D} (h : EvT prog w hb k n₀ env ρ e σ d σ₁) : EvT prog w hb k n₀ env ρ (.BoolOp op [e] pos) σ d σ₁ := fun A α s hA S L => BoolOp_oneR (h A α s hA S L)
theorem EvT.and_cons {e₁ e₂ : Expr} {es : List Expr} {pos : Pos} {d₁ d : D} {b : Bool} (h : EvT prog w hb k n₀ env ρ e₁ σ d₁ σ₁) (ht : TruV prog w hb k d₁ σ₁ b)
    (h2 : b = true → EvT prog w hb k n₀ env ρ (.BoolOp .And (e₂ :: es) pos) σ₁ d σ₂) (h3 : b = false → d = d₁ ∧ σ₂ = σ₁) : EvT prog w hb k n₀ env ρ (.BoolOp .And (e₁ :: e₂ :: es) pos) σ d σ₂ := fun A α s hA S L => by
  refine BoolOp_andR (wpR_mono (h A α s hA S L) (fun v s₁ q => ?_) fun _ _ f => f)
  obtain ⟨α₁, x, r⟩ := q
  refine wpR_mono (.of (ht A α₁ s₁ v hA x.st r)) (fun c s₂ q => ?_) fun _ _ f => f
  obtain ⟨rfl, K⟩ := q
  have y := x.trans (K.step (n₀ := n₀) (X := []) x.st)
  cases c with
  | true => exact wpR_mono (h2 rfl A α₁ s₂ hA y.st (L.step y)) (fun v s₂ q => let ⟨α₂, z, r⟩ := q; ⟨α₂, y.trans z, r⟩) fun _ _ f => f
  | false => obtain ⟨rfl, rfl⟩ := h3 rfl; exact ⟨α₁, y, K.rv r⟩
theorem EvT.sub {value slice : Expr} {pos : Pos} {d₁ d₂ d : D} (h₁ : EvT prog w hb k n₀ env ρ value σ d₁ σ₁) (h₂ : EvT prog w hb k n₀ env ρ slice σ₁ d₂ σ₂) (h : BinV prog w hb k (subscriptTail value slice) d₁ d₂ σ₂ d) :
    EvT prog w hb k n₀ env ρ (.Subscript value slice pos) σ d σ₂ := fun A α s hA S L => by
  refine SubscriptR (wpR_mono (h₁ A α s hA S L) (fun v₁ s₁ q₁ => ?_) fun _ _ f => f)
  obtain ⟨α₁, x₁, r₁⟩ := q₁
  refine wpR_mono (h₂ A α₁ s₁ hA x₁.st (L.step x₁)) (fun v₂ s₂ q₂ => ?_) fun _ _ f => f
  obtain ⟨α₂, x₂, r₂⟩ := q₂
  refine wpR_mono (.of (h A α₂ s₂ v₁ v₂ hA x₂.st (x₂.rv0 r₁) r₂)) (fun v s₃ q => ?_) fun _ _ f => f
  exact ⟨α₂, (x₁.trans x₂).trans (q.1.step x₂.st), q.2⟩
end
end Mine
open PySem PySem.W PyProof.Rows PySem.Calls PySem.Spec
namespace Mine
/-- a name that is bound gets another value -/
inductive Put : List (Str × D) → Str → D → List (Str × D) → Prop
  | hit {x : Str} {e d : D} {r : List (Str × D)} : Put ((x, e) :: r) x d ((x, d) :: r)
  | miss {x y : Str} {e d : D} {r r' : List (Str × D)} : Put r x d r' → Put ((y, e) :: r) x d ((y, e) :: r')
/-- a new name -/
inductive App : List (Str × D) → Str → D → List (Str × D) → Prop
  | nil {x : Str} {d : D} : App [] x d [(x, d)]
  | cons {x y : Str} {e d : D} {r r' : List (Str × D)} : App r x d r' → App ((y, e) :: r) x d ((y, e) :: r')
theorem Put.names {ρ ρ' : List (Str × D)} {x : Str} {d : D} (h : Put ρ x d ρ') : ρ'.map (·.1) = ρ.map (·.1) := by
  induction h with
  | hit => rfl
  | miss _ ih => simp [ih]
theorem Put.mem {ρ ρ' : List (Str × D)} {x : Str} {d : D} (h : Put ρ x d ρ') : x ∈ ρ.map (·.1) := by
  induction h with
  | hit => simp
  | miss _ ih => simp only [List.map_cons, List.mem_cons]; exact .inr ih
theorem Put.what {ρ ρ' : List (Str × D)} {x : Str} {d : D} (h : Put ρ x d ρ') (hn : (ρ.map (·.1)).Nodup) : ∀ y e, (y, e) ∈ ρ' → (y = x ∧ e = d) ∨ (y ≠ x ∧ (y, e) ∈ ρ) := by
  induction h with
  | @hit x e d r =>
    intro y e' hm
    rcases List.mem_cons.mp hm with q | q
    · cases q; exact .inl ⟨rfl, rfl⟩
    · refine .inr ⟨fun h => ?_, List.mem_cons_of_mem _ q⟩
      simp only [List.map_cons, List.nodup_cons] at hn
      exact hn.1 (h ▸ List.mem_map_of_mem q)
  | @miss x y e d r r' h ih =>
    intro z e' hm
    simp only [List.map_cons, List.nodup_cons] at hn
    rcases List.mem_cons.mp hm with q | q
    · cases q
      exact .inr ⟨fun q => hn.1 (q ▸ h.mem), List.mem_cons_self⟩
    · rcases ih hn.2 z e' q with q | q
      · exact .inl q
      · exact .inr ⟨q.1, List.mem_cons_of_mem _ q.2⟩
theorem App.eq {ρ ρ' : List (Str × D)} {x : Str} {d : D} (h : App ρ x d ρ') : ρ' = ρ ++ [(x, d)] := by
  induction h with
  | nil => rfl
  | cons _ ih => simp [ih]
/-- ρ' is ρ with x bound to d -/
inductive Upd (ρ : List (Str × D)) (x : Str) (d : D) (ρ' : List (Str × D)) : Prop
  | put : Put ρ x d ρ' → Upd ρ x d ρ'
  | new : App ρ x d ρ' → (ρ.map (·.1)).contains x = false → Upd ρ x d ρ'
theorem Upd.what {ρ ρ' : List (Str × D)} {x : Str} {d : D} (h : Upd ρ x d ρ') (hn : (ρ.map (·.1)).Nodup) : ∀ y e, (y, e) ∈ ρ' → (y = x ∧ e = d) ∨ (y ≠ x ∧ (y, e) ∈ ρ) := by
  cases h with
  | put h => exact h.what hn
  | new h hf =>
    intro y e hm
    rw [h.eq] at hm
    rcases List.mem_append.mp hm with q | q
    · refine .inr ⟨fun q' => ?_, q⟩
      have : x ∈ ρ.map (·.1) := q' ▸ List.mem_map_of_mem q
      rw [← List.contains_iff_mem] at this
      rw [hf] at this; cases this
    · cases List.mem_singleton.mp q; exact .inl ⟨rfl, rfl⟩
theorem Upd.nodup {ρ ρ' : List (Str × D)} {x : Str} {d : D} (h : Upd ρ x d ρ') (hn : (ρ.map (·.1)).Nodup) : (ρ'.map (·.1)).Nodup := by
  cases h with
  | put h => rw [h.names]; exact hn
  | new h hf =>
    rw [h.eq, List.map_append]
    refine List.nodup_append.mpr ⟨hn, by simp, fun a ha b hb e => ?_⟩
    simp only [List.map_cons, List.map_nil, List.mem_singleton] at hb
    rw [e, hb, ← List.contains_iff_mem, hf] at ha; cases ha
section
variable {prog : Program} {w : World} {hb : Heap} {mg mb : Str → Option Value} {k n₀ : Nat} {env : Env} {ρ ρ' ρ₁ ρ₂ : List (Str × D)} {σ σ₁ σ₂ σ' : List C}
/-- one name of the frame is stored -/
theorem store_step {s : Shared} {α : List Addr} {x : Str} {v : Value} {d : D} {m : Str → Option Value} {h' : Heap} {t : Nat} (S : St hb α σ s.heap) (L : Loc hb s.heap α env ρ) (U : Upd ρ x d ρ') (hx : env.kindOf x = some .local) (r : Rv s.heap α v d)
    (hm : s.heap.Ns env.locals m) (hn : h'.Ns env.locals fun y => if y = x then some v else m y) (hs : Heap.SameBut env.locals s.heap h') :
    Step hb n₀ [env.locals] s α { s with heap := h', toks := t } α σ ∧ Loc hb h' α env ρ' := by
  have hk : ∀ b o, s.heap.get? b = some o → b ≠ env.locals → h'.get? b = some o := fun b o e hb => (hs.2 b hb).trans e
  have lf : ∀ {v : Value} {d : D}, Rv s.heap α v d → Rv h' α v d := fun r => r.lift (fun b o xs n e hd hn => ⟨hk b o e fun q => L.noSeq b (by rw [q]; exact List.mem_singleton_self _) o e xs n hd, hn⟩) fun _ _ e => e
  have lfa : ∀ {v : List Value} {d : List D}, RvAll s.heap α v d → RvAll h' α v d := fun r => r.lift (fun b o xs n e hd hn => ⟨hk b o e fun q => L.noSeq b (by rw [q]; exact List.mem_singleton_self _) o e xs n hd, hn⟩) fun _ _ e => e
  have hal : ∀ b ∈ [env.locals], ∀ o, s.heap.get? b = some o → ∃ o', h'.get? b = some o' := fun b hbX o e => by
    rw [List.mem_singleton.mp hbX]
    obtain ⟨o, es, ep, h1, _⟩ := hn
    exact ⟨o, h1⟩
  refine ⟨⟨⟨_, _, rfl⟩, ⟨[], by simp, fun _ h => nomatch h⟩, fun b o e _ hX => hk b o e fun q => hX (by rw [q]; exact List.mem_singleton_self _), hal, ?_⟩, ?_⟩
  · refine ⟨fun b o e => hk b o (S.keep b o e) fun q => (by rw [q, L.fresh] at e; cases e), S.fresh, S.nodup, S.len, fun n a c e1 e2 => ?_⟩
    have x := S.cells n a c e1 e2
    have ha : a ≠ env.locals := fun q => L.off (q ▸ List.mem_of_getElem? e1)
    cases c with
    | list ds => obtain ⟨vs, ⟨m, ho⟩, q⟩ := x; exact ⟨vs, ⟨m, hk _ _ ho ha⟩, lfa q⟩
    | barr b => obtain ⟨o, ho, r⟩ := x; exact ⟨o, hk _ _ ho ha, r⟩
  · refine ⟨⟨_, hn⟩, fun y e hm' => ?_, U.nodup L.nodup, L.fresh, L.off, L.kind, L.glob, L.bui, fun c hc => ?_⟩
    · rcases U.what L.nodup y e hm' with ⟨rfl, rfl⟩ | ⟨hne, hin⟩
      · exact ⟨v, .inl ⟨hx, _, hn, by simp⟩, lf r⟩
      · obtain ⟨u, hu, q⟩ := L.bnd y e hin
        refine ⟨u, ?_, lf q⟩
        rcases hu with ⟨hk', m', hm₁, e'⟩ | ⟨hk', c, hc, o, ho, hd⟩
        · refine .inl ⟨hk', _, hn, ?_⟩
          rw [if_neg hne, ns_uniq hm hm₁]; exact e'
        · refine .inr ⟨hk', c, hc, o, hk c o ho fun q => ?_, hd⟩
          obtain ⟨o', es, ep, h1, h2, _⟩ := hm
          rw [q, h1] at ho; cases ho; rw [h2] at hd; cases hd
    · obtain ⟨h1, o, v', h2, h3⟩ := L.cells c hc
      refine ⟨h1, o, v', hk _ _ h2 fun q => ?_, h3⟩
      obtain ⟨o', es, ep, g1, g2, _⟩ := hm
      rw [q, g1] at h2; cases h2; rw [g2] at h3; cases h3
theorem wp_store {A : Around} {s : Shared} {α : List Addr} {x : Str} {v : Value} {d : D} {Q : Unit → Shared → Prop} (S : St hb α σ s.heap) (L : Loc hb s.heap α env ρ) (U : Upd ρ x d ρ') (hx : env.kindOf x = some .local) (r : Rv s.heap α v d)
    (h : ∀ s', Step hb n₀ [env.locals] s α s' α σ → Loc hb s'.heap α env ρ' → Q () s') : wpAny (model prog w) A (storeName env x v) Q (fun _ _ => False) s := by
  obtain ⟨m, hm⟩ := L.ns
  refine wpAny_storeName_local hx hm (fun h' hn hs => ?_) (by rw [L.kind]; rfl)
  obtain ⟨a, b⟩ := store_step (n₀ := n₀) (t := s.toks + 1) S L U hx r hm hn hs
  exact h _ a b
/-- how a suite ends -/
inductive Out
  | next (ρ : List (Str × D)) (σ : List C)
  | ret (d : D) (σ : List C)
  | brk (ρ : List (Str × D)) (σ : List C)
  | cont (ρ : List (Str × D)) (σ : List C)
def Out.st : Out → List C
  | .next _ σ | .ret _ σ | .brk _ σ | .cont _ σ => σ
def OutOk (hb : Heap) (env : Env) (α : List Addr) (h : Heap) : Out → Flow → Prop
  | .next ρ _, .next => Loc hb h α env ρ
  | .brk ρ _, .brk => Loc hb h α env ρ
  | .cont ρ _, .cont => Loc hb h α env ρ
  | .ret d _, .ret v => Rv h α v d
  | _, _ => False
abbrev Tf (prog : Program) (w : World) (hb : Heap) (n₀ : Nat) (env : Env) (A : Around) (t : Sem Flow) (α : List Addr) (s : Shared) (o : Out) : Prop :=
  wpR (model prog w) A t (fun f s' => ∃ α', Step hb n₀ [env.locals] s α s' α' o.st ∧ OutOk hb env α' s'.heap o f) (fun _ _ => False) s
/-- a suite -/
def ExT (prog : Program) (w : World) (hb : Heap) (k n₀ : Nat) (env : Env) (ρ : List (Str × D)) (σ : List C) (ss : List Stmt) (o : Out) : Prop :=
  ∀ A α s, AOk A k → St hb α σ s.heap → Loc hb s.heap α env ρ → Tf prog w hb n₀ env A (execs ss env) α s o
theorem up (x : Step hb n₀ [] s α s₁ α₁ σ₁) : Step hb n₀ [env.locals] s α s₁ α₁ σ₁ := x.mono (fun _ h => nomatch h) (Nat.le_refl _)
/-- one statement -/
def Ex1 (prog : Program) (w : World) (hb : Heap) (k n₀ : Nat) (env : Env) (ρ : List (Str × D)) (σ : List C) (st : Stmt) (o : Out) : Prop :=
  ∀ A α s, AOk A k → St hb α σ s.heap → Loc hb s.heap α env ρ → Tf prog w hb n₀ env A (exec st env) α s o
/-- what follows a statement that ended so -/
inductive SeqT (prog : Program) (w : World) (hb : Heap) (k n₀ : Nat) (env : Env) : Out → List Stmt → Out → Prop
  | next {ρ : List (Str × D)} {σ : List C} {rest : List Stmt} {o : Out} : ExT prog w hb k n₀ env ρ σ rest o → SeqT prog w hb k n₀ env (.next ρ σ) rest o
  | ret {d : D} {σ : List C} {rest : List Stmt} : SeqT prog w hb k n₀ env (.ret d σ) rest (.ret d σ)
  | brk {ρ : List (Str × D)} {σ : List C} {rest : List Stmt} : SeqT prog w hb k n₀ env (.brk ρ σ) rest (.brk ρ σ)
  | cont {ρ : List (Str × D)} {σ : List C} {rest : List Stmt} : SeqT prog w hb k n₀ env (.cont ρ σ) rest (.cont ρ σ)
theorem ExT.nil : ExT prog w hb k n₀ env ρ σ [] (.next ρ σ) := fun A α s hA S L => execsR_nil ⟨α, Step.refl S, L⟩
theorem ExT.cons {st : Stmt} {rest : List Stmt} {o₁ o : Out} (h : Ex1 prog w hb k n₀ env ρ σ st o₁) (hr : SeqT prog w hb k n₀ env o₁ rest o) : ExT prog w hb k n₀ env ρ σ (st :: rest) o := fun A α s hA S L => by
  refine execsR_cons (wpR_mono (h A α s hA S L) (fun f s₁ q => ?_) fun _ _ f => f)
  obtain ⟨α₁, x, r⟩ := q
  cases hr with
  | next hr =>
    cases f with
    | next => exact wpR_mono (hr A α₁ s₁ hA x.st r) (fun f s₂ q => let ⟨α₂, y, r⟩ := q; ⟨α₂, x.trans y, r⟩) fun _ _ f => f
    | _ => exact r.elim
  | ret => cases f with
    | ret v => exact ⟨α₁, x, r⟩
    | _ => exact r.elim
  | brk => cases f with
    | brk => exact ⟨α₁, x, r⟩
    | _ => exact r.elim
  | cont => cases f with
    | cont => exact ⟨α₁, x, r⟩
    | _ => exact r.elim
theorem Ex1.assign {x : Str} {p pos : Pos} {e : Expr} {d : D} (h : EvT prog w hb k n₀ env ρ e σ d σ₁) (U : Upd ρ x d ρ₁)
    (hx : env.kindOf x = some .local := by rfl) (hs : swapsWith e (some (.Name x p)) pos.line env = pure false := by rfl) : Ex1 prog w hb k n₀ env ρ σ (.Assign [.Name x p] e pos) (.next ρ₁ σ₁) := fun A α s hA S L => by
  refine AssignNameR (wpR_mono (h A α s hA S L) (fun v s₁ q => ?_) fun _ _ f => f) hs
  obtain ⟨α₁, x₁, r⟩ := q
  exact .of (wp_store x₁.st (L.step x₁) U hx r fun s₂ x₂ L₂ => ⟨α₁, (up x₁).trans x₂, L₂⟩)
theorem Ex1.aug {x : Str} {p pos : Pos} {op : Operator} {e : Expr} {d₀ d₁ d : D} (h₀ : (x, d₀) ∈ ρ) (h : EvT prog w hb k n₀ env ρ e σ d₁ σ₁) (hop : BinV prog w hb k (inplaceOp op) d₀ d₁ σ₁ d) (U : Upd ρ x d ρ₁)
    (hx : env.kindOf x = some .local := by rfl) : Ex1 prog w hb k n₀ env ρ σ (.AugAssign (.Name x p) op e pos) (.next ρ₁ σ₁) := fun A α s hA S L => by
  refine AugAssignR ?_
  obtain ⟨v, hv, r⟩ := L.bnd x d₀ h₀
  rcases hv with ⟨hk, m, hm, e'⟩ | ⟨hk, _⟩
  · refine .of (wpAny_loadName_local L.kind hk hm e' ?_)
    refine wpR_mono (h A α s hA S L) (fun v₁ s₁ q => ?_) fun _ _ f => f
    obtain ⟨α₁, x₁, r₁⟩ := q
    refine wpR_mono (.of (hop A α₁ s₁ v v₁ hA x₁.st (x₁.rv0 r) r₁)) (fun u s₂ q => ?_) fun _ _ f => f
    have x₂ := x₁.trans (q.1.step x₁.st)
    exact .of (wp_store x₂.st (L.step x₂) U hx q.2 fun s₂ x₃ L₂ => ⟨α₁, (up x₂).trans x₃, L₂⟩)
  · rw [hx] at hk; cases hk
theorem Ex1.ret {e : Expr} {pos : Pos} {d : D} (h : EvT prog w hb k n₀ env ρ e σ d σ₁) : Ex1 prog w hb k n₀ env ρ σ (.Return (some e) pos) (.ret d σ₁) := fun A α s hA S L =>
  ReturnR (wpR_mono (h A α s hA S L) (fun v s₁ q => let ⟨α₁, x₁, r⟩ := q; ⟨α₁, up x₁, r⟩) fun _ _ f => f)
theorem Ex1.if {test : Expr} {body orelse : List Stmt} {pos : Pos} {b : Bool} {o : Out} (h : TrT prog w hb k n₀ env ρ test σ b σ₁) (ht : b = true → ExT prog w hb k n₀ env ρ σ₁ body o) (hf : b = false → ExT prog w hb k n₀ env ρ σ₁ orelse o) :
    Ex1 prog w hb k n₀ env ρ σ (.If test body orelse pos) o := fun A α s hA S L => by
  refine IfR (wpR_mono (h A α s hA S L) (fun c s₁ q => ?_) fun _ _ f => f)
  obtain ⟨rfl, α₁, x₁⟩ := q
  cases c with
  | true => exact wpR_mono (ht rfl A α₁ s₁ hA x₁.st (L.step x₁)) (fun f s₂ q => let ⟨α₂, y, r⟩ := q; ⟨α₂, (up x₁).trans y, r⟩) fun _ _ f => f
  | false => exact wpR_mono (hf rfl A α₁ s₁ hA x₁.st (L.step x₁)) (fun f s₂ q => let ⟨α₂, y, r⟩ := q; ⟨α₂, (up x₁).trans y, r⟩) fun _ _ f => f
theorem Ex1.ifT {test : Expr} {body orelse : List Stmt} {pos : Pos} {o : Out} (h : TrT prog w hb k n₀ env ρ test σ true σ₁) (ht : ExT prog w hb k n₀ env ρ σ₁ body o) : Ex1 prog w hb k n₀ env ρ σ (.If test body orelse pos) o := .if h (fun _ => ht) fun h => nomatch h
theorem Ex1.ifF {test : Expr} {body orelse : List Stmt} {pos : Pos} {o : Out} (h : TrT prog w hb k n₀ env ρ test σ false σ₁) (ht : ExT prog w hb k n₀ env ρ σ₁ orelse o) : Ex1 prog w hb k n₀ env ρ σ (.If test body orelse pos) o := .if h (fun h => nomatch h) fun _ => ht
end
end Mine
open PySem PySem.W PyProof.Rows PySem.Calls PySem.Spec
namespace Mine
section
variable {prog : Program} {w : World} {hb : Heap} {mg mb : Str → Option Value} {k n₀ : Nat} {env : Env} {ρ ρ' ρ₁ ρ₂ : List (Str × D)} {σ σ₁ σ₂ σ' : List C}
/-- objects that are younger than s, and hold fields, turn (an iterator) -/
structure Touch (s : Shared) (s₁ : Shared) (α₁ wr : List Addr) (h' : Heap) : Prop where
  young : ∀ b ∈ wr, s.heap.get? b = none
  off : ∀ b ∈ wr, b ∉ α₁
  flds : ∀ b ∈ wr, ∃ o vs, s₁.heap.get? b = some o ∧ o.data = .fields vs
  keep : ∀ b o, b ∉ wr → s₁.heap.get? b = some o → h'.get? b = some o
section touch
variable {X : List Addr} {s s₁ : Shared} {α α₁ wr : List Addr} {h' : Heap} {t : Nat}
theorem Touch.rv (T : Touch s s₁ α₁ wr h') {v : Value} {d : D} (r : Rv s₁.heap α₁ v d) : Rv h' α₁ v d :=
  r.lift (fun b o xs n e hd hn => ⟨T.keep b o (fun hw => by obtain ⟨o', vs, e', hd'⟩ := T.flds b hw; rw [e] at e'; cases e'; rw [hd] at hd'; cases hd') e, hn⟩) fun _ _ e => e
theorem Touch.rvAll (T : Touch s s₁ α₁ wr h') {v : List Value} {d : List D} (r : RvAll s₁.heap α₁ v d) : RvAll h' α₁ v d :=
  r.lift (fun b o xs n e hd hn => ⟨T.keep b o (fun hw => by obtain ⟨o', vs, e', hd'⟩ := T.flds b hw; rw [e] at e'; cases e'; rw [hd] at hd'; cases hd') e, hn⟩) fun _ _ e => e
theorem Touch.step (T : Touch s s₁ α₁ wr h') (x : Step hb n₀ X s α s₁ α₁ σ₁) (hX : ∀ b ∈ X, b ∉ wr) (K : ∀ b o, hb.get? b = some o → s.heap.get? b = some o) : Step hb n₀ X s α { s₁ with heap := h', toks := t } α₁ σ₁ where
  same := by
    obtain ⟨h1, t1, e⟩ := x.same
    exact ⟨h', t, by rw [e]⟩
  pre := x.pre
  keep := fun b o e hd hX' => T.keep b o (fun hw => by rw [T.young b hw] at e; cases e) (x.keep b o e hd hX')
  alive := fun b hbX o e => by
    obtain ⟨o', e'⟩ := x.alive b hbX o e
    exact ⟨o', T.keep b o' (hX b hbX) e'⟩
  st := ⟨fun b o e => T.keep b o (fun hw => by have q := K b o e; rw [T.young b hw] at q; cases q) (x.st.keep b o e), x.st.fresh, x.st.nodup, x.st.len, fun n a c e1 e2 => by
    have y := x.st.cells n a c e1 e2
    have ha : a ∉ wr := fun hw => T.off a hw (List.mem_of_getElem? e1)
    cases c with
    | list ds => obtain ⟨vs, ⟨m, ho⟩, q⟩ := y; exact ⟨vs, ⟨m, T.keep _ _ ha ho⟩, T.rvAll q⟩
    | barr b => obtain ⟨o, ho, r⟩ := y; exact ⟨o, T.keep _ _ ha ho, r⟩⟩
theorem Touch.loc (T : Touch s s₁ α₁ wr h') (L : Loc hb s₁.heap α₁ env ρ) : Loc hb h' α₁ env ρ where
  ns := by
    obtain ⟨m, o, es, ep, h1, h2, r⟩ := L.ns
    exact ⟨m, o, es, ep, T.keep _ _ (fun hw => by obtain ⟨o', vs, e', hd'⟩ := T.flds _ hw; rw [h1] at e'; cases e'; rw [h2] at hd'; cases hd') h1, h2, r⟩
  bnd := fun z d e => by
    obtain ⟨v, hv, r⟩ := L.bnd z d e
    refine ⟨v, ?_, T.rv r⟩
    rcases hv with ⟨hk, m, ⟨o, es, ep, h1, h2, q⟩, hm⟩ | ⟨hk, c, hl, o, ho, hd⟩
    · exact .inl ⟨hk, m, ⟨o, es, ep, T.keep _ _ (fun hw => by obtain ⟨o', vs, e', hd'⟩ := T.flds _ hw; rw [h1] at e'; cases e'; rw [h2] at hd'; cases hd') h1, h2, q⟩, hm⟩
    · exact .inr ⟨hk, c, hl, o, T.keep _ _ (fun hw => by obtain ⟨o', vs, e', hd'⟩ := T.flds _ hw; rw [ho] at e'; cases e'; rw [hd] at hd'; cases hd') ho, hd⟩
  nodup := L.nodup
  fresh := L.fresh
  off := L.off
  kind := L.kind
  glob := L.glob
  bui := L.bui
  cells := fun c hc => by
    obtain ⟨h1, o, v, h2, h3⟩ := L.cells c hc
    exact ⟨h1, o, v, T.keep _ _ (fun hw => by obtain ⟨o', vs, e', hd'⟩ := T.flds _ hw; rw [h2] at e'; cases e'; rw [h3] at hd'; cases hd') h2, h3⟩
end touch
/-- what can be gone through, and gives ds -/
structure Its (prog : Program) (w : World) (A : Around) (s : Shared) (s₂ : Shared) (α' : List Addr) (it : Value) (ds : List D) (I : Addr) (fp wr : List Addr) (P : Nat → Value → Prop) (Stt : Nat → Heap → Prop) : Prop where
  it : it = .ref I
  walks : Walks prog w A I fp wr ds.length P Stt
  start : Stt 0 s₂.heap
  young : ∀ b ∈ wr, s.heap.get? b = none
  off : ∀ b ∈ fp, b ∉ α'
  live : ∀ b ∈ fp, ∃ o, s₂.heap.get? b = some o ∧ ∀ es n, o.data ≠ .dict es n
  flds : ∀ i h, Stt i h → ∀ b ∈ wr, ∃ o vs, h.get? b = some o ∧ o.data = .fields vs
  items : ∀ i v, i < ds.length → P i v → ∃ d, ds[i]? = some d ∧ Rv s₂.heap α' v d
/-- an expression that is gone through -/
def ItT (prog : Program) (w : World) (hb : Heap) (k n₀ : Nat) (env : Env) (ρ : List (Str × D)) (e : Expr) (σ : List C) (ds : List D) (σ' : List C) : Prop :=
  ∀ A α s, AOk A k → St hb α σ s.heap → Loc hb s.heap α env ρ →
    wpR (model prog w) A (eval e env) (fun x s₁ => wpAny (model prog w) A (pyIter x) (fun it s₂ => ∃ α' I fp wr P Stt, Step hb n₀ [] s α s₂ α' σ' ∧ Its prog w A s s₂ α' it ds I fp wr P Stt) (fun _ _ => False) s₁) (fun _ _ => False) s
theorem push_iter {s : Shared} {o : Obj} {t : Nat} {b : Addr} (hb : b = s.heap.objs.size) : s.heap.get? b = none := by rw [hb]; exact get_size
theorem young_of {s s₁ : Shared} {α α₁ : List Addr} (x : Step hb n₀ [] s α s₁ α₁ σ₁) : s.heap.get? s₁.heap.objs.size = none := by
  cases e : s.heap.get? s₁.heap.objs.size with
  | none => rfl
  | some o => obtain ⟨o', e'⟩ := x.live e; exact absurd (Heap.lt_size e') (Nat.lt_irrefl _)
theorem ItT.list {e : Expr} {ds : List D} (h : EvT prog w hb k n₀ env ρ e σ (.list ds) σ₁) : ItT prog w hb k n₀ env ρ e σ ds σ₁ := fun A α s hA S L => by
  refine wpR_mono (h A α s hA S L) (fun x s₁ q => ?_) fun _ _ f => f
  obtain ⟨α₁, y, r⟩ := q
  cases r with
  | @list a vs _ hl hn rs =>
    refine wpAny_pyIter_list hl ?_
    have hz : vs.toArray.size = ds.length := by rw [List.size_toArray, rs.length]
    have hsz : a ≠ s₁.heap.objs.size := by obtain ⟨o, ho, _⟩ := hl; exact Nat.ne_of_lt (Heap.lt_size ho)
    refine ⟨α₁, s₁.heap.objs.size, [s₁.heap.objs.size, a], [s₁.heap.objs.size], _, _, y.trans (keeps_push.step y.st), rfl, hz ▸ Walks.list hA.1 s₁.heap.objs.size a hsz vs.toArray, ⟨⟨_, Heap.get?_push_size _ rfl, rfl, rfl⟩, hl.push _⟩, ?_, ?_, ?_, ?_, ?_⟩
    · intro b hb'; rw [List.mem_singleton.mp hb']; exact young_of y
    · intro b hb'
      rcases List.mem_cons.mp hb' with q | q
      · rw [q]; exact push_none y.st
      · rw [List.mem_singleton.mp q]; exact hn
    · intro b hb'
      rcases List.mem_cons.mp hb' with q | q
      · rw [q]; exact ⟨_, Heap.get?_push_size _ rfl, fun _ _ h => nomatch h⟩
      · rw [List.mem_singleton.mp q]; obtain ⟨o, ho, _, n, hd⟩ := hl; exact ⟨o, Heap.get?_push_of_some _ ho, fun _ _ h => by rw [hd] at h; cases h⟩
    · intro i h' st b hb'
      rw [List.mem_singleton.mp hb']
      obtain ⟨⟨o, ho, _, hd⟩, _⟩ := st
      exact ⟨o, _, ho, hd⟩
    · intro i v hi hv
      obtain ⟨d, hd, r⟩ := rs.get' (by simpa using hv)
      exact ⟨d, hd, (keeps_push (t := s₁.toks)).rv r⟩
theorem ItT.tuple {e : Expr} {ds : List D} (h : EvT prog w hb k n₀ env ρ e σ (.tuple ds) σ₁) : ItT prog w hb k n₀ env ρ e σ ds σ₁ := fun A α s hA S L => by
  refine wpR_mono (h A α s hA S L) (fun x s₁ q => ?_) fun _ _ f => f
  obtain ⟨α₁, y, r⟩ := q
  cases r with
  | @tuple a vs _ hl hn rs =>
    have hl : s₁.heap.IsTuple a vs.toArray := hl
    refine wpAny_pyIter_tuple hl ?_
    have hz : vs.toArray.size = ds.length := by rw [List.size_toArray, rs.length]
    have hsz : a ≠ s₁.heap.objs.size := by obtain ⟨o, ho, _⟩ := hl; exact Nat.ne_of_lt (Heap.lt_size ho)
    refine ⟨α₁, s₁.heap.objs.size, [s₁.heap.objs.size, a], [s₁.heap.objs.size], _, _, y.trans (keeps_push.step y.st), rfl, hz ▸ Walks.tuple hA.1 s₁.heap.objs.size a hsz vs.toArray, ⟨⟨_, Heap.get?_push_size _ rfl, rfl, rfl⟩, hl.push _⟩, ?_, ?_, ?_, ?_, ?_⟩
    · intro b hb'; rw [List.mem_singleton.mp hb']; exact young_of y
    · intro b hb'
      rcases List.mem_cons.mp hb' with q | q
      · rw [q]; exact push_none y.st
      · rw [List.mem_singleton.mp q]; exact hn
    · intro b hb'
      rcases List.mem_cons.mp hb' with q | q
      · rw [q]; exact ⟨_, Heap.get?_push_size _ rfl, fun _ _ h => nomatch h⟩
      · rw [List.mem_singleton.mp q]; obtain ⟨o, ho, _, n, hd⟩ := hl; exact ⟨o, Heap.get?_push_of_some _ ho, fun _ _ h => by rw [hd] at h; cases h⟩
    · intro i h' st b hb'
      rw [List.mem_singleton.mp hb']
      obtain ⟨⟨o, ho, _, hd⟩, _⟩ := st
      exact ⟨o, _, ho, hd⟩
    · intro i v hi hv
      obtain ⟨d, hd, r⟩ := rs.get' (by simpa using hv)
      exact ⟨d, hd, (keeps_push (t := s₁.toks)).rv r⟩
/-- the turns of a loop -/
inductive LoopT (prog : Program) (w : World) (hb : Heap) (k n₀ : Nat) (env : Env) (x : Str) (body : List Stmt) : List D → List (Str × D) → List C → Out → Prop
  | done {ρ : List (Str × D)} {σ : List C} : LoopT prog w hb k n₀ env x body [] ρ σ (.next ρ σ)
  | next {d : D} {ds : List D} {ρ ρ₁ ρ₂ : List (Str × D)} {σ σ₂ : List C} {o : Out} : Upd ρ x d ρ₁ → ExT prog w hb k n₀ env ρ₁ σ body (.next ρ₂ σ₂) → LoopT prog w hb k n₀ env x body ds ρ₂ σ₂ o → LoopT prog w hb k n₀ env x body (d :: ds) ρ σ o
  | ret {d e : D} {ds : List D} {ρ ρ₁ : List (Str × D)} {σ σ₂ : List C} : Upd ρ x d ρ₁ → ExT prog w hb k n₀ env ρ₁ σ body (.ret e σ₂) → LoopT prog w hb k n₀ env x body (d :: ds) ρ σ (.ret e σ₂)
theorem Ex1.for {x : Str} {px pos : Pos} {iter : Expr} {body : List Stmt} {ds : List D} {o : Out} (h : ItT prog w hb k n₀ env ρ iter σ ds σ₁) (hl : LoopT prog w hb k n₀ env x body ds ρ σ₁ o)
    (hx : env.kindOf x = some .local := by rfl) (hs : ∀ x, foldedSetIterable iter env x = pure x := by intro _; rfl) : Ex1 prog w hb k n₀ env ρ σ (.For (.Name x px) iter body [] pos) o := fun A α s hA S L => by
  refine ForR (wpR_mono (h A α s hA S L) (fun xv s₁ q => wpR_mono (.of q) (fun it s₂ q => ?_) fun _ _ f => f) fun _ _ f => f) hs
  obtain ⟨α₂, I, fp, wr, P, Stt, y₂, J⟩ := q
  obtain ⟨rfl, W, st₀, young, off, live, flds, items⟩ := J
  refine forLoopR (fun n s' => ∃ i α' ρ' σ', i ≤ ds.length ∧ n = ds.length + 1 - i ∧ Step hb n₀ [env.locals] s α s' α' σ' ∧ Loc hb s'.heap α' env ρ' ∧ Stt i s'.heap ∧ LoopT prog w hb k n₀ env x body (ds.drop i) ρ' σ' o ∧
    (∀ b ∈ fp, b ∉ α' ∧ b ≠ env.locals ∧ ∃ o, s'.heap.get? b = some o) ∧ (∀ v d, Rv s₂.heap α₂ v d → Rv s'.heap α' v d)) ?_ (ds.length + 1) ⟨0, α₂, ρ, σ₁, Nat.zero_le _, rfl, up y₂, L.step y₂, st₀, hl, ?_, fun v d r => r⟩
  · rintro n s' ⟨i, α', ρ', σ', hi, rfl, y, L', st, lt, offs, lifts⟩
    have hX : ∀ b ∈ [env.locals], b ∉ wr := fun b hbX hw => by rw [List.mem_singleton.mp hbX] at hw; exact (offs _ (W.sub _ hw)).2.1 rfl
    have tch : ∀ h', (∀ b o, b ∉ wr → s'.heap.get? b = some o → h'.get? b = some o) → Touch s s' α' wr h' := fun h' hk => ⟨young, fun b hw => (offs b (W.sub _ hw)).1, flds i _ st, hk⟩
    by_cases hlt : i < ds.length
    · refine .of (W.item i _ _ _ hlt st fun v h₁ tk₁ hP st₁ hk₁ => ?_)
      have T := tch h₁ hk₁
      obtain ⟨d, hd, r⟩ := items i v hlt hP
      have r₁ := T.rv (lifts v d r)
      have y₁ := T.step (t := tk₁) y hX S.keep
      have L₁ := T.loc L'
      have hdrop : ds.drop i = d :: ds.drop (i + 1) := by
        rw [List.drop_eq_getElem_cons hlt]; congr 1
        rw [List.getElem?_eq_getElem hlt] at hd; exact Option.some.inj hd
      rw [hdrop] at lt
      have go : ∀ ρ₁ o₁, Upd ρ' x d ρ₁ → ExT prog w hb k n₀ env ρ₁ σ' body o₁ → (∀ ρ₂ σ₂, o₁ = .next ρ₂ σ₂ → LoopT prog w hb k n₀ env x body (ds.drop (i + 1)) ρ₂ σ₂ o) → (∀ e σ₂, o₁ = .ret e σ₂ → o = .ret e σ₂) → (∀ ρ₂ σ₂, o₁ ≠ .brk ρ₂ σ₂) → (∀ ρ₂ σ₂, o₁ ≠ .cont ρ₂ σ₂) →
          wpR (model prog w) A (PySem.assign (Expr.Name x px) env v) (fun _ s₂' => wpR (model prog w) A (execs body env) (fun f s₃ => match f with
            | .next | .cont => ∃ m, m < ds.length + 1 - i ∧ ∃ i α' ρ' σ', i ≤ ds.length ∧ m = ds.length + 1 - i ∧ Step hb n₀ [env.locals] s α s₃ α' σ' ∧ Loc hb s₃.heap α' env ρ' ∧ Stt i s₃.heap ∧ LoopT prog w hb k n₀ env x body (ds.drop i) ρ' σ' o ∧
                (∀ b ∈ fp, b ∉ α' ∧ b ≠ env.locals ∧ ∃ o, s₃.heap.get? b = some o) ∧ (∀ v d, Rv s₂.heap α₂ v d → Rv s₃.heap α' v d)
            | .brk => ∃ α', Step hb n₀ [env.locals] s α s₃ α' o.st ∧ OutOk hb env α' s₃.heap o .next
            | .ret v => ∃ α', Step hb n₀ [env.locals] s α s₃ α' o.st ∧ OutOk hb env α' s₃.heap o (.ret v)) (fun _ _ => False) s₂') (fun _ _ => False) { s' with heap := h₁, toks := tk₁ } := by
        intro ρ₁ o₁ U hE hn hr hb₁ hc₁
        refine .of (wpAny_assign_Name (wp_store (n₀ := n₀) y₁.st L₁ U hx r₁ fun s₄ x₄ L₄ => ?_))
        refine wpR_mono (hE A α' s₄ hA x₄.st L₄) (fun f s₅ q => ?_) fun _ _ f => f
        obtain ⟨α₅, x₅, ok⟩ := q
        have y₅ := (y₁.trans x₄).trans x₅
        have x₄₅ := x₄.trans x₅
        cases o₁ with
        | next ρ₂ σ₂ =>
          cases f with
          | next =>
            have lf : ∀ v d, Rv s₂.heap α₂ v d → Rv s₅.heap α₅ v d := fun v d r => x₄₅.rv L₁.noSeq (T.rv (lifts v d r))
            refine ⟨ds.length + 1 - (i + 1), by omega, i + 1, α₅, ρ₂, σ₂, hlt, rfl, y₅, ok, ?_, hn _ _ rfl, fun b hbf => ?_, lf⟩
            · refine W.frame _ _ _ st₁ fun b hbf o e => x₄₅.keep b o e (fun q => (offs b hbf).1 (List.mem_of_mem_drop q)) fun q => (offs b hbf).2.1 (List.mem_singleton.mp q)
            · obtain ⟨g1, g2, o₂, e₂⟩ := offs b hbf
              have lv : ∃ o, h₁.get? b = some o := by
                by_cases hw : b ∈ wr
                · obtain ⟨o, _, e, _⟩ := flds _ _ st₁ b hw; exact ⟨o, e⟩
                · exact ⟨o₂, hk₁ _ _ hw e₂⟩
              obtain ⟨o₃, e₃⟩ := lv
              exact ⟨x₄₅.notIn e₃ g1, g2, x₄₅.live e₃⟩
          | _ => exact ok.elim
        | ret e σ₂ =>
          cases f with
          | ret u =>
            cases hr _ _ rfl
            exact ⟨α₅, y₅, ok⟩
          | _ => exact ok.elim
        | brk ρ₂ σ₂ => exact absurd rfl (hb₁ _ _)
        | cont ρ₂ σ₂ => exact absurd rfl (hc₁ _ _)
      cases lt with
      | next U hE hl => exact wpR_mono (go _ _ U hE (fun _ _ e => by cases e; exact hl) (fun _ _ e => nomatch e) (fun _ _ e => nomatch e) (fun _ _ e => nomatch e)) (fun _ s₂' q => wpR_mono q (fun f s₃ q => by cases f <;> exact q) fun _ _ f => f.elim) fun _ _ f => f.elim
      | ret U hE => exact wpR_mono (go _ _ U hE (fun _ _ e => nomatch e) (fun _ _ e => by cases e; rfl) (fun _ _ e => nomatch e) (fun _ _ e => nomatch e)) (fun _ s₂' q => wpR_mono q (fun f s₃ q => by cases f <;> exact q) fun _ _ f => f.elim) fun _ _ f => f.elim
    · have hin : i = ds.length := by omega
      subst hin
      rw [List.drop_length] at lt
      cases lt with
      | done =>
        refine .of (W.done _ _ _ st fun h₁ tk₁ hk₁ => ?_)
        have T := tch h₁ hk₁
        exact ⟨α', T.step y hX S.keep, T.loc L'⟩
  · intro b hbf
    obtain ⟨o, e, hd⟩ := live b hbf
    refine ⟨off b hbf, fun q => ?_, o, e⟩
    obtain ⟨m, o', es, ep, h1, h2, _⟩ := (L.step y₂).ns
    rw [q, h1] at e; cases e; exact hd _ _ h2
end
end Mine
open PySem PySem.W PyProof.Rows PySem.Calls PySem.Spec
namespace Mine
section
variable {prog : Program} {w : World} {hb : Heap} {mg mb : Str → Option Value} {k n₀ : Nat} {env : Env} {ρ ρ' ρ₁ ρ₂ : List (Str × D)} {σ σ₁ σ₂ σ' : List C}
/-- the turns of a while -/
inductive WhT (prog : Program) (w : World) (hb : Heap) (k n₀ : Nat) (env : Env) (test : Expr) (body : List Stmt) : Nat → List (Str × D) → List C → Out → Prop
  | stop {ρ : List (Str × D)} {σ σ₁ : List C} {n : Nat} : TrT prog w hb k n₀ env ρ test σ false σ₁ → WhT prog w hb k n₀ env test body n ρ σ (.next ρ σ₁)
  | step {ρ ρ₂ : List (Str × D)} {σ σ₁ σ₂ : List C} {o : Out} {n : Nat} : TrT prog w hb k n₀ env ρ test σ true σ₁ → ExT prog w hb k n₀ env ρ σ₁ body (.next ρ₂ σ₂) → WhT prog w hb k n₀ env test body n ρ₂ σ₂ o → WhT prog w hb k n₀ env test body (n + 1) ρ σ o
theorem Ex1.while {test : Expr} {body : List Stmt} {pos : Pos} {o : Out} {n : Nat} (h : WhT prog w hb k n₀ env test body n ρ σ o) : Ex1 prog w hb k n₀ env ρ σ (.While test body [] pos) o := fun A α s hA S L => by
  refine WhileR (whileLoopR (fun m s' => ∃ α' ρ' σ', Step hb n₀ [env.locals] s α s' α' σ' ∧ Loc hb s'.heap α' env ρ' ∧ WhT prog w hb k n₀ env test body m ρ' σ' o) ?_ n ⟨α, ρ, σ, Step.refl S, L, h⟩)
  rintro m s' ⟨α', ρ', σ', x, L', h'⟩
  cases h' with
  | stop ht =>
    refine wpR_mono (ht A α' s' hA x.st L') (fun b s₁ q => ?_) fun _ _ f => f.elim
    obtain ⟨rfl, α₁, y⟩ := q
    simp only [Bool.false_eq_true, if_false]
    exact ⟨α₁, x.trans (up y), L'.step y⟩
  | @step _ ρ₂ _ _ σ₂ _ n' ht hb' hn =>
    refine wpR_mono (ht A α' s' hA x.st L') (fun b s₁ q => ?_) fun _ _ f => f.elim
    obtain ⟨rfl, α₁, y⟩ := q
    simp only [if_true]
    refine wpR_mono (hb' A α₁ s₁ hA y.st (L'.step y)) (fun f s₂ q => ?_) fun _ _ f => f.elim
    obtain ⟨α₂, z, r⟩ := q
    cases f with
    | next => exact ⟨n', Nat.lt_succ_self _, α₂, ρ₂, σ₂, (x.trans (up y)).trans z, r, hn⟩
    | _ => exact r.elim
/-- several names -/
inductive UpdAll : List (Str × D) → List Str → List D → List (Str × D) → Prop
  | nil {ρ : List (Str × D)} : UpdAll ρ [] [] ρ
  | cons {ρ ρ₁ ρ' : List (Str × D)} {x : Str} {d : D} {xs : List Str} {ds : List D} : Upd ρ x d ρ₁ → UpdAll ρ₁ xs ds ρ' → UpdAll ρ (x :: xs) (d :: ds) ρ'
inductive Stores (env : Env) : List (Value → Sem Unit) → List Str → Prop
  | nil : Stores env [] []
  | cons {f : Value → Sem Unit} {fs : List (Value → Sem Unit)} {x : Str} {xs : List Str} : env.kindOf x = some .local →
      (∀ (M : Model) (A : Around) (E : Value → Shared → Prop) (s : Shared) (Q : Unit → Shared → Prop) (v : Value), wpAny M A (storeName env x v) Q E s → wpAny M A (f v) Q E s) → Stores env fs xs → Stores env (f :: fs) (x :: xs)
theorem wp_stores {A : Around} {Q : Unit → Shared → Prop} {fs : List (Value → Sem Unit)} {xs : List Str} (hf : Stores env fs xs) : ∀ {ds : List D} {ρ ρ' : List (Str × D)} {s : Shared} {α : List Addr} {vs : List Value}, UpdAll ρ xs ds ρ' → St hb α σ s.heap → Loc hb s.heap α env ρ → RvAll s.heap α vs ds →
    (∀ s', Step hb n₀ [env.locals] s α s' α σ → Loc hb s'.heap α env ρ' → Q () s') → wpAny (model prog w) A (assignInOrder fs vs) Q (fun _ _ => False) s := by
  induction hf with
  | nil =>
    intro ds ρ ρ' s α vs U S L r h
    cases U
    cases r
    exact wpAny_pure (h s (Step.refl S) L)
  | @cons f fs x xs hx hf _ ih =>
    intro ds ρ ρ' s α vs U S L r h
    cases U with
    | cons u U =>
      cases r with
      | cons r rs =>
        refine assignInOrder_cons (hf _ _ _ _ _ _ (wp_store (n₀ := n₀) S L u hx r fun s₁ x₁ L₁ => ?_))
        exact ih U x₁.st L₁ (x₁.rvAll L.noSeq rs) fun s₂ x₂ L₂ => h s₂ (x₁.trans x₂) L₂
theorem stores_names (xs : List Str) (h : ∀ x ∈ xs, env.kindOf x = some .local) : Stores env (xs.map fun n => bindName env n) xs := by
  induction xs with
  | nil => exact .nil
  | cons x xs ih => exact .cons (h x List.mem_cons_self) (fun _ _ _ _ _ _ hq => wpAny_bindName hq) (ih fun y hy => h y (List.mem_cons_of_mem _ hy))
theorem stores_targets (es : List (Str × Pos)) (h : ∀ x ∈ es, env.kindOf x.1 = some .local) : Stores env (es.map fun x => PySem.assign (Expr.Name x.1 x.2) env) (es.map (·.1)) := by
  induction es with
  | nil => exact .nil
  | cons x xs ih => exact .cons (h x List.mem_cons_self) (fun _ _ _ _ _ _ hq => wpAny_assign_Name hq) (ih fun y hy => h y (List.mem_cons_of_mem _ hy))
/-- a tuple that is written: the names are stored from the right -/
theorem Ex1.swapped {elts : List Expr} {j : Nat} {tpos pos : Pos} {value : Expr} {names : List Str} {ds : List D} (h : EvT prog w hb k n₀ env ρ value σ (.tuple ds) σ₁) (U : UpdAll ρ names.reverse ds.reverse ρ₁)
    (hl : names.length = ds.length := by rfl) (hx : ∀ x ∈ names, env.kindOf x = some .local := by decide +kernel)
    (hs : swapsWithSole [.Tuple elts j tpos] value pos.line env = pure false := by rfl) (hw : swappedStores [.Tuple elts j tpos] value env = pure (some names) := by rfl) : Ex1 prog w hb k n₀ env ρ σ (.Assign [.Tuple elts j tpos] value pos) (.next ρ₁ σ₁) := fun A α s hA S L => by
  refine AssignSwappedR (wpR_mono (h A α s hA S L) (fun v s₁ q => ?_) fun _ _ f => f) hs hw
  obtain ⟨α₁, x₁, r⟩ := q
  cases r with
  | @tuple a vs _ ht hn rs =>
    have hz : names.length = vs.toArray.size := by rw [List.size_toArray, rs.length, hl]
    rw [hz]
    refine .of (unpackItems_tuple hA.1 ht fun h' he => ?_)
    have K : Kp s₁ { s₁ with heap := h' } := ⟨⟨_, _, rfl⟩, fun b o e => he b o (Nat.ne_of_lt (Heap.lt_size e)) e⟩
    have x₂ := K.step (n₀ := n₀) (X := []) x₁.st
    have rr : RvAll h' α₁ vs.reverse ds.reverse := (K.rvAll rs).reverse
    rw [List.toList_toArray]
    exact .of (wp_stores (stores_names _ fun x hx' => hx x (List.mem_reverse.mp hx')) U x₂.st ((L.step x₁).step x₂) rr fun s₂ x₃ L₂ => ⟨α₁, (up (x₁.trans x₂)).trans x₃, L₂⟩)
theorem assignEach_names (es : List (Str × Pos)) : assignEach (es.map fun x => Expr.Name x.1 x.2) env = es.map fun x => (false, PySem.assign (Expr.Name x.1 x.2) env) := by
  induction es with
  | nil => rfl
  | cons x es ih => rw [List.map_cons, List.map_cons, ← ih]; rfl
/-- a tuple that is handed back, or written constants -/
theorem Ex1.unpack {es : List (Str × Pos)} {j : Nat} {tpos pos : Pos} {value : Expr} {elts : List Expr} {ds : List D} (h : EvT prog w hb k n₀ env ρ value σ (.tuple ds) σ₁) (U : UpdAll ρ (es.map (·.1)) ds ρ₁) (he : elts = es.map fun x => Expr.Name x.1 x.2)
    (hl : es.length = ds.length := by rfl) (hx : ∀ x ∈ es, env.kindOf x.1 = some .local := by decide +kernel)
    (hs : swapsWithSole [.Tuple elts j tpos] value pos.line env = pure false := by rfl) (hw : swappedStores [.Tuple elts j tpos] value env = pure none := by rfl) : Ex1 prog w hb k n₀ env ρ σ (.Assign [.Tuple elts j tpos] value pos) (.next ρ₁ σ₁) := fun A α s hA S L => by
  refine AssignTupleR (wpR_mono (h A α s hA S L) (fun v s₁ q => ?_) fun _ _ f => f) hs hw
  obtain ⟨α₁, x₁, r⟩ := q
  cases r with
  | @tuple a vs _ ht hn rs =>
    refine .of (assign_Tuple_tuple hA.1 ht (by rw [he, assignEach_names, List.length_map, List.size_toArray, rs.length, hl]) (by rw [he, assignEach_names]; simp) fun h' hE => ?_)
    have K : Kp s₁ { s₁ with heap := h' } := ⟨⟨_, _, rfl⟩, fun b o e => hE b o (Nat.ne_of_lt (Heap.lt_size e)) e⟩
    have x₂ := K.step (n₀ := n₀) (X := []) x₁.st
    rw [he, assignEach_names, List.map_map, List.toList_toArray]
    exact wp_stores (stores_targets es hx) U x₂.st ((L.step x₁).step x₂) (K.rvAll rs) fun s₂ x₃ L₂ => ⟨α₁, (up (x₁.trans x₂)).trans x₃, L₂⟩
/-- a store into a mutable object -/
def SetV (prog : Program) (w : World) (hb : Heap) (k : Nat) (d₀ d₁ d₂ : D) (σ : List C) (σ' : List C) : Prop :=
  ∀ A α s v₀ v₁ v₂, AOk A k → St hb α σ s.heap → Rv s.heap α v₀ d₀ → Rv s.heap α v₁ d₁ → Rv s.heap α v₂ d₂ →
    wpAny (model prog w) A (setItem v₀ v₁ v₂) (fun _ s' => ∀ n₀, (∀ m, d₀ = .ref m → n₀ ≤ m) → Step hb n₀ [] s α s' α σ') (fun _ _ => False) s
theorem Ex1.setItem {o i e : Expr} {p pos : Pos} {m : Nat} {d₁ d₂ : D} {σ₃ : List C} (h₂ : EvT prog w hb k n₀ env ρ e σ d₂ σ₁) (h₀ : EvT prog w hb k n₀ env ρ o σ₁ (.ref m) σ₂) (h₁ : EvT prog w hb k n₀ env ρ i σ₂ d₁ σ₃) (h : SetV prog w hb k (.ref m) d₁ d₂ σ₃ σ') (hm : n₀ ≤ m)
    (hs : swapsWith e (some (.Subscript o i p)) pos.line env = pure false := by rfl) : Ex1 prog w hb k n₀ env ρ σ (.Assign [.Subscript o i p] e pos) (.next ρ σ') := fun A α s hA S L => by
  refine AssignSubscriptR (wpR_mono (h₂ A α s hA S L) (fun v₂ s₁ q => ?_) fun _ _ f => f) hs
  obtain ⟨α₁, x₁, r₂⟩ := q
  refine wpR_mono (h₀ A α₁ s₁ hA x₁.st (L.step x₁)) (fun v₀ s₂ q => ?_) fun _ _ f => f
  obtain ⟨α₂, x₂, r₀⟩ := q
  have x₁₂ := x₁.trans x₂
  refine wpR_mono (h₁ A α₂ s₂ hA x₂.st (L.step x₁₂)) (fun v₁ s₃ q => ?_) fun _ _ f => f
  obtain ⟨α₃, x₃, r₁⟩ := q
  have x₁₃ := x₁₂.trans x₃
  refine wpR_mono (.of (h A α₃ s₃ v₀ v₁ v₂ hA x₃.st (x₃.rv0 r₀) r₁ ((x₂.trans x₃).rv0 r₂))) (fun _ s₄ q => ?_) fun _ _ f => f
  have x₄ := q n₀ fun m' e => by cases e; exact hm
  have x₁₄ := x₁₃.trans x₄
  exact ⟨α₃, up x₁₄, L.step x₁₄⟩
theorem EvT.call {x : Str} {p pos : Pos} {e : Expr} {es : List Expr} {ds : List D} {d : D} {a : Addr} {f : FuncData} (B : Base hb mg mb) (hg : mg x = some (.ref a)) (hf : ∃ o, hb.get? a = some o ∧ o.data = .func f)
    (h : EvsT prog w hb k n₀ env ρ (e :: es) σ ds σ₁) (hc : FunV prog w hb k (.ref a) ds σ₁ d) (hx : env.kindOf x = some .globalImplicit := by rfl)
    (hd : (x == ("__debug__" : Str)) = false := by decide +kernel) (he : starEach (e :: es) env = (false, eval e env) :: starEach es env := by rfl)
    (hcall : eval (.Call (.Name x p) (e :: es) [] pos) env = (do callWith pos (← eval (.Name x p) env) [] (backTo pos (starEach (e :: es) env)) (backToKw pos (keywordEach [] env))) := by rfl) :
    EvT prog w hb k n₀ env ρ (.Call (.Name x p) (e :: es) [] pos) σ d σ₁ := fun A α s hA S L => by
  obtain ⟨o, ho, hd'⟩ := hf
  refine CallR (.of (Name_function_global L.kind hx (loadGlobal_global (by rw [L.glob]; exact B.g.keeps S.keep) hg ?_) hd)) hcall
  refine callWithR_fn hd' (wpR_mono (h A α s pos hA S L) (fun vs s₁ q => ?_) fun _ _ f => f) he
  obtain ⟨α₁, x₁, r⟩ := q
  refine ⟨x₁.st.keep _ _ ho, wpR_mono (hc A α₁ s₁ vs hA x₁.st r) (fun v s₂ q => ?_) fun _ _ f => f⟩
  exact ⟨α₁, x₁.trans (q.1.step x₁.st), q.2⟩
theorem EvT.calli {x : Str} {p pos : Pos} {e : Expr} {es : List Expr} {ds : List D} {d : D} {a : Addr} {f : FuncData} (B : Base hb mg mb) (hg : mg x = some (.ref a)) (hf : ∃ o, hb.get? a = some o ∧ o.data = .func f)
    (h : EvsT prog w hb k 0 env ρ (e :: es) σ ds σ₁) (hc : CallI prog w hb k (.ref a) ds σ₁ d σ₂) (hx : env.kindOf x = some .globalImplicit := by rfl)
    (hd : (x == ("__debug__" : Str)) = false := by decide +kernel) (he : starEach (e :: es) env = (false, eval e env) :: starEach es env := by rfl)
    (hcall : eval (.Call (.Name x p) (e :: es) [] pos) env = (do callWith pos (← eval (.Name x p) env) [] (backTo pos (starEach (e :: es) env)) (backToKw pos (keywordEach [] env))) := by rfl) :
    EvT prog w hb k 0 env ρ (.Call (.Name x p) (e :: es) [] pos) σ d σ₂ := fun A α s hA S L => by
  obtain ⟨o, ho, hd'⟩ := hf
  refine CallR (.of (Name_function_global L.kind hx (loadGlobal_global (by rw [L.glob]; exact B.g.keeps S.keep) hg ?_) hd)) hcall
  refine callWithR_fn hd' (wpR_mono (h A α s pos hA S L) (fun vs s₁ q => ?_) fun _ _ f => f) he
  obtain ⟨α₁, x₁, r⟩ := q
  refine ⟨x₁.st.keep _ _ ho, wpR_mono (hc A α₁ s₁ vs hA x₁.st r) (fun v s₂ q => ?_) fun _ _ f => f⟩
  exact ⟨α₁, x₁.trans q.1, q.2⟩
theorem EvT.builtin {x : Str} {p pos : Pos} {e : Expr} {es : List Expr} {ds : List D} {d : D} {id : String} (B : Base hb mg mb) (hg : mg x = Option.none) (hv : bootBuiltins x = some (.builtin id))
    (h : EvsT prog w hb k n₀ env ρ (e :: es) σ ds σ₁) (hc : CallV prog w hb k (.builtin id) ds σ₁ d) (hn : x ≠ "__name__" := by decide +kernel) (hx : env.kindOf x = some .globalImplicit := by rfl)
    (hd : (x == ("__debug__" : Str)) = false := by decide +kernel) (he : starEach (e :: es) env = (false, eval e env) :: starEach es env := by rfl)
    (hp : ((backTo pos (starEach es env)).any fun x => x.1) = false := by rfl)
    (hcall : eval (.Call (.Name x p) (e :: es) [] pos) env = (do callWith pos (← eval (.Name x p) env) [] (backTo pos (starEach (e :: es) env)) (backToKw pos (keywordEach [] env))) := by rfl) :
    EvT prog w hb k n₀ env ρ (.Call (.Name x p) (e :: es) [] pos) σ d σ₁ := fun A α s hA S L => by
  refine CallR (.of (Name_function_global L.kind hx (loadGlobal_builtin (by rw [L.glob]; exact B.g.keeps S.keep) hg (by rw [L.bui]; exact B.b.keeps S.keep) ((B.builtins x hn).trans hv) ?_) hd)) hcall
  refine callWithR_builtin (wpR_mono (h A α s pos hA S L) (fun vs s₁ q => ?_) fun _ _ f => f) he hp
  obtain ⟨α₁, x₁, r⟩ := q
  refine wpR_mono (.of (hc A α₁ s₁ vs hA x₁.st r)) (fun v s₂ q => ?_) fun _ _ f => f
  exact ⟨α₁, x₁.trans (q.1.step x₁.st), q.2⟩
theorem EvT.type {x : Str} {p pos : Pos} {e : Expr} {es : List Expr} {ds : List D} {d : D} {id : String} (B : Base hb mg mb) (hg : mg x = Option.none) (hv : bootBuiltins x = some (.type id))
    (h : EvsT prog w hb k n₀ env ρ (e :: es) σ ds σ₁) (hc : CallV prog w hb k (.type id) ds σ₁ d) (hn : x ≠ "__name__" := by decide +kernel) (hx : env.kindOf x = some .globalImplicit := by rfl)
    (hd : (x == ("__debug__" : Str)) = false := by decide +kernel) (he : starEach (e :: es) env = (false, eval e env) :: starEach es env := by rfl)
    (hp : ((backTo pos (starEach es env)).any fun x => x.1) = false := by rfl)
    (hcall : eval (.Call (.Name x p) (e :: es) [] pos) env = (do callWith pos (← eval (.Name x p) env) [] (backTo pos (starEach (e :: es) env)) (backToKw pos (keywordEach [] env))) := by rfl) :
    EvT prog w hb k n₀ env ρ (.Call (.Name x p) (e :: es) [] pos) σ d σ₁ := fun A α s hA S L => by
  refine CallR (.of (Name_function_global L.kind hx (loadGlobal_builtin (by rw [L.glob]; exact B.g.keeps S.keep) hg (by rw [L.bui]; exact B.b.keeps S.keep) ((B.builtins x hn).trans hv) ?_) hd)) hcall
  refine callWithR_type (wpR_mono (h A α s pos hA S L) (fun vs s₁ q => ?_) fun _ _ f => f) he hp
  obtain ⟨α₁, x₁, r⟩ := q
  refine wpR_mono (.of (hc A α₁ s₁ vs hA x₁.st r)) (fun v s₂ q => ?_) fun _ _ f => f
  exact ⟨α₁, x₁.trans (q.1.step x₁.st), q.2⟩
mutual
/-- what a call hands back of its own mutable objects -/
inductive Frz (σ : List C) (n : Nat) : D → D → Prop
  | none : Frz σ n .none .none
  | bool (b : Bool) : Frz σ n (.bool b) (.bool b)
  | int (i : Int) : Frz σ n (.int i) (.int i)
  | str (x : Str) : Frz σ n (.str x) (.str x)
  | bytes (b : List UInt8) : Frz σ n (.bytes b) (.bytes b)
  | tuple {ds es : List D} : FrzAll σ n ds es → Frz σ n (.tuple ds) (.tuple es)
  | list {ds es : List D} : FrzAll σ n ds es → Frz σ n (.list ds) (.list es)
  | old {m : Nat} : m < n → Frz σ n (.ref m) (.ref m)
  | new {m : Nat} {ds es : List D} : n ≤ m → σ[m]? = some (.list ds) → FrzAll σ n ds es → Frz σ n (.ref m) (.list es)
inductive FrzAll (σ : List C) (n : Nat) : List D → List D → Prop
  | nil : FrzAll σ n [] []
  | cons {d e : D} {ds es : List D} : Frz σ n d e → FrzAll σ n ds es → FrzAll σ n (d :: ds) (e :: es)
end
section frz
variable {α β : List Addr} {h : Heap} (S : St hb (α ++ β) σ h)
include S
theorem frz_rv {v : Value} {d e : D} (f : Frz σ α.length d e) (r : Rv h (α ++ β) v d) : Rv h α v e :=
  Frz.rec (motive_1 := fun d e _ => ∀ v, Rv h (α ++ β) v d → Rv h α v e) (motive_2 := fun ds es _ => ∀ vs, RvAll h (α ++ β) vs ds → RvAll h α vs es)
    (fun v r => by cases r; exact .none) (fun b v r => by cases r; exact .bool b) (fun i v r => by cases r; exact .int i _) (fun x v r => by cases r; exact .str x _) (fun b v r => by cases r; exact .bytes b _)
    (fun _ ih v r => by cases r with | tuple h1 hn r => exact .tuple h1 (fun q => hn (List.mem_append_left _ q)) (ih _ r))
    (fun _ ih v r => by cases r with | list h1 hn r => exact .list h1 (fun q => hn (List.mem_append_left _ q)) (ih _ r))
    (fun hm v r => by cases r with | ref e => exact .ref (by rw [List.getElem?_append_left hm] at e; exact e))
    (fun {m} {_} {_} hm hc _ ih v r => by
      cases r with
      | ref e =>
        obtain ⟨vs, hl, r⟩ := S.cells m _ _ e hc
        refine .list hl.isList (fun q => ?_) (ih _ r)
        have nd := List.nodup_append.mp S.nodup
        rw [List.getElem?_append_right hm] at e
        exact nd.2.2 _ q _ (List.mem_of_getElem? e) rfl)
    (fun vs r => by cases r; exact .nil) (fun _ _ i1 i2 vs r => by cases r with | cons r rs => exact .cons (i1 _ r) (i2 _ rs)) f v r
theorem frz_all {vs : List Value} {ds es : List D} (f : FrzAll σ α.length ds es) (r : RvAll h (α ++ β) vs ds) : RvAll h α vs es := by
  induction vs generalizing ds es with
  | nil => cases r; cases f; exact .nil
  | cons v vs ih => cases r with | cons r rs => cases f with | cons f fs => exact .cons (frz_rv S f r) (ih fs rs)
end frz
theorem st_drop {α β : List Addr} {h : Heap} (S : St hb (α ++ β) σ h) (hc : ∀ n c, σ[n]? = some c → n < α.length → ∀ ds, c = .list ds → FrzAll σ α.length ds ds) : St hb α (σ.take α.length) h where
  keep := S.keep
  fresh := fun a ha => S.fresh a (List.mem_append_left _ ha)
  nodup := (List.nodup_append.mp S.nodup).1
  len := by have := S.len; simp at this ⊢; omega
  cells := fun n a c e1 e2 => by
    have hn : n < α.length := (List.getElem?_eq_some_iff.mp e1).1
    rw [List.getElem?_take_of_lt hn] at e2
    have x := S.cells n a c (by rw [List.getElem?_append_left hn]; exact e1) e2
    cases c with
    | list ds =>
      obtain ⟨vs, hl, r⟩ := x
      exact ⟨vs, hl, frz_all S (hc n _ e2 hn ds rfl) r⟩
    | barr b => exact x
end
end Mine
open PySem PySem.W PyProof.Rows PySem.Calls PySem.Spec
namespace Mine
theorem bindL_not {kf : Str → Option NameKind} {x : Str} : ∀ {binds : List (Str × Value)} {m : Str → Option Value}, x ∉ binds.map (·.1) → bindL kf binds m x = m x
  | [], _, _ => rfl
  | (n, v) :: r, m, h => by
    simp only [List.map_cons, List.mem_cons, not_or] at h
    unfold bindL
    rw [bindL_not h.2]
    split
    · simp [h.1]
    · rfl
theorem bindC_not {kf : Str → Option NameKind} {x : Str} : ∀ {binds : List (Str × Value)} {m : Str → Option Value}, x ∉ binds.map (·.1) → bindC kf binds m x = m x
  | [], _, _ => rfl
  | (n, v) :: r, m, h => by
    simp only [List.map_cons, List.mem_cons, not_or] at h
    unfold bindC
    rw [bindC_not h.2]
    split
    · rfl
    · simp [h.1]
theorem bindL_at {kf : Str → Option NameKind} {x : Str} {v : Value} (hk : kf x = some .local) : ∀ {binds : List (Str × Value)} {m : Str → Option Value}, (binds.map (·.1)).Nodup → (x, v) ∈ binds → bindL kf binds m x = some v
  | [], _, _, h => nomatch h
  | (n, u) :: r, m, hn, h => by
    simp only [List.map_cons, List.nodup_cons] at hn
    unfold bindL
    rcases List.mem_cons.mp h with q | q
    · cases q
      rw [bindL_not hn.1, if_pos hk]; simp
    · exact bindL_at hk hn.2 q
theorem bindC_at {kf : Str → Option NameKind} {x : Str} {v : Value} (hk : kf x ≠ some .local) : ∀ {binds : List (Str × Value)} {m : Str → Option Value}, (binds.map (·.1)).Nodup → (x, v) ∈ binds → bindC kf binds m x = some v
  | [], _, _, h => nomatch h
  | (n, u) :: r, m, hn, h => by
    simp only [List.map_cons, List.nodup_cons] at hn
    unfold bindC
    rcases List.mem_cons.mp h with q | q
    · cases q
      rw [bindC_not hn.1, if_neg hk]; simp
    · exact bindC_at hk hn.2 q
theorem zip_rv {h : Heap} {α : List Addr} {x : Str} {d : D} : ∀ {ps : List Str} {ds : List D} {vs : List Value}, RvAll h α vs ds → (x, d) ∈ ps.zip ds → ∃ v, (x, v) ∈ ps.zip vs ∧ Rv h α v d
  | [], _, _, _, h => by simp at h
  | p :: ps, _, _, .nil, h => by simp at h
  | p :: ps, _, _, .cons r rs, h => by
    rcases List.mem_cons.mp h with q | q
    · cases q; exact ⟨_, List.mem_cons_self, r⟩
    · obtain ⟨v, hv, r'⟩ := zip_rv rs q
      exact ⟨v, List.mem_cons_of_mem _ hv, r'⟩
theorem zip_fst {β : Type} : ∀ {ps : List Str} {ds : List β}, ps.length = ds.length → (ps.zip ds).map (·.1) = ps
  | [], [], _ => rfl
  | p :: ps, d :: ds, h => by simp at h; simp [zip_fst h]
/-- what is known of a def of the program -/
structure DefAt (hb : Heap) (mg : Str → Option Value) (name : Str) (params : Arguments) (body : List Stmt) (scope : Scope) (a : Addr) (o : Obj) (pm code doc : Value) : Prop where
  glob : mg name = some (.ref a)
  there : hb.get? a = some o
  data : o.data = .func (docDef name params body scope pm code doc)
  cdrec : hb.CodeRec code name
section
variable {prog : Program} {w : World} {hb : Heap} {mg mb : Str → Option Value} {k n₀ : Nat} {ρ ρ' ρ₁ ρ₂ : List (Str × D)} {σ σ₁ σ₂ σ' : List C}
  {name : Str} {params : Arguments} {body : List Stmt} {scope : Scope} {a : Addr} {o : Obj} {pm code doc : Value}
/-- the frame of a def -/
abbrev fenv (name : Str) (scope : Scope) (a : Addr) (code : Value) (L : Addr) : Env :=
  { scope := scope, locals := L, globals := mainGlobals, cells := cellsFrom (L + 1) scope.names [], qual := name ++ ".<locals>.", func := some a, code := code, frame := some L, builtins := builtinsNs }
theorem kp_call (B : Base hb mg mb) (X : DefAt hb mg name params body scope a o pm code doc) {ps : List Str} {ds : List D} {A : Around} {α : List Addr} {s : Shared} {vs : List Value} {d₁ : D} {Q : Value → Shared → Prop}
    (hbind : ∀ vs : List Value, vs.length = ps.length → bindArgs (docDef name params body scope pm code doc) ⟨vs, []⟩ = pure (ps.zip vs)) (hlen : ps.length = ds.length) (hnd : ps.Nodup)
    (hkind : ∀ n, ∀ x ∈ ps, scope.names.lookup x = some .local ∨ (scope.names.lookup x = some .cell ∧ ((cellsFrom n scope.names []).lookup x).isSome = true))
    (hcs : ∀ n, ∀ p ∈ cellsFrom n scope.names [], (cellsFrom n scope.names []).lookup p.1 = some p.2)
    (hco : scope.isCoroutine = false) (hgen : scope.isGenerator = false) (hk : scope.kind = .function)
    (h : ExT prog w hb k n₀ (fenv name scope a code s.heap.objs.size) (ps.zip ds) σ body (.ret d₁ σ₁))
    (hA : AOk A (k + 1)) (S : St hb α σ s.heap) (r : RvAll s.heap α vs ds)
    (hQ : ∀ v s' α', Step hb n₀ [] s α s' α' σ₁ → Rv s'.heap α' v d₁ → Q v s') : wpR (model prog w) A (call (.ref a) vs) Q (fun _ _ => False) s := by
  have hz : ps.length = vs.length := hlen.trans r.length.symm
  refine wpR_call (codeR_call_cells (binds := ps.zip vs) (by have := hA.2.1; omega) (S.keep _ _ X.there) X.data (B.nolimit.keeps S.keep) ?_ rfl (hbind vs hz.symm) rfl ?_ ?_ hco hgen hk)
  · obtain ⟨c, oc, vs', t, e1, e2, e3, e4⟩ := X.cdrec
    exact ⟨c, oc, vs', t, e1, S.keep _ _ e2, e3, e4⟩
  · intro x hx
    exact hkind _ x.1 (by rw [← zip_fst hz]; exact List.mem_map_of_mem hx)
  · intro s₁ x
    have hk₁ := x.toInCall.keep
    have hnew : s.heap.get? s.heap.objs.size = none := get_size
    have K : Kp s s₁ := ⟨x.toInCall.same, hk₁⟩
    have S₁ := K.st S
    have L₁ : Loc hb s₁.heap α (fenv name scope a code s.heap.objs.size) (ps.zip ds) := by
      refine ⟨⟨_, x.toInCall.ns⟩, fun y d hm => ?_, by rw [zip_fst hlen]; exact hnd, ?_, push_none S, hk, rfl, rfl, fun c hc => ?_⟩
      · obtain ⟨v, hv, rv⟩ := zip_rv r hm
        refine ⟨v, ?_, K.rv rv⟩
        have hy : y ∈ ps := by rw [← zip_fst hz]; exact List.mem_map_of_mem (f := (·.1)) hv
        have hnd' : ((ps.zip vs).map (·.1)).Nodup := by rw [zip_fst hz]; exact hnd
        rcases hkind (s.heap.objs.size + 1) y hy with q | ⟨q, q'⟩
        · exact .inl ⟨q, _, x.toInCall.ns, bindL_at q hnd' hv⟩
        · obtain ⟨c, hc⟩ := Option.isSome_iff_exists.mp q'
          have hc' := x.cell y c hc
          rw [bindC_at (show (callEnvC (docDef name params body scope pm code doc) s.heap.objs.size a).kindOf y ≠ some .local from fun e => by rw [show (callEnvC (docDef name params body scope pm code doc) s.heap.objs.size a).kindOf y = some .cell from q] at e; cases e) hnd' hv] at hc'
          exact .inr ⟨q, c, hc, hc'⟩
      · cases e : hb.get? s.heap.objs.size with
        | none => rfl
        | some o => exact absurd (Heap.lt_size (S.keep _ _ e)) (Nat.lt_irrefl _)
      · obtain ⟨oc, e1, e2⟩ := x.cell c.1 c.2 (hcs _ c hc)
        have hab := x.above c.1 c.2 hc
        refine ⟨fun hm => ?_, oc, _, e1, e2⟩
        exact Nat.lt_asymm (S.lt hm) hab
    refine wpR_mono (h (A.deeper _) α s₁ (hA.deeper _) S₁ L₁) (fun f s₂ q => ?_) fun _ _ f => f.elim
    obtain ⟨α₂, y, ok⟩ := q
    have y' : Step hb n₀ [] s α s₂ α₂ σ₁ := by
      refine ⟨?_, ?_, fun b ob e hd _ => ?_, (fun _ h => nomatch h), y.st⟩
      · obtain ⟨h1, t1, e1⟩ := x.toInCall.same
        obtain ⟨h2, t2, e2⟩ := y.same
        exact ⟨h2, t2, by rw [e2, e1]⟩
      · obtain ⟨β, e, hβ⟩ := y.pre
        refine ⟨β, e, fun b hb' => ?_⟩
        cases e : s.heap.get? b with
        | none => rfl
        | some o => have := hβ b hb'; rw [hk₁ b o e] at this; cases this
      · refine y.keep b ob (hk₁ b ob e) hd fun hm => ?_
        rw [List.mem_singleton.mp hm] at e
        have e' : s.heap.get? s.heap.objs.size = some ob := e
        rw [hnew] at e'; cases e'
    cases f with
    | ret v => exact hQ v s₂ α₂ y' ok
    | _ => exact ok.elim
/-- the suite hands back d -/
def RetOk (o : Out) (n : Nat) (d : D) : Prop := ∃ d₁ σ₁, o = .ret d₁ σ₁ ∧ Frz σ₁ n d₁ d
theorem RetOk.mk {d₁ d : D} {n : Nat} {σ₁ : List C} (h : Frz σ₁ n d₁ d) : RetOk (.ret d₁ σ₁) n d := ⟨_, _, rfl, h⟩
/-- the suite hands back d, and the old mutable objects are σ' -/
def RetI (o : Out) (n : Nat) (d : D) (σ' : List C) : Prop :=
  ∃ d₁ σ₁, o = .ret d₁ σ₁ ∧ Frz σ₁ n d₁ d ∧ σ₁.take n = σ' ∧ ∀ i c, σ₁[i]? = some c → i < n → ∀ ds, c = .list ds → FrzAll σ₁ n ds ds
/-- a def that changes nothing -/
theorem FunV.intro (B : Base hb mg mb) (X : DefAt hb mg name params body scope a o pm code doc) {ps : List Str} {ds : List D} {d : D}
    (hbind : ∀ vs : List Value, vs.length = ps.length → bindArgs (docDef name params body scope pm code doc) ⟨vs, []⟩ = pure (ps.zip vs)) (hlen : ps.length = ds.length) (hnd : ps.Nodup)
    (hkind : ∀ n, ∀ x ∈ ps, scope.names.lookup x = some .local ∨ (scope.names.lookup x = some .cell ∧ ((cellsFrom n scope.names []).lookup x).isSome = true))
    (hcs : ∀ n, ∀ p ∈ cellsFrom n scope.names [], (cellsFrom n scope.names []).lookup p.1 = some p.2)
    (hco : scope.isCoroutine = false) (hgen : scope.isGenerator = false) (hk : scope.kind = .function)
    (h : ∀ L, ∃ o, ExT prog w hb k σ.length (fenv name scope a code L) (ps.zip ds) σ body o ∧ RetOk o σ.length d) : FunV prog w hb (k + 1) (.ref a) ds σ d := fun A α s vs hA S r => by
  obtain ⟨_, h1, d₁, σ₁, rfl, hf⟩ := h s.heap.objs.size
  refine kp_call B X hbind hlen hnd hkind hcs hco hgen hk h1 hA S r fun v s' α' x rv => ?_
  have hdrop : α.drop σ.length = [] := by rw [← S.len]; simp
  obtain ⟨β, rfl, hβ⟩ := x.pre
  refine ⟨⟨x.same, fun b o e => x.keep b o e (by rw [hdrop]; exact List.not_mem_nil) List.not_mem_nil⟩, frz_rv x.st (by rw [S.len]; exact hf) rv⟩
/-- a def that may change what it is handed -/
theorem CallI.intro (B : Base hb mg mb) (X : DefAt hb mg name params body scope a o pm code doc) {ps : List Str} {ds : List D} {d : D}
    (hbind : ∀ vs : List Value, vs.length = ps.length → bindArgs (docDef name params body scope pm code doc) ⟨vs, []⟩ = pure (ps.zip vs)) (hlen : ps.length = ds.length) (hnd : ps.Nodup)
    (hkind : ∀ n, ∀ x ∈ ps, scope.names.lookup x = some .local ∨ (scope.names.lookup x = some .cell ∧ ((cellsFrom n scope.names []).lookup x).isSome = true))
    (hcs : ∀ n, ∀ p ∈ cellsFrom n scope.names [], (cellsFrom n scope.names []).lookup p.1 = some p.2)
    (hco : scope.isCoroutine = false) (hgen : scope.isGenerator = false) (hk : scope.kind = .function)
    (h : ∀ L, ∃ o, ExT prog w hb k 0 (fenv name scope a code L) (ps.zip ds) σ body o ∧ RetI o σ.length d σ') : CallI prog w hb (k + 1) (.ref a) ds σ d σ' := fun A α s vs hA S r => by
  obtain ⟨_, h1, d₁, σ₁, rfl, hf, hs, hc⟩ := h s.heap.objs.size
  refine kp_call B X hbind hlen hnd hkind hcs hco hgen hk h1 hA S r fun v s' α' x rv => ?_
  obtain ⟨β, rfl, hβ⟩ := x.pre
  subst hs
  have st : St hb α (σ₁.take σ.length) s'.heap := by
    have := st_drop x.st (by rw [S.len]; exact hc)
    rwa [S.len] at this
  exact ⟨⟨x.same, ⟨[], by simp, fun _ h => nomatch h⟩, x.keep, x.alive, st⟩, frz_rv x.st (by rw [S.len]; exact hf) rv⟩
end
end Mine
open PySem PySem.W PyProof.Rows PySem.Calls PySem.Spec
namespace Mine
section
variable {prog : Program} {w : World} {hb : Heap} {mg mb : Str → Option Value} {k n₀ : Nat} {env : Env} {ρ ρ' ρ₁ ρ₂ : List (Str × D)} {σ σ₁ σ₂ σ' : List C}
variable {a b : Int} {x y : Str} {p q : List UInt8}
theorem BinV.add : BinV prog w hb k (binaryOp .Add) (.int a) (.int b) σ (.int (a + b)) := fun A α s v u hA S r₁ r₂ => by
  obtain ⟨t, rfl⟩ := rv_int r₁; obtain ⟨t', rfl⟩ := rv_int r₂
  exact add_int ⟨keeps_tok, .int _ _⟩
theorem BinV.sub : BinV prog w hb k (binaryOp .Sub) (.int a) (.int b) σ (.int (a - b)) := fun A α s v u hA S r₁ r₂ => by
  obtain ⟨t, rfl⟩ := rv_int r₁; obtain ⟨t', rfl⟩ := rv_int r₂
  exact sub_int ⟨keeps_tok, .int _ _⟩
theorem BinV.isub : BinV prog w hb k (inplaceOp .Sub) (.int a) (.int b) σ (.int (a - b)) := fun A α s v u hA S r₁ r₂ => by
  obtain ⟨t, rfl⟩ := rv_int r₁; obtain ⟨t', rfl⟩ := rv_int r₂
  exact isub_int ⟨keeps_tok, .int _ _⟩
theorem BinV.mul (h : IntMulOk a b) : BinV prog w hb k (binaryOp .Mult) (.int a) (.int b) σ (.int (a * b)) := fun A α s v u hA S r₁ r₂ => by
  obtain ⟨t, rfl⟩ := rv_int r₁; obtain ⟨t', rfl⟩ := rv_int r₂
  exact mul_int ⟨keeps_tok, .int _ _⟩ h
theorem BinV.mod (h : b ≠ 0) : BinV prog w hb k (binaryOp .Mod) (.int a) (.int b) σ (.int (a.fmod b)) := fun A α s v u hA S r₁ r₂ => by
  obtain ⟨t, rfl⟩ := rv_int r₁; obtain ⟨t', rfl⟩ := rv_int r₂
  exact mod_int' h ⟨keeps_tok, .int _ _⟩
theorem BinV.fdiv (h : b ≠ 0) (hp : Builtin.divisionGoesByPylong a b = false) : BinV prog w hb k (binaryOp .FloorDiv) (.int a) (.int b) σ (.int (a.fdiv b)) := fun A α s v u hA S r₁ r₂ => by
  obtain ⟨t, rfl⟩ := rv_int r₁; obtain ⟨t', rfl⟩ := rv_int r₂
  exact floordiv_int h ⟨keeps_tok, .int _ _⟩ (.inl hp)
theorem BinV.shl (h0 : 0 ≤ b) (h1 : b ≤ 1000000) (h2 : a.natAbs < 2 ^ 64) : BinV prog w hb k (binaryOp .LShift) (.int a) (.int b) σ (.int (a * 2 ^ b.toNat)) := fun A α s v u hA S r₁ r₂ => by
  obtain ⟨t, rfl⟩ := rv_int r₁; obtain ⟨t', rfl⟩ := rv_int r₂
  exact lshift_int_small h0 h1 h2 ⟨keeps_tok, .int _ _⟩
theorem BinV.shr (h0 : 0 ≤ b) : BinV prog w hb k (binaryOp .RShift) (.int a) (.int b) σ (.int (a.fdiv (2 ^ b.toNat))) := fun A α s v u hA S r₁ r₂ => by
  obtain ⟨t, rfl⟩ := rv_int r₁; obtain ⟨t', rfl⟩ := rv_int r₂
  exact rshift_int h0 ⟨keeps_tok, .int _ _⟩
theorem BinV.or : BinV prog w hb k (binaryOp .BitOr) (.int a) (.int b) σ (.int (Builtin.bitOr a b)) := fun A α s v u hA S r₁ r₂ => by
  obtain ⟨t, rfl⟩ := rv_int r₁; obtain ⟨t', rfl⟩ := rv_int r₂
  exact or_int ⟨keeps_tok, .int _ _⟩
theorem BinV.lt : BinV prog w hb k (compareOp .Lt) (.int a) (.int b) σ (.bool (decide (a < b))) := fun A α s v u hA S r₁ r₂ => by
  obtain ⟨t, rfl⟩ := rv_int r₁; obtain ⟨t', rfl⟩ := rv_int r₂
  exact lt_int ⟨keeps_refl, .bool _⟩
theorem BinV.le : BinV prog w hb k (compareOp .LtE) (.int a) (.int b) σ (.bool (decide (a ≤ b))) := fun A α s v u hA S r₁ r₂ => by
  obtain ⟨t, rfl⟩ := rv_int r₁; obtain ⟨t', rfl⟩ := rv_int r₂
  exact le_int ⟨keeps_refl, .bool _⟩
theorem BinV.gt : BinV prog w hb k (compareOp .Gt) (.int a) (.int b) σ (.bool (decide (b < a))) := fun A α s v u hA S r₁ r₂ => by
  obtain ⟨t, rfl⟩ := rv_int r₁; obtain ⟨t', rfl⟩ := rv_int r₂
  exact gt_int ⟨keeps_refl, .bool _⟩
theorem BinV.ge : BinV prog w hb k (compareOp .GtE) (.int a) (.int b) σ (.bool (decide (b ≤ a))) := fun A α s v u hA S r₁ r₂ => by
  obtain ⟨t, rfl⟩ := rv_int r₁; obtain ⟨t', rfl⟩ := rv_int r₂
  exact ge_int ⟨keeps_refl, .bool _⟩
theorem BinV.eqi : BinV prog w hb k (compareOp .Eq) (.int a) (.int b) σ (.bool (a == b)) := fun A α s v u hA S r₁ r₂ => by
  obtain ⟨t, rfl⟩ := rv_int r₁; obtain ⟨t', rfl⟩ := rv_int r₂
  exact eq_int ⟨keeps_refl, .bool _⟩
theorem BinV.nei : BinV prog w hb k (compareOp .NotEq) (.int a) (.int b) σ (.bool (a != b)) := fun A α s v u hA S r₁ r₂ => by
  obtain ⟨t, rfl⟩ := rv_int r₁; obtain ⟨t', rfl⟩ := rv_int r₂
  exact ne_int ⟨keeps_refl, .bool _⟩
theorem BinV.eqs : BinV prog w hb k (compareOp .Eq) (.str x) (.str y) σ (.bool (x == y)) := fun A α s v u hA S r₁ r₂ => by
  obtain ⟨t, rfl⟩ := rv_str r₁; obtain ⟨t', rfl⟩ := rv_str r₂
  exact eq_str ⟨keeps_refl, .bool _⟩
theorem BinV.nes : BinV prog w hb k (compareOp .NotEq) (.str x) (.str y) σ (.bool (x != y)) := fun A α s v u hA S r₁ r₂ => by
  obtain ⟨t, rfl⟩ := rv_str r₁; obtain ⟨t', rfl⟩ := rv_str r₂
  exact ne_str ⟨keeps_refl, .bool _⟩
theorem BinV.eqb : BinV prog w hb k (compareOp .Eq) (.bytes p) (.bytes q) σ (.bool (p == q)) := fun A α s v u hA S r₁ r₂ => by
  obtain ⟨t, rfl⟩ := rv_bytes r₁; obtain ⟨t', rfl⟩ := rv_bytes r₂
  exact eq_bytes ⟨keeps_refl, by simpa using Rv.bool _⟩
theorem BinV.addb (hsz : p.length + q.length ≤ 16777216) : BinV prog w hb k (binaryOp .Add) (.bytes p) (.bytes q) σ (.bytes (p ++ q)) := fun A α s v u hA S r₁ r₂ => by
  obtain ⟨t, rfl⟩ := rv_bytes r₁; obtain ⟨t', rfl⟩ := rv_bytes r₂
  refine KBy.add_bytes (by simpa using hsz) fun t' k' => ⟨keeps_tok, ?_⟩
  have : p.toArray ++ q.toArray = (p ++ q).toArray := by simp
  rw [this]; exact .bytes _ _
/-- x is None -/
def D.isNone : D → Bool
  | .none => true
  | _ => false
theorem BinV.isn {d : D} : BinV prog w hb k (compareOp .Is) d .none σ (.bool d.isNone) := fun A α s v u hA S r₁ r₂ => by
  rw [rv_none r₂]
  cases r₁ with
  | none => exact is_none_none ⟨keeps_refl, .bool _⟩
  | bool b => exact is_bool_none ⟨keeps_refl, .bool _⟩
  | int i t => exact is_int_none ⟨keeps_refl, .bool _⟩
  | str x t => exact is_str_none ⟨keeps_refl, .bool _⟩
  | bytes x t => exact is_bytes_none ⟨keeps_refl, .bool _⟩
  | tuple _ _ _ => exact is_ref_none ⟨keeps_refl, .bool _⟩
  | list _ _ _ => exact is_ref_none ⟨keeps_refl, .bool _⟩
  | ref _ => exact is_ref_none ⟨keeps_refl, .bool _⟩
theorem BinV.isnn {d : D} : BinV prog w hb k (compareOp .IsNot) d .none σ (.bool !d.isNone) := fun A α s v u hA S r₁ r₂ => by
  rw [rv_none r₂]
  cases r₁ with
  | none => exact isnot_none_none ⟨keeps_refl, .bool _⟩
  | bool b => exact isnot_bool_none ⟨keeps_refl, .bool _⟩
  | int i t => exact isnot_int_none ⟨keeps_refl, .bool _⟩
  | str x t => exact isnot_str_none ⟨keeps_refl, .bool _⟩
  | bytes x t => exact isnot_bytes_none ⟨keeps_refl, .bool _⟩
  | tuple _ _ _ => exact isnot_ref_none ⟨keeps_refl, .bool _⟩
  | list _ _ _ => exact isnot_ref_none ⟨keeps_refl, .bool _⟩
  | ref _ => exact isnot_ref_none ⟨keeps_refl, .bool _⟩
theorem rv_strs {h : Heap} {α : List Addr} {vs : List Value} {ys : List Str} : RvAll h α vs (ys.map D.str) → StrsAre vs ys := by
  intro r
  induction ys generalizing vs with
  | nil => cases r; exact .nil
  | cons y ys ih =>
    cases r with
    | cons r rs => obtain ⟨t, rfl⟩ := rv_str r; exact .cons _ _ (ih rs)
theorem rv_ints {h : Heap} {α : List Addr} {vs : List Value} {ns : List Int} : RvAll h α vs (ns.map D.int) → IntsAre vs ns := by
  intro r
  induction ns generalizing vs with
  | nil => cases r; exact .nil
  | cons y ys ih =>
    cases r with
    | cons r rs => obtain ⟨t, rfl⟩ := rv_int r; exact .cons _ _ (ih rs)
theorem BinV.instr {ys : List Str} : BinV prog w hb k (compareOp .In) (.str x) (.tuple (ys.map D.str)) σ (.bool (ys.any fun z => z == x)) := fun A α s v u hA S r₁ r₂ => by
  obtain ⟨t, rfl⟩ := rv_str r₁
  cases r₂ with
  | tuple ht _ rs => exact in_tuple_strs ht (by simpa using rv_strs rs) ⟨keeps_refl, .bool _⟩
theorem BinV.ninstr {ys : List Str} : BinV prog w hb k (compareOp .NotIn) (.str x) (.tuple (ys.map D.str)) σ (.bool (!ys.any fun z => z == x)) := fun A α s v u hA S r₁ r₂ => by
  obtain ⟨t, rfl⟩ := rv_str r₁
  cases r₂ with
  | tuple ht _ rs => exact notin_tuple_strs ht (by simpa using rv_strs rs) ⟨keeps_refl, .bool _⟩
theorem BinV.ninint {ys : List Int} : BinV prog w hb k (compareOp .NotIn) (.int a) (.tuple (ys.map D.int)) σ (.bool (!ys.any fun z => z == a)) := fun A α s v u hA S r₁ r₂ => by
  obtain ⟨t, rfl⟩ := rv_int r₁
  cases r₂ with
  | tuple ht _ rs => exact notin_tuple_ints ht (by simpa using rv_ints rs) ⟨keeps_refl, .bool _⟩
/-- a list's item, a tuple's item -/
theorem BinV.itemt {value slice : Expr} {ds : List D} {d : D} {j : Nat} (hlo : -2 ^ 63 ≤ a) (hhi : a < 2 ^ 63) (hj : seqIndex? a ds.length = some j) (hd : ds[j]? = some d)
    (hs : ∀ t i u, subscripted slice false (.ref t) (.int i u) = operate [.ref t, .int i u] (getItem (.ref t) (.int i u)) := by intros; with_unfolding_all rfl) : BinV prog w hb k (subscriptTail value slice) (.tuple ds) (.int a) σ d := fun A α s v u hA S r₁ r₂ => by
  obtain ⟨t, rfl⟩ := rv_int r₂
  cases r₁ with
  | tuple ht _ rs =>
    obtain ⟨x, hx, rx⟩ := rs.get hd
    exact item_tupleT ht hlo hhi (by rw [rs.length]; exact hj) hx ⟨keeps_refl, rx⟩ (hs _ _ _)
theorem BinV.iteml {value slice : Expr} {ds : List D} {d : D} (h0 : 0 ≤ a) (hhi : a < 2 ^ 63) (hd : ds[a.toNat]? = some d)
    (hs : ∀ t i u, subscripted slice false (.ref t) (.int i u) = operate [.ref t, .int i u] (getItem (.ref t) (.int i u)) := by intros; with_unfolding_all rfl) : BinV prog w hb k (subscriptTail value slice) (.list ds) (.int a) σ d := fun A α s v u hA S r₁ r₂ => by
  obtain ⟨t, rfl⟩ := rv_int r₂
  cases r₁ with
  | list hl _ rs =>
    obtain ⟨x, hx, rx⟩ := rs.get hd
    exact tail_any hl.typeIs slot_list_getitem.lookup (wpAny_getItem_list hl h0 hhi (by simpa using hx) ⟨keeps_refl, rx⟩) (hs _ _ _)
theorem BinV.itemr {value slice : Expr} {m : Nat} {ds : List D} {d : D} (hm : σ[m]? = some (.list ds)) (h0 : 0 ≤ a) (hhi : a < 2 ^ 63) (hd : ds[a.toNat]? = some d)
    (hs : ∀ t i u, subscripted slice false (.ref t) (.int i u) = operate [.ref t, .int i u] (getItem (.ref t) (.int i u)) := by intros; with_unfolding_all rfl) : BinV prog w hb k (subscriptTail value slice) (.ref m) (.int a) σ d := fun A α s v u hA S r₁ r₂ => by
  obtain ⟨t, rfl⟩ := rv_int r₂
  cases r₁ with
  | ref e =>
    obtain ⟨vs, hp, rs⟩ := S.cells _ _ _ e hm
    have hl := hp.isList
    obtain ⟨x, hx, rx⟩ := rs.get hd
    exact tail_any hl.typeIs slot_list_getitem.lookup (wpAny_getItem_list hl h0 hhi (by simpa using hx) ⟨keeps_refl, rx⟩) (hs _ _ _)
theorem CallV.lenb (hsz : p.length ≤ 1099511627776) : CallV prog w hb k (.builtin "len") [.bytes p] σ (.int p.length) := fun A α s vs hA S r => by
  cases r with
  | cons r rs =>
    cases rs
    obtain ⟨t, rfl⟩ := rv_bytes r
    exact len_bytes (by simpa using hsz) ⟨keeps_tok, by simpa using Rv.int _ _⟩
theorem CallV.lenl {ds : List D} (hsz : (ds.length : Int) < 2 ^ 63) : CallV prog w hb k (.builtin "len") [.list ds] σ (.int ds.length) := fun A α s vs hA S r => by
  cases r with
  | cons r rs =>
    cases rs
    cases r with
    | list hl _ rs => exact len_list hl (by rw [List.size_toArray, rs.length]; exact hsz) ⟨keeps_tok, by rw [List.size_toArray, rs.length]; exact .int _ _⟩
theorem CallV.lent {ds : List D} (hsz : (ds.length : Int) < 2 ^ 63) : CallV prog w hb k (.builtin "len") [.tuple ds] σ (.int ds.length) := fun A α s vs hA S r => by
  cases r with
  | cons r rs =>
    cases rs
    cases r with
    | tuple hl _ rs => exact len_tuple hl (by rw [List.size_toArray, rs.length]; exact hsz) ⟨keeps_tok, by rw [List.size_toArray, rs.length]; exact .int _ _⟩
theorem CallV.pabs : CallV prog w hb k (.builtin "abs") [.int a] σ (.int (if a < 0 then -a else a)) := fun A α s vs hA S r => by
  cases r with
  | cons r rs =>
    cases rs
    obtain ⟨t, rfl⟩ := rv_int r
    exact call_abs_int fun u tk => ⟨keeps_tok, .int _ _⟩
theorem CallV.intb {c : Bool} : CallV prog w hb k (.type "int") [.bool c] σ (.int (if c = true then 1 else 0)) := fun A α s vs hA S r => by
  cases r with
  | cons r rs =>
    cases rs
    rw [rv_bool r]
    exact call_int_bool ⟨keeps_tok, .int _ _⟩
theorem CallV.bytesl {ns : List Int} (hr : ∀ n ∈ ns, 0 ≤ n ∧ n < 256) (hz : ns.length ≤ 16777216) : CallV prog w hb k (.type "bytes") [.list (ns.map D.int)] σ (.bytes (ns.map fun n => n.toNat.toUInt8)) := fun A α s vs hA S r => by
  cases r with
  | cons r rs =>
    cases rs
    cases r with
    | @list l us _ hl _ rs =>
      have hi := rv_ints rs
      exact call_bytes_ints hl hi hr (by rw [hi.length, sizeLine_eq]; exact hz) hA.1 fun h' t k hk => ⟨Kp.mk' hk, .bytes _ t⟩
end
end Mine
open PySem PySem.W PyProof.Rows PySem.Calls PySem.Spec
namespace Mine
section
variable {prog : Program} {w : World} {hb : Heap} {mg mb : Str → Option Value} {k n₀ : Nat} {env : Env} {ρ ρ' ρ₁ ρ₂ : List (Str × D)} {σ σ₁ σ₂ σ' : List C}
variable {a b : Int} {x y : Str} {p q : List UInt8}
theorem EvT.neg {e : Expr} {pos : Pos} (h : EvT prog w hb k n₀ env ρ e σ (.int a) σ₁) : EvT prog w hb k n₀ env ρ (.UnaryOp .USub e pos) σ (.int (-a)) σ₁ := fun A α s hA S L => by
  refine UnaryOpR (wpR_mono (h A α s hA S L) (fun v s₁ q => ?_) fun _ _ f => f)
  obtain ⟨α₁, x, r⟩ := q
  obtain ⟨t, rfl⟩ := rv_int r
  exact .of (PyProof.Rows.neg_int ⟨α₁, x.trans (keeps_tok.step x.st), .int _ _⟩)
theorem EvT.bytes {b : List UInt8} {j : Nat} {pos : Pos} : EvT prog w hb k n₀ env ρ (.Constant (.bytes b) j pos) σ (.bytes b) σ := fun A α s _ S _ =>
  .of (Constant_bytes (tv_now (A := A) S keeps_tok (.bytes _ _)))
theorem BinV.addl {ds es : List D} (hsz : ds.length + es.length ≤ sizeLine) : BinV prog w hb k (binaryOp .Add) (.list ds) (.list es) σ (.list (ds ++ es)) := fun A α s v u hA S r₁ r₂ => by
  cases r₁ with
  | @list l vs _ hl hn rs =>
    cases r₂ with
    | @list l2 us _ hl2 hn2 rs2 =>
      obtain ⟨⟨cls, dd, data, sl⟩, ho, hc, n, hd⟩ := id hl
      obtain ⟨⟨cls2, dd2, data2, sl2⟩, ho2, hc2, n2, hd2⟩ := id hl2
      simp only at hc hd hc2 hd2
      subst hc hd hc2 hd2
      have e : vs.toArray ++ us.toArray = (vs ++ us).toArray := by simp
      refine concat_meets ⟨_, ho, rfl⟩ ⟨_, ho2, rfl⟩ noFill_list_add seq_list_add PySem.F.slot_list_add PySem.F.entry_list_add (PySem.F.args_list_add_2 _ _) (list_addW l l2 vs.toArray us.toArray n n2 dd dd2 sl sl2 (by simpa [rs.length, rs2.length] using hsz)) ⟨ho, ho2, ?_⟩
      rw [e]
      exact ⟨keeps_push, rv_push_list S (rs.append rs2)⟩
theorem CallV.listl {ds : List D} (hsz : ds.length ≤ sizeLine) : CallV prog w hb k (.type "list") [.list ds] σ (.list ds) := fun A α s vs hA S r => by
  cases r with
  | cons r rs =>
    cases rs
    cases r with
    | @list l us _ hl hn rs =>
      obtain ⟨o, ho, hc, n, hd⟩ := id hl
      refine call_list_seq l (.inl rfl) ho hc hd (fun h' c' hk hnew => ⟨Kp.mk' hk, .list ⟨_, hnew, rfl, _, rfl⟩ (push_none S) ?_⟩) (by rw [List.size_toArray, rs.length]; exact hsz)
      exact rs.lift (fun b o _ _ e _ hn => ⟨hk b o e, hn⟩) fun _ _ e => e
theorem CallV.listt {ds : List D} (hsz : ds.length ≤ sizeLine) : CallV prog w hb k (.type "list") [.tuple ds] σ (.list ds) := fun A α s vs hA S r => by
  cases r with
  | cons r rs =>
    cases rs
    cases r with
    | @tuple l us _ hl hn rs =>
      obtain ⟨o, ho, hc, n, hd⟩ := id hl
      refine call_list_seq l (.inr rfl) ho hc hd (fun h' c' hk hnew => ⟨Kp.mk' hk, .list ⟨_, hnew, rfl, _, rfl⟩ (push_none S) ?_⟩) (by rw [List.size_toArray, rs.length]; exact hsz)
      exact rs.lift (fun b o _ _ e _ hn => ⟨hk b o e, hn⟩) fun _ _ e => e
theorem CallV.pmin : CallV prog w hb k (.builtin "min") [.int a, .int b] σ (.int (if b < a then b else a)) := fun A α s vs hA S r => by
  cases r with
  | cons r rs => cases rs with
    | cons r2 rs =>
      cases rs
      obtain ⟨t, rfl⟩ := rv_int r; obtain ⟨t', rfl⟩ := rv_int r2
      refine min_two_ints hA.1 fun h' tk hk => ⟨Kp.mk' hk, ?_⟩
      split <;> exact .int _ _
theorem CallV.pmax : CallV prog w hb k (.builtin "max") [.int a, .int b] σ (.int (if b > a then b else a)) := fun A α s vs hA S r => by
  cases r with
  | cons r rs => cases rs with
    | cons r2 rs =>
      cases rs
      obtain ⟨t, rfl⟩ := rv_int r; obtain ⟨t', rfl⟩ := rv_int r2
      refine max_two_ints hA.1 fun h' tk hk => ⟨Kp.mk' hk, ?_⟩
      split <;> exact .int _ _
theorem preSum_take (ns : List Int) : ∀ j, j ≤ ns.length → preSum (fun i => ns.getD i 0) j = (ns.take j).sum
  | 0, _ => rfl
  | j + 1, h => by
    show preSum (fun i => ns.getD i 0) j + ns.getD j 0 = _
    rw [preSum_take ns j (by omega), List.take_add_one, List.sum_append, List.getElem?_eq_getElem (by omega), List.getD_eq_getElem?_getD, List.getElem?_eq_getElem (by omega)]
    simp
theorem preSum_list (ns : List Int) : preSum (fun i => ns.getD i 0) ns.length = ns.sum := by
  rw [preSum_take ns _ (Nat.le_refl _), List.take_length]
theorem CallV.psum {ns : List Int} : CallV prog w hb k (.builtin "sum") [.list (ns.map D.int)] σ (.int ns.sum) := fun A α s vs hA S r => by
  cases r with
  | cons r rs =>
    cases rs
    cases r with
    | @list l us _ hl hn rs =>
      have hi := rv_ints rs
      have hz : us.toArray.size = ns.length := by rw [List.size_toArray, hi.length]
      have hsz : l ≠ s.heap.objs.size := by obtain ⟨o, ho, _⟩ := hl; exact Nat.ne_of_lt (Heap.lt_size ho)
      refine call_sum_walkG (wpAny_pyIter_list hl ⟨s.heap.objs.size, [s.heap.objs.size, l], [s.heap.objs.size], ns.length, _, _, fun i => ns.getD i 0, rfl, hz ▸ Walks.list (A := A.in1) hA.1 s.heap.objs.size l hsz us.toArray,
        ⟨⟨_, Heap.get?_push_size _ rfl, rfl, rfl⟩, hl.push _⟩, fun b hb' => ?_, fun i v hv => ?_, fun h' tk t' hk => ⟨Kp.mk' fun b o e => hk b o (fun hm => ?_) (Heap.get?_push_of_some _ e), ?_⟩⟩)
      · show b < (s.heap.push _).objs.size
        rw [Heap.size_push]
        rcases List.mem_cons.mp hb' with q | q
        · rw [q]; exact Nat.lt_succ_self _
        · rw [List.mem_singleton.mp q]; obtain ⟨o, ho, _⟩ := hl; exact Nat.lt_succ_of_lt (Heap.lt_size ho)
      · obtain ⟨d, hd, r⟩ := rs.get' (k := i) (v := v) (by simpa using hv)
        rw [List.getElem?_map] at hd
        obtain ⟨n, hn, rfl⟩ := Option.map_eq_some_iff.mp hd
        obtain ⟨t, rfl⟩ := rv_int r
        exact ⟨t, by simp [List.getD_eq_getElem?_getD, hn]⟩
      · rw [List.mem_singleton.mp hm, get_size] at e; cases e
      · rw [preSum_list]; exact .int _ _
/-- a part of a slice -/
def PartT (prog : Program) (w : World) (hb : Heap) (k n₀ : Nat) (env : Env) (ρ : List (Str × D)) (e : Option Expr) (σ : List C) (i : Option Int) (σ' : List C) : Prop :=
  ∀ A α s, AOk A k → St hb α σ s.heap → Loc hb s.heap α env ρ → wpR (model prog w) A (evalPart e env) (fun v s' => ∃ α', Step hb n₀ [] s α s' α' σ' ∧ IsPart v i) (fun _ _ => False) s
theorem PartT.none : PartT prog w hb k n₀ env ρ Option.none σ Option.none σ := fun A α s hA S L => wpR_pure ⟨α, Step.refl S, .none⟩
theorem PartT.some {e : Expr} (h : EvT prog w hb k n₀ env ρ e σ (.int a) σ₁) : PartT prog w hb k n₀ env ρ (Option.some e) σ (Option.some a) σ₁ := fun A α s hA S L =>
  wpR_mono (h A α s hA S L) (fun v s₁ q => by
    obtain ⟨α₁, x, r⟩ := q
    obtain ⟨t, rfl⟩ := rv_int r
    exact ⟨α₁, x, .int _ _⟩) fun _ _ f => f
/-- what a slice gives -/
def cutOf {β : Type} (l : List β) (lo hi : Option Int) : List β := (l.drop (lo.elim 0 (clipAt l.length))).take (hi.elim l.length (clipAt l.length) - lo.elim 0 (clipAt l.length))
theorem cutOf_upto {β : Type} (l : List β) {n : Int} (h : 0 ≤ n) : cutOf l Option.none (Option.some n) = l.take n.toNat := by
  unfold cutOf
  simp only [Option.elim, List.drop_zero, Nat.sub_zero, clipAt]
  rw [if_neg (by omega)]
  have : (Max.max 0 (Min.min n (l.length : Int))).toNat = Min.min n.toNat l.length := by omega
  rw [this]
  rw [← List.take_take, List.take_of_length_le (l := l) (Nat.le_refl _)]
theorem cutOf_from {β : Type} (l : List β) {n : Int} (h : 0 ≤ n) : cutOf l (Option.some n) Option.none = l.drop n.toNat := by
  unfold cutOf
  simp only [Option.elim, clipAt]
  rw [if_neg (by omega)]
  have : (Max.max 0 (Min.min n (l.length : Int))).toNat = Min.min n.toNat l.length := by omega
  rw [this]
  by_cases hl : n.toNat ≤ l.length
  · rw [Nat.min_eq_left hl]; exact List.take_of_length_le (by simp)
  · rw [Nat.min_eq_right (by omega)]; simp; omega
theorem RvAll.cut {h : Heap} {α : List Addr} {vs : List Value} {ds : List D} (r : RvAll h α vs ds) (lo hi : Option Int) : RvAll h α (cutOf vs lo hi) (cutOf ds lo hi) := by
  unfold cutOf; rw [r.length]; exact (r.drop _).take _
/-- the slice of a value -/
def CutV (prog : Program) (w : World) (hb : Heap) (k : Nat) (T : String) (d : D) (lo hi : Option Int) (σ : List C) (d' : D) : Prop :=
  ∀ A α s v vl vu, AOk A k → St hb α σ s.heap → Rv s.heap α v d → IsPart vl lo → IsPart vu hi →
    ({ s with heap := s.heap.push { cls := .type "slice", data := .fields #[vl, vu, .none] } } : Shared).TypeIs v T ∧
    wpAny (model prog w) A (getItem v (.ref s.heap.objs.size)) (fun v' s' => Kp s s' ∧ Rv s'.heap α v' d') (fun _ _ => False) { s with heap := s.heap.push { cls := .type "slice", data := .fields #[vl, vu, .none] } }
theorem EvT.slice {value : Expr} {lower upper : Option Expr} {sp pos : Pos} {T id : String} {d d' : D} {lo hi : Option Int} {σ₃ : List C} (h : EvT prog w hb k n₀ env ρ value σ d σ₁) (hl : PartT prog w hb k n₀ env ρ lower σ₁ lo σ₂) (hu : PartT prog w hb k n₀ env ρ upper σ₂ hi σ₃)
    (hc : CutV prog w hb k T d lo hi σ₃ d') (ht : typeLookup (.type T) "__getitem__" = pure (Option.some (.builtin id))) (hg : ∀ o r, letTemporaryGo value o r = pure () := by intro _ _; rfl) :
    EvT prog w hb k n₀ env ρ (.Subscript value (.Slice lower upper Option.none sp) pos) σ d' σ₃ := fun A α s hA S L => by
  refine SubscriptSliceR ht (wpR_mono (h A α s hA S L) (fun v s₁ q => ?_) fun _ _ f => f) hg
  obtain ⟨α₁, x₁, r⟩ := q
  have L₁ := L.step x₁
  refine SliceR (wpR_mono (hl A α₁ s₁ hA x₁.st L₁) (fun vl s₂ q => ?_) fun _ _ f => f)
  obtain ⟨α₂, x₂, pl⟩ := q
  have L₂ := L₁.step x₂
  refine wpR_mono (hu A α₂ s₂ hA x₂.st L₂) (fun vu s₃ q => ?_) fun _ _ f => f
  obtain ⟨α₃, x₃, pu⟩ := q
  rw [evalPart_none]
  refine wpR_pure ?_
  obtain ⟨hT, hw⟩ := hc A α₃ s₃ v vl vu hA x₃.st ((x₂.trans x₃).rv0 r) pl pu
  refine ⟨hT, wpR_mono (.of hw) (fun v' s₄ q => ?_) fun _ _ f => f⟩
  exact ⟨α₃, ((x₁.trans x₂).trans x₃).trans (q.1.step x₃.st), q.2⟩
theorem CutV.list {ds : List D} {lo hi : Option Int} (hsz : ds.length ≤ sizeLine) : CutV prog w hb k "list" (.list ds) lo hi σ (.list (cutOf ds lo hi)) := fun A α s v vl vu hA S r pl pu => by
  cases r with
  | @list l vs _ hl hn rs =>
    have K1 : Kp s { s with heap := s.heap.push { cls := .type "slice", data := .fields #[vl, vu, .none] } } := keeps_push
    have hl' : ({ s with heap := s.heap.push { cls := .type "slice", data := .fields #[vl, vu, .none] } } : Shared).heap.IsList l vs.toArray := hl.push _
    refine ⟨hl'.typeIs, wpAny_getItem_list_slice hl' (Heap.IsSliceOf.new ..) pl pu .none (by simp) ⟨K1.trans keeps_push, ?_⟩ (by rw [List.size_toArray, rs.length]; exact hsz)⟩
    have e : slicePick vs.toArray lo hi Option.none = (cutOf vs lo hi).toArray := by rw [slicePick_plain]; rfl
    rw [e]
    exact rv_push_list (K1.st S) ((K1.rvAll rs).cut lo hi)
theorem CutV.bytes {b : List UInt8} {lo hi : Option Int} (hsz : b.length ≤ 16777216) : CutV prog w hb k "bytes" (.bytes b) lo hi σ (.bytes (cutOf b lo hi)) := fun A α s v vl vu hA S r pl pu => by
  obtain ⟨t, rfl⟩ := rv_bytes r
  refine ⟨typeIs_bytes _ _ _, ?_⟩
  have K1 : Kp s { s with heap := s.heap.push { cls := .type "slice", data := .fields #[vl, vu, .none] } } := keeps_push
  refine getItem_meets (typeIs_bytes _ _ _) (by decide) FB.slot_bytes_getitem FB.entry_bytes_getitem (FB.args_bytes_getitem_2 _ _) (KBc.meets_slice2 b.toArray t _ pl pu)
    ⟨Heap.IsSliceOf.new _ _ _ _, Nat.le_trans (KBc.size_picked_le b.toArray lo hi) (by rw [List.size_toArray, sizeLine_eq]; exact hsz), fun t' k => ⟨K1.trans keeps_tok, ?_⟩⟩
  have e : KBy.picked b.toArray lo hi = (cutOf b lo hi).toArray := by
    have := KBc.picked_eq b.toArray lo hi
    simpa [cutOf] using this
  rw [e]
  exact .bytes _ _
end
end Mine
open PySem PySem.W PyProof.Rows PySem.Calls PySem.Spec
namespace Mine
section
variable {prog : Program} {w : World} {hb : Heap} {mg mb : Str → Option Value} {k n₀ : Nat} {env : Env} {ρ ρ' ρ₁ ρ₂ : List (Str × D)} {σ σ₁ σ₂ σ' : List C}
variable {a b : Int} {x y : Str} {p q : List UInt8}
theorem nodup_inj {β : Type} {l : List β} (h : l.Nodup) {i j : Nat} (hi : i < l.length) (hj : j < l.length) (e : l[i] = l[j]) : i = j := by
  rcases Nat.lt_trichotomy i j with q | q | q
  · exact absurd e (List.pairwise_iff_getElem.mp h i j hi hj q)
  · exact q
  · exact absurd e.symm (List.pairwise_iff_getElem.mp h j i hj hi q)
/-- one mutable object is given another content -/
theorem step_cell {s : Shared} {α : List Addr} {m : Nat} {l : Addr} {c : C} {h' : Heap} {t : Nat} (S : St hb α σ s.heap) (hl : α[m]? = some l) (hs : Heap.SameBut l s.heap h') (hc : (∀ {vs : List Value} {ds : List D}, RvAll s.heap α vs ds → RvAll h' α vs ds) → Cell h' α l c) (hm : n₀ ≤ m) :
    Step hb n₀ [] s α { s with heap := h', toks := t } α (σ.set m c) := by
  have hla : l ∈ α := List.mem_of_getElem? hl
  have lf : ∀ {vs : List Value} {ds : List D}, RvAll s.heap α vs ds → RvAll h' α vs ds := fun r => r.lift (fun b o _ _ e _ hn => ⟨(hs.2 b fun q => hn (q ▸ hla)).trans e, hn⟩) fun _ _ e => e
  have hmem : l ∈ α.drop n₀ := by
    refine List.mem_of_getElem? (i := m - n₀) ?_
    rw [List.getElem?_drop]
    have : n₀ + (m - n₀) = m := by omega
    rw [this]; exact hl
  refine ⟨⟨_, _, rfl⟩, ⟨[], by simp, fun _ h => nomatch h⟩, fun b o e hd _ => (hs.2 b fun q => hd (q ▸ hmem)).trans e, (fun _ h => nomatch h), ?_⟩
  refine ⟨fun b o e => (hs.2 b fun q => by rw [q, S.fresh l hla] at e; cases e).trans (S.keep b o e), S.fresh, S.nodup, by simp [S.len], fun n a' c' e1 e2 => ?_⟩
  by_cases hn : n = m
  · subst hn
    rw [hl] at e1; cases e1
    have hlt : n < σ.length := S.len ▸ (List.getElem?_eq_some_iff.mp hl).1
    rw [List.getElem?_set_self hlt] at e2; cases e2
    exact hc lf
  · rw [List.getElem?_set_ne (Ne.symm hn)] at e2
    have x := S.cells n a' c' e1 e2
    have hne : a' ≠ l := fun q => hn (by
      have h1 := (List.getElem?_eq_some_iff.mp e1)
      have h2 := (List.getElem?_eq_some_iff.mp hl)
      obtain ⟨i1, g1⟩ := h1; obtain ⟨i2, g2⟩ := h2
      exact nodup_inj S.nodup i1 i2 (g1.trans (q.trans g2.symm)))
    cases c' with
    | list ds => obtain ⟨vs, ⟨j, ho⟩, r⟩ := x; exact ⟨vs, ⟨j, (hs.2 _ hne).trans ho⟩, lf r⟩
    | barr b => obtain ⟨o, ho, r⟩ := x; exact ⟨o, (hs.2 _ hne).trans ho, r⟩
theorem wp_setItem_plain {A : Around} {E : Value → Shared → Prop} {s : Shared} {l : Addr} {items : Array Value} {i : Int} {t : Tok} {v : Value} {Q : Unit → Shared → Prop} (hp : s.heap.PlainList l items) (h0 : 0 ≤ i) (hfit : i < 2 ^ 63) (hn : i < items.size)
    (hQ : ∀ h', h'.PlainList l (items.setIfInBounds i.toNat v) → Heap.SameBut l s.heap h' → Q () { s with heap := h' }) : wpAny (model prog w) A (setItem (.ref l) (.int i t) v) Q E s := by
  obtain ⟨n, ho⟩ := hp
  have hT : s.TypeIs (.ref l) "list" := ⟨_, ho, rfl⟩
  have hl : s.heap.IsList l items := ⟨_, ho, rfl, n, rfl⟩
  unfold setItem
  refine wpAny_holding ?_
  refine wpAny_bind (wpAny_sequenceKey hT (by decide) ?_)
  refine wpAny_bind (wpAny_callSpecial?_slot (name := Str.ofString "__setitem__") hT slot_list_setitem (wpAny_call_entry slot_list_setitem hT entry_list_setitem ?_ (args_list_setitem _ _ _)))
  show wpAny _ _ (Builtin.List.listSubscript? (.int i t) >>= _) _ _ s
  refine wpAny_bind (wpAny_listSubscript_int (fitsIndex_of h0 hfit) ?_)
  clear hfit
  obtain ⟨j, rfl⟩ := Int.eq_ofNat_of_zero_le h0
  have hj : j < items.size := by omega
  show wpAny _ _ ((seqItemAt l j >>= fun r => pure (r.map (j, ·))) >>= _) _ _ s
  refine wpAny_bind (wpAny_bind (wpAny_seqItemAt ho rfl (wpAny_pure ?_)))
  rw [Array.getElem?_eq_getElem hj]
  show wpAny _ _ (setSeqItemAt l j v >>= _) _ _ s
  have hm : Obj.mapSeq (·.setIfInBounds j v) ({ cls := .type "list", data := .seq items n } : Obj) = { cls := .type "list", data := .seq (items.setIfInBounds j v) n } := by
    simp [Obj.mapSeq]
  refine wpAny_bind (wpAny_setSeqItemAt ho rfl ?_)
  refine wpAny_pure ⟨.none, rfl, wpAny_pure (hQ _ ⟨n, ?_⟩ (Heap.SameBut.update ..))⟩
  rw [Heap.get?_update_self _ ho (by rw [hm]; rfl), hm]
  rfl
theorem SetV.list {m : Nat} {ds : List D} {d : D} (hm : σ[m]? = some (.list ds)) (h0 : 0 ≤ a) (hfit : a < 2 ^ 63) (hn : a < ds.length) : SetV prog w hb k (.ref m) (.int a) d σ (σ.set m (.list (ds.set a.toNat d))) := fun A α s v₀ v₁ v₂ hA S r₀ r₁ r₂ => by
  obtain ⟨t, rfl⟩ := rv_int r₁
  cases r₀ with
  | ref e =>
    obtain ⟨vs, hp, rs⟩ := S.cells _ _ _ e hm
    refine wp_setItem_plain hp h0 hfit (by rw [List.size_toArray, rs.length]; exact hn) fun h' hp' hs n₀ hn₀ => ?_
    refine step_cell S e hs (fun lf => ?_) (hn₀ m rfl)
    rw [List.setIfInBounds_toArray] at hp'
    exact ⟨vs.set a.toNat v₂, hp', by
      have := lf (rs.set a.toNat r₂)
      exact this⟩
theorem push_toArray (vs : List Value) (v : Value) : vs.toArray.push v = (vs ++ [v]).toArray := by simp
/-- the form of a call of a method -/
abbrev MethForm (env : Env) (o : Expr) (name : Str) (apos pos : Pos) (args : List Expr) (pl : Sem Bool) : Prop :=
  eval (.Call (.Attribute o name apos) args [] pos) env = (do
    let ov ← eval o env
    standAt apos.atName
    let (f, first) ← holding [ov] (getMethod ov name pl)
    callWith pos f first (backTo pos (starEach args env)) [])
theorem Ex1.append {z : Str} {m : Nat} {e : Expr} {ds : List D} {d : D} {pz pa pc pos : Pos} {pl : Sem Bool} (h₀ : (z, .ref m) ∈ ρ) (h : EvT prog w hb k n₀ env ρ e σ d σ₁) (hm : σ₁[m]? = some (.list ds)) (hm₀ : ∃ es, σ[m]? = some (.list es)) (hsz : ds.length ≤ sizeLine) (hn : n₀ ≤ m)
    (hd : (z == ("__debug__" : Str)) = false := by decide +kernel) (he : starEach [e] env = (false, eval e env) :: starEach [] env := by rfl) (hi : interactive env = false := by rfl)
    (hcall : MethForm env (.Name z pz) "append" pa pc [e] pl := by rfl) :
    Ex1 prog w hb k n₀ env ρ σ (.Expr (.Call (.Attribute (.Name z pz) "append" pa) [e] [] pc) pos) (.next ρ (σ₁.set m (.list (ds ++ [d])))) := fun A α s hA S L => by
  refine ExprR ?_ hi rfl
  refine MethodCallR (pl := pl) ?_ hcall
  refine wpR_mono (EvT.name (n₀ := n₀) (k := k) h₀ hd A α s hA S L) (fun v s₁ q => ?_) fun _ _ f => f
  obtain ⟨α₁, x₁, r⟩ := q
  cases r with
  | @ref l _ e₁ =>
    obtain ⟨es, hes⟩ := hm₀
    obtain ⟨vs, ⟨j, ho⟩, _⟩ := x₁.st.cells _ _ _ e₁ hes
    refine .of (getMethod_list_append ho rfl rfl ?_)
    refine callWithR_builtin (wpR_mono (EvsT.cons h EvsT.nil he A α₁ s₁ pc hA x₁.st (L.step x₁)) (fun us s₂ q => ?_) fun _ _ f => f) he rfl
    obtain ⟨α₂, x₂, r⟩ := q
    cases r with
    | @cons v _ _ _ r rs =>
      cases rs
      have e₂ := x₂.ext _ _ e₁
      obtain ⟨vs, hp, rs⟩ := x₂.st.cells _ _ _ e₂ hm
      have x₁₂ := x₁.trans x₂
      refine .of (wpAny_list_append_plain hp (fun h' hp' hs => ?_) (by rw [List.size_toArray, rs.length]; exact hsz))
      rw [push_toArray] at hp'
      have x₃ := step_cell (n₀ := n₀) (c := .list (ds ++ [d])) (t := s₂.toks) x₂.st e₂ hs (fun lf => ⟨vs ++ [v], hp', lf (rs.append (.one r))⟩) hn
      exact ⟨α₂, up (x₁₂.trans x₃), L.step (x₁₂.trans x₃)⟩
/-- a method of an immediate value -/
theorem EvT.meth {o e : Expr} {es : List Expr} {name : Str} {T id : String} {pa pos : Pos} {pl : Sem Bool} {d d' : D} {ds : List D} (h₀ : EvT prog w hb k n₀ env ρ o σ d σ₁) (hT : ∀ (s : Shared) α v, Rv s.heap α v d → s.TypeIs v T ∧ ∀ a, v ≠ .ref a)
    (at' : PlainAttrs T) (slot : Slot T name id) (hty : typeOf (.builtin id) = pure (.type "method_descriptor")) (h : EvsT prog w hb k n₀ env ρ (e :: es) σ₁ ds σ₂) (hc : CallV prog w hb k (.builtin id) (d :: ds) σ₂ d')
    (he : starEach (e :: es) env = (false, eval e env) :: starEach es env := by rfl) (hp : ((backTo pos (starEach es env)).any fun x => x.1) = false := by rfl)
    (hcall : MethForm env o name pa pos (e :: es) pl := by rfl) : EvT prog w hb k n₀ env ρ (.Call (.Attribute o name pa) (e :: es) [] pos) σ d' σ₂ := fun A α s hA S L => by
  refine MethodCallR (pl := pl) (wpR_mono (h₀ A α s hA S L) (fun v s₁ q => ?_) fun _ _ f => f) hcall
  obtain ⟨α₁, x₁, r⟩ := q
  obtain ⟨ht, hr⟩ := hT _ _ _ r
  refine .of (getMethod_builtin ht at' slot hty (fun a e => absurd e (hr a)) ?_)
  refine callWithR_builtin (wpR_mono (h A α₁ s₁ pos hA x₁.st (L.step x₁)) (fun us s₂ q => ?_) fun _ _ f => f) he hp
  obtain ⟨α₂, x₂, rs⟩ := q
  have x₁₂ := x₁.trans x₂
  refine wpR_mono (.of (hc A α₂ s₂ (v :: us) hA x₂.st (.cons (x₂.rv0 r) rs))) (fun v' s₃ q => ?_) fun _ _ f => f
  exact ⟨α₂, x₁₂.trans (q.1.step x₂.st), q.2⟩
end
end Mine
open PySem PySem.W PyProof.Rows PySem.Calls PySem.Spec
set_option maxRecDepth 100000
namespace Mine
section
variable {prog : Program} {w : World} {hb : Heap} {mg mb : Str → Option Value} {k n₀ : Nat} {env : Env} {ρ ρ' ρ₁ ρ₂ : List (Str × D)} {σ σ₁ σ₂ σ' : List C}
variable {a b : Int} {x y : Str} {p q : List UInt8}
theorem CallV.startswith : CallV prog w hb k (.builtin "bytes.startswith") [.bytes p, .bytes q] σ (.bool (p.take q.length == q)) := fun A α s vs hA S r => by
  cases r with
  | cons r rs => cases rs with
    | cons r2 rs =>
      cases rs
      obtain ⟨t, rfl⟩ := rv_bytes r; obtain ⟨t', rfl⟩ := rv_bytes r2
      refine wpAny_call_entry FB.slot_bytes_startswith (typeIs_bytes _ _ _) FB.entry_bytes_startswith ?_ (FB.args_bytes_startswith_2 _ _)
      unfold Builtin.«bytes.startswith» Builtin.Bytes.tailMatchM
      refine wpAny_bind (wpAny_of_eq (a := (Value.bytes p.toArray t, [Value.bytes q.toArray t'])) (by kernel_rfl) ?_)
      refine wpAny_bind (m := Builtin.Bytes.bound? none) (wpAny_pure ?_)
      refine wpAny_bind (m := Builtin.Bytes.bound? none) (wpAny_pure ?_)
      refine wpAny_bind (m := Builtin.Bytes.payload (.bytes p.toArray t)) (wpAny_of_eq (a := p.toArray) rfl ?_)
      refine wpAny_bind (m := isInstance (Value.bytes q.toArray t') (.type "tuple")) (wpAny_isInstance (T := "bytes") (b := false) (typeIs_bytes _ _ _) (by rw [isSubtype_type]; kernel_rfl) ?_)
      show wpAny (model prog w) A.in1 (Builtin.Bytes.buffer? _ (Value.bytes q.toArray t') >>= _) _ _ s
      refine wpAny_bind (wpAny_of_eq KBy.buffer_eq ?_)
      refine wpAny_pure ⟨_, rfl, keeps_refl, ?_⟩
      have e : (if (min (p.toArray.size : Int) (if ((p.toArray.size : Int)) < 0 then max 0 ((p.toArray.size : Int) + p.toArray.size) else p.toArray.size)) - 0 < (q.toArray.size : Int) then false
        else p.toArray.extract (0 : Int).toNat ((0 : Int).toNat + q.toArray.size) == q.toArray) = (p.take q.length == q) := by
        rw [if_neg (show ¬ ((p.toArray.size : Int)) < 0 by omega)]
        simp only [List.size_toArray, Int.min_self, Int.sub_zero, Int.toNat_zero, Nat.zero_add, List.extract_toArray]
        by_cases hlt : (p.length : Int) < (q.length : Int)
        · rw [if_pos hlt]
          symm
          rw [beq_eq_false_iff_ne]
          intro h
          have := congrArg List.length h
          simp at this; omega
        · rw [if_neg hlt]
          rw [Bool.eq_iff_iff, beq_iff_eq, beq_iff_eq]
          simp [List.extract_eq_drop_take]
      rw [← e]
      exact .bool _
end
end Mine
open PySem PySem.W PyProof.Rows PySem.Calls PySem.Spec
set_option maxRecDepth 100000
namespace Mine
theorem slot_join : Slot "bytes" "join" "bytes.join" :=
  .of (owner := "bytes") (n := "join") (by rw [typeLookup_type, builtinLookup_eq_fast]; kernel_rfl) (by decide +kernel) (by decide +kernel) (by decide +kernel)
    (by first | exact .inl (by decide +kernel) | exact .inr (by decide +kernel)) (by rw [isSubtype_type]; kernel_rfl)
theorem entry_join : entryFor table "bytes.join" = some Builtin.«bytes.join» := entryFor_of_tree (by kernel_rfl)
theorem args_join (a b : Value) : argsOk "bytes.join" ⟨[a, b], []⟩ := by unfold argsOk; kernel_rfl
theorem type_join : typeOf (.builtin "bytes.join") = pure (.type "method_descriptor") := by show builtinType _ = _; rw [builtinType_eq_fast]; kernel_rfl
theorem buffer_full {b : Array UInt8} {t : Tok} {id : String} {full : Bool} : Builtin.Bytes.buffer? id (.bytes b t) full = pure (some b) := by
  unfold Builtin.Bytes.buffer?
  rw [KBy.special_eq KBy.look_buffer, KBy.own_buffer, KBy.own_release]
  kernel_rfl
theorem quiet_take {b : Array UInt8} {t : Tok} {id : String} : Builtin.Bytes.takeBufferQuiet? id (.bytes b t) 0 = pure (some (b, none)) := by
  have h : Builtin.Bytes.takeBuffer? id (.bytes b t) 0 = pure (some (b, none)) := by
    unfold Builtin.Bytes.takeBuffer?
    rw [KBy.special_eq KBy.look_buffer, KBy.own_buffer, buffer_full]
    kernel_rfl
  unfold Builtin.Bytes.takeBufferQuiet?
  rw [h]
  kernel_rfl
section
variable {prog : Program} {w : World} {hb : Heap} {k : Nat} {σ : List C}
theorem wp_joinLetGo {M : Model} {A : Around} {E : Value → Shared → Prop} {Q : Unit → Shared → Prop} {keep : List Value} {s : Shared} : ∀ {l : List (Value × Option Value)}, (∀ x ∈ l, x.2 = none) → Q () s → wpAny M A (Builtin.Bytes.joinLetGo l keep) Q E s
  | [], _, h => wpAny_pure h
  | (x, w) :: r, hl, h => by
    obtain rfl : w = none := hl (x, w) List.mem_cons_self
    unfold Builtin.Bytes.joinLetGo
    refine wpAny_bind ?_
    refine wpAny_letGo ?_
    exact wp_joinLetGo (fun y hy => hl y (List.mem_cons_of_mem _ hy)) h
theorem joined_nil (ps : List (Array UInt8)) : Builtin.Bytes.joined #[] ps = ps.foldl (· ++ ·) #[] := by
  unfold Builtin.Bytes.joined
  have : ∀ (l : List (Array UInt8)) (n : Nat) (acc : Array UInt8), (l.zipIdx n).foldl (fun out (x : Array UInt8 × Nat) => (if x.2 > 0 then out ++ #[] else out) ++ x.1) acc = l.foldl (· ++ ·) acc := by
    intro l
    induction l with
    | nil => intro n acc; rfl
    | cons x l ih =>
      intro n acc
      rw [List.zipIdx_cons, List.foldl_cons, List.foldl_cons, ih]
      congr 1
      split <;> simp
  exact this ps 0 #[]
theorem foldl_app (ps : List (List UInt8)) : (ps.map List.toArray).foldl (· ++ ·) #[] = ps.flatten.toArray := by
  have : ∀ (l : List (List UInt8)) (acc : List UInt8), (l.map List.toArray).foldl (· ++ ·) acc.toArray = (acc ++ l.flatten).toArray := by
    intro l
    induction l with
    | nil => intro acc; simp
    | cons x l ih =>
      intro acc
      rw [List.map_cons, List.foldl_cons]
      have : acc.toArray ++ x.toArray = (acc ++ x).toArray := by simp
      rw [this, ih]; simp
  simpa using this ps []
theorem range_forIn {β : Type} {n : Nat} {b : β} {f : Nat → β → Sem (ForInStep β)} : forIn [:n] b f = forIn (List.range' 0 n) b f := by
  rw [Std.Legacy.Range.forIn_eq_forIn_range']
  simp [Std.Legacy.Range.size]
theorem rv_bytesAll {h : Heap} {α : List Addr} {vs : List Value} {ps : List (List UInt8)} : RvAll h α vs (ps.map D.bytes) → ∀ {i : Nat} {p : List UInt8}, ps[i]? = some p → ∃ t, vs[i]? = some (.bytes p.toArray t) := by
  intro r i p hp
  obtain ⟨v, hv, rv⟩ := r.get (k := i) (d := .bytes p) (by rw [List.getElem?_map, hp]; rfl)
  obtain ⟨t, rfl⟩ := rv_bytes rv
  exact ⟨t, hv⟩
theorem CallV.join {ps : List (List UInt8)} (hsz : ps.flatten.length ≤ 16777216) : CallV prog w hb k (.builtin "bytes.join") [.bytes [], .list (ps.map D.bytes)] σ (.bytes ps.flatten) := fun A α s vs hA S r => by
  cases r with
  | cons r rs => cases rs with
    | cons r2 rs =>
      cases rs
      obtain ⟨t, rfl⟩ := rv_bytes r
      cases r2 with
      | @list l us _ hl hn rs =>
        obtain ⟨o, ho, hc, n, hd⟩ := id hl
        have hT : s.TypeIs (.ref l) "list" := ⟨o, ho, hc⟩
        refine wpAny_call_entry slot_join (typeIs_bytes _ _ _) entry_join ?_ (args_join _ _)
        unfold Builtin.«bytes.join» Builtin.Bytes.joinM
        refine wpAny_bind (wpAny_of_eq (a := (Value.bytes [].toArray t, Value.ref l)) (by kernel_rfl) ?_)
        refine wpAny_bind (m := Builtin.Bytes.joinItems (.ref l)) (wpAny_bind (wpAny_typeOf hT (wpAny_pure ?_)))
        refine wpAny_bind (wpAny_seqItems ho hd ?_)
        have hlen : us.length = ps.length := by simpa using rs.length
        by_cases h1 : ps.length = 1
        · obtain ⟨p, rfl⟩ := List.length_eq_one_iff.mp h1
          obtain ⟨u, rfl⟩ := List.length_eq_one_iff.mp (hlen.trans h1)
          cases rs with
          | cons r rs =>
            cases rs
            obtain ⟨t', rfl⟩ := rv_bytes r
            show wpAny (model prog w) A.in1 (typeOf (.bytes p.toArray t') >>= _) _ _ s
            refine wpAny_bind (wpAny_typeOf (typeIs_bytes _ _ _) (wpAny_bind (wpAny_rule (wpAny_pure ⟨_, rfl, keeps_refl, ?_⟩))))
            show Rv s.heap α (.bytes p.toArray t') _
            simpa using Rv.bytes p t'
        · have go : ∀ (body : Array Value → Sem PySem.Fin), wpAny (model prog w) A.in1 (body us.toArray) (fun fin s' => ∃ v, fin = PySem.Fin.done (Flow.ret v) ∧ Kp s s' ∧ Rv s'.heap α v (D.bytes ps.flatten)) (fun _ _ => False) s →
              ∀ (one : Value → Sem PySem.Fin), wpAny (model prog w) A.in1 (match us.toArray with | #[x] => one x | _ => body us.toArray) (fun fin s' => ∃ v, fin = PySem.Fin.done (Flow.ret v) ∧ Kp s s' ∧ Rv s'.heap α v (D.bytes ps.flatten)) (fun _ _ => False) s := by
            intro body hb one
            match us, hlen, hb with
            | [], _, hb => exact hb
            | [u], hl, _ => exact absurd hl.symm h1
            | u :: v :: r, _, hb => exact hb
          refine go (fun items => _) ?_ _
          dsimp only
          refine wpAny_bind ?_
          rw [range_forIn]
          have hsz' : us.toArray.size = ps.length := by rw [List.size_toArray, hlen]
          rw [hsz']
          refine wpAny_mono (wpAny_forIn_list (M := model prog w) (A := A.in1) (E := fun _ _ => False) _
            (fun rest st s' => s' = s ∧ ∃ j, j ≤ ps.length ∧ rest = List.range' j (ps.length - j) ∧ st.1 = ((ps.take j).map List.toArray).toArray ∧ ∀ x ∈ st.2, x.2 = none ∧ x.1.onHeap = false)
            (fun st s' => s' = s ∧ st.1 = (ps.map List.toArray).toArray ∧ ∀ x ∈ st.2, x.2 = none) ?_ ?_ _ _ ⟨rfl, 0, Nat.zero_le _, rfl, rfl, fun _ h => nomatch h⟩) ?_ fun _ _ f => f
          · rintro i rest st s' ⟨rfl, j, hj, hr, hst, htk⟩
            have hjl : j < ps.length := by
              rcases Nat.lt_or_ge j ps.length with q | q
              · exact q
              · rw [Nat.sub_eq_zero_of_le q] at hr; cases hr
            have hr' : List.range' j (ps.length - j) = j :: List.range' (j + 1) (ps.length - (j + 1)) := by
              rw [show ps.length - j = (ps.length - (j + 1)) + 1 by omega]; rfl
            rw [hr'] at hr
            cases hr
            obtain ⟨tj, hv⟩ := rv_bytesAll rs (List.getElem?_eq_getElem hjl)
            have hget : us.toArray.getD i Value.none = .bytes (ps[i]).toArray tj := by
              rw [Array.getD_eq_getD_getElem?]; simp [hv]
            refine wpAny_bind (wpAny_seqItems ho hd ?_)
            dsimp only
            have hany : (st.2.any fun x => x.1.onHeap) = false := by
              rw [List.any_eq_false]; intro x hx; rw [(htk x hx).2]; exact Bool.false_ne_true
            rw [hany]
            refine bm_if_false rfl ?_
            rw [hget]
            refine wpAny_bind (wpAny_holding (wpAny_of_eq quiet_take ?_))
            dsimp only
            refine wpAny_bind (wpAny_seqItems ho hd ?_)
            dsimp only
            refine bm_if_false (by simp [hsz']) (wpAny_pure ?_)
            refine ⟨rfl, i + 1, hjl, rfl, ?_, fun x hx => ?_⟩
            · dsimp only
              rw [hst, List.take_add_one, List.getElem?_eq_getElem hjl, List.map_append]
              simp
            · rcases List.mem_append.mp hx with q | q
              · exact htk x q
              · rw [List.mem_singleton.mp q]; exact ⟨rfl, rfl⟩
          · rintro st s' ⟨rfl, j, hj, hr, hst, htk⟩
            have : j = ps.length := by
              rcases Nat.lt_or_ge j ps.length with q | q
              · rw [show ps.length - j = (ps.length - (j + 1)) + 1 by omega] at hr; cases hr
              · omega
            subst this
            exact ⟨rfl, by rw [hst, List.take_length], fun x hx => (htk x hx).1⟩
          · rintro ⟨parts, taken⟩ s' ⟨rfl, hp, htk⟩
            dsimp only at hp htk ⊢
            subst hp
            refine wpAny_bind (m := Builtin.Bytes.payload _) (wpAny_of_eq (a := #[]) rfl ?_)
            have hjn : Builtin.Bytes.joined #[] (ps.map List.toArray) = ps.flatten.toArray := by rw [joined_nil, foldl_app]
            refine bm_if_false ?_ ?_
            · refine KBy.tooLong_not ?_
              have e : ∀ (l : List (List UInt8)) (n : Nat), (l.map List.toArray).foldl (fun a (x : Array UInt8) => a + x.size) n = n + l.flatten.length := by
                intro l
                induction l with
                | nil => intro n; rfl
                | cons x l ih => intro n; rw [List.map_cons, List.foldl_cons, ih]; simp; omega
              have e0 : (#[] : Array UInt8).size * ((List.map List.toArray ps).toArray.size - 1) = 0 := by simp
              rw [e0, ← Array.foldl_toList, List.toList_toArray, e]
              simpa using hsz
            · rw [List.toList_toArray, hjn]
              refine wpAny_bind (m := mkBytes ps.flatten.toArray) (wpAny_mkBytes ?_ (by rw [List.size_toArray, sizeLine_eq]; exact hsz))
              refine wpAny_bind (wpAny_holding (wpAny_point (wpAny_bind (wp_joinLetGo htk ?_))))
              exact wpAny_pure ⟨_, rfl, keeps_tok, .bytes _ _⟩
end
end Mine
open PySem PySem.W PyProof.Rows PySem.Calls PySem.Spec
set_option maxRecDepth 100000
namespace Mine
theorem bmR_false {β : Type} {M : Model} {A : Around} {E : Value → Shared → Prop} {s : Shared} {c : Bool} {a b : Sem β} {Q : β → Shared → Prop} (hc : c = false) (h : wpR M A b Q E s) : wpR M A (if c = true then a else b) Q E s := by
  subst hc; exact h
theorem bmR_true {β : Type} {M : Model} {A : Around} {E : Value → Shared → Prop} {s : Shared} {c : Bool} {a b : Sem β} {Q : β → Shared → Prop} (hc : c = true) (h : wpR M A a Q E s) : wpR M A (if c = true then a else b) Q E s := by
  subst hc; exact h
section
variable {prog : Program} {w : World} {A : Around} {s : Shared}
theorem codeR_builtin {id : String} {args : Args} {b : Builtin} {R : Result → Shared → Prop} (hb : entryFor table id = some b)
    (h : wpR (model prog w) (A.under (.builtin id args)) (b args) (fun fin s' => match fin with | .done f => R (.ok f) s' | .again c' => c'.quiet = true ∧ cln c' = true ∧ codeR (model prog w) A c' R s') (fun e s' => R (.error e) s') s) : codeR (model prog w) A (.builtin id args) R s := by
  refine codeR_of_tree ?_
  show wpR _ _ (match entryFor table id with | some b => b args | none => unsupported ((withoutEnding? id "#data").getD id)) _ _ s
  rw [hb]; exact h
theorem callR_slot {id : String} {T : String} {n : Str} {b : Builtin} {self : Value} {rest : List Value} {Q : Value → Shared → Prop} (S : Slot T n id) (hT : s.TypeIs self T) (hb : entryFor table id = some b) (ha : argsOk id ⟨self :: rest, []⟩) (hc : ∀ args, cln (.builtin id args) = true)
    (h : wpR (model prog w) A.in1 (b ⟨self :: rest, []⟩) (fun fin s' => ∃ v, fin = .done (.ret v) ∧ Q v s') noE s) : wpR (model prog w) A (call (.builtin id) (self :: rest)) Q noE s := by
  refine wpR_call (codeR_of_tree ?_)
  show wpR _ A.in1 (do checkBuiltinCall id ⟨self :: rest, []⟩; again (.builtin id ⟨self :: rest, []⟩)) _ _ s
  refine wpR_bind (wpR.of (S.check _ _ _ _ _ _ _ _ hT ha ?_))
  refine wpR_pure ⟨plainId_quiet S.plain _, hc _, codeR_builtin hb ?_⟩
  rw [Around.under_plainId S.plain _]
  refine wpR_mono h (fun fin s' q => ?_) fun _ _ f => f.elim
  obtain ⟨v, rfl, hv⟩ := q
  exact hv
theorem callTypeR {T newId initId : String} {Bi : Builtin} {args : List Value} {Q Q₁ : Value → Shared → Prop} (ft : TypeCalled T newId initId) (hct : checkTypeCall T ⟨args, []⟩ = pure ()) (entryI : entryFor table initId = some Bi) (hcl : ∀ args, cln (.builtin initId args) = true)
    (hnew : codeAny (model prog w) A.in1 (.call (.builtin newId) ⟨.type T :: args, []⟩) (wants Q₁ noE) s)
    (hnext : ∀ obj s₁, Q₁ obj s₁ → s₁.TypeIs obj T ∧ argsOk initId ⟨obj :: args, []⟩ ∧ wpR (model prog w) A.in1.in1 (Bi ⟨obj :: args, []⟩) (fun fin s' => fin = .done (.ret .none) ∧ Q obj s') noE s₁) :
    wpR (model prog w) A (call (.type T) args) Q noE s := by
  obtain ⟨c, tl, hmro⟩ := ft.mro
  refine wpR_call (codeR_of_tree ?_)
  show wpR _ _ (callAny (.type T) _) _ _ _
  refine wpR_pure ⟨Code.quiet_builtin _ (by decide +kernel), by rfl, codeR_builtin F.entry_type_call ?_⟩
  rw [Around.under_plain (weight_type_call_type T args []) rfl]
  unfold Builtin.«type.__call__»
  dsimp only
  rw [ft.notType]
  refine bmR_false rfl ?_
  refine bmR_false ft.canCreate ?_
  refine wpR_bind (wpR_of_eq hct ?_)
  refine wpR_bind (wpR_of_eq hmro ?_)
  refine bmR_false rfl ?_
  refine wpR_bind (wpR_of_eq ft.made ?_)
  refine wpR_bind (wpR_pure ?_)
  refine wpR_bind (wpR_holding (wpR.of (wpAny_call (codeAny_mono hnew fun r s₁ hr => ?_))))
  cases r with
  | error e => exact hr
  | ok fl =>
    cases fl with
    | ret obj =>
      obtain ⟨hT, hok, hi⟩ := hnext _ _ hr
      refine wpR_bind (wpR.of (wpAny_isInstance hT ft.sub ?_))
      refine bmR_false rfl ?_
      refine wpR_bind (wpR_holding ?_)
      simp only [callSpecial?]
      refine wpR_bind (wpR.of (wpAny_specialOf hT ft.init.lookup ?_))
      simp only [ft.init.bind]
      refine wpR_holding (wpR_bind (wpR_pure (wpR_bind ?_)))
      refine wpR_mono (callR_slot (Q := fun v s' => v = .none ∧ Q obj s') ft.init hT entryI hok hcl (wpR_mono hi (fun fin s' q => ⟨_, q.1, rfl, q.2⟩) fun _ _ f => f)) (fun v s₂ q => ?_) fun _ _ f => f.elim
      obtain ⟨rfl, q⟩ := q
      refine wpR_pure ?_
      dsimp only
      refine bmR_false rfl ?_
      exact wpR_pure q
    | _ => exact hr.elim
end
section facts
theorem ba_mro : mroOf (.type "bytearray") = pure [.type "bytearray", .type "object"] := by rw [mroOf_type]; kernel_rfl
theorem ba_lookup_new : typeLookup (.type "bytearray") "__new__" = pure (some (.builtin "bytearray.__new__")) := by rw [typeLookup_type, builtinLookup_eq_fast]; kernel_rfl
theorem slot_ba_init : Slot "bytearray" "__init__" "bytearray.__init__" :=
  .of (owner := "bytearray") (n := "__init__") (by rw [typeLookup_type, builtinLookup_eq_fast]; kernel_rfl) (by decide +kernel) (by decide +kernel) (by decide +kernel)
    (by first | exact .inl (by decide +kernel) | exact .inr (by decide +kernel)) (by rw [isSubtype_type]; kernel_rfl)
theorem ba_called : TypeCalled "bytearray" "bytearray.__new__" "bytearray.__init__" :=
  ⟨by decide +kernel, by decide +kernel, ⟨_, _, ba_mro⟩, madeBy_type ba_mro ba_lookup_new (by decide +kernel), by decide +kernel, by rw [isSubtype_type]; kernel_rfl, slot_ba_init⟩
theorem ba_typeCall (a : Value) : checkTypeCall "bytearray" ⟨[a], []⟩ = pure () := by kernel_rfl
theorem ba_newCall (a : Value) : checkBuiltinCall "bytearray.__new__" ⟨[.type "bytearray", a], []⟩ = pure () := by kernel_rfl
theorem ba_entry_new : entryFor table "bytearray.__new__" = some Builtin.«list.__new__» :=
  entryFor_alias (id' := "list.__new__") (by rw [fastTable_eq_tree]; kernel_rfl) (by first | rfl | decide +kernel) (by decide +kernel) (by rw [fastTable_eq_tree]; kernel_rfl)
theorem ba_plain_new : plainId "bytearray.__new__" = true := by decide +kernel
theorem ba_entry_init : entryFor table "bytearray.__init__" = some Builtin.«bytearray.__init__» := entryFor_of_tree (by kernel_rfl)
theorem ba_args_init (a b : Value) : argsOk "bytearray.__init__" ⟨[a, b], []⟩ := by unfold argsOk; kernel_rfl
theorem ba_sub : isSubtype (.type "bytearray") (.type "bytearray") = pure true := by rw [isSubtype_type]; kernel_rfl
theorem ba_release : typeLookup (.type "bytearray") "__release_buffer__" = pure (some (.builtin "bytearray.__release_buffer__")) := by rw [typeLookup_type, builtinLookup_eq_fast]; kernel_rfl
theorem ba_buffer : typeLookup (.type "bytearray") "__buffer__" = pure (some (.builtin "bytearray.__buffer__")) := by rw [typeLookup_type, builtinLookup_eq_fast]; kernel_rfl
theorem int_index : typeLookup (.type "int") "__index__" = pure (some (.builtin "int.__index__")) := by rw [typeLookup_type, builtinLookup_eq_fast]; kernel_rfl
theorem ba_bind (v : Value) : Builtin.Bytes.bindOptional "bytearray.__init__" "bytearray" ["source", "encoding", "errors"] [v] [] = pure [some v, none, none] := by kernel_rfl
theorem ba_owner : ("bytearray.__new__".splitOn ".__new__").headD "" = "bytearray" := by rw [split_bytearray]; rfl
end facts
section
variable {prog : Program} {w : World} {A : Around} {s : Shared}
theorem code_ba_new (a : Value) {Q₁ : Value → Shared → Prop}
    (h : Q₁ (.ref s.heap.objs.size) { s with heap := s.heap.push { cls := .type "bytearray", data := .bytearray #[] } }) :
    codeAny (model prog w) A (.call (.builtin "bytearray.__new__") ⟨[.type "bytearray", a], []⟩) (wants Q₁ noE) s := by
  refine codeAny_of_tree ?_
  show wpAny _ A.in1 (do checkBuiltinCall "bytearray.__new__" ⟨[.type "bytearray", a], []⟩; again (.builtin "bytearray.__new__" ⟨[.type "bytearray", a], []⟩)) _ _ s
  refine wpAny_bind (wpAny_of_eq (ba_newCall a) (wpAny_pure ⟨plainId_quiet ba_plain_new _, codeAny_builtin_stack ba_entry_new rfl fun p st => ?_⟩))
  rw [Around.under_plainId ba_plain_new _]
  have hsub := ba_sub
  have hown := ba_owner
  obtain ⟨hp, g, d, tk, os⟩ := s
  simp only [hown]
  wp_walk
  exact h
theorem not_exported {obj : Value} {Q : Bool → Shared → Prop} (hQ : Q false s) : wpR (model prog w) A (Builtin.Bytes.exported obj) Q noE s := fun Γ p hΓ hc => by
  unfold Builtin.Bytes.exported
  show Q (((Γ.code, p) :: Γ.below).any _) s
  have key : ∀ x ∈ (Γ.code, p) :: Γ.below, cln x.1 = true := fun x hx => (List.mem_cons.mp hx).elim (fun e => by rw [e]; exact hc.here) (hc.below x)
  generalize (Γ.code, p) :: Γ.below = st at key
  rw [show st.any _ = false from ?_]
  · exact hQ
  · rw [List.any_eq_false]
    intro x hx
    have hcl := key x hx
    split
    · exact absurd (show (!(Builtin.Bytes.decodersThatHold.contains "bytearray.__contains__" || ["bytearray.__contains__", "bytearray.__mod__", "bytearray.__rmod__", "_struct.pack_into.held", "bytearray.find.held"].contains "bytearray.__contains__")) = true from hcl) (by decide +kernel)
    · exact absurd (show (!(Builtin.Bytes.decodersThatHold.contains "bytearray.__mod__" || ["bytearray.__contains__", "bytearray.__mod__", "bytearray.__rmod__", "_struct.pack_into.held", "bytearray.find.held"].contains "bytearray.__mod__")) = true from hcl) (by decide +kernel)
    · exact absurd (show (!(Builtin.Bytes.decodersThatHold.contains "bytearray.__rmod__" || ["bytearray.__contains__", "bytearray.__mod__", "bytearray.__rmod__", "_struct.pack_into.held", "bytearray.find.held"].contains "bytearray.__rmod__")) = true from hcl) (by decide +kernel)
    · exact absurd (show (!(Builtin.Bytes.decodersThatHold.contains "_struct.pack_into.held" || ["bytearray.__contains__", "bytearray.__mod__", "bytearray.__rmod__", "_struct.pack_into.held", "bytearray.find.held"].contains "_struct.pack_into.held")) = true from hcl) (by decide +kernel)
    · exact absurd (show (!(Builtin.Bytes.decodersThatHold.contains "bytearray.find.held" || ["bytearray.__contains__", "bytearray.__mod__", "bytearray.__rmod__", "_struct.pack_into.held", "bytearray.find.held"].contains "bytearray.find.held")) = true from hcl) (by decide +kernel)
    · have : (!(Builtin.Bytes.decodersThatHold.contains _ || _)) = true := hcl
      simp only [Bool.not_eq_true', Bool.or_eq_false_iff] at this
      rw [this.1, Bool.and_false]; exact Bool.false_ne_true
    · exact Bool.false_ne_true
theorem own_release_ba {a : Addr} {Q : Bool → Shared → Prop} {M : Model} {E : Value → Shared → Prop} (hT : s.TypeIs (.ref a) "bytearray") (hQ : Q false s) : wpAny M A (Builtin.Bytes.ownRelease (.ref a)) Q E s := by
  unfold Builtin.Bytes.ownRelease Builtin.Bytes.slotIsOwn
  refine wpAny_bind (wpAny_bind (wpAny_specialOf hT ba_release ?_))
  dsimp only
  refine bm_if_false (by decide +kernel) ?_
  have key : ∀ x : String, x = "bytearray" → wpAny M A (isInstance (.ref a) (.type x)) (fun b s' => wpAny M A (pure !b) Q E s') E s := fun x hx => by
    rw [hx]; exact wpAny_isInstance hT ba_sub (wpAny_pure hQ)
  exact key _ (by decide +kernel)
theorem wp_write {a : Addr} {b : Array UInt8} {o : Obj} {f : Array UInt8 → Array UInt8} {Q : Unit → Shared → Prop} {M : Model} {E : Value → Shared → Prop} (ho : s.heap.get? a = some o) (hd : o.data = .bytearray b 0) (hsz : (f b).size ≤ sizeLine)
    (hQ : ∀ h', h'.get? a = some { o with data := .bytearray (f b) 0 } → Heap.SameBut a s.heap h' → Q () { s with heap := h' }) : wpAny M A (Builtin.Bytes.write (.ref a) f) Q E s := by
  obtain ⟨c, d, dt, sl⟩ := o
  dsimp only at hd
  subst hd
  unfold Builtin.Bytes.write updateBytearray
  refine wpAny_bind (wpAny_load ho ?_)
  dsimp only
  have hg := Heap.get?_update_self (Obj.mapBytearray f) ho rfl
  refine wpAny_bind (wpAny_update ho ?_)
  refine wpAny_lookBehind hg ?_ (hQ _ hg (Heap.SameBut.update ..))
  show (if (f b).size > sizeLine then some "bytearray:memory" else none) = none
  rw [if_neg (Nat.not_lt.mpr hsz)]
theorem asStr_int (i : Int) (t : Tok) : asStr? (.int i t) = pure none := by unfold asStr?; rfl
theorem asIndex_int (i : Int) (t : Tok) : asIndex (.int i t) = pure i := by unfold asIndex; rfl
theorem special_index (i : Int) (t : Tok) : specialOf (.int i t) "__index__" = pure (some (.builtin "int.__index__")) := by
  have e : specialOf (.int i t) "__index__" = typeLookup (.type "int") "__index__" := rfl
  rw [e, int_index]
theorem attempt_pure {β : Type} (a : β) : (pure a : Sem β).attempt = pure (.ok a) := rfl
/-- bytearray.__init__ of a count -/
theorem ba_init {a : Addr} {n : Nat} {t : Tok} {Q : Shared → Prop} {o : Obj} (ho : s.heap.get? a = some o) (hc : o.cls = .type "bytearray") (hd : o.data = .bytearray #[] 0) (hn : n ≤ 16777216)
    (hQ : ∀ h', h'.get? a = some { o with data := .bytearray (List.replicate n 0).toArray 0 } → Heap.SameBut a s.heap h' → Q { s with heap := h' }) :
    wpR (model prog w) A (Builtin.«bytearray.__init__» ⟨[.ref a, .int n t], []⟩) (fun fin s' => fin = .done (.ret .none) ∧ Q s') noE s := by
  have hT : s.TypeIs (.ref a) "bytearray" := ⟨o, ho, hc⟩
  unfold Builtin.«bytearray.__init__»
  dsimp only
  refine wpR_bind (wpR.of (own_release_ba hT ?_))
  refine bmR_false rfl ?_
  refine wpR_bind (wpR_of_eq (ba_bind _) ?_)
  dsimp only
  refine wpR_bind (wpR_of_eq (a := ()) rfl ?_)
  refine wpR_bind (wpR_of_eq (a := ()) rfl ?_)
  refine wpR_bind ?_
  refine wpR_bind (m := Builtin.Bytes.exported _) (not_exported ?_)
  show wpR _ _ (Builtin.Bytes.exportsOf (.ref a) >>= _) _ _ _
  refine wpR_bind ?_
  unfold Builtin.Bytes.exportsOf
  refine wpR_bind (wpR.of (wpAny_load ho ?_))
  rw [hd]
  refine wpR_pure (wpR_pure ?_)
  refine bmR_false rfl ?_
  refine wpR_bind (wpR.of (wp_write ho hd (Nat.zero_le _) fun h₁ ho₁ hs₁ => ?_))
  rw [asStr_int, pure_bind, Option.isSome_none, if_neg Bool.false_ne_true, Option.isSome_none, if_neg Bool.false_ne_true, if_neg Bool.false_ne_true]
  have hfit : Builtin.Bytes.fitsIndex (n : Int) = true := by unfold Builtin.Bytes.fitsIndex; simp only [Bool.and_eq_true, decide_eq_true_eq]; omega
  have hneg : ¬ (n : Int) < 0 := by omega
  have hbig : ((n : Int) == 2 ^ 63 - 1) = false := by rw [beq_eq_false_iff_ne]; omega
  have hlong : Builtin.Bytes.tooLong n = false := KBy.tooLong_not hn
  rw [pure_bind, special_index, pure_bind, Option.isSome_some, if_pos rfl, asIndex_int, attempt_pure, pure_bind]
  dsimp only
  rw [hfit, Bool.not_true, if_neg Bool.false_ne_true, if_neg hneg, hbig, if_neg Bool.false_ne_true, Int.toNat_natCast, hlong, if_neg Bool.false_ne_true]
  refine wpR.of (wpAny_bind (wpAny_rule ?_))
  have hT₁ : s.heap.get? a ≠ none := by rw [ho]; exact fun h => nomatch h
  by_cases h0 : (n : Int) > 0
  · rw [if_pos h0]
    refine wpAny_bind (wp_write ho₁ rfl (by rw [Array.size_replicate, sizeLine_eq]; exact hn) fun h₂ ho₂ hs₂ => ?_)
    refine wpAny_pure ⟨rfl, hQ h₂ ?_ (hs₁.trans hs₂)⟩
    rw [ho₂]; simp
  · rw [if_neg h0]
    refine wpAny_pure ⟨rfl, hQ h₁ ?_ hs₁⟩
    have : n = 0 := by omega
    subst this
    exact ho₁
end
end Mine
open PySem PySem.W PyProof.Rows PySem.Calls PySem.Spec
set_option maxRecDepth 100000
namespace Mine
theorem slot_ba_setitem : Slot "bytearray" "__setitem__" "bytearray.__setitem__" :=
  .of (owner := "bytearray") (n := "__setitem__") (by rw [typeLookup_type, builtinLookup_eq_fast]; kernel_rfl) (by decide +kernel) (by decide +kernel) (by decide +kernel)
    (by first | exact .inl (by decide +kernel) | exact .inr (by decide +kernel)) (by rw [isSubtype_type]; kernel_rfl)
theorem entry_ba_setitem : entryFor table "bytearray.__setitem__" = some Builtin.«bytearray.__setitem__» := entryFor_of_tree (by kernel_rfl)
theorem args_ba_setitem (a b c : Value) : argsOk "bytearray.__setitem__" ⟨[a, b, c], []⟩ := by unfold argsOk; kernel_rfl
theorem ba_no_bytes : typeLookup (.type "bytearray") "__bytes__" = pure none := by rw [typeLookup_type, builtinLookup_eq_fast]; kernel_rfl
theorem ba_no_index : typeLookup (.type "bytearray") "__index__" = pure none := by rw [typeLookup_type, builtinLookup_eq_fast]; kernel_rfl
section
variable {prog : Program} {w : World} {hb : Heap} {mg mb : Str → Option Value} {k n₀ : Nat} {env : Env} {ρ ρ' ρ₁ ρ₂ : List (Str × D)} {σ σ₁ σ₂ σ' : List C}
/-- bytearray(n) -/
theorem EvT.barr {p pos : Pos} {e : Expr} {n : Nat} (B : Base hb mg mb) (hg : mg "bytearray" = Option.none) (h : EvT prog w hb k n₀ env ρ e σ (.int n) σ₁) (hn : n ≤ 16777216) (hm : n₀ ≤ σ₁.length)
    (hx : env.kindOf "bytearray" = some .globalImplicit := by rfl) (he : starEach [e] env = (false, eval e env) :: starEach [] env := by rfl) (hp : ((backTo pos (starEach [] env)).any fun x => x.1) = false := by rfl)
    (hcall : eval (.Call (.Name "bytearray" p) [e] [] pos) env = (do callWith pos (← eval (.Name "bytearray" p) env) [] (backTo pos (starEach [e] env)) (backToKw pos (keywordEach [] env))) := by rfl) :
    EvT prog w hb k n₀ env ρ (.Call (.Name "bytearray" p) [e] [] pos) σ (.ref σ₁.length) (σ₁ ++ [.barr (List.replicate n 0)]) := fun A α s hA S L => by
  refine CallR (.of (Name_function_global L.kind hx (loadGlobal_builtin (by rw [L.glob]; exact B.g.keeps S.keep) hg (by rw [L.bui]; exact B.b.keeps S.keep) ((B.builtins _ (by decide +kernel)).trans (by decide +kernel : bootBuiltins "bytearray" = some (.type "bytearray"))) ?_) (by decide +kernel))) hcall
  refine callWithR_type (wpR_mono (EvsT.cons h EvsT.nil he A α s pos hA S L) (fun us s₁ q => ?_) fun _ _ f => f) he hp
  obtain ⟨α₁, x₁, r⟩ := q
  cases r with
  | cons r rs =>
    cases rs
    obtain ⟨t, rfl⟩ := rv_int r
    refine callTypeR ba_called (ba_typeCall _) ba_entry_init (fun _ => by kernel_rfl) (code_ba_new _ (Q₁ := fun obj s₂ => obj = .ref s₁.heap.objs.size ∧ s₂ = { s₁ with heap := s₁.heap.push { cls := .type "bytearray", data := .bytearray #[] } }) ⟨rfl, rfl⟩) ?_
    rintro obj s₂ ⟨rfl, rfl⟩
    have ho : ({ s₁ with heap := s₁.heap.push { cls := .type "bytearray", data := .bytearray #[] } } : Shared).heap.get? s₁.heap.objs.size = some { cls := .type "bytearray", data := .bytearray #[] } := Heap.get?_push_size _ rfl
    refine ⟨⟨_, ho, rfl⟩, ba_args_init _ _, wpR_mono (ba_init ho rfl rfl hn fun h' ho' hs' => ?_) (fun fin s' q => ⟨q.1, q.2⟩) fun _ _ f => f⟩
    have x₂ : Step hb n₀ [] s₁ α₁ { s₁ with heap := s₁.heap.push { cls := .type "bytearray", data := .bytearray #[] } } (α₁ ++ [s₁.heap.objs.size]) (σ₁ ++ [.barr []]) :=
      step_new (t := s₁.toks) (o := { cls := .type "bytearray", data := .bytearray #[] }) (c := .barr []) x₁.st rfl ⟨_, ho, rfl, rfl⟩
    have hl : (α₁ ++ [s₁.heap.objs.size])[σ₁.length]? = some s₁.heap.objs.size := by rw [← x₁.st.len]; simp
    have x₃ := step_cell (n₀ := n₀) (c := .barr (List.replicate n 0)) (t := s₁.toks) x₂.st hl hs' (fun _ => ⟨_, ho', rfl, rfl⟩) hm
    have e : (σ₁ ++ [C.barr []]).set σ₁.length (.barr (List.replicate n 0)) = σ₁ ++ [.barr (List.replicate n 0)] := by simp
    rw [e] at x₃
    exact ⟨_, (x₁.trans x₂).trans x₃, .ref (by rw [← x₁.st.len]; simp)⟩
theorem seqIndex_at {i : Int} {n : Nat} (h0 : 0 ≤ i) (hn : i < n) : seqIndex? i n = some i.toNat := by
  have h : ¬ i < 0 := by omega
  simp only [seqIndex?, h, if_false]
  simp [h0, hn]
theorem payload_ba {A : Around} {s : Shared} {M : Model} {E : Value → Shared → Prop} {l : Addr} {o : Obj} {b : Array UInt8} {Q : Array UInt8 → Shared → Prop} (ho : s.heap.get? l = some o) (hd : o.data = .bytearray b 0) (h : Q b s) : wpAny M A (Builtin.Bytes.payload (.ref l)) Q E s := by
  unfold Builtin.Bytes.payload Builtin.Bytes.payload?
  refine wpAny_bind (wpAny_bind (wpAny_load ho ?_))
  rw [hd]
  exact wpAny_pure (wpAny_pure h)
theorem own_buffer_ba {A : Around} {s : Shared} {M : Model} {E : Value → Shared → Prop} {a : Addr} {Q : Bool → Shared → Prop} (hT : s.TypeIs (.ref a) "bytearray") (hQ : Q true s) : wpAny M A (Builtin.Bytes.slotIsOwn (.ref a) "__buffer__") Q E s := by
  unfold Builtin.Bytes.slotIsOwn
  refine wpAny_bind (wpAny_specialOf hT ba_buffer ?_)
  dsimp only
  refine bm_if_false (by decide +kernel) ?_
  have key : ∀ x : String, x = "bytearray" → wpAny M A (isInstance (.ref a) (.type x)) Q E s := fun x hx => by
    rw [hx]; exact wpAny_isInstance hT ba_sub hQ
  exact key _ (by decide +kernel)
theorem buffer_ba {A : Around} {s : Shared} {M : Model} {E : Value → Shared → Prop} {a : Addr} {o : Obj} {b : Array UInt8} {id : String} {full : Bool} {Q : Option (Array UInt8) → Shared → Prop} (hT : s.TypeIs (.ref a) "bytearray") (ho : s.heap.get? a = some o) (hd : o.data = .bytearray b 0) (hQ : Q (some b) s) :
    wpAny M A (Builtin.Bytes.buffer? id (.ref a) full) Q E s := by
  unfold Builtin.Bytes.buffer?
  refine wpAny_bind (wpAny_specialOf hT ba_buffer ?_)
  dsimp only
  refine wpAny_bind (own_buffer_ba hT ?_)
  refine bm_if_false rfl ?_
  refine wpAny_bind (wpAny_specialOf hT ba_buffer ?_)
  refine wpAny_bind (own_release_ba hT ?_)
  refine bm_if_false rfl ?_
  exact wpAny_bind (payload_ba ho hd (wpAny_pure hQ))
theorem SetV.barr {m : Nat} {b : List UInt8} {i x : Int} (hm : σ[m]? = some (.barr b)) (h0 : 0 ≤ i) (hn : i < b.length) (hz : b.length ≤ 16777216) (hx0 : 0 ≤ x) (hx : x < 256) :
    SetV prog w hb k (.ref m) (.int i) (.int x) σ (σ.set m (.barr (b.set i.toNat x.toNat.toUInt8))) := fun A α s v₀ v₁ v₂ hA S r₀ r₁ r₂ => by
  obtain ⟨t, rfl⟩ := rv_int r₁
  obtain ⟨u, rfl⟩ := rv_int r₂
  cases r₀ with
  | @ref l _ e =>
    obtain ⟨o, ho, hc, hd⟩ := S.cells _ _ _ e hm
    have hT : s.TypeIs (.ref l) "bytearray" := ⟨o, ho, hc⟩
    unfold setItem
    refine wpAny_holding ?_
    refine wpAny_bind (wpAny_sequenceKey hT (by decide) ?_)
    refine wpAny_bind (wpAny_callSpecial?_slot (name := Str.ofString "__setitem__") hT slot_ba_setitem (wpAny_call_entry slot_ba_setitem hT entry_ba_setitem ?_ (args_ba_setitem _ _ _)))
    unfold Builtin.«bytearray.__setitem__»
    refine bm_if_false rfl ?_
    dsimp only
    have hfit : Builtin.Bytes.fitsIndex i = true := by unfold Builtin.Bytes.fitsIndex; simp only [Bool.and_eq_true, decide_eq_true_eq]; omega
    have hsub : Builtin.Bytes.subscript? (.int i t) = pure (some i) := by
      unfold Builtin.Bytes.subscript?
      rw [special_index, pure_bind, asIndex_int, pure_bind]
      show (if (!Builtin.Bytes.fitsIndex i) = true then _ else _) = _
      rw [hfit]; rfl
    rw [hsub, pure_bind]
    dsimp only
    have hval : Builtin.Bytes.byteValue (.int x u) = pure x.toNat.toUInt8 := by
      unfold Builtin.Bytes.byteValue
      rw [asIndex_int, pure_bind, if_neg (by simp only [Bool.or_eq_true, decide_eq_true_eq]; omega)]
    rw [hval, pure_bind]
    refine wpAny_bind (payload_ba ho hd ?_)
    rw [List.size_toArray, seqIndex_at h0 hn]
    dsimp only
    refine wpAny_bind (wp_write ho hd (by rw [Array.size_setIfInBounds, List.size_toArray, sizeLine_eq]; exact hz) fun h' ho' hs' => ?_)
    refine wpAny_pure ⟨_, rfl, wpAny_pure fun n₀ hn₀ => step_cell S e hs' (fun _ => ⟨_, ho', hc, ?_⟩) (hn₀ m rfl)⟩
    show Data.bytearray _ 0 = _
    rw [List.setIfInBounds_toArray]
theorem CallV.bytesb {m : Nat} {b : List UInt8} (hm : σ[m]? = some (.barr b)) (hz : b.length ≤ 16777216) : CallV prog w hb k (.type "bytes") [.ref m] σ (.bytes b) := fun A α s vs hA S r => by
  cases r with
  | cons r rs =>
    cases rs
    cases r with
    | @ref l _ e =>
      obtain ⟨o, ho, hc, hd⟩ := S.cells _ _ _ e hm
      have hT : s.TypeIs (.ref l) "bytearray" := ⟨o, ho, hc⟩
      refine callType_codes (Q₁ := fun obj s₁ => s₁.TypeIs obj "bytes" ∧ (Kp s s₁ ∧ Rv s₁.heap α obj (.bytes b))) F.bm_called (F.bm_typeCall _) F.entry_object_init ?_ fun obj s₁ h₁ => ⟨h₁.1, F.args_object_init_2 obj _, object_init_meets F.bm_called.init.lookup F.bm_called.made (by decide) prog w A.in1 _ s₁ ⟨h₁.1, rfl, h₁.2⟩⟩
      refine codeAny_of_tree ?_
      show wpAny _ A.in1.in1 (do checkBuiltinCall "bytes.__new__" ⟨[.type "bytes", .ref l], []⟩; again (.builtin "bytes.__new__" ⟨[.type "bytes", .ref l], []⟩)) _ _ s
      refine wpAny_bind (wpAny_of_eq (F.bm_newCall _) (wpAny_pure ⟨plainId_quiet F.bm_plain _, codeAny_builtin F.bm_entry ?_⟩))
      rw [Around.under_plainId F.bm_plain _]
      unfold Builtin.«bytes.__new__»
      refine wpAny_bind (wpAny_of_eq (a := true) rfl ?_)
      refine bm_if_false rfl ?_
      refine wpAny_bind (wpAny_of_eq F.bm_sub ?_)
      refine bm_if_false rfl ?_
      refine wpAny_bind (wpAny_of_eq (F.bm_bind _) ?_)
      refine wpAny_bind (wpAny_of_eq (a := ()) rfl ?_)
      refine wpAny_bind (wpAny_of_eq (a := ()) rfl ?_)
      refine bm_if_false rfl ?_
      refine wpAny_bind (wpAny_specialOf hT ba_no_bytes ?_)
      refine wpAny_bind (wpAny_bind ?_)
      show wpAny _ _ (load l >>= _) _ _ _
      refine wpAny_bind (wpAny_load ho ?_)
      rw [hd]
      refine wpAny_pure (wpAny_pure ?_)
      refine bm_if_false rfl ?_
      refine wpAny_bind (wpAny_specialOf hT ba_no_index ?_)
      refine bm_if_true rfl ?_
      show wpAny _ _ (Builtin.Bytes.buffer? "bytes.__new__" (.ref l) true >>= _) _ _ _
      refine wpAny_bind (buffer_ba hT ho hd ?_)
      dsimp only
      refine wpAny_bind (wpAny_rule ?_)
      refine wpAny_bind (m := mkBytes _) (wpAny_mkBytes ?_ (by rw [List.size_toArray, sizeLine_eq]; exact hz))
      show wpAny _ _ (pure (Fin.done (Flow.ret _))) _ _ _
      exact wpAny_pure ⟨PySem.W.typeIs_bytes _ _ _, keeps_tok, .bytes _ _⟩
end
end Mine
open PySem PySem.W PyProof.Rows PySem.Calls PySem.Spec
set_option maxRecDepth 100000
namespace Mine
section
variable {prog : Program} {w : World} {hb : Heap} {mg mb : Str → Option Value} {k n₀ : Nat} {env : Env} {ρ ρ' ρ₁ ρ₂ : List (Str × D)} {σ σ₁ σ₂ σ' : List C}
/-- a range's numbers -/
def upTo (a c : Int) (n : Nat) : List Int := (List.range n).map fun (i : Nat) => a + (i : Int) * c
theorem its_range {A : Around} {s s₁ : Shared} {α α₁ : List Addr} {a b c : Int} {t u v : Tok} {r : Addr} {n : Nat} (hA : A.handled = none) (x : Step hb n₀ [] s α s₁ α₁ σ₁) (hr : IsRange s₁.heap r a b c t u v) (hsm : Builtin.Range.small a b c = true) (hn : Builtin.Range.rangeSize a b c = n) :
    wpAny (model prog w) A (pyIter (.ref r)) (fun it s₂ => ∃ α' I fp wr P Stt, Step hb n₀ [] s α s₂ α' σ₁ ∧ Its prog w A s s₂ α' it ((upTo a c n).map D.int) I fp wr P Stt) (fun _ _ => False) s₁ := by
  refine wpAny_pyIter_range hr hsm ?_
  have hz : ((upTo a c n).map D.int).length = n := by simp [upTo]
  refine ⟨α₁, s₁.heap.objs.size, [s₁.heap.objs.size], [s₁.heap.objs.size], _, _, x.trans ((keeps_push (t := s₁.toks)).step x.st), rfl, hz.symm ▸ Walks.range hA s₁.heap.objs.size a c n, ?_, ?_, ?_, ?_, ?_, ?_⟩
  · show IsRangeIter _ _ (a + ((0 : Nat) : Int) * c) (_ - ((0 : Nat) : Int)) c
    rw [hz, ← hn]
    have e1 : a + ((0 : Nat) : Int) * c = a := by simp
    have e2 : Builtin.Range.rangeSize a b c - ((0 : Nat) : Int) = Builtin.Range.rangeSize a b c := by simp
    rw [e1, e2]
    exact Heap.get?_push_size _ rfl
  · intro b hb'; rw [List.mem_singleton.mp hb']; exact young_of x
  · intro b hb'; rw [List.mem_singleton.mp hb']; exact push_none x.st
  · intro b hb'; rw [List.mem_singleton.mp hb']; exact ⟨_, Heap.get?_push_size _ rfl, fun _ _ h => nomatch h⟩
  · intro i h' st b hb'
    rw [List.mem_singleton.mp hb']
    exact ⟨_, _, st, rfl⟩
  · rintro i v hi ⟨t', rfl⟩
    rw [hz] at hi
    exact ⟨.int (a + (i : Int) * c), by simp [upTo, hi], .int _ _⟩
theorem ItT.range1 {p pos : Pos} {e : Expr} {n : Nat} (B : Base hb mg mb) (hg : mg "range" = Option.none) (h : EvT prog w hb k n₀ env ρ e σ (.int n) σ₁) (hn : n < 4611686018427387904)
    (hx : env.kindOf "range" = some .globalImplicit := by rfl) (he : starEach [e] env = (false, eval e env) :: starEach [] env := by rfl) (hp : ((backTo pos (starEach [] env)).any fun x => x.1) = false := by rfl)
    (hcall : eval (.Call (.Name "range" p) [e] [] pos) env = (do callWith pos (← eval (.Name "range" p) env) [] (backTo pos (starEach [e] env)) (backToKw pos (keywordEach [] env))) := by rfl) :
    ItT prog w hb k n₀ env ρ (.Call (.Name "range" p) [e] [] pos) σ ((upTo 0 1 n).map D.int) σ₁ := fun A α s hA S L => by
  refine CallR (.of (Name_function_global L.kind hx (loadGlobal_builtin (by rw [L.glob]; exact B.g.keeps S.keep) hg (by rw [L.bui]; exact B.b.keeps S.keep) ((B.builtins _ (by decide +kernel)).trans (by decide +kernel : bootBuiltins "range" = some (.type "range"))) ?_) (by decide +kernel))) hcall
  refine callWithR_type (wpR_mono (EvsT.cons h EvsT.nil he A α s pos hA S L) (fun us s₁ q => ?_) fun _ _ f => f) he hp
  obtain ⟨α₁, x₁, r⟩ := q
  cases r with
  | cons r rs =>
    cases rs
    obtain ⟨t, rfl⟩ := rv_int r
    refine .of (call_range_1 ?_)
    refine its_range hA.1 (x₁.trans (keeps_push.step x₁.st)) (IsRange.new _ _ _ _ _ _ _) (small_one (by omega) (by omega) (by omega) (by omega)) ?_
    rw [rangeSize_one]; split <;> omega
theorem ItT.range3 {p pos : Pos} {e₁ e₂ e₃ : Expr} {a b : Int} {n : Nat} (B : Base hb mg mb) (hg : mg "range" = Option.none) (h : EvsT prog w hb k n₀ env ρ [e₁, e₂, e₃] σ [.int a, .int b, .int (-1)] σ₁) (ha : -1000000 ≤ a ∧ a ≤ 1000000 ∧ -1000000 ≤ b ∧ b ≤ 1000000) (hn : (a - b).toNat = n)
    (hx : env.kindOf "range" = some .globalImplicit := by rfl) (he : starEach [e₁, e₂, e₃] env = (false, eval e₁ env) :: starEach [e₂, e₃] env := by rfl) (hp : ((backTo pos (starEach [e₂, e₃] env)).any fun x => x.1) = false := by rfl)
    (hcall : eval (.Call (.Name "range" p) [e₁, e₂, e₃] [] pos) env = (do callWith pos (← eval (.Name "range" p) env) [] (backTo pos (starEach [e₁, e₂, e₃] env)) (backToKw pos (keywordEach [] env))) := by rfl) :
    ItT prog w hb k n₀ env ρ (.Call (.Name "range" p) [e₁, e₂, e₃] [] pos) σ ((upTo a (-1) n).map D.int) σ₁ := fun A α s hA S L => by
  refine CallR (.of (Name_function_global L.kind hx (loadGlobal_builtin (by rw [L.glob]; exact B.g.keeps S.keep) hg (by rw [L.bui]; exact B.b.keeps S.keep) ((B.builtins _ (by decide +kernel)).trans (by decide +kernel : bootBuiltins "range" = some (.type "range"))) ?_) (by decide +kernel))) hcall
  refine callWithR_type (wpR_mono (h A α s pos hA S L) (fun us s₁ q => ?_) fun _ _ f => f) he hp
  obtain ⟨α₁, x₁, r⟩ := q
  cases r with
  | cons r rs =>
    cases rs with
    | cons r₂ rs =>
      cases rs with
      | cons r₃ rs =>
        cases rs
        obtain ⟨t, rfl⟩ := rv_int r
        obtain ⟨u, rfl⟩ := rv_int r₂
        obtain ⟨v, rfl⟩ := rv_int r₃
        refine .of (call_range_3 (by decide) ?_ (.inl (PyProof.noPylong_small (by omega))))
        refine its_range hA.1 (x₁.trans (keeps_push.step x₁.st)) (IsRange.new _ _ _ _ _ _ _) (PySem.W.small_down (by omega) (by omega) (by omega) (by omega)) ?_
        rw [PySem.W.rangeSize_downNat, hn]
end
end Mine
open PySem PySem.W PySem.Spec PySem.Calls PyProof.Rows
set_option maxRecDepth 100000
namespace Mine
/-- the walk that is asked: from the caller's own context -/
abbrev WalkR (q : Program) (loose : List Str) (XP : (Str → Option Value) → Heap → Prop) (YP : World → Heap → Prop) (r : RowW) (d : DefRec) (kwd : List (Str × Expr)) : Prop :=
  ∀ (w : World) (s₀ s₁ : Shared) (mg mb : Str → Option Value), Ground q loose r.records XP w s₀ mg mb s₁.heap → YP w s₁.heap → ∀ (a : Addr) (o : Obj) (pm cd doc dV kV : Value), s₁.heap.get? a = some o →
    o.data = .func { docDef d.name d.params d.body d.scope pm cd doc with defaults := dV, kwdefaults := kV } → s₁.heap.CodeRec cd d.name → Dflts mg s₁.heap d.params kwd dV kV → mg d.name = some (.ref a) → s₁.gens = #[] →
    ∀ (args : List WData) (vals : List Value) (as : List Addr), r.claim.pre args = true → WData.layableAll args = true → ReadsAllW r.records (classAt s₀.heap) s₁.heap vals args as → WellAll w.params s₁.heap vals args → (∀ a ∈ as, (a == sysModules) = false) →
      wpR (model r.prog w) callerA (call (.ref a) vals) (fun v s' => GoodWG r.claim (classAt s₀.heap) (ExcName.means s₀.heap) args s₁ (.ok (.ret v)) s') noE s₁
abbrev callerΓ : PySem.Ctx := ⟨.builtin "claim.caller" {}, none, none, [], none⟩
theorem caller_cln : Cln callerΓ := ⟨by decide +kernel, fun _ h => nomatch h⟩
/-- the caller's run, from the caller's own context -/
theorem ends_clean {prog : Program} {w : World} {t : Sem Fin} {s : Shared} {R : Result → Shared → Prop} (hreg : s.asleep)
    (h : wpR (model prog w) callerA t (fun fin s' => ∃ f, fin = .done f ∧ R (.ok f) s' ∧ leftWithCleanup s'.gens = false) noE s) :
    ∃ n r s' s'', runN (denote table) prog w n s ⟨t, .builtin "claim.caller" {}, default, []⟩ = .halted (outcomeOf r) s' ∧
      schedN (denote table) prog w n (.single s ⟨t, .builtin "claim.caller" {}, default, []⟩) = .halted (outcomeOf r) s' ∧ s'.forget = s''.forget ∧ R r s'' := by
  have hw : Sem.wp (model prog w) callerΓ t (Sem.finPost (model prog w) callerΓ fun r s' => R r s' ∧ leftWithCleanup s'.gens = false) (fun e _ s' => R (.error e) s' ∧ leftWithCleanup s'.gens = false) default s := by
    refine Sem.wp_mono _ _ t (fun fin p' s' h' => ?_) (fun _ _ _ h' => h'.elim) default s (h callerΓ default caller_in caller_cln)
    obtain ⟨f, rfl, hf⟩ := h'
    exact hf
  obtain ⟨n, r, s₁, s₂, hs, hn, hfo, hR⟩ := wp_halts_full (M := model prog w) (R := R) hreg hw
  exact ⟨n, r, s₂, s₁, hn, hs, hfo, hR⟩
theorem callFrom_clean {c : ClaimW} {tree : List Value → Sem Fin} {w : World} {s : Shared} {free : Addr → Prop} {gens : Prop} {kept : Heap → Prop} (hz : s.asleep) (hgens : s.gens = #[])
    (hspec : ∀ args, c.pre args = true → WData.layableAll args = true → ∀ ord : List DictEntry → List DictEntry, (∀ l, (ord l).Perm l) →
      ∃ vs s₁, layAllW c.records (classAt s.heap) w.params ord args s = some (vs, s₁) ∧
        wpR (model c.prog w) callerA (tree vs) (fun fin s' => ∃ f, fin = .done f ∧ (c.Ends s args vs s₁ (.ok f) s' ∧ s'.os = s.os ∧ AllBare s'.gens ∧ kept s'.heap)) noE s₁) :
    c.CallFrom (fun vs => ⟨tree vs, .builtin "claim.caller" {}, default, []⟩) w free gens kept s := by
  intro args hpre hlay ord hord
  obtain ⟨vs, s₁, hlaid, hcode⟩ := hspec args hpre hlay ord hord
  have hal := layAllW_rest _ _ _ hlaid
  obtain ⟨k, r, s', s'', hrun, hsched, hfo, hcase, hos, hkp⟩ := ends_clean (prog := c.prog) (w := w) (t := tree vs) (s := s₁)
    (R := fun r s' => c.Ends s args vs s₁ r s' ∧ s'.os = s.os ∧ kept s'.heap) (Shared.asleep_of_life hal.2.2.2 hz)
    (wpR_mono hcode (fun fin s' ⟨f, e, h1, h2, h3, h4⟩ => ⟨f, e, ⟨h1, h2, h4⟩, leftWithCleanup_false_of_bare h3⟩) fun _ _ f => f)
  obtain ⟨eh, _, _, eo, _⟩ := Shared.forget_eq hfo
  have hcase := hcase.congr eh
  have hkp : kept s'.heap := by rw [eh]; exact hkp
  rw [← eo] at hos
  have hlife : s'.heap.life = s.heap.life := (runN_life _ _ _ hrun).trans hal.2.2.2
  refine ⟨vs, s₁, hlaid, k, _, s', hsched, ?_, (fun _ i x hx => by rw [hgens] at hx; simp at hx), hkp, by rw [hlife], Shared.rest_eq hos⟩
  rcases hcase with ⟨v, rfl, d1, d2, d3, d4, d5⟩ | ⟨e, ob, cls, rfl, d1, d2, d3, d4, d5⟩
  · exact .inl ⟨v, rfl, d1, d2, d3, fun b o y _ => d4 b o y, d5⟩
  · exact .inr ⟨e, ob, cls, rfl, d1, d2, d3, d4, fun b o y _ => d5 b o y⟩
/-- the head, for a walk from the caller's own context (a bytearray's making looks at the whole stack: from every context it cannot be walked) -/
theorem holds_clean {r : OpenRow} {q : Program} {loose : List Str} {Xt : Shared → Bool} {XP : (Str → Option Value) → Heap → Prop} {α : Type} {Yf : Shared → α} {Ya : World → α} {YP : World → Heap → Prop} {d : DefRec} {kwd : List (Str × Expr)} {N : Nat}
    (left : LeftO r.prog q loose Xt Yf Ya N) (hY : ∀ w s, Yf s = Ya w → YP w s.heap) (hYk : ∀ w h h', YP w h → (∀ b o, h.get? b = some o → h'.get? b = some o) → YP w h')
    (hX : ∀ s, Xt s = true → XP (s.heap.nsMap mainGlobals) s.heap) (hXk : ∀ mg h h', XP mg h → (∀ b o, h.get? b = some o → h'.get? b = some o) → XP mg h')
    (hdef : defOf q r.name = some (d, kwd)) (hp : r.prog.theDef r.name = some (d.params, d.body, d.scope)) (hk : kwWritten? d.params.kwonlyargs d.params.kw_defaults = some kwd) (hRf : ∀ s, Xt s = true → RecFacts r.records s.heap) (hwr : (!r.writes || r.records.isEmpty) = true)
    (k1 : r.wellSaid = true) (ok : (chainsOk q && opensWell r.prog && (frees r.toRowW && r.within.isEmpty)) = true) (hb : r.prog.bare) (hw : r.toRowW.promised)
    (walk : WalkR q loose XP YP r.toRowW d kwd) : r.Holds := by
  refine ⟨k1, hw, ?_⟩
  obtain ⟨ok, k5⟩ := Bool.and_eq_true_iff.mp ok
  obtain ⟨hch, o1⟩ := Bool.and_eq_true_iff.mp ok
  obtain ⟨k5, k6⟩ := Bool.and_eq_true_iff.mp k5
  obtain ⟨hsame, hu, ha, hap, hm⟩ := frees_parts k5
  refine ⟨⟨hb, o1, by show r.toRowW.makers.map _ = []; rw [hm]; rfl⟩, hw.witness, fun w => ⟨(left.behind hX hch w).1, fun s' hs' => ?_⟩⟩
  obtain ⟨s₀, hf, hg0, s, hT, hz, hgens, hg, G00, y⟩ := (left.behind (XP := fun mg h => XP mg h ∧ RecFacts r.records h) (fun s hs => ⟨hX s hs, hRf s hs⟩) hch w).2 s' hs'
  have G0 : Ground q loose [] XP w s (s.heap.nsMap mainGlobals) (s.heap.nsMap builtinsNs) s.heap := ⟨G00.T, G00.B, G00.D, G00.TE, G00.TD, G00.W, G00.X.1, G00.cls, G00.has, G00.apart, G00.once, G00.K⟩
  have RF := G00.X.2
  have hT' := hT
  refine ⟨s₀, hf, hg0, s, hT, ?_, RF.1, RF.2.1, ?_⟩
  · intro n hn
    obtain rfl : n = r.name := by split at hn <;> simp_all
    exact pinned_of_view hg G0 hdef hp hk
  have hgens : s.gens = #[] := Array.eq_empty_of_size_eq_zero (beq_iff_eq.mp hgens)
  have G : Ground q loose r.records XP w s _ _ s.heap := RF.ground G0
  refine callFrom_clean (c := r.toRowW.claim) hz hgens fun args hpre hlay ord hord => ?_
  obtain ⟨⟨vs, s₁⟩, hlaid⟩ := Option.isSome_iff_exists.mp (layAllW_isSome (P := w.params) (ord := ord) G.has args r.args s (pre_splitW hpre).1)
  have keeps := layAllW_keeps _ _ _ hlaid
  have hal := layAllW_rest _ _ _ hlaid
  obtain ⟨as, hrd, hin, hold⟩ := reads_layAllW hord _ _ _ hlaid hlay s₁.heap (fun _ _ e => e)
  have L : Laid r.records w s s₁ args vs as := ⟨⟨ord, hord, hlaid⟩, hrd, hin, hold, keeps, hal.1.trans hgens, hal.2.2.1⟩
  have G₁ := G.keeps hXk keeps
  obtain ⟨a, o, pm, cd, doc, dV, kV, h1, h2, h3, h4, h5⟩ := G₁.fn hdef
  have h := walk w s s₁ _ _ G₁ (hYk _ _ _ (hY w s y) keeps) a o pm cd doc dV kV h2 h3 h4 h5 (defOf_name hdef ▸ h1) L.gens args vs as hpre hlay L.reads L.well (L.low G.low)
  have hi := ident_freeW hu ha hap
  have hwi : r.toRowW.claim.within = [] := List.isEmpty_iff.mp k6
  refine ⟨vs, s₁, hlaid, ?_⟩
  refine wpR_bind (wpR.of (wpAny_nsGet G₁.T.g ?_))
  rw [h1]
  exact wpR_bind (wpR_mono h (fun v s' g => wpR_pure ⟨_, rfl, have z := g.laid (c := r.toRowW.claim) hsame hwi hi L; ⟨z.1, z.2.1, z.2.2, fun q => ⟨namesKept_of hT' hg r.keeps keeps g.2.1.old, noTable hwr q⟩⟩⟩) fun _ _ f => f)
end Mine
open PySem PySem.W PyProof.Rows
set_option maxRecDepth 100000
namespace Mine
noncomputable def Ks (P : Params) : Frag := [(3, { cls := Value.type "dict", data := Data.dict #[{ hash := PyData.keyHash P (Str.ofString "__name__"), key := Value.str (Str.ofString "__name__") 165, val := Value.str (Str.ofString "law_tk0096_01") 501 }, { hash := PyData.keyHash P (Str.ofString "__doc__"), key := Value.str (Str.ofString "__doc__") 166, val := Value.none }, { hash := PyData.keyHash P (Str.ofString "__package__"), key := Value.str (Str.ofString "__package__") 167, val := Value.none }, { hash := PyData.keyHash P (Str.ofString "__loader__"), key := Value.str (Str.ofString "__loader__") 168, val := Value.builtin "__main__.__loader__#opaque" }, { hash := PyData.keyHash P (Str.ofString "__spec__"), key := Value.str (Str.ofString "__spec__") 169, val := Value.none }, { hash := PyData.keyHash P (Str.ofString "__annotations__"), key := Value.str (Str.ofString "__annotations__") 170, val := Value.ref 6 }, { hash := PyData.keyHash P (Str.ofString "__builtins__"), key := Value.str (Str.ofString "__builtins__") 171, val := Value.ref 4 }, { hash := PyData.keyHash P (Str.ofString "__file__"), key := Value.str (Str.ofString "__file__") 173, val := Value.str (Str.ofString "/claim/cut.py") 172 }, { hash := PyData.keyHash P (Str.ofString "__cached__"), key := Value.str (Str.ofString "__cached__") 174, val := Value.none }, { hash := PyData.keyHash P (Str.ofString "INTERNAL_ERROR"), key := Value.str (Str.ofString "INTERNAL_ERROR") 190, val := Value.int 1 189 }, { hash := PyData.keyHash P (Str.ofString "QuicError"), key := Value.str (Str.ofString "QuicError") 223, val := Value.ref 31 }, { hash := PyData.keyHash P (Str.ofString "PING"), key := Value.str (Str.ofString "PING") 225, val := Value.int 1 224 }, { hash := PyData.keyHash P (Str.ofString "ACK"), key := Value.str (Str.ofString "ACK") 227, val := Value.int 2 226 }, { hash := PyData.keyHash P (Str.ofString "ACK_ECN"), key := Value.str (Str.ofString "ACK_ECN") 229, val := Value.int 3 228 }, { hash := PyData.keyHash P (Str.ofString "RESET_STREAM"), key := Value.str (Str.ofString "RESET_STREAM") 231, val := Value.int 4 230 }, { hash := PyData.keyHash P (Str.ofString "STOP_SENDING"), key := Value.str (Str.ofString "STOP_SENDING") 233, val := Value.int 5 232 }, { hash := PyData.keyHash P (Str.ofString "CRYPTO"), key := Value.str (Str.ofString "CRYPTO") 235, val := Value.int 6 234 }, { hash := PyData.keyHash P (Str.ofString "NEW_TOKEN"), key := Value.str (Str.ofString "NEW_TOKEN") 237, val := Value.int 7 236 }, { hash := PyData.keyHash P (Str.ofString "STREAM"), key := Value.str (Str.ofString "STREAM") 239, val := Value.int 8 238 }, { hash := PyData.keyHash P (Str.ofString "MAX_DATA"), key := Value.str (Str.ofString "MAX_DATA") 241, val := Value.int 16 240 }, { hash := PyData.keyHash P (Str.ofString "MAX_STREAM_DATA"), key := Value.str (Str.ofString "MAX_STREAM_DATA") 243, val := Value.int 17 242 }, { hash := PyData.keyHash P (Str.ofString "MAX_STREAMS_BIDI"), key := Value.str (Str.ofString "MAX_STREAMS_BIDI") 245, val := Value.int 18 244 }, { hash := PyData.keyHash P (Str.ofString "MAX_STREAMS_UNI"), key := Value.str (Str.ofString "MAX_STREAMS_UNI") 247, val := Value.int 19 246 }, { hash := PyData.keyHash P (Str.ofString "DATA_BLOCKED"), key := Value.str (Str.ofString "DATA_BLOCKED") 249, val := Value.int 20 248 }, { hash := PyData.keyHash P (Str.ofString "STREAM_DATA_BLOCKED"), key := Value.str (Str.ofString "STREAM_DATA_BLOCKED") 251, val := Value.int 21 250 }, { hash := PyData.keyHash P (Str.ofString "STREAMS_BLOCKED_BIDI"), key := Value.str (Str.ofString "STREAMS_BLOCKED_BIDI") 253, val := Value.int 22 252 }, { hash := PyData.keyHash P (Str.ofString "STREAMS_BLOCKED_UNI"), key := Value.str (Str.ofString "STREAMS_BLOCKED_UNI") 255, val := Value.int 23 254 }, { hash := PyData.keyHash P (Str.ofString "NEW_CONNECTION_ID"), key := Value.str (Str.ofString "NEW_CONNECTION_ID") 257, val := Value.int 24 256 }, { hash := PyData.keyHash P (Str.ofString "RETIRE_CONNECTION_ID"), key := Value.str (Str.ofString "RETIRE_CONNECTION_ID") 259, val := Value.int 25 258 }, { hash := PyData.keyHash P (Str.ofString "PATH_CHALLENGE"), key := Value.str (Str.ofString "PATH_CHALLENGE") 261, val := Value.int 26 260 }, { hash := PyData.keyHash P (Str.ofString "PATH_RESPONSE"), key := Value.str (Str.ofString "PATH_RESPONSE") 263, val := Value.int 27 262 }, { hash := PyData.keyHash P (Str.ofString "CLOSE"), key := Value.str (Str.ofString "CLOSE") 265, val := Value.int 28 264 }, { hash := PyData.keyHash P (Str.ofString "CLOSE_APPLICATION"), key := Value.str (Str.ofString "CLOSE_APPLICATION") 267, val := Value.int 29 266 }, { hash := PyData.keyHash P (Str.ofString "HANDSHAKE_DONE"), key := Value.str (Str.ofString "HANDSHAKE_DONE") 269, val := Value.int 30 268 }, { hash := PyData.keyHash P (Str.ofString "BIT_FIN"), key := Value.str (Str.ofString "BIT_FIN") 271, val := Value.int 1 270 }, { hash := PyData.keyHash P (Str.ofString "BIT_LENGTH"), key := Value.str (Str.ofString "BIT_LENGTH") 273, val := Value.int 2 272 }, { hash := PyData.keyHash P (Str.ofString "BIT_OFFSET"), key := Value.str (Str.ofString "BIT_OFFSET") 275, val := Value.int 4 274 }, { hash := PyData.keyHash P (Str.ofString "VARINT_SIZES"), key := Value.str (Str.ofString "VARINT_SIZES") 282, val := Value.ref 35 }, { hash := PyData.keyHash P (Str.ofString "put_whole"), key := Value.str (Str.ofString "put_whole") 292, val := Value.ref 42 }, { hash := PyData.keyHash P (Str.ofString "varint_size"), key := Value.str (Str.ofString "varint_size") 300, val := Value.ref 49 }, { hash := PyData.keyHash P (Str.ofString "put_varint"), key := Value.str (Str.ofString "put_varint") 309, val := Value.ref 56 }, { hash := PyData.keyHash P (Str.ofString "NUMBER_FRAMES"), key := Value.str (Str.ofString "NUMBER_FRAMES") 330, val := Value.ref 57 }, { hash := PyData.keyHash P (Str.ofString "put_numbers"), key := Value.str (Str.ofString "put_numbers") 336, val := Value.ref 62 }, { hash := PyData.keyHash P (Str.ofString "put_counted"), key := Value.str (Str.ofString "put_counted") 343, val := Value.ref 69 }, { hash := PyData.keyHash P (Str.ofString "ack_numbers"), key := Value.str (Str.ofString "ack_numbers") 356, val := Value.ref 76 }, { hash := PyData.keyHash P (Str.ofString "put_ack"), key := Value.str (Str.ofString "put_ack") 370, val := Value.ref 83 }, { hash := PyData.keyHash P (Str.ofString "put_stream"), key := Value.str (Str.ofString "put_stream") 385, val := Value.ref 90 }, { hash := PyData.keyHash P (Str.ofString "put_new_cid"), key := Value.str (Str.ofString "put_new_cid") 397, val := Value.ref 97 }, { hash := PyData.keyHash P (Str.ofString "put_close"), key := Value.str (Str.ofString "put_close") 408, val := Value.ref 104 }, { hash := PyData.keyHash P (Str.ofString "put_octets_frame"), key := Value.str (Str.ofString "put_octets_frame") 416, val := Value.ref 111 }, { hash := PyData.keyHash P (Str.ofString "put_frame"), key := Value.str (Str.ofString "put_frame") 425, val := Value.ref 118 }, { hash := PyData.keyHash P (Str.ofString "frame_size"), key := Value.str (Str.ofString "frame_size") 432, val := Value.ref 125 }, { hash := PyData.keyHash P (Str.ofString "DATA_KINDS"), key := Value.str (Str.ofString "DATA_KINDS") 437, val := Value.ref 126 }, { hash := PyData.keyHash P (Str.ofString "taken_and_left"), key := Value.str (Str.ofString "taken_and_left") 449, val := Value.ref 133 }, { hash := PyData.keyHash P (Str.ofString "data_of"), key := Value.str (Str.ofString "data_of") 456, val := Value.ref 140 }, { hash := PyData.keyHash P (Str.ofString "with_data"), key := Value.str (Str.ofString "with_data") 466, val := Value.ref 147 }, { hash := PyData.keyHash P (Str.ofString "data_room"), key := Value.str (Str.ofString "data_room") 476, val := Value.ref 154 }, { hash := PyData.keyHash P (Str.ofString "cut_frame"), key := Value.str (Str.ofString "cut_frame") 487, val := Value.ref 161 }, { hash := PyData.keyHash P (Str.ofString "filled"), key := Value.str (Str.ofString "filled") 500, val := Value.ref 168 }, { hash := PyData.keyHash P (Str.ofString "_law_take"), key := Value.str (Str.ofString "_law_take") 510, val := Value.ref 175 }, { hash := PyData.keyHash P (Str.ofString "_law_frame"), key := Value.str (Str.ofString "_law_frame") 516, val := Value.ref 180 }, { hash := PyData.keyHash P (Str.ofString "_law_width"), key := Value.str (Str.ofString "_law_width") 523, val := Value.ref 187 }, { hash := PyData.keyHash P (Str.ofString "_law_size"), key := Value.str (Str.ofString "_law_size") 531, val := Value.ref 194 }, { hash := PyData.keyHash P (Str.ofString "_law_is_cut"), key := Value.str (Str.ofString "_law_is_cut") 540, val := Value.ref 201 }, { hash := PyData.keyHash P (Str.ofString "_law_goes_right"), key := Value.str (Str.ofString "_law_goes_right") 552, val := Value.ref 208 }, { hash := PyData.keyHash P (Str.ofString "_law_is_turn"), key := Value.str (Str.ofString "_law_is_turn") 558, val := Value.ref 213 }, { hash := PyData.keyHash P (Str.ofString "law"), key := Value.str (Str.ofString "law") 571, val := Value.ref 220 }] 67 }),
  (35, { cls := Value.type "tuple", data := Data.seq #[Value.int 1 278, Value.int 2 279, Value.int 4 280, Value.int 8 281] }),
  (57, { cls := Value.type "dict", data := Data.dict #[{ hash := PyData.keyHash P (Str.ofString "ping"), key := Value.str (Str.ofString "ping") 312, val := Value.int 1 224 }, { hash := PyData.keyHash P (Str.ofString "reset_stream"), key := Value.str (Str.ofString "reset_stream") 313, val := Value.int 4 230 }, { hash := PyData.keyHash P (Str.ofString "stop_sending"), key := Value.str (Str.ofString "stop_sending") 314, val := Value.int 5 232 }, { hash := PyData.keyHash P (Str.ofString "max_data"), key := Value.str (Str.ofString "max_data") 315, val := Value.int 16 240 }, { hash := PyData.keyHash P (Str.ofString "max_stream_data"), key := Value.str (Str.ofString "max_stream_data") 316, val := Value.int 17 242 }, { hash := PyData.keyHash P (Str.ofString "data_blocked"), key := Value.str (Str.ofString "data_blocked") 317, val := Value.int 20 248 }, { hash := PyData.keyHash P (Str.ofString "stream_data_blocked"), key := Value.str (Str.ofString "stream_data_blocked") 318, val := Value.int 21 250 }, { hash := PyData.keyHash P (Str.ofString "retire_connection_id"), key := Value.str (Str.ofString "retire_connection_id") 319, val := Value.int 25 258 }, { hash := PyData.keyHash P (Str.ofString "handshake_done"), key := Value.str (Str.ofString "handshake_done") 320, val := Value.int 30 268 }] 9 }),
  (126, { cls := Value.type "tuple", data := Data.seq #[Value.str (Str.ofString "crypto") 435, Value.str (Str.ofString "stream") 436] })]
/-- the statements of the text that the head keeps: all but the loose ones and those that bind nothing -/
noncomputable def keepI : List Nat := [1, 2, 3, 4, 5, 6, 7, 8, 9, 10, 11, 12, 13, 14, 15, 16, 17, 18, 19, 20, 21, 22, 23, 24, 25, 26, 27, 28, 30, 31, 32, 33, 35, 36, 37, 38, 39, 40, 41, 42, 43, 44, 45, 47, 48, 49, 50, 51, 52, 53, 55, 56, 57, 58, 59, 60, 61, 62]
noncomputable def qv : Program := view PySem.Challenge.pw_tk0096_01 keepI
end Mine
open PySem PySem.W PyProof.Rows
set_option maxRecDepth 100000
namespace Mine
abbrev theP : Program := PySem.Challenge.pw_tk0096_01
noncomputable def noDef : DefRec := ⟨Str.ofString "", { posonlyargs := [], args := [], vararg := none, kwonlyargs := [], kw_defaults := [], kwarg := none, defaults := [] }, [], { kind := .function, names := [], isGenerator := false, isCoroutine := false }, ⟨0, 0, 0, 0⟩⟩
/-- the def number n of the text, and the one of its class -/
noncomputable def rcOf (n : Nat) : DefRec := (recsOf theP)[n]?.getD noDef
noncomputable def initD : DefRec := (theP.main.body.findSome? fun s => match s with | .ClassDef _ _ _ b _ _ _ _ _ _ _ => b.findSome? DefRec.ofStmt? | _ => none).getD noDef
/-- a def's function, as it is first laid and as it stands at last -/
noncomputable def fdA (d : DefRec) (q : Str) : Obj := { cls := .none, data := .func { name := d.name, qualname := q, params := d.params, body := .stmts d.body, scope := d.scope, globals := 0, closure := [], defaults := .none, kwdefaults := .none } }
noncomputable def fdB (d : DefRec) (q : Str) (m : Value) (c : Addr) : Obj := { cls := .type "function", data := .func { name := d.name, qualname := q, params := d.params, body := .stmts d.body, scope := d.scope, globals := 3, closure := [], defaults := .none, kwdefaults := .none, pyModule := m, code := .ref c } }
noncomputable def fnA (n : Nat) : Obj := fdA (rcOf n) (rcOf n).name
noncomputable def fnB (n : Nat) (m : Value) (c : Addr) : Obj := fdB (rcOf n) (rcOf n).name m c
/-- a def's code -/
noncomputable def codeO (a : Str) (i : Nat) (b : Str) (j k : Nat) (l₁ l₂ l₃ : Int) (r : Addr) (f : Bool) (q : Addr) (x y z : Value) (m l₄ : Int) (t : Nat) : Obj :=
  { cls := .type "code", data := .fields #[.str a i, .str b j, .str (Str.ofString "/claim/cut.py") k, .int l₁ 0, .int l₂ 0, .int 0 0, .int 0 0, .int l₃ 0, .ref r, .bool f, .int 181 0, .ref q, .none, x, y, z, .int m 0, .int l₄ 0, .str (Str.ofString "/claim/cut.py") t] }
noncomputable abbrev ent (P : Params) (k : Str) (t : Nat) (v : Value) : DictEntry := { hash := PyData.keyHash P k, key := .str k t, val := v }
noncomputable def o0 : Obj := { cls := .type "tuple", data := Data.seq #[] }
noncomputable def o1 : Obj := { cls := .none, data := Data.fields #[] }
noncomputable def o2 : Obj := { cls := .type "frame", slots := #[.some (.ref 13), .some (.ref 3), .some (.ref 3), .none, .some (.str (Str.ofString "__main__") 164), .none, .some (.ref 0)] }
noncomputable def hpA (P : Params) : Heap := { objs := { toList := [(boot_o_0 P), (boot_o_1 P), (boot_o_2 P), (boot_o_3 P), (boot_o_4 P), (boot_o_5 P), (boot_o_6 P), (boot_o_7 P), (boot_o_8 P), (boot_o_9 P), (boot_o_10 P), o0, o1, (codeO (Str.ofString "<module>") 182 (Str.ofString "<module>") 183 184 1 0 0 11 false 12 (.none) (.none) (.none) 185 1 186), o2] } }
noncomputable def trB (P : Params) : BT := .node (boot_o_0 P) (.node (boot_o_1 P) (.node (boot_o_3 P) (.node (boot_o_7 P) .nil .nil) (.node o0 .nil .nil)) (.node (boot_o_5 P) (.node (boot_o_9 P) .nil .nil) (.node (codeO (Str.ofString "<module>") 182 (Str.ofString "<module>") 183 184 1 0 0 11 false 12 (.none) (.none) (.none) 185 1 186) .nil .nil))) (.node (boot_o_2 P) (.node (boot_o_4 P) (.node (boot_o_8 P) .nil .nil) (.node o1 .nil .nil)) (.node (boot_o_6 P) (.node (boot_o_10 P) .nil .nil) (.node o2 .nil .nil)))
noncomputable def o3 (P : Params) : Obj := { cls := .type "dict", data := Data.dict #[ent P (Str.ofString "__name__") 165 (.str (Str.ofString "quic.errors") 187), ent P (Str.ofString "__doc__") 166 (.none), ent P (Str.ofString "__package__") 167 (.none), ent P (Str.ofString "__loader__") 168 (.builtin "__main__.__loader__#opaque"), ent P (Str.ofString "__spec__") 169 (.none), ent P (Str.ofString "__annotations__") 170 (.ref 6), ent P (Str.ofString "__builtins__") 171 (.ref 4), ent P (Str.ofString "__file__") 173 (.str (Str.ofString "/claim/cut.py") 172), ent P (Str.ofString "__cached__") 174 (.none), ent P (Str.ofString "INTERNAL_ERROR") 190 (.int 1 189), ent P (Str.ofString "QuicError") 223 (.ref 31), ent P (Str.ofString "PING") 225 (.int 1 224), ent P (Str.ofString "ACK") 227 (.int 2 226), ent P (Str.ofString "ACK_ECN") 229 (.int 3 228), ent P (Str.ofString "RESET_STREAM") 231 (.int 4 230), ent P (Str.ofString "STOP_SENDING") 233 (.int 5 232), ent P (Str.ofString "CRYPTO") 235 (.int 6 234), ent P (Str.ofString "NEW_TOKEN") 237 (.int 7 236), ent P (Str.ofString "STREAM") 239 (.int 8 238), ent P (Str.ofString "MAX_DATA") 241 (.int 16 240), ent P (Str.ofString "MAX_STREAM_DATA") 243 (.int 17 242), ent P (Str.ofString "MAX_STREAMS_BIDI") 245 (.int 18 244), ent P (Str.ofString "MAX_STREAMS_UNI") 247 (.int 19 246), ent P (Str.ofString "DATA_BLOCKED") 249 (.int 20 248), ent P (Str.ofString "STREAM_DATA_BLOCKED") 251 (.int 21 250), ent P (Str.ofString "STREAMS_BLOCKED_BIDI") 253 (.int 22 252), ent P (Str.ofString "STREAMS_BLOCKED_UNI") 255 (.int 23 254)] 27 }
noncomputable def o4 : Obj := { cls := .type "tuple", data := Data.seq #[.type "Exception"] }
noncomputable def o5 : Obj := { cls := .type "type", data := Data.cls { name := Str.ofString "QuicError", bases := [.type "Exception"], mro := [.ref 31, .type "Exception", .type "BaseException", .type "object"], ns := 30, qualname := Str.ofString "QuicError" }, slots := #[.some (.ref 15), .none, .some (.str (Str.ofString "QuicError") 191), .some (.str (Str.ofString "QuicError") 199), .some (.builtin "Exception.__new__"), .some (.bool true)] }
noncomputable def o6 : Obj := { cls := .none, data := Data.fields #[.int 5 0, .int 4 0, .ref 27] }
noncomputable def o7 (P : Params) : Obj := { cls := .type "dict", data := Data.dict #[ent P (Str.ofString "__module__") 198 (.str (Str.ofString "quic.errors") 187), ent P (Str.ofString "__qualname__") 200 (.str (Str.ofString "QuicError") 199), ent P (Str.ofString "__firstlineno__") 202 (.int 3 201), ent P (Str.ofString "__init__") 212 (.ref 28), ent P (Str.ofString "__static_attributes__") 216 (.ref 29)] 5 }
noncomputable def o8 : Obj := { cls := .type "super", data := Data.fields #[.ref 31, .ref 31, .ref 31] }
noncomputable def o9 : Obj := { cls := .type "frame", slots := #[.some (.ref 20), .some (.ref 3), .some (.ref 17), .none, .some (.str (Str.ofString "quic.errors") 187), .none, .some (.ref 0)] }
noncomputable def o10 : Obj := { cls := .type "tuple", data := Data.seq #[.str (Str.ofString "code") 213, .str (Str.ofString "frame_type") 214, .str (Str.ofString "text") 215] }
noncomputable def o11 (P : Params) : Obj := { cls := .none, data := Data.dict #[ent P (Str.ofString "type.__subclasses__.Exception.0") 220 (.int 31 0), ent P (Str.ofString "type.__subclasses__.Exception.n") 221 (.int 1 0)] 2 }
noncomputable def o12 : Obj := { cls := .type "builtin_function_or_method", data := Data.fields #[.builtin "type.__prepare__", .type "type"] }
noncomputable def o13 : Obj := { cls := .type "getset_descriptor", data := Data.fields #[.str (Str.ofString "__weakref__") 217, .ref 31, .builtin "ExceptionGroup.__weakref__", .none] }
noncomputable def o14 : Obj := { cls := .type "tuple", data := Data.seq #[.str (Str.ofString "self") 206, .str (Str.ofString "code") 207, .str (Str.ofString "frame_type") 208, .str (Str.ofString "text") 209] }
noncomputable def o15 : Obj := { cls := .none, data := Data.fields #[.int 3 0, .int 0 0, .ref 20] }
noncomputable def o16 : Obj := { cls := .type "builtin_function_or_method", data := Data.fields #[.builtin "object.__init_subclass__", .ref 31] }
noncomputable def o17 (P : Params) : Obj := { cls := .type "dict", data := Data.dict #[ent P (Str.ofString "__module__") 198 (.str (Str.ofString "quic.errors") 187), ent P (Str.ofString "__firstlineno__") 202 (.int 3 201), ent P (Str.ofString "__init__") 212 (.ref 28), ent P (Str.ofString "__static_attributes__") 216 (.ref 29), ent P (Str.ofString "__weakref__") 218 (.ref 32), ent P (Str.ofString "__doc__") 219 (.none)] 3 }
noncomputable def trC (P : Params) : BT := .node (boot_o_0 P) (.node (boot_o_1 P) (.node (o3 P) (.node (boot_o_7 P) (.node o4 (.node o5 .nil .nil) .nil) (.node o1 .nil .nil)) (.node o0 (.node o6 .nil .nil) (.node (codeO (Str.ofString "__init__") 203 (Str.ofString "QuicError.__init__") 204 205 5 4 3 22 true 23 (.ref 24) (.ref 25) (.ref 26) 210 5 211) .nil .nil))) (.node (boot_o_5 P) (.node (boot_o_9 P) (.node (o7 P) (.node o8 .nil .nil) .nil) (.node o0 .nil .nil)) (.node (codeO (Str.ofString "<module>") 182 (Str.ofString "<module>") 183 184 1 0 0 11 false 12 (.none) (.none) (.none) 185 1 186) (.node o9 .nil .nil) (.node o10 .nil .nil)))) (.node (o11 P) (.node (boot_o_4 P) (.node (boot_o_8 P) (.node o12 (.node o13 .nil .nil) .nil) (.node o14 .nil .nil)) (.node o15 (.node (codeO (Str.ofString "QuicError") 193 (Str.ofString "QuicError") 194 195 3 0 0 18 false 19 (.none) (.none) (.none) 196 3 197) .nil .nil) (.node (fdB initD (Str.ofString "QuicError.__init__") (.str (Str.ofString "quic.errors") 187) 27) .nil .nil))) (.node (boot_o_6 P) (.node (boot_o_10 P) (.node o0 (.node o16 .nil .nil) .nil) (.node (fdA initD (Str.ofString "QuicError.__init__")) .nil .nil)) (.node o2 (.node o0 .nil .nil) (.node (o17 P) .nil .nil))))
noncomputable def o18 (P : Params) : Obj := { cls := .type "dict", data := Data.dict #[ent P (Str.ofString "__name__") 165 (.str (Str.ofString "quic.framesout") 310), ent P (Str.ofString "__doc__") 166 (.none), ent P (Str.ofString "__package__") 167 (.none), ent P (Str.ofString "__loader__") 168 (.builtin "__main__.__loader__#opaque"), ent P (Str.ofString "__spec__") 169 (.none), ent P (Str.ofString "__annotations__") 170 (.ref 6), ent P (Str.ofString "__builtins__") 171 (.ref 4), ent P (Str.ofString "__file__") 173 (.str (Str.ofString "/claim/cut.py") 172), ent P (Str.ofString "__cached__") 174 (.none), ent P (Str.ofString "INTERNAL_ERROR") 190 (.int 1 189), ent P (Str.ofString "QuicError") 223 (.ref 31), ent P (Str.ofString "PING") 225 (.int 1 224), ent P (Str.ofString "ACK") 227 (.int 2 226), ent P (Str.ofString "ACK_ECN") 229 (.int 3 228), ent P (Str.ofString "RESET_STREAM") 231 (.int 4 230), ent P (Str.ofString "STOP_SENDING") 233 (.int 5 232), ent P (Str.ofString "CRYPTO") 235 (.int 6 234), ent P (Str.ofString "NEW_TOKEN") 237 (.int 7 236), ent P (Str.ofString "STREAM") 239 (.int 8 238), ent P (Str.ofString "MAX_DATA") 241 (.int 16 240), ent P (Str.ofString "MAX_STREAM_DATA") 243 (.int 17 242), ent P (Str.ofString "MAX_STREAMS_BIDI") 245 (.int 18 244), ent P (Str.ofString "MAX_STREAMS_UNI") 247 (.int 19 246), ent P (Str.ofString "DATA_BLOCKED") 249 (.int 20 248), ent P (Str.ofString "STREAM_DATA_BLOCKED") 251 (.int 21 250), ent P (Str.ofString "STREAMS_BLOCKED_BIDI") 253 (.int 22 252), ent P (Str.ofString "STREAMS_BLOCKED_UNI") 255 (.int 23 254), ent P (Str.ofString "NEW_CONNECTION_ID") 257 (.int 24 256), ent P (Str.ofString "RETIRE_CONNECTION_ID") 259 (.int 25 258), ent P (Str.ofString "PATH_CHALLENGE") 261 (.int 26 260), ent P (Str.ofString "PATH_RESPONSE") 263 (.int 27 262), ent P (Str.ofString "CLOSE") 265 (.int 28 264), ent P (Str.ofString "CLOSE_APPLICATION") 267 (.int 29 266), ent P (Str.ofString "HANDSHAKE_DONE") 269 (.int 30 268), ent P (Str.ofString "BIT_FIN") 271 (.int 1 270), ent P (Str.ofString "BIT_LENGTH") 273 (.int 2 272), ent P (Str.ofString "BIT_OFFSET") 275 (.int 4 274), ent P (Str.ofString "VARINT_SIZES") 282 (.ref 35), ent P (Str.ofString "put_whole") 292 (.ref 42), ent P (Str.ofString "varint_size") 300 (.ref 49), ent P (Str.ofString "put_varint") 309 (.ref 56), ent P (Str.ofString "NUMBER_FRAMES") 330 (.ref 57), ent P (Str.ofString "put_numbers") 336 (.ref 62)] 43 }
noncomputable def o19 : Obj := { cls := .type "tuple", data := Data.seq #[.int 1 278, .int 2 279, .int 4 280, .int 8 281] }
noncomputable def o20 (P : Params) : Obj := { cls := .type "dict", data := Data.dict #[ent P (Str.ofString "ping") 312 (.int 1 224), ent P (Str.ofString "reset_stream") 313 (.int 4 230), ent P (Str.ofString "stop_sending") 314 (.int 5 232), ent P (Str.ofString "max_data") 315 (.int 16 240), ent P (Str.ofString "max_stream_data") 316 (.int 17 242), ent P (Str.ofString "data_blocked") 317 (.int 20 248), ent P (Str.ofString "stream_data_blocked") 318 (.int 21 250), ent P (Str.ofString "retire_connection_id") 319 (.int 25 258), ent P (Str.ofString "handshake_done") 320 (.int 30 268)] 9 }
noncomputable def o21 : Obj := { cls := .type "tuple", data := Data.seq #[.str (Str.ofString "n") 296, .str (Str.ofString "size") 297] }
noncomputable def o22 : Obj := { cls := .none, data := Data.fields #[.int 3 0, .int 0 0, .ref 20, .int 38 0, .int 0 0, .ref 41, .int 46 0, .int 0 0, .ref 48, .int 51 0, .int 0 0, .ref 55, .int 60 0, .int 0 0, .ref 61] }
noncomputable def o23 : Obj := { cls := .type "tuple", data := Data.seq #[.str (Str.ofString "n") 304, .str (Str.ofString "size") 305, .str (Str.ofString "least") 306] }
noncomputable def o24 : Obj := { cls := .type "tuple", data := Data.seq #[.str (Str.ofString "n") 286, .str (Str.ofString "size") 287, .str (Str.ofString "found") 288, .str (Str.ofString "place") 289] }
noncomputable def trD (P : Params) : BT := .node (boot_o_0 P) (.node (boot_o_1 P) (.node (o18 P) (.node (boot_o_7 P) (.node o4 (.node o5 .nil .nil) (.node (fnA 1) .nil .nil)) (.node o1 (.node o0 .nil .nil) (.node (codeO (Str.ofString "put_varint") 301 (Str.ofString "put_varint") 302 303 51 2 3 50 true 51 (.ref 52) (.ref 53) (.ref 54) 307 51 308) .nil .nil))) (.node o0 (.node o6 (.node o19 .nil .nil) (.node o1 .nil .nil)) (.node (codeO (Str.ofString "__init__") 203 (Str.ofString "QuicError.__init__") 204 205 5 4 3 22 true 23 (.ref 24) (.ref 25) (.ref 26) 210 5 211) (.node o0 .nil .nil) (.node o1 .nil .nil)))) (.node (boot_o_5 P) (.node (boot_o_9 P) (.node (o7 P) (.node o8 .nil .nil) (.node (fnB 1 (.str (Str.ofString "quic.varint") 276) 48) .nil .nil)) (.node o0 (.node (codeO (Str.ofString "put_whole") 283 (Str.ofString "put_whole") 284 285 38 2 3 36 true 37 (.ref 38) (.ref 39) (.ref 40) 290 38 291) .nil .nil) (.node (o20 P) .nil .nil))) (.node (codeO (Str.ofString "<module>") 182 (Str.ofString "<module>") 183 184 1 0 0 11 false 12 (.none) (.none) (.none) 185 1 186) (.node o9 (.node o1 .nil .nil) (.node o0 .nil .nil)) (.node o10 (.node o21 .nil .nil) (.node (codeO (Str.ofString "put_numbers") 331 (Str.ofString "put_numbers") 332 333 60 1 3 58 true 59 (.none) (.none) (.ref 60) 334 60 335) .nil .nil))))) (.node (o11 P) (.node (boot_o_4 P) (.node (boot_o_8 P) (.node o12 (.node o13 .nil .nil) (.node (codeO (Str.ofString "varint_size") 293 (Str.ofString "varint_size") 294 295 46 1 3 43 true 44 (.ref 45) (.ref 46) (.ref 47) 298 46 299) .nil .nil)) (.node o14 (.node (fnA 0) .nil .nil) (.node (fnB 2 (.str (Str.ofString "quic.varint") 276) 55) .nil .nil))) (.node o22 (.node (codeO (Str.ofString "QuicError") 193 (Str.ofString "QuicError") 194 195 3 0 0 18 false 19 (.none) (.none) (.none) 196 3 197) (.node o0 .nil .nil) (.node o23 .nil .nil)) (.node (fdB initD (Str.ofString "QuicError.__init__") (.str (Str.ofString "quic.errors") 187) 27) (.node o1 .nil .nil) (.node (fnA 3) .nil .nil)))) (.node (boot_o_6 P) (.node (boot_o_10 P) (.node o0 (.node o16 .nil .nil) (.node o0 .nil .nil)) (.node (fdA initD (Str.ofString "QuicError.__init__")) (.node (fnB 0 (.str (Str.ofString "quic.varint") 276) 41) .nil .nil) (.node o0 .nil .nil))) (.node o2 (.node o0 (.node o24 .nil .nil) (.node (fnA 2) .nil .nil)) (.node (o17 P) (.node o0 .nil .nil) (.node (fnB 3 (.str (Str.ofString "quic.framesout") 310) 61) .nil .nil)))))
noncomputable def o25 (P : Params) : Obj := { cls := .type "dict", data := Data.dict #[ent P (Str.ofString "__name__") 165 (.str (Str.ofString "quic.packing") 433), ent P (Str.ofString "__doc__") 166 (.none), ent P (Str.ofString "__package__") 167 (.none), ent P (Str.ofString "__loader__") 168 (.builtin "__main__.__loader__#opaque"), ent P (Str.ofString "__spec__") 169 (.none), ent P (Str.ofString "__annotations__") 170 (.ref 6), ent P (Str.ofString "__builtins__") 171 (.ref 4), ent P (Str.ofString "__file__") 173 (.str (Str.ofString "/claim/cut.py") 172), ent P (Str.ofString "__cached__") 174 (.none), ent P (Str.ofString "INTERNAL_ERROR") 190 (.int 1 189), ent P (Str.ofString "QuicError") 223 (.ref 31), ent P (Str.ofString "PING") 225 (.int 1 224), ent P (Str.ofString "ACK") 227 (.int 2 226), ent P (Str.ofString "ACK_ECN") 229 (.int 3 228), ent P (Str.ofString "RESET_STREAM") 231 (.int 4 230), ent P (Str.ofString "STOP_SENDING") 233 (.int 5 232), ent P (Str.ofString "CRYPTO") 235 (.int 6 234), ent P (Str.ofString "NEW_TOKEN") 237 (.int 7 236), ent P (Str.ofString "STREAM") 239 (.int 8 238), ent P (Str.ofString "MAX_DATA") 241 (.int 16 240), ent P (Str.ofString "MAX_STREAM_DATA") 243 (.int 17 242), ent P (Str.ofString "MAX_STREAMS_BIDI") 245 (.int 18 244), ent P (Str.ofString "MAX_STREAMS_UNI") 247 (.int 19 246), ent P (Str.ofString "DATA_BLOCKED") 249 (.int 20 248), ent P (Str.ofString "STREAM_DATA_BLOCKED") 251 (.int 21 250), ent P (Str.ofString "STREAMS_BLOCKED_BIDI") 253 (.int 22 252), ent P (Str.ofString "STREAMS_BLOCKED_UNI") 255 (.int 23 254), ent P (Str.ofString "NEW_CONNECTION_ID") 257 (.int 24 256), ent P (Str.ofString "RETIRE_CONNECTION_ID") 259 (.int 25 258), ent P (Str.ofString "PATH_CHALLENGE") 261 (.int 26 260), ent P (Str.ofString "PATH_RESPONSE") 263 (.int 27 262), ent P (Str.ofString "CLOSE") 265 (.int 28 264), ent P (Str.ofString "CLOSE_APPLICATION") 267 (.int 29 266), ent P (Str.ofString "HANDSHAKE_DONE") 269 (.int 30 268), ent P (Str.ofString "BIT_FIN") 271 (.int 1 270), ent P (Str.ofString "BIT_LENGTH") 273 (.int 2 272), ent P (Str.ofString "BIT_OFFSET") 275 (.int 4 274), ent P (Str.ofString "VARINT_SIZES") 282 (.ref 35), ent P (Str.ofString "put_whole") 292 (.ref 42), ent P (Str.ofString "varint_size") 300 (.ref 49), ent P (Str.ofString "put_varint") 309 (.ref 56), ent P (Str.ofString "NUMBER_FRAMES") 330 (.ref 57), ent P (Str.ofString "put_numbers") 336 (.ref 62), ent P (Str.ofString "put_counted") 343 (.ref 69), ent P (Str.ofString "ack_numbers") 356 (.ref 76), ent P (Str.ofString "put_ack") 370 (.ref 83), ent P (Str.ofString "put_stream") 385 (.ref 90), ent P (Str.ofString "put_new_cid") 397 (.ref 97), ent P (Str.ofString "put_close") 408 (.ref 104), ent P (Str.ofString "put_octets_frame") 416 (.ref 111), ent P (Str.ofString "put_frame") 425 (.ref 118), ent P (Str.ofString "frame_size") 432 (.ref 125), ent P (Str.ofString "DATA_KINDS") 437 (.ref 126), ent P (Str.ofString "taken_and_left") 449 (.ref 133), ent P (Str.ofString "data_of") 456 (.ref 140)] 55 }
noncomputable def o26 : Obj := { cls := .type "tuple", data := Data.seq #[.str (Str.ofString "f") 360, .str (Str.ofString "kind") 361, .str (Str.ofString "delay") 362, .str (Str.ofString "ranges") 363, .str (Str.ofString "ecn") 364, .str (Str.ofString "greatest") 365, .str (Str.ofString "others") 366, .str (Str.ofString "counts") 367] }
noncomputable def o27 : Obj := { cls := .type "tuple", data := Data.seq #[.str (Str.ofString "f") 412, .str (Str.ofString "kind") 413] }
noncomputable def o28 : Obj := { cls := .type "tuple", data := Data.seq #[.str (Str.ofString "data") 340] }
noncomputable def o29 : Obj := { cls := .type "tuple", data := Data.seq #[.str (Str.ofString "frames") 441, .str (Str.ofString "room") 442, .str (Str.ofString "taken") 443, .str (Str.ofString "left") 444, .str (Str.ofString "frame") 445, .str (Str.ofString "size") 446] }
noncomputable def o30 : Obj := { cls := .type "tuple", data := Data.seq #[.str (Str.ofString "f") 429] }
noncomputable def o31 : Obj := { cls := .type "tuple", data := Data.seq #[.str (Str.ofString "f") 389, .str (Str.ofString "kind") 390, .str (Str.ofString "sequence") 391, .str (Str.ofString "retire_prior") 392, .str (Str.ofString "cid") 393, .str (Str.ofString "token") 394] }
noncomputable def o32 : Obj := { cls := .type "tuple", data := Data.seq #[.str (Str.ofString "ranges") 347, .str (Str.ofString "high") 348, .str (Str.ofString "low") 349, .str (Str.ofString "found") 350, .str (Str.ofString "more") 351, .str (Str.ofString "next_low") 352, .str (Str.ofString "next_high") 353] }
noncomputable def o33 : Obj := { cls := .type "tuple", data := Data.seq #[.str (Str.ofString "frame") 453] }
noncomputable def o34 : Obj := { cls := .none, data := Data.fields #[.int 3 0, .int 0 0, .ref 20, .int 38 0, .int 0 0, .ref 41, .int 46 0, .int 0 0, .ref 48, .int 51 0, .int 0 0, .ref 55, .int 60 0, .int 0 0, .ref 61, .int 62 0, .int 0 0, .ref 68, .int 64 0, .int 0 0, .ref 75, .int 71 0, .int 0 0, .ref 82, .int 76 0, .int 0 0, .ref 89, .int 81 0, .int 0 0, .ref 96, .int 84 0, .int 0 0, .ref 103, .int 89 0, .int 0 0, .ref 110, .int 102 0, .int 0 0, .ref 117, .int 120 0, .int 0 0, .ref 124, .int 124 0, .int 0 0, .ref 132, .int 134 0, .int 0 0, .ref 139] }
noncomputable def o35 : Obj := { cls := .type "tuple", data := Data.seq #[.str (Str.ofString "f") 401, .str (Str.ofString "kind") 402, .str (Str.ofString "code") 403, .str (Str.ofString "frame_type") 404, .str (Str.ofString "reason") 405] }
noncomputable def o36 : Obj := { cls := .type "tuple", data := Data.seq #[.str (Str.ofString "f") 420, .str (Str.ofString "kind") 421, .str (Str.ofString "found") 422] }
noncomputable def o37 : Obj := { cls := .type "tuple", data := Data.seq #[.str (Str.ofString "f") 374, .str (Str.ofString "is_last") 375, .str (Str.ofString "kind") 376, .str (Str.ofString "number") 377, .str (Str.ofString "offset") 378, .str (Str.ofString "data") 379, .str (Str.ofString "fin") 380, .str (Str.ofString "told") 381, .str (Str.ofString "head") 382] }
noncomputable def o38 : Obj := { cls := .type "tuple", data := Data.seq #[.str (Str.ofString "crypto") 435, .str (Str.ofString "stream") 436] }
noncomputable def trE (P : Params) : BT := .node (boot_o_0 P) (.node (boot_o_1 P) (.node (o25 P) (.node (boot_o_7 P) (.node o4 (.node o5 (.node o0 (.node o0 .nil .nil) .nil) (.node (fnA 8) .nil .nil)) (.node (fnA 1) (.node o26 .nil .nil) (.node (fnB 10 (.str (Str.ofString "quic.framesout") 310) 110) .nil .nil))) (.node o1 (.node o0 (.node o1 (.node o1 .nil .nil) .nil) (.node (codeO (Str.ofString "put_close") 398 (Str.ofString "put_close") 399 400 84 1 3 98 true 99 (.ref 100) (.ref 101) (.ref 102) 406 84 407) .nil .nil)) (.node (codeO (Str.ofString "put_varint") 301 (Str.ofString "put_varint") 302 303 51 2 3 50 true 51 (.ref 52) (.ref 53) (.ref 54) 307 51 308) (.node o0 .nil .nil) (.node o0 .nil .nil)))) (.node o0 (.node o6 (.node o19 (.node (fnA 4) (.node (fnA 13) .nil .nil) .nil) (.node o1 .nil .nil)) (.node o1 (.node (fnB 6 (.str (Str.ofString "quic.framesout") 310) 82) .nil .nil) (.node o0 .nil .nil))) (.node (codeO (Str.ofString "__init__") 203 (Str.ofString "QuicError.__init__") 204 205 5 4 3 22 true 23 (.ref 24) (.ref 25) (.ref 26) 210 5 211) (.node o0 (.node (codeO (Str.ofString "ack_numbers") 344 (Str.ofString "ack_numbers") 345 346 64 1 3 70 true 71 (.ref 72) (.ref 73) (.ref 74) 354 64 355) (.node (codeO (Str.ofString "data_of") 450 (Str.ofString "data_of") 451 452 134 1 3 134 true 135 (.ref 136) (.ref 137) (.ref 138) 454 134 455) .nil .nil) .nil) (.node o27 .nil .nil)) (.node o1 (.node o0 .nil .nil) (.node (fnA 12) .nil .nil))))) (.node (boot_o_5 P) (.node (boot_o_9 P) (.node (o7 P) (.node o8 (.node o28 (.node o29 .nil .nil) .nil) (.node (fnB 8 (.str (Str.ofString "quic.framesout") 310) 96) .nil .nil)) (.node (fnB 1 (.str (Str.ofString "quic.varint") 276) 48) (.node (fnA 6) .nil .nil) (.node o1 .nil .nil))) (.node o0 (.node (codeO (Str.ofString "put_whole") 283 (Str.ofString "put_whole") 284 285 38 2 3 36 true 37 (.ref 38) (.ref 39) (.ref 40) 290 38 291) (.node o0 (.node o0 .nil .nil) .nil) (.node o0 .nil .nil)) (.node (o20 P) (.node (codeO (Str.ofString "put_stream") 371 (Str.ofString "put_stream") 372 373 76 2 3 84 true 85 (.ref 86) (.ref 87) (.ref 88) 383 76 384) .nil .nil) (.node o30 .nil .nil)))) (.node (codeO (Str.ofString "<module>") 182 (Str.ofString "<module>") 183 184 1 0 0 11 false 12 (.none) (.none) (.none) 185 1 186) (.node o9 (.node o1 (.node (fnB 4 (.str (Str.ofString "quic.framesout") 310) 68) (.node (fnB 13 (.str (Str.ofString "quic.packing") 433) 132) .nil .nil) .nil) (.node o0 .nil .nil)) (.node o0 (.node o1 .nil .nil) (.node (codeO (Str.ofString "put_frame") 417 (Str.ofString "put_frame") 418 419 102 1 3 112 true 113 (.ref 114) (.ref 115) (.ref 116) 423 102 424) .nil .nil))) (.node o10 (.node o21 (.node o0 .nil .nil) (.node (fnA 10) .nil .nil)) (.node (codeO (Str.ofString "put_numbers") 331 (Str.ofString "put_numbers") 332 333 60 1 3 58 true 59 (.none) (.none) (.ref 60) 334 60 335) (.node o31 .nil .nil) (.node (fnB 12 (.str (Str.ofString "quic.framesout") 310) 124) .nil .nil)))))) (.node (o11 P) (.node (boot_o_4 P) (.node (boot_o_8 P) (.node o12 (.node o13 (.node o1 (.node o1 .nil .nil) .nil) (.node (codeO (Str.ofString "put_new_cid") 386 (Str.ofString "put_new_cid") 387 388 81 1 3 91 true 92 (.ref 93) (.ref 94) (.ref 95) 395 81 396) .nil .nil)) (.node (codeO (Str.ofString "varint_size") 293 (Str.ofString "varint_size") 294 295 46 1 3 43 true 44 (.ref 45) (.ref 46) (.ref 47) 298 46 299) (.node o0 .nil .nil) (.node o0 .nil .nil))) (.node o14 (.node (fnA 0) (.node o32 (.node o33 .nil .nil) .nil) (.node (fnB 9 (.str (Str.ofString "quic.framesout") 310) 103) .nil .nil)) (.node (fnB 2 (.str (Str.ofString "quic.varint") 276) 55) (.node (fnA 7) .nil .nil) (.node o1 .nil .nil)))) (.node o34 (.node (codeO (Str.ofString "QuicError") 193 (Str.ofString "QuicError") 194 195 3 0 0 18 false 19 (.none) (.none) (.none) 196 3 197) (.node o0 (.node (codeO (Str.ofString "put_counted") 337 (Str.ofString "put_counted") 338 339 62 1 3 63 true 64 (.ref 65) (.ref 66) (.ref 67) 341 62 342) (.node (codeO (Str.ofString "taken_and_left") 438 (Str.ofString "taken_and_left") 439 440 124 2 3 127 true 128 (.ref 129) (.ref 130) (.ref 131) 447 124 448) .nil .nil) .nil) (.node o35 .nil .nil)) (.node o23 (.node o0 .nil .nil) (.node (fnA 11) .nil .nil))) (.node (fdB initD (Str.ofString "QuicError.__init__") (.str (Str.ofString "quic.errors") 187) 27) (.node o1 (.node (fnB 5 (.str (Str.ofString "quic.framesout") 310) 75) (.node (fnB 14 (.str (Str.ofString "quic.packing") 433) 139) .nil .nil) .nil) (.node o0 .nil .nil)) (.node (fnA 3) (.node o1 .nil .nil) (.node (codeO (Str.ofString "frame_size") 426 (Str.ofString "frame_size") 427 428 120 1 3 119 true 120 (.ref 121) (.ref 122) (.ref 123) 430 120 431) .nil .nil))))) (.node (boot_o_6 P) (.node (boot_o_10 P) (.node o0 (.node o16 (.node o0 (.node o0 .nil .nil) .nil) (.node o0 .nil .nil)) (.node o0 (.node (codeO (Str.ofString "put_ack") 357 (Str.ofString "put_ack") 358 359 71 1 3 77 true 78 (.ref 79) (.ref 80) (.ref 81) 368 71 369) .nil .nil) (.node o36 .nil .nil))) (.node (fdA initD (Str.ofString "QuicError.__init__")) (.node (fnB 0 (.str (Str.ofString "quic.varint") 276) 41) (.node (fnA 5) (.node (fnA 14) .nil .nil) .nil) (.node o1 .nil .nil)) (.node o0 (.node (fnB 7 (.str (Str.ofString "quic.framesout") 310) 89) .nil .nil) (.node o0 .nil .nil)))) (.node o2 (.node o0 (.node o24 (.node o0 (.node o0 .nil .nil) .nil) (.node (fnA 9) .nil .nil)) (.node (fnA 2) (.node o37 .nil .nil) (.node (fnB 11 (.str (Str.ofString "quic.framesout") 310) 117) .nil .nil))) (.node (o17 P) (.node o0 (.node o1 .nil .nil) (.node (codeO (Str.ofString "put_octets_frame") 409 (Str.ofString "put_octets_frame") 410 411 89 1 3 105 true 106 (.ref 107) (.ref 108) (.ref 109) 414 89 415) .nil .nil)) (.node (fnB 3 (.str (Str.ofString "quic.framesout") 310) 61) (.node o0 .nil .nil) (.node o38 .nil .nil))))))
noncomputable def o39 (P : Params) : Obj := { cls := .type "dict", data := Data.dict #[ent P (Str.ofString "__name__") 165 (.str (Str.ofString "law_tk0096_01") 501), ent P (Str.ofString "__doc__") 166 (.none), ent P (Str.ofString "__package__") 167 (.none), ent P (Str.ofString "__loader__") 168 (.builtin "__main__.__loader__#opaque"), ent P (Str.ofString "__spec__") 169 (.none), ent P (Str.ofString "__annotations__") 170 (.ref 6), ent P (Str.ofString "__builtins__") 171 (.ref 4), ent P (Str.ofString "__file__") 173 (.str (Str.ofString "/claim/cut.py") 172), ent P (Str.ofString "__cached__") 174 (.none), ent P (Str.ofString "INTERNAL_ERROR") 190 (.int 1 189), ent P (Str.ofString "QuicError") 223 (.ref 31), ent P (Str.ofString "PING") 225 (.int 1 224), ent P (Str.ofString "ACK") 227 (.int 2 226), ent P (Str.ofString "ACK_ECN") 229 (.int 3 228), ent P (Str.ofString "RESET_STREAM") 231 (.int 4 230), ent P (Str.ofString "STOP_SENDING") 233 (.int 5 232), ent P (Str.ofString "CRYPTO") 235 (.int 6 234), ent P (Str.ofString "NEW_TOKEN") 237 (.int 7 236), ent P (Str.ofString "STREAM") 239 (.int 8 238), ent P (Str.ofString "MAX_DATA") 241 (.int 16 240), ent P (Str.ofString "MAX_STREAM_DATA") 243 (.int 17 242), ent P (Str.ofString "MAX_STREAMS_BIDI") 245 (.int 18 244), ent P (Str.ofString "MAX_STREAMS_UNI") 247 (.int 19 246), ent P (Str.ofString "DATA_BLOCKED") 249 (.int 20 248), ent P (Str.ofString "STREAM_DATA_BLOCKED") 251 (.int 21 250), ent P (Str.ofString "STREAMS_BLOCKED_BIDI") 253 (.int 22 252), ent P (Str.ofString "STREAMS_BLOCKED_UNI") 255 (.int 23 254), ent P (Str.ofString "NEW_CONNECTION_ID") 257 (.int 24 256), ent P (Str.ofString "RETIRE_CONNECTION_ID") 259 (.int 25 258), ent P (Str.ofString "PATH_CHALLENGE") 261 (.int 26 260), ent P (Str.ofString "PATH_RESPONSE") 263 (.int 27 262), ent P (Str.ofString "CLOSE") 265 (.int 28 264), ent P (Str.ofString "CLOSE_APPLICATION") 267 (.int 29 266), ent P (Str.ofString "HANDSHAKE_DONE") 269 (.int 30 268), ent P (Str.ofString "BIT_FIN") 271 (.int 1 270), ent P (Str.ofString "BIT_LENGTH") 273 (.int 2 272), ent P (Str.ofString "BIT_OFFSET") 275 (.int 4 274), ent P (Str.ofString "VARINT_SIZES") 282 (.ref 35), ent P (Str.ofString "put_whole") 292 (.ref 42), ent P (Str.ofString "varint_size") 300 (.ref 49), ent P (Str.ofString "put_varint") 309 (.ref 56), ent P (Str.ofString "NUMBER_FRAMES") 330 (.ref 57), ent P (Str.ofString "put_numbers") 336 (.ref 62), ent P (Str.ofString "put_counted") 343 (.ref 69), ent P (Str.ofString "ack_numbers") 356 (.ref 76), ent P (Str.ofString "put_ack") 370 (.ref 83), ent P (Str.ofString "put_stream") 385 (.ref 90), ent P (Str.ofString "put_new_cid") 397 (.ref 97), ent P (Str.ofString "put_close") 408 (.ref 104), ent P (Str.ofString "put_octets_frame") 416 (.ref 111), ent P (Str.ofString "put_frame") 425 (.ref 118), ent P (Str.ofString "frame_size") 432 (.ref 125), ent P (Str.ofString "DATA_KINDS") 437 (.ref 126), ent P (Str.ofString "taken_and_left") 449 (.ref 133), ent P (Str.ofString "data_of") 456 (.ref 140), ent P (Str.ofString "with_data") 466 (.ref 147), ent P (Str.ofString "data_room") 476 (.ref 154), ent P (Str.ofString "cut_frame") 487 (.ref 161), ent P (Str.ofString "filled") 500 (.ref 168), ent P (Str.ofString "_law_take") 510 (.ref 175), ent P (Str.ofString "_law_frame") 516 (.ref 180), ent P (Str.ofString "_law_width") 523 (.ref 187), ent P (Str.ofString "_law_size") 531 (.ref 194), ent P (Str.ofString "_law_is_cut") 540 (.ref 201), ent P (Str.ofString "_law_goes_right") 552 (.ref 208), ent P (Str.ofString "_law_is_turn") 558 (.ref 213), ent P (Str.ofString "law") 571 (.ref 220)] 67 }
noncomputable def o40 : Obj := { cls := .type "tuple", data := Data.seq #[.str (Str.ofString "frame") 460, .str (Str.ofString "skipped") 461, .str (Str.ofString "data") 462, .str (Str.ofString "fin") 463] }
noncomputable def o41 : Obj := { cls := .type "tuple", data := Data.seq #[.str (Str.ofString "number") 520] }
noncomputable def o42 : Obj := { cls := .type "tuple", data := Data.seq #[.str (Str.ofString "box") 506, .str (Str.ofString "many") 507] }
noncomputable def o43 : Obj := { cls := .type "tuple", data := Data.seq #[.str (Str.ofString "frame") 535, .str (Str.ofString "part") 536, .str (Str.ofString "rest") 537] }
noncomputable def o44 : Obj := { cls := .type "tuple", data := Data.seq #[.str (Str.ofString "frame") 480, .str (Str.ofString "room") 481, .str (Str.ofString "many") 482, .str (Str.ofString "data") 483, .str (Str.ofString "is_end") 484] }
noncomputable def o45 : Obj := { cls := .type "tuple", data := Data.seq #[.str (Str.ofString "script") 562, .str (Str.ofString "box") 563, .str (Str.ofString "waiting") 564, .str (Str.ofString "many") 565, .str (Str.ofString "turn") 566, .str (Str.ofString "put") 567, .str (Str.ofString "room") 568] }
noncomputable def o46 : Obj := { cls := .none, data := Data.fields #[.int 3 0, .int 0 0, .ref 20, .int 38 0, .int 0 0, .ref 41, .int 46 0, .int 0 0, .ref 48, .int 51 0, .int 0 0, .ref 55, .int 60 0, .int 0 0, .ref 61, .int 62 0, .int 0 0, .ref 68, .int 64 0, .int 0 0, .ref 75, .int 71 0, .int 0 0, .ref 82, .int 76 0, .int 0 0, .ref 89, .int 81 0, .int 0 0, .ref 96, .int 84 0, .int 0 0, .ref 103, .int 89 0, .int 0 0, .ref 110, .int 102 0, .int 0 0, .ref 117, .int 120 0, .int 0 0, .ref 124, .int 124 0, .int 0 0, .ref 132, .int 134 0, .int 0 0, .ref 139, .int 136 0, .int 0 0, .ref 146, .int 140 0, .int 0 0, .ref 153, .int 148 0, .int 0 0, .ref 160, .int 158 0, .int 0 0, .ref 167, .int 169 0, .int 0 0, .ref 174, .int 174 0, .int 0 0, .ref 179, .int 187 0, .int 0 0, .ref 186, .int 189 0, .int 0 0, .ref 193, .int 198 0, .int 0 0, .ref 200, .int 208 0, .int 0 0, .ref 207, .int 220 0, .int 0 0, .ref 212, .int 233 0, .int 0 0, .ref 219] }
noncomputable def o47 : Obj := { cls := .type "tuple", data := Data.seq #[.str (Str.ofString "frames") 491, .str (Str.ofString "room") 492, .str (Str.ofString "taken") 493, .str (Str.ofString "left") 494, .str (Str.ofString "frame") 495, .str (Str.ofString "part") 496, .str (Str.ofString "rest") 497] }
noncomputable def o48 : Obj := { cls := .type "tuple", data := Data.seq #[.str (Str.ofString "waiting") 544, .str (Str.ofString "taken") 545, .str (Str.ofString "left") 546, .str (Str.ofString "gone") 547, .str (Str.ofString "stays") 548, .str (Str.ofString "frame") 549] }
noncomputable def o49 : Obj := { cls := .type "tuple", data := Data.seq #[.str (Str.ofString "frame") 470, .str (Str.ofString "room") 471, .str (Str.ofString "data") 472, .str (Str.ofString "many") 473] }
noncomputable def o50 : Obj := { cls := .type "tuple", data := Data.seq #[.str (Str.ofString "frame") 527, .str (Str.ofString "offset") 528] }
noncomputable def trF (P : Params) : BT := .node (boot_o_0 P) (.node (boot_o_1 P) (.node (o39 P) (.node (boot_o_7 P) (.node o4 (.node o5 (.node o0 (.node o0 .nil .nil) (.node o0 .nil .nil)) (.node (fnA 8) (.node (fnA 17) .nil .nil) .nil)) (.node (fnA 1) (.node o26 (.node o40 .nil .nil) (.node (codeO (Str.ofString "_law_goes_right") 541 (Str.ofString "_law_goes_right") 542 543 208 3 3 202 true 203 (.ref 204) (.ref 205) (.ref 206) 550 208 551) .nil .nil)) (.node (fnB 10 (.str (Str.ofString "quic.framesout") 310) 110) (.node (fnB 19 (.str (Str.ofString "law_tk0096_01") 501) 174) .nil .nil) .nil))) (.node o1 (.node o0 (.node o1 (.node o1 .nil .nil) (.node (fnA 23) .nil .nil)) (.node (codeO (Str.ofString "put_close") 398 (Str.ofString "put_close") 399 400 84 1 3 98 true 99 (.ref 100) (.ref 101) (.ref 102) 406 84 407) (.node (codeO (Str.ofString "filled") 488 (Str.ofString "filled") 489 490 158 2 3 162 true 163 (.ref 164) (.ref 165) (.ref 166) 498 158 499) .nil .nil) .nil)) (.node (codeO (Str.ofString "put_varint") 301 (Str.ofString "put_varint") 302 303 51 2 3 50 true 51 (.ref 52) (.ref 53) (.ref 54) 307 51 308) (.node o0 (.node o0 .nil .nil) (.node o1 .nil .nil)) (.node o0 (.node o41 .nil .nil) .nil)))) (.node o0 (.node o6 (.node o19 (.node (fnA 4) (.node (fnA 13) .nil .nil) (.node o0 .nil .nil)) (.node o1 (.node o1 .nil .nil) .nil)) (.node o1 (.node (fnB 6 (.str (Str.ofString "quic.framesout") 310) 82) (.node (fnB 15 (.str (Str.ofString "quic.packing") 433) 146) .nil .nil) (.node (fnA 25) .nil .nil)) (.node o0 (.node (codeO (Str.ofString "_law_frame") 511 (Str.ofString "_law_frame") 512 513 174 2 3 176 true 177 (.none) (.none) (.ref 178) 514 174 515) .nil .nil) .nil))) (.node (codeO (Str.ofString "__init__") 203 (Str.ofString "QuicError.__init__") 204 205 5 4 3 22 true 23 (.ref 24) (.ref 25) (.ref 26) 210 5 211) (.node o0 (.node (codeO (Str.ofString "ack_numbers") 344 (Str.ofString "ack_numbers") 345 346 64 1 3 70 true 71 (.ref 72) (.ref 73) (.ref 74) 354 64 355) (.node (codeO (Str.ofString "data_of") 450 (Str.ofString "data_of") 451 452 134 1 3 134 true 135 (.ref 136) (.ref 137) (.ref 138) 454 134 455) .nil .nil) (.node o1 .nil .nil)) (.node o27 (.node o42 .nil .nil) .nil)) (.node o1 (.node o0 (.node o0 .nil .nil) (.node (codeO (Str.ofString "law") 559 (Str.ofString "law") 560 561 233 1 3 214 true 215 (.ref 216) (.ref 217) (.ref 218) 569 233 570) .nil .nil)) (.node (fnA 12) (.node (fnB 21 (.str (Str.ofString "law_tk0096_01") 501) 186) .nil .nil) .nil))))) (.node (boot_o_5 P) (.node (boot_o_9 P) (.node (o7 P) (.node o8 (.node o28 (.node o29 .nil .nil) (.node (codeO (Str.ofString "_law_size") 524 (Str.ofString "_law_size") 525 526 189 1 3 188 true 189 (.ref 190) (.ref 191) (.ref 192) 529 189 530) .nil .nil)) (.node (fnB 8 (.str (Str.ofString "quic.framesout") 310) 96) (.node (fnB 17 (.str (Str.ofString "quic.packing") 433) 160) .nil .nil) .nil)) (.node (fnB 1 (.str (Str.ofString "quic.varint") 276) 48) (.node (fnA 6) (.node (fnA 15) .nil .nil) (.node o0 .nil .nil)) (.node o1 (.node o1 .nil .nil) .nil))) (.node o0 (.node (codeO (Str.ofString "put_whole") 283 (Str.ofString "put_whole") 284 285 38 2 3 36 true 37 (.ref 38) (.ref 39) (.ref 40) 290 38 291) (.node o0 (.node o0 .nil .nil) (.node (fnB 23 (.str (Str.ofString "law_tk0096_01") 501) 200) .nil .nil)) (.node o0 (.node o0 .nil .nil) .nil)) (.node (o20 P) (.node (codeO (Str.ofString "put_stream") 371 (Str.ofString "put_stream") 372 373 76 2 3 84 true 85 (.ref 86) (.ref 87) (.ref 88) 383 76 384) (.node (codeO (Str.ofString "data_room") 467 (Str.ofString "data_room") 468 469 140 2 3 148 true 149 (.ref 150) (.ref 151) (.ref 152) 474 140 475) .nil .nil) (.node o0 .nil .nil)) (.node o30 (.node (fnA 21) .nil .nil) .nil)))) (.node (codeO (Str.ofString "<module>") 182 (Str.ofString "<module>") 183 184 1 0 0 11 false 12 (.none) (.none) (.none) 185 1 186) (.node o9 (.node o1 (.node (fnB 4 (.str (Str.ofString "quic.framesout") 310) 68) (.node (fnB 13 (.str (Str.ofString "quic.packing") 433) 132) .nil .nil) (.node o43 .nil .nil)) (.node o0 (.node o0 .nil .nil) .nil)) (.node o0 (.node o1 (.node o1 .nil .nil) (.node (fnB 25 (.str (Str.ofString "law_tk0096_01") 501) 212) .nil .nil)) (.node (codeO (Str.ofString "put_frame") 417 (Str.ofString "put_frame") 418 419 102 1 3 112 true 113 (.ref 114) (.ref 115) (.ref 116) 423 102 424) (.node o0 .nil .nil) .nil))) (.node o10 (.node o21 (.node o0 (.node o0 .nil .nil) (.node o0 .nil .nil)) (.node (fnA 10) (.node (fnA 19) .nil .nil) .nil)) (.node (codeO (Str.ofString "put_numbers") 331 (Str.ofString "put_numbers") 332 333 60 1 3 58 true 59 (.none) (.none) (.ref 60) 334 60 335) (.node o31 (.node o44 .nil .nil) .nil) (.node (fnB 12 (.str (Str.ofString "quic.framesout") 310) 124) (.node o1 .nil .nil) .nil)))))) (.node (o11 P) (.node (boot_o_4 P) (.node (boot_o_8 P) (.node o12 (.node o13 (.node o1 (.node o1 .nil .nil) (.node (fnA 22) .nil .nil)) (.node (codeO (Str.ofString "put_new_cid") 386 (Str.ofString "put_new_cid") 387 388 81 1 3 91 true 92 (.ref 93) (.ref 94) (.ref 95) 395 81 396) (.node (codeO (Str.ofString "cut_frame") 477 (Str.ofString "cut_frame") 478 479 148 2 3 155 true 156 (.ref 157) (.ref 158) (.ref 159) 485 148 486) .nil .nil) .nil)) (.node (codeO (Str.ofString "varint_size") 293 (Str.ofString "varint_size") 294 295 46 1 3 43 true 44 (.ref 45) (.ref 46) (.ref 47) 298 46 299) (.node o0 (.node o0 .nil .nil) (.node (fnB 24 (.str (Str.ofString "law_tk0096_01") 501) 207) .nil .nil)) (.node o0 (.node o0 .nil .nil) .nil))) (.node o14 (.node (fnA 0) (.node o32 (.node o33 .nil .nil) (.node (codeO (Str.ofString "_law_is_cut") 532 (Str.ofString "_law_is_cut") 533 534 198 3 3 195 true 196 (.ref 197) (.ref 198) (.ref 199) 538 198 539) .nil .nil)) (.node (fnB 9 (.str (Str.ofString "quic.framesout") 310) 103) (.node (fnB 18 (.str (Str.ofString "quic.packing") 433) 167) .nil .nil) .nil)) (.node (fnB 2 (.str (Str.ofString "quic.varint") 276) 55) (.node (fnA 7) (.node (fnA 16) .nil .nil) (.node o45 .nil .nil)) (.node o1 (.node o0 .nil .nil) .nil)))) (.node o46 (.node (codeO (Str.ofString "QuicError") 193 (Str.ofString "QuicError") 194 195 3 0 0 18 false 19 (.none) (.none) (.none) 196 3 197) (.node o0 (.node (codeO (Str.ofString "put_counted") 337 (Str.ofString "put_counted") 338 339 62 1 3 63 true 64 (.ref 65) (.ref 66) (.ref 67) 341 62 342) (.node (codeO (Str.ofString "taken_and_left") 438 (Str.ofString "taken_and_left") 439 440 124 2 3 127 true 128 (.ref 129) (.ref 130) (.ref 131) 447 124 448) .nil .nil) (.node o1 .nil .nil)) (.node o35 (.node o47 .nil .nil) .nil)) (.node o23 (.node o0 (.node o0 .nil .nil) (.node (codeO (Str.ofString "_law_is_turn") 553 (Str.ofString "_law_is_turn") 554 555 220 3 3 209 true 210 (.none) (.none) (.ref 211) 556 220 557) .nil .nil)) (.node (fnA 11) (.node (fnB 20 (.str (Str.ofString "law_tk0096_01") 501) 179) .nil .nil) .nil))) (.node (fdB initD (Str.ofString "QuicError.__init__") (.str (Str.ofString "quic.errors") 187) 27) (.node o1 (.node (fnB 5 (.str (Str.ofString "quic.framesout") 310) 75) (.node (fnB 14 (.str (Str.ofString "quic.packing") 433) 139) .nil .nil) (.node o48 .nil .nil)) (.node o0 (.node o0 .nil .nil) .nil)) (.node (fnA 3) (.node o1 (.node o1 .nil .nil) (.node (fnB 26 (.str (Str.ofString "law_tk0096_01") 501) 219) .nil .nil)) (.node (codeO (Str.ofString "frame_size") 426 (Str.ofString "frame_size") 427 428 120 1 3 119 true 120 (.ref 121) (.ref 122) (.ref 123) 430 120 431) (.node o0 .nil .nil) .nil))))) (.node (boot_o_6 P) (.node (boot_o_10 P) (.node o0 (.node o16 (.node o0 (.node o0 .nil .nil) (.node (fnB 22 (.str (Str.ofString "law_tk0096_01") 501) 193) .nil .nil)) (.node o0 (.node o0 .nil .nil) .nil)) (.node o0 (.node (codeO (Str.ofString "put_ack") 357 (Str.ofString "put_ack") 358 359 71 1 3 77 true 78 (.ref 79) (.ref 80) (.ref 81) 368 71 369) (.node (codeO (Str.ofString "with_data") 457 (Str.ofString "with_data") 458 459 136 4 3 141 true 142 (.ref 143) (.ref 144) (.ref 145) 464 136 465) .nil .nil) (.node o1 .nil .nil)) (.node o36 (.node (fnA 20) .nil .nil) .nil))) (.node (fdA initD (Str.ofString "QuicError.__init__")) (.node (fnB 0 (.str (Str.ofString "quic.varint") 276) 41) (.node (fnA 5) (.node (fnA 14) .nil .nil) (.node o0 .nil .nil)) (.node o1 (.node o1 .nil .nil) .nil)) (.node o0 (.node (fnB 7 (.str (Str.ofString "quic.framesout") 310) 89) (.node (fnB 16 (.str (Str.ofString "quic.packing") 433) 153) .nil .nil) (.node (fnA 26) .nil .nil)) (.node o0 (.node (codeO (Str.ofString "_law_width") 517 (Str.ofString "_law_width") 518 519 187 1 3 181 true 182 (.ref 183) (.ref 184) (.ref 185) 521 187 522) .nil .nil) .nil)))) (.node o2 (.node o0 (.node o24 (.node o0 (.node o0 .nil .nil) (.node o0 .nil .nil)) (.node (fnA 9) (.node (fnA 18) .nil .nil) .nil)) (.node (fnA 2) (.node o37 (.node o49 .nil .nil) (.node o0 .nil .nil)) (.node (fnB 11 (.str (Str.ofString "quic.framesout") 310) 117) (.node o1 .nil .nil) .nil))) (.node (o17 P) (.node o0 (.node o1 (.node o1 .nil .nil) (.node (fnA 24) .nil .nil)) (.node (codeO (Str.ofString "put_octets_frame") 409 (Str.ofString "put_octets_frame") 410 411 89 1 3 105 true 106 (.ref 107) (.ref 108) (.ref 109) 414 89 415) (.node (codeO (Str.ofString "_law_take") 503 (Str.ofString "_law_take") 504 505 169 2 3 169 true 170 (.ref 171) (.ref 172) (.ref 173) 508 169 509) .nil .nil) .nil)) (.node (fnB 3 (.str (Str.ofString "quic.framesout") 310) 61) (.node o0 (.node o0 .nil .nil) .nil) (.node o38 (.node o50 .nil .nil) .nil))))))
noncomputable def hpF (P : Params) : Heap := { objs := { toList := [(boot_o_0 P), (boot_o_1 P), (o11 P), (o39 P), (boot_o_4 P), (boot_o_5 P), (boot_o_6 P), (boot_o_7 P), (boot_o_8 P), (boot_o_9 P), (boot_o_10 P), o0, o46, (codeO (Str.ofString "<module>") 182 (Str.ofString "<module>") 183 184 1 0 0 11 false 12 (.none) (.none) (.none) 185 1 186), o2, o4, o12, (o7 P), o0, o6, (codeO (Str.ofString "QuicError") 193 (Str.ofString "QuicError") 194 195 3 0 0 18 false 19 (.none) (.none) (.none) 196 3 197), o9, o0, o1, o14, o0, (fdA initD (Str.ofString "QuicError.__init__")), (codeO (Str.ofString "__init__") 203 (Str.ofString "QuicError.__init__") 204 205 5 4 3 22 true 23 (.ref 24) (.ref 25) (.ref 26) 210 5 211), (fdB initD (Str.ofString "QuicError.__init__") (.str (Str.ofString "quic.errors") 187) 27), o10, (o17 P), o5, o13, o8, o16, o19, o0, o1, o24, o0, (fnA 0), (codeO (Str.ofString "put_whole") 283 (Str.ofString "put_whole") 284 285 38 2 3 36 true 37 (.ref 38) (.ref 39) (.ref 40) 290 38 291), (fnB 0 (.str (Str.ofString "quic.varint") 276) 41), o0, o1, o21, o0, (fnA 1), (codeO (Str.ofString "varint_size") 293 (Str.ofString "varint_size") 294 295 46 1 3 43 true 44 (.ref 45) (.ref 46) (.ref 47) 298 46 299), (fnB 1 (.str (Str.ofString "quic.varint") 276) 48), o0, o1, o23, o0, (fnA 2), (codeO (Str.ofString "put_varint") 301 (Str.ofString "put_varint") 302 303 51 2 3 50 true 51 (.ref 52) (.ref 53) (.ref 54) 307 51 308), (fnB 2 (.str (Str.ofString "quic.varint") 276) 55), (o20 P), o0, o1, (fnA 3), (codeO (Str.ofString "put_numbers") 331 (Str.ofString "put_numbers") 332 333 60 1 3 58 true 59 (.none) (.none) (.ref 60) 334 60 335), (fnB 3 (.str (Str.ofString "quic.framesout") 310) 61), o0, o1, o28, o0, (fnA 4), (codeO (Str.ofString "put_counted") 337 (Str.ofString "put_counted") 338 339 62 1 3 63 true 64 (.ref 65) (.ref 66) (.ref 67) 341 62 342), (fnB 4 (.str (Str.ofString "quic.framesout") 310) 68), o0, o1, o32, o0, (fnA 5), (codeO (Str.ofString "ack_numbers") 344 (Str.ofString "ack_numbers") 345 346 64 1 3 70 true 71 (.ref 72) (.ref 73) (.ref 74) 354 64 355), (fnB 5 (.str (Str.ofString "quic.framesout") 310) 75), o0, o1, o26, o0, (fnA 6), (codeO (Str.ofString "put_ack") 357 (Str.ofString "put_ack") 358 359 71 1 3 77 true 78 (.ref 79) (.ref 80) (.ref 81) 368 71 369), (fnB 6 (.str (Str.ofString "quic.framesout") 310) 82), o0, o1, o37, o0, (fnA 7), (codeO (Str.ofString "put_stream") 371 (Str.ofString "put_stream") 372 373 76 2 3 84 true 85 (.ref 86) (.ref 87) (.ref 88) 383 76 384), (fnB 7 (.str (Str.ofString "quic.framesout") 310) 89), o0, o1, o31, o0, (fnA 8), (codeO (Str.ofString "put_new_cid") 386 (Str.ofString "put_new_cid") 387 388 81 1 3 91 true 92 (.ref 93) (.ref 94) (.ref 95) 395 81 396), (fnB 8 (.str (Str.ofString "quic.framesout") 310) 96), o0, o1, o35, o0, (fnA 9), (codeO (Str.ofString "put_close") 398 (Str.ofString "put_close") 399 400 84 1 3 98 true 99 (.ref 100) (.ref 101) (.ref 102) 406 84 407), (fnB 9 (.str (Str.ofString "quic.framesout") 310) 103), o0, o1, o27, o0, (fnA 10), (codeO (Str.ofString "put_octets_frame") 409 (Str.ofString "put_octets_frame") 410 411 89 1 3 105 true 106 (.ref 107) (.ref 108) (.ref 109) 414 89 415), (fnB 10 (.str (Str.ofString "quic.framesout") 310) 110), o0, o1, o36, o0, (fnA 11), (codeO (Str.ofString "put_frame") 417 (Str.ofString "put_frame") 418 419 102 1 3 112 true 113 (.ref 114) (.ref 115) (.ref 116) 423 102 424), (fnB 11 (.str (Str.ofString "quic.framesout") 310) 117), o0, o1, o30, o0, (fnA 12), (codeO (Str.ofString "frame_size") 426 (Str.ofString "frame_size") 427 428 120 1 3 119 true 120 (.ref 121) (.ref 122) (.ref 123) 430 120 431), (fnB 12 (.str (Str.ofString "quic.framesout") 310) 124), o38, o0, o1, o29, o0, (fnA 13), (codeO (Str.ofString "taken_and_left") 438 (Str.ofString "taken_and_left") 439 440 124 2 3 127 true 128 (.ref 129) (.ref 130) (.ref 131) 447 124 448), (fnB 13 (.str (Str.ofString "quic.packing") 433) 132), o0, o1, o33, o0, (fnA 14), (codeO (Str.ofString "data_of") 450 (Str.ofString "data_of") 451 452 134 1 3 134 true 135 (.ref 136) (.ref 137) (.ref 138) 454 134 455), (fnB 14 (.str (Str.ofString "quic.packing") 433) 139), o0, o1, o40, o0, (fnA 15), (codeO (Str.ofString "with_data") 457 (Str.ofString "with_data") 458 459 136 4 3 141 true 142 (.ref 143) (.ref 144) (.ref 145) 464 136 465), (fnB 15 (.str (Str.ofString "quic.packing") 433) 146), o0, o1, o49, o0, (fnA 16), (codeO (Str.ofString "data_room") 467 (Str.ofString "data_room") 468 469 140 2 3 148 true 149 (.ref 150) (.ref 151) (.ref 152) 474 140 475), (fnB 16 (.str (Str.ofString "quic.packing") 433) 153), o0, o1, o44, o0, (fnA 17), (codeO (Str.ofString "cut_frame") 477 (Str.ofString "cut_frame") 478 479 148 2 3 155 true 156 (.ref 157) (.ref 158) (.ref 159) 485 148 486), (fnB 17 (.str (Str.ofString "quic.packing") 433) 160), o0, o1, o47, o0, (fnA 18), (codeO (Str.ofString "filled") 488 (Str.ofString "filled") 489 490 158 2 3 162 true 163 (.ref 164) (.ref 165) (.ref 166) 498 158 499), (fnB 18 (.str (Str.ofString "quic.packing") 433) 167), o0, o1, o42, o0, (fnA 19), (codeO (Str.ofString "_law_take") 503 (Str.ofString "_law_take") 504 505 169 2 3 169 true 170 (.ref 171) (.ref 172) (.ref 173) 508 169 509), (fnB 19 (.str (Str.ofString "law_tk0096_01") 501) 174), o0, o1, (fnA 20), (codeO (Str.ofString "_law_frame") 511 (Str.ofString "_law_frame") 512 513 174 2 3 176 true 177 (.none) (.none) (.ref 178) 514 174 515), (fnB 20 (.str (Str.ofString "law_tk0096_01") 501) 179), o0, o1, o41, o0, (fnA 21), (codeO (Str.ofString "_law_width") 517 (Str.ofString "_law_width") 518 519 187 1 3 181 true 182 (.ref 183) (.ref 184) (.ref 185) 521 187 522), (fnB 21 (.str (Str.ofString "law_tk0096_01") 501) 186), o0, o1, o50, o0, (fnA 22), (codeO (Str.ofString "_law_size") 524 (Str.ofString "_law_size") 525 526 189 1 3 188 true 189 (.ref 190) (.ref 191) (.ref 192) 529 189 530), (fnB 22 (.str (Str.ofString "law_tk0096_01") 501) 193), o0, o1, o43, o0, (fnA 23), (codeO (Str.ofString "_law_is_cut") 532 (Str.ofString "_law_is_cut") 533 534 198 3 3 195 true 196 (.ref 197) (.ref 198) (.ref 199) 538 198 539), (fnB 23 (.str (Str.ofString "law_tk0096_01") 501) 200), o0, o1, o48, o0, (fnA 24), (codeO (Str.ofString "_law_goes_right") 541 (Str.ofString "_law_goes_right") 542 543 208 3 3 202 true 203 (.ref 204) (.ref 205) (.ref 206) 550 208 551), (fnB 24 (.str (Str.ofString "law_tk0096_01") 501) 207), o0, o1, (fnA 25), (codeO (Str.ofString "_law_is_turn") 553 (Str.ofString "_law_is_turn") 554 555 220 3 3 209 true 210 (.none) (.none) (.ref 211) 556 220 557), (fnB 25 (.str (Str.ofString "law_tk0096_01") 501) 212), o0, o1, o45, o0, (fnA 26), (codeO (Str.ofString "law") 559 (Str.ofString "law") 560 561 233 1 3 214 true 215 (.ref 216) (.ref 217) (.ref 218) 569 233 570), (fnB 26 (.str (Str.ofString "law_tk0096_01") 501) 219)] } }
noncomputable def envP : Env := { scope := theP.main.scope, locals := mainNs, globals := mainNs, cells := [], code := .ref 13, frame := some 14 }
abbrev p00 : Pos := ⟨0, 0, 0, 0⟩
noncomputable abbrev cdP : Code := .body (behindTheImports theP) envP
abbrev topB : List Frame := [topFrame p00]
noncomputable def st1 : List Stmt := (behindTheImports theP).take 19
noncomputable def st2 : List Stmt := ((behindTheImports theP).drop 19).take 18
noncomputable def st3 : List Stmt := ((behindTheImports theP).drop 37).take 13
noncomputable def st4 : List Stmt := (behindTheImports theP).drop 50
noncomputable abbrev sA (w : World) (os : OsState) : Shared := ⟨hpA w.params, #[], {}, 187, os⟩
noncomputable abbrev sF (w : World) (os : OsState) : Shared := ⟨hpF w.params, #[], {}, 572, os⟩
noncomputable abbrev sT (t : Params → BT) (n k : Nat) (w : World) (os : OsState) : SharedT := ⟨t w.params, n, {}, #[], {}, k, os⟩
abbrev an6 : Option Value := some (.ref 6)
abbrev sgr : String := "special-get-raises"
theorem preP (w : World) (os : OsState) : topGo treeTable theP w 11 an6 12 ⟨boot_heap w.params, #[], boot_drawn, boot_toks, os⟩ (topStub theP) = some (sA w os, ⟨denote treeTable cdP, cdP, p00, topB⟩) := by kernel_rfl
theorem blockP (w : World) (os : OsState) : segRun treeTable theP w 11 an6 1 1 (sA w os) (blockOf (behindTheImports theP) envP cdP p00 topB) = some (.next, (sT trB 15 187 w os).abs, cdP, p00) := by kernel_rfl
theorem piece1 (w : World) (os : OsState) : segRunT treeTable theP w 11 an6 1 395 (sT trB 15 187 w os) (piecesOf st1 envP cdP p00 topB) = some (.next, sT trC 35 256 w os, cdP, ⟨25, 0, 25, 19⟩) := by kernel_rfl
abbrev Piece2 (w : World) : Prop := (fun os => segRunT treeTable theP w 11 an6 1 396 (sT trC 35 256 w os) (piecesOf st2 envP cdP ⟨25, 0, 25, 19⟩ topB)) = fun os => some (.next, sT trD 63 337 w os, cdP, ⟨60, 0, 61, 69⟩)
theorem piece2F (w : World) : Piece2 (w.withFollow sgr false) := by kernel_rfl
theorem piece2T (w : World) : Piece2 (w.withFollow sgr true) := by kernel_rfl
theorem piece2 (w : World) : Piece2 w := byRow2 sgr (P := Piece2) piece2F piece2T w
theorem piece3 (w : World) (os : OsState) : segRunT treeTable theP w 11 an6 1 379 (sT trD 63 337 w os) (piecesOf st3 envP cdP ⟨60, 0, 61, 69⟩ topB) = some (.next, sT trE 141 457 w os, cdP, ⟨134, 0, 135, 57⟩) := by kernel_rfl
theorem piece4 (w : World) (os : OsState) : segRunT treeTable theP w 11 an6 1 383 (sT trE 141 457 w os) (piecesOf st4 envP cdP ⟨134, 0, 135, 57⟩ topB) = some (.next, sT trF 221 572 w os, cdP, ⟨233, 0, 244, 48⟩) := by kernel_rfl
theorem finP (w : World) (os : OsState) : topRun treeTable theP w 11 an6 2 (sT trF 221 572 w os).abs ⟨doneF .next, cdP, ⟨233, 0, 244, 48⟩, topB⟩ = some (sF w os) := by kernel_rfl
theorem stsP : st1 ++ (st2 ++ (st3 ++ (st4 ++ []))) = behindTheImports theP := by kernel_rfl
theorem runP (w : World) (os : OsState) : topRun treeTable theP w 11 an6 (12 + (1 + (395 + (396 + (379 + (383 + 2)))))) ⟨boot_heap w.params, #[], boot_drawn, boot_toks, os⟩ (topStub theP) = some (sF w os) := by
  have k4 := piece_app (q := p00) (env := envP) (l := st4) (rest := []) (segRun_of (piece4 w os)) (finP w os)
  have k3 := piece_app (q := p00) (env := envP) (l := st3) (rest := st4 ++ []) (segRun_of (piece3 w os)) k4
  have k2 := piece_app (q := p00) (env := envP) (l := st2) (rest := st3 ++ (st4 ++ [])) (segRun_of (congrFun (piece2 w) os)) k3
  have k1 := piece_app (q := p00) (env := envP) (l := st1) (rest := st2 ++ (st3 ++ (st4 ++ []))) (segRun_of (piece1 w os)) k2
  rw [stsP] at k1
  have k0 := piece_block (q := p00) (env := envP) (b := behindTheImports theP) (c := cdP) (pos := p00) (blockP w os) k1
  exact go_top (preP w os) k0
theorem boot1 : opening theP = plainProg theP.main.scope.names := by kernel_rfl
theorem boot2 : ∀ s, fenceModules? theP s = some s := by intro s; kernel_rfl
theorem size1 (w : World) : ((boot_heap w.params).isNs mainGlobals && (#[] : Array GenState).size == 0, (boot_heap w.params).objs.size, (boot_heap w.params).nsMap mainGlobals "__annotations__") = (true, 11, an6) := by kernel_rfl
theorem ksAt : ∀ P : Params, [3, 35, 57, 126] = (Ks P).map (·.1) := fun _ => by kernel_rfl
noncomputable abbrev HkS : Hook := kHook Ks [3, 35, 57, 126] ksAt
abbrev looseS : List Str := [Str.ofString "NUMBER_FRAMES"]
noncomputable abbrev XtS (s : Shared) : Bool := xlAt qv [] s && recOk (RowW.records (OpenRow.toRowW PySem.Challenge.rw_tk0096_01.row)) s
theorem look1 (w : World) (os : OsState) : (staticsOk (importedModules theP.main.body) (boot_heap w.params) (hpF w.params) && namesBound theP (hpF w.params) && gensDone (sF w os) && laidKept (boot_heap w.params) (hpF w.params)) = true := by kernel_rfl
theorem look2 (w : World) (os : OsState) : openSeen qv looseS (importedModules theP.main.body) XtS true (sF w os) = openGood qv looseS := by kernel_rfl
theorem look3 (w : World) (os : OsState) : Hook.obs HkS (sF w os) = Hook.val HkS w := by kernel_rfl
theorem leftP : LeftO theP qv looseS XtS (Hook.obs HkS) (Hook.val HkS) 3224 true :=
  LeftO.of_pieces (boot_open boot1 (by rfl) boot2) size1 runP (by rfl) fun w => funext fun os => by rw [look1 w os, look2 w os, look3 w os]
end Mine
open PySem PySem.W PyProof.Rows PySem.Calls PySem.Spec
set_option maxRecDepth 100000
namespace Mine
theorem FunV.mono {prog : Program} {w : World} {hb : Heap} {k k' : Nat} {f : Value} {ds : List D} {σ : List C} {d : D} (h : FunV prog w hb k f ds σ d) (hk : k ≤ k') : FunV prog w hb k' f ds σ d :=
  fun A α s vs hA S r => h A α s vs (hA.mono hk) S r
/-- a def of the program, that changes nothing, called with ds, gives d -/
def Fn (prog : Program) (w : World) (hb : Heap) (mg : Str → Option Value) (k : Nat) (name : Str) (ds : List D) (σ : List C) (d : D) : Prop :=
  ∃ a f, mg name = some (.ref a) ∧ (∃ o, hb.get? a = some o ∧ o.data = .func f) ∧ FunV prog w hb k (.ref a) ds σ d
/-- a def of the program, that may change what it is handed -/
def Fi (prog : Program) (w : World) (hb : Heap) (mg : Str → Option Value) (k : Nat) (name : Str) (ds : List D) (σ : List C) (d : D) (σ' : List C) : Prop :=
  ∃ a f, mg name = some (.ref a) ∧ (∃ o, hb.get? a = some o ∧ o.data = .func f) ∧ CallI prog w hb k (.ref a) ds σ d σ'
/-- the n-th def of the text -/
abbrev Nth (n : Nat) (d : DefRec) : Prop := (recsOf qv)[n]? = some d
def Defs (hb : Heap) (mg : Str → Option Value) : Prop := ∀ n d, Nth n d → ∃ a o pm code doc, DefAt hb mg d.name d.params d.body d.scope a o pm code doc
section
variable {prog : Program} {w : World} {hb : Heap} {mg mb : Str → Option Value} {k k' n₀ : Nat} {env : Env} {ρ ρ' ρ₁ ρ₂ : List (Str × D)} {σ σ₁ σ₂ σ' : List C}
theorem Fn.mono {name : Str} {ds : List D} {d : D} (h : Fn prog w hb mg k name ds σ d) (hk : k ≤ k') : Fn prog w hb mg k' name ds σ d :=
  let ⟨a, f, h1, h2, h3⟩ := h; ⟨a, f, h1, h2, h3.mono hk⟩
theorem EvT.fn {x : Str} {p pos : Pos} {e : Expr} {es : List Expr} {ds : List D} {d : D} (B : Base hb mg mb) (F : Fn prog w hb mg k x ds σ₁ d)
    (h : EvsT prog w hb k n₀ env ρ (e :: es) σ ds σ₁) (hx : env.kindOf x = some .globalImplicit := by rfl)
    (hd : (x == ("__debug__" : Str)) = false := by decide +kernel) (he : starEach (e :: es) env = (false, eval e env) :: starEach es env := by rfl)
    (hcall : eval (.Call (.Name x p) (e :: es) [] pos) env = (do callWith pos (← eval (.Name x p) env) [] (backTo pos (starEach (e :: es) env)) (backToKw pos (keywordEach [] env))) := by rfl) :
    EvT prog w hb k n₀ env ρ (.Call (.Name x p) (e :: es) [] pos) σ d σ₁ := by
  obtain ⟨a, f, h1, h2, h3⟩ := F
  exact EvT.call B h1 h2 h h3 hx hd he hcall
theorem EvT.fi {x : Str} {p pos : Pos} {e : Expr} {es : List Expr} {ds : List D} {d : D} (B : Base hb mg mb) (F : Fi prog w hb mg k x ds σ₁ d σ₂)
    (h : EvsT prog w hb k 0 env ρ (e :: es) σ ds σ₁) (hx : env.kindOf x = some .globalImplicit := by rfl)
    (hd : (x == ("__debug__" : Str)) = false := by decide +kernel) (he : starEach (e :: es) env = (false, eval e env) :: starEach es env := by rfl)
    (hcall : eval (.Call (.Name x p) (e :: es) [] pos) env = (do callWith pos (← eval (.Name x p) env) [] (backTo pos (starEach (e :: es) env)) (backToKw pos (keywordEach [] env))) := by rfl) :
    EvT prog w hb k 0 env ρ (.Call (.Name x p) (e :: es) [] pos) σ d σ₂ := by
  obtain ⟨a, f, h1, h2, h3⟩ := F
  exact EvT.calli B h1 h2 h h3 hx hd he hcall
/-- a def of the text -/
theorem Fn.intro {n : Nat} {r : DefRec} (T : Defs hb mg) (hr : Nth n r) (B : Base hb mg mb) (ps : List Str) {ds : List D} {d : D}
    (hbind : ∀ (pm code doc : Value) (vs : List Value), vs.length = ps.length → bindArgs (docDef r.name r.params r.body r.scope pm code doc) ⟨vs, []⟩ = pure (ps.zip vs))
    (hlen : ps.length = ds.length) (hnd : ps.Nodup)
    (hkind : ∀ n, ∀ x ∈ ps, r.scope.names.lookup x = some .local ∨ (r.scope.names.lookup x = some .cell ∧ ((cellsFrom n r.scope.names []).lookup x).isSome = true))
    (hcs : ∀ n, ∀ p ∈ cellsFrom n r.scope.names [], (cellsFrom n r.scope.names []).lookup p.1 = some p.2)
    (hco : r.scope.isCoroutine = false) (hgen : r.scope.isGenerator = false) (hk : r.scope.kind = .function)
    (h : ∀ a code L, ∃ o, ExT prog w hb k σ.length (fenv r.name r.scope a code L) (ps.zip ds) σ r.body o ∧ RetOk o σ.length d) : Fn prog w hb mg (k + 1) r.name ds σ d := by
  obtain ⟨a, o, pm, code, doc, X⟩ := T n r hr
  exact ⟨a, _, X.glob, ⟨o, X.there, X.data⟩, FunV.intro B X (hbind pm code doc) hlen hnd hkind hcs hco hgen hk (h a code)⟩
theorem Fi.intro {n : Nat} {r : DefRec} (T : Defs hb mg) (hr : Nth n r) (B : Base hb mg mb) (ps : List Str) {ds : List D} {d : D}
    (hbind : ∀ (pm code doc : Value) (vs : List Value), vs.length = ps.length → bindArgs (docDef r.name r.params r.body r.scope pm code doc) ⟨vs, []⟩ = pure (ps.zip vs))
    (hlen : ps.length = ds.length) (hnd : ps.Nodup)
    (hkind : ∀ n, ∀ x ∈ ps, r.scope.names.lookup x = some .local ∨ (r.scope.names.lookup x = some .cell ∧ ((cellsFrom n r.scope.names []).lookup x).isSome = true))
    (hcs : ∀ n, ∀ p ∈ cellsFrom n r.scope.names [], (cellsFrom n r.scope.names []).lookup p.1 = some p.2)
    (hco : r.scope.isCoroutine = false) (hgen : r.scope.isGenerator = false) (hk : r.scope.kind = .function)
    (h : ∀ a code L, ∃ o, ExT prog w hb k 0 (fenv r.name r.scope a code L) (ps.zip ds) σ r.body o ∧ RetI o σ.length d σ') : Fi prog w hb mg (k + 1) r.name ds σ d σ' := by
  obtain ⟨a, o, pm, code, doc, X⟩ := T n r hr
  exact ⟨a, _, X.glob, ⟨o, X.there, X.data⟩, CallI.intro B X (hbind pm code doc) hlen hnd hkind hcs hco hgen hk (h a code)⟩
theorem TrT.to {e : Expr} {b b' : Bool} (h : TrT prog w hb k n₀ env ρ e σ b σ') (q : b = b') : TrT prog w hb k n₀ env ρ e σ b' σ' := q ▸ h
theorem EvT.to {e : Expr} {d d' : D} (h : EvT prog w hb k n₀ env ρ e σ d σ') (q : d = d') : EvT prog w hb k n₀ env ρ e σ d' σ' := q ▸ h
theorem TrT.or_f {e : Expr} {es : List Expr} {pos : Pos} {c : Bool} (h : TrT prog w hb k n₀ env ρ e σ false σ₁) (h2 : TrT prog w hb k n₀ env ρ (.BoolOp .Or es pos) σ₁ c σ₂) : TrT prog w hb k n₀ env ρ (.BoolOp .Or (e :: es) pos) σ c σ₂ :=
  .or_cons h (fun _ => h2) fun h => nomatch h
theorem TrT.or_t {e : Expr} {es : List Expr} {pos : Pos} (h : TrT prog w hb k n₀ env ρ e σ true σ₁) : TrT prog w hb k n₀ env ρ (.BoolOp .Or (e :: es) pos) σ true σ₁ :=
  .or_cons h (fun h => nomatch h) fun _ => ⟨rfl, rfl⟩
theorem TrT.and_t {e : Expr} {es : List Expr} {pos : Pos} {c : Bool} (h : TrT prog w hb k n₀ env ρ e σ true σ₁) (h2 : TrT prog w hb k n₀ env ρ (.BoolOp .And es pos) σ₁ c σ₂) : TrT prog w hb k n₀ env ρ (.BoolOp .And (e :: es) pos) σ c σ₂ :=
  .and_cons h (fun _ => h2) fun h => nomatch h
theorem TrT.and_f {e : Expr} {es : List Expr} {pos : Pos} (h : TrT prog w hb k n₀ env ρ e σ false σ₁) : TrT prog w hb k n₀ env ρ (.BoolOp .And (e :: es) pos) σ false σ₁ :=
  .and_cons h (fun h => nomatch h) fun _ => ⟨rfl, rfl⟩
end
end Mine
open PySem PySem.W PyProof.Rows PySem.Calls PySem.Spec
set_option maxRecDepth 100000
namespace Mine
/-- the sizes' tuple -/
def SizesAt (h : Heap) (a : Addr) : Prop :=
  ∃ t u v w n, h.get? a = some { cls := .type "tuple", dict := none, data := .seq #[.int 1 t, .int 2 u, .int 4 v, .int 8 w] n }
/-- the constants of the text -/
structure Consts (hb : Heap) (mg : Str → Option Value) : Prop where
  sizes : ∃ a, mg "VARINT_SIZES" = some (.ref a) ∧ SizesAt hb a
  kinds : Gv hb mg "DATA_KINDS" (.tuple [.str "crypto", .str "stream"])
  crypto : Gv hb mg "CRYPTO" (.int 6)
  stream : Gv hb mg "STREAM" (.int 8)
  fin : Gv hb mg "BIT_FIN" (.int 1)
  len : Gv hb mg "BIT_LENGTH" (.int 2)
  off : Gv hb mg "BIT_OFFSET" (.int 4)
theorem Consts.vs {hb : Heap} {mg : Str → Option Value} (c : Consts hb mg) : Gv hb mg "VARINT_SIZES" (.tuple ([1, 2, 4, 8].map D.int)) := by
  obtain ⟨a, h1, t, u, v, w, n, h2⟩ := c.sizes
  refine ⟨_, h1, .tuple (vs := [.int 1 t, .int 2 u, .int 4 v, .int 8 w]) ⟨_, h2, rfl, n, rfl⟩ List.not_mem_nil ?_⟩
  exact .cons (.int _ _) (.cons (.int _ _) (.cons (.int _ _) (.cons (.int _ _) .nil)))
section
variable {prog : Program} {w : World} {hb : Heap} {mg mb : Str → Option Value} {k n₀ : Nat} {env : Env} {ρ ρ' ρ₁ ρ₂ : List (Str × D)} {σ σ₁ σ₂ σ' : List C}
theorem call_index {A : Around} {s : Shared} {a : Addr} {x : Int} {tx : Tok} {j : Nat} {Q : Value → Shared → Prop} (h : SizesAt s.heap a) (hj : (x = 1 ∧ j = 0) ∨ (x = 2 ∧ j = 1)) (hQ : Q (.int j s.toks) { s with toks := s.toks + 1 }) :
    wpAny (model prog w) A (call (.builtin "tuple.index") [.ref a, .int x tx]) Q (fun _ _ => False) s := by
  obtain ⟨t, u, v, w', n, ho⟩ := h
  have hT : s.TypeIs (.ref a) "tuple" := ⟨_, ho, rfl⟩
  refine wpAny_call_entry F.slot_tuple_index hT F.entry_tuple_index ?_ (F.args_tuple_index_2 _ _)
  unfold Builtin.«tuple.index»
  refine wpAny_bind (wpAny_of_eq (a := (Value.ref a, [Value.int x tx])) (by kernel_rfl) ?_)
  dsimp only
  unfold Builtin.Tuple.tupleItemsOf
  refine wpAny_bind (wpAny_bind (wpAny_seqItems ho rfl (wpAny_pure ?_)))
  refine wpAny_bind (wpAny_pure ?_)
  refine wpAny_bind (wpAny_pure ?_)
  refine wpAny_bind ?_
  rw [range_forIn]
  show wpAny _ _ (forIn (0 :: 1 :: [2, 3]) (none, ()) _) _ _ _
  rw [List.forIn_cons]
  refine wpAny_bind ?_
  show wpAny _ _ (eqBool (.int 1 t) (.int x tx) >>= _) _ _ _
  refine wpAny_bind (wpAny_eqBool_int ?_)
  rcases hj with ⟨rfl, rfl⟩ | ⟨rfl, rfl⟩
  · refine bm_if_true (by decide) ?_
    refine wpAny_bind (m := retInt _) (wpAny_bind (wpAny_mkInt (wpAny_pure (wpAny_pure ?_))))
    exact wpAny_pure (wpAny_pure ⟨_, rfl, hQ⟩)
  · refine bm_if_false (by decide) ?_
    refine wpAny_pure ?_
    dsimp only
    rw [List.forIn_cons]
    refine wpAny_bind ?_
    show wpAny _ _ (eqBool (.int 2 u) (.int 2 tx) >>= _) _ _ _
    refine wpAny_bind (wpAny_eqBool_int ?_)
    refine bm_if_true (by decide) ?_
    refine wpAny_bind (m := retInt _) (wpAny_bind (wpAny_mkInt (wpAny_pure (wpAny_pure ?_))))
    exact wpAny_pure (wpAny_pure ⟨_, rfl, hQ⟩)
theorem EvT.vindex {p pa pos : Pos} {e : Expr} {x : Int} {j : Nat} {pl : Sem Bool} (B : Base hb mg mb) (K : Consts hb mg) (h : EvT prog w hb k n₀ env ρ e σ (.int x) σ₁) (hj : (x = 1 ∧ j = 0) ∨ (x = 2 ∧ j = 1))
    (hx : env.kindOf "VARINT_SIZES" = some .globalImplicit := by rfl) (he : starEach [e] env = (false, eval e env) :: starEach [] env := by rfl) (hp : ((backTo pos (starEach [] env)).any fun x => x.1) = false := by rfl)
    (hcall : MethForm env (.Name "VARINT_SIZES" p) "index" pa pos [e] pl := by rfl) : EvT prog w hb k n₀ env ρ (.Call (.Attribute (.Name "VARINT_SIZES" p) "index" pa) [e] [] pos) σ (.int j) σ₁ := fun A α s hA S L => by
  obtain ⟨a, h1, Z⟩ := K.sizes
  have Zup : ∀ s' : Shared, (∀ b o, hb.get? b = some o → s'.heap.get? b = some o) → SizesAt s'.heap a := fun s' hk => by
    obtain ⟨t, u, v, w, n, h2⟩ := Z; exact ⟨t, u, v, w, n, hk _ _ h2⟩
  refine MethodCallR (pl := pl) (.of (Name_function_global L.kind hx (loadGlobal_global (by rw [L.glob]; exact B.g.keeps S.keep) h1 ?_) (by decide +kernel))) hcall
  obtain ⟨t, u, v, w', n, ho⟩ := Zup s S.keep
  refine .of (getMethod_builtin (T := "tuple") ⟨_, ho, rfl⟩ F.plainAttrs_tuple F.slot_tuple_index F.type_tuple_index (fun b e => by cases e; exact ⟨_, ho, rfl⟩) ?_)
  refine callWithR_builtin (wpR_mono (EvsT.cons h EvsT.nil he A α s pos hA S L) (fun us s₂ q => ?_) fun _ _ f => f) he hp
  obtain ⟨α₂, x₂, rs⟩ := q
  cases rs with
  | cons r rs =>
    cases rs
    obtain ⟨t', rfl⟩ := rv_int r
    exact .of (call_index (Zup s₂ x₂.st.keep) hj ⟨α₂, x₂.trans (keeps_tok.step x₂.st), .int _ _⟩)
theorem TrT.chain_t {l e₁ e₂ : Expr} {op₁ op₂ : CmpOp} {pos : Pos} {d₁ d₂ d₃ : D} {b : Bool} {σ₃ : List C}
    (h₁ : EvT prog w hb k n₀ env ρ l σ d₁ σ₁) (h₂ : EvT prog w hb k n₀ env ρ e₁ σ₁ d₂ σ₂) (c₁ : BinV prog w hb k (compareOp op₁) d₁ d₂ σ₂ (.bool true)) (h₃ : EvT prog w hb k n₀ env ρ e₂ σ₂ d₃ σ₃) (c₂ : BinV prog w hb k (compareOp op₂) d₂ d₃ σ₃ (.bool b))
    (hm : lastMarks (op₁ :: op₂ :: []) (e₁ :: e₂ :: []) = false := by with_unfolding_all rfl) : TrT prog w hb k n₀ env ρ (.Compare l [op₁, op₂] [e₁, e₂] pos) σ b σ₃ :=
  .chain h₁ h₂ c₁ (fun _ => ⟨h₃, c₂, rfl⟩) (fun h => nomatch h) hm
theorem BinV.to {f : Value → Value → Sem Value} {d₁ d₂ d d' : D} (h : BinV prog w hb k f d₁ d₂ σ d) (q : d = d') : BinV prog w hb k f d₁ d₂ σ d' := q ▸ h
theorem EvT.g {x : Str} {pos : Pos} {d : D} (h : Gv hb mg x d) (B : Base hb mg mb) (hx : env.kindOf x = some .globalImplicit := by rfl) (hd : (x == ("__debug__" : Str)) = false := by decide +kernel) : EvT prog w hb k n₀ env ρ (.Name x pos) σ d σ := .glob B h hx hd
end
end Mine
open PySem PySem.W PyProof.Rows PySem.Calls PySem.Spec
set_option maxRecDepth 100000
namespace Mine
section
variable {prog : Program} {w : World} {hb : Heap} {mg mb : Str → Option Value} {k n₀ : Nat} {env : Env} {ρ ρ' ρ₀ ρ₁ ρ₂ : List (Str × D)} {σ σ₁ σ₂ σ' : List C}
/-- what changes objects that are younger than s changes nothing of s -/
theorem Step.drop {X Y : List Addr} {s s' s'' : Shared} {α α' α'' : List Addr} (x : Step hb n₀ X s α s' α' σ') (y : Step hb n₀ Y s' α' s'' α'' σ₂) (hY : ∀ b ∈ Y, s.heap.get? b = none) : Step hb n₀ X s α s'' α'' σ₂ where
  same := by
    obtain ⟨h1, t1, rfl⟩ := x.same
    obtain ⟨h2, t2, rfl⟩ := y.same
    exact ⟨h2, t2, rfl⟩
  pre := by
    have lv := @Step.live _ _ _ _ _ _ _ _ x
    obtain ⟨β, rfl, h1⟩ := x.pre
    obtain ⟨γ, rfl, h2⟩ := y.pre
    refine ⟨β ++ γ, by simp, fun b hb => (List.mem_append.mp hb).elim (h1 b) fun q => ?_⟩
    cases e : s.heap.get? b with
    | none => rfl
    | some o => obtain ⟨o', e'⟩ := lv e; rw [h2 b q] at e'; cases e'
  keep := fun b o e hd hX => by
    refine y.keep b o (x.keep b o e hd hX) ?_ fun q => by rw [hY b q] at e; cases e
    obtain ⟨β, rfl, h1⟩ := x.pre
    exact mem_drop_append hd fun q => by rw [h1 b q] at e; cases e
  alive := fun b _ o e => by
    obtain ⟨o', e'⟩ := x.live e
    exact y.live e'
  st := y.st
/-- the turns of a comprehension with at most one test: the items, and what is collected -/
inductive CompT (prog : Program) (w : World) (hb : Heap) (k : Nat) (cenv : Env) (x : Str) (ρ₀ : List (Str × D)) (ifs : List Expr) (elt : Expr) : List D → List D → Prop
  | nil : CompT prog w hb k cenv x ρ₀ ifs elt [] []
  | all {d e : D} {ds es : List D} : ifs = [] → (∀ σ, EvT prog w hb k σ.length cenv (ρ₀ ++ [(x, d)]) elt σ e σ) → CompT prog w hb k cenv x ρ₀ ifs elt ds es → CompT prog w hb k cenv x ρ₀ ifs elt (d :: ds) (e :: es)
  | take {d e : D} {ds es : List D} {t : Expr} : ifs = [t] → (∀ σ, TrT prog w hb k σ.length cenv (ρ₀ ++ [(x, d)]) t σ true σ) → (∀ σ, EvT prog w hb k σ.length cenv (ρ₀ ++ [(x, d)]) elt σ e σ) → CompT prog w hb k cenv x ρ₀ ifs elt ds es → CompT prog w hb k cenv x ρ₀ ifs elt (d :: ds) (e :: es)
  | skip {d : D} {ds es : List D} {t : Expr} : ifs = [t] → (∀ σ, TrT prog w hb k σ.length cenv (ρ₀ ++ [(x, d)]) t σ false σ) → CompT prog w hb k cenv x ρ₀ ifs elt ds es → CompT prog w hb k cenv x ρ₀ ifs elt (d :: ds) es
theorem testsR_nil {M : Model} {A : Around} {E : Value → Shared → Prop} {s : Shared} {env : Env} {Q : Bool → Shared → Prop} (h : Q true s) :
    wpR M A (forIn ([] : List Expr) true fun c r => if r = true then do let ok ← isTrue c env (eval c env); pure (ForInStep.yield ok) else pure (ForInStep.yield r)) Q E s := wpR_pure h
theorem testsR_one {M : Model} {A : Around} {E : Value → Shared → Prop} {s : Shared} {env : Env} {c : Expr} {Q : Bool → Shared → Prop} (h : wpR M A (isTrue c env (eval c env)) Q E s) :
    wpR M A (forIn [c] true fun c r => if r = true then do let ok ← isTrue c env (eval c env); pure (ForInStep.yield ok) else pure (ForInStep.yield r)) Q E s := by
  simp only [List.forIn_cons, List.forIn_nil, if_true]
  exact wpR_bind (wpR_bind (wpR_mono h (fun b s' hb => wpR_pure (wpR_pure hb)) fun _ _ x => x))
theorem compLoopR {A : Around} {s : Shared} {elt target iter : Expr} {ifs : List Expr} {scope : Scope} {pos : Pos} {it acc : Value} {env : Env} {Q : Flow → Shared → Prop} (I : Nat → Shared → Prop)
    (turn : ∀ n s, I n s → wpR (model prog w) A (pyNext it) (fun r s₁ => match r with
      | none => Q .next s₁
      | some v => wpR (model prog w) A (assign target env v) (fun _ s₂ =>
          wpR (model prog w) A (forIn ifs true fun c r => if r = true then do let ok ← isTrue c env (eval c env); pure (ForInStep.yield ok) else pure (ForInStep.yield r)) (fun ok s₃ =>
            if ok = true then wpR (model prog w) A (eval elt env) (fun x s₄ => wpR (model prog w) A (call (.builtin "list.append") [acc, x]) (fun _ s₅ => ∃ m, m < n ∧ I m s₅) noE s₄) noE s₃
            else ∃ m, m < n ∧ I m s₃) noE s₂) noE s₁) noE s)
    (n : Nat) (h : I n s) (ht : ∀ v, letOwnedTupleGo target it v = pure () := by intro _; rfl) :
    codeR (model prog w) A (.compLoop (.ListComp elt [⟨target, iter, ifs, 0⟩] scope pos) 0 it acc env) (RR Q) s := by
  refine codeR_loop rfl rfl I (fun n s hI => ?_) n h
  show wpR _ A ((compTurn (.ListComp elt [⟨target, iter, ifs, 0⟩] scope pos) 0 it acc env).onRaise (fun x => do noteFrame x env; theTreesLotGoes x)) _ _ s
  refine wpR_onRaise ?_
  rw [compTurn_list]
  refine wpR_bind (wpR_standAt (wpR_bind (wpR_mono (turn n s hI) (fun r s₁ h₁ => ?_) fun _ _ h' => h')))
  cases r with
  | none => exact wpR_pure h₁
  | some v =>
    refine wpR_bind (wpR_of_eq (ht v) ?_)
    refine wpR_bind (wpR_mono h₁ (fun _ s₂ h₂ => wpR_bind (wpR_mono h₂ (fun ok s₃ h₃ => ?_) fun _ _ h' => h')) fun _ _ h' => h')
    cases ok with
    | false => exact wpR_pure (.inl ⟨rfl, h₃⟩)
    | true => exact wpR_bind (wpR_bind (wpR_mono h₃ (fun x s₄ h₄ => wpR_bind (wpR_mono h₄ (fun _ s₅ h₅ => wpR_pure (wpR_pure (.inl ⟨rfl, h₅⟩))) fun _ _ h' => h')) fun _ _ h' => h'))
theorem compStartR {A : Around} {s : Shared} {elt target iter : Expr} {ifs : List Expr} {scope : Scope} {pos : Pos} {it acc : Value} {env : Env} {Q : Flow → Shared → Prop}
    (h0 : codeR (model prog w) A (.compLoop (.ListComp elt [⟨target, iter, ifs, 0⟩] scope pos) 0 it acc env) (RR Q) s)
    (h : wpAny (model prog w) A (pyIter it) (fun it' s' => it' = it ∧ s' = s) noE s) :
    codeR (model prog w) A (.compStart (.ListComp elt [⟨target, iter, ifs, 0⟩] scope pos) 0 it acc env) (RR Q) s := by
  refine codeR_of_tree ?_
  show wpR _ _ ((compStart (.ListComp elt [⟨target, iter, ifs, 0⟩] scope pos) 0 it acc env).onRaise (fun x => do noteFrame x env; standAt theWindowsPlace)) _ _ s
  refine wpR_onRaise ?_
  unfold compStart
  show wpR _ _ (ask >>= _) _ _ s
  refine wpR_bind (wpR.of (wpAny_askSetting ?_))
  split
  · first
      | exact wpR_bind (wpR_pure (wpR_pure ⟨rfl, rfl, h0⟩))
      | exact wpR_pure ⟨rfl, rfl, h0⟩
  · refine wpR_bind (wpR_rule ?_)
    show wpR _ _ (standAt iter.pos >>= _) _ _ s
    refine wpR_bind (wpR_standAt (wpR_bind (wpR_mono (.of h) (fun it' s' q => ?_) fun _ _ f => f)))
    obtain ⟨rfl, rfl⟩ := q
    exact wpR_pure ⟨rfl, rfl, h0⟩
/-- the names that a comprehension sees -/
structure Sees (env : Env) (scope : Scope) (cl : List (Str × Addr)) (x : Str) (ρ ρ₀ : List (Str × D)) : Prop where
  clos : closureFor scope env = pure cl
  cells : ∀ c ∈ cl, c ∈ env.cells
  nocell : ∀ y ∈ scope.names, y.2 ≠ .cell
  kind : scope.kind = .function
  names : ∀ y ∈ scope.names, y.2 = .local → scope.names.lookup y.1 = some .local
  here : scope.names.lookup x = some .local
  free : ∀ y d, (y, d) ∈ ρ₀ → (y, d) ∈ ρ ∧ (relabel scope env).names.lookup y = some .cell ∧ env.kindOf y = some .cell ∧ cl.lookup y = env.cells.lookup y
  nodup : (ρ₀.map (·.1)).Nodup
  new : (ρ₀.map (·.1)).contains x = false
theorem upd_last {x : Str} {d : D} : ∀ {ρ₀ ρ' : List (Str × D)}, ρ' = ρ₀ ∨ (∃ e, ρ' = ρ₀ ++ [(x, e)]) → (ρ₀.map (·.1)).contains x = false → Upd ρ' x d (ρ₀ ++ [(x, d)]) := by
  intro ρ₀ ρ' h hn
  rcases h with rfl | ⟨e, rfl⟩
  · refine .new ?_ hn
    clear hn
    induction ρ' with
    | nil => exact .nil
    | cons p r ih => exact .cons ih
  · refine .put ?_
    clear hn
    induction ρ₀ with
    | nil => exact .hit
    | cons p r ih => exact .miss ih
/-- a namespace that is younger than s changes -/
theorem Step.side {X : List Addr} {s s' : Shared} {α α' : List Addr} {C : Addr} {h' : Heap} {t : Nat} (x : Step hb n₀ X s α s' α' σ') (K : ∀ b o, hb.get? b = some o → s.heap.get? b = some o) (hC : s.heap.get? C = none) (hCα : C ∉ α') (hCX : C ∉ X) (hm : ∃ m, s'.heap.Ns C m) (hs : Heap.SameBut C s'.heap h') :
    Step hb n₀ X s α { s' with heap := h', toks := t } α' σ' ∧ (∀ v d, Rv s'.heap α' v d → Rv h' α' v d) := by
  have hk : ∀ b o, b ≠ C → s'.heap.get? b = some o → h'.get? b = some o := fun b o hb e => (hs.2 b hb).trans e
  have hnc : ∀ b o xs n, s'.heap.get? b = some o → o.data = .seq xs n → b ≠ C := fun b o xs n e hd q => by
    obtain ⟨m, o', es, ep, h1, h2, _⟩ := hm
    rw [q, h1] at e; cases e; rw [h2] at hd; cases hd
  have lf : ∀ v d, Rv s'.heap α' v d → Rv h' α' v d := fun v d r => r.lift (fun b o xs n e hd hn => ⟨hk b o (hnc b o xs n e hd) e, hn⟩) fun _ _ e => e
  have lfa : ∀ {v d}, RvAll s'.heap α' v d → RvAll h' α' v d := fun r => r.lift (fun b o xs n e hd hn => ⟨hk b o (hnc b o xs n e hd) e, hn⟩) fun _ _ e => e
  refine ⟨⟨?_, x.pre, fun b o e hd hX => hk b o (fun q => by rw [q, hC] at e; cases e) (x.keep b o e hd hX), fun b hbX o e => ?_, ?_⟩, lf⟩
  · obtain ⟨h1, t1, rfl⟩ := x.same
    exact ⟨_, _, rfl⟩
  · obtain ⟨o', e'⟩ := x.alive b hbX o e
    exact ⟨o', hk b o' (fun q => hCX (q ▸ hbX)) e'⟩
  · refine ⟨fun b o e => hk b o (fun q => by have := K b o e; rw [q, hC] at this; cases this) (x.st.keep b o e), x.st.fresh, x.st.nodup, x.st.len, fun n a c e1 e2 => ?_⟩
    have y := x.st.cells n a c e1 e2
    have ha : a ≠ C := fun q => hCα (q ▸ List.mem_of_getElem? e1)
    cases c with
    | list ds => obtain ⟨vs, ⟨m, ho⟩, q⟩ := y; exact ⟨vs, ⟨m, hk _ _ ha ho⟩, lfa q⟩
    | barr b => obtain ⟨o, ho, r⟩ := y; exact ⟨o, hk _ _ ha ho, r⟩
theorem Loc.side {h h' : Heap} {α : List Addr} {C : Addr} (L : Loc hb h α env ρ) (hm : ∃ m, h.Ns C m) (hne : C ≠ env.locals) (hs : Heap.SameBut C h h') (lf : ∀ v d, Rv h α v d → Rv h' α v d) : Loc hb h' α env ρ := by
  have hk : ∀ b o, b ≠ C → h.get? b = some o → h'.get? b = some o := fun b o hb e => (hs.2 b hb).trans e
  have hcell : ∀ c o v, h.get? c = some o → o.data = .cell v → c ≠ C := fun c o v e hd q => by
    obtain ⟨m, o', es, ep, h1, h2, _⟩ := hm
    rw [q, h1] at e; cases e; rw [h2] at hd; cases hd
  have hns : ∀ m, h.Ns env.locals m → h'.Ns env.locals m := fun m ⟨o, es, ep, h1, r⟩ => ⟨o, es, ep, hk _ _ (Ne.symm hne) h1, r⟩
  refine ⟨?_, fun z d e => ?_, L.nodup, L.fresh, L.off, L.kind, L.glob, L.bui, fun c hc => ?_⟩
  · obtain ⟨m, q⟩ := L.ns; exact ⟨m, hns m q⟩
  · obtain ⟨v, hv, r⟩ := L.bnd z d e
    refine ⟨v, ?_, lf _ _ r⟩
    rcases hv with ⟨hk', m, q, hm'⟩ | ⟨hk', c, hl, o, ho, hd⟩
    · exact .inl ⟨hk', m, hns m q, hm'⟩
    · exact .inr ⟨hk', c, hl, o, hk c o (hcell c o _ ho hd) ho, hd⟩
  · obtain ⟨h1, o, v, h2, h3⟩ := L.cells c hc
    exact ⟨h1, o, v, hk _ _ (hcell _ o _ h2 h3) h2, h3⟩
/-- what stands when a comprehension has collected -/
structure Got (hb : Heap) (n₀ : Nat) (s : Shared) (α α₂ : List Addr) (σ₁ : List C) (es : List D) (acc : Value) (C : Addr) (s' : Shared) : Prop where
  step : Step hb n₀ [] s α s' α₂ σ₁
  young : s.heap.get? C = none
  off : C ∉ α₂
  ns : ∃ m, s'.heap.Ns C m
  val : Rv s'.heap α₂ acc (.list es)
structure CMid (hb : Heap) (n₀ : Nat) (cenv : Env) (s s₂ : Shared) (α α₂ : List Addr) (σ₁ : List C) (Da : Addr) (fp : List Addr) (Stt : Nat → Heap → Prop) (i : Nat) (done : List D) (ρ' : List (Str × D)) (s' : Shared) : Prop where
  step : Step hb n₀ [] s α s' (α₂ ++ [Da]) (σ₁ ++ [.list done])
  loc : Loc hb s'.heap (α₂ ++ [Da]) cenv ρ'
  st : Stt i s'.heap
  offs : ∀ b ∈ fp, b ∉ α₂ ++ [Da] ∧ b ≠ cenv.locals ∧ ∃ o, s'.heap.get? b = some o
  lifts : ∀ v d, Rv s₂.heap α₂ v d → Rv s'.heap (α₂ ++ [Da]) v d
structure CInv (prog : Program) (w : World) (hb : Heap) (k n₀ : Nat) (cenv : Env) (x : Str) (ρ₀ : List (Str × D)) (ifs : List Expr) (elt : Expr) (s s₂ : Shared) (α α₂ : List Addr) (σ₁ : List C) (ds es : List D) (Da : Addr) (fp : List Addr) (Stt : Nat → Heap → Prop)
    (i : Nat) (done rest : List D) (s' : Shared) : Prop where
  le : i ≤ ds.length
  eq : es = done ++ rest
  turns : CompT prog w hb k cenv x ρ₀ ifs elt (ds.drop i) rest
  mid : ∃ ρ', (ρ' = ρ₀ ∨ ∃ e, ρ' = ρ₀ ++ [(x, e)]) ∧ CMid hb n₀ cenv s s₂ α α₂ σ₁ Da fp Stt i done ρ' s'
theorem same_alpha {X : List Addr} {s s' : Shared} {α α' : List Addr} (y : Step hb n₀ X s α s' α' σ₁) (S : St hb α σ₁ s.heap) : α' = α := by
  obtain ⟨β, e, _⟩ := y.pre
  have h1 := y.st.len
  have h2 := S.len
  rw [e, List.length_append] at h1
  have : β = [] := List.length_eq_zero_iff.mp (by omega)
  rw [e, this, List.append_nil]
/-- nothing but the collected list and the comprehension's own names has changed since -/
theorem CMid.on {X : List Addr} {cenv : Env} {s s₂ s' s'' : Shared} {α α₂ : List Addr} {done : List D} {Da : Addr} {fp : List Addr} {Stt : Nat → Heap → Prop} {i : Nat} {done' : List D} {ρ' ρ'' : List (Str × D)} {m : Nat}
    (W : ∀ i h h', Stt i h → (∀ b ∈ fp, ∀ o, h.get? b = some o → h'.get? b = some o) → Stt i h') (c : CMid hb n₀ cenv s s₂ α α₂ σ₁ Da fp Stt i done ρ' s') (y : Step hb m X s' (α₂ ++ [Da]) s'' (α₂ ++ [Da]) (σ₁ ++ [.list done'])) (hm : n₀ ≤ m) (hX : ∀ b ∈ X, b = cenv.locals) (hC : s.heap.get? cenv.locals = none)
    (L : Loc hb s''.heap (α₂ ++ [Da]) cenv ρ'') : CMid hb n₀ cenv s s₂ α α₂ σ₁ Da fp Stt i done' ρ'' s'' where
  step := c.step.drop (y.mono (fun _ h => h) hm) fun b hb' => by rw [hX b hb']; exact hC
  loc := L
  st := W _ _ _ c.st fun b hbf o e => y.keep b o e (fun q => (c.offs b hbf).1 (List.mem_of_mem_drop q)) fun q => (c.offs b hbf).2.1 (hX b q)
  offs := fun b hbf => by
    obtain ⟨g1, g2, o₂, e₂⟩ := c.offs b hbf
    exact ⟨g1, g2, y.live e₂⟩
  lifts := fun v d r => y.rv (fun a ha o ho xs n => by
    refine c.loc.noSeq a ?_ o ho xs n
    rw [hX a ha]; exact List.mem_singleton_self _) (c.lifts v d r)
mutual
theorem frz_self {h : Heap} {α : List Addr} {τ : List C} : ∀ {v : Value} {d : D}, Rv h α v d → Frz τ α.length d d
  | _, _, .none => .none
  | _, _, .bool b => .bool b
  | _, _, .int i _ => .int i
  | _, _, .str x _ => .str x
  | _, _, .bytes b _ => .bytes b
  | _, _, .tuple _ _ r => .tuple (frz_selfs r)
  | _, _, .list _ _ r => .list (frz_selfs r)
  | _, _, .ref e => .old (List.getElem?_eq_some_iff.mp e).1
theorem frz_selfs {h : Heap} {α : List Addr} {τ : List C} : ∀ {vs : List Value} {ds : List D}, RvAll h α vs ds → FrzAll τ α.length ds ds
  | _, _, .nil => .nil
  | _, _, .cons r rs => .cons (frz_self r) (frz_selfs rs)
end
/-- the collected list is no longer changed -/
theorem collected {s s₂ s' : Shared} {α α₂ : List Addr} {es : List D} {Da : Addr} (y : Step hb n₀ [] s α s' (α₂ ++ [Da]) (σ₁ ++ [.list es])) (y₂ : Step hb n₀ [] s α s₂ α₂ σ₁) (hn : n₀ ≤ σ₁.length) (hf : ∀ τ n, FrzAll τ n es es) :
    Step hb n₀ [] s α s' α₂ σ₁ ∧ Rv s'.heap α₂ (.ref Da) (.list es) := by
  have hl : α₂.length = σ₁.length := y₂.st.len
  have e : (σ₁ ++ [C.list es]).take α₂.length = σ₁ := by rw [hl]; simp
  have st := st_drop y.st fun n c hc hlt ds hds => by
    rw [List.getElem?_append_left (by omega)] at hc
    have ha : α₂[n]? = some α₂[n] := List.getElem?_eq_getElem hlt
    have := y₂.st.cells n _ c ha hc
    subst hds
    obtain ⟨vs, _, r⟩ := this
    exact frz_selfs r
  rw [e] at st
  refine ⟨⟨y.same, y₂.pre, fun b o e hd hX => ?_, y.alive, st⟩, frz_rv y.st (d := .ref σ₁.length) (.new (by omega) (by simp) (hf _ _)) (.ref (by rw [← hl]; simp))⟩
  refine y.keep b o e ?_ hX
  obtain ⟨β, hβ, _⟩ := y₂.pre
  obtain ⟨β', hβ', hy⟩ := y.pre
  exact hd
theorem comp_core {A : Around} {s s₂ : Shared} {α α₂ : List Addr} {elt iter : Expr} {x : Str} {px : Pos} {ifs : List Expr} {scope : Scope} {pos : Pos} {it : Value} {ds es : List D} {I : Addr} {fp wr : List Addr} {P : Nat → Value → Prop} {Stt : Nat → Heap → Prop} {cl : List (Str × Addr)}
    (hA : AOk A k) (S : St hb α σ s.heap) (L : Loc hb s.heap α env ρ) (y₂ : Step hb n₀ [] s α s₂ α₂ σ₁) (J : Its prog w A s s₂ α₂ it ds I fp wr P Stt) (V : Sees env scope cl x ρ ρ₀)
    (hc : ∀ C, CompT prog w hb k (compEnvC scope cl C env) x ρ₀ ifs elt ds es) (hsz : es.length ≤ sizeLine) (hn : n₀ ≤ σ₁.length) (hf : ∀ τ n, FrzAll τ n es es) :
    wpR (model prog w) A (newList []) (fun acc s₃ => wpR (model prog w) A (newFunctionEnv scope env.globals cl [] env.qual none .none (some env)) (fun cenv s₄ =>
      codeR (model prog w) A (.compStart (.ListComp elt [⟨.Name x px, iter, ifs, 0⟩] scope pos) 0 it acc { cenv with scope := relabel scope env }) (RR fun _ s' => Got hb n₀ s α α₂ σ₁ es acc cenv.locals s') s₄) noE s₃) noE s₂ := by
  obtain ⟨rfl, W, st₀, young, off, live, flds, items⟩ := J
  refine .of (wp_newList ?_ (by rw [sizeLine_eq]; decide))
  have x₃ : Step hb n₀ [] s₂ α₂ { s₂ with heap := s₂.heap.push { cls := .type "list", data := .seq ([] : List Value).toArray } } (α₂ ++ [s₂.heap.objs.size]) (σ₁ ++ [.list []]) :=
    step_new (t := s₂.toks) (o := { cls := .type "list", data := .seq ([] : List Value).toArray }) (c := .list []) y₂.st rfl ⟨[], ⟨_, Heap.get?_push_size _ rfl⟩, .nil⟩
  generalize hD : s₂.heap.objs.size = Da at x₃ ⊢
  generalize hs₃ : ({ s₂ with heap := s₂.heap.push { cls := .type "list", data := .seq ([] : List Value).toArray } } : Shared) = s₃ at x₃ ⊢
  refine .of (wpAny_newFunctionEnv V.nocell (by intro y hy; simp at hy) (fun h₁ hns₁ hsb₁ => ?_) V.kind)
  have hz : s₂.heap.get? Da = none := by rw [← hD]; exact get_size
  have hDlt : Da < s₃.heap.objs.size := by rw [← hs₃, ← hD]; show _ < (s₂.heap.push _).objs.size; rw [Heap.size_push]; exact Nat.lt_succ_self _
  generalize hCa : s₃.heap.objs.size = Ca at hns₁ hsb₁ hDlt ⊢
  have hC₃ : s₃.heap.get? Ca = none := by rw [← hCa]; exact get_size
  show codeR (model prog w) A (.compStart (.ListComp elt [⟨.Name x px, iter, ifs, 0⟩] scope pos) 0 (.ref I) (.ref Da) (compEnvC scope cl Ca env)) (RR fun _ s' => Got hb n₀ s α α₂ σ₁ es (.ref Da) Ca s') { s₃ with heap := h₁, toks := s₃.toks + 0 }
  generalize hs₄ : ({ s₃ with heap := h₁, toks := s₃.toks + 0 } : Shared) = s₄
  have hh₁ : s₄.heap = h₁ := by rw [← hs₄]
  have K₄ : Kp s₃ s₄ := by
    rw [← hs₄]
    exact Kp.mk' fun b o e => hsb₁.extBut b o (fun q => by rw [q, hC₃] at e; cases e) (Heap.get?_push_of_some _ e)
  have x₄ := x₃.trans (K₄.step x₃.st)
  have y₄ := y₂.trans x₄
  have L₄ := L.step y₄
  have hCs : s.heap.get? Ca = none := by
    cases e : s.heap.get? Ca with
    | none => rfl
    | some o => obtain ⟨o', e'⟩ := (y₂.trans x₃).live e; rw [hC₃] at e'; cases e'
  have hCα : Ca ∉ α₂ ++ [Da] := fun h => by have := x₃.st.lt h; rw [hCa] at this; exact Nat.lt_irrefl _ this
  have hC2 : s₂.heap.get? Ca = none := by
    cases e : s₂.heap.get? Ca with
    | none => rfl
    | some o => obtain ⟨o', e'⟩ := x₃.live e; rw [hC₃] at e'; cases e'
  have Lc : Loc hb s₄.heap (α₂ ++ [Da]) (compEnvC scope cl Ca env) ρ₀ := by
    refine ⟨⟨_, hh₁ ▸ hns₁⟩, fun y d hy => ?_, V.nodup, ?_, hCα, V.kind, L.glob, L.bui, fun c hc' => L₄.cells c (V.cells c hc')⟩
    · obtain ⟨h1, h2, h3, h4⟩ := V.free y d hy
      obtain ⟨v, hv, r⟩ := L₄.bnd y d h1
      refine ⟨v, ?_, r⟩
      rcases hv with ⟨hk', _⟩ | ⟨hk', c, hc', ho⟩
      · rw [h3] at hk'; cases hk'
      · exact .inr ⟨h2, c, h4.trans hc', ho⟩
    · show hb.get? Ca = none
      cases e : hb.get? Ca with
      | none => rfl
      | some o => have := S.keep _ _ e; rw [hCs] at this; cases this
  have hxk : (compEnvC scope cl Ca env).kindOf x = some .local := lookup_relabel_local V.here
  have hfp : ∀ b ∈ fp, b ≠ Ca := fun b hb' q => by obtain ⟨o, e, _⟩ := live b hb'; rw [q, hC2] at e; cases e
  have hst₄ : Stt 0 s₄.heap := W.frame _ _ _ st₀ fun b hb' o e => x₄.keep b o e (fun q => off b hb' (List.mem_of_mem_drop q)) (fun h => nomatch h)
  refine compStartR ?_ (W.self 0 _ _ _ hst₄ ⟨rfl, rfl⟩)
  refine compLoopR (fun n s' => ∃ i done rest, n = ds.length + 1 - i ∧ CInv prog w hb k n₀ (compEnvC scope cl Ca env) x ρ₀ ifs elt s s₂ α α₂ σ₁ ds es Da fp Stt i done rest s') ?_ (ds.length + 1) ⟨0, [], es, rfl, ?_⟩
  · rintro n s' ⟨i, done, rest, rfl, c⟩
    obtain ⟨hi, he, ct, ρ', hρ', md⟩ := c
    obtain ⟨y, Lc', st, offs, lifts⟩ := id md
    have T : ∀ h', (∀ b o, b ∉ wr → s'.heap.get? b = some o → h'.get? b = some o) → Touch s s' (α₂ ++ [Da]) wr h' := fun h' hk => ⟨young, fun b hw => (offs b (W.sub _ hw)).1, flds i _ st, hk⟩
    by_cases hlt : i < ds.length
    · refine .of (W.item i _ _ _ hlt st fun v h₂ tk₂ hP st₂ hk₂ => ?_)
      have T := T h₂ hk₂
      obtain ⟨d, hd, r⟩ := items i v hlt hP
      have r₂ := T.rv (lifts v d r)
      have y₂' := T.step (t := tk₂) y (fun _ h => nomatch h) S.keep
      have L₂ := T.loc Lc'
      have hdrop : ds.drop i = d :: ds.drop (i + 1) := by
        rw [List.drop_eq_getElem_cons hlt]; congr 1
        rw [List.getElem?_eq_getElem hlt] at hd; exact Option.some.inj hd
      rw [hdrop] at ct
      have m₂ : CMid hb n₀ (compEnvC scope cl Ca env) s s₂ α α₂ σ₁ Da fp Stt (i + 1) done ρ' { s' with heap := h₂, toks := tk₂ } := by
        refine ⟨y₂', L₂, st₂, fun b hbf => ?_, fun v d r => T.rv (lifts v d r)⟩
        obtain ⟨g1, g2, o₂, e₂⟩ := offs b hbf
        refine ⟨g1, g2, ?_⟩
        by_cases hw : b ∈ wr
        · obtain ⟨o, _, e, _⟩ := flds _ _ st₂ b hw; exact ⟨o, e⟩
        · exact ⟨o₂, hk₂ _ _ hw e₂⟩
      refine .of (wpAny_assign_Name (wp_store (n₀ := n₀) (ρ' := ρ₀ ++ [(x, d)]) y₂'.st L₂ (upd_last hρ' V.new) hxk r₂ fun s₅ x₅ L₅ => ?_))
      have m₅ := m₂.on W.frame x₅ (Nat.le_refl _) (fun b hb' => List.mem_singleton.mp hb') hCs L₅
      -- the element, behind the tests
      have fin : ∀ (e : D) (rest' : List D) (s₆ : Shared), es = done ++ e :: rest' → CompT prog w hb k (compEnvC scope cl Ca env) x ρ₀ ifs elt (ds.drop (i + 1)) rest' → (∀ σ, EvT prog w hb k σ.length (compEnvC scope cl Ca env) (ρ₀ ++ [(x, d)]) elt σ e σ) →
          CMid hb n₀ (compEnvC scope cl Ca env) s s₂ α α₂ σ₁ Da fp Stt (i + 1) done (ρ₀ ++ [(x, d)]) s₆ →
          wpR (model prog w) A (eval elt (compEnvC scope cl Ca env)) (fun u s₇ => wpR (model prog w) A (call (.builtin "list.append") [.ref Da, u]) (fun _ s₈ => ∃ m, m < ds.length + 1 - i ∧
            ∃ i done rest, m = ds.length + 1 - i ∧ CInv prog w hb k n₀ (compEnvC scope cl Ca env) x ρ₀ ifs elt s s₂ α α₂ σ₁ ds es Da fp Stt i done rest s₈) noE s₇) noE s₆ := fun e rest' s₆ he' ct' hE m₆ => by
        refine wpR_mono (hE _ A _ s₆ hA m₆.step.st m₆.loc) (fun u s₇ q => ?_) fun _ _ f => f
        obtain ⟨α₇, x₇, r₇⟩ := q
        obtain rfl := same_alpha x₇ m₆.step.st
        have m₇ := m₆.on W.frame x₇ (by simp; omega) (fun _ h => nomatch h) hCs (m₆.loc.step x₇)
        have hDa : (α₂ ++ [Da])[σ₁.length]? = some Da := by rw [← y₂.st.len]; simp
        obtain ⟨vs, hp, rs⟩ := m₇.step.st.cells _ _ (.list done) hDa (by simp)
        refine .of (wpAny_list_append_plain hp (fun h' hp' hs => ?_) (by rw [List.size_toArray, rs.length]; rw [he'] at hsz; simp at hsz; omega))
        rw [push_toArray] at hp'
        have x₈ := step_cell (n₀ := n₀) (c := .list (done ++ [e])) (t := s₇.toks) m₇.step.st hDa hs (fun lf => ⟨vs ++ [u], hp', lf (rs.append (.one r₇))⟩) hn
        have eσ : (σ₁ ++ [C.list done]).set σ₁.length (.list (done ++ [e])) = σ₁ ++ [.list (done ++ [e])] := by simp
        rw [eσ] at x₈
        have m₈ := m₇.on W.frame x₈ (Nat.le_refl _) (fun _ h => nomatch h) hCs (m₇.loc.step x₈)
        exact ⟨ds.length + 1 - (i + 1), by omega, i + 1, done ++ [e], rest', rfl, hlt, by rw [he']; simp, ct', _, .inr ⟨d, rfl⟩, m₈⟩
      cases ct with
      | @all _ e _ rest' hifs hE ct' =>
        subst hifs
        exact testsR_nil (by rw [if_pos rfl]; exact fin e rest' s₅ he ct' hE m₅)
      | @take _ e _ rest' t hifs hT hE ct' =>
        subst hifs
        refine testsR_one (wpR_mono (hT _ A _ s₅ hA m₅.step.st m₅.loc) (fun b s₆ q => ?_) fun _ _ f => f)
        obtain ⟨rfl, α₆, x₆⟩ := q
        obtain rfl := same_alpha x₆ m₅.step.st
        have m₆ := m₅.on W.frame x₆ (by simp; omega) (fun _ h => nomatch h) hCs (m₅.loc.step x₆)
        rw [if_pos rfl]
        exact fin e rest' s₆ he ct' hE m₆
      | @skip _ _ _ t hifs hT ct' =>
        subst hifs
        refine testsR_one (wpR_mono (hT _ A _ s₅ hA m₅.step.st m₅.loc) (fun b s₆ q => ?_) fun _ _ f => f)
        obtain ⟨rfl, α₆, x₆⟩ := q
        obtain rfl := same_alpha x₆ m₅.step.st
        have m₆ := m₅.on W.frame x₆ (by simp; omega) (fun _ h => nomatch h) hCs (m₅.loc.step x₆)
        rw [if_neg Bool.false_ne_true]
        exact ⟨ds.length + 1 - (i + 1), by omega, i + 1, done, rest, rfl, hlt, he, ct', _, .inr ⟨d, rfl⟩, m₆⟩
    · have hin : i = ds.length := by omega
      subst hin
      rw [List.drop_length] at ct
      refine .of (W.done _ _ _ st fun h₂ tk₂ hk₂ => ?_)
      have T := T h₂ hk₂
      have y₂' := T.step (t := tk₂) y (fun _ h => nomatch h) S.keep
      have L₂ := T.loc Lc'
      cases ct with
      | nil =>
        rw [List.append_nil] at he
        subst he
        obtain ⟨g1, g2⟩ := collected y₂' y₂ hn hf
        exact ⟨g1, hCs, fun q => hCα (List.mem_append_left _ q), L₂.ns, g2⟩
  · refine ⟨Nat.zero_le _, rfl, hc Ca, ρ₀, .inl rfl, y₄, Lc, hst₄, fun b hb' => ?_, fun v d r => x₄.rv0 r⟩
    obtain ⟨o, e, _⟩ := live b hb'
    refine ⟨fun q => ?_, hfp b hb', x₄.live e⟩
    rcases List.mem_append.mp q with q | q
    · exact off b hb' q
    · rw [List.mem_singleton.mp q, hz] at e; cases e
/-- a comprehension's value, or what is done with it -/
theorem comprehensionR {M : Model} {A : Around} {s : Shared} {e : Expr} {scope : Scope} {pos : Pos} {newAcc first : Sem Value} {g : Comprehension} {gs : List Comprehension} {cl : List (Str × Addr)} {Q : Value → Shared → Prop}
    (hcl : clausesOf e = g :: gs) (hs : ∀ x, foldedSetIterable g.iter env x = pure x) (hclos : closureFor scope env = pure cl) (hkind : scope.kind = .function) (hnames : ∀ x ∈ scope.names, x.2 = .local → scope.names.lookup x.1 = some .local)
    (h : wpR M A first (fun x s₁ => wpAny M A (pyIter x) (fun it s₂ => wpR M A newAcc (fun acc s₃ => wpR M A (newFunctionEnv scope env.globals cl [] env.qual none .none (some env)) (fun cenv s₄ =>
        codeR M A (.compStart e 0 it acc { cenv with scope := relabel scope env }) (RR fun _ s' => ∃ m, s'.heap.Ns cenv.locals m ∧ ∀ h', Heap.SameBut cenv.locals s'.heap h' → Q acc { s' with heap := h' }) s₄) noE s₃) noE s₂) noE s₁) noE s) :
    wpR M A (comprehension e scope env pos newAcc false first none) Q noE s := by
  unfold comprehension
  rw [hclos, hcl]
  refine wpR_bind (wpR_mono h (fun x s₁ h₁ => wpR_bind (wpR_standAt (wpR_bind (wpR_of_eq (hs x) (wpR_bind (wpR_holding (wpR_mono (.of h₁) (fun it s₂ h₂ =>
    ?_) fun _ _ h' => h'))))))) fun _ _ h' => h')
  rw [if_neg (by decide)]
  refine wpR_bind (wpR_mono h₂ (fun acc s₃ h₃ => wpR_bind (wpR_pure (wpR_bind (wpR_mono h₃ (fun cenv s₄ h₄ => ?_) fun _ _ h' => h')))) fun _ _ h' => h')
  dsimp only
  have hv : ∀ x ∈ (scope.names.filter fun x => (x.2 == .local || x.2 == .cell) && x.1 != (".0" : Str)).reverse, x.2 = .local → Env.kindOf { cenv with scope := relabel scope env } x.1 = some .local := fun x hx hl =>
    lookup_relabel_local (hnames x (List.mem_filter.mp (List.mem_reverse.mp hx)).1 hl)
  refine wpR_holding (wpR_bind (wpR_attempt (wpR_holding (wpR_run (codeR_mono h₄ fun r s' hr => ?_)))))
  cases r with
  | error x => exact hr.elim
  | ok f =>
    obtain ⟨m, hn, hq⟩ := hr
    exact wpR.of (wpAny_bind (wpAny_holding (wpAny_comp_letGo (cenv := { cenv with scope := relabel scope env }) hkind _ s' m hv hn fun h' m' _ hs' => wpAny_pure (hq h' hs'))))
theorem comprehensionUseR {M : Model} {A : Around} {s : Shared} {e : Expr} {scope : Scope} {pos : Pos} {newAcc first : Sem Value} {g : Comprehension} {gs : List Comprehension} {cl : List (Str × Addr)} {u : Value → Sem Unit} {Q : Value → Shared → Prop}
    (hcl : clausesOf e = g :: gs) (hs : ∀ x, foldedSetIterable g.iter env x = pure x) (hclos : closureFor scope env = pure cl) (hkind : scope.kind = .function) (hnames : ∀ x ∈ scope.names, x.2 = .local → scope.names.lookup x.1 = some .local)
    (h : wpR M A first (fun x s₁ => wpAny M A (pyIter x) (fun it s₂ => wpR M A newAcc (fun acc s₃ => wpR M A (newFunctionEnv scope env.globals cl [] env.qual none .none (some env)) (fun cenv s₄ =>
        codeR M A (.compStart e 0 it acc { cenv with scope := relabel scope env }) (RR fun _ s' => wpR M A (u acc) (fun _ s'' => ∃ m, s''.heap.Ns cenv.locals m ∧ ∀ h', Heap.SameBut cenv.locals s''.heap h' → Q .none { s'' with heap := h' }) noE s') s₄) noE s₃) noE s₂) noE s₁) noE s) :
    wpR M A (comprehension e scope env pos newAcc false first (some u)) Q noE s := by
  unfold comprehension
  rw [hclos, hcl]
  refine wpR_bind (wpR_mono h (fun x s₁ h₁ => wpR_bind (wpR_standAt (wpR_bind (wpR_of_eq (hs x) (wpR_bind (wpR_holding (wpR_mono (.of h₁) (fun it s₂ h₂ =>
    ?_) fun _ _ h' => h'))))))) fun _ _ h' => h')
  rw [if_pos (by rfl)]
  refine wpR_bind (wpR_standAt (wpR_bind (wpR_mono h₂ (fun acc s₃ h₃ => wpR_bind (wpR_pure (wpR_bind (wpR_mono h₃ (fun cenv s₄ h₄ => ?_) fun _ _ h' => h')))) fun _ _ h' => h')))
  dsimp only
  have hv : ∀ x ∈ (scope.names.filter fun x => (x.2 == .local || x.2 == .cell) && x.1 != (".0" : Str)).reverse, x.2 = .local → Env.kindOf { cenv with scope := relabel scope env } x.1 = some .local := fun x hx hl =>
    lookup_relabel_local (hnames x (List.mem_filter.mp (List.mem_reverse.mp hx)).1 hl)
  have hv' : ∀ x ∈ (scope.names.filter fun x => (x.2 == .local || x.2 == .cell) && x.1 != (".0" : Str)).reverse.drop 1 ++ (scope.names.filter fun x => (x.2 == .local || x.2 == .cell) && x.1 != (".0" : Str)).reverse.take 1,
      x.2 = .local → Env.kindOf { cenv with scope := relabel scope env } x.1 = some .local := fun x hx hl => by
    rcases List.mem_append.mp hx with h1 | h1
    · exact hv x (List.mem_of_mem_drop h1) hl
    · exact hv x (List.mem_of_mem_take h1) hl
  refine wpR_holding (wpR_bind (wpR_attempt (wpR_holding (wpR_run (codeR_mono h₄ fun r s' hr => ?_)))))
  cases r with
  | error x => exact hr.elim
  | ok f =>
    refine wpR_bind (wpR_rule (wpR_bind (wpR_holding (wpR_mono hr (fun _ s'' hq => ?_) fun _ _ f => f))))
    obtain ⟨m, hn, hq⟩ := hq
    exact wpR.of (wpAny_bind (wpAny_comp_letGo (cenv := { cenv with scope := relabel scope env }) hkind _ s'' m hv' hn fun h' m' _ hs' => wpAny_pure (hq h' hs')))
theorem EvT.comp {elt iter : Expr} {x : Str} {px : Pos} {ifs : List Expr} {scope : Scope} {pos : Pos} {ds es : List D} {cl : List (Str × Addr)} (hi : ItT prog w hb k n₀ env ρ iter σ ds σ₁) (V : Sees env scope cl x ρ ρ₀)
    (hc : ∀ C, CompT prog w hb k (compEnvC scope cl C env) x ρ₀ ifs elt ds es) (hsz : es.length ≤ sizeLine) (hn : n₀ ≤ σ₁.length) (hf : ∀ τ n, FrzAll τ n es es) (hs : ∀ x, foldedSetIterable iter env x = pure x := by intro _; rfl) :
    EvT prog w hb k n₀ env ρ (.ListComp elt [⟨.Name x px, iter, ifs, 0⟩] scope pos) σ (.list es) σ₁ := fun A α s hA S L => by
  rw [eval_ListComp]
  refine comprehensionR rfl hs V.clos V.kind V.names (wpR_mono (hi A α s hA S L) (fun xv s₁ h₁ => wpAny_mono h₁ (fun it s₂ h₂ => ?_) fun _ _ e => e) fun _ _ e => e)
  obtain ⟨α₂, I, fp, wr, P, Stt, y₂, J⟩ := h₂
  refine wpR_mono (comp_core (elt := elt) (ifs := ifs) (pos := pos) (px := px) (iter := iter) hA S L y₂ J V hc hsz hn hf) (fun acc s₃ h₃ => wpR_mono h₃ (fun cenv s₄ h₄ => codeR_mono h₄ fun r s' hr => ?_) fun _ _ f => f) fun _ _ f => f
  cases r with
  | error e => exact hr.elim
  | ok f =>
    obtain ⟨g1, g2, g3, ⟨m, g4⟩, g5⟩ := hr
    refine ⟨m, g4, fun h' hs' => ?_⟩
    obtain ⟨a, b⟩ := g1.side (t := s'.toks) S.keep g2 g3 (fun h => nomatch h) ⟨m, g4⟩ hs'
    exact ⟨α₂, a, b _ _ g5⟩
/-- a name is given a collected list -/
theorem Ex1.assignComp {y : Str} {py : Pos} {elt iter : Expr} {x : Str} {px : Pos} {ifs : List Expr} {scope : Scope} {pos spos : Pos} {ds es : List D} {cl : List (Str × Addr)} (hi : ItT prog w hb k n₀ env ρ iter σ ds σ₁) (V : Sees env scope cl x ρ ρ₀)
    (hc : ∀ C, CompT prog w hb k (compEnvC scope cl C env) x ρ₀ ifs elt ds es) (hsz : es.length ≤ sizeLine) (hn : n₀ ≤ σ₁.length) (hf : ∀ τ n, FrzAll τ n es es) (U : Upd ρ y (.list es) ρ') (hy : env.kindOf y = some .local := by rfl)
    (hsw : swapsWith (.ListComp elt [⟨.Name x px, iter, ifs, 0⟩] scope pos) (some (.Name y py)) spos.line env = pure true := by rfl) (hs : ∀ x, foldedSetIterable iter env x = pure x := by intro _; rfl) :
    Ex1 prog w hb k n₀ env ρ σ (.Assign [.Name y py] (.ListComp elt [⟨.Name x px, iter, ifs, 0⟩] scope pos) spos) (.next ρ' σ₁) := fun A α s hA S L => by
  rw [exec_Assign_Name_used _ _ _ _ hsw]
  refine wpR_bind (wpR_standAt (wpR_bind ?_))
  show wpR _ A (do let _ ← comprehension (.ListComp elt [⟨.Name x px, iter, ifs, 0⟩] scope pos) scope env _ (newList []) false (eval iter env) (some (PySem.assign (.Name y py) env))) _ _ s
  refine wpR_bind (wpR_mono (comprehensionUseR (Q := fun _ s' => ∃ α', Step hb n₀ [env.locals] s α s' α' σ₁ ∧ Loc hb s'.heap α' env ρ') rfl hs V.clos V.kind V.names (wpR_mono (hi A α s hA S L) (fun xv s₁ h₁ => wpAny_mono h₁ (fun it s₂ h₂ => ?_) fun _ _ e => e) fun _ _ e => e)) (fun _ s' hq => wpR_pure (wpR_pure hq)) fun _ _ e => e)
  obtain ⟨α₂, I, fp, wr, P, Stt, y₂, J⟩ := h₂
  refine wpR_mono (comp_core (elt := elt) (ifs := ifs) (pos := pos) (px := px) (iter := iter) hA S L y₂ J V hc hsz hn hf) (fun acc s₃ h₃ => wpR_mono h₃ (fun cenv s₄ h₄ => codeR_mono h₄ fun r s' hr => ?_) fun _ _ f => f) fun _ _ f => f
  cases r with
  | error e => exact hr.elim
  | ok f =>
    obtain ⟨g1, g2, g3, ⟨m, g4⟩, g5⟩ := hr
    have L₁ := L.step g1
    have hne : cenv.locals ≠ env.locals := fun q => by
      obtain ⟨m', o, _, _, h1, _⟩ := L.ns
      rw [← q, g2] at h1; cases h1
    refine .of (wpAny_assign_Name (wp_store (n₀ := n₀) g1.st L₁ U hy g5 fun s₅ x₅ L₅ => ?_))
    have z := (up (env := env) g1).trans x₅
    obtain ⟨m'', hm''⟩ : ∃ m, s₅.heap.Ns cenv.locals m := by
      obtain ⟨o, es', ep, h1, h2, h3⟩ := g4
      exact ⟨m, o, es', ep, x₅.keep _ o h1 (fun q => g3 (List.mem_of_mem_drop q)) (fun q => hne (List.mem_singleton.mp q)), h2, h3⟩
    refine ⟨m'', hm'', fun h' hs' => ?_⟩
    obtain ⟨a, b⟩ := z.side (t := s₅.toks) S.keep g2 g3 (fun q => hne (List.mem_singleton.mp q)) ⟨m'', hm''⟩ hs'
    exact ⟨α₂, a, L₅.side ⟨m'', hm''⟩ hne hs' b⟩
end
end Mine
open PySem PySem.W PyProof.Rows PySem.Calls PySem.Spec
set_option maxRecDepth 100000
namespace Mine
section
variable {prog : Program} {w : World} {hb : Heap} {mg mb : Str → Option Value} {k n₀ : Nat} {env cenv : Env} {ρ ρ' ρ₀ ρ₁ ρ₂ : List (Str × D)} {σ σ₁ σ₂ σ' : List C} {x : Str} {ifs : List Expr} {elt t : Expr}
theorem CompT.mapAll {β : Type} {f g : β → D} : ∀ {l : List β}, (∀ b ∈ l, ∀ σ, EvT prog w hb k σ.length cenv (ρ₀ ++ [(x, f b)]) elt σ (g b) σ) → CompT prog w hb k cenv x ρ₀ [] elt (l.map f) (l.map g)
  | [], _ => .nil
  | b :: l, h => .all rfl (h b List.mem_cons_self) (CompT.mapAll fun c hc => h c (List.mem_cons_of_mem _ hc))
theorem CompT.filter {β : Type} {f g : β → D} {p : β → Bool} : ∀ {l : List β}, (∀ b ∈ l, ∀ σ, TrT prog w hb k σ.length cenv (ρ₀ ++ [(x, f b)]) t σ (p b) σ) → (∀ b ∈ l, ∀ σ, EvT prog w hb k σ.length cenv (ρ₀ ++ [(x, f b)]) elt σ (g b) σ) →
    CompT prog w hb k cenv x ρ₀ [t] elt (l.map f) ((l.filter p).map g)
  | [], _, _ => .nil
  | b :: l, h, h' => by
    have ih := CompT.filter (l := l) (fun c hc => h c (List.mem_cons_of_mem _ hc)) (fun c hc => h' c (List.mem_cons_of_mem _ hc))
    have ht := h b List.mem_cons_self
    cases hp : p b with
    | true => rw [List.filter_cons_of_pos hp]; rw [hp] at ht; exact .take rfl ht (h' b List.mem_cons_self) ih
    | false => rw [List.filter_cons_of_neg (by rw [hp]; exact Bool.false_ne_true)]; rw [hp] at ht; exact .skip rfl ht ih
theorem frz_map {β : Type} {g : β → D} {τ : List C} {n : Nat} : ∀ {l : List β}, (∀ b ∈ l, Frz τ n (g b) (g b)) → FrzAll τ n (l.map g) (l.map g)
  | [], _ => .nil
  | b :: l, h => .cons (h b List.mem_cons_self) (frz_map fun c hc => h c (List.mem_cons_of_mem _ hc))
theorem Sees.none {env : Env} {scope : Scope} (h1 : ∀ y ∈ scope.names, y.2 ≠ .free) (h2 : ∀ y ∈ scope.names, y.2 ≠ .cell) (h3 : scope.kind = .function) (h4 : ∀ y ∈ scope.names, y.2 = .local → scope.names.lookup y.1 = some .local) (h5 : scope.names.lookup x = some .local) :
    Sees env scope [] x ρ [] := ⟨closureFor_none h1, (fun _ h => nomatch h), h2, h3, h4, h5, (fun _ _ h => nomatch h), List.Pairwise.nil, rfl⟩
/-- b''.join(..) -/
theorem EvT.bjoin {e : Expr} {pe pa pos : Pos} {j : Nat} {pl : Sem Bool} {ps : List (List UInt8)} (h : EvT prog w hb k n₀ env ρ e σ (.list (ps.map D.bytes)) σ₁) (hsz : ps.flatten.length ≤ 16777216)
    (he : starEach [e] env = (false, eval e env) :: starEach [] env := by rfl) (hp : ((backTo pos (starEach [] env)).any fun x => x.1) = false := by rfl)
    (hcall : MethForm env (.Constant (.bytes []) j pe) "join" pa pos [e] pl := by rfl) : EvT prog w hb k n₀ env ρ (.Call (.Attribute (.Constant (.bytes []) j pe) "join" pa) [e] [] pos) σ (.bytes ps.flatten) σ₁ :=
  .meth .bytes (fun s α v r => by obtain ⟨t, rfl⟩ := rv_bytes r; exact ⟨typeIs_bytes _ _ _, fun a h => nomatch h⟩) FB.plainAttrs_bytes slot_join type_join (.cons h .nil he) (.join hsz) he hp hcall
end
end Mine
open PySem PySem.W PyProof.Rows PySem.Calls PySem.Spec
set_option maxRecDepth 100000
namespace Mine
/-- the table of the number frames -/
structure NF (prog : Program) (w : World) (hb : Heap) (mg : Str → Option Value) : Prop where
  at_ : ∃ a f, mg "NUMBER_FRAMES" = some (.ref a) ∧ (a == sysModules) = false ∧ hb.MapOf (strKind prog w) a f ∧ (∃ t, f "ping" = some (.int 1 t)) ∧ (∃ t, f "max_data" = some (.int 16 t)) ∧ (∃ t, f "retire_connection_id" = some (.int 25 t)) ∧ f "crypto" = none ∧ f "stream" = none
/-- what the table tells of a kind -/
def nfOf (x : Str) : Option Int := if x = "ping" then some 1 else if x = "max_data" then some 16 else if x = "retire_connection_id" then some 25 else none
def nfKind (x : Str) : Prop := x = "ping" ∨ x = "max_data" ∨ x = "retire_connection_id" ∨ x = "crypto" ∨ x = "stream"
section
variable {prog : Program} {w : World} {hb : Heap} {mg mb : Str → Option Value} {k n₀ : Nat} {env cenv : Env} {ρ ρ' ρ₀ ρ₁ ρ₂ : List (Str × D)} {σ σ₁ σ₂ σ' : List C} {x : Str}
theorem NF.get (N : NF prog w hb mg) (hx : nfKind x) : ∃ a f, mg "NUMBER_FRAMES" = some (.ref a) ∧ (a == sysModules) = false ∧ hb.MapOf (strKind prog w) a f ∧ ((nfOf x = none ∧ f x = none) ∨ ∃ i t, nfOf x = some i ∧ f x = some (.int i t)) := by
  obtain ⟨a, f, h1, h2, h3, ⟨t1, g1⟩, ⟨t2, g2⟩, ⟨t3, g3⟩, g4, g5⟩ := N.at_
  refine ⟨a, f, h1, h2, h3, ?_⟩
  rcases hx with rfl | rfl | rfl | rfl | rfl
  · exact .inr ⟨1, t1, by decide +kernel, g1⟩
  · exact .inr ⟨16, t2, by decide +kernel, g2⟩
  · exact .inr ⟨25, t3, by decide +kernel, g3⟩
  · exact .inl ⟨by decide +kernel, g4⟩
  · exact .inl ⟨by decide +kernel, g5⟩
theorem TrT.innf {e : Expr} {p pos : Pos} (B : Base hb mg mb) (N : NF prog w hb mg) (hx : nfKind x) (h : EvT prog w hb k n₀ env ρ e σ (.str x) σ₁)
    (hk : env.kindOf "NUMBER_FRAMES" = some .globalImplicit := by rfl) (hm : behindInMarks .In (.Name "NUMBER_FRAMES" p) = false := by with_unfolding_all rfl) :
    TrT prog w hb k n₀ env ρ (.Compare e [.In] [.Name "NUMBER_FRAMES" p] pos) σ (nfOf x).isSome σ₁ := fun A α s hA S L => by
  obtain ⟨a, f, h1, h2, h3, hc⟩ := N.get hx
  refine isTrue_Compare1R (wpR_mono (h A α s hA S L) (fun v₁ s₁ q₁ => ?_) fun _ _ f => f) hm
  obtain ⟨α₁, x₁, r₁⟩ := q₁
  obtain ⟨t, rfl⟩ := rv_str r₁
  refine .of (Name_function_global L.kind hk (loadGlobal_global (by rw [L.glob]; exact B.g.keeps x₁.st.keep) h1 ?_) (by decide +kernel))
  have hm' : s₁.heap.MapOf (strKind prog w) a f := by obtain ⟨o, es, ep, q1, q2⟩ := h3; exact ⟨o, es, ep, x₁.st.keep _ _ q1, q2⟩
  refine .of (wpAny_in_of (strKind_is prog w x t) h2 hm' ?_)
  refine .of (wpAny_truthy_bool ⟨?_, α₁, x₁.trans (keeps_tok.step x₁.st)⟩)
  rcases hc with ⟨g1, g2⟩ | ⟨i, t, g1, g2⟩ <;> rw [g1, g2] <;> rfl
theorem EvT.itemnf {e : Expr} {p pos : Pos} {i : Int} (B : Base hb mg mb) (N : NF prog w hb mg) (hx : nfKind x) (hi : nfOf x = some i) (h : EvT prog w hb k n₀ env ρ e σ (.str x) σ₁)
    (hk : env.kindOf "NUMBER_FRAMES" = some .globalImplicit := by rfl)
    (hs : ∀ a t, subscripted e false (.ref a) (.str x t) = operate [.ref a, .str x t] (getItem (.ref a) (.str x t)) := by intros; with_unfolding_all rfl) :
    EvT prog w hb k n₀ env ρ (.Subscript (.Name "NUMBER_FRAMES" p) e pos) σ (.int i) σ₁ := fun A α s hA S L => by
  obtain ⟨a, f, h1, h2, h3, hc⟩ := N.get hx
  refine SubscriptR (.of (Name_function_global L.kind hk (loadGlobal_global (by rw [L.glob]; exact B.g.keeps S.keep) h1 ?_) (by decide +kernel)))
  refine wpR_mono (h A α s hA S L) (fun v₁ s₁ q₁ => ?_) fun _ _ f => f
  obtain ⟨α₁, x₁, r₁⟩ := q₁
  obtain ⟨t, rfl⟩ := rv_str r₁
  have hm' : s₁.heap.MapOf (strKind prog w) a f := by obtain ⟨o, es, ep, q1, q2⟩ := h3; exact ⟨o, es, ep, x₁.st.keep _ _ q1, q2⟩
  rcases hc with ⟨g1, g2⟩ | ⟨i', t', g1, g2⟩
  · rw [g1] at hi; cases hi
  · rw [g1] at hi; cases hi
    exact .of (tail_any hm'.typeIs slot_dict_getitem.lookup (wpAny_getItem_of (strKind_is prog w x t) hm' g2 ⟨α₁, x₁.trans (keeps_tok.step x₁.st), .int _ _⟩) (hs _ _))
theorem EvT.ifT {test body orelse : Expr} {pos : Pos} {d : D} (h : TrT prog w hb k n₀ env ρ test σ true σ₁) (h2 : EvT prog w hb k n₀ env ρ body σ₁ d σ₂) : EvT prog w hb k n₀ env ρ (.IfExp test body orelse pos) σ d σ₂ := .ifexp h (fun _ => h2) fun h => nomatch h
theorem EvT.ifF {test body orelse : Expr} {pos : Pos} {d : D} (h : TrT prog w hb k n₀ env ρ test σ false σ₁) (h2 : EvT prog w hb k n₀ env ρ orelse σ₁ d σ₂) : EvT prog w hb k n₀ env ρ (.IfExp test body orelse pos) σ d σ₂ := .ifexp h (fun h => nomatch h) fun _ => h2
/-- the names of a written tuple -/
def namesOf (es : List Expr) : List (Str × Pos) := es.filterMap fun e => match e with | .Name x p => some (x, p) | _ => none
theorem Ex1.unpk {elts : List Expr} {j : Nat} {tpos pos : Pos} {value : Expr} {ds : List D} (h : EvT prog w hb k n₀ env ρ value σ (.tuple ds) σ₁) (U : UpdAll ρ ((namesOf elts).map (·.1)) ds ρ₁) (he : elts = (namesOf elts).map fun x => Expr.Name x.1 x.2 := by rfl)
    (hl : (namesOf elts).length = ds.length := by rfl) (hx : ((namesOf elts).all fun x => env.kindOf x.1 == some .local) = true := by rfl)
    (hs : swapsWithSole [.Tuple elts j tpos] value pos.line env = pure false := by rfl) (hw : swappedStores [.Tuple elts j tpos] value env = pure none := by rfl) : Ex1 prog w hb k n₀ env ρ σ (.Assign [.Tuple elts j tpos] value pos) (.next ρ₁ σ₁) := .unpack h U he hl (fun x hm => by simpa using List.all_eq_true.mp hx x hm) hs hw
end
end Mine
open PySem PySem.W PyProof.Rows PySem.Calls PySem.Spec
set_option maxRecDepth 100000
namespace Mine
theorem adjust_upto (a n : Nat) (ha : a ≤ n) : Builtin.Slice.sliceAdjust none (some (a : Int)) 1 (n : Int) = (0, (a : Int)) := by
  unfold Builtin.Slice.sliceAdjust
  have h1 : ¬ ((1 : Int) < 0) := by omega
  have h2 : ¬ ((a : Int) < 0) := by omega
  simp only [h1, h2, if_false]
  congr 1
  omega
theorem places_upto (a : Nat) : Builtin.Slice.slicePlaces 0 (a : Int) 1 = a := by
  unfold Builtin.Slice.slicePlaces
  have h1 : (1 : Int) > 0 := by omega
  simp only [h1, if_true, Int.ediv_one]
  split <;> omega
section
variable {prog : Program} {w : World} {A : Around} {E : Value → Shared → Prop} {s : Shared}
theorem sliceApplied_upto {sl : Addr} {a n : Nat} {u : Tok} {Q : Int × Int × Nat → Shared → Prop} (hs : s.heap.IsSliceOf sl .none (.int a u) .none) (ha : a ≤ n) (h : Q (0, 1, a) s) :
    wpAny (model prog w) A (Builtin.Slice.sliceApplied (.ref sl) (pure (n : Int))) Q E s := by
  obtain ⟨os, hos, hcs, hds⟩ := id hs
  unfold Builtin.Slice.sliceApplied Builtin.Slice.sliceFields
  refine wpAny_bind (wpAny_bind (wpAny_field hos hds (x := .none) rfl (wpAny_bind (wpAny_field hos hds (x := .int a u) rfl (wpAny_bind (wpAny_field hos hds (x := .none) rfl (wpAny_pure ?_)))))))
  refine wpAny_bind (slicePart_none ?_)
  show wpAny _ _ (if ((1 : Int) == 0) = true then _ else _) _ _ s
  rw [if_neg (by decide)]
  refine wpAny_bind (slicePart_none (wpAny_bind (slicePart_int (wpAny_bind (wpAny_pure ?_)))))
  show wpAny _ _ (match Builtin.Slice.sliceAdjust none (some (a : Int)) 1 (n : Int) with | (lo, hi) => pure (lo, (1 : Int), Builtin.Slice.slicePlaces lo hi 1)) _ _ s
  rw [adjust_upto a n ha]
  show wpAny _ _ (pure ((0 : Int), (1 : Int), Builtin.Slice.slicePlaces 0 (a : Int) 1)) _ _ s
  rw [places_upto a]
  exact wpAny_pure h
theorem pick_upto (xs : Array Value) (a : Nat) (ha : a ≤ xs.size) : ((List.range a).filterMap fun (k : Nat) => xs[((0 : Int) + (k : Int) * 1).toNat]?).toArray = (xs.toList.take a).toArray := by
  have e : (fun (k : Nat) => xs[((0 : Int) + (k : Int) * 1).toNat]?) = fun k => xs[k]? := by
    funext k
    have : ((0 : Int) + (k : Int) * 1).toNat = k := by omega
    rw [this]
  rw [e]
  congr 1
  have : ∀ (l : List Value) (a : Nat), a ≤ l.length → (List.range a).filterMap (fun k => l[k]?) = l.take a := by
    intro l a
    induction a with
    | zero => intro _; rfl
    | succ a ih =>
      intro h
      rw [List.range_succ, List.filterMap_append, ih (by omega), List.take_add_one]
      rw [List.getElem?_eq_getElem (by omega : a < l.length)]
      simp [List.getElem?_eq_getElem (by omega : a < l.length)]
  have := this xs.toList a (by simpa using ha)
  simpa using this
theorem getItem_tuple_upto {t sl : Addr} {items : Array Value} {a : Nat} {u : Tok} {Q : Value → Shared → Prop} (ht : IsTup s.heap t items) (hs : s.heap.IsSliceOf sl .none (.int a u) .none) (ha : a < items.size)
    (h : Q (.ref s.heap.objs.size) { s with heap := s.heap.push { cls := .type "tuple", data := .seq (items.toList.take a).toArray } })
    (hsz : items.size ≤ sizeLine) : wpAny (model prog w) A (getItem (.ref t) (.ref sl)) Q E s := by
  have htake : sizeOk (.seq (items.toList.take a).toArray) := by
    show (items.toList.take a).toArray.size ≤ sizeLine
    rw [List.size_toArray, List.length_take, Array.length_toList]
    omega
  obtain ⟨os, hos, hcs, hds⟩ := id hs
  have hTs : s.TypeIs (.ref sl) "slice" := ⟨os, hos, hcs⟩
  unfold getItem
  try with_reducible refine wpAny_holding ?_
  refine wpAny_bind (wpAny_sequenceKey ht.typeIs (by decide) ?_)
  refine wpAny_bind (wpAny_callSpecial?_slot (name := Str.ofString "__getitem__") ht.typeIs slot_tuple_getitem
    (wpAny_call_entry slot_tuple_getitem ht.typeIs entry_tuple_getitem ?_ (args_tuple_getitem _ _)))
  show wpAny _ _ (Builtin.Tuple.tupleItemsOf (.ref t) >>= _) _ _ s
  refine wpAny_bind (tupleItemsOf_ ht ?_)
  refine wpAny_bind (wpAny_typeOf hTs ?_)
  rw [if_pos (by decide)]
  refine wpAny_bind (sliceApplied_upto hs (by omega) ?_)
  have hno : ¬ (((0 : Int) == 0 && (1 : Int) == 1 && a == items.size) = true) := by
    have : (a == items.size) = false := by rw [beq_eq_false_iff_ne]; omega
    rw [this]; simp
  show wpAny _ _ (if ((0 : Int) == 0 && (1 : Int) == 1 && a == items.size) = true then _ else _) _ _ s
  rw [if_neg hno, pick_upto items a (by omega)]
  first
    | exact wpAny_bind (m := Builtin.Tuple.tupleExact _) (wpAny_newObj_type (wpAny_pure ⟨_, rfl, wpAny_pure h⟩) htake)
    | exact wpAny_bind (m := Builtin.Tuple.tupleExact _) (wpAny_newObj_type (wpAny_bind (wpAny_pure (wpAny_pure ⟨_, rfl, wpAny_pure h⟩))) htake)
    | exact wpAny_bind (wpAny_bind (m := Builtin.Tuple.tupleExact _) (wpAny_newObj_type (wpAny_pure (wpAny_pure ⟨_, rfl, wpAny_pure h⟩)) htake))
    | exact wpAny_bind (wpAny_bind (m := Builtin.Tuple.tupleExact _) (wpAny_newObj_type (wpAny_pure ⟨_, rfl, wpAny_pure h⟩) htake))
end
section
variable {prog : Program} {w : World} {hb : Heap} {mg mb : Str → Option Value} {k n₀ : Nat} {env cenv : Env} {ρ ρ' ρ₀ ρ₁ ρ₂ : List (Str × D)} {σ σ₁ σ₂ σ' : List C} {x : Str}
theorem CutV.tuple_from {ds : List D} {a : Nat} (h1 : 1 ≤ a) (ha : a ≤ ds.length) (hsz : ds.length ≤ sizeLine) : CutV prog w hb k "tuple" (.tuple ds) (some a) none σ (.tuple (ds.drop a)) := fun A α s v vl vu hA S r pl pu => by
  cases r with
  | @tuple l vs _ hl hn rs =>
    cases pl with
    | int _ t =>
      cases pu with
      | none =>
        have K1 : Kp s { s with heap := s.heap.push { cls := .type "slice", data := .fields #[.int a t, .none, .none] } } := keeps_push
        have hl' : IsTup ({ s with heap := s.heap.push { cls := .type "slice", data := .fields #[.int a t, .none, .none] } } : Shared).heap l vs.toArray := hl.push _
        refine ⟨hl'.typeIs, getItem_tuple_from hl' (Heap.IsSliceOf.new ..) h1 (by rw [List.size_toArray, rs.length]; exact ha) ⟨K1.trans keeps_push, ?_⟩ (by rw [List.size_toArray, rs.length]; exact hsz)⟩
        exact rv_push_tuple (K1.st S) ((K1.rvAll rs).drop a)
theorem CutV.tuple_upto {ds : List D} {a : Nat} (ha : a < ds.length) (hsz : ds.length ≤ sizeLine) : CutV prog w hb k "tuple" (.tuple ds) none (some a) σ (.tuple (ds.take a)) := fun A α s v vl vu hA S r pl pu => by
  cases r with
  | @tuple l vs _ hl hn rs =>
    cases pu with
    | int _ t =>
      cases pl with
      | none =>
        have K1 : Kp s { s with heap := s.heap.push { cls := .type "slice", data := .fields #[.none, .int a t, .none] } } := keeps_push
        have hl' : IsTup ({ s with heap := s.heap.push { cls := .type "slice", data := .fields #[.none, .int a t, .none] } } : Shared).heap l vs.toArray := hl.push _
        refine ⟨hl'.typeIs, getItem_tuple_upto hl' (Heap.IsSliceOf.new ..) (by rw [List.size_toArray, rs.length]; exact ha) ⟨K1.trans keeps_push, ?_⟩ (by rw [List.size_toArray, rs.length]; exact hsz)⟩
        exact rv_push_tuple (K1.st S) ((K1.rvAll rs).take a)
theorem EvT.tfrom {value e : Expr} {sp pos : Pos} {ds : List D} {a : Nat} (h : EvT prog w hb k n₀ env ρ value σ (.tuple ds) σ₁) (hl : EvT prog w hb k n₀ env ρ e σ₁ (.int a) σ₂) (h1 : 1 ≤ a) (ha : a ≤ ds.length) (hsz : ds.length ≤ 1000) (hg : ∀ o r, letTemporaryGo value o r = pure () := by intro _ _; rfl) :
    EvT prog w hb k n₀ env ρ (.Subscript value (.Slice (Option.some e) Option.none Option.none sp) pos) σ (.tuple (ds.drop a)) σ₂ := .slice h (.some hl) .none (.tuple_from h1 ha (by rw [sizeLine_eq]; omega)) slot_tuple_getitem.lookup hg
theorem EvT.tupto {value e : Expr} {sp pos : Pos} {ds : List D} {a : Nat} (h : EvT prog w hb k n₀ env ρ value σ (.tuple ds) σ₁) (hl : EvT prog w hb k n₀ env ρ e σ₁ (.int a) σ₂) (ha : a < ds.length) (hsz : ds.length ≤ 1000) (hg : ∀ o r, letTemporaryGo value o r = pure () := by intro _ _; rfl) :
    EvT prog w hb k n₀ env ρ (.Subscript value (.Slice Option.none (Option.some e) Option.none sp) pos) σ (.tuple (ds.take a)) σ₂ := .slice h .none (.some hl) (.tuple_upto ha (by rw [sizeLine_eq]; omega)) slot_tuple_getitem.lookup hg
/-- an item of a tuple at a written place -/
theorem EvT.it {value : Expr} {pos p : Pos} {j c : Nat} {ds : List D} {d : D} (h : EvT prog w hb k n₀ env ρ value σ (.tuple ds) σ₁) (hd : ds[c]? = some d) (hc : c < 1000 := by decide)
    (hs : ∀ t i u, subscripted (.Constant (.int c) j p) false (.ref t) (.int i u) = operate [.ref t, .int i u] (getItem (.ref t) (.int i u)) := by intros; with_unfolding_all rfl) :
    EvT prog w hb k n₀ env ρ (.Subscript value (.Constant (.int c) j p) pos) σ d σ₁ :=
  .sub h .int (.itemt (j := c) (by omega) (by omega) (seqIndex_at (by omega) (by have := (List.getElem?_eq_some_iff.mp hd).1; omega)) hd hs)
end
end Mine
open PySem PySem.W PyProof.Rows PySem.Calls PySem.Spec
set_option maxRecDepth 100000
namespace Mine
section
variable {prog : Program} {w : World} {hb : Heap} {mg mb : Str → Option Value} {k n₀ : Nat} {env cenv : Env} {ρ ρ' ρ₀ ρ₁ ρ₂ ρ₃ r : List (Str × D)} {σ σ₁ σ₂ σ' : List C} {x : Str}
theorem Loc.prefix {h : Heap} {α : List Addr} (L : Loc hb h α env (ρ₃ ++ r)) : Loc hb h α env ρ₃ where
  ns := L.ns
  bnd := fun x d hm => L.bnd x d (List.mem_append_left _ hm)
  nodup := by have := L.nodup; rw [List.map_append] at this; exact (List.nodup_append.mp this).1
  fresh := L.fresh
  off := L.off
  kind := L.kind
  glob := L.glob
  bui := L.bui
  cells := L.cells
/-- names that are not needed any more -/
theorem ExT.forget {ss : List Stmt} (h : ExT prog w hb k n₀ env ρ σ ss (.next ρ₂ σ₂)) (e : ρ₂ = ρ₃ ++ r) : ExT prog w hb k n₀ env ρ σ ss (.next ρ₃ σ₂) := fun A α s hA S L => by
  refine wpR_mono (h A α s hA S L) (fun f s' q => ?_) fun _ _ f => f
  obtain ⟨α', x, ok⟩ := q
  cases f with
  | next => subst e; exact ⟨α', x, ok.prefix⟩
  | _ => exact ok.elim
/-- ends that say the same -/
theorem ExT.forgetZ {ss : List Stmt} (h : ExT prog w hb k n₀ env ρ σ ss (.next ρ₂ σ₂)) (e : ρ₂ = ρ₃ ++ r) (ez : σ₂ = σ') : ExT prog w hb k n₀ env ρ σ ss (.next ρ₃ σ') := ez ▸ h.forget e
theorem EvT.toZ {e : Expr} {d : D} (h : EvT prog w hb k n₀ env ρ e σ d σ₁) (ez : σ₁ = σ') : EvT prog w hb k n₀ env ρ e σ d σ' := ez ▸ h
theorem LoopT.fold {β S : Type} {f : β → D} {body : List Stmt} (R : S → List (Str × D)) (Z : S → List C) (g : S → β → S) (I : List β → S → Prop)
    (h : ∀ s b l, I (b :: l) s → I l (g s b) ∧ ∃ ρ₁, Upd (R s) x (f b) ρ₁ ∧ ExT prog w hb k n₀ env ρ₁ (Z s) body (.next (R (g s b)) (Z (g s b)))) : ∀ (l : List β) (s : S), I l s →
    LoopT prog w hb k n₀ env x body (l.map f) (R s) (Z s) (.next (R (l.foldl g s)) (Z (l.foldl g s)))
  | [], s, _ => .done
  | b :: l, s, hI => by
    obtain ⟨h1, ρ₁, h2, h3⟩ := h s b l hI
    exact .next h2 h3 (LoopT.fold R Z g I h l (g s b) h1)
theorem ExT.one {st : Stmt} {o : Out} (h : Ex1 prog w hb k n₀ env ρ σ st o) (hr : SeqT prog w hb k n₀ env o [] o) : ExT prog w hb k n₀ env ρ σ [st] o := .cons h hr
theorem SeqT.end {ρ : List (Str × D)} {σ : List C} : SeqT prog w hb k n₀ env (.next ρ σ) [] (.next ρ σ) := .next .nil
theorem Ex1.swp {elts : List Expr} {j : Nat} {tpos pos : Pos} {value : Expr} {names : List Str} {ds : List D} (h : EvT prog w hb k n₀ env ρ value σ (.tuple ds) σ₁) (U : UpdAll ρ names.reverse ds.reverse ρ₁)
    (hl : names.length = ds.length := by rfl) (hx : (names.all fun x => env.kindOf x == some .local) = true := by rfl)
    (hs : swapsWithSole [.Tuple elts j tpos] value pos.line env = pure false := by rfl) (hw : swappedStores [.Tuple elts j tpos] value env = pure (some names) := by rfl) : Ex1 prog w hb k n₀ env ρ σ (.Assign [.Tuple elts j tpos] value pos) (.next ρ₁ σ₁) :=
  .swapped h U hl (fun x hm => by simpa using List.all_eq_true.mp hx x hm) hs hw
end
end Mine
open PySem PySem.W PyProof.Rows PySem.Calls PySem.Spec
set_option maxRecDepth 100000
namespace Mine
/-- the builtin names stand for what they are -/
structure Bare (mg : Str → Option Value) : Prop where
  bytearray : mg "bytearray" = none
  range : mg "range" = none
  bytes : mg "bytes" = none
  len : mg "len" = none
  list : mg "list" = none
  min : mg "min" = none
  max : mg "max" = none
  sum : mg "sum" = none
  abs : mg "abs" = none
  int : mg "int" = none
section
variable {prog : Program} {w : World} {hb : Heap} {mg mb : Str → Option Value} {k n₀ : Nat} {σ : List C}
theorem fdiv_nat (n m : Nat) : (n : Int).fdiv (m : Int) = ((n / m : Nat) : Int) := by
  rw [Int.fdiv_eq_ediv_of_nonneg _ (by omega)]; exact (Int.natCast_ediv n m).symm
theorem fmod_nat (n m : Nat) : (n : Int).fmod (m : Int) = ((n % m : Nat) : Int) := by
  rw [Int.fmod_eq_emod_of_nonneg _ (by omega)]; exact (Int.natCast_emod n m).symm
theorem fdiv256 (n : Nat) : (n : Int).fdiv 256 = ((n / 256 : Nat) : Int) := fdiv_nat n 256
theorem fmod256 (n : Nat) : (n : Int).fmod 256 = ((n % 256 : Nat) : Int) := fmod_nat n 256
theorem at_len {β : Type} {l : List β} {x : β} : (l ++ [x])[l.length]? = some x := by simp
theorem set_len {β : Type} {l : List β} {x y : β} : (l ++ [x]).set l.length y = l ++ [y] := by simp
theorem f_put_whole1 (B : Base hb mg mb) (T : Defs hb mg) (N : Bare mg) {n : Nat} (hn : n < 256) : Fn prog w hb mg (k + 1) "put_whole" [.int n, .int 1] σ (.bytes [n.toUInt8]) := by
  have h1 : n % 256 = n := Nat.mod_eq_of_lt hn
  have h3 : ((n : Int) % 256).toNat = n := by omega
  have h4 : (n : Int).toNat = n := rfl
  have h2 : n / 256 = 0 := Nat.div_eq_of_lt hn
  refine Fn.intro (n := 0) T rfl B ["n", "size"] (fun pm code doc vs h => by match vs, h with | [a0, a1], _ => rfl) rfl (by decide +kernel) (fun n x hx => .inl (by revert x hx; decide +kernel)) (fun n p hp => nomatch (show p ∈ [] from hp)) rfl rfl rfl (fun a code L => ?_)
  dsimp only
  apply Exists.intro
  apply And.intro
  · apply ExT.cons
    · exact .ifF (.or_f (.to (.cmp (.name (.head _)) .int .lt) (by simp)) (.or_f (.to (.cmp (.bin (.name (.head _)) (.bin .int (.name (.tail _ (.head _))) (.mul (.of_left (by decide)))) (.shr (by decide))) .int .nei) (by show ((n : Int).fdiv 256 != 0) = false; rw [fdiv256, h2]; rfl)) .or_nil)) .nil
    apply SeqT.next
    apply ExT.cons
    · exact .assign (.barr B N.bytearray (n := 1) (.name (.tail _ (.head _))) (by decide) (by simp)) (.new (by repeat (first | exact App.nil | apply App.cons)) (by kernel_rfl))
    apply SeqT.next
    apply ExT.cons
    · exact .for (.range3 B N.range (a := 0) (b := -1) (n := 1) (.cons (.to (.bin (.name (.tail _ (.head _))) .int .sub) rfl) (.cons (.neg .int) (.cons (.neg .int) .nil))) (by decide) (by decide))
        (.next (.new (by repeat (first | exact App.nil | apply App.cons)) (by kernel_rfl)) (.cons (.setItem (.to (.bin (.name (.head _)) .int (.mod (by decide))) (by rw [fmod256])) (.name (.tail _ (.tail _ (.head _)))) (.name (.tail _ (.tail _ (.tail _ (.head _))))) (.barr (by exact at_len) (by decide) (by decide) (by decide) (by omega) (by omega)) (by simp))
          (.next (.cons (.assign (.to (.bin (.name (.head _)) .int (.fdiv (by decide) (by exact PyProof.noPylong_small (by decide)))) (by rw [fdiv256])) (.put .hit)) (.next .nil)))) .done)
    apply SeqT.next
    apply ExT.cons
    · exact .ret (.type B N.bytes (by kernel_rfl) (.cons (.name (.tail _ (.tail _ (.head _)))) .nil) (.bytesb (b := [n.toUInt8]) (by simp [h1, h3, h4]) (by simp)))
    exact .ret
  · exact .mk (.bytes _)
theorem f_put_whole2 (B : Base hb mg mb) (T : Defs hb mg) (N : Bare mg) {n : Nat} (hn : n < 65536) : Fn prog w hb mg (k + 1) "put_whole" [.int n, .int 2] σ (.bytes [(n / 256).toUInt8, (n % 256).toUInt8]) := by
  have h1 : n / 256 % 256 = n / 256 := Nat.mod_eq_of_lt (by omega)
  have h3 : ((n : Int) / 256).toNat = n / 256 := by omega
  have h4 : ((n : Int) % 256).toNat = n % 256 := by omega
  have h2 : n / 65536 = 0 := Nat.div_eq_of_lt hn
  refine Fn.intro (n := 0) T rfl B ["n", "size"] (fun pm code doc vs h => by match vs, h with | [a0, a1], _ => rfl) rfl (by decide +kernel) (fun n x hx => .inl (by revert x hx; decide +kernel)) (fun n p hp => nomatch (show p ∈ [] from hp)) rfl rfl rfl (fun a code L => ?_)
  dsimp only
  apply Exists.intro
  apply And.intro
  · apply ExT.cons
    · exact .ifF (.or_f (.to (.cmp (.name (.head _)) .int .lt) (by simp)) (.or_f (.to (.cmp (.bin (.name (.head _)) (.bin .int (.name (.tail _ (.head _))) (.mul (.of_left (by decide)))) (.shr (by decide))) .int .nei) (by show ((n : Int).fdiv (65536 : Nat) != 0) = false; rw [fdiv_nat, h2]; rfl)) .or_nil)) .nil
    apply SeqT.next
    apply ExT.cons
    · exact .assign (.barr B N.bytearray (n := 2) (.name (.tail _ (.head _))) (by decide) (by simp)) (.new (by repeat (first | exact App.nil | apply App.cons)) (by kernel_rfl))
    apply SeqT.next
    apply ExT.cons
    · exact .for (.range3 B N.range (a := 1) (b := -1) (n := 2) (.cons (.to (.bin (.name (.tail _ (.head _))) .int .sub) rfl) (.cons (.neg .int) (.cons (.neg .int) .nil))) (by decide) (by decide))
        (.next (.new (by repeat (first | exact App.nil | apply App.cons)) (by kernel_rfl)) (.cons (.setItem (.to (.bin (.name (.head _)) .int (.mod (by decide))) (by rw [fmod256])) (.name (.tail _ (.tail _ (.head _)))) (.name (.tail _ (.tail _ (.tail _ (.head _))))) (.barr (by exact at_len) (by decide) (by decide) (by decide) (by omega) (by omega)) (by simp))
          (.next (.cons (.assign (.to (.bin (.name (.head _)) .int (.fdiv (by decide) (by exact PyProof.noPylong_small (by decide)))) (by rw [fdiv256])) (.put .hit)) (.next .nil))))
        (.next (.put (.miss (.miss (.miss .hit)))) (.cons (.setItem (.to (.bin (.name (.head _)) .int (.mod (by decide))) (by rw [fmod256])) (.name (.tail _ (.tail _ (.head _)))) (.name (.tail _ (.tail _ (.tail _ (.head _))))) (.barr (by rw [set_len]; exact at_len) (by decide) (by simp) (by simp) (by omega) (by omega)) (by simp))
          (.next (.cons (.assign (.to (.bin (.name (.head _)) .int (.fdiv (by decide) (by exact PyProof.noPylong_small (by decide)))) (by rw [fdiv256])) (.put .hit)) (.next .nil)))) .done))
    apply SeqT.next
    apply ExT.cons
    · exact .ret (.type B N.bytes (by kernel_rfl) (.cons (.name (.tail _ (.tail _ (.head _)))) .nil) (.bytesb (b := [(n / 256).toUInt8, (n % 256).toUInt8]) (by simp [h1, h3, h4]) (by simp)))
    exact .ret
  · exact .mk (.bytes _)
end
end Mine
open PySem PySem.W PyProof.Rows PySem.Calls PySem.Spec
set_option maxRecDepth 100000
namespace Mine
section
variable {prog : Program} {w : World} {hb : Heap} {mg mb : Str → Option Value} {k n₀ : Nat} {σ : List C}
def vsize (n : Nat) : Nat := if n < 64 then 1 else 2
theorem f_varint_size (B : Base hb mg mb) (T : Defs hb mg) (K : Consts hb mg) {n : Nat} (hn : n < 16384) : Fn prog w hb mg (k + 1) "varint_size" [.int n] σ (.int (vsize n)) := by
  by_cases h : n < 64
  · have e : vsize n = 1 := if_pos h
    rw [e]
    refine Fn.intro (n := 1) T rfl B ["n"] (fun pm code doc vs h => by match vs, h with | [a0], _ => rfl) rfl (by decide +kernel) (fun n x hx => .inl (by revert x hx; decide +kernel)) (fun n p hp => nomatch (show p ∈ [] from hp)) rfl rfl rfl (fun a code L => ?_)
    dsimp only
    apply Exists.intro
    apply And.intro
    · apply ExT.cons
      · exact .for (.tuple (.g K.vs B)) (.ret (.new (by repeat (first | exact App.nil | apply App.cons)) (by kernel_rfl)) (.cons (.ifT (.chain_t .int (.name (.head _)) (.to .le (by simp)) (.bin .int (.bin (.bin .int (.name (.tail _ (.head _))) (.mul (.of_left (by decide)))) .int .sub) (.shl (by decide) (by decide) (by decide)))
          (.to .lt (by show D.bool (decide ((n : Int) < 64)) = D.bool true; rw [decide_eq_true (by omega)]))) (.cons (.ret (.name (.tail _ (.head _)))) .ret)) .ret))
      exact .ret
    · exact .mk (.int _)
  · have e : vsize n = 2 := if_neg h
    rw [e]
    refine Fn.intro (n := 1) T rfl B ["n"] (fun pm code doc vs h => by match vs, h with | [a0], _ => rfl) rfl (by decide +kernel) (fun n x hx => .inl (by revert x hx; decide +kernel)) (fun n p hp => nomatch (show p ∈ [] from hp)) rfl rfl rfl (fun a code L => ?_)
    dsimp only
    apply Exists.intro
    apply And.intro
    · apply ExT.cons
      · exact .for (.tuple (.g K.vs B)) (.next (.new (by repeat (first | exact App.nil | apply App.cons)) (by kernel_rfl)) (.cons (.ifF (.chain_t .int (.name (.head _)) (.to .le (by simp)) (.bin .int (.bin (.bin .int (.name (.tail _ (.head _))) (.mul (.of_left (by decide)))) .int .sub) (.shl (by decide) (by decide) (by decide)))
          (.to .lt (by show D.bool (decide ((n : Int) < 64)) = D.bool false; rw [decide_eq_false (by omega)]))) .nil) (.next .nil))
          (.ret (.put (.miss .hit)) (.cons (.ifT (.chain_t .int (.name (.head _)) (.to .le (by simp)) (.bin .int (.bin (.bin .int (.name (.tail _ (.head _))) (.mul (.of_left (by decide)))) .int .sub) (.shl (by decide) (by decide) (by decide)))
          (.to .lt (by show D.bool (decide ((n : Int) < 16384)) = D.bool true; rw [decide_eq_true (by omega)]))) (.cons (.ret (.name (.tail _ (.head _)))) .ret)) .ret)))
      exact .ret
    · exact .mk (.int _)
/-- the octets of a number -/
def venc (n : Nat) : List UInt8 := if n < 64 then [n.toUInt8] else [((16384 + n) / 256).toUInt8, ((16384 + n) % 256).toUInt8]
theorem venc_length (n : Nat) : (venc n).length = vsize n := by unfold venc vsize; split <;> rfl
theorem or_nat (a b : Nat) : Builtin.bitOr (a : Int) (b : Int) = ((a ||| b : Nat) : Int) := by
  unfold Builtin.bitOr
  have ha : ¬ 0 ≤ Builtin.bitNot (a : Int) := by unfold Builtin.bitNot; omega
  have hb : ¬ 0 ≤ Builtin.bitNot (b : Int) := by unfold Builtin.bitNot; omega
  rw [bitAnd_nn ha hb, bitNot_bitNot, bitNot_bitNot, bitNot_bitNot]; rfl
theorem or_small (n : Nat) : Builtin.bitOr (0 * 2 ^ 6) (n : Int) = n := by
  have := or_nat 0 n
  rw [Nat.zero_or] at this
  exact this
theorem or_big {n : Nat} (h : n < 16384) : Builtin.bitOr (1 * 2 ^ 14) (n : Int) = ((16384 + n : Nat) : Int) := by
  have e : (16384 ||| n : Nat) = 16384 + n := by
    have := Nat.two_pow_add_eq_or_of_lt (i := 14) (b := n) h 1
    exact this.symm
  have := or_nat 16384 n
  rw [e] at this
  exact this
theorem f_put_varint (B : Base hb mg mb) (T : Defs hb mg) (N : Bare mg) (K : Consts hb mg) {n : Nat} (hn : n < 16384) : Fn prog w hb mg (k + 2) "put_varint" [.int n, .none] σ (.bytes (venc n)) := by
  by_cases h : n < 64
  · have e : venc n = [n.toUInt8] := if_pos h
    have e' : vsize n = 1 := if_pos h
    rw [e]
    refine Fn.intro (n := 2) T rfl B ["n", "size"] (fun pm code doc vs h => by match vs, h with | [a0, a1], _ => rfl) rfl (by decide +kernel) (fun n x hx => .inl (by revert x hx; decide +kernel)) (fun n p hp => nomatch (show p ∈ [] from hp)) rfl rfl rfl (fun a code L => ?_)
    dsimp only
    apply Exists.intro
    apply And.intro
    · apply ExT.cons
      · exact .assign (.to (.fn B (f_varint_size B T K hn) (.cons (.name (.head _)) .nil)) (by rw [e'])) (.new (by repeat (first | exact App.nil | apply App.cons)) (by kernel_rfl))
      apply SeqT.next
      apply ExT.cons
      · exact .ifT (.cmp (.name (.tail _ (.head _))) .none .isn) (.cons (.assign (.name (.tail _ (.tail _ (.head _)))) (.put (.miss .hit))) (.next .nil))
      apply SeqT.next
      apply ExT.cons
      · exact .ifF (.or_f (.to (.cmp (.name (.tail _ (.head _))) (.name (.tail _ (.tail _ (.head _)))) .lt) (by simp)) (.or_f (.to (.cmp (.name (.tail _ (.head _))) (.g K.vs B) .ninint) (by decide)) .or_nil)) .nil
      apply SeqT.next
      apply ExT.cons
      · exact .ret (.fn B (f_put_whole1 (n := n) B T N (by omega)) (.cons (.to (.bin (.bin (.vindex (j := 0) B K (.name (.tail _ (.head _))) (.inl ⟨rfl, rfl⟩)) (.bin (.bin .int (.name (.tail _ (.head _))) (.mul (.of_left (by decide)))) .int .sub) (.shl (by decide) (by decide) (by decide))) (.name (.head _)) .or) (congrArg D.int (or_small n))) (.cons (.name (.tail _ (.head _))) .nil)))
      exact .ret
    · exact .mk (.bytes _)
  · have e : venc n = [((16384 + n) / 256).toUInt8, ((16384 + n) % 256).toUInt8] := if_neg h
    have e' : vsize n = 2 := if_neg h
    rw [e]
    refine Fn.intro (n := 2) T rfl B ["n", "size"] (fun pm code doc vs h => by match vs, h with | [a0, a1], _ => rfl) rfl (by decide +kernel) (fun n x hx => .inl (by revert x hx; decide +kernel)) (fun n p hp => nomatch (show p ∈ [] from hp)) rfl rfl rfl (fun a code L => ?_)
    dsimp only
    apply Exists.intro
    apply And.intro
    · apply ExT.cons
      · exact .assign (.to (.fn B (f_varint_size B T K hn) (.cons (.name (.head _)) .nil)) (by rw [e'])) (.new (by repeat (first | exact App.nil | apply App.cons)) (by kernel_rfl))
      apply SeqT.next
      apply ExT.cons
      · exact .ifT (.cmp (.name (.tail _ (.head _))) .none .isn) (.cons (.assign (.name (.tail _ (.tail _ (.head _)))) (.put (.miss .hit))) (.next .nil))
      apply SeqT.next
      apply ExT.cons
      · exact .ifF (.or_f (.to (.cmp (.name (.tail _ (.head _))) (.name (.tail _ (.tail _ (.head _)))) .lt) (by simp)) (.or_f (.to (.cmp (.name (.tail _ (.head _))) (.g K.vs B) .ninint) (by decide)) .or_nil)) .nil
      apply SeqT.next
      apply ExT.cons
      · exact .ret (.fn B (f_put_whole2 (n := 16384 + n) B T N (by omega)) (.cons (.to (.bin (.bin (.vindex (j := 1) B K (.name (.tail _ (.head _))) (.inr ⟨rfl, rfl⟩)) (.bin (.bin .int (.name (.tail _ (.head _))) (.mul (.of_left (by decide)))) .int .sub) (.shl (by decide) (by decide) (by decide))) (.name (.head _)) .or) (congrArg D.int (or_big hn))) (.cons (.name (.tail _ (.head _))) .nil)))
      exact .ret
    · exact .mk (.bytes _)
end
end Mine
open PySem PySem.W PyProof.Rows PySem.Calls PySem.Spec
set_option maxRecDepth 100000
namespace Mine
/-- a frame -/
inductive Fm
  | ping
  | maxData (n : Nat)
  | crypto (off : Nat) (data : List UInt8)
  | stream (id off : Nat) (data : List UInt8) (fin : Bool)
  | retire (n : Nat)
  deriving DecidableEq
namespace Fm
def kind : Fm → Str
  | ping => "ping"
  | maxData _ => "max_data"
  | crypto .. => "crypto"
  | stream .. => "stream"
  | retire _ => "retire_connection_id"
def toD : Fm → D
  | ping => .tuple [.str "ping"]
  | maxData n => .tuple [.str "max_data", .int n]
  | crypto o d => .tuple [.str "crypto", .int o, .bytes d]
  | stream i o d f => .tuple [.str "stream", .int i, .int o, .bytes d, .bool f]
  | retire n => .tuple [.str "retire_connection_id", .int n]
/-- numbers and lengths that two octets can tell -/
def small : Fm → Prop
  | ping => True
  | maxData n | retire n => n < 16384
  | crypto o d => o < 16384 ∧ d.length < 16384
  | stream i o d _ => i < 16384 ∧ o < 16384 ∧ d.length < 16384
def nums (ns : List Nat) : List UInt8 := (ns.map venc).flatten
def counted (d : List UInt8) : List UInt8 := venc d.length ++ d
def told (o : Nat) (f : Bool) : Nat := 8 + (if f then 1 else 0) + 2 + (if o > 0 then 4 else 0)
def enc : Fm → List UInt8
  | ping => nums [1]
  | maxData n => nums [16, n]
  | crypto o d => nums [6, o] ++ counted d
  | stream i o d f => nums ([told o f, i] ++ if o > 0 then [o] else []) ++ counted d
  | retire n => nums [25, n]
def size (f : Fm) : Nat := f.enc.length
end Fm
theorem nums_length : ∀ (ns : List Nat), (Fm.nums ns).length ≤ 2 * ns.length
  | [] => by simp [Fm.nums]
  | n :: ns => by
    have := nums_length ns
    have h1 : vsize n ≤ 2 := by unfold vsize; split <;> omega
    simp only [Fm.nums, List.map_cons, List.flatten_cons, List.length_append, venc_length, List.length_cons] at *
    omega
section
variable {prog : Program} {w : World} {hb : Heap} {mg mb : Str → Option Value} {k n₀ : Nat} {σ : List C}
theorem f_put_numbers (B : Base hb mg mb) (T : Defs hb mg) (N : Bare mg) (K : Consts hb mg) {ns : List Nat} (hn : ∀ n ∈ ns, n < 16384) (hl : ns.length ≤ 1000) : Fn prog w hb mg (k + 3) "put_numbers" [.list (ns.map fun (n : Nat) => D.int n)] σ (.bytes (Fm.nums ns)) := by
  have hlen := nums_length ns
  refine Fn.intro (n := 3) T rfl B ["numbers"] (fun pm code doc vs h => by match vs, h with | [a0], _ => rfl) rfl (by decide +kernel) (fun n x hx => .inl (by revert x hx; decide +kernel)) (fun n p hp => nomatch (show p ∈ [] from hp)) rfl rfl rfl (fun a code L => ?_)
  dsimp only
  apply Exists.intro
  apply And.intro
  · apply ExT.cons
    · exact .ret (.bjoin (ps := ns.map venc) (.to (.comp (.list (.name (.head _))) (.none (by decide +kernel) (by decide +kernel) rfl (by decide +kernel) rfl)
        (fun C => .mapAll (g := fun n => D.bytes (venc n)) (fun n hm σ => .fn B (f_put_varint B T N K (hn n hm)) (.cons (.name (.head _)) (.cons .none .nil)))) (by rw [List.length_map, sizeLine_eq]; omega) (Nat.le_refl _) (fun τ m => frz_map fun b _ => .bytes _)) (by rw [List.map_map]; rfl)) (by unfold Fm.nums at hlen; omega))
    exact .ret
  · exact .mk (.bytes _)
theorem f_put_counted (B : Base hb mg mb) (T : Defs hb mg) (N : Bare mg) (K : Consts hb mg) {d : List UInt8} (hd : d.length < 16384) : Fn prog w hb mg (k + 3) "put_counted" [.bytes d] σ (.bytes (Fm.counted d)) := by
  have h2 : (venc d.length).length ≤ 2 := by rw [venc_length]; unfold vsize; split <;> omega
  refine Fn.intro (n := 4) T rfl B ["data"] (fun pm code doc vs h => by match vs, h with | [a0], _ => rfl) rfl (by decide +kernel) (fun n x hx => .inl (by revert x hx; decide +kernel)) (fun n p hp => nomatch (show p ∈ [] from hp)) rfl rfl rfl (fun a code L => ?_)
  dsimp only
  apply Exists.intro
  apply And.intro
  · apply ExT.cons
    · exact .ret (.bin (.fn B (f_put_varint B T N K hd) (.cons (.builtin B N.len (by kernel_rfl) (.cons (.name (.head _)) .nil) (.lenb (by omega))) (.cons .none .nil))) (.name (.head _)) (.addb (by omega)))
    exact .ret
  · exact .mk (.bytes _)
end
end Mine
open PySem PySem.W PyProof.Rows PySem.Calls PySem.Spec
set_option maxRecDepth 100000
namespace Mine
theorem counted_length (d : List UInt8) : (Fm.counted d).length ≤ d.length + 2 := by
  have h1 : vsize d.length ≤ 2 := by unfold vsize; split <;> omega
  simp only [Fm.counted, List.length_append, venc_length]; omega
section
variable {prog : Program} {w : World} {hb : Heap} {mg mb : Str → Option Value} {k n₀ : Nat} {σ : List C}
theorem f_put_stream (B : Base hb mg mb) (T : Defs hb mg) (N : Bare mg) (K : Consts hb mg) {i o : Nat} {d : List UInt8} {fin : Bool} (hs : (Fm.stream i o d fin).small) : Fn prog w hb mg (k + 4) "put_stream" [(Fm.stream i o d fin).toD, .bool false] σ (.bytes (Fm.stream i o d fin).enc) := by
  obtain ⟨hi, ho, hd⟩ := hs
  have ht : Fm.told o fin < 16384 := by unfold Fm.told; split <;> split <;> omega
  have hns : ∀ n ∈ [Fm.told o fin, i] ++ (if o > 0 then [o] else []), n < 16384 := by
    intro n hn
    by_cases h : o > 0
    · rw [if_pos h] at hn; simp at hn; rcases hn with rfl | rfl | rfl <;> assumption
    · rw [if_neg h] at hn; simp at hn; rcases hn with rfl | rfl <;> assumption
  have hl : ([Fm.told o fin, i] ++ (if o > 0 then [o] else [])).length ≤ 3 := by split <;> simp
  have h1 := nums_length ([Fm.told o fin, i] ++ (if o > 0 then [o] else []))
  have h2 := counted_length d
  refine Fn.intro (n := 7) T rfl B ["f", "is_last"] (fun pm code doc vs h => by match vs, h with | [a0, a1], _ => rfl) rfl (by decide +kernel) (fun n x hx => .inl (by revert x hx; decide +kernel)) (fun n p hp => nomatch (show p ∈ [] from hp)) rfl rfl rfl (fun a code L => ?_)
  dsimp only
  apply Exists.intro
  apply And.intro
  · apply ExT.cons
    · exact .unpk (.name (.head _)) (.cons (.new (by repeat (first | exact App.nil | apply App.cons)) (by kernel_rfl)) (.cons (.new (by repeat (first | exact App.nil | apply App.cons)) (by kernel_rfl)) (.cons (.new (by repeat (first | exact App.nil | apply App.cons)) (by kernel_rfl)) (.cons (.new (by repeat (first | exact App.nil | apply App.cons)) (by kernel_rfl)) (.cons (.new (by repeat (first | exact App.nil | apply App.cons)) (by kernel_rfl)) .nil)))))
    apply SeqT.next
    apply ExT.cons
    · exact .assign (.to (.bin (.bin (.bin (.g K.stream B) (.ifexp (d := .int (if fin = true then 1 else 0)) (.of (.name (.tail _ (.tail _ (.tail _ (.tail _ (.tail _ (.tail _ (.head _)))))))) .bool) (fun h => .to (.g K.fin B) (by rw [h]; rfl)) (fun h => .to .int (by rw [h]; rfl))) .add) (.ifF (.of (.name (.tail _ (.head _))) .bool) (.g K.len B)) .add)
        (.ifexp (d := .int (if o > 0 then 4 else 0)) (.cmp (.name (.tail _ (.tail _ (.tail _ (.tail _ (.head _)))))) .int .gt) (fun h => .to (.g K.off B) (by rw [if_pos (by simpa using h)])) (fun h => .to .int (by rw [if_neg (by simpa using h)]))) .add) (d' := .int (Fm.told o fin)) (by unfold Fm.told; cases fin <;> (by_cases h : o > 0 <;> simp [h]))) (.new (by repeat (first | exact App.nil | apply App.cons)) (by kernel_rfl))
    apply SeqT.next
    apply ExT.cons
    · exact .assign (.fn B (f_put_numbers B T N K hns (by omega)) (.cons (.to (.bin (.list (.cons (.name (.tail _ (.tail _ (.tail _ (.tail _ (.tail _ (.tail _ (.tail _ (.head _))))))))) (.cons (.name (.tail _ (.tail _ (.tail _ (.head _))))) .nil))) (.ifexp (d := .list (if o > 0 then [.int o] else [])) (.cmp (.name (.tail _ (.tail _ (.tail _ (.tail _ (.head _)))))) .int .gt) (fun h => .to (.list (.cons (.name (.tail _ (.tail _ (.tail _ (.tail _ (.head _)))))) .nil)) (by rw [if_pos (by simpa using h)])) (fun h => .to (.list .nil) (by rw [if_neg (by simpa using h)])))
        (.addl (by rw [sizeLine_eq]; split <;> simp))) (by by_cases h : o > 0 <;> simp [h])) .nil)) (.new (by repeat (first | exact App.nil | apply App.cons)) (by kernel_rfl))
    apply SeqT.next
    apply ExT.cons
    · exact .ret (.bin (.name (.tail _ (.tail _ (.tail _ (.tail _ (.tail _ (.tail _ (.tail _ (.tail _ (.head _)))))))))) (.ifF (.of (.name (.tail _ (.head _))) .bool) (.fn B (f_put_counted B T N K hd) (.cons (.name (.tail _ (.tail _ (.tail _ (.tail _ (.tail _ (.head _))))))) .nil))) (.addb (by omega)))
    exact .ret
  · exact .mk (.bytes _)
theorem f_put_octets_frame (B : Base hb mg mb) (T : Defs hb mg) (N : Bare mg) (K : Consts hb mg) {o : Nat} {d : List UInt8} (hs : (Fm.crypto o d).small) : Fn prog w hb mg (k + 4) "put_octets_frame" [(Fm.crypto o d).toD] σ (.bytes (Fm.crypto o d).enc) := by
  obtain ⟨ho, hd⟩ := hs
  have h1 := nums_length [6, o]
  have h2 := counted_length d
  refine Fn.intro (n := 10) T rfl B ["f"] (fun pm code doc vs h => by match vs, h with | [a0], _ => rfl) rfl (by decide +kernel) (fun n x hx => .inl (by revert x hx; decide +kernel)) (fun n p hp => nomatch (show p ∈ [] from hp)) rfl rfl rfl (fun a code L => ?_)
  dsimp only
  apply Exists.intro
  apply And.intro
  · apply ExT.cons
    · exact .assign (.it (.name (.head _)) (c := 0) (by rfl)) (.new (by repeat (first | exact App.nil | apply App.cons)) (by kernel_rfl))
    apply SeqT.next
    apply ExT.cons
    · exact .ifT (.to (.cmp (.name (.tail _ (.head _))) .str .eqs) (by decide +kernel)) (.cons (.ret (.bin (.fn B (f_put_numbers (ns := [6, o]) B T N K (by intro n hn; simp at hn; rcases hn with rfl | rfl <;> omega) (by simp)) (.cons (.list (.cons (.g K.crypto B) (.cons (.it (.name (.head _)) (c := 1) (by rfl)) .nil))) .nil))
        (.fn B (f_put_counted B T N K hd) (.cons (.it (.name (.head _)) (c := 2) (by rfl)) .nil)) (.addb (by simp at h1; omega)))) .ret)
    exact .ret
  · exact .mk (.bytes _)
end
end Mine
open PySem PySem.W PyProof.Rows PySem.Calls PySem.Spec
set_option maxRecDepth 100000
namespace Mine
theorem enc_length (f : Fm) : f.small → f.enc.length ≤ 20000 := by
  intro hs
  cases f with
  | ping => have := nums_length [1]; simp at this; simp only [Fm.enc]; omega
  | maxData n => have := nums_length [16, n]; simp at this; simp only [Fm.enc]; omega
  | retire n => have := nums_length [25, n]; simp at this; simp only [Fm.enc]; omega
  | crypto o d =>
    obtain ⟨h1, h2⟩ := hs
    have := nums_length [6, o]; have := counted_length d; simp at *; simp only [Fm.enc, List.length_append]; omega
  | stream i o d f =>
    obtain ⟨h0, h1, h2⟩ := hs
    have := nums_length ([Fm.told o f, i] ++ if o > 0 then [o] else []); have := counted_length d
    have hl : ([Fm.told o f, i] ++ (if o > 0 then [o] else [])).length ≤ 3 := by split <;> simp
    simp only [Fm.enc, List.length_append (as := Fm.nums _)]; omega
section
variable {prog : Program} {w : World} {hb : Heap} {mg mb : Str → Option Value} {k n₀ : Nat} {σ : List C}
theorem f_put_frame (B : Base hb mg mb) (T : Defs hb mg) (N : Bare mg) (K : Consts hb mg) (F : NF prog w hb mg) {f : Fm} (hs : f.small) : Fn prog w hb mg (k + 5) "put_frame" [f.toD] σ (.bytes f.enc) := by
  cases f with
  | ping =>
    refine Fn.intro (n := 11) T rfl B ["f"] (fun pm code doc vs h => by match vs, h with | [a0], _ => rfl) rfl (by decide +kernel) (fun n x hx => .inl (by revert x hx; decide +kernel)) (fun n p hp => nomatch (show p ∈ [] from hp)) rfl rfl rfl (fun a code L => ?_)
    dsimp only
    apply Exists.intro
    apply And.intro
    · apply ExT.cons
      · exact .assign (.it (.name (.head _)) (c := 0) (by rfl)) (.new (by repeat (first | exact App.nil | apply App.cons)) (by kernel_rfl))
      apply SeqT.next
      apply ExT.cons
      · exact .ifF (.to (.cmp (.name (.tail _ (.head _))) .str .eqs) (by decide +kernel)) .nil
      apply SeqT.next
      apply ExT.cons
      · exact .ifT (.to (.innf (x := "ping") B F (.inl rfl) (.name (.tail _ (.head _)))) (by decide +kernel)) (.cons (.ret (.fn B (f_put_numbers (ns := [1]) B T N K (by simp) (by simp)) (.cons (.bin (.list (.cons (.itemnf (x := "ping") (i := 1) B F (.inl rfl) (by decide +kernel) (.name (.tail _ (.head _)))) .nil)) (.type B N.list (by kernel_rfl) (.cons (.tfrom (a := 1) (.name (.head _)) .int (by decide) (by simp) (by simp)) .nil) (.listt (by simp))) (.addl (by simp [sizeLine_eq]))) .nil))) .ret)
      exact .ret
    · exact .mk (.bytes _)
  | maxData n =>
    have hn : n < 16384 := hs
    refine Fn.intro (n := 11) T rfl B ["f"] (fun pm code doc vs h => by match vs, h with | [a0], _ => rfl) rfl (by decide +kernel) (fun n x hx => .inl (by revert x hx; decide +kernel)) (fun n p hp => nomatch (show p ∈ [] from hp)) rfl rfl rfl (fun a code L => ?_)
    dsimp only
    apply Exists.intro
    apply And.intro
    · apply ExT.cons
      · exact .assign (.it (.name (.head _)) (c := 0) (by rfl)) (.new (by repeat (first | exact App.nil | apply App.cons)) (by kernel_rfl))
      apply SeqT.next
      apply ExT.cons
      · exact .ifF (.to (.cmp (.name (.tail _ (.head _))) .str .eqs) (by decide +kernel)) .nil
      apply SeqT.next
      apply ExT.cons
      · exact .ifT (.to (.innf (x := "max_data") B F (.inr (.inl rfl)) (.name (.tail _ (.head _)))) (by decide +kernel)) (.cons (.ret (.fn B (f_put_numbers (ns := [16, n]) B T N K (by simp; omega) (by simp)) (.cons (.bin (.list (.cons (.itemnf (x := "max_data") (i := 16) B F (.inr (.inl rfl)) (by decide +kernel) (.name (.tail _ (.head _)))) .nil)) (.type B N.list (by kernel_rfl) (.cons (.tfrom (a := 1) (.name (.head _)) .int (by decide) (by simp) (by simp)) .nil) (.listt (by simp [sizeLine_eq]))) (.addl (by simp [sizeLine_eq]))) .nil))) .ret)
      exact .ret
    · exact .mk (.bytes _)
  | retire n =>
    have hn : n < 16384 := hs
    refine Fn.intro (n := 11) T rfl B ["f"] (fun pm code doc vs h => by match vs, h with | [a0], _ => rfl) rfl (by decide +kernel) (fun n x hx => .inl (by revert x hx; decide +kernel)) (fun n p hp => nomatch (show p ∈ [] from hp)) rfl rfl rfl (fun a code L => ?_)
    dsimp only
    apply Exists.intro
    apply And.intro
    · apply ExT.cons
      · exact .assign (.it (.name (.head _)) (c := 0) (by rfl)) (.new (by repeat (first | exact App.nil | apply App.cons)) (by kernel_rfl))
      apply SeqT.next
      apply ExT.cons
      · exact .ifF (.to (.cmp (.name (.tail _ (.head _))) .str .eqs) (by decide +kernel)) .nil
      apply SeqT.next
      apply ExT.cons
      · exact .ifT (.to (.innf (x := "retire_connection_id") B F (.inr (.inr (.inl rfl))) (.name (.tail _ (.head _)))) (by decide +kernel)) (.cons (.ret (.fn B (f_put_numbers (ns := [25, n]) B T N K (by simp; omega) (by simp)) (.cons (.bin (.list (.cons (.itemnf (x := "retire_connection_id") (i := 25) B F (.inr (.inr (.inl rfl))) (by decide +kernel) (.name (.tail _ (.head _)))) .nil)) (.type B N.list (by kernel_rfl) (.cons (.tfrom (a := 1) (.name (.head _)) .int (by decide) (by simp) (by simp)) .nil) (.listt (by simp [sizeLine_eq]))) (.addl (by simp [sizeLine_eq]))) .nil))) .ret)
      exact .ret
    · exact .mk (.bytes _)
  | crypto o d =>
    refine Fn.intro (n := 11) T rfl B ["f"] (fun pm code doc vs h => by match vs, h with | [a0], _ => rfl) rfl (by decide +kernel) (fun n x hx => .inl (by revert x hx; decide +kernel)) (fun n p hp => nomatch (show p ∈ [] from hp)) rfl rfl rfl (fun a code L => ?_)
    dsimp only
    apply Exists.intro
    apply And.intro
    · apply ExT.cons
      · exact .assign (.it (.name (.head _)) (c := 0) (by rfl)) (.new (by repeat (first | exact App.nil | apply App.cons)) (by kernel_rfl))
      apply SeqT.next
      apply ExT.cons
      · exact .ifF (.to (.cmp (.name (.tail _ (.head _))) .str .eqs) (by decide +kernel)) .nil
      apply SeqT.next
      apply ExT.cons
      · exact .ifF (.to (.innf (x := "crypto") B F (.inr (.inr (.inr (.inl rfl)))) (.name (.tail _ (.head _)))) (by decide +kernel)) .nil
      apply SeqT.next
      apply ExT.cons
      · exact .ifF (.to (.cmp (.name (.tail _ (.head _))) .str .eqs) (by decide +kernel)) .nil
      apply SeqT.next
      apply ExT.cons
      · exact .ifF (.to (.cmp (.name (.tail _ (.head _))) .str .eqs) (by decide +kernel)) .nil
      apply SeqT.next
      apply ExT.cons
      · exact .ifF (.to (.cmp (.name (.tail _ (.head _))) .str .eqs) (by decide +kernel)) .nil
      apply SeqT.next
      apply ExT.cons
      · exact .ifF (.to (.cmp (.name (.tail _ (.head _))) .str .eqs) (by decide +kernel)) .nil
      apply SeqT.next
      apply ExT.cons
      · exact .assign (.fn B (f_put_octets_frame B T N K hs) (.cons (.name (.head _)) .nil)) (.new (by repeat (first | exact App.nil | apply App.cons)) (by kernel_rfl))
      apply SeqT.next
      apply ExT.cons
      · exact .ifF (.cmp (.name (.tail _ (.tail _ (.head _)))) .none .isn) .nil
      apply SeqT.next
      apply ExT.cons
      · exact .ret (.name (.tail _ (.tail _ (.head _))))
      exact .ret
    · exact .mk (.bytes _)
  | stream i o d fin =>
    refine Fn.intro (n := 11) T rfl B ["f"] (fun pm code doc vs h => by match vs, h with | [a0], _ => rfl) rfl (by decide +kernel) (fun n x hx => .inl (by revert x hx; decide +kernel)) (fun n p hp => nomatch (show p ∈ [] from hp)) rfl rfl rfl (fun a code L => ?_)
    dsimp only
    apply Exists.intro
    apply And.intro
    · apply ExT.cons
      · exact .assign (.it (.name (.head _)) (c := 0) (by rfl)) (.new (by repeat (first | exact App.nil | apply App.cons)) (by kernel_rfl))
      apply SeqT.next
      apply ExT.cons
      · exact .ifF (.to (.cmp (.name (.tail _ (.head _))) .str .eqs) (by decide +kernel)) .nil
      apply SeqT.next
      apply ExT.cons
      · exact .ifF (.to (.innf (x := "stream") B F (.inr (.inr (.inr (.inr rfl)))) (.name (.tail _ (.head _)))) (by decide +kernel)) .nil
      apply SeqT.next
      apply ExT.cons
      · exact .ifF (.to (.cmp (.name (.tail _ (.head _))) .str .eqs) (by decide +kernel)) .nil
      apply SeqT.next
      apply ExT.cons
      · exact .ifT (.to (.cmp (.name (.tail _ (.head _))) .str .eqs) (by decide +kernel)) (.cons (.ret (.fn B (f_put_stream B T N K hs) (.cons (.name (.head _)) (.cons .bool .nil)))) .ret)
      exact .ret
    · exact .mk (.bytes _)
theorem f_frame_size (B : Base hb mg mb) (T : Defs hb mg) (N : Bare mg) (K : Consts hb mg) (F : NF prog w hb mg) {f : Fm} (hs : f.small) : Fn prog w hb mg (k + 6) "frame_size" [f.toD] σ (.int f.size) := by
  have hl := enc_length f hs
  refine Fn.intro (n := 12) T rfl B ["f"] (fun pm code doc vs h => by match vs, h with | [a0], _ => rfl) rfl (by decide +kernel) (fun n x hx => .inl (by revert x hx; decide +kernel)) (fun n p hp => nomatch (show p ∈ [] from hp)) rfl rfl rfl (fun a code L => ?_)
  dsimp only
  apply Exists.intro
  apply And.intro
  · apply ExT.cons
    · exact .ret (.builtin B N.len (by kernel_rfl) (.cons (.fn B (f_put_frame B T N K F hs) (.cons (.name (.head _)) .nil)) .nil) (.lenb (by omega)))
    exact .ret
  · exact .mk (.int _)
end
end Mine
open PySem PySem.W PyProof.Rows PySem.Calls PySem.Spec
set_option maxRecDepth 100000
namespace Mine
namespace Fm
def isData : Fm → Bool
  | crypto .. | stream .. => true
  | _ => false
def data : Fm → List UInt8
  | crypto _ d | stream _ _ d _ => d
  | _ => []
def isEnd : Fm → Bool
  | stream _ _ _ f => f
  | _ => false
def withData (f : Fm) (skip : Nat) (d : List UInt8) (fin : Bool) : Fm :=
  match f with
  | crypto o _ => crypto (o + skip) d
  | stream i o _ _ => stream i (o + skip) d fin
  | f => f
/-- numbers, lengths and ends that two octets can tell -/
def fine : Fm → Prop
  | ping => True
  | maxData n | retire n => n < 16384
  | crypto o d => o + d.length < 16384
  | stream i o d _ => i < 16384 ∧ o + d.length < 16384
theorem fine.small {f : Fm} (h : f.fine) : f.small := by
  cases f with
  | ping => trivial
  | maxData n => exact h
  | retire n => exact h
  | crypto o d => have : o + d.length < 16384 := h; exact ⟨by omega, by omega⟩
  | stream i o d f => have : i < 16384 ∧ o + d.length < 16384 := h; exact ⟨by omega, by omega, by omega⟩
theorem fine.take {f : Fm} (h : f.fine) (m : Nat) (b : Bool) : (f.withData 0 (f.data.take m) b).fine := by
  cases f with
  | ping => trivial
  | maxData n => exact h
  | retire n => exact h
  | crypto o d => have : o + d.length < 16384 := h; show o + 0 + (d.take m).length < 16384; rw [List.length_take]; omega
  | stream i o d f => have : i < 16384 ∧ o + d.length < 16384 := h; refine ⟨this.1, ?_⟩; rw [show (Fm.stream i o d f).data = d from rfl, List.length_take]; omega
theorem fine.drop {f : Fm} (h : f.fine) {m : Nat} (hm : m ≤ f.data.length) (b : Bool) : (f.withData m (f.data.drop m) b).fine := by
  cases f with
  | ping => trivial
  | maxData n => exact h
  | retire n => exact h
  | crypto o d => have : o + d.length < 16384 := h; have hm : m ≤ d.length := hm; show o + m + (d.drop m).length < 16384; rw [List.length_drop]; omega
  | stream i o d f => have : i < 16384 ∧ o + d.length < 16384 := h; have hm : m ≤ d.length := hm; refine ⟨this.1, ?_⟩; rw [show (Fm.stream i o d f).data = d from rfl, List.length_drop]; omega
end Fm
section
variable {prog : Program} {w : World} {hb : Heap} {mg mb : Str → Option Value} {k n₀ : Nat} {σ : List C}
theorem f_data_of (B : Base hb mg mb) (T : Defs hb mg) {f : Fm} (hf : f.isData = true) : Fn prog w hb mg (k + 1) "data_of" [f.toD] σ (.bytes f.data) := by
  cases f with
  | crypto o d =>
    refine Fn.intro (n := 14) T rfl B ["frame"] (fun pm code doc vs h => by match vs, h with | [a0], _ => rfl) rfl (by decide +kernel) (fun n x hx => .inl (by revert x hx; decide +kernel)) (fun n p hp => nomatch (show p ∈ [] from hp)) rfl rfl rfl (fun a code L => ?_)
    dsimp only
    apply Exists.intro
    apply And.intro
    · apply ExT.cons
      · exact .ret (.ifT (.to (.cmp (.it (.name (.head _)) (c := 0) (by rfl)) .str .eqs) (by decide +kernel)) (.it (.name (.head _)) (c := 2) (by rfl)))
      exact .ret
    · exact .mk (.bytes _)
  | stream i o d fin =>
    refine Fn.intro (n := 14) T rfl B ["frame"] (fun pm code doc vs h => by match vs, h with | [a0], _ => rfl) rfl (by decide +kernel) (fun n x hx => .inl (by revert x hx; decide +kernel)) (fun n p hp => nomatch (show p ∈ [] from hp)) rfl rfl rfl (fun a code L => ?_)
    dsimp only
    apply Exists.intro
    apply And.intro
    · apply ExT.cons
      · exact .ret (.ifF (.to (.cmp (.it (.name (.head _)) (c := 0) (by rfl)) .str .eqs) (by decide +kernel)) (.it (.name (.head _)) (c := 3) (by rfl)))
      exact .ret
    · exact .mk (.bytes _)
  | _ => cases hf
theorem f_with_data (B : Base hb mg mb) (T : Defs hb mg) {f : Fm} (hf : f.isData = true) {m : Nat} {e : List UInt8} {b : Bool} : Fn prog w hb mg (k + 1) "with_data" [f.toD, .int m, .bytes e, .bool b] σ (f.withData m e b).toD := by
  cases f with
  | crypto o d =>
    refine Fn.intro (n := 15) T rfl B ["frame", "skipped", "data", "fin"] (fun pm code doc vs h => by match vs, h with | [a0, a1, a2, a3], _ => rfl) rfl (by decide +kernel) (fun n x hx => .inl (by revert x hx; decide +kernel)) (fun n p hp => nomatch (show p ∈ [] from hp)) rfl rfl rfl (fun a code L => ?_)
    dsimp only
    apply Exists.intro
    apply And.intro
    · apply ExT.cons
      · exact .ifT (.to (.cmp (.it (.name (.head _)) (c := 0) (by rfl)) .str .eqs) (by decide +kernel)) (.cons (.ret (.tuple (.cons .str (.cons (.bin (.it (.name (.head _)) (c := 1) (by rfl)) (.name (.tail _ (.head _))) .add) (.cons (.name (.tail _ (.tail _ (.head _)))) .nil))))) .ret)
      exact .ret
    · exact .mk (.tuple (.cons (.str _) (.cons (.int _) (.cons (.bytes _) .nil))))
  | stream i o d fin =>
    refine Fn.intro (n := 15) T rfl B ["frame", "skipped", "data", "fin"] (fun pm code doc vs h => by match vs, h with | [a0, a1, a2, a3], _ => rfl) rfl (by decide +kernel) (fun n x hx => .inl (by revert x hx; decide +kernel)) (fun n p hp => nomatch (show p ∈ [] from hp)) rfl rfl rfl (fun a code L => ?_)
    dsimp only
    apply Exists.intro
    apply And.intro
    · apply ExT.cons
      · exact .ifF (.to (.cmp (.it (.name (.head _)) (c := 0) (by rfl)) .str .eqs) (by decide +kernel)) .nil
      apply SeqT.next
      apply ExT.cons
      · exact .ret (.tuple (.cons .str (.cons (.it (.name (.head _)) (c := 1) (by rfl)) (.cons (.bin (.it (.name (.head _)) (c := 2) (by rfl)) (.name (.tail _ (.head _))) .add) (.cons (.name (.tail _ (.tail _ (.head _)))) (.cons (.name (.tail _ (.tail _ (.tail _ (.head _))))) .nil))))))
      exact .ret
    · exact .mk (.tuple (.cons (.str _) (.cons (.int _) (.cons (.int _) (.cons (.bytes _) (.cons (.bool _) .nil))))))
  | _ => cases hf
end
end Mine
open PySem PySem.W PyProof.Rows PySem.Calls PySem.Spec
set_option maxRecDepth 100000
namespace Mine
/-- down to where p fails -/
def downG (p : Nat → Bool) : Nat → Nat
  | 0 => 0
  | m + 1 => if p (m + 1) = true then downG p m else m + 1
namespace Fm
def base (f : Fm) : Nat := (f.withData 0 [] false).size
def tooBig (f : Fm) (room : Nat) (m : Nat) : Bool := decide ((f.withData 0 (f.data.take m) false).size > room)
def many (f : Fm) (room : Nat) : Nat := downG (f.tooBig room) (min f.data.length (room - f.base))
def cut (f : Fm) (room : Nat) : Option Fm × Option Fm :=
  if f.size ≤ room then (some f, none)
  else if f.isData = false then (none, some f)
  else if f.base > room then (none, some f)
  else if f.many room < 1 ∨ f.many room ≥ f.data.length then (none, some f)
  else (some (f.withData 0 (f.data.take (f.many room)) false), some (f.withData (f.many room) (f.data.drop (f.many room)) f.isEnd))
def rest : Fm → List D
  | ping => []
  | maxData n | retire n => [.int n]
  | crypto o d => [.int o, .bytes d]
  | stream i o d f => [.int i, .int o, .bytes d, .bool f]
theorem toD_eq (f : Fm) : f.toD = .tuple (.str f.kind :: f.rest) := by cases f <;> rfl
theorem frz (f : Fm) {τ : List C} {n : Nat} : Frz τ n f.toD f.toD := by
  cases f with
  | ping => exact .tuple (.cons (.str _) .nil)
  | maxData n => exact .tuple (.cons (.str _) (.cons (.int _) .nil))
  | retire n => exact .tuple (.cons (.str _) (.cons (.int _) .nil))
  | crypto o d => exact .tuple (.cons (.str _) (.cons (.int _) (.cons (.bytes _) .nil)))
  | stream i o d f => exact .tuple (.cons (.str _) (.cons (.int _) (.cons (.int _) (.cons (.bytes _) (.cons (.bool _) .nil)))))
theorem kind_data (f : Fm) : (([("crypto" : Str), "stream"] : List Str).any fun (z : Str) => z == f.kind) = f.isData := by cases f <;> kernel_rfl
end Fm
def optD : Option Fm → D
  | none => .none
  | some f => f.toD
theorem optD_frz (f : Option Fm) {τ : List C} {n : Nat} : Frz τ n (optD f) (optD f) := by
  cases f with
  | none => exact .none
  | some f => exact f.frz
theorem optD_isNone (f : Option Fm) : (optD f).isNone = f.isNone := by
  cases f with
  | none => rfl
  | some f => cases f <;> rfl
section
variable {prog : Program} {w : World} {hb : Heap} {mg mb : Str → Option Value} {k n₀ : Nat} {σ σ₁ σ₂ : List C} {env : Env} {ρ : List (Str × D)}
theorem WhT.down {test : Expr} {body : List Stmt} (R : Nat → List (Str × D)) (p : Nat → Bool) (h0 : p 0 = false) (ht : ∀ m, TrT prog w hb k n₀ env (R m) test σ (p m) σ) (hb' : ∀ m, ExT prog w hb k n₀ env (R (m + 1)) σ body (.next (R m) σ)) :
    ∀ m, WhT prog w hb k n₀ env test body m (R m) σ (.next (R (downG p m)) σ)
  | 0 => .stop (h0 ▸ ht 0)
  | m + 1 => by
    have h := ht (m + 1)
    unfold downG
    cases hp : p (m + 1) with
    | false => rw [if_neg Bool.false_ne_true]; exact .stop (hp ▸ h)
    | true => rw [if_pos rfl]; exact .step (hp ▸ h) (hb' m) (WhT.down R p h0 ht hb' m)
theorem EvT.bupto {value e : Expr} {sp pos : Pos} {b : List UInt8} {m : Nat} (h : EvT prog w hb k n₀ env ρ value σ (.bytes b) σ₁) (hl : EvT prog w hb k n₀ env ρ e σ₁ (.int m) σ₂) (hsz : b.length ≤ 16777216) (hg : ∀ o r, letTemporaryGo value o r = pure () := by intro _ _; rfl) :
    EvT prog w hb k n₀ env ρ (.Subscript value (.Slice Option.none (Option.some e) Option.none sp) pos) σ (.bytes (b.take m)) σ₂ :=
  .to (.slice h .none (.some hl) (.bytes hsz) FB.slot_bytes_getitem.lookup hg) (by rw [cutOf_upto _ (by omega)]; rfl)
theorem EvT.bfrom {value e : Expr} {sp pos : Pos} {b : List UInt8} {m : Nat} (h : EvT prog w hb k n₀ env ρ value σ (.bytes b) σ₁) (hl : EvT prog w hb k n₀ env ρ e σ₁ (.int m) σ₂) (hsz : b.length ≤ 16777216) (hg : ∀ o r, letTemporaryGo value o r = pure () := by intro _ _; rfl) :
    EvT prog w hb k n₀ env ρ (.Subscript value (.Slice (Option.some e) Option.none Option.none sp) pos) σ (.bytes (b.drop m)) σ₂ :=
  .to (.slice h (.some hl) .none (.bytes hsz) FB.slot_bytes_getitem.lookup hg) (by rw [cutOf_from _ (by omega)]; rfl)
theorem data_len {f : Fm} (h : f.fine) : f.data.length < 16384 := by
  cases f with
  | crypto o d => have : o + d.length < 16384 := h; show d.length < _; omega
  | stream i o d f => have : i < 16384 ∧ o + d.length < 16384 := h; show d.length < _; omega
  | _ => exact (by decide : 0 < 16384)
theorem f_data_room1 (B : Base hb mg mb) (T : Defs hb mg) (N : Bare mg) (K : Consts hb mg) (F : NF prog w hb mg) {f : Fm} (hs : f.fine) (hf : f.isData = true) {room : Nat} (hr : f.base > room) : Fn prog w hb mg (k + 7) "data_room" [f.toD, .int room] σ (.int (-1)) := by
  have e0 : f.withData 0 (f.data.take 0) false = f.withData 0 [] false := rfl
  have hs0 := (hs.take 0 false).small
  rw [e0] at hs0
  refine Fn.intro (n := 16) T rfl B ["frame", "room"] (fun pm code doc vs h => by match vs, h with | [a0, a1], _ => rfl) rfl (by decide +kernel) (fun n x hx => .inl (by revert x hx; decide +kernel)) (fun n p hp => nomatch (show p ∈ [] from hp)) rfl rfl rfl (fun a code L => ?_)
  dsimp only
  apply Exists.intro
  apply And.intro
  · apply ExT.cons
    · exact .assign (.fn B ((f_data_of B T hf).mono (by omega : 1 ≤ k + 6)) (.cons (.name (.head _)) .nil)) (.new (by repeat (first | exact App.nil | apply App.cons)) (by kernel_rfl))
    apply SeqT.next
    apply ExT.cons
    · exact .ifT (.to (.cmp (.fn B (f_frame_size B T N K F hs0) (.cons (.fn B ((f_with_data (m := 0) (e := []) (b := false) B T hf).mono (by omega : 1 ≤ k + 6)) (.cons (.name (.head _)) (.cons .int (.cons .bytes (.cons .bool .nil))))) .nil)) (.name (.tail _ (.head _))) .gt) (by have : room < (f.withData 0 [] false).size := hr; simpa using this)) (.cons (.ret (.neg .int)) .ret)
    exact .ret
  · exact .mk (.int _)
theorem f_data_room2 (B : Base hb mg mb) (T : Defs hb mg) (N : Bare mg) (K : Consts hb mg) (F : NF prog w hb mg) {f : Fm} (hs : f.fine) (hf : f.isData = true) {room : Nat} (hr : ¬ f.base > room) : Fn prog w hb mg (k + 7) "data_room" [f.toD, .int room] σ (.int (f.many room)) := by
  have e0 : f.withData 0 (f.data.take 0) false = f.withData 0 [] false := rfl
  have hs0 := (hs.take 0 false).small
  rw [e0] at hs0
  have hd := data_len hs
  have hb0 : (f.withData 0 [] false).size ≤ room := by have : ¬ (f.withData 0 [] false).size > room := hr; omega
  refine Fn.intro (n := 16) T rfl B ["frame", "room"] (fun pm code doc vs h => by match vs, h with | [a0, a1], _ => rfl) rfl (by decide +kernel) (fun n x hx => .inl (by revert x hx; decide +kernel)) (fun n p hp => nomatch (show p ∈ [] from hp)) rfl rfl rfl (fun a code L => ?_)
  dsimp only
  apply Exists.intro
  apply And.intro
  · apply ExT.cons
    · exact .assign (.fn B ((f_data_of B T hf).mono (by omega : 1 ≤ k + 6)) (.cons (.name (.head _)) .nil)) (.new (by repeat (first | exact App.nil | apply App.cons)) (by kernel_rfl))
    apply SeqT.next
    apply ExT.cons
    · exact .ifF (.to (.cmp (.fn B (f_frame_size B T N K F hs0) (.cons (.fn B ((f_with_data (m := 0) (e := []) (b := false) B T hf).mono (by omega : 1 ≤ k + 6)) (.cons (.name (.head _)) (.cons .int (.cons .bytes (.cons .bool .nil))))) .nil)) (.name (.tail _ (.head _))) .gt) (by simpa using hb0)) .nil
    apply SeqT.next
    apply ExT.cons
    · exact .assign (d := .int (min f.data.length (room - f.base) : Nat)) (.to (.builtin B N.min (by kernel_rfl) (.cons (.builtin B N.len (by kernel_rfl) (.cons (.name (.tail _ (.tail _ (.head _)))) .nil) (.lenb (by omega)))
        (.cons (.bin (.name (.tail _ (.head _))) (.fn B (f_frame_size B T N K F hs0) (.cons (.fn B ((f_with_data (m := 0) (e := []) (b := false) B T hf).mono (by omega : 1 ≤ k + 6)) (.cons (.name (.head _)) (.cons .int (.cons .bytes (.cons .bool .nil))))) .nil)) .sub) .nil)) .pmin)
        (congrArg D.int (by show (if (room : Int) - (f.base : Nat) < (f.data.length : Nat) then _ else _) = _; have : f.base ≤ room := hb0; have e1 : (f.withData 0 [] false).size = f.base := rfl; split <;> omega))) (.new (by repeat (first | exact App.nil | apply App.cons)) (by kernel_rfl))
    apply SeqT.next
    apply ExT.cons
    · exact .while (.down (fun m => [("frame", f.toD), ("room", .int room), ("data", .bytes f.data), ("many", .int (m : Nat))]) (f.tooBig room) (by have := hb0; simpa [Fm.tooBig] using this)
        (fun m => .to (.cmp (.fn B (f_frame_size B T N K F (hs.take m false).small) (.cons (.fn B ((f_with_data (m := 0) (e := f.data.take m) (b := false) B T hf).mono (by omega : 1 ≤ k + 6)) (.cons (.name (.head _)) (.cons .int (.cons (.bupto (.name (.tail _ (.tail _ (.head _)))) (.name (.tail _ (.tail _ (.tail _ (.head _))))) (by omega)) (.cons .bool .nil))))) .nil)) (.name (.tail _ (.head _))) .gt) (by simp [Fm.tooBig]))
        (fun m => .one (.aug (.tail _ (.tail _ (.tail _ (.head _)))) .int (.to .isub (congrArg D.int (by omega : ((m + 1 : Nat) : Int) - 1 = (m : Int)))) (.put (.miss (.miss (.miss .hit))))) .end) _)
    apply SeqT.next
    apply ExT.cons
    · exact .ret (.name (.tail _ (.tail _ (.tail _ (.head _)))))
    exact .ret
  · exact .mk (.int _)
end
end Mine
open PySem PySem.W PyProof.Rows PySem.Calls PySem.Spec
set_option maxRecDepth 100000
set_option maxHeartbeats 8000000
namespace Mine
section
variable {prog : Program} {w : World} {hb : Heap} {mg mb : Str → Option Value} {k n₀ : Nat} {σ σ₁ σ₂ : List C} {env : Env} {ρ : List (Str × D)}
theorem EvT.kind {value : Expr} {pos p : Pos} {j : Nat} {f : Fm} (h : EvT prog w hb k n₀ env ρ value σ f.toD σ₁)
    (hs : ∀ t i u, subscripted (.Constant (.int (0 : Nat)) j p) false (.ref t) (.int i u) = operate [.ref t, .int i u] (getItem (.ref t) (.int i u)) := by intros; with_unfolding_all rfl) :
    EvT prog w hb k n₀ env ρ (.Subscript value (.Constant (.int (0 : Nat)) j p) pos) σ (.str f.kind) σ₁ :=
  .it (h.to f.toD_eq) (c := 0) rfl (by decide) hs
theorem f_cut_frame (B : Base hb mg mb) (T : Defs hb mg) (N : Bare mg) (K : Consts hb mg) (F : NF prog w hb mg) {f : Fm} (hs : f.fine) {room : Nat} : Fn prog w hb mg (k + 8) "cut_frame" [f.toD, .int room] σ (.tuple [optD (f.cut room).1, optD (f.cut room).2]) := by
  have hd := data_len hs
  by_cases h1 : f.size ≤ room
  · have e : f.cut room = (some f, none) := by unfold Fm.cut; rw [if_pos h1]
    rw [e]
    refine Fn.intro (n := 17) T rfl B ["frame", "room"] (fun pm code doc vs h => by match vs, h with | [a0, a1], _ => rfl) rfl (by decide +kernel) (fun n x hx => .inl (by revert x hx; decide +kernel)) (fun n p hp => nomatch (show p ∈ [] from hp)) rfl rfl rfl (fun a code L => ?_)
    dsimp only
    apply Exists.intro
    apply And.intro
    · apply ExT.cons
      · exact .ifT (.to (.cmp (.fn B ((f_frame_size B T N K F hs.small).mono (by omega : 6 ≤ k + 7)) (.cons (.name (.head _)) .nil)) (.name (.tail _ (.head _))) .le) (by simpa using h1)) (.cons (.ret (.tuple (.cons (.name (.head _)) (.cons .none .nil)))) .ret)
      exact .ret
    · exact .mk (.tuple (.cons f.frz (.cons .none .nil)))
  by_cases h2 : f.isData = false
  · have e : f.cut room = (none, some f) := by unfold Fm.cut; rw [if_neg h1, if_pos h2]
    rw [e]
    refine Fn.intro (n := 17) T rfl B ["frame", "room"] (fun pm code doc vs h => by match vs, h with | [a0, a1], _ => rfl) rfl (by decide +kernel) (fun n x hx => .inl (by revert x hx; decide +kernel)) (fun n p hp => nomatch (show p ∈ [] from hp)) rfl rfl rfl (fun a code L => ?_)
    dsimp only
    apply Exists.intro
    apply And.intro
    · apply ExT.cons
      · exact .ifF (.to (.cmp (.fn B ((f_frame_size B T N K F hs.small).mono (by omega : 6 ≤ k + 7)) (.cons (.name (.head _)) .nil)) (.name (.tail _ (.head _))) .le) (by simpa using h1)) .nil
      apply SeqT.next
      apply ExT.cons
      · exact .ifT (.to (.cmp (.kind (.name (.head _))) (.g K.kinds B) (.ninstr (ys := ["crypto", "stream"]))) (by rw [f.kind_data, h2]; rfl)) (.cons (.ret (.tuple (.cons .none (.cons (.name (.head _)) .nil)))) .ret)
      exact .ret
    · exact .mk (.tuple (.cons .none (.cons f.frz .nil)))
  have h2 : f.isData = true := by simpa using h2
  by_cases h3 : f.base > room
  · have e : f.cut room = (none, some f) := by unfold Fm.cut; rw [if_neg h1, if_neg (by rw [h2]; decide), if_pos h3]
    rw [e]
    refine Fn.intro (n := 17) T rfl B ["frame", "room"] (fun pm code doc vs h => by match vs, h with | [a0, a1], _ => rfl) rfl (by decide +kernel) (fun n x hx => .inl (by revert x hx; decide +kernel)) (fun n p hp => nomatch (show p ∈ [] from hp)) rfl rfl rfl (fun a code L => ?_)
    dsimp only
    apply Exists.intro
    apply And.intro
    · apply ExT.cons
      · exact .ifF (.to (.cmp (.fn B ((f_frame_size B T N K F hs.small).mono (by omega : 6 ≤ k + 7)) (.cons (.name (.head _)) .nil)) (.name (.tail _ (.head _))) .le) (by simpa using h1)) .nil
      apply SeqT.next
      apply ExT.cons
      · exact .ifF (.to (.cmp (.kind (.name (.head _))) (.g K.kinds B) (.ninstr (ys := ["crypto", "stream"]))) (by rw [f.kind_data, h2]; rfl)) .nil
      apply SeqT.next
      apply ExT.cons
      · exact .swp (names := ["many", "data"]) (.tuple (.cons (.fn B (f_data_room1 B T N K F hs h2 h3) (.cons (.name (.head _)) (.cons (.name (.tail _ (.head _))) .nil))) (.cons (.fn B ((f_data_of B T h2).mono (by omega : 1 ≤ k + 7)) (.cons (.name (.head _)) .nil)) .nil))) (.cons (.new (by repeat (first | exact App.nil | apply App.cons)) (by kernel_rfl)) (.cons (.new (by repeat (first | exact App.nil | apply App.cons)) (by kernel_rfl)) .nil))
      apply SeqT.next
      apply ExT.cons
      · exact .ifT (.or_t (.to (.cmp (.name (.tail _ (.tail _ (.tail _ (.head _))))) .int .lt) (by decide))) (.cons (.ret (.tuple (.cons .none (.cons (.name (.head _)) .nil)))) .ret)
      exact .ret
    · exact .mk (.tuple (.cons .none (.cons f.frz .nil)))
  by_cases h4 : f.many room < 1
  · have e : f.cut room = (none, some f) := by unfold Fm.cut; rw [if_neg h1, if_neg (by rw [h2]; decide), if_neg h3, if_pos (.inl h4)]
    rw [e]
    refine Fn.intro (n := 17) T rfl B ["frame", "room"] (fun pm code doc vs h => by match vs, h with | [a0, a1], _ => rfl) rfl (by decide +kernel) (fun n x hx => .inl (by revert x hx; decide +kernel)) (fun n p hp => nomatch (show p ∈ [] from hp)) rfl rfl rfl (fun a code L => ?_)
    dsimp only
    apply Exists.intro
    apply And.intro
    · apply ExT.cons
      · exact .ifF (.to (.cmp (.fn B ((f_frame_size B T N K F hs.small).mono (by omega : 6 ≤ k + 7)) (.cons (.name (.head _)) .nil)) (.name (.tail _ (.head _))) .le) (by simpa using h1)) .nil
      apply SeqT.next
      apply ExT.cons
      · exact .ifF (.to (.cmp (.kind (.name (.head _))) (.g K.kinds B) (.ninstr (ys := ["crypto", "stream"]))) (by rw [f.kind_data, h2]; rfl)) .nil
      apply SeqT.next
      apply ExT.cons
      · exact .swp (names := ["many", "data"]) (.tuple (.cons (.fn B (f_data_room2 B T N K F hs h2 h3) (.cons (.name (.head _)) (.cons (.name (.tail _ (.head _))) .nil))) (.cons (.fn B ((f_data_of B T h2).mono (by omega : 1 ≤ k + 7)) (.cons (.name (.head _)) .nil)) .nil))) (.cons (.new (by repeat (first | exact App.nil | apply App.cons)) (by kernel_rfl)) (.cons (.new (by repeat (first | exact App.nil | apply App.cons)) (by kernel_rfl)) .nil))
      apply SeqT.next
      apply ExT.cons
      · exact .ifT (.or_t (.to (.cmp (.name (.tail _ (.tail _ (.tail _ (.head _))))) .int .lt) (by simp; omega))) (.cons (.ret (.tuple (.cons .none (.cons (.name (.head _)) .nil)))) .ret)
      exact .ret
    · exact .mk (.tuple (.cons .none (.cons f.frz .nil)))
  by_cases h5 : f.many room ≥ f.data.length
  · have e : f.cut room = (none, some f) := by unfold Fm.cut; rw [if_neg h1, if_neg (by rw [h2]; decide), if_neg h3, if_pos (.inr h5)]
    rw [e]
    refine Fn.intro (n := 17) T rfl B ["frame", "room"] (fun pm code doc vs h => by match vs, h with | [a0, a1], _ => rfl) rfl (by decide +kernel) (fun n x hx => .inl (by revert x hx; decide +kernel)) (fun n p hp => nomatch (show p ∈ [] from hp)) rfl rfl rfl (fun a code L => ?_)
    dsimp only
    apply Exists.intro
    apply And.intro
    · apply ExT.cons
      · exact .ifF (.to (.cmp (.fn B ((f_frame_size B T N K F hs.small).mono (by omega : 6 ≤ k + 7)) (.cons (.name (.head _)) .nil)) (.name (.tail _ (.head _))) .le) (by simpa using h1)) .nil
      apply SeqT.next
      apply ExT.cons
      · exact .ifF (.to (.cmp (.kind (.name (.head _))) (.g K.kinds B) (.ninstr (ys := ["crypto", "stream"]))) (by rw [f.kind_data, h2]; rfl)) .nil
      apply SeqT.next
      apply ExT.cons
      · exact .swp (names := ["many", "data"]) (.tuple (.cons (.fn B (f_data_room2 B T N K F hs h2 h3) (.cons (.name (.head _)) (.cons (.name (.tail _ (.head _))) .nil))) (.cons (.fn B ((f_data_of B T h2).mono (by omega : 1 ≤ k + 7)) (.cons (.name (.head _)) .nil)) .nil))) (.cons (.new (by repeat (first | exact App.nil | apply App.cons)) (by kernel_rfl)) (.cons (.new (by repeat (first | exact App.nil | apply App.cons)) (by kernel_rfl)) .nil))
      apply SeqT.next
      apply ExT.cons
      · exact .ifT (.or_f (.to (.cmp (.name (.tail _ (.tail _ (.tail _ (.head _))))) .int .lt) (by simp; omega)) (.or_t (.to (.cmp (.name (.tail _ (.tail _ (.tail _ (.head _))))) (.builtin B N.len (by kernel_rfl) (.cons (.name (.tail _ (.tail _ (.head _)))) .nil) (.lenb (by omega))) .ge) (by simpa using h5)))) (.cons (.ret (.tuple (.cons .none (.cons (.name (.head _)) .nil)))) .ret)
      exact .ret
    · exact .mk (.tuple (.cons .none (.cons f.frz .nil)))
  have e : f.cut room = (some (f.withData 0 (f.data.take (f.many room)) false), some (f.withData (f.many room) (f.data.drop (f.many room)) f.isEnd)) := by unfold Fm.cut; rw [if_neg h1, if_neg (by rw [h2]; decide), if_neg h3, if_neg (fun h => h.elim h4 h5)]
  rw [e]
  refine Fn.intro (n := 17) T rfl B ["frame", "room"] (fun pm code doc vs h => by match vs, h with | [a0, a1], _ => rfl) rfl (by decide +kernel) (fun n x hx => .inl (by revert x hx; decide +kernel)) (fun n p hp => nomatch (show p ∈ [] from hp)) rfl rfl rfl (fun a code L => ?_)
  dsimp only
  apply Exists.intro
  apply And.intro
  · apply ExT.cons
    · exact .ifF (.to (.cmp (.fn B ((f_frame_size B T N K F hs.small).mono (by omega : 6 ≤ k + 7)) (.cons (.name (.head _)) .nil)) (.name (.tail _ (.head _))) .le) (by simpa using h1)) .nil
    apply SeqT.next
    apply ExT.cons
    · exact .ifF (.to (.cmp (.kind (.name (.head _))) (.g K.kinds B) (.ninstr (ys := ["crypto", "stream"]))) (by rw [f.kind_data, h2]; rfl)) .nil
    apply SeqT.next
    apply ExT.cons
    · exact .swp (names := ["many", "data"]) (.tuple (.cons (.fn B (f_data_room2 B T N K F hs h2 h3) (.cons (.name (.head _)) (.cons (.name (.tail _ (.head _))) .nil))) (.cons (.fn B ((f_data_of B T h2).mono (by omega : 1 ≤ k + 7)) (.cons (.name (.head _)) .nil)) .nil))) (.cons (.new (by repeat (first | exact App.nil | apply App.cons)) (by kernel_rfl)) (.cons (.new (by repeat (first | exact App.nil | apply App.cons)) (by kernel_rfl)) .nil))
    apply SeqT.next
    apply ExT.cons
    · exact .ifF (.or_f (.to (.cmp (.name (.tail _ (.tail _ (.tail _ (.head _))))) .int .lt) (by simp; omega)) (.or_f (.to (.cmp (.name (.tail _ (.tail _ (.tail _ (.head _))))) (.builtin B N.len (by kernel_rfl) (.cons (.name (.tail _ (.tail _ (.head _)))) .nil) (.lenb (by omega))) .ge) (by simpa using h5)) .or_nil)) .nil
    apply SeqT.next
    apply ExT.cons
    · refine .assign (σ₁ := σ) (d := .bool f.isEnd) ?_ (.new (by repeat (first | exact App.nil | apply App.cons)) (by kernel_rfl))
      cases f with
      | crypto o d => exact .and_cons (b := false) (.cmp (.it (.name (.head _)) (c := 0) (by rfl)) .str (.to .eqs (congrArg D.bool (by decide +kernel)))) .bool (fun h => nomatch h) (fun _ => ⟨rfl, rfl⟩)
      | stream i o d fin => exact .and_cons (b := true) (.cmp (.it (.name (.head _)) (c := 0) (by rfl)) .str (.to .eqs (congrArg D.bool (by decide +kernel)))) .bool (fun _ => .and_one (.it (.name (.head _)) (c := 4) (by rfl))) (fun h => nomatch h)
      | _ => cases h2
    apply SeqT.next
    apply ExT.cons
    · exact .ret (.tuple (.cons (.fn B ((f_with_data (m := 0) (e := f.data.take (f.many room)) (b := false) B T h2).mono (by omega : 1 ≤ k + 7)) (.cons (.name (.head _)) (.cons .int (.cons (.bupto (.name (.tail _ (.tail _ (.head _)))) (.name (.tail _ (.tail _ (.tail _ (.head _))))) (by omega)) (.cons .bool .nil)))))
        (.cons (.fn B ((f_with_data (m := f.many room) (e := f.data.drop (f.many room)) (b := f.isEnd) B T h2).mono (by omega : 1 ≤ k + 7)) (.cons (.name (.head _)) (.cons (.name (.tail _ (.tail _ (.tail _ (.head _))))) (.cons (.bfrom (.name (.tail _ (.tail _ (.head _)))) (.name (.tail _ (.tail _ (.tail _ (.head _))))) (by omega)) (.cons (.name (.tail _ (.tail _ (.tail _ (.tail _ (.head _)))))) .nil))))) .nil)))
    exact .ret
  · exact .mk (.tuple (.cons (Fm.frz _) (.cons (Fm.frz _) .nil)))
end
end Mine
open PySem PySem.W PyProof.Rows PySem.Calls PySem.Spec
set_option maxRecDepth 100000
set_option maxHeartbeats 8000000
namespace Mine
theorem downG_false {p : Nat → Bool} (h0 : p 0 = false) : ∀ m, p (downG p m) = false
  | 0 => h0
  | m + 1 => by
    unfold downG
    split
    · exact downG_false h0 m
    · rename_i h; simpa using h
theorem downG_le {p : Nat → Bool} : ∀ m, downG p m ≤ m
  | 0 => Nat.le_refl _
  | m + 1 => by
    unfold downG
    split
    · exact Nat.le_succ_of_le (downG_le m)
    · exact Nat.le_refl _
namespace Fm
theorem many_fits {f : Fm} {room : Nat} (h : ¬ f.base > room) : (f.withData 0 (f.data.take (f.many room)) false).size ≤ room := by
  have := downG_false (p := f.tooBig room) (by simpa [tooBig, base] using h) (min f.data.length (room - f.base))
  simpa [tooBig, many] using this
theorem many_le (f : Fm) (room : Nat) : f.many room ≤ f.data.length := Nat.le_trans (downG_le _) (Nat.min_le_left _ _)
theorem cut_fits {f p : Fm} {room : Nat} (h : (f.cut room).1 = some p) : p.size ≤ room := by
  unfold cut at h
  split at h
  · cases h; assumption
  split at h
  · cases h
  split at h
  · cases h
  rename_i h3
  split at h
  · cases h
  · cases h; exact many_fits h3
theorem cut_fine {f : Fm} {room : Nat} (hf : f.fine) : (∀ p, (f.cut room).1 = some p → p.fine) ∧ (∀ p, (f.cut room).2 = some p → p.fine) := by
  unfold cut
  split
  · exact ⟨fun p h => by cases h; exact hf, fun p h => nomatch h⟩
  split
  · exact ⟨(fun p h => nomatch h), fun p h => by cases h; exact hf⟩
  split
  · exact ⟨(fun p h => nomatch h), fun p h => by cases h; exact hf⟩
  split
  · exact ⟨(fun p h => nomatch h), fun p h => by cases h; exact hf⟩
  · exact ⟨fun p h => by cases h; exact hf.take _ _, fun p h => by cases h; exact hf.drop (many_le _ _) _⟩
theorem toD_isNone (f : Fm) : f.toD.isNone = false := by cases f <;> rfl
end Fm
/-- what filling keeps: the room, what is taken, what is left -/
structure FS where
  room : Nat
  tk : List Fm
  lf : List Fm
def fstep (s : FS) (f : Fm) : FS := ⟨s.room - ((f.cut s.room).1.elim 0 Fm.size), s.tk ++ (f.cut s.room).1.toList, s.lf ++ (f.cut s.room).2.toList⟩
def fill (fs : List Fm) (room : Nat) : FS := fs.foldl fstep ⟨room, [], []⟩
/-- the same without cutting -/
def tstep (s : FS) (f : Fm) : FS := if f.size ≤ s.room then ⟨s.room - f.size, s.tk ++ [f], s.lf⟩ else ⟨s.room, s.tk, s.lf ++ [f]⟩
def tleft (fs : List Fm) (room : Nat) : FS := fs.foldl tstep ⟨room, [], []⟩
/-- frames as data -/
def fmD (fs : List Fm) : D := .list (fs.map Fm.toD)
theorem two_at0 {σ : List C} {a b : C} : ((σ ++ [a]) ++ [b])[σ.length]? = some a := by simp
theorem two_at1 {σ : List C} {a b : C} : ((σ ++ [a]) ++ [b])[σ.length + 1]? = some b := by simp
theorem two_set0 {σ : List C} {a b c : C} : ((σ ++ [a]) ++ [b]).set σ.length c = (σ ++ [c]) ++ [b] := by simp
theorem two_set1 {σ : List C} {a b c : C} : ((σ ++ [a]) ++ [b]).set (σ.length + 1) c = (σ ++ [a]) ++ [c] := by simp [List.set_append_right]
section
variable {prog : Program} {w : World} {hb : Heap} {mg mb : Str → Option Value} {k n₀ : Nat} {σ σ₁ σ₂ : List C} {env : Env} {ρ : List (Str × D)}
theorem frz_two {σ : List C} {tk lf : List Fm} : RetOk (.ret (.tuple [.ref σ.length, .ref (σ.length + 1)]) ((σ ++ [.list (tk.map Fm.toD)]) ++ [.list (lf.map Fm.toD)])) σ.length (.tuple [fmD tk, fmD lf]) :=
  .mk (.tuple (.cons (.new (Nat.le_refl _) two_at0 (frz_map fun f _ => f.frz)) (.cons (.new (Nat.le_succ _) two_at1 (frz_map fun f _ => f.frz)) .nil)))
theorem f_filled (B : Base hb mg mb) (T : Defs hb mg) (N : Bare mg) (K : Consts hb mg) (F : NF prog w hb mg) {fs : List Fm} (hs : ∀ f ∈ fs, f.fine) (hl : fs.length ≤ 1000) {room : Nat} : Fn prog w hb mg (k + 9) "filled" [fmD fs, .int room] σ (.tuple [fmD (fill fs room).tk, fmD (fill fs room).lf]) := by
  refine Fn.intro (n := 18) T rfl B ["frames", "room"] (fun pm code doc vs h => by match vs, h with | [a0, a1], _ => rfl) rfl (by decide +kernel) (fun n x hx => .inl (by revert x hx; decide +kernel)) (fun n p hp => nomatch (show p ∈ [] from hp)) rfl rfl rfl (fun a code L => ?_)
  dsimp only
  apply Exists.intro
  apply And.intro
  · apply ExT.cons (o₁ := .next [("frames", fmD fs), ("room", .int room), ("left", .ref (σ.length + 1)), ("taken", .ref σ.length)] ((σ ++ [.list []]) ++ [.list []]))
    · exact .swp (names := ["taken", "left"]) (.tuple (.cons (.mlist .nil) (.cons (.to (d' := .ref (σ.length + 1)) (.mlist .nil) (by simp)) .nil))) (.cons (.new (by repeat (first | exact App.nil | apply App.cons)) (by kernel_rfl)) (.cons (.new (by repeat (first | exact App.nil | apply App.cons)) (by kernel_rfl)) .nil))
    apply SeqT.next
    apply ExT.cons (o₁ := .next [("frames", fmD fs), ("room", .int (fill fs room).room), ("left", .ref (σ.length + 1)), ("taken", .ref σ.length)] ((σ ++ [.list ((fill fs room).tk.map Fm.toD)]) ++ [.list ((fill fs room).lf.map Fm.toD)]))
    · refine .for (.list (.name (.head _))) (.fold (fun s => [("frames", fmD fs), ("room", .int s.room), ("left", .ref (σ.length + 1)), ("taken", .ref σ.length)]) (fun s => (σ ++ [.list (s.tk.map Fm.toD)]) ++ [.list (s.lf.map Fm.toD)]) fstep
        (fun l s => s.tk.length + l.length ≤ fs.length ∧ s.lf.length + l.length ≤ fs.length ∧ ∀ f ∈ l, f.fine) (fun s f l hI => ?_) fs ⟨room, [], []⟩ ⟨by simp, by simp, hs⟩)
      obtain ⟨h1, h2, h3⟩ := hI
      have hf := h3 f List.mem_cons_self
      obtain ⟨c1, c2⟩ := Fm.cut_fine (room := s.room) hf
      have c3 := fun p => Fm.cut_fits (f := f) (p := p) (room := s.room)
      have h3' : ∀ g ∈ l, g.fine := fun g hg => h3 g (List.mem_cons_of_mem _ hg)
      have hcut := f_cut_frame (k := k) (σ := (σ ++ [.list (s.tk.map Fm.toD)]) ++ [.list (s.lf.map Fm.toD)]) B T N K F hf (room := s.room)
      simp only [List.length_cons] at h1 h2
      unfold fstep
      generalize f.cut s.room = c at c1 c2 c3 hcut
      obtain ⟨p, r⟩ := c
      cases p with
      | none =>
        cases r with
        | none =>
          refine ⟨⟨by simp; omega, by simp; omega, h3'⟩, _, (.new (by repeat (first | exact App.nil | apply App.cons)) (by kernel_rfl)), .forgetZ (.cons (.unpk (.fn B hcut (.cons (.name (.tail _ (.tail _ (.tail _ (.tail _ (.head _)))))) (.cons (.name (.tail _ (.head _))) .nil))) (.cons (.new (by repeat (first | exact App.nil | apply App.cons)) (by kernel_rfl)) (.cons (.new (by repeat (first | exact App.nil | apply App.cons)) (by kernel_rfl)) .nil))) (.next (.cons (.ifF (.cmp (.name (.tail _ (.tail _ (.tail _ (.tail _ (.tail _ (.head _))))))) .none .isnn) .nil) (.next (.one (.ifF (.cmp (.name (.tail _ (.tail _ (.tail _ (.tail _ (.tail _ (.tail _ (.head _)))))))) .none .isnn) .nil) .end))))) rfl (by simp)⟩
        | some r =>
          refine ⟨⟨by simp; omega, by simp; omega, h3'⟩, _, (.new (by repeat (first | exact App.nil | apply App.cons)) (by kernel_rfl)), .forgetZ (.cons (.unpk (.fn B hcut (.cons (.name (.tail _ (.tail _ (.tail _ (.tail _ (.head _)))))) (.cons (.name (.tail _ (.head _))) .nil))) (.cons (.new (by repeat (first | exact App.nil | apply App.cons)) (by kernel_rfl)) (.cons (.new (by repeat (first | exact App.nil | apply App.cons)) (by kernel_rfl)) .nil))) (.next (.cons (.ifF (.cmp (.name (.tail _ (.tail _ (.tail _ (.tail _ (.tail _ (.head _))))))) .none .isnn) .nil) (.next (.one (.ifT (.to (.cmp (.name (.tail _ (.tail _ (.tail _ (.tail _ (.tail _ (.tail _ (.head _)))))))) .none .isnn) (by show (!r.toD.isNone) = true; rw [r.toD_isNone]; rfl)) (.one (.append (.tail _ (.tail _ (.head _))) (.name (.tail _ (.tail _ (.tail _ (.tail _ (.tail _ (.tail _ (.head _)))))))) two_at1 ⟨_, two_at1⟩ (by rw [List.length_map, sizeLine_eq]; omega) (by omega)) .end)) .end))))) rfl (by rw [two_set1]; simp [optD])⟩
      | some p =>
        have hp := c1 p rfl
        have hfit := c3 p rfl
        cases r with
        | none =>
          refine ⟨⟨by simp; omega, by simp; omega, h3'⟩, _, (.new (by repeat (first | exact App.nil | apply App.cons)) (by kernel_rfl)), .forgetZ (.cons (.unpk (.fn B hcut (.cons (.name (.tail _ (.tail _ (.tail _ (.tail _ (.head _)))))) (.cons (.name (.tail _ (.head _))) .nil))) (.cons (.new (by repeat (first | exact App.nil | apply App.cons)) (by kernel_rfl)) (.cons (.new (by repeat (first | exact App.nil | apply App.cons)) (by kernel_rfl)) .nil))) (.next (.cons (.ifT (.to (.cmp (.name (.tail _ (.tail _ (.tail _ (.tail _ (.tail _ (.head _))))))) .none .isnn) (by show (!p.toD.isNone) = true; rw [p.toD_isNone]; rfl))
            (.cons (.append (.tail _ (.tail _ (.tail _ (.head _)))) (.name (.tail _ (.tail _ (.tail _ (.tail _ (.tail _ (.head _))))))) two_at0 ⟨_, two_at0⟩ (by rw [List.length_map, sizeLine_eq]; omega) (by omega)) (.next (.one (.aug (.tail _ (.head _)) (.fn B ((f_frame_size B T N K F hp.small).mono (by omega : 6 ≤ k + 8)) (.cons (.name (.tail _ (.tail _ (.tail _ (.tail _ (.tail _ (.head _))))))) .nil)) (.to .isub (congrArg D.int (by show (s.room : Int) - (p.size : Nat) = ((s.room - p.size : Nat) : Int); omega))) (.put (.miss .hit))) .end))))
            (.next (.one (.ifF (.cmp (.name (.tail _ (.tail _ (.tail _ (.tail _ (.tail _ (.tail _ (.head _)))))))) .none .isnn) .nil) .end))))) rfl (by rw [two_set0]; simp [optD])⟩
        | some r =>
          refine ⟨⟨by simp; omega, by simp; omega, h3'⟩, _, (.new (by repeat (first | exact App.nil | apply App.cons)) (by kernel_rfl)), .forgetZ (.cons (.unpk (.fn B hcut (.cons (.name (.tail _ (.tail _ (.tail _ (.tail _ (.head _)))))) (.cons (.name (.tail _ (.head _))) .nil))) (.cons (.new (by repeat (first | exact App.nil | apply App.cons)) (by kernel_rfl)) (.cons (.new (by repeat (first | exact App.nil | apply App.cons)) (by kernel_rfl)) .nil))) (.next (.cons (.ifT (.to (.cmp (.name (.tail _ (.tail _ (.tail _ (.tail _ (.tail _ (.head _))))))) .none .isnn) (by show (!p.toD.isNone) = true; rw [p.toD_isNone]; rfl))
            (.cons (.append (.tail _ (.tail _ (.tail _ (.head _)))) (.name (.tail _ (.tail _ (.tail _ (.tail _ (.tail _ (.head _))))))) two_at0 ⟨_, two_at0⟩ (by rw [List.length_map, sizeLine_eq]; omega) (by omega)) (.next (.one (.aug (.tail _ (.head _)) (.fn B ((f_frame_size B T N K F hp.small).mono (by omega : 6 ≤ k + 8)) (.cons (.name (.tail _ (.tail _ (.tail _ (.tail _ (.tail _ (.head _))))))) .nil)) (.to .isub (congrArg D.int (by show (s.room : Int) - (p.size : Nat) = ((s.room - p.size : Nat) : Int); omega))) (.put (.miss .hit))) .end))))
            (.next (.one (.ifT (.to (.cmp (.name (.tail _ (.tail _ (.tail _ (.tail _ (.tail _ (.tail _ (.head _)))))))) .none .isnn) (by show (!r.toD.isNone) = true; rw [r.toD_isNone]; rfl)) (.one (.append (.tail _ (.tail _ (.head _))) (.name (.tail _ (.tail _ (.tail _ (.tail _ (.tail _ (.tail _ (.head _)))))))) (by rw [two_set0]; exact two_at1) ⟨_, by rw [two_set0]; exact two_at1⟩ (by rw [List.length_map, sizeLine_eq]; omega) (by omega)) .end)) .end))))) rfl (by rw [two_set0, two_set1]; simp [optD])⟩
    apply SeqT.next
    apply ExT.cons
    · exact .ret (.tuple (.cons (.name (.tail _ (.tail _ (.tail _ (.head _))))) (.cons (.name (.tail _ (.tail _ (.head _)))) .nil)))
    exact .ret
  · exact frz_two
end
end Mine
open PySem PySem.W PyProof.Rows PySem.Calls PySem.Spec
set_option maxRecDepth 100000
set_option maxHeartbeats 8000000
namespace Mine
section
variable {prog : Program} {w : World} {hb : Heap} {mg mb : Str → Option Value} {k n₀ : Nat} {σ σ₁ σ₂ : List C} {env : Env} {ρ : List (Str × D)}
theorem f_taken_and_left (B : Base hb mg mb) (T : Defs hb mg) (N : Bare mg) (K : Consts hb mg) (F : NF prog w hb mg) {fs : List Fm} (hs : ∀ f ∈ fs, f.small) (hl : fs.length ≤ 1000) {room : Nat} : Fn prog w hb mg (k + 7) "taken_and_left" [fmD fs, .int room] σ (.tuple [fmD (tleft fs room).tk, fmD (tleft fs room).lf]) := by
  refine Fn.intro (n := 13) T rfl B ["frames", "room"] (fun pm code doc vs h => by match vs, h with | [a0, a1], _ => rfl) rfl (by decide +kernel) (fun n x hx => .inl (by revert x hx; decide +kernel)) (fun n p hp => nomatch (show p ∈ [] from hp)) rfl rfl rfl (fun a code L => ?_)
  dsimp only
  apply Exists.intro
  apply And.intro
  · apply ExT.cons (o₁ := .next [("frames", fmD fs), ("room", .int room), ("left", .ref (σ.length + 1)), ("taken", .ref σ.length)] ((σ ++ [.list []]) ++ [.list []]))
    · exact .swp (names := ["taken", "left"]) (.tuple (.cons (.mlist .nil) (.cons (.to (d' := .ref (σ.length + 1)) (.mlist .nil) (by simp)) .nil))) (.cons (.new (by repeat (first | exact App.nil | apply App.cons)) (by kernel_rfl)) (.cons (.new (by repeat (first | exact App.nil | apply App.cons)) (by kernel_rfl)) .nil))
    apply SeqT.next
    apply ExT.cons (o₁ := .next [("frames", fmD fs), ("room", .int (tleft fs room).room), ("left", .ref (σ.length + 1)), ("taken", .ref σ.length)] ((σ ++ [.list ((tleft fs room).tk.map Fm.toD)]) ++ [.list ((tleft fs room).lf.map Fm.toD)]))
    · refine .for (.list (.name (.head _))) (.fold (fun s => [("frames", fmD fs), ("room", .int s.room), ("left", .ref (σ.length + 1)), ("taken", .ref σ.length)]) (fun s => (σ ++ [.list (s.tk.map Fm.toD)]) ++ [.list (s.lf.map Fm.toD)]) tstep
        (fun l s => s.tk.length + l.length ≤ fs.length ∧ s.lf.length + l.length ≤ fs.length ∧ ∀ f ∈ l, f.small) (fun s f l hI => ?_) fs ⟨room, [], []⟩ ⟨by simp, by simp, hs⟩)
      obtain ⟨h1, h2, h3⟩ := hI
      have hf := h3 f List.mem_cons_self
      have h3' : ∀ g ∈ l, g.small := fun g hg => h3 g (List.mem_cons_of_mem _ hg)
      simp only [List.length_cons] at h1 h2
      unfold tstep
      by_cases hc : f.size ≤ s.room
      · rw [if_pos hc]
        refine ⟨⟨by simp; omega, by simp; omega, h3'⟩, _, (.new (by repeat (first | exact App.nil | apply App.cons)) (by kernel_rfl)), .forgetZ (.cons (.assign (.fn B (f_frame_size B T N K F hf) (.cons (.name (.tail _ (.tail _ (.tail _ (.tail _ (.head _)))))) .nil)) (.new (by repeat (first | exact App.nil | apply App.cons)) (by kernel_rfl))) (.next (.one (.ifT (.to (.cmp (.name (.tail _ (.tail _ (.tail _ (.tail _ (.tail _ (.head _))))))) (.name (.tail _ (.head _))) .le) (by simpa using hc))
          (.cons (.append (.tail _ (.tail _ (.tail _ (.head _)))) (.name (.tail _ (.tail _ (.tail _ (.tail _ (.head _)))))) two_at0 ⟨_, two_at0⟩ (by rw [List.length_map, sizeLine_eq]; omega) (by omega)) (.next (.one (.aug (.tail _ (.head _)) (.name (.tail _ (.tail _ (.tail _ (.tail _ (.tail _ (.head _))))))) (.to .isub (congrArg D.int (by show (s.room : Int) - (f.size : Nat) = ((s.room - f.size : Nat) : Int); omega))) (.put (.miss .hit))) .end)))) .end))) rfl (by rw [two_set0]; simp)⟩
      · rw [if_neg hc]
        refine ⟨⟨by simp; omega, by simp; omega, h3'⟩, _, (.new (by repeat (first | exact App.nil | apply App.cons)) (by kernel_rfl)), .forgetZ (.cons (.assign (.fn B (f_frame_size B T N K F hf) (.cons (.name (.tail _ (.tail _ (.tail _ (.tail _ (.head _)))))) .nil)) (.new (by repeat (first | exact App.nil | apply App.cons)) (by kernel_rfl))) (.next (.one (.ifF (.to (.cmp (.name (.tail _ (.tail _ (.tail _ (.tail _ (.tail _ (.head _))))))) (.name (.tail _ (.head _))) .le) (by simpa using hc))
          (.one (.append (.tail _ (.tail _ (.head _))) (.name (.tail _ (.tail _ (.tail _ (.tail _ (.head _)))))) two_at1 ⟨_, two_at1⟩ (by rw [List.length_map, sizeLine_eq]; omega) (by omega)) .end)) .end))) rfl (by rw [two_set1]; simp)⟩
    apply SeqT.next
    apply ExT.cons
    · exact .ret (.tuple (.cons (.name (.tail _ (.tail _ (.tail _ (.head _))))) (.cons (.name (.tail _ (.tail _ (.head _)))) .nil)))
    exact .ret
  · exact frz_two
end
end Mine
open PySem PySem.W PyProof.Rows PySem.Calls PySem.Spec
set_option maxRecDepth 100000
namespace Mine
open PySem.SeqAt PySem.Builtin
theorem slot_bytes_eq_refl : Slot "bytes" (cmpInfo .Eq).2.2 "bytes.__eq__" :=
  .of (owner := "bytes") (n := "__eq__") (by rw [typeLookup_type, builtinLookup_eq_fast]; kernel_rfl) (by decide +kernel) (by decide +kernel) (by decide +kernel)
    (by first | exact .inl (by decide +kernel) | exact .inr (by decide +kernel)) (by rw [isSubtype_type]; kernel_rfl)
theorem sub_bytes_int : isSubtype (.type "bytes") (.type "int") = pure false := by rw [isSubtype_type]; kernel_rfl
theorem bytes_eq_int (b : Array UInt8) (t : Tok) (i : Int) (u : Tok) : Gives (Builtin.«bytes.__eq__» ⟨[.bytes b t, .int i u], []⟩) (.val .notImplemented) := by
  refine .of_wp fun M A E s Q hq => ?_
  show wpAny M A (isInstance (.int i u) (.type "bytes") >>= fun r => _) _ E s
  refine wpAny_bind (wpAny_isInstance (typeIs_int s i u) sub_int_bytes ?_)
  show wpAny M A (rule _ >>= fun _ => ret Value.notImplemented) _ E s
  exact wpAny_bind (wpAny_rule (wpAny_pure ⟨_, rfl, hq⟩))
theorem int_eq_bytes (i : Int) (u : Tok) (b : Array UInt8) (t : Tok) : Gives (Builtin.«int.__eq__» ⟨[.int i u, .bytes b t], []⟩) (.val .notImplemented) :=
  .of_wp fun M A E s Q h => by obtain ⟨hp, g, d, tk, os⟩ := s; wp_walk; exact ⟨_, rfl, h⟩
section
variable {A : Around} {s : Shared}
theorem RcAt.bytes_int (a : Array UInt8) (t : Tok) (b : Int) (u : Tok) : RcAt A s (.bytes a t) (.int b u) false := fun prog w E Q h =>
  rc_eq_decline_or (k := false) (typeIs_bytes s a t) (typeIs_int s b u) (by decide) sub_int_bytes FB.slot_bytes_eq F.slot_int_eq_refl
    (fun _ hq => call_gives FB.slot_bytes_eq (typeIs_bytes s a t) FB.entry_bytes_eq (FB.args_bytes_eq_2 _ _) (bytes_eq_int a t b u) hq)
    (fun _ hq => call_gives F.slot_int_eq_refl (typeIs_int s b u) F.entry_int_eq (F.args_int_eq_2 _ _) (int_eq_bytes b u a t) hq)
    (fun _ hq => wpAny_of_eq (rfl : isSame (.bytes a t) (.int b u) = pure false) hq) (.inl rfl) h
theorem RcAt.int_bytes (b : Int) (u : Tok) (a : Array UInt8) (t : Tok) : RcAt A s (.int b u) (.bytes a t) false := fun prog w E Q h =>
  rc_eq_decline_or (k := false) (typeIs_int s b u) (typeIs_bytes s a t) (by decide) sub_bytes_int F.slot_int_eq slot_bytes_eq_refl
    (fun _ hq => call_gives F.slot_int_eq (typeIs_int s b u) F.entry_int_eq (F.args_int_eq_2 _ _) (int_eq_bytes b u a t) hq)
    (fun _ hq => call_gives slot_bytes_eq_refl (typeIs_bytes s a t) FB.entry_bytes_eq (FB.args_bytes_eq_2 _ _) (bytes_eq_int a t b u) hq)
    (fun _ hq => wpAny_of_eq (rfl : isSame (.int b u) (.bytes a t) = pure false) hq) (.inl rfl) h
theorem EqAt.bytes_int (a : Array UInt8) (t : Tok) (b : Int) (u : Tok) : EqAt A s (.bytes a t) (.int b u) false := fun prog w E Q h => by
  unfold eqBool
  refine wpAny_holding ?_
  refine wpAny_ite_split (fun hab => absurd (eq_of_beq hab) nofun) (fun _ => ?_)
  exact wpAny_bind (RcAt.bytes_int a t b u prog w E _ (wpAny_truthy_bool h))
theorem EqAt.int_bytes (b : Int) (u : Tok) (a : Array UInt8) (t : Tok) : EqAt A s (.int b u) (.bytes a t) false := fun prog w E Q h => by
  unfold eqBool
  refine wpAny_holding ?_
  refine wpAny_ite_split (fun hab => absurd (eq_of_beq hab) nofun) (fun _ => ?_)
  exact wpAny_bind (RcAt.int_bytes b u a t prog w E _ (wpAny_truthy_bool h))
theorem EqAt.bytes_bytes (a : List UInt8) (t : Tok) (b : List UInt8) (u : Tok) : EqAt A s (.bytes a.toArray t) (.bytes b.toArray u) (a == b) := fun prog w E Q h => by
  refine eqBool_bytes ?_
  rw [show (a == b) = decide (a.toArray.toList = b.toArray.toList) by rw [Bool.eq_iff_iff]; simp] at h; exact h
end
mutual
/-- equality of data, as the language finds it -/
inductive EqD : Nat → D → D → Bool → Prop
  | str {n : Nat} {a b : Str} : EqD n (.str a) (.str b) (a == b)
  | int {n : Nat} {a b : Int} : EqD n (.int a) (.int b) (a == b)
  | bool {n : Nat} {a b : Bool} : EqD n (.bool a) (.bool b) (a == b)
  | bytes {n : Nat} {a b : List UInt8} : EqD n (.bytes a) (.bytes b) (a == b)
  | bi {n : Nat} {a : List UInt8} {b : Int} : EqD n (.bytes a) (.int b) false
  | ib {n : Nat} {a : Int} {b : List UInt8} : EqD n (.int a) (.bytes b) false
  | tuple {n : Nat} {ds es : List D} {b : Bool} : EqDs n ds es b → EqD (n + 1) (.tuple ds) (.tuple es) (b && ds.length == es.length)
  | list {n : Nat} {ds es : List D} {b : Bool} : ds.length = es.length → EqDs n ds es b → EqD (n + 1) (.list ds) (.list es) b
  | listn {n : Nat} {ds es : List D} : ds.length ≠ es.length → EqD (n + 1) (.list ds) (.list es) false
inductive EqDs : Nat → List D → List D → Bool → Prop
  | nil {n : Nat} {es : List D} : EqDs n [] es true
  | nilr {n : Nat} {ds : List D} : EqDs n ds [] true
  | cons {n : Nat} {d e : D} {ds es : List D} {b c : Bool} : EqD n d e b → EqDs n ds es c → EqDs n (d :: ds) (e :: es) (b && c)
end
theorem tup_same {h : Heap} {a : Addr} {xs ys : Array Value} (p : IsTup h a xs) (q : IsTup h a ys) : xs = ys := by
  obtain ⟨o, ho, _, n, hd⟩ := p; obtain ⟨o', ho', _, n', hd'⟩ := q
  rw [ho] at ho'; cases ho'; rw [hd] at hd'; injection hd'
theorem list_same {h : Heap} {a : Addr} {xs ys : Array Value} (p : h.IsList a xs) (q : h.IsList a ys) : xs = ys := by
  obtain ⟨o, ho, _, n, hd⟩ := p; obtain ⟨o', ho', _, n', hd'⟩ := q
  rw [ho] at ho'; cases ho'; rw [hd] at hd'; injection hd'
mutual
theorem EqD.same {h : Heap} {α : List Addr} : ∀ {n : Nat} {d e : D} {b : Bool}, EqD n d e b → ∀ {v : Value}, Rv h α v d → Rv h α v e → b = true
  | _, _, _, _, .str, _, r, q => by obtain ⟨t, rfl⟩ := rv_str r; cases q; exact beq_self_eq_true _
  | _, _, _, _, .int, _, r, q => by obtain ⟨t, rfl⟩ := rv_int r; cases q; exact beq_self_eq_true _
  | _, _, _, _, .bool, _, r, q => by obtain rfl := rv_bool r; cases q; exact beq_self_eq_true _
  | _, _, _, _, .bytes, _, r, q => by
    obtain ⟨t, rfl⟩ := rv_bytes r; obtain ⟨u, e⟩ := rv_bytes q
    injection e with e1 e2; have := congrArg Array.toList e1; simp at this; subst this; exact beq_self_eq_true _
  | _, _, _, _, .bi, _, r, q => by obtain ⟨t, rfl⟩ := rv_bytes r; cases q
  | _, _, _, _, .ib, _, r, q => by obtain ⟨t, rfl⟩ := rv_int r; cases q
  | _, _, _, _, .tuple x, _, .tuple h1 _ r, .tuple h2 _ q => by
    have e := tup_same h1 h2
    have e' := congrArg Array.toList e
    simp only at e'
    subst e'
    rw [EqDs.same x r q, ← r.length, ← q.length]; simp
  | _, _, _, _, .list _ x, _, .list h1 _ r, .list h2 _ q => by
    have e' := congrArg Array.toList (list_same h1 h2)
    simp only at e'
    subst e'
    exact EqDs.same x r q
  | _, _, _, _, .listn hn, _, .list h1 _ r, .list h2 _ q => by
    have e' := congrArg Array.toList (list_same h1 h2)
    simp only at e'
    subst e'
    exact absurd (r.length.symm.trans q.length) hn
theorem EqDs.same {h : Heap} {α : List Addr} : ∀ {n : Nat} {ds es : List D} {b : Bool}, EqDs n ds es b → ∀ {vs : List Value}, RvAll h α vs ds → RvAll h α vs es → b = true
  | _, _, _, _, .nil, _, _, _ => rfl
  | _, _, _, _, .nilr, _, _, _ => rfl
  | _, _, _, _, .cons x xs, _, .cons r rs, .cons q qs => by rw [EqD.same x r q, EqDs.same xs rs qs]; rfl
end
theorem all_range_cons {e : Nat → Bool} {b : Bool} (m n : Nat) : (List.range (min (m + 1) (n + 1))).all (fun j => match j with | 0 => b | j + 1 => e j) = (b && (List.range (min m n)).all e) := by
  rw [show min (m + 1) (n + 1) = min m n + 1 by omega, List.range_succ_eq_map, List.all_cons, List.all_map]; rfl
section
variable {s : Shared} {α : List Addr}
mutual
theorem EqD.at : ∀ {n : Nat} {d e : D} {b : Bool}, EqD n d e b → ∀ {A : Around} {v u : Value}, A.units + n < cLine → Rv s.heap α v d → Rv s.heap α u e → EqAt A s v u b
  | _, _, _, _, .str, _, _, _, _, r, q => by obtain ⟨t, rfl⟩ := rv_str r; obtain ⟨t', rfl⟩ := rv_str q; exact .str_str _ _ _ _
  | _, _, _, _, .int, _, _, _, _, r, q => by obtain ⟨t, rfl⟩ := rv_int r; obtain ⟨t', rfl⟩ := rv_int q; exact .int_int _ _ _ _
  | _, _, _, _, .bool, _, _, _, _, r, q => by obtain rfl := rv_bool r; obtain rfl := rv_bool q; exact .bool_bool _ _
  | _, _, _, _, .bytes, _, _, _, _, r, q => by obtain ⟨t, rfl⟩ := rv_bytes r; obtain ⟨t', rfl⟩ := rv_bytes q; exact Mine.EqAt.bytes_bytes _ _ _ _
  | _, _, _, _, .bi, _, _, _, _, r, q => by obtain ⟨t, rfl⟩ := rv_bytes r; obtain ⟨t', rfl⟩ := rv_int q; exact Mine.EqAt.bytes_int _ _ _ _
  | _, _, _, _, .ib, _, _, _, _, r, q => by obtain ⟨t, rfl⟩ := rv_int r; obtain ⟨t', rfl⟩ := rv_bytes q; exact Mine.EqAt.int_bytes _ _ _ _
  | _, _, _, _, .tuple (ds := ds) (es := es) (b := b) x, A, _, _, hA, .tuple (a := a) (vs := vs) h1 n1 r, .tuple (a := a') (vs := us) h2 n2 q => by
    by_cases hne : a = a'
    · subst hne
      have := EqD.same (.tuple x) (.tuple h1 n1 r) (.tuple h2 n2 q)
      rw [this]; exact .same _
    · obtain ⟨e, he, hj⟩ := EqDs.at x (A := A.in1) (by show A.units + 1 + _ < _; omega) r q
      have := RcAt.tuples (s := s) (A := A) (e := e) h1 h2 (by omega) (fun j j1 j2 => hj j _ _ (by simp) (by simp))
      refine .of_refs hne ?_
      have e2 : ((List.range (min vs.toArray.size us.toArray.size)).all e && vs.toArray.size == us.toArray.size) = (b && ds.length == es.length) := by
        rw [List.size_toArray, List.size_toArray, r.length, q.length, he]
      rw [← e2]; exact this
  | _, _, _, _, .list (ds := ds) (es := es) hl x, A, _, _, hA, .list (a := a) (vs := vs) h1 n1 r, .list (a := a') (vs := us) h2 n2 q => by
    by_cases hne : a = a'
    · subst hne
      have := EqD.same (.list hl x) (.list h1 n1 r) (.list h2 n2 q)
      rw [this]; exact .same _
    · obtain ⟨e, he, hj⟩ := EqDs.at x (A := A.in1) (by show A.units + 1 + _ < _; omega) r q
      have := RcAt.lists (s := s) (A := A) (e := e) h1 h2 (by simp [r.length, q.length, hl]) (by omega) (fun j j1 j2 => hj j _ _ (by simp) (by simp))
      refine .of_refs hne ?_
      rw [← he, ← hl, Nat.min_self]
      simpa [r.length] using this
  | _, _, _, _, .listn hn, A, _, _, hA, .list (a := a) (vs := vs) h1 n1 r, .list (a := a') (vs := us) h2 n2 q => by
    by_cases hne : a = a'
    · subst hne
      have := EqD.same (.listn (n := 0) hn) (.list h1 n1 r) (.list h2 n2 q)
      rw [this]; exact .same _
    · exact .of_refs hne (.lists_lengths h1 h2 (by simp [r.length, q.length, hn]) (by omega))
theorem EqDs.at : ∀ {n : Nat} {ds es : List D} {b : Bool}, EqDs n ds es b → ∀ {A : Around} {vs us : List Value}, A.units + n < cLine → RvAll s.heap α vs ds → RvAll s.heap α us es →
    ∃ e : Nat → Bool, (List.range (min ds.length es.length)).all e = b ∧ ∀ j v u, vs[j]? = some v → us[j]? = some u → EqAt A s v u (e j)
  | _, _, _, _, .nil, _, _, _, _, .nil, _ => ⟨fun _ => true, by simp, fun j v u h => by simp at h⟩
  | _, _, _, _, .nilr, _, _, _, _, _, .nil => ⟨fun _ => true, by simp, fun j v u _ h => by simp at h⟩
  | _, _, _, _, .cons (b := b) x xs, _, _, _, hA, .cons r rs, .cons q qs => by
    obtain ⟨e, he, hj⟩ := EqDs.at xs hA rs qs
    refine ⟨fun j => match j with | 0 => b | j + 1 => e j, by rw [List.length_cons, List.length_cons, all_range_cons, he], fun j v u h1 h2 => ?_⟩
    cases j with
    | zero => simp at h1 h2; subst h1 h2; exact EqD.at x hA r q
    | succ j => exact hj j v u (by simpa using h1) (by simpa using h2)
end
end
section
variable {prog : Program} {w : World} {hb : Heap} {k n : Nat} {σ : List C} {ds es : List D} {b : Bool}
theorem BinV.eqt (x : EqDs n ds es b) (hn : n ≤ 100 := by decide) : BinV prog w hb k (compareOp .Eq) (.tuple ds) (.tuple es) σ (.bool (b && ds.length == es.length)) := fun A α s v u hA S r q => by
  have hu := hA.2.2
  cases r with
  | tuple h1 n1 r =>
    cases q with
    | tuple h2 n2 q =>
      obtain ⟨e, he, hj⟩ := EqDs.at x (A := A.in1) (by show A.units + 1 + _ < _; omega) r q
      have := RcAt.tuples (s := s) (A := A) (e := e) h1 h2 (by omega) (fun j j1 j2 => hj j _ _ (by simp) (by simp))
      rw [List.size_toArray, List.size_toArray, r.length, q.length, he] at this
      exact this prog w _ _ ⟨keeps_refl, .bool _⟩
theorem BinV.net (x : EqDs n ds es b) (hn : n ≤ 100 := by decide) : BinV prog w hb k (compareOp .NotEq) (.tuple ds) (.tuple es) σ (.bool (!(b && ds.length == es.length))) := fun A α s v u hA S r q => by
  have hu := hA.2.2
  cases r with
  | tuple h1 n1 r =>
    cases q with
    | tuple h2 n2 q =>
      obtain ⟨e, he, hj⟩ := EqDs.at x (A := A.in1) (by show A.units + 1 + _ < _; omega) r q
      have := RcNeAt.tuples (s := s) (A := A) (e := e) h1 h2 (by omega) (fun j j1 j2 => hj j _ _ (by simp) (by simp))
      rw [List.size_toArray, List.size_toArray, r.length, q.length, he] at this
      exact this prog w _ _ ⟨keeps_refl, .bool _⟩
theorem BinV.nel (x : EqDs n ds es b) (hn : n ≤ 100 := by decide) : BinV prog w hb k (compareOp .NotEq) (.list ds) (.list es) σ (.bool (!(b && ds.length == es.length))) := fun A α s v u hA S r q => by
  have hu := hA.2.2
  cases r with
  | list h1 n1 r =>
    cases q with
    | list h2 n2 q =>
      by_cases hl : ds.length = es.length
      · obtain ⟨e, he, hj⟩ := EqDs.at x (A := A.in1) (by show A.units + 1 + _ < _; omega) r q
        have := RcNeAt.lists (s := s) (A := A) (e := e) h1 h2 (by simp [r.length, q.length, hl]) (by omega) (fun j j1 j2 => hj j _ _ (by simp) (by simp))
        rw [← hl, Nat.min_self] at he
        rw [List.size_toArray, r.length, he] at this
        rw [show (ds.length == es.length) = true by simp [hl], Bool.and_true]
        exact this prog w _ _ ⟨keeps_refl, .bool _⟩
      · rw [show (ds.length == es.length) = false by simp [hl], Bool.and_false]
        exact RcNeAt.lists_lengths (s := s) (A := A) h1 h2 (by simp [r.length, q.length, hl]) (by omega) prog w _ _ ⟨keeps_refl, .bool _⟩
end
end Mine
open PySem PySem.W PyProof.Rows PySem.Calls PySem.Spec
set_option maxRecDepth 100000
set_option maxHeartbeats 8000000
namespace Mine
/-- the box of the law: the numbers of the script, and how many were asked for -/
abbrev bxC (ns : List Int) (i : Nat) : C := .list [.list (ns.map D.int), .int i]
abbrev bx (ns : List Int) (i : Nat) : List C := [bxC ns i]
/-- what the law takes -/
def tk (ns : List Int) (i m : Nat) : Nat := (if h : i < ns.length then ns[i].natAbs else 5 * (i + 1) + (i + 1) / 2) % m
theorem tk_lt (ns : List Int) (i : Nat) {m : Nat} (h : 0 < m) : tk ns i m < m := Nat.mod_lt _ h
section
variable {prog : Program} {w : World} {hb : Heap} {mg mb : Str → Option Value} {k n₀ : Nat} {σ σ₁ σ₂ : List C} {env : Env} {ρ : List (Str × D)}
theorem frz_bx {σ : List C} {n : Nat} {ns : List Int} {i : Nat} : FrzAll σ n [.list (ns.map D.int), .int i] [.list (ns.map D.int), .int i] :=
  .cons (.list (frz_map fun _ _ => .int _)) (.cons (.int _) .nil)
theorem RetI.bx {d₁ d : D} {ns : List Int} {i : Nat} {σ₂ : List C} (h : Frz (bx ns i ++ σ₂) 1 d₁ d) : RetI (.ret d₁ (bx ns i ++ σ₂)) 1 d (bx ns i) :=
  ⟨_, _, rfl, h, rfl, fun j c hj hn ds e => by
    obtain rfl : j = 0 := by omega
    simp at hj
    subst hj
    cases e
    exact frz_bx⟩
theorem f_law_take (B : Base hb mg mb) (T : Defs hb mg) (N : Bare mg) {ns : List Int} {i m : Nat} (hl : ns.length ≤ 1000) (hi : i ≤ 1000) (hm : 0 < m) : Fi prog w hb mg (k + 1) "_law_take" [.ref 0, .int m] (bx ns i) (.int (tk ns i m)) (bx ns (i + 1)) := by
  have hm' : (m : Int) ≠ 0 := by omega
  by_cases h : i < ns.length
  · have e : tk ns i m = ns[i].natAbs % m := by unfold tk; rw [dif_pos h]
    rw [e]
    refine Fi.intro (n := 19) T rfl B ["box", "many"] (fun pm code doc vs h => by match vs, h with | [a0, a1], _ => rfl) rfl (by decide +kernel) (fun n x hx => .inl (by revert x hx; decide +kernel)) (fun n p hp => nomatch (show p ∈ [] from hp)) rfl rfl rfl (fun a code L => ?_)
    dsimp only
    apply Exists.intro
    apply And.intro
    · apply ExT.cons
      · exact .setItem (.to (.bin (.sub (.name (.head _)) .int (.itemr rfl (by decide) (by decide) rfl)) .int .add) (d' := .int ((i + 1 : Nat) : Int)) rfl) (.name (.head _)) .int (.list rfl (by decide) (by decide) (by simp)) (Nat.le_refl _)
      apply SeqT.next
      apply ExT.cons
      · exact .ifT (.to (.cmp (.sub (.name (.head _)) .int (.itemr rfl (by decide) (by decide) rfl)) (.builtin B N.len (by kernel_rfl) (.cons (.sub (.name (.head _)) .int (.itemr rfl (by decide) (by decide) rfl)) .nil) (.lenl (by simp; omega))) .le) (by simp; omega))
          (.cons (.ret (.to (.bin (.builtin B N.abs (by kernel_rfl) (.cons (.sub (.sub (.name (.head _)) .int (.itemr rfl (by decide) (by decide) rfl)) (.bin (.sub (.name (.head _)) .int (.itemr rfl (by decide) (by decide) rfl)) .int .sub)
            (.iteml (d := .int ns[i]) (by omega) (by omega) (by
              rw [show (((i + 1 : Nat) : Int) - 1).toNat = i by omega]
              simp [h]))) .nil) .pabs) (.name (.tail _ (.head _))) (.mod hm')) (by
                rw [show (if ns[i] < 0 then -ns[i] else ns[i]) = ((ns[i].natAbs : Nat) : Int) by omega, fmod_nat]))) .ret)
      exact .ret
    · exact .bx (σ₂ := []) (.int _)
  · have e : tk ns i m = (5 * (i + 1) + (i + 1) / 2) % m := by unfold tk; rw [dif_neg h]
    rw [e]
    refine Fi.intro (n := 19) T rfl B ["box", "many"] (fun pm code doc vs h => by match vs, h with | [a0, a1], _ => rfl) rfl (by decide +kernel) (fun n x hx => .inl (by revert x hx; decide +kernel)) (fun n p hp => nomatch (show p ∈ [] from hp)) rfl rfl rfl (fun a code L => ?_)
    dsimp only
    apply Exists.intro
    apply And.intro
    · apply ExT.cons
      · exact .setItem (.to (.bin (.sub (.name (.head _)) .int (.itemr rfl (by decide) (by decide) rfl)) .int .add) (d' := .int ((i + 1 : Nat) : Int)) rfl) (.name (.head _)) .int (.list rfl (by decide) (by decide) (by simp)) (Nat.le_refl _)
      apply SeqT.next
      apply ExT.cons
      · exact .ifF (.to (.cmp (.sub (.name (.head _)) .int (.itemr rfl (by decide) (by decide) rfl)) (.builtin B N.len (by kernel_rfl) (.cons (.sub (.name (.head _)) .int (.itemr rfl (by decide) (by decide) rfl)) .nil) (.lenl (by simp; omega))) .le) (by simp; omega)) .nil
      apply SeqT.next
      apply ExT.cons
      · exact .ret (.to (.bin (.bin (.bin .int (.sub (.name (.head _)) .int (.itemr rfl (by decide) (by decide) rfl)) (.mul (.of_left (by decide))))
          (.bin (.sub (.name (.head _)) .int (.itemr rfl (by decide) (by decide) rfl)) .int (.fdiv (by decide) (by exact PyProof.noPylong_small (by decide)))) .add) (.name (.tail _ (.head _))) (.mod hm')) (by
            show D.int ((5 * ((i + 1 : Nat) : Int) + (((i + 1 : Nat) : Int)).fdiv ((2 : Nat) : Int)).fmod (m : Int)) = _
            rw [fdiv_nat, show 5 * ((i + 1 : Nat) : Int) + (((i + 1) / 2 : Nat) : Int) = ((5 * (i + 1) + (i + 1) / 2 : Nat) : Int) by omega, fmod_nat]))
      exact .ret
    · exact .bx (σ₂ := []) (.int _)
end
end Mine
open PySem PySem.W PyProof.Rows PySem.Calls PySem.Spec
set_option maxRecDepth 100000
set_option maxHeartbeats 8000000
namespace Mine
/-- the data of a frame of the law -/
def ldata (a n : Nat) : List UInt8 := (List.range n).map fun s => ((16 * a + s) % 256).toUInt8
def llen (ns : List Int) (i : Nat) : Nat := tk ns (i + 1) 10 + if tk ns (i + 2) 4 = 0 then 58 else 0
/-- the frame that the law makes -/
def lframe (ns : List Int) (i a : Nat) : Fm :=
  if tk ns i 5 = 0 then .ping else if tk ns i 5 = 1 then .maxData (30 * a + tk ns (i + 1) 10)
  else if tk ns i 5 = 2 then .crypto (35 * a) (ldata a (llen ns i))
  else if tk ns i 5 = 3 then .stream (4 * a) ((50 + 20 * a) * (tk ns (i + 3) 4 / 2)) (ldata a (llen ns i)) (tk ns (i + 3) 4 % 2 == 1)
  else .retire (40 * a)
theorem upTo_range (n : Nat) : (upTo 0 1 n).map D.int = (List.range n).map fun (s : Nat) => D.int s := by
  unfold upTo; rw [List.map_map]; exact List.map_congr_left fun i _ => by show D.int (0 + (i : Int) * 1) = _; congr 1; omega
theorem llen_lt (ns : List Int) (i : Nat) : llen ns i < 68 := by
  unfold llen
  have := tk_lt ns (i + 1) (m := 10) (by decide)
  split <;> omega
section
variable {prog : Program} {w : World} {hb : Heap} {mg mb : Str → Option Value} {k n₀ : Nat} {σ σ₁ σ₂ : List C} {env : Env} {ρ : List (Str × D)}
theorem ItT.to {e : Expr} {ds ds' : List D} (h : ItT prog w hb k n₀ env ρ e σ ds σ₁) (q : ds = ds') : ItT prog w hb k n₀ env ρ e σ ds' σ₁ := q ▸ h
theorem f_law_frame (B : Base hb mg mb) (T : Defs hb mg) (N : Bare mg) {ns : List Int} {i a : Nat} (hl : ns.length ≤ 1000) (hi : i ≤ 900) (ha : a ≤ 100) : Fi prog w hb mg (k + 2) "_law_frame" [.ref 0, .int a] (bx ns i) (lframe ns i a).toD (bx ns (i + 4)) := by
  refine Fi.intro (n := 20) T rfl B ["box", "at"] (fun pm code doc vs h => by match vs, h with | [a0, a1], _ => rfl) rfl (by decide +kernel)
    (fun n x hx => by
      cases hx with
      | head => exact .inl (by decide +kernel)
      | tail _ hx => cases hx with
        | head => exact .inr ⟨by decide +kernel, by rfl⟩
        | tail _ hx => exact nomatch hx)
    (fun n p hp => by
      obtain rfl : p = (("at" : Str), n) := List.mem_singleton.mp (show p ∈ [(("at" : Str), n)] from hp)
      rfl) rfl rfl rfl (fun ad code L => ?_)
  have hll := llen_lt ns i
  dsimp only
  refine ⟨.ret (lframe ns i a).toD (bx ns (i + 4)), ?_, .bx (σ₂ := []) (Fm.frz _)⟩
  · apply ExT.cons
    · exact .swp (names := ["form", "size"]) (.tuple (.cons (.fi B (f_law_take (k := k) (m := 5) B T N hl (by omega) (by decide)) (.cons (.name (.head _)) (.cons .int .nil))) (.cons (.fi B (f_law_take (k := k) (m := 10) B T N hl (by omega) (by decide)) (.cons (.name (.head _)) (.cons .int .nil))) .nil))) (.cons (.new (by repeat (first | exact App.nil | apply App.cons)) (by kernel_rfl)) (.cons (.new (by repeat (first | exact App.nil | apply App.cons)) (by kernel_rfl)) .nil))
    apply SeqT.next
    apply ExT.cons
    · exact .swp (names := ["longer", "bits"]) (.tuple (.cons (.fi B (f_law_take (k := k) (m := 4) B T N hl (by omega) (by decide)) (.cons (.name (.head _)) (.cons .int .nil))) (.cons (.fi B (f_law_take (k := k) (m := 4) B T N hl (by omega) (by decide)) (.cons (.name (.head _)) (.cons .int .nil))) .nil))) (.cons (.new (by repeat (first | exact App.nil | apply App.cons)) (by kernel_rfl)) (.cons (.new (by repeat (first | exact App.nil | apply App.cons)) (by kernel_rfl)) .nil))
    apply SeqT.next
    apply ExT.cons
    · refine .assign (σ₁ := bx ns (i + 4)) (d := .bytes (ldata a (llen ns i))) (.to (.type B N.bytes (by kernel_rfl) (.cons (.to (.comp (ρ₀ := [("at", .int a)]) (cl := [("at", L + 1)])
        (.to (.range1 (n := llen ns i) B N.range (.to (.bin (.name (.tail _ (.tail _ (.head _)))) (.bin .int (.type B N.int (by kernel_rfl) (.cons (.cmp (.name (.tail _ (.tail _ (.tail _ (.tail _ (.tail _ (.head _))))))) .int .eqi) .nil) .intb) (.mul (.of_left (by decide)))) .add) ?q1) ?q2) (upTo_range _)) ?q3
        (fun C => .mapAll (g := fun (s : Nat) => .int (((16 * a + s) % 256 : Nat) : Int)) (fun s _ σ => .to (.bin (.bin (.bin .int (.name (.head _)) (.mul (.of_left (by decide)))) (.name (.tail _ (.head _))) .add) .int (.mod (by decide))) (by
          show D.int ((16 * (a : Int) + (s : Int)).fmod ((256 : Nat) : Int)) = _
          rw [show 16 * (a : Int) + (s : Int) = ((16 * a + s : Nat) : Int) by omega, fmod_nat])))
        ?q4 (Nat.zero_le _) (fun τ n => frz_map fun _ _ => .int _)) ?q5) .nil) (.bytesl (ns := (List.range (llen ns i)).map fun s => (((16 * a + s) % 256 : Nat) : Int)) ?q6 ?q7)) ?q8) (.new (by repeat (first | exact App.nil | apply App.cons)) (by kernel_rfl))
      case q1 =>
        congr 1
        unfold llen
        by_cases h : tk ns (i + 2) 4 = 0
        · rw [if_pos h, if_pos (by rw [show i + 1 + 1 = i + 2 from rfl, h]; rfl)]; omega
        · rw [if_neg h, if_neg (by simpa using h)]; omega
      case q2 => omega
      case q3 =>
        refine ⟨by rfl, fun c hc => hc, by decide +kernel, rfl, by decide +kernel, rfl, fun y d hy => ?_, List.Pairwise.cons (fun _ h => nomatch h) .nil, by rfl⟩
        cases hy with
        | head => exact ⟨.tail _ (.head _), by rfl, by rfl, rfl⟩
        | tail _ hy => exact nomatch hy
      case q4 => rw [List.length_map, List.length_range, sizeLine_eq]; omega
      case q5 => rw [List.map_map]; rfl
      case q6 => intro n hn; obtain ⟨s, _, rfl⟩ := List.mem_map.mp hn; omega
      case q7 => rw [List.length_map, List.length_range]; omega
      case q8 => rw [List.map_map]; rfl
    by_cases h0 : tk ns i 5 = 0
    · skip
      apply SeqT.next
      apply ExT.cons
      · exact .ifT (.to (.cmp (.name (.tail _ (.tail _ (.tail _ (.head _))))) .int .eqi) (by rw [h0]; rfl)) (.cons (.ret (.to (.tuple (.cons .str .nil)) (d' := (lframe ns i a).toD) (by unfold lframe; rw [if_pos h0]; rfl))) .ret)
      exact .ret
    apply SeqT.next
    apply ExT.cons
    · exact .ifF (.to (.cmp (.name (.tail _ (.tail _ (.tail _ (.head _))))) .int .eqi) (by simpa using h0)) .nil
    by_cases h1 : tk ns i 5 = 1
    · skip
      apply SeqT.next
      apply ExT.cons
      · exact .ifT (.to (.cmp (.name (.tail _ (.tail _ (.tail _ (.head _))))) .int .eqi) (by rw [h1]; rfl)) (.cons (.ret (.to (.tuple (.cons .str (.cons (.bin (.bin .int (.name (.tail _ (.head _))) (.mul (.of_left (by decide)))) (.name (.tail _ (.tail _ (.head _)))) .add) .nil))) (d' := (lframe ns i a).toD) (by unfold lframe; rw [if_neg h0, if_pos h1]; rfl))) .ret)
      exact .ret
    apply SeqT.next
    apply ExT.cons
    · exact .ifF (.to (.cmp (.name (.tail _ (.tail _ (.tail _ (.head _))))) .int .eqi) (by simpa using fun h : (tk ns i 5 : Int) = 1 => h1 (by omega))) .nil
    by_cases h2 : tk ns i 5 = 2
    · skip
      apply SeqT.next
      apply ExT.cons
      · exact .ifT (.to (.cmp (.name (.tail _ (.tail _ (.tail _ (.head _))))) .int .eqi) (by rw [h2]; rfl)) (.cons (.ret (.to (.tuple (.cons .str (.cons (.bin .int (.name (.tail _ (.head _))) (.mul (.of_left (by decide)))) (.cons (.name (.tail _ (.tail _ (.tail _ (.tail _ (.tail _ (.tail _ (.head _)))))))) .nil)))) (d' := (lframe ns i a).toD) (by unfold lframe; rw [if_neg h0, if_neg h1, if_pos h2]; rfl))) .ret)
      exact .ret
    apply SeqT.next
    apply ExT.cons
    · exact .ifF (.to (.cmp (.name (.tail _ (.tail _ (.tail _ (.head _))))) .int .eqi) (by simpa using fun h : (tk ns i 5 : Int) = 2 => h2 (by omega))) .nil
    by_cases h3 : tk ns i 5 = 3
    · have hb2 : tk ns (i + 3) 4 / 2 = 0 ∨ tk ns (i + 3) 4 / 2 = 1 := by have := tk_lt ns (i + 3) (m := 4) (by decide); omega
      apply SeqT.next
      apply ExT.cons
      · exact .ifT (.to (.cmp (.name (.tail _ (.tail _ (.tail _ (.head _))))) .int .eqi) (by rw [h3]; rfl)) (.cons (.ret (.to (.tuple (.cons .str (.cons (.bin .int (.name (.tail _ (.head _))) (.mul (.of_left (by decide)))) (.cons (.bin (.bin .int (.bin .int (.name (.tail _ (.head _))) (.mul (.of_left (by decide)))) .add) (.to (.bin (.name (.tail _ (.tail _ (.tail _ (.tail _ (.head _)))))) .int (.fdiv (by decide) (by exact PyProof.noPylong_small (by decide)))) (d' := .int ((tk ns (i + 3) 4 / 2 : Nat) : Int)) (by exact congrArg D.int (fdiv_nat _ 2))) (.mul (.of_right (by rcases hb2 with h | h <;> rw [h] <;> decide))))
          (.cons (.name (.tail _ (.tail _ (.tail _ (.tail _ (.tail _ (.tail _ (.head _)))))))) (.cons (.cmp (.to (.bin (.name (.tail _ (.tail _ (.tail _ (.tail _ (.head _)))))) .int (.mod (by decide))) (d' := .int ((tk ns (i + 3) 4 % 2 : Nat) : Int)) (by exact congrArg D.int (fmod_nat _ 2))) .int .eqi) .nil)))))) (d' := (lframe ns i a).toD) (by
            unfold lframe; rw [if_neg h0, if_neg h1, if_neg h2, if_pos h3]
            show D.tuple [_, _, _, _, .bool _] = D.tuple [_, _, _, _, .bool _]
            rw [show ((((tk ns (i + 3) 4 % 2 : Nat) : Int)) == 1) = (tk ns (i + 3) 4 % 2 == 1) by rw [Bool.eq_iff_iff]; simp; omega]
            rfl))) .ret)
      exact .ret
    apply SeqT.next
    apply ExT.cons
    · exact .ifF (.to (.cmp (.name (.tail _ (.tail _ (.tail _ (.head _))))) .int .eqi) (by simpa using fun h : (tk ns i 5 : Int) = 3 => h3 (by omega))) .nil
    apply SeqT.next
    apply ExT.cons
    · exact .ret (.to (.tuple (.cons .str (.cons (.bin .int (.name (.tail _ (.head _))) (.mul (.of_left (by decide)))) .nil))) (d' := (lframe ns i a).toD) (by unfold lframe; rw [if_neg h0, if_neg h1, if_neg h2, if_neg h3]; rfl))
    exact .ret
end
end Mine
open PySem PySem.W PyProof.Rows PySem.Calls PySem.Spec
set_option maxRecDepth 100000
set_option maxHeartbeats 8000000
namespace Mine
theorem size_ping : Fm.ping.size = 1 := by decide
theorem size_maxData {n : Nat} : (Fm.maxData n).size = 1 + vsize n := by
  unfold Fm.size Fm.enc Fm.nums; simp [venc_length]; decide
theorem size_retire {n : Nat} : (Fm.retire n).size = 1 + vsize n := by
  unfold Fm.size Fm.enc Fm.nums; simp [venc_length]; decide
theorem size_crypto {o : Nat} {d : List UInt8} : (Fm.crypto o d).size = 1 + vsize o + vsize d.length + d.length := by
  have : vsize 6 = 1 := by decide
  unfold Fm.size Fm.enc Fm.nums Fm.counted; simp [venc_length, this]; omega
theorem size_stream {i o : Nat} {d : List UInt8} {f : Bool} : (Fm.stream i o d f).size = 1 + vsize i + (if o > 0 then vsize o else 0) + vsize d.length + d.length := by
  have : vsize (Fm.told o f) = 1 := by
    unfold vsize; rw [if_pos]; unfold Fm.told; split <;> split <;> omega
  show ((Fm.nums ([Fm.told o f, i] ++ if o > 0 then [o] else [])) ++ Fm.counted d).length = _
  unfold Fm.nums Fm.counted
  by_cases h : o > 0
  · rw [if_pos h, if_pos h]; simp [venc_length, this]; omega
  · rw [if_neg h, if_neg h]; simp [venc_length, this]; omega
section
variable {prog : Program} {w : World} {hb : Heap} {mg mb : Str → Option Value} {k n₀ : Nat} {σ σ₁ σ₂ : List C} {env : Env} {ρ : List (Str × D)}
theorem f_law_width (B : Base hb mg mb) (T : Defs hb mg) {n : Nat} (hn : n < 16384) : Fn prog w hb mg (k + 1) "_law_width" [.int n] σ (.int (vsize n)) := by
  refine Fn.intro (n := 21) T rfl B ["number"] (fun pm code doc vs h => by match vs, h with | [a0], _ => rfl) rfl (by decide +kernel) (fun n x hx => .inl (by revert x hx; decide +kernel)) (fun n p hp => nomatch (show p ∈ [] from hp)) rfl rfl rfl (fun a code L => ?_)
  dsimp only
  apply Exists.intro
  apply And.intro
  · apply ExT.cons
    · exact .ret (.ifexp (d := .int (vsize n)) (.cmp (.name (.head _)) .int .lt) (fun h => .to .int (by unfold vsize; rw [if_pos (by simp at h; omega)]; rfl)) (fun h => .to .int (by unfold vsize; rw [if_neg (by simp at h; omega)]; rfl)))
    exact .ret
  · exact .mk (σ₁ := σ) (.int _)
theorem f_law_size (B : Base hb mg mb) (T : Defs hb mg) (N : Bare mg) {f : Fm} (hs : f.small) : Fn prog w hb mg (k + 2) "_law_size" [f.toD] σ (.int f.size) := by
  refine Fn.intro (n := 22) T rfl B ["frame"] (fun pm code doc vs h => by match vs, h with | [a0], _ => rfl) rfl (by decide +kernel) (fun n x hx => .inl (by revert x hx; decide +kernel)) (fun n p hp => nomatch (show p ∈ [] from hp)) rfl rfl rfl (fun a code L => ?_)
  dsimp only
  apply Exists.intro
  apply And.intro
  rotate_left
  · exact .mk (σ₁ := σ) (.int _)
  cases f with
  | ping =>
    apply ExT.cons
    · exact .ifT (.to (.cmp (.it (.name (.head _)) (c := 0) (by rfl)) .str .eqs) (by decide +kernel)) (.cons (.ret (.to (d' := .int ((Fm.ping.size : Nat) : Int)) .int (by rw [size_ping]; rfl))) .ret)
    exact .ret
  | maxData n =>
    apply ExT.cons
    · exact .ifF (.to (.cmp (.it (.name (.head _)) (c := 0) (by rfl)) .str .eqs) (by decide +kernel)) .nil
    apply SeqT.next
    apply ExT.cons
    · exact .ifF (.to (.cmp (.it (.name (.head _)) (c := 0) (by rfl)) .str .eqs) (by decide +kernel)) .nil
    apply SeqT.next
    apply ExT.cons
    · exact .ifF (.to (.cmp (.it (.name (.head _)) (c := 0) (by rfl)) .str .eqs) (by decide +kernel)) .nil
    apply SeqT.next
    apply ExT.cons
    · exact .ret (.to (d' := .int (((Fm.maxData n).size : Nat) : Int)) (.bin .int (.fn B (f_law_width (k := k) B T hs) (.cons (.it (.name (.head _)) (c := 1) (by rfl)) .nil)) .add) (by rw [size_maxData]; congr 1))
    exact .ret
  | retire n =>
    apply ExT.cons
    · exact .ifF (.to (.cmp (.it (.name (.head _)) (c := 0) (by rfl)) .str .eqs) (by decide +kernel)) .nil
    apply SeqT.next
    apply ExT.cons
    · exact .ifF (.to (.cmp (.it (.name (.head _)) (c := 0) (by rfl)) .str .eqs) (by decide +kernel)) .nil
    apply SeqT.next
    apply ExT.cons
    · exact .ifF (.to (.cmp (.it (.name (.head _)) (c := 0) (by rfl)) .str .eqs) (by decide +kernel)) .nil
    apply SeqT.next
    apply ExT.cons
    · exact .ret (.to (d' := .int (((Fm.retire n).size : Nat) : Int)) (.bin .int (.fn B (f_law_width (k := k) B T hs) (.cons (.it (.name (.head _)) (c := 1) (by rfl)) .nil)) .add) (by rw [size_retire]; congr 1))
    exact .ret
  | crypto o d =>
    obtain ⟨h1, h2⟩ := hs
    apply ExT.cons
    · exact .ifF (.to (.cmp (.it (.name (.head _)) (c := 0) (by rfl)) .str .eqs) (by decide +kernel)) .nil
    apply SeqT.next
    apply ExT.cons
    · exact .ifT (.to (.cmp (.it (.name (.head _)) (c := 0) (by rfl)) .str .eqs) (by decide +kernel)) (.cons (.ret (.to (d' := .int (((Fm.crypto o d).size : Nat) : Int))
        (.bin (.bin (.bin .int (.fn B (f_law_width (k := k) B T h1) (.cons (.it (.name (.head _)) (c := 1) (by rfl)) .nil)) .add)
          (.fn B (f_law_width (k := k) B T h2) (.cons (.builtin B N.len (by kernel_rfl) (.cons (.it (.name (.head _)) (c := 2) (by rfl)) .nil) (.lenb (by omega))) .nil)) .add)
          (.builtin B N.len (by kernel_rfl) (.cons (.it (.name (.head _)) (c := 2) (by rfl)) .nil) (.lenb (by omega))) .add) (by rw [size_crypto]; congr 1))) .ret)
    exact .ret
  | stream i o d f =>
    obtain ⟨h0, h1, h2⟩ := hs
    apply ExT.cons
    · exact .ifF (.to (.cmp (.it (.name (.head _)) (c := 0) (by rfl)) .str .eqs) (by decide +kernel)) .nil
    apply SeqT.next
    apply ExT.cons
    · exact .ifF (.to (.cmp (.it (.name (.head _)) (c := 0) (by rfl)) .str .eqs) (by decide +kernel)) .nil
    apply SeqT.next
    apply ExT.cons
    · exact .ifT (.to (.cmp (.it (.name (.head _)) (c := 0) (by rfl)) .str .eqs) (by decide +kernel)) (.cons (.assign (.ifexp (d := .int ((if o > 0 then vsize o else 0 : Nat) : Int)) (.cmp (.it (.name (.head _)) (c := 2) (by rfl)) .int .gt)
        (fun h => .to (.fn B (f_law_width (k := k) B T h1) (.cons (.it (.name (.head _)) (c := 2) (by rfl)) .nil)) (by rw [if_pos (by simpa using h)])) (fun h => .to .int (by rw [if_neg (by simpa using h)]; rfl))) (.new (by repeat (first | exact App.nil | apply App.cons)) (by kernel_rfl))) (.next (.cons (.ret (.to (d' := .int (((Fm.stream i o d f).size : Nat) : Int))
        (.bin (.bin (.bin (.bin .int (.fn B (f_law_width (k := k) B T h0) (.cons (.it (.name (.head _)) (c := 1) (by rfl)) .nil)) .add) (.name (.tail _ (.head _))) .add)
          (.fn B (f_law_width (k := k) B T h2) (.cons (.builtin B N.len (by kernel_rfl) (.cons (.it (.name (.head _)) (c := 3) (by rfl)) .nil) (.lenb (by omega))) .nil)) .add)
          (.builtin B N.len (by kernel_rfl) (.cons (.it (.name (.head _)) (c := 3) (by rfl)) .nil) (.lenb (by omega))) .add) (by rw [size_stream]; congr 1))) .ret)))
    exact .ret
end
end Mine
open PySem PySem.W PyProof.Rows PySem.Calls PySem.Spec
set_option maxRecDepth 100000
namespace Mine
theorem EqDs.diff {n : Nat} {a b : Str} {ds es : List D} (h : ∃ c, EqDs n ds es c) (hab : (a == b) = false) : EqDs n (.str a :: ds) (.str b :: es) false := by
  obtain ⟨c, h⟩ := h
  have := EqDs.cons (EqD.str (n := n) (a := a) (b := b)) h
  rw [hab] at this; simpa using this
theorem EqDs.to {n : Nat} {ds es : List D} {b c : Bool} (h : EqDs n ds es b) (e : b = c) : EqDs n ds es c := e ▸ h
theorem EqD.to {n : Nat} {d e : D} {b c : Bool} (h : EqD n d e b) (q : b = c) : EqD n d e c := q ▸ h
/-- the items of a frame -/
def Fm.items (f : Fm) : List D := .str f.kind :: f.rest
theorem Fm.toD_items (f : Fm) : f.toD = .tuple f.items := f.toD_eq
def Fm.ix : Fm → Nat
  | .ping => 0
  | .maxData _ => 1
  | .crypto .. => 2
  | .stream .. => 3
  | .retire _ => 4
theorem kind_ix (f g : Fm) (h : f.ix ≠ g.ix) : (f.kind == g.kind) = false := by
  cases f <;> cases g <;> first | exact absurd rfl h | kernel_rfl
theorem eqFm_diff {f g : Fm} {b : Bool} (h : EqDs 0 f.items g.items b) (hb : b = false) (hne : f ≠ g) : ∃ b, EqDs 0 f.items g.items b ∧ (b && f.items.length == g.items.length) = decide (f = g) :=
  ⟨b, h, by subst hb; rw [decide_eq_false hne]; rfl⟩
/-- two frames, item by item -/
theorem eqFm (f g : Fm) : ∃ b, EqDs 0 f.items g.items b ∧ (b && f.items.length == g.items.length) = decide (f = g) := by
  by_cases hx : f.ix = g.ix
  rotate_left
  · cases f <;> cases g <;>
      first
      | exact absurd rfl hx
      | exact eqFm_diff (.diff (by first | exact ⟨_, .nil⟩ | exact ⟨_, .nilr⟩ | exact ⟨_, .cons .int .nil⟩ | exact ⟨_, .cons .int .nilr⟩ | exact ⟨_, .cons .int (.cons .bi .nil)⟩ | exact ⟨_, .cons .int (.cons .ib .nilr)⟩) (kind_ix _ _ hx)) rfl (fun e => hx (congrArg Fm.ix e))
  cases f <;> cases g <;> first | (dsimp only [Fm.ix] at hx; cases hx; done) | skip
  · exact ⟨_, .cons .str .nil, by decide +kernel⟩
  · refine ⟨_, .cons .str (.cons .int .nil), ?_⟩
    rw [Bool.eq_iff_iff]; simp [Fm.items, Fm.kind, Fm.rest, Int.ofNat_inj]; try omega
  · refine ⟨_, .cons .str (.cons .int (.cons .bytes .nil)), ?_⟩
    rw [Bool.eq_iff_iff]; simp [Fm.items, Fm.kind, Fm.rest, Int.ofNat_inj]; try omega
  · refine ⟨_, .cons .str (.cons .int (.cons .int (.cons .bytes (.cons .bool .nil)))), ?_⟩
    rw [Bool.eq_iff_iff]; simp [Fm.items, Fm.kind, Fm.rest, Int.ofNat_inj]; try omega
  · refine ⟨_, .cons .str (.cons .int .nil), ?_⟩
    rw [Bool.eq_iff_iff]; simp [Fm.items, Fm.kind, Fm.rest, Int.ofNat_inj]; try omega
theorem eqFm_self (f : Fm) : EqD 1 f.toD f.toD true := by
  obtain ⟨b, h, e⟩ := eqFm f f
  rw [f.toD_items]
  exact (EqD.tuple h).to (by rw [e]; simp)
theorem eqFms_self : ∀ (fs : List Fm), EqDs 1 (fs.map Fm.toD) (fs.map Fm.toD) true
  | [] => .nil
  | f :: fs => .to (.cons (eqFm_self f) (eqFms_self fs)) rfl
theorem eqFmD {fs gs : List Fm} (e : fs = gs) : EqD 2 (fmD fs) (fmD gs) true := by subst e; exact .list rfl (eqFms_self fs)
section
variable {prog : Program} {w : World} {hb : Heap} {k n : Nat} {σ : List C} {ds es : List D} {b : Bool}
theorem BinV.eqf {f g : Fm} : BinV prog w hb k (compareOp .Eq) f.toD g.toD σ (.bool (decide (f = g))) := by
  obtain ⟨b, h, e⟩ := eqFm f g
  rw [f.toD_items, g.toD_items, ← e]
  exact .eqt h
end
end Mine
open PySem PySem.W PyProof.Rows PySem.Calls PySem.Spec
set_option maxRecDepth 100000
namespace Mine
section
variable {prog : Program} {w : World} {A : Around} {E : Value → Shared → Prop} {s : Shared} {env : Env}
/-- a slice of what is no name -/
theorem SubscriptSliceT {value : Expr} {lower upper : Option Expr} {p pos : Pos} {T id : String} {Q : Value → Shared → Prop} (hl : typeLookup (.type T) "__getitem__" = pure (some (.builtin id)))
    (h : wpR (model prog w) A (eval value env) (fun o s₁ => wpR (model prog w) A (eval (.Slice lower upper none p) env) (fun i s₂ => s₂.TypeIs o T ∧ wpR (model prog w) A (getItem o i) Q E s₂) E s₁) E s) :
    wpR (model prog w) A (eval (.Subscript value (.Slice lower upper none p) pos) env) Q E s := by
  rw [eval_Subscript]
  refine wpR_bind (wpR_mono h (fun o s₁ h₁ => wpR_bind (wpR_holding (wpR_mono h₁ (fun i s₂ h₂ => wpR_bind (wpR_standAt ?_)) fun _ _ x => x))) fun _ _ x => x)
  have fin : wpR (model prog w) A (operate [i, o] (getItem o i)) (fun r s₃ => wpR (model prog w) A (letTemporaryGo value o r >>= fun _ => pure r) Q E s₃) E s₂ :=
    wpR_operate (wpR_mono h₂.2 (fun r s₃ h₃ => wpR_bind (wpR.of (wpAny_letTemporaryGo (wpR_pure h₃)))) fun _ _ x => x)
  refine wpR_bind ?_
  rw [getitemInPython_of_ne h₂.1.not_modules]
  refine wpR_bind (wpR.of (wpAny_specialOf h₂.1 hl ?_))
  first
    | exact wpR_pure (wpR_bind fin)
    | exact wpR_bind (wpR_pure (wpR_bind fin))
    | exact wpR_bind fin
end
section
variable {prog : Program} {w : World} {hb : Heap} {mg mb : Str → Option Value} {k n₀ : Nat} {env : Env} {ρ : List (Str × D)} {σ σ₁ σ₂ σ₃ : List C}
theorem EvT.sliceT {value : Expr} {lower upper : Option Expr} {sp pos : Pos} {T id : String} {d d' : D} {lo hi : Option Int} (h : EvT prog w hb k n₀ env ρ value σ d σ₁) (hl : PartT prog w hb k n₀ env ρ lower σ₁ lo σ₂) (hu : PartT prog w hb k n₀ env ρ upper σ₂ hi σ₃)
    (hc : CutV prog w hb k T d lo hi σ₃ d') (ht : typeLookup (.type T) "__getitem__" = pure (Option.some (.builtin id))) :
    EvT prog w hb k n₀ env ρ (.Subscript value (.Slice lower upper Option.none sp) pos) σ d' σ₃ := fun A α s hA S L => by
  refine SubscriptSliceT ht (wpR_mono (h A α s hA S L) (fun v s₁ q => ?_) fun _ _ f => f)
  obtain ⟨α₁, x₁, r⟩ := q
  have L₁ := L.step x₁
  refine SliceR (wpR_mono (hl A α₁ s₁ hA x₁.st L₁) (fun vl s₂ q => ?_) fun _ _ f => f)
  obtain ⟨α₂, x₂, pl⟩ := q
  have L₂ := L₁.step x₂
  refine wpR_mono (hu A α₂ s₂ hA x₂.st L₂) (fun vu s₃ q => ?_) fun _ _ f => f
  obtain ⟨α₃, x₃, pu⟩ := q
  rw [evalPart_none]
  refine wpR_pure ?_
  obtain ⟨hT, hw⟩ := hc A α₃ s₃ v vl vu hA x₃.st ((x₂.trans x₃).rv0 r) pl pu
  refine ⟨hT, wpR_mono (.of hw) (fun v' s₄ q => ?_) fun _ _ f => f⟩
  exact ⟨α₃, ((x₁.trans x₂).trans x₃).trans (q.1.step x₃.st), q.2⟩
theorem EvT.bfromT {value e : Expr} {sp pos : Pos} {b : List UInt8} {m : Nat} (h : EvT prog w hb k n₀ env ρ value σ (.bytes b) σ₁) (hl : EvT prog w hb k n₀ env ρ e σ₁ (.int m) σ₂) (hsz : b.length ≤ 16777216) :
    EvT prog w hb k n₀ env ρ (.Subscript value (.Slice (Option.some e) Option.none Option.none sp) pos) σ (.bytes (b.drop m)) σ₂ :=
  .to (.sliceT h (.some hl) .none (.bytes hsz) FB.slot_bytes_getitem.lookup) (by rw [cutOf_from _ (by omega)]; rfl)
end
end Mine
open PySem PySem.W PyProof.Rows PySem.Calls PySem.Spec
set_option maxRecDepth 100000
set_option maxHeartbeats 8000000
namespace Mine
/-- part and rest are the halves of a frame -/
def isCut : Fm → Fm → Fm → Bool
  | .crypto o d, .crypto o1 d1, .crypto o2 d2 => !decide (d1 = []) && !decide (d2 = []) && decide (o1 = o) && (decide (o2 = o + d1.length) && decide (d2 = d.drop d1.length))
  | .stream i o d f, .stream i1 o1 d1 f1, .stream i2 o2 d2 f2 => !decide (d1 = []) && !decide (d2 = []) && (decide (i1 = i) && decide (o1 = o)) && !f1 && decide (d.take d1.length = d1) &&
      (decide (i2 = i) && (decide (o2 = o + d1.length) && (decide (d2 = d.drop d1.length) && decide (f2 = f))))
  | _, _, _ => false
namespace Fm
theorem items3 (p : Fm) : p.items.length = 3 → ∃ o d, p = .crypto o d := by
  cases p with
  | crypto o d => exact fun _ => ⟨o, d, rfl⟩
  | _ => intro h; simp [items, rest] at h
theorem items5 (p : Fm) : p.items.length = 5 → ∃ i o d f, p = .stream i o d f := by
  cases p with
  | stream i o d f => exact fun _ => ⟨i, o, d, f, rfl⟩
  | _ => intro h; simp [items, rest] at h
theorem items_le (p : Fm) : p.items.length ≤ 5 := by cases p <;> simp [items, rest]
end Fm
theorem type_startswith : typeOf (.builtin "bytes.startswith") = pure (.type "method_descriptor") := by show builtinType _ = _; rw [builtinType_eq_fast]; kernel_rfl
theorem cast_dec {a b : Nat} : ((a : Int) == (b : Int)) = decide (a = b) := by rw [Bool.eq_iff_iff]; simp [Int.ofNat_inj]
theorem beqB {a b : List UInt8} : (a == b) = decide (a = b) := by rw [Bool.eq_iff_iff]; simp
theorem isCut_c1 {o : Nat} {d : List UInt8} {p r : Fm} (h : p.items.length ≠ 3 ∨ r.items.length ≠ 3) : isCut (.crypto o d) p r = false := by
  cases p <;> try rfl
  cases r <;> try rfl
  exact h.elim (fun h => absurd rfl h) fun h => absurd rfl h
theorem isCut_s1 {i o : Nat} {d : List UInt8} {f : Bool} {p r : Fm} (h : p.items.length ≠ 5 ∨ r.items.length ≠ 5) : isCut (.stream i o d f) p r = false := by
  cases p <;> try rfl
  cases r <;> try rfl
  exact h.elim (fun h => absurd rfl h) fun h => absurd rfl h
section
variable {prog : Program} {w : World} {hb : Heap} {mg mb : Str → Option Value} {k n₀ : Nat} {σ σ₁ σ₂ : List C} {env : Env} {ρ : List (Str × D)}
theorem EvT.starts {o e : Expr} {pa pos : Pos} {pl : Sem Bool} {p q : List UInt8} (h₀ : EvT prog w hb k n₀ env ρ o σ (.bytes p) σ₁) (h : EvT prog w hb k n₀ env ρ e σ₁ (.bytes q) σ₂)
    (he : starEach [e] env = (false, eval e env) :: starEach [] env := by rfl) (hp : ((backTo pos (starEach [] env)).any fun x => x.1) = false := by rfl)
    (hcall : MethForm env o "startswith" pa pos [e] pl := by rfl) : EvT prog w hb k n₀ env ρ (.Call (.Attribute o "startswith" pa) [e] [] pos) σ (.bool (p.take q.length == q)) σ₂ :=
  .meth h₀ (fun s α v r => by obtain ⟨t, rfl⟩ := rv_bytes r; exact ⟨typeIs_bytes _ _ _, fun a h => nomatch h⟩) FB.plainAttrs_bytes FB.slot_bytes_startswith type_startswith (.cons h .nil he) .startswith he hp hcall
theorem f_law_is_cut (B : Base hb mg mb) (T : Defs hb mg) (N : Bare mg) {f p r : Fm} (hf : f.small) (hp : p.small) (hr : r.small) : Fn prog w hb mg (k + 1) "_law_is_cut" [f.toD, p.toD, r.toD] σ (.bool (isCut f p r)) := by
  have lp := p.items_le
  have lr := r.items_le
  refine Fn.intro (n := 23) T rfl B ["frame", "part", "rest"] (fun pm code doc vs h => by match vs, h with | [a0, a1, a2], _ => rfl) rfl (by decide +kernel) (fun n x hx => .inl (by revert x hx; decide +kernel)) (fun n p hp => nomatch (show p ∈ [] from hp)) rfl rfl rfl (fun a code L => ?_)
  dsimp only
  apply Exists.intro
  apply And.intro
  rotate_left
  · exact .mk (σ₁ := σ) (.bool _)
  cases f with
  | crypto o d =>
    obtain ⟨ho, hd⟩ := hf
    by_cases h1 : p.items.length = 3
    rotate_left
    · apply ExT.cons
      · exact .ifT (.to (.cmp (.it (.name (.head _)) (c := 0) (by rfl)) .str .eqs) (by decide +kernel)) (.cons (.ifT (.or_t (.to (.cmp (.builtin B N.len (by kernel_rfl) (.cons (.to (.name (.tail _ (.head _))) p.toD_items) .nil) (.lent (by omega))) .int .nei) (by simpa using fun h => h1 (by omega))))
          (.cons (.ret (.to .bool (d' := .bool (isCut (.crypto o d) p r)) (by rw [isCut_c1 (.inl h1)]))) .ret)) .ret)
      exact .ret
    by_cases h2 : r.items.length = 3
    rotate_left
    · apply ExT.cons
      · exact .ifT (.to (.cmp (.it (.name (.head _)) (c := 0) (by rfl)) .str .eqs) (by decide +kernel)) (.cons (.ifT (.or_f (.to (.cmp (.builtin B N.len (by kernel_rfl) (.cons (.to (.name (.tail _ (.head _))) p.toD_items) .nil) (.lent (by omega))) .int .nei) (by rw [h1]; rfl))
          (.or_t (.to (.cmp (.builtin B N.len (by kernel_rfl) (.cons (.to (.name (.tail _ (.tail _ (.head _)))) r.toD_items) .nil) (.lent (by omega))) .int .nei) (by simpa using fun h => h2 (by omega)))))
          (.cons (.ret (.to .bool (d' := .bool (isCut (.crypto o d) p r)) (by rw [isCut_c1 (.inr h2)]))) .ret)) .ret)
      exact .ret
    obtain ⟨o1, d1, rfl⟩ := p.items3 h1
    obtain ⟨o2, d2, rfl⟩ := r.items3 h2
    obtain ⟨_, hd1⟩ := hp
    by_cases h3 : d1 = []
    · subst h3
      apply ExT.cons
      · exact .ifT (.to (.cmp (.it (.name (.head _)) (c := 0) (by rfl)) .str .eqs) (by decide +kernel)) (.cons (.ifT (.or_f (.to (.cmp (.builtin B N.len (by kernel_rfl) (.cons (.name (.tail _ (.head _))) .nil) (.lent (by simp))) .int .nei) (by rfl))
          (.or_f (.to (.cmp (.builtin B N.len (by kernel_rfl) (.cons (.name (.tail _ (.tail _ (.head _)))) .nil) (.lent (by simp))) .int .nei) (by rfl))
          (.or_t (.to (.cmp (.it (.name (.tail _ (.head _))) (c := 2) (by rfl)) .bytes .eqb) (by rfl)))))
          (.cons (.ret (.to .bool (d' := .bool (isCut (.crypto o d) (.crypto o1 []) (.crypto o2 d2))) (by rfl))) .ret)) .ret)
      exact .ret
    have h3' : (d1 == []) = false := beq_eq_false_iff_ne.mpr h3
    by_cases h4 : d2 = []
    · subst h4
      apply ExT.cons
      · exact .ifT (.to (.cmp (.it (.name (.head _)) (c := 0) (by rfl)) .str .eqs) (by decide +kernel)) (.cons (.ifT (.or_f (.to (.cmp (.builtin B N.len (by kernel_rfl) (.cons (.name (.tail _ (.head _))) .nil) (.lent (by simp))) .int .nei) (by rfl))
          (.or_f (.to (.cmp (.builtin B N.len (by kernel_rfl) (.cons (.name (.tail _ (.tail _ (.head _)))) .nil) (.lent (by simp))) .int .nei) (by rfl))
          (.or_f (.to (.cmp (.it (.name (.tail _ (.head _))) (c := 2) (by rfl)) .bytes .eqb) h3') (.or_t (.to (.cmp (.it (.name (.tail _ (.tail _ (.head _)))) (c := 2) (by rfl)) .bytes .eqb) (by rfl))))))
          (.cons (.ret (.to .bool (d' := .bool (isCut (.crypto o d) (.crypto o1 d1) (.crypto o2 []))) (by simp [isCut]))) .ret)) .ret)
      exact .ret
    have h4' : (d2 == []) = false := beq_eq_false_iff_ne.mpr h4
    apply ExT.cons
    · refine .ifT (.to (.cmp (.it (.name (.head _)) (c := 0) (by rfl)) .str .eqs) (by decide +kernel)) (.cons (.ifF (.or_f (.to (.cmp (.builtin B N.len (by kernel_rfl) (.cons (.name (.tail _ (.head _))) .nil) (.lent (by simp))) .int .nei) (by rfl))
          (.or_f (.to (.cmp (.builtin B N.len (by kernel_rfl) (.cons (.name (.tail _ (.tail _ (.head _)))) .nil) (.lent (by simp))) .int .nei) (by rfl))
          (.or_f (.to (.cmp (.it (.name (.tail _ (.head _))) (c := 2) (by rfl)) .bytes .eqb) h3') (.or_f (.to (.cmp (.it (.name (.tail _ (.tail _ (.head _)))) (c := 2) (by rfl)) .bytes .eqb) h4') .or_nil)))) .nil)
        (.next (.cons (.ret (.and_cons (b := decide (o1 = o)) (.to (.cmp (.tupto (a := 2) (.name (.tail _ (.head _))) .int (by simp) (by simp)) (.tupto (a := 2) (.name (.head _)) .int (by simp) (by simp)) (.eqt (n := 0) (.cons .str (.cons .int .nil)))) (by rw [cast_dec]; simp [List.take])) .bool
          (fun h => .and_one (.to (d' := .bool (isCut (.crypto o d) (.crypto o1 d1) (.crypto o2 d2))) (.cmp (.name (.tail _ (.tail _ (.head _)))) (.tuple (.cons .str (.cons (.bin (.it (.name (.head _)) (c := 1) (by rfl)) (.builtin B N.len (by kernel_rfl) (.cons (.it (.name (.tail _ (.head _))) (c := 2) (by rfl)) .nil) (.lenb (by omega))) .add)
            (.cons (.bfromT (.it (.name (.head _)) (c := 2) (by rfl)) (.builtin B N.len (by kernel_rfl) (.cons (.it (.name (.tail _ (.head _))) (c := 2) (by rfl)) .nil) (.lenb (by omega))) (by omega)) .nil)))) (.eqt (n := 0) (.cons .str (.cons .int (.cons .bytes .nil))))) ?a1))
          ?a2)) .ret)))
      case a1 =>
        simp only [isCut, h, h3, h4]
        rw [show (o : Int) + (d1.length : Int) = ((o + d1.length : Nat) : Int) by omega, cast_dec]
        simp [beqB]
      case a2 => intro h; simp [isCut, h]
    exact .ret
  | stream i o d f =>
    obtain ⟨hi, ho, hd⟩ := hf
    by_cases h1 : p.items.length = 5
    rotate_left
    · apply ExT.cons
      · exact .ifF (.to (.cmp (.it (.name (.head _)) (c := 0) (by rfl)) .str .eqs) (by decide +kernel)) .nil
      apply SeqT.next
      apply ExT.cons
      · exact .ifT (.or_f (.to (.cmp (.it (.name (.head _)) (c := 0) (by rfl)) .str .nes) (by decide +kernel)) (.or_t (.to (.cmp (.builtin B N.len (by kernel_rfl) (.cons (.to (.name (.tail _ (.head _))) p.toD_items) .nil) (.lent (by omega))) .int .nei) (by simpa using fun h => h1 (by omega)))))
          (.cons (.ret (.to .bool (d' := .bool (isCut (.stream i o d f) p r)) (by rw [isCut_s1 (.inl h1)]))) .ret)
      exact .ret
    by_cases h2 : r.items.length = 5
    rotate_left
    · apply ExT.cons
      · exact .ifF (.to (.cmp (.it (.name (.head _)) (c := 0) (by rfl)) .str .eqs) (by decide +kernel)) .nil
      apply SeqT.next
      apply ExT.cons
      · exact .ifT (.or_f (.to (.cmp (.it (.name (.head _)) (c := 0) (by rfl)) .str .nes) (by decide +kernel)) (.or_f (.to (.cmp (.builtin B N.len (by kernel_rfl) (.cons (.to (.name (.tail _ (.head _))) p.toD_items) .nil) (.lent (by omega))) .int .nei) (by rw [h1]; rfl))
          (.or_t (.to (.cmp (.builtin B N.len (by kernel_rfl) (.cons (.to (.name (.tail _ (.tail _ (.head _)))) r.toD_items) .nil) (.lent (by omega))) .int .nei) (by simpa using fun h => h2 (by omega))))))
          (.cons (.ret (.to .bool (d' := .bool (isCut (.stream i o d f) p r)) (by rw [isCut_s1 (.inr h2)]))) .ret)
      exact .ret
    obtain ⟨i1, o1, d1, f1, rfl⟩ := p.items5 h1
    obtain ⟨i2, o2, d2, f2, rfl⟩ := r.items5 h2
    obtain ⟨_, _, hd1⟩ := hp
    by_cases h3 : d1 = []
    · subst h3
      apply ExT.cons
      · exact .ifF (.to (.cmp (.it (.name (.head _)) (c := 0) (by rfl)) .str .eqs) (by decide +kernel)) .nil
      apply SeqT.next
      apply ExT.cons
      · exact .ifT (.or_f (.to (.cmp (.it (.name (.head _)) (c := 0) (by rfl)) .str .nes) (by decide +kernel)) (.or_f (.to (.cmp (.builtin B N.len (by kernel_rfl) (.cons (.name (.tail _ (.head _))) .nil) (.lent (by simp))) .int .nei) (by rfl))
          (.or_f (.to (.cmp (.builtin B N.len (by kernel_rfl) (.cons (.name (.tail _ (.tail _ (.head _)))) .nil) (.lent (by simp))) .int .nei) (by rfl))
          (.or_t (.to (.cmp (.it (.name (.tail _ (.head _))) (c := 3) (by rfl)) .bytes .eqb) (by rfl))))))
          (.cons (.ret (.to .bool (d' := .bool (isCut (.stream i o d f) (.stream i1 o1 [] f1) (.stream i2 o2 d2 f2))) (by rfl))) .ret)
      exact .ret
    have h3' : (d1 == []) = false := beq_eq_false_iff_ne.mpr h3
    by_cases h4 : d2 = []
    · subst h4
      apply ExT.cons
      · exact .ifF (.to (.cmp (.it (.name (.head _)) (c := 0) (by rfl)) .str .eqs) (by decide +kernel)) .nil
      apply SeqT.next
      apply ExT.cons
      · exact .ifT (.or_f (.to (.cmp (.it (.name (.head _)) (c := 0) (by rfl)) .str .nes) (by decide +kernel)) (.or_f (.to (.cmp (.builtin B N.len (by kernel_rfl) (.cons (.name (.tail _ (.head _))) .nil) (.lent (by simp))) .int .nei) (by rfl))
          (.or_f (.to (.cmp (.builtin B N.len (by kernel_rfl) (.cons (.name (.tail _ (.tail _ (.head _)))) .nil) (.lent (by simp))) .int .nei) (by rfl))
          (.or_f (.to (.cmp (.it (.name (.tail _ (.head _))) (c := 3) (by rfl)) .bytes .eqb) h3') (.or_t (.to (.cmp (.it (.name (.tail _ (.tail _ (.head _)))) (c := 3) (by rfl)) .bytes .eqb) (by rfl)))))))
          (.cons (.ret (.to .bool (d' := .bool (isCut (.stream i o d f) (.stream i1 o1 d1 f1) (.stream i2 o2 [] f2))) (by simp [isCut]))) .ret)
      exact .ret
    have h4' : (d2 == []) = false := beq_eq_false_iff_ne.mpr h4
    apply ExT.cons
    · exact .ifF (.to (.cmp (.it (.name (.head _)) (c := 0) (by rfl)) .str .eqs) (by decide +kernel)) .nil
    apply SeqT.next
    apply ExT.cons
    · exact .ifF (.or_f (.to (.cmp (.it (.name (.head _)) (c := 0) (by rfl)) .str .nes) (by decide +kernel)) (.or_f (.to (.cmp (.builtin B N.len (by kernel_rfl) (.cons (.name (.tail _ (.head _))) .nil) (.lent (by simp))) .int .nei) (by rfl))
          (.or_f (.to (.cmp (.builtin B N.len (by kernel_rfl) (.cons (.name (.tail _ (.tail _ (.head _)))) .nil) (.lent (by simp))) .int .nei) (by rfl))
          (.or_f (.to (.cmp (.it (.name (.tail _ (.head _))) (c := 3) (by rfl)) .bytes .eqb) h3') (.or_f (.to (.cmp (.it (.name (.tail _ (.tail _ (.head _)))) (c := 3) (by rfl)) .bytes .eqb) h4') .or_nil))))) .nil
    by_cases h5 : i1 = i ∧ o1 = o
    rotate_left
    · have h5' : ¬ i1 = i ∨ ¬ o1 = o := by omega
      apply SeqT.next
      apply ExT.cons
      · exact .ifT (.or_t (.to (.cmp (.tupto (a := 3) (.name (.tail _ (.head _))) .int (by simp) (by simp)) (.tupto (a := 3) (.name (.head _)) .int (by simp) (by simp)) (.net (n := 0) (.cons .str (.cons .int (.cons .int .nil))))) (by rw [cast_dec, cast_dec]; simp [List.take]; exact h5')))
          (.cons (.ret (.to .bool (d' := .bool (isCut (.stream i o d f) (.stream i1 o1 d1 f1) (.stream i2 o2 d2 f2))) (by congr 1; symm; rw [← Bool.not_eq_true]; simp [isCut]; intro _ _ e1 e2; exact absurd ⟨e1, e2⟩ h5))) .ret)
      exact .ret
    obtain ⟨rfl, rfl⟩ := h5
    by_cases h6 : f1 = true
    · skip
      apply SeqT.next
      apply ExT.cons
      · exact .ifT (.or_f (.to (.cmp (.tupto (a := 3) (.name (.tail _ (.head _))) .int (by simp) (by simp)) (.tupto (a := 3) (.name (.head _)) .int (by simp) (by simp)) (.net (n := 0) (.cons .str (.cons .int (.cons .int .nil))))) (by simp [List.take])) (.or_t (.to (.of (.it (.name (.tail _ (.head _))) (c := 4) (by rfl)) .bool) h6)))
          (.cons (.ret (.to .bool (d' := .bool (isCut (.stream i1 o1 d f) (.stream i1 o1 d1 f1) (.stream i2 o2 d2 f2))) (by simp [isCut, h6]))) .ret)
      exact .ret
    have h6' : f1 = false := by simpa using h6
    by_cases h7 : d.take d1.length = d1
    rotate_left
    · skip
      apply SeqT.next
      apply ExT.cons
      · exact .ifT (.or_f (.to (.cmp (.tupto (a := 3) (.name (.tail _ (.head _))) .int (by simp) (by simp)) (.tupto (a := 3) (.name (.head _)) .int (by simp) (by simp)) (.net (n := 0) (.cons .str (.cons .int (.cons .int .nil))))) (by simp [List.take])) (.or_f (.to (.of (.it (.name (.tail _ (.head _))) (c := 4) (by rfl)) .bool) h6')
          (.or_t (.to (.not (.of (.starts (.it (.name (.head _)) (c := 3) (by rfl)) (.it (.name (.tail _ (.head _))) (c := 3) (by rfl))) .bool)) (by rw [beq_eq_false_iff_ne.mpr h7]; rfl)))))
          (.cons (.ret (.to .bool (d' := .bool (isCut (.stream i1 o1 d f) (.stream i1 o1 d1 f1) (.stream i2 o2 d2 f2))) (by simp [isCut, h7]))) .ret)
      exact .ret
    apply SeqT.next
    apply ExT.cons
    · exact .ifF (.or_f (.to (.cmp (.tupto (a := 3) (.name (.tail _ (.head _))) .int (by simp) (by simp)) (.tupto (a := 3) (.name (.head _)) .int (by simp) (by simp)) (.net (n := 0) (.cons .str (.cons .int (.cons .int .nil))))) (by simp [List.take])) (.or_f (.to (.of (.it (.name (.tail _ (.head _))) (c := 4) (by rfl)) .bool) h6')
          (.or_f (.to (.not (.of (.starts (.it (.name (.head _)) (c := 3) (by rfl)) (.it (.name (.tail _ (.head _))) (c := 3) (by rfl))) .bool)) (by rw [h7]; simp)) .or_nil))) .nil
    apply SeqT.next
    apply ExT.cons
    · exact .ret (.to (d' := .bool (isCut (.stream i1 o1 d f) (.stream i1 o1 d1 f1) (.stream i2 o2 d2 f2))) (.cmp (.name (.tail _ (.tail _ (.head _)))) (.tuple (.cons .str (.cons (.it (.name (.head _)) (c := 1) (by rfl)) (.cons (.bin (.it (.name (.head _)) (c := 2) (by rfl)) (.builtin B N.len (by kernel_rfl) (.cons (.it (.name (.tail _ (.head _))) (c := 3) (by rfl)) .nil) (.lenb (by omega))) .add)
            (.cons (.bfromT (.it (.name (.head _)) (c := 3) (by rfl)) (.builtin B N.len (by kernel_rfl) (.cons (.it (.name (.tail _ (.head _))) (c := 3) (by rfl)) .nil) (.lenb (by omega))) (by omega)) (.cons (.it (.name (.head _)) (c := 4) (by rfl)) .nil)))))) (.eqt (n := 0) (.cons .str (.cons .int (.cons .int (.cons .bytes (.cons .bool .nil))))))) (by
          simp only [isCut, h3, h4, h6', h7]
          rw [show (o1 : Int) + (d1.length : Int) = ((o1 + d1.length : Nat) : Int) by omega, cast_dec, cast_dec]
          rw [beqB, show (f2 == f) = decide (f2 = f) by rw [Bool.eq_iff_iff]; simp]
          simp))
    exact .ret
  | ping =>
    apply ExT.cons
    · exact .ifF (.to (.cmp (.it (.name (.head _)) (c := 0) (by rfl)) .str .eqs) (by decide +kernel)) .nil
    apply SeqT.next
    apply ExT.cons
    · exact .ifT (.or_t (.to (.cmp (.it (.name (.head _)) (c := 0) (by rfl)) .str .nes) (by decide +kernel))) (.cons (.ret .bool) .ret)
    exact .ret
  | maxData n =>
    apply ExT.cons
    · exact .ifF (.to (.cmp (.it (.name (.head _)) (c := 0) (by rfl)) .str .eqs) (by decide +kernel)) .nil
    apply SeqT.next
    apply ExT.cons
    · exact .ifT (.or_t (.to (.cmp (.it (.name (.head _)) (c := 0) (by rfl)) .str .nes) (by decide +kernel))) (.cons (.ret .bool) .ret)
    exact .ret
  | retire n =>
    apply ExT.cons
    · exact .ifF (.to (.cmp (.it (.name (.head _)) (c := 0) (by rfl)) .str .eqs) (by decide +kernel)) .nil
    apply SeqT.next
    apply ExT.cons
    · exact .ifT (.or_t (.to (.cmp (.it (.name (.head _)) (c := 0) (by rfl)) .str .nes) (by decide +kernel))) (.cons (.ret .bool) .ret)
    exact .ret
end
end Mine
open PySem PySem.W PyProof.Rows PySem.Calls PySem.Spec
namespace Mine
theorem vsize_le (n : Nat) : vsize n ≤ 2 := by unfold vsize; split <;> omega
theorem vsize_pos (n : Nat) : 1 ≤ vsize n := by unfold vsize; split <;> omega
theorem vsize_succ (n : Nat) : vsize (n + 1) ≤ vsize n + 1 := by unfold vsize; split <;> split <;> omega
theorem downG_char {p : Nat → Bool} : ∀ m i, downG p m < i → i ≤ m → p i = true
  | 0, i, h1, h2 => by omega
  | m + 1, i, h1, h2 => by
    unfold downG at h1
    split at h1
    · rename_i h
      by_cases e : i = m + 1
      · rw [e]; exact h
      · exact downG_char m i h1 (by omega)
    · omega
namespace Fm
/-- the octets of a data frame ahead of its length -/
def hdr : Fm → Nat
  | crypto o _ => 1 + vsize o
  | stream i o _ _ => 1 + vsize i + (if o > 0 then vsize o else 0)
  | _ => 0
theorem hdr_ge {f : Fm} (h : f.isData = true) : 2 ≤ f.hdr := by
  cases f with
  | crypto o d => have := vsize_pos o; show 2 ≤ 1 + vsize o; omega
  | stream i o d b => have := vsize_pos i; show 2 ≤ 1 + vsize i + _; omega
  | _ => cases h
theorem size_data {f : Fm} (h : f.isData = true) : f.size = f.hdr + vsize f.data.length + f.data.length := by
  cases f with
  | crypto o d => exact size_crypto
  | stream i o d b => exact size_stream
  | _ => cases h
theorem size_with0 {f : Fm} (h : f.isData = true) (e : List UInt8) (b : Bool) : (f.withData 0 e b).size = f.hdr + vsize e.length + e.length := by
  cases f with
  | crypto o d => exact size_crypto
  | stream i o d c => exact size_stream
  | _ => cases h
theorem base_eq {f : Fm} (h : f.isData = true) : f.base = f.hdr + 1 := by
  unfold base; rw [size_with0 h]; rfl
theorem tooBig_eq {f : Fm} (h : f.isData = true) {room m : Nat} (hm : m ≤ f.data.length) : f.tooBig room m = decide (f.hdr + vsize m + m > room) := by
  unfold tooBig; rw [size_with0 h, List.length_take, Nat.min_eq_left hm]
/-- what the number of octets that find room is -/
theorem many_char {f : Fm} (h : f.isData = true) {room : Nat} (hb : ¬ f.base > room) : f.hdr + vsize (f.many room) + f.many room ≤ room ∧ f.many room ≤ min f.data.length (room - f.base) ∧
    ∀ i, f.many room < i → i ≤ min f.data.length (room - f.base) → f.hdr + vsize i + i > room := by
  have h2 : f.many room ≤ min f.data.length (room - f.base) := downG_le _
  refine ⟨?_, h2, fun i h3 h4 => ?_⟩
  · have := many_fits hb
    rw [size_with0 h, List.length_take, Nat.min_eq_left (by omega)] at this
    exact this
  · have := downG_char _ i h3 h4
    rw [tooBig_eq h (by omega)] at this
    simpa using this
theorem cut_small {q : Fm} (h : q.isData = true) {r : Nat} (hr : r ≤ 1) : q.cut r = (none, some q) := by
  have h1 := hdr_ge h
  unfold cut
  rw [if_neg (by rw [size_data h]; omega), if_neg (by rw [h]; decide), if_pos (by rw [base_eq h]; omega)]
theorem cut_mono {f : Fm} {room r : Nat} (h : f.cut room = (none, some f)) (hs : room < f.size) (hr : r ≤ room) : f.cut r = (none, some f) := by
  by_cases hd : f.isData = true
  rotate_left
  · unfold cut; rw [if_neg (by omega), if_pos (by simpa using hd)]
  by_cases hb' : f.base > r
  · unfold cut; rw [if_neg (by omega), if_neg (by rw [hd]; decide), if_pos hb']
  have hb : ¬ f.base > room := by omega
  have h0 : f.many room < 1 := by
    unfold cut at h
    rw [if_neg (by omega), if_neg (by rw [hd]; decide), if_neg hb] at h
    split at h
    · rename_i h3
      rcases h3 with h3 | h3
      · exact h3
      · obtain ⟨h4, h5, _⟩ := many_char hd hb
        have e : f.many room = f.data.length := by omega
        rw [e] at h4; rw [size_data hd] at hs; omega
    · cases h
  obtain ⟨_, _, h6⟩ := many_char hd hb
  obtain ⟨h7, h8, _⟩ := many_char hd hb'
  have : f.many r < 1 := by
    refine Nat.lt_of_not_le fun h9 => ?_
    have := h6 (f.many r) (by omega) (by omega)
    omega
  unfold cut
  rw [if_neg (by omega), if_neg (by rw [hd]; decide), if_neg hb', if_pos (.inl this)]
theorem isCut_with {f : Fm} (h : f.isData = true) {m : Nat} (h1 : 1 ≤ m) (h2 : m < f.data.length) : isCut f (f.withData 0 (f.data.take m) false) (f.withData m (f.data.drop m) f.isEnd) = true := by
  cases f with
  | crypto o d =>
    have h2 : m < d.length := h2
    have e1 : d.take m ≠ [] := List.ne_nil_of_length_pos (by rw [List.length_take]; omega)
    have e2 : d.drop m ≠ [] := List.ne_nil_of_length_pos (by rw [List.length_drop]; omega)
    show isCut (.crypto o d) (.crypto (o + 0) (d.take m)) (.crypto (o + m) (d.drop m)) = true
    have e3 : (d.take m).length = m := by rw [List.length_take]; omega
    simp only [isCut, e1, e2, e3, decide_true, decide_false, Nat.add_zero]; rfl
  | stream i o d b =>
    have h2 : m < d.length := h2
    have e1 : d.take m ≠ [] := List.ne_nil_of_length_pos (by rw [List.length_take]; omega)
    have e2 : d.drop m ≠ [] := List.ne_nil_of_length_pos (by rw [List.length_drop]; omega)
    show isCut (.stream i o d b) (.stream i (o + 0) (d.take m) false) (.stream i (o + m) (d.drop m) b) = true
    have e3 : (d.take m).length = m := by rw [List.length_take]; omega
    simp only [isCut, e1, e2, e3, decide_true, decide_false, Nat.add_zero]; rfl
  | _ => cases h
theorem isCut_self (f p : Fm) : isCut f p f = false := by
  cases f with
  | crypto o d =>
    cases p with
    | crypto o1 d1 =>
      by_cases h : d1 = []
      · simp [isCut, h]
      · have : ¬ o = o + d1.length := by have := List.length_pos_iff.mpr h; omega
        simp [isCut, h]
    | _ => rfl
  | stream i o d b =>
    cases p with
    | stream i1 o1 d1 b1 =>
      by_cases h : d1 = []
      · simp [isCut, h]
      · have : ¬ o = o + d1.length := by have := List.length_pos_iff.mpr h; omega
        simp [isCut, h]
    | _ => rfl
  | _ => rfl
theorem withData_isData {f : Fm} (h : f.isData = true) (m : Nat) (e : List UInt8) (b : Bool) : (f.withData m e b).isData = true := by cases f <;> first | rfl | cases h
/-- what cutting gives -/
theorem cut_cases (f : Fm) (room : Nat) : (f.size ≤ room ∧ f.cut room = (some f, none)) ∨ (room < f.size ∧ f.cut room = (none, some f)) ∨
    (room < f.size ∧ ∃ p q, f.cut room = (some p, some q) ∧ isCut f p q = true ∧ p.size ≤ room ∧ room - p.size ≤ 1 ∧ q.isData = true) := by
  by_cases h1 : f.size ≤ room
  · exact .inl ⟨h1, by unfold cut; rw [if_pos h1]⟩
  have h1' : room < f.size := by omega
  by_cases hd : f.isData = true
  rotate_left
  · exact .inr (.inl ⟨h1', by unfold cut; rw [if_neg h1, if_pos (by simpa using hd)]⟩)
  by_cases hb : f.base > room
  · exact .inr (.inl ⟨h1', by unfold cut; rw [if_neg h1, if_neg (by rw [hd]; decide), if_pos hb]⟩)
  by_cases h4 : f.many room < 1 ∨ f.many room ≥ f.data.length
  · exact .inr (.inl ⟨h1', by unfold cut; rw [if_neg h1, if_neg (by rw [hd]; decide), if_neg hb, if_pos h4]⟩)
  refine .inr (.inr ⟨h1', _, _, by unfold cut; rw [if_neg h1, if_neg (by rw [hd]; decide), if_neg hb, if_neg h4], isCut_with hd (by omega) (by omega), many_fits hb, ?_, withData_isData hd ..⟩)
  obtain ⟨h5, h6, h7⟩ := many_char hd hb
  rw [size_with0 hd, List.length_take, Nat.min_eq_left (by omega)]
  refine Nat.le_of_not_lt fun h8 => ?_
  have hv := vsize_pos (f.many room)
  have hw := vsize_succ (f.many room)
  have he := base_eq hd
  have := h7 (f.many room + 1) (by omega) (by omega)
  omega
end Fm
theorem fold_app : ∀ (l : List Fm) (s : FS), l.foldl fstep s = ⟨(fill l s.room).room, s.tk ++ (fill l s.room).tk, s.lf ++ (fill l s.room).lf⟩
  | [], s => by simp [fill]
  | f :: l, s => by
    have e1 := fold_app l (fstep s f)
    have e2 := fold_app l (fstep ⟨s.room, [], []⟩ f)
    rw [List.foldl_cons, e1]
    unfold fill
    rw [List.foldl_cons, e2]
    simp [fstep]
    exact ⟨rfl, rfl, rfl⟩
theorem fill_nil (r : Nat) : fill [] r = ⟨r, [], []⟩ := rfl
theorem fill_cons (f : Fm) (l : List Fm) (r : Nat) : fill (f :: l) r = ⟨(fill l (r - (f.cut r).1.elim 0 Fm.size)).room, (f.cut r).1.toList ++ (fill l (r - (f.cut r).1.elim 0 Fm.size)).tk, (f.cut r).2.toList ++ (fill l (r - (f.cut r).1.elim 0 Fm.size)).lf⟩ := by
  show (f :: l).foldl fstep ⟨r, [], []⟩ = _
  rw [List.foldl_cons, fold_app]
  simp [fstep]
theorem fill_append : ∀ (a b : List Fm) (r : Nat), fill (a ++ b) r = ⟨(fill b (fill a r).room).room, (fill a r).tk ++ (fill b (fill a r).room).tk, (fill a r).lf ++ (fill b (fill a r).room).lf⟩ := by
  intro a b r
  show (a ++ b).foldl fstep ⟨r, [], []⟩ = _
  rw [List.foldl_append, fold_app]
  rfl
theorem fill_room_le : ∀ (l : List Fm) (r : Nat), (fill l r).room ≤ r
  | [], r => Nat.le_refl _
  | f :: l, r => by
    rw [fill_cons]
    have := fill_room_le l (r - (f.cut r).1.elim 0 Fm.size)
    simp only; omega
theorem fill_tk_fits : ∀ (l : List Fm) (r : Nat), ∀ p ∈ (fill l r).tk, p.size ≤ r
  | [], r => fun p hp => nomatch hp
  | f :: l, r => fun p hp => by
    rw [fill_cons] at hp
    rcases List.mem_append.mp hp with hp | hp
    · exact Fm.cut_fits (by simpa using hp)
    · have := fill_tk_fits l _ p hp; omega
theorem fill_fine : ∀ (l : List Fm) (r : Nat), (∀ f ∈ l, f.fine) → (∀ f ∈ (fill l r).tk, f.fine) ∧ (∀ f ∈ (fill l r).lf, f.fine)
  | [], r, _ => ⟨(fun _ h => nomatch h), fun _ h => nomatch h⟩
  | f :: l, r, h => by
    rw [fill_cons]
    obtain ⟨h1, h2⟩ := fill_fine l (r - (f.cut r).1.elim 0 Fm.size) fun g hg => h g (List.mem_cons_of_mem _ hg)
    obtain ⟨h3, h4⟩ := Fm.cut_fine (room := r) (h f List.mem_cons_self)
    exact ⟨fun p hp => (List.mem_append.mp hp).elim (fun hp => h3 p (by simpa using hp)) (h1 p), fun p hp => (List.mem_append.mp hp).elim (fun hp => h4 p (by simpa using hp)) (h2 p)⟩
theorem optLen {β : Type} (o : Option β) : o.toList.length ≤ 1 := by cases o <;> simp
theorem fill_len : ∀ (l : List Fm) (r : Nat), (fill l r).tk.length ≤ l.length ∧ (fill l r).lf.length ≤ l.length
  | [], r => ⟨Nat.le_refl _, Nat.le_refl _⟩
  | f :: l, r => by
    rw [fill_cons]
    obtain ⟨h1, h2⟩ := fill_len l (r - (f.cut r).1.elim 0 Fm.size)
    have h3 := optLen (f.cut r).1
    have h4 := optLen (f.cut r).2
    simp only [List.length_append, List.length_cons]
    omega
/-- the sizes of frames, added up -/
def tot (l : List Fm) : Nat := (l.map Fm.size).sum
theorem tot_append (a b : List Fm) : tot (a ++ b) = tot a + tot b := by simp [tot]
theorem fill_room : ∀ (l : List Fm) (r : Nat), (fill l r).room + tot (fill l r).tk = r
  | [], r => by simp [fill_nil, tot]
  | f :: l, r => by
    rw [fill_cons]
    have := fill_room l (r - (f.cut r).1.elim 0 Fm.size)
    simp only [tot_append]
    cases hc : (f.cut r).1 with
    | none => rw [hc] at this; simpa [tot] using this
    | some p =>
      have hp := Fm.cut_fits hc
      rw [hc] at this
      simp only [Option.elim_some] at this ⊢
      simp only [tot, Option.toList_some, List.map_cons, List.map_nil, List.sum_cons, List.sum_nil] at *
      omega
theorem fill_all : ∀ (l : List Fm) (r : Nat), tot l ≤ r → fill l r = ⟨r - tot l, l, []⟩
  | [], r, _ => by simp [fill_nil, tot]
  | f :: l, r, h => by
    have e : tot (f :: l) = f.size + tot l := by simp [tot]
    rw [e] at h
    have hc : f.cut r = (some f, none) := by unfold Fm.cut; rw [if_pos (by omega)]
    rw [fill_cons, hc]
    simp only [Option.elim_some, Option.toList_some, Option.toList_none]
    rw [fill_all l (r - f.size) (by omega), e]
    simp; omega
theorem fill_none : ∀ (l : List Fm) (r : Nat), (∀ f ∈ l, f.cut r = (none, some f)) → fill l r = ⟨r, [], l⟩
  | [], r, _ => rfl
  | f :: l, r, h => by
    have hc := h f List.mem_cons_self
    rw [fill_cons, hc]
    simp only [Option.elim_none, Option.toList_some, Option.toList_none, Nat.sub_zero]
    rw [fill_none l r fun g hg => h g (List.mem_cons_of_mem _ hg)]
    rfl
theorem fill_lf : ∀ (l : List Fm) (r : Nat), ∀ f ∈ (fill l r).lf, ∀ r' ≤ (fill l r).room, f.cut r' = (none, some f)
  | [], r => fun f hf => nomatch hf
  | g :: l, r => fun f hf r' hr' => by
    rw [fill_cons] at hf hr'
    have ih := fill_lf l (r - (g.cut r).1.elim 0 Fm.size)
    have hle := fill_room_le l (r - (g.cut r).1.elim 0 Fm.size)
    rcases List.mem_append.mp hf with hf | hf
    · rcases Fm.cut_cases g r with ⟨_, hc⟩ | ⟨h1, hc⟩ | ⟨h1, p, q, hc, _, h3, h4, h5⟩
      · rw [hc] at hf; exact nomatch hf
      · rw [hc] at hf hr' hle
        simp at hf
        subst hf
        exact Fm.cut_mono hc h1 (by simp at hr' hle; omega)
      · rw [hc] at hf hr' hle
        simp at hf
        subst hf
        exact Fm.cut_small h5 (by simp at hr' hle; omega)
    · exact ih f hf r' hr'
/-- what is left finds no room -/
theorem fill_left (l : List Fm) (r : Nat) : fill (fill l r).lf (fill l r).room = ⟨(fill l r).room, [], (fill l r).lf⟩ :=
  fill_none _ _ fun f hf => fill_lf l r f hf _ (Nat.le_refl _)
theorem fill_taken (l : List Fm) (r : Nat) : fill (fill l r).tk r = ⟨(fill l r).room, (fill l r).tk, []⟩ := by
  have := fill_room l r
  rw [fill_all _ _ (by omega)]
  congr 1; omega
theorem tfold : ∀ (l : List Fm) (s : FS), (∀ f ∈ l, f.isData = false) → l.foldl tstep s = l.foldl fstep s
  | [], _, _ => rfl
  | f :: l, s, h => by
    rw [List.foldl_cons, List.foldl_cons, tfold l _ fun g hg => h g (List.mem_cons_of_mem _ hg)]
    congr 1
    unfold tstep fstep Fm.cut
    by_cases hs : f.size ≤ s.room
    · rw [if_pos hs, if_pos hs]; simp
    · rw [if_neg hs, if_neg hs, if_pos (h f List.mem_cons_self)]; simp
theorem fill_plain (l : List Fm) (r : Nat) (h : ∀ f ∈ l, f.isData = false) : tleft l r = fill l r := tfold l _ h
end Mine
open PySem PySem.W PyProof.Rows PySem.Calls PySem.Spec
set_option maxRecDepth 100000
set_option maxHeartbeats 8000000
namespace Mine
theorem at_mid {a b : List Fm} {p : Fm} : ((a ++ p :: b).map Fm.toD)[((a.length : Nat) : Int).toNat]? = some p.toD := by simp
section
variable {prog : Program} {w : World} {hb : Heap} {mg mb : Str → Option Value} {k n₀ : Nat} {σ σ₁ σ₂ : List C} {env : Env} {ρ : List (Str × D)}
theorem f_law_goes_right (B : Base hb mg mb) (T : Defs hb mg) (N : Bare mg) {fs : List Fm} (hs : ∀ f ∈ fs, f.fine) (hl : fs.length ≤ 1000) {room : Nat} {tk lf : List Fm} (ht : (fill fs room).tk = tk) (hL : (fill fs room).lf = lf) :
    Fn prog w hb mg (k + 2) "_law_goes_right" [fmD fs, fmD tk, fmD lf] σ (.bool true) := by
  have hfine := fill_fine fs room hs
  rw [ht, hL] at hfine
  obtain ⟨hf1, hf2⟩ := hfine
  have hlen := fill_len fs room
  rw [ht, hL] at hlen
  obtain ⟨hn1, hn2⟩ := hlen
  have en1 : (tk.map Fm.toD).length = tk.length := List.length_map ..
  have en2 : (lf.map Fm.toD).length = lf.length := List.length_map ..
  refine Fn.intro (n := 24) T rfl B ["waiting", "taken", "left"] (fun pm code doc vs h => by match vs, h with | [a0, a1, a2], _ => rfl) rfl (by decide +kernel) (fun n x hx => .inl (by revert x hx; decide +kernel)) (fun n p hp => nomatch (show p ∈ [] from hp)) rfl rfl rfl (fun a code L => ?_)
  dsimp only
  apply Exists.intro
  apply And.intro
  rotate_left
  · exact .mk (σ₁ := σ) (.bool _)
  apply ExT.cons (o₁ := .next [("waiting", fmD fs), ("taken", fmD tk), ("left", fmD lf), ("gone", .int (0 : Nat)), ("stays", .int (0 : Nat))] σ)
  · exact .unpk (.tuple (.cons .int (.cons .int .nil))) (.cons (.new (by repeat (first | exact App.nil | apply App.cons)) (by kernel_rfl)) (.cons (.new (by repeat (first | exact App.nil | apply App.cons)) (by kernel_rfl)) .nil))
  apply SeqT.next
  apply ExT.cons (o₁ := .next [("waiting", fmD fs), ("taken", fmD tk), ("left", fmD lf), ("gone", .int ((fill fs room).tk.length : Nat)), ("stays", .int ((fill fs room).lf.length : Nat))] σ)
  · refine .for (.list (.name (.head _))) (.fold (fun s => [("waiting", fmD fs), ("taken", fmD tk), ("left", fmD lf), ("gone", .int (s.tk.length : Nat)), ("stays", .int (s.lf.length : Nat))]) (fun s => σ) fstep
      (fun l s => tk = s.tk ++ (fill l s.room).tk ∧ lf = s.lf ++ (fill l s.room).lf ∧ ∀ f ∈ l, f.fine) (fun s f l hI => ?_) fs ⟨room, [], []⟩ ⟨by rw [← ht]; rfl, by rw [← hL]; rfl, hs⟩)
    obtain ⟨h1, h2, h3⟩ := hI
    have hf := h3 f List.mem_cons_self
    have h3' : ∀ g ∈ l, g.fine := fun g hg => h3 g (List.mem_cons_of_mem _ hg)
    have q1 : s.tk.length ≤ tk.length := by rw [h1]; simp
    have q2 : s.lf.length ≤ lf.length := by rw [h2]; simp
    rw [fill_cons] at h1 h2
    unfold fstep
    rcases Fm.cut_cases f s.room with ⟨_, hc⟩ | ⟨h4, hc⟩ | ⟨h4, p, q, hc, h5, h6, h7, h8⟩
    · rw [hc] at h1 h2 ⊢
      simp only [Option.elim_some, Option.toList_some, Option.toList_none, List.append_nil, List.nil_append, List.cons_append] at h1 h2 ⊢
      refine ⟨⟨by rw [h1]; simp, h2, h3'⟩, _, (.new (by repeat (first | exact App.nil | apply App.cons)) (by kernel_rfl)), .forgetZ (.one (.ifT (.and_t (.to (.cmp (.name (.tail _ (.tail _ (.tail _ (.head _))))) (.builtin B N.len (by kernel_rfl) (.cons (.name (.tail _ (.head _))) .nil) (.lenl (by omega))) .lt) (by rw [en1, h1]; simp <;> omega))
        (.and_t (.to (.cmp (.sub (.name (.tail _ (.head _))) (.name (.tail _ (.tail _ (.tail _ (.head _))))) (.iteml (d := f.toD) (by omega) (by omega) (by rw [h1]; exact at_mid))) (.name (.tail _ (.tail _ (.tail _ (.tail _ (.tail _ (.head _))))))) .eqf) (by simp)) .and_nil))
        (.one (.assign (.to (.bin (.name (.tail _ (.tail _ (.tail _ (.head _))))) .int .add) (d' := .int ((s.tk ++ [f]).length : Nat)) (by simp)) (.put (.miss (.miss (.miss .hit))))) .end)) .end) rfl rfl⟩
    · rw [hc] at h1 h2 ⊢
      simp only [Option.elim_none, Option.toList_some, Option.toList_none, List.append_nil, List.nil_append, List.cons_append, Nat.sub_zero] at h1 h2 ⊢
      refine ⟨⟨h1, by rw [h2]; simp, h3'⟩, _, (.new (by repeat (first | exact App.nil | apply App.cons)) (by kernel_rfl)), .forgetZ (.one (.ifF (σ₁ := σ) ?t1 (.one (.ifF (σ₁ := σ) ?t2 (.one (.ifT (.and_t (.to (.cmp (.name (.tail _ (.tail _ (.tail _ (.tail _ (.head _)))))) (.builtin B N.len (by kernel_rfl) (.cons (.name (.tail _ (.tail _ (.head _)))) .nil) (.lenl (by omega))) .lt) (by rw [en2, h2]; simp <;> omega))
        (.and_t (.to (.cmp (.sub (.name (.tail _ (.tail _ (.head _)))) (.name (.tail _ (.tail _ (.tail _ (.tail _ (.head _)))))) (.iteml (d := f.toD) (by omega) (by omega) (by rw [h2]; exact at_mid))) (.name (.tail _ (.tail _ (.tail _ (.tail _ (.tail _ (.head _))))))) .eqf) (by simp)) .and_nil))
        (.one (.assign (.to (.bin (.name (.tail _ (.tail _ (.tail _ (.tail _ (.head _)))))) .int .add) (d' := .int ((s.lf ++ [f]).length : Nat)) (by simp)) (.put (.miss (.miss (.miss (.miss .hit)))))) .end)) .end)) .end)) .end) rfl rfl⟩
      case t1 =>
        have hfit := fill_tk_fits l s.room
        cases hT : (fill l s.room).tk with
        | nil =>
          rw [hT, List.append_nil] at h1
          exact .and_f (.to (.cmp (.name (.tail _ (.tail _ (.tail _ (.head _))))) (.builtin B N.len (by kernel_rfl) (.cons (.name (.tail _ (.head _))) .nil) (.lenl (by omega))) .lt) (by rw [en1, h1]; simp <;> omega))
        | cons g T' =>
          rw [hT] at h1 hfit
          have hg := hfit g List.mem_cons_self
          have hne : g ≠ f := fun e => by rw [e] at hg; omega
          exact .and_t (.to (.cmp (.name (.tail _ (.tail _ (.tail _ (.head _))))) (.builtin B N.len (by kernel_rfl) (.cons (.name (.tail _ (.head _))) .nil) (.lenl (by omega))) .lt) (by rw [en1, h1]; simp <;> omega))
            (.and_f (.to (.cmp (.sub (.name (.tail _ (.head _))) (.name (.tail _ (.tail _ (.tail _ (.head _))))) (.iteml (d := g.toD) (by omega) (by omega) (by rw [h1]; exact at_mid))) (.name (.tail _ (.tail _ (.tail _ (.tail _ (.tail _ (.head _))))))) .eqf) (decide_eq_false hne)))
      case t2 =>
        cases hT : (fill l s.room).tk with
        | nil =>
          rw [hT, List.append_nil] at h1
          exact .and_f (.to (.cmp (.name (.tail _ (.tail _ (.tail _ (.head _))))) (.builtin B N.len (by kernel_rfl) (.cons (.name (.tail _ (.head _))) .nil) (.lenl (by omega))) .lt) (by rw [en1, h1]; simp <;> omega))
        | cons g T' =>
          rw [hT] at h1
          have hgs := (hf1 g (by rw [h1]; simp <;> omega)).small
          exact .and_t (.to (.cmp (.name (.tail _ (.tail _ (.tail _ (.head _))))) (.builtin B N.len (by kernel_rfl) (.cons (.name (.tail _ (.head _))) .nil) (.lenl (by omega))) .lt) (by rw [en1, h1]; simp <;> omega))
            (.and_t (.to (.cmp (.name (.tail _ (.tail _ (.tail _ (.tail _ (.head _)))))) (.builtin B N.len (by kernel_rfl) (.cons (.name (.tail _ (.tail _ (.head _)))) .nil) (.lenl (by omega))) .lt) (by rw [en2, h2]; simp <;> omega))
            (.and_f (.to (.of (.fn B (f_law_is_cut (k := k) (f := f) (p := g) (r := f) B T N hf.small hgs hf.small) (.cons (.name (.tail _ (.tail _ (.tail _ (.tail _ (.tail _ (.head _))))))) (.cons (.sub (.name (.tail _ (.head _))) (.name (.tail _ (.tail _ (.tail _ (.head _))))) (.iteml (d := g.toD) (by omega) (by omega) (by rw [h1]; exact at_mid)))
              (.cons (.sub (.name (.tail _ (.tail _ (.head _)))) (.name (.tail _ (.tail _ (.tail _ (.tail _ (.head _)))))) (.iteml (d := f.toD) (by omega) (by omega) (by rw [h2]; exact at_mid))) .nil)))) .bool) (Fm.isCut_self f g))))
    · rw [hc] at h1 h2 ⊢
      simp only [Option.elim_some, Option.toList_some, Option.toList_none, List.append_nil, List.nil_append, List.cons_append] at h1 h2 ⊢
      have hne : p ≠ f := fun e => by rw [e] at h6; omega
      have hps := (hf1 p (by rw [h1]; simp <;> omega)).small
      have hqs := (hf2 q (by rw [h2]; simp <;> omega)).small
      refine ⟨⟨by rw [h1]; simp, by rw [h2]; simp, h3'⟩, _, (.new (by repeat (first | exact App.nil | apply App.cons)) (by kernel_rfl)), .forgetZ (.one (.ifF (.and_t (.to (.cmp (.name (.tail _ (.tail _ (.tail _ (.head _))))) (.builtin B N.len (by kernel_rfl) (.cons (.name (.tail _ (.head _))) .nil) (.lenl (by omega))) .lt) (by rw [en1, h1]; simp <;> omega))
            (.and_f (.to (.cmp (.sub (.name (.tail _ (.head _))) (.name (.tail _ (.tail _ (.tail _ (.head _))))) (.iteml (d := p.toD) (by omega) (by omega) (by rw [h1]; exact at_mid))) (.name (.tail _ (.tail _ (.tail _ (.tail _ (.tail _ (.head _))))))) .eqf) (decide_eq_false hne))))
        (.one (.ifT (.and_t (.to (.cmp (.name (.tail _ (.tail _ (.tail _ (.head _))))) (.builtin B N.len (by kernel_rfl) (.cons (.name (.tail _ (.head _))) .nil) (.lenl (by omega))) .lt) (by rw [en1, h1]; simp <;> omega))
            (.and_t (.to (.cmp (.name (.tail _ (.tail _ (.tail _ (.tail _ (.head _)))))) (.builtin B N.len (by kernel_rfl) (.cons (.name (.tail _ (.tail _ (.head _)))) .nil) (.lenl (by omega))) .lt) (by rw [en2, h2]; simp <;> omega))
            (.and_t (.to (.of (.fn B (f_law_is_cut (k := k) (f := f) (p := p) (r := q) B T N hf.small hps hqs) (.cons (.name (.tail _ (.tail _ (.tail _ (.tail _ (.tail _ (.head _))))))) (.cons (.sub (.name (.tail _ (.head _))) (.name (.tail _ (.tail _ (.tail _ (.head _))))) (.iteml (d := p.toD) (by omega) (by omega) (by rw [h1]; exact at_mid)))
              (.cons (.sub (.name (.tail _ (.tail _ (.head _)))) (.name (.tail _ (.tail _ (.tail _ (.tail _ (.head _)))))) (.iteml (d := q.toD) (by omega) (by omega) (by rw [h2]; exact at_mid))) .nil)))) .bool) h5) .and_nil)))
          (.one (.swp (names := ["gone", "stays"]) (.tuple (.cons (.to (.bin (.name (.tail _ (.tail _ (.tail _ (.head _))))) .int .add) (d' := .int ((s.tk ++ [p]).length : Nat)) (by simp)) (.cons (.to (.bin (.name (.tail _ (.tail _ (.tail _ (.tail _ (.head _)))))) .int .add) (d' := .int ((s.lf ++ [q]).length : Nat)) (by simp)) .nil))) (.cons (.put (.miss (.miss (.miss (.miss .hit))))) (.cons (.put (.miss (.miss (.miss .hit)))) .nil))) .end)) .end)) .end) rfl rfl⟩
  apply SeqT.next
  apply ExT.cons
  · exact .ret (.and_cons (b := true) (.to (.cmp (.name (.tail _ (.tail _ (.tail _ (.head _))))) (.builtin B N.len (by kernel_rfl) (.cons (.name (.tail _ (.head _))) .nil) (.lenl (by omega))) .eqi) (d' := .bool true) (by rw [en1, ht]; simp)) .bool
      (fun _ => .and_one (.to (.cmp (.name (.tail _ (.tail _ (.tail _ (.tail _ (.head _)))))) (.builtin B N.len (by kernel_rfl) (.cons (.name (.tail _ (.tail _ (.head _)))) .nil) (.lenl (by omega))) .eqi) (d' := .bool true) (by rw [en2, hL]; simp))) (fun h => nomatch h))
  exact .ret
end
end Mine
open PySem PySem.W PyProof.Rows PySem.Calls PySem.Spec
set_option maxRecDepth 100000
set_option maxHeartbeats 8000000
namespace Mine
theorem sum_tot : ∀ (l : List Fm), (l.map fun f => (f.size : Int)).sum = (tot l : Int)
  | [] => rfl
  | f :: l => by
    rw [List.map_cons, List.sum_cons, sum_tot l]
    show (f.size : Int) + (tot l : Int) = ((tot (f :: l) : Nat) : Int)
    rw [show tot (f :: l) = f.size + tot l by simp [tot]]; omega
theorem fmD_frz {fs : List Fm} {τ : List C} {n : Nat} : Frz τ n (fmD fs) (fmD fs) := .list (frz_map fun f _ => f.frz)
section
variable {prog : Program} {w : World} {hb : Heap} {mg mb : Str → Option Value} {k n₀ : Nat} {σ σ₁ σ₂ : List C} {env : Env} {ρ : List (Str × D)}
theorem f_law_is_turn (B : Base hb mg mb) (T : Defs hb mg) (N : Bare mg) (K : Consts hb mg) (F : NF prog w hb mg) {fs : List Fm} (hs : ∀ f ∈ fs, f.fine) (hl : fs.length ≤ 1000) {room place : Nat} (hp : place ≤ 1000) :
    Fn prog w hb mg (k + 10) "_law_is_turn" [fmD fs, .int room, .int place] σ (fmD (fill fs room).lf) := by
  obtain ⟨hf1, hf2⟩ := fill_fine fs room hs
  obtain ⟨hn1, hn2⟩ := fill_len fs room
  have hsA : ∀ f ∈ fs.take place, f.fine := fun f hf => hs f (List.mem_of_mem_take hf)
  have hsB : ∀ f ∈ fs.drop place, f.fine := fun f hf => hs f (List.mem_of_mem_drop hf)
  have hlA : (fs.take place).length ≤ 1000 := by rw [List.length_take]; omega
  have hlB : (fs.drop place).length ≤ 1000 := by rw [List.length_drop]; omega
  obtain ⟨hfA, _⟩ := fill_fine _ room hsA
  obtain ⟨hnA, hmA⟩ := fill_len (fs.take place) room
  obtain ⟨hnB, hmB⟩ := fill_len (fs.drop place) (fill (fs.take place) room).room
  have happ := fill_append (fs.take place) (fs.drop place) room
  rw [List.take_append_drop] at happ
  have hsum := fill_room fs room
  have hsumA := fill_room (fs.take place) room
  have hT := fill_taken fs room
  have hL := fill_left fs room
  have hsP : ∀ f ∈ fs.filter (fun f => !f.isData), f.fine := fun f hf => hs f (List.mem_filter.mp hf).1
  have hlP : (fs.filter fun f => !f.isData).length ≤ 1000 := Nat.le_trans (List.length_filter_le ..) hl
  have hP := fill_plain (fs.filter fun f => !f.isData) room (fun f hf => by simpa using (List.mem_filter.mp hf).2)
  refine Fn.intro (n := 25) T rfl B ["waiting", "room", "place"] (fun pm code doc vs h => by match vs, h with | [a0, a1, a2], _ => rfl) rfl (by decide +kernel) (fun n x hx => .inl (by revert x hx; decide +kernel)) (fun n p hp => nomatch (show p ∈ [] from hp)) rfl rfl rfl (fun a code L => ?_)
  dsimp only
  apply Exists.intro
  apply And.intro
  rotate_left
  · exact .mk (σ₁ := σ) fmD_frz
  apply ExT.cons
  · exact .unpk (.fn B (f_filled (k := k) B T N K F hs hl) (.cons (.name (.head _)) (.cons (.name (.tail _ (.head _))) .nil))) (.cons (.new (by repeat (first | exact App.nil | apply App.cons)) (by kernel_rfl)) (.cons (.new (by repeat (first | exact App.nil | apply App.cons)) (by kernel_rfl)) .nil))
  apply SeqT.next
  apply ExT.cons
  · exact .assign (.to (.bin (.name (.tail _ (.head _))) (.builtin B N.sum (by kernel_rfl) (.cons (.to (.comp (.list (.name (.tail _ (.tail _ (.tail _ (.head _)))))) (.none (by decide +kernel) (by decide +kernel) rfl (by decide +kernel) rfl)
      (fun C => .mapAll (g := fun (f : Fm) => D.int f.size) (fun f hf σ => .fn B ((f_law_size (k := 0) B T N (hf1 f hf).small).mono (by omega)) (.cons (.name (.head _)) .nil))) (by rw [List.length_map, sizeLine_eq]; omega) (Nat.le_refl _) (fun τ n => frz_map fun _ _ => .int _))
      (by rw [List.map_map]; rfl)) .nil) (.psum (ns := (fill fs room).tk.map fun f => (f.size : Int)))) .sub) (d' := .int ((fill fs room).room : Nat)) (by rw [sum_tot]; congr 1; omega)) (.new (by repeat (first | exact App.nil | apply App.cons)) (by kernel_rfl))
  apply SeqT.next
  apply ExT.cons
  · exact .ifF (.or_f (.to (.cmp (.name (.tail _ (.tail _ (.tail _ (.tail _ (.tail _ (.head _))))))) .int .lt) (by simp)) (.or_f (.to (.not (.of (.fn B ((f_law_goes_right (k := 0) B T N hs hl rfl rfl).mono (by omega)) (.cons (.name (.head _)) (.cons (.name (.tail _ (.tail _ (.tail _ (.head _))))) (.cons (.name (.tail _ (.tail _ (.tail _ (.tail _ (.head _)))))) .nil)))) .bool)) rfl) .or_nil)) .nil
  apply SeqT.next
  apply ExT.cons
  · exact .ifF (.or_f (.to (.cmp (.fn B (f_filled (k := k) B T N K F hf1 (by omega)) (.cons (.name (.tail _ (.tail _ (.tail _ (.head _))))) (.cons (.name (.tail _ (.head _))) .nil))) (.tuple (.cons (.name (.tail _ (.tail _ (.tail _ (.head _))))) (.cons (.list .nil) .nil))) (.net (n := 2) (.cons (eqFmD (by rw [hT])) (.cons (eqFmD (gs := []) (by rw [hT])) .nil)))) (by simp))
      (.or_f (.to (.cmp (.fn B (f_filled (k := k) B T N K F hf2 (by omega)) (.cons (.name (.tail _ (.tail _ (.tail _ (.tail _ (.head _)))))) (.cons (.name (.tail _ (.tail _ (.tail _ (.tail _ (.tail _ (.head _))))))) .nil))) (.tuple (.cons (.list .nil) (.cons (.name (.tail _ (.tail _ (.tail _ (.tail _ (.head _)))))) .nil))) (.net (n := 2) (.cons (eqFmD (gs := []) (by rw [hL])) (.cons (eqFmD (by rw [hL])) .nil)))) (by simp)) .or_nil)) .nil
  apply SeqT.next
  apply ExT.cons
  · exact .unpk (.fn B (f_filled (k := k) B T N K F hsA hlA) (.cons (.to (.slice (.name (.head _)) .none (.some (.name (.tail _ (.tail _ (.head _))))) (.list (by rw [List.length_map, sizeLine_eq]; omega)) slot_list_getitem.lookup) (d' := fmD (fs.take place)) (by rw [cutOf_upto _ (by omega)]; unfold fmD; rw [List.map_take]; rfl)) (.cons (.name (.tail _ (.head _))) .nil))) (.cons (.new (by repeat (first | exact App.nil | apply App.cons)) (by kernel_rfl)) (.cons (.new (by repeat (first | exact App.nil | apply App.cons)) (by kernel_rfl)) .nil))
  apply SeqT.next
  apply ExT.cons
  · exact .unpk (.fn B (f_filled (k := k) B T N K F hsB hlB (room := (fill (fs.take place) room).room)) (.cons (.to (.slice (.name (.head _)) (.some (.name (.tail _ (.tail _ (.head _))))) .none (.list (by rw [List.length_map, sizeLine_eq]; omega)) slot_list_getitem.lookup) (d' := fmD (fs.drop place)) (by rw [cutOf_from _ (by omega)]; unfold fmD; rw [List.map_drop]; rfl))
      (.cons (.to (.bin (.name (.tail _ (.head _))) (.builtin B N.sum (by kernel_rfl) (.cons (.to (.comp (.list (.name (.tail _ (.tail _ (.tail _ (.tail _ (.tail _ (.tail _ (.head _))))))))) (.none (by decide +kernel) (by decide +kernel) rfl (by decide +kernel) rfl)
      (fun C => .mapAll (g := fun (f : Fm) => D.int f.size) (fun f hf σ => .fn B ((f_law_size (k := 0) B T N (hfA f hf).small).mono (by omega)) (.cons (.name (.head _)) .nil))) (by rw [List.length_map, sizeLine_eq]; omega) (Nat.le_refl _) (fun τ n => frz_map fun _ _ => .int _))
      (by rw [List.map_map]; rfl)) .nil) (.psum (ns := (fill (fs.take place) room).tk.map fun f => (f.size : Int)))) .sub) (d' := .int ((fill (fs.take place) room).room : Nat)) (by rw [sum_tot]; congr 1; omega)) .nil))) (.cons (.new (by repeat (first | exact App.nil | apply App.cons)) (by kernel_rfl)) (.cons (.new (by repeat (first | exact App.nil | apply App.cons)) (by kernel_rfl)) .nil))
  apply SeqT.next
  apply ExT.cons
  · exact .ifF (.or_f (.to (.cmp (.to (.bin (.name (.tail _ (.tail _ (.tail _ (.tail _ (.tail _ (.tail _ (.head _)))))))) (.name (.tail _ (.tail _ (.tail _ (.tail _ (.tail _ (.tail _ (.tail _ (.tail _ (.head _)))))))))) (.addl (by rw [List.length_map, List.length_map, sizeLine_eq]; omega))) (d' := fmD (fill fs room).tk) (by rw [happ]; simp [fmD])) (.name (.tail _ (.tail _ (.tail _ (.head _))))) (.nel (eqFms_self _))) (by simp))
      (.or_f (.to (.cmp (.to (.bin (.name (.tail _ (.tail _ (.tail _ (.tail _ (.tail _ (.tail _ (.tail _ (.head _))))))))) (.name (.tail _ (.tail _ (.tail _ (.tail _ (.tail _ (.tail _ (.tail _ (.tail _ (.tail _ (.head _))))))))))) (.addl (by rw [List.length_map, List.length_map, sizeLine_eq]; omega))) (d' := fmD (fill fs room).lf) (by rw [happ]; simp [fmD])) (.name (.tail _ (.tail _ (.tail _ (.tail _ (.head _)))))) (.nel (eqFms_self _))) (by simp)) .or_nil)) .nil
  apply SeqT.next
  apply ExT.cons
  · exact .assignComp (.list (.name (.head _))) (.none (by decide +kernel) (by decide +kernel) rfl (by decide +kernel) rfl)
      (fun C => .filter (p := fun f => !f.isData) (g := Fm.toD) (fun f hf σ => .to (.cmp (.kind (.name (.head _))) (.tuple (.cons .str (.cons .str .nil))) (.ninstr (ys := ["crypto", "stream"]))) (by rw [f.kind_data])) (fun f hf σ => .name (.head _)))
      (by rw [List.length_map, sizeLine_eq]; omega) (Nat.le_refl _) (fun τ n => frz_map fun f _ => f.frz) (.new (by repeat (first | exact App.nil | apply App.cons)) (by kernel_rfl))
  apply SeqT.next
  apply ExT.cons
  · exact .ret (.ifT (.to (.cmp (.fn B (f_filled (k := k) B T N K F hsP hlP) (.cons (.name (.tail _ (.tail _ (.tail _ (.tail _ (.tail _ (.tail _ (.tail _ (.tail _ (.tail _ (.tail _ (.head _)))))))))))) (.cons (.name (.tail _ (.head _))) .nil))) (.fn B ((f_taken_and_left (k := k) B T N K F (fun f hf => (hsP f hf).small) hlP).mono (by omega)) (.cons (.name (.tail _ (.tail _ (.tail _ (.tail _ (.tail _ (.tail _ (.tail _ (.tail _ (.tail _ (.tail _ (.head _)))))))))))) (.cons (.name (.tail _ (.head _))) .nil)))
      (.eqt (n := 2) (.cons (eqFmD (by rw [hP])) (.cons (eqFmD (by rw [hP])) .nil)))) (by simp)) (.name (.tail _ (.tail _ (.tail _ (.tail _ (.head _)))))))
  exact .ret
end
end Mine
open PySem PySem.W PyProof.Rows PySem.Calls PySem.Spec
namespace Mine
/-- frames of the law: fine, and with little data -/
def good (f : Fm) : Prop := f.fine ∧ f.data.length ≤ 67
theorem good.size {f : Fm} (h : good f) : f.size ≤ 74 := by
  obtain ⟨_, h⟩ := h
  cases f with
  | ping => rw [size_ping]; omega
  | maxData n => have := vsize_le n; rw [size_maxData]; omega
  | retire n => have := vsize_le n; rw [size_retire]; omega
  | crypto o d => have h : d.length ≤ 67 := h; have := vsize_le o; have := vsize_le d.length; rw [size_crypto]; omega
  | stream i o d b => have h : d.length ≤ 67 := h; have := vsize_le o; have := vsize_le i; have := vsize_le d.length; rw [size_stream]; split <;> omega
theorem withData_data {f : Fm} (h : f.isData = true) (m : Nat) (e : List UInt8) (b : Bool) : (f.withData m e b).data = e := by cases f <;> first | rfl | cases h
theorem cut_good {f : Fm} {r : Nat} (h : good f) : ∀ p, (f.cut r).2 = some p → good p := by
  intro p hp
  refine ⟨(Fm.cut_fine h.1).2 p hp, ?_⟩
  unfold Fm.cut at hp
  split at hp
  · cases hp
  split at hp
  · cases hp; exact h.2
  rename_i hd
  split at hp
  · cases hp; exact h.2
  split at hp
  · cases hp; exact h.2
  · cases hp
    rw [withData_data (by simpa using hd), List.length_drop]
    have := h.2; omega
theorem fill_good : ∀ (l : List Fm) (r : Nat), (∀ f ∈ l, good f) → ∀ f ∈ (fill l r).lf, good f
  | [], r, _ => fun _ h => nomatch h
  | f :: l, r, h => by
    rw [fill_cons]
    have ih := fill_good l (r - (f.cut r).1.elim 0 Fm.size) fun g hg => h g (List.mem_cons_of_mem _ hg)
    exact fun p hp => (List.mem_append.mp hp).elim (fun hp => cut_good (h f List.mem_cons_self) p (by simpa using hp)) (ih p)
theorem tot_le : ∀ (l : List Fm), (∀ f ∈ l, good f) → tot l ≤ 74 * l.length
  | [], _ => by simp [tot]
  | f :: l, h => by
    have h1 := (h f List.mem_cons_self).size
    have h2 := tot_le l fun g hg => h g (List.mem_cons_of_mem _ hg)
    rw [show tot (f :: l) = f.size + tot l by simp [tot], List.length_cons]; omega
theorem lframe_good (ns : List Int) (i : Nat) {a : Nat} (ha : a ≤ 20) : good (lframe ns i a) := by
  have h1 := llen_lt ns i
  have h2 := tk_lt ns (i + 1) (m := 10) (by decide)
  have h3 := tk_lt ns (i + 3) (m := 4) (by decide)
  have h4 : (ldata a (llen ns i)).length = llen ns i := by simp [ldata]
  unfold lframe
  split
  · exact ⟨trivial, by decide⟩
  split
  · exact ⟨show _ < 16384 by omega, by simp [Fm.data]⟩
  split
  · exact ⟨show _ + _ < 16384 by rw [h4]; omega, show (ldata a (llen ns i)).length ≤ 67 by rw [h4]; omega⟩
  split
  · refine ⟨⟨by omega, ?_⟩, show (ldata a (llen ns i)).length ≤ 67 by rw [h4]; omega⟩
    rw [h4]
    rcases (by omega : tk ns (i + 3) 4 / 2 = 0 ∨ tk ns (i + 3) 4 / 2 = 1) with e | e <;> rw [e] <;> omega
  · exact ⟨show _ < 16384 by omega, by simp [Fm.data]⟩
/-- what the law keeps: how many numbers were asked for, the frames that wait, how many frames were made -/
structure LS where
  i : Nat
  fs : List Fm
  n : Nat
def putStep (ns : List Int) (s : LS) (_ : Nat) : LS := ⟨s.i + 4, s.fs ++ [lframe ns s.i s.n], s.n + 1⟩
def puts (ns : List Int) (s : LS) (t : Nat) : LS := (List.range (2 - t + tk ns s.i 2)).foldl (putStep ns) ⟨s.i + 1, s.fs, s.n⟩
def roomOf (ns : List Int) (i : Nat) : Nat := 1 + tk ns i 30 + if tk ns (i + 1) 4 = 0 then 58 else 0
def turnStep (ns : List Int) (s : LS) (t : Nat) : LS := ⟨(puts ns s t).i + 3, (fill (puts ns s t).fs (roomOf ns (puts ns s t).i)).lf, (puts ns s t).n⟩
theorem put_fold (ns : List Int) : ∀ (l : List Nat) (s : LS), (∀ f ∈ s.fs, good f) → s.n + l.length ≤ 20 →
    (∀ f ∈ (l.foldl (putStep ns) s).fs, good f) ∧ (l.foldl (putStep ns) s).i = s.i + 4 * l.length ∧ (l.foldl (putStep ns) s).n = s.n + l.length ∧ (l.foldl (putStep ns) s).fs.length = s.fs.length + l.length
  | [], s, h, _ => ⟨h, rfl, rfl, rfl⟩
  | t :: l, s, h, hn => by
    rw [List.length_cons] at hn
    obtain ⟨h1, h2, h3, h4⟩ := put_fold ns l (putStep ns s t) (fun f hf => (List.mem_append.mp hf).elim (h f) fun hf => by rw [List.mem_singleton.mp hf]; exact lframe_good ns _ (by omega)) (by show s.n + 1 + l.length ≤ 20; omega)
    rw [List.foldl_cons]
    refine ⟨h1, ?_, ?_, ?_⟩
    · rw [h2, List.length_cons]; show s.i + 4 + _ = _; omega
    · rw [h3, List.length_cons]; show s.n + 1 + _ = _; omega
    · rw [h4, List.length_cons]; show (s.fs ++ [_]).length + _ = _; rw [List.length_append]; simp; omega
theorem puts_char (ns : List Int) (s : LS) {t : Nat} (h : ∀ f ∈ s.fs, good f) (hn : s.n ≤ 10) : (∀ f ∈ (puts ns s t).fs, good f) ∧ (puts ns s t).i ≤ s.i + 13 ∧ (puts ns s t).n ≤ s.n + 3 ∧ (puts ns s t).fs.length ≤ s.fs.length + 3 := by
  have h0 := tk_lt ns s.i (m := 2) (by decide)
  obtain ⟨h1, h2, h3, h4⟩ := put_fold ns (List.range (2 - t + tk ns s.i 2)) ⟨s.i + 1, s.fs, s.n⟩ h (by rw [List.length_range]; show s.n + _ ≤ 20; omega)
  rw [List.length_range] at h2 h3 h4
  refine ⟨h1, ?_, ?_, ?_⟩
  · unfold puts; rw [h2]; show s.i + 1 + _ ≤ _; omega
  · unfold puts; rw [h3]; show s.n + _ ≤ _; omega
  · unfold puts; rw [h4]; show s.fs.length + _ ≤ _; omega
end Mine
open PySem PySem.W PyProof.Rows PySem.Calls PySem.Spec
set_option maxRecDepth 100000
set_option maxHeartbeats 8000000
namespace Mine
section
variable {prog : Program} {w : World} {hb : Heap} {mg mb : Str → Option Value} {k n₀ : Nat} {σ σ₁ σ₂ : List C} {env : Env} {ρ : List (Str × D)}
theorem f_law (B : Base hb mg mb) (T : Defs hb mg) (N : Bare mg) (K : Consts hb mg) (F : NF prog w hb mg) {script : List Int} (hl : script.length ≤ 1000) :
    Fn prog w hb mg (k + 11) "law" [.list (script.map D.int)] [] (.bool true) := by
  have hns : (script.take 34).length ≤ 1000 := by rw [List.length_take]; omega
  generalize hN : script.take 34 = ns at hns
  refine Fn.intro (n := 26) T rfl B ["script"] (fun pm code doc vs h => by match vs, h with | [a0], _ => rfl) rfl (by decide +kernel) (fun n x hx => .inl (by revert x hx; decide +kernel)) (fun n p hp => nomatch (show p ∈ [] from hp)) rfl rfl rfl (fun a code L => ?_)
  dsimp only
  apply Exists.intro
  apply And.intro
  rotate_left
  · exact .mk (σ₁ := bx ns (((List.range 2).foldl (turnStep ns) ⟨0, [], 0⟩).i)) (.bool _)
  apply ExT.cons (o₁ := .next [("script", .list (script.map D.int)), ("many", .int (0 : Nat)), ("waiting", fmD []), ("box", .ref 0)] (bx ns 0))
  · exact .swp (names := ["box", "waiting", "many"]) (.tuple (.cons (.mlist (.cons (.type B N.list (by kernel_rfl) (.cons (.to (.slice (.name (.head _)) .none (.some .int) (.list (by rw [List.length_map, sizeLine_eq]; omega)) slot_list_getitem.lookup) (d' := .list (ns.map D.int))
        (by rw [cutOf_upto _ (by omega), ← hN, List.map_take]; rfl)) .nil) (.listl (by rw [List.length_map, sizeLine_eq]; omega))) (.cons .int .nil))) (.cons (.list .nil) (.cons .int .nil)))) (.cons (.new (by repeat (first | exact App.nil | apply App.cons)) (by kernel_rfl)) (.cons (.new (by repeat (first | exact App.nil | apply App.cons)) (by kernel_rfl)) (.cons (.new (by repeat (first | exact App.nil | apply App.cons)) (by kernel_rfl)) .nil)))
  apply SeqT.next
  have hfold : ∀ (l : List Nat) (s : LS), (∀ f ∈ s.fs, good f) → s.n + 3 * l.length ≤ 6 → s.fs.length + 3 * l.length ≤ 6 → (∀ f ∈ (l.foldl (turnStep ns) s).fs, good f) ∧ (l.foldl (turnStep ns) s).fs.length ≤ 6 := by
    intro l
    induction l with
    | nil => exact fun s h _ h2 => ⟨h, by simpa using h2⟩
    | cons t l ih =>
      intro s h h1 h2
      rw [List.length_cons] at h1 h2
      obtain ⟨g1, g2, g3, g4⟩ := puts_char ns s (t := t) h (by omega)
      have hgl := (fill_len (puts ns s t).fs (roomOf ns (puts ns s t).i)).2
      exact ih (turnStep ns s t) (fill_good _ _ g1) (by show (puts ns s t).n + _ ≤ _; omega) (by show (fill _ _).lf.length + _ ≤ _; omega)
  apply ExT.cons (o₁ := .next [("script", .list (script.map D.int)), ("many", .int (((List.range 2).foldl (turnStep ns) ⟨0, [], 0⟩).n : Nat)), ("waiting", fmD ((List.range 2).foldl (turnStep ns) ⟨0, [], 0⟩).fs), ("box", .ref 0)] (bx ns (((List.range 2).foldl (turnStep ns) ⟨0, [], 0⟩).i)))
  · refine .for (.to (.range1 (n := 2) B N.range .int (by decide)) (upTo_range _)) (.fold (fun s => [("script", .list (script.map D.int)), ("many", .int (s.n : Nat)), ("waiting", fmD s.fs), ("box", .ref 0)]) (fun s => bx ns s.i) (turnStep ns)
      (fun l s => (∀ t ∈ l, t ≤ 1) ∧ s.i + 16 * l.length ≤ 100 ∧ s.n + 3 * l.length ≤ 6 ∧ s.fs.length + 3 * l.length ≤ 6 ∧ ∀ f ∈ s.fs, good f) (fun s t l hI => ?_) (List.range 2) ⟨0, [], 0⟩ ⟨by intro t ht; have := List.mem_range.mp ht; omega, by simp, by simp, by simp, fun _ h => nomatch h⟩)
    obtain ⟨h1, h2, h3, h4, h5⟩ := hI
    rw [List.length_cons] at h2 h3 h4
    have ht := h1 t List.mem_cons_self
    obtain ⟨g1, g2, g3, g4⟩ := puts_char ns s (t := t) h5 (by omega)
    have hg := fill_good (puts ns s t).fs (roomOf ns (puts ns s t).i) g1
    have hgl := (fill_len (puts ns s t).fs (roomOf ns (puts ns s t).i)).2
    have hc := tk_lt ns s.i (m := 2) (by decide)
    refine ⟨⟨fun x hx => h1 x (List.mem_cons_of_mem _ hx), by show (puts ns s t).i + 3 + _ ≤ _; omega, by show (puts ns s t).n + _ ≤ _; omega, by show (fill _ _).lf.length + _ ≤ _; omega, hg⟩, _, (.new (by repeat (first | exact App.nil | apply App.cons)) (by kernel_rfl)), ?_⟩
    refine .forgetZ (r := [("turn", .int t), ("room", .int (roomOf ns (puts ns s t).i : Nat))]) (ρ₂ := [("script", .list (script.map D.int)), ("many", .int ((puts ns s t).n : Nat)), ("waiting", fmD (fill (puts ns s t).fs (roomOf ns (puts ns s t).i)).lf), ("box", .ref 0), ("turn", .int t), ("room", .int (roomOf ns (puts ns s t).i : Nat))]) (σ₂ := bx ns ((puts ns s t).i + 3)) ?_ rfl rfl
    apply ExT.cons (o₁ := .next [("script", .list (script.map D.int)), ("many", .int ((puts ns s t).n : Nat)), ("waiting", fmD (puts ns s t).fs), ("box", .ref 0), ("turn", .int t)] (bx ns (puts ns s t).i))
    · refine .for (.to (.range1 (n := 2 - t + tk ns s.i 2) B N.range (.to (.bin (.bin .int (.name (.tail _ (.tail _ (.tail _ (.tail _ (.head _)))))) .sub) (.fi B ((f_law_take (k := k + 9) (m := 2) B T N hns (by omega) (by decide))) (.cons (.name (.tail _ (.tail _ (.tail _ (.head _))))) (.cons .int .nil))) .add) (by congr 1; omega)) (by omega)) (upTo_range _))
        (.fold (fun s => [("script", .list (script.map D.int)), ("many", .int (s.n : Nat)), ("waiting", fmD s.fs), ("box", .ref 0), ("turn", .int t)]) (fun s => bx ns s.i) (putStep ns)
        (fun l s => s.i + 4 * l.length ≤ 200 ∧ s.n + l.length ≤ 50 ∧ s.fs.length + l.length ≤ 50) (fun s u l hI => ?_) (List.range (2 - t + tk ns s.i 2)) ⟨s.i + 1, s.fs, s.n⟩ ⟨by simp; omega, by simp; omega, by simp; omega⟩)
      obtain ⟨k1, k2, k3⟩ := hI
      rw [List.length_cons] at k1 k2 k3
      refine ⟨⟨by show s.i + 4 + _ ≤ _; omega, by show s.n + 1 + _ ≤ _; omega, by show (s.fs ++ [_]).length + _ ≤ _; rw [List.length_append]; simp; omega⟩, _, (.new (by repeat (first | exact App.nil | apply App.cons)) (by kernel_rfl)), .forgetZ (.cons (.assign (.to (.bin (.name (.tail _ (.tail _ (.head _)))) (.list (.cons (.fi B (f_law_frame (k := k + 8) B T N hns (by omega) (by omega)) (.cons (.name (.tail _ (.tail _ (.tail _ (.head _))))) (.cons (.name (.tail _ (.head _))) .nil))) .nil)) (.addl (by rw [List.length_map, sizeLine_eq]; simp; omega)))
          (d' := fmD (s.fs ++ [lframe ns s.i s.n])) (by simp [fmD])) (.put (.miss (.miss .hit)))) (.next (.one (.assign (.to (.bin (.name (.tail _ (.head _))) .int .add) (d' := .int ((s.n + 1 : Nat) : Int)) rfl) (.put (.miss .hit))) .end))) rfl rfl⟩
    apply SeqT.next
    apply ExT.cons
    · exact .assign (.to (.bin .int (.fi B (f_law_take (k := k + 9) (m := 30) B T N hns (by omega) (by decide)) (.cons (.name (.tail _ (.tail _ (.tail _ (.head _))))) (.cons .int .nil))) .add) (d' := .int ((1 + tk ns (puts ns s t).i 30 : Nat) : Int)) (by congr 1)) (.new (by repeat (first | exact App.nil | apply App.cons)) (by kernel_rfl))
    apply SeqT.next
    apply ExT.cons
    · exact .assign (.to (.bin (.name (.tail _ (.tail _ (.tail _ (.tail _ (.tail _ (.head _))))))) (.bin .int (.type B N.int (by kernel_rfl) (.cons (.cmp (.fi B (f_law_take (k := k + 9) (m := 4) B T N hns (by omega) (by decide)) (.cons (.name (.tail _ (.tail _ (.tail _ (.head _))))) (.cons .int .nil))) .int .eqi) .nil) .intb) (.mul (.of_left (by decide)))) .add) (d' := .int (roomOf ns (puts ns s t).i : Nat)) (by
        congr 1
        unfold roomOf
        by_cases h : tk ns ((puts ns s t).i + 1) 4 = 0
        · rw [if_pos h, if_pos (by rw [h]; rfl)]; omega
        · rw [if_neg h, if_neg (by simpa using h)]; omega)) (.put (.miss (.miss (.miss (.miss (.miss .hit))))))
    apply SeqT.next
    apply ExT.cons
    · exact .assign (.fn B (f_law_is_turn (k := k) B T N K F (fun f hf => (g1 f hf).1) (by omega) (room := roomOf ns (puts ns s t).i) (place := 1 + tk ns ((puts ns s t).i + 2) (max 1 ((puts ns s t).fs.length - 1))) (by have := tk_lt ns ((puts ns s t).i + 2) (m := max 1 ((puts ns s t).fs.length - 1)) (by omega); omega))
        (.cons (.name (.tail _ (.tail _ (.head _)))) (.cons (.name (.tail _ (.tail _ (.tail _ (.tail _ (.tail _ (.head _))))))) (.cons (.to (.bin .int (.fi B (f_law_take (k := k + 9) (m := max 1 ((puts ns s t).fs.length - 1)) B T N hns (by omega) (by omega)) (.cons (.name (.tail _ (.tail _ (.tail _ (.head _))))) (.cons (.to (.builtin B N.max (by kernel_rfl) (.cons .int (.cons (.bin (.builtin B N.len (by kernel_rfl) (.cons (.name (.tail _ (.tail _ (.head _)))) .nil) (.lenl (by rw [List.length_map]; omega))) .int .sub) .nil)) .pmax)
          (by rw [List.length_map]; congr 1; split <;> omega)) .nil))) .add) (by congr 1)) .nil)))) (.put (.miss (.miss .hit)))
    apply SeqT.next
    apply ExT.cons
    · exact .ifF (.to (.cmp (.name (.tail _ (.tail _ (.head _)))) .none .isn) rfl) .nil
    exact .next .nil
  obtain ⟨e1, e2⟩ := hfold (List.range 2) ⟨0, [], 0⟩ (fun _ h => nomatch h) (by simp) (by simp)
  have e3 := tot_le _ e1
  have e4 := fill_all _ 800 (Nat.le_trans e3 (by omega))
  apply SeqT.next
  apply ExT.cons
  · exact .ret (.to (d' := .bool true) (.cmp (.fn B (f_filled (k := k + 1) (room := 800) B T N K F (fun f hf => (e1 f hf).1) (by omega)) (.cons (.name (.tail _ (.tail _ (.head _)))) (.cons .int .nil))) (.tuple (.cons (.name (.tail _ (.tail _ (.head _)))) (.cons (.list .nil) .nil))) (.eqt (n := 2) (.cons (eqFmD (by rw [e4])) (.cons (eqFmD (gs := []) (by rw [e4])) .nil)))) (by simp))
  exact .ret
end
end Mine
open PySem PySem.W PyProof.Rows PySem.Calls PySem.Spec
set_option maxRecDepth 100000
set_option maxHeartbeats 8000000
namespace Mine
section
variable {prog : Program} {w : World} {loose : List Str} {mean : ExcName → Option Value} {mg mb : Str → Option Value} {h : Heap}
theorem base_of (T : Top qv loose mean mg mb h) : Base h mg mb := ⟨T.g, T.b, T.nolimit, T.builtins⟩
theorem defs_of (T : Top qv loose mean mg mb h) : Defs h mg := fun n d e => by
  obtain ⟨a, o, pm, code, doc, h1, h2, h3, h4⟩ := T.fn d (List.mem_of_getElem? e)
  exact ⟨a, o, pm, code, doc, h1, h2, h3, h4⟩
/-- what the names of the module stand for, read off the heap -/
theorem main_of (T : Top qv loose mean mg mb h) (KX : (Ks w.params).In h) {o : Obj} {es : Array DictEntry} {n : Nat} (ho : (Ks w.params).lookup mainGlobals = some o) (hd : o.data = .dict es n) : ∀ x, mg x = nsFind es x := by
  obtain ⟨o', es', ep, h1, h2, _, h3⟩ := T.g
  rw [KX _ _ ho] at h1
  cases h1
  rw [hd] at h2
  cases h2
  exact fun x => (h3 x).symm
theorem facts_of (T : Top qv loose mean mg mb h) (KX : (Ks w.params).In h) : Bare mg ∧ Consts h mg ∧ NF prog w h mg := by
  have M := main_of T KX (by with_unfolding_all rfl) (by with_unfolding_all rfl)
  refine ⟨⟨?_, ?_, ?_, ?_, ?_, ?_, ?_, ?_, ?_, ?_⟩, ⟨?_, ?_, ?_, ?_, ?_, ?_, ?_⟩, ⟨?_⟩⟩
  iterate 10 (· exact (M _).trans (by kernel_rfl))
  · exact ⟨35, (M _).trans (by kernel_rfl), 278, 279, 280, 281, 0, KX 35 _ (by with_unfolding_all rfl)⟩
  · exact ⟨.ref 126, (M _).trans (by kernel_rfl), .tuple (vs := [.str "crypto" 435, .str "stream" 436]) ⟨_, KX 126 _ (by with_unfolding_all rfl), rfl, _, rfl⟩ List.not_mem_nil (.cons (.str _ _) (.cons (.str _ _) .nil))⟩
  · exact ⟨_, (M _).trans (by with_unfolding_all rfl), .int _ _⟩
  · exact ⟨_, (M _).trans (by with_unfolding_all rfl), .int _ _⟩
  · exact ⟨_, (M _).trans (by with_unfolding_all rfl), .int _ _⟩
  · exact ⟨_, (M _).trans (by with_unfolding_all rfl), .int _ _⟩
  · exact ⟨_, (M _).trans (by with_unfolding_all rfl), .int _ _⟩
  · refine ⟨57, _, (M _).trans (by kernel_rfl), by decide, mapOf_K KX (by with_unfolding_all rfl) ?_, ⟨_, by with_unfolding_all rfl⟩, ⟨_, by with_unfolding_all rfl⟩, ⟨_, by with_unfolding_all rfl⟩, by with_unfolding_all rfl, by with_unfolding_all rfl⟩
    repeat (first | exact trivial | refine ⟨⟨_, _, rfl, rfl⟩, ?_⟩)
end
end Mine
open PySem PySem.W PyProof.Rows PySem.Calls PySem.Spec
set_option maxRecDepth 100000
set_option maxHeartbeats 8000000
namespace Mine
theorem rv_of_ints {h : Heap} {α : List Addr} {vs : List Value} {ns : List Int} (hI : IntsAre vs ns) : RvAll h α vs (ns.map D.int) := by
  induction hI with
  | nil => exact .nil
  | cons i t _ ih => exact .cons (.int _ _) ih
theorem lawHolds : PySem.Challenge.rw_tk0096_01.Holds := by
  w_on; o_law
  refine holds_clean (q := qv) (loose := looseS) (Xt := XtS) (XP := XL qv []) (Yf := Hook.obs HkS) (Ya := Hook.val HkS) (YP := Hook.says HkS) (N := 3224) leftP (Hook.of HkS) (Hook.keeps HkS) (fun s e => xl_of s (Bool.and_eq_true_iff.mp e).1) XL.keeps (by rfl) (by rfl) (by rfl) (fun s e => recFacts_of (Bool.and_eq_true_iff.mp e).2) (by rfl) (by first | assumption | decide +kernel) (by decide +kernel) ⟨rfl, rfl, rfl, rfl, rfl, by decide +kernel⟩ ?hw ?hc
  case hw => w_witness2
  intro w s₀ s₁ mg mb G Y fa o pm cd doc dV kV ho hd hcd hD hmg hg args vals as hpre hlay hrd hwl hlo
  have KX := kIn_of Y
  have T := G.T
  obtain ⟨N, K, F⟩ := facts_of (prog := PySem.Challenge.rw_tk0096_01.row.toRowW.prog) T KX
  have B := base_of T
  have Ds := defs_of T
  wrow_args hpre hlay hrd hwl hlo
  rename_i ns hs hlay0 hl1 hr1 hl2 bs cs L vs ds hL ra hwell r0 hI hr hc1 hc0
  clear hd hcd hD
  obtain ⟨a, f, e1, e2, hf⟩ := f_law (prog := PySem.Challenge.rw_tk0096_01.row.toRowW.prog) (w := w) (k := 0) B Ds N K F (script := ns) (by omega)
  have e0 : mg "law" = some (.ref fa) := hmg
  rw [e0] at e1
  cases e1
  have S : St s₁.heap [] [] s₁.heap := ⟨fun _ _ e => e, (fun _ h => nomatch h), .nil, rfl, fun n a c h => by simp at h⟩
  refine wpR_mono (hf callerA [] s₁ [.ref L] ⟨rfl, by decide +kernel, by decide +kernel⟩ S (.cons (.list hL List.not_mem_nil (rv_of_ints hI)) .nil)) (fun v s' q => ?_) fun _ _ f => f
  obtain ⟨k, r⟩ := q
  obtain rfl := rv_bool r
  obtain ⟨h', tk, rfl⟩ := k.same
  exact GoodW.toG ⟨.inl ⟨.bool true, .bool true, [], rfl, fun _ => rfl, .bool _, (by wrow_post), fun _ => ⟨List.Pairwise.nil, fun _ h => nomatch h⟩⟩, k.keep, rfl, hg⟩
end Mine
theorem PySem.Challenge.cw_tk0096_01_holds : PySem.Challenge.rw_tk0096_01.Holds := by
  exact Mine.lawHolds
